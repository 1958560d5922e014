/- Walk of the reference: Valid, for coefficients of arbitrary words (eliminantref07). -/
import Derived.Test.YtlklgeidffjidaaGreatMUnivariateRing6
import Derived.ProofKit
import Derived.OpenShut
import Derived.ShutString
import Derived.ChangeOld
import Derived.SizedLaws
import Derived.Lib.SmallJoins
import Derived.Deep.Slices
import Derived.Test.YtlklgeidffjidaaGreatRows
import Derived.Below
namespace Go.Proofs.YtlklgeidffjidaaGreat
open Go.RowKit
set_option linter.unusedSimpArgs false

set_option maxRecDepth 100000 in
set_option maxHeartbeats 2000000 in
theorem p_valid (A : Option Addr) (n c : Nat) (l : List Raw4) (w : World) (hA : RawsAt w A l) (hn : n = l.length) (hc : n ≤ c) (hl : n ≤ 1099511627776) :
    Calls Tryz.prog 14 #[.slice A n c] w fun e w' => e = .returned (.bool (uvalid l)) ∧ Below w.heap.size w w' := by
  have HF : ∀ i, i < n → Hid ((l.getD i .nil).ok = false → uvalid l = false) := fun i hi => Lib.hid (fun h => uvalid_false (by omega) h)
  have HT : Hid ((∀ j, j < n → (l.getD j .nil).ok = true) → uvalid l = (decide (l = []) || decide (val (l.getD (l.length - 1) .nil).xs ≠ 0))) := Lib.hid (fun h => by
    unfold uvalid; rw [all_ok (fun j hj => h j (by omega)), Bool.true_and])
  have Hn := Lib.hid hn
  have hb0 : Below w.heap.size w w := Below.refl _ _
  generalize uvalid l = U at *
  clear hn
  go_enter Tryz.func14, Tryz.ntmps14
  go_wp2_with fail
  go_loopw [3] (fun s3 wr => ∃ i : Nat, i ≤ n ∧ s3 = .int .i64 (i : Int) ∧ (∀ j, j < i → (l.getD j .nil).ok = true) ∧ Below w.heap.size w wr) (fun i _ => n - (intOf i).toNat)
  case atStart => exact ⟨0, Nat.zero_le _, rfl, fun j a => by omega, hb0⟩
  case round =>
    obtain ⟨i, hi, rfl, hz, hBW⟩ := hrel
    by_cases h0 : i < n
    · obtain ⟨hx, hy, b, off, rfl, h⟩ := (hA.below hBW) i (by rw [← Hn.out]; exact h0)
      have hF := HF i h0
      have hlt := h.lt
      clear HT HF
      obtain ⟨A1, n1, c1, B1, m1, d1, h1, h2, h3, h4, h5, h6, h7, h8, h9, h10⟩ := h
      have hV := fun W (hW : Below wr.heap.size wr W) => q_valid A1 B1 n1 c1 m1 d1 (l.getD i .nil).s (l.getD i .nil).t _ _ W (h5.below hW) (h8.below hW) h6 h9 h7 h10 hx hy
      have e : rvalid (l.getD i .nil).s (l.getD i .nil).xs (l.getD i .nil).t (l.getD i .nil).ys = (l.getD i .nil).ok := rfl
      rw [e] at hV
      clear e h5 h6 h7 h8 h9 h10 hx hy
      generalize (l.getD i .nil).s = s at *
      generalize (l.getD i .nil).t = t at *
      by_cases hok : (l.getD i .nil).ok = true
      · have Hok := Lib.hid hok
        rw [hok] at hV
        clear hok hF
        go_wp2_with fail
        refine (hV _ (Below.refl _ _)).mono ?_
        rintro e w1 ⟨rfl, hb⟩
        have hBW := hBW.trans (hb.mono hBW.size)
        go_wp2_with fail
        go_roundw
        case measure => simp [intOf]; omega
        case rel => exact ⟨i + 1, h0, by go_num, fun j a => by
          by_cases hj : j = i
          · rw [hj]; exact Hok.out
          · exact hz j (by omega), hBW⟩
      · have hok : (l.getD i .nil).ok = false := by simpa using hok
        rw [hok] at hV
        have hF := Lib.hid (hF.out hok)
        clear hok
        go_wp2_with fail
        refine (hV _ (Below.refl _ _)).mono ?_
        rintro e w1 ⟨rfl, hb⟩
        have hBW := hBW.trans (hb.mono hBW.size)
        go_wp2_with fail
        go_ret
        exact ⟨by rw [hF.out]; rfl, hBW⟩
    · have hin : i = n := by omega
      subst hin
      have hT := Lib.hid (HT.out hz)
      clear HT HF
      by_cases hn0 : i = 0
      · subst hn0
        have : l = [] := List.eq_nil_of_length_eq_zero Hn.out.symm
        subst this
        go_wp2_with fail
        go_ret
        exact ⟨by rw [hT.out]; rfl, hBW⟩
      · have hj : l.length - 1 < l.length := by have := Hn.out; omega
        obtain ⟨_, _, b, off, hAe, h⟩ := (hA.below hBW) (l.length - 1) hj
        subst hAe
        have hok := hz (l.length - 1) (by rw [Hn.out]; exact hj)
        have hR := h.rat hok
        rw [← Hn.out] at hR
        have hq : (cmpI (rawq (l.getD (i - 1) .nil)).num 0 = 0) ↔ val (l.getD (l.length - 1) .nil).xs = 0 := by
          rw [Hn.out, (rawq_parts hok).1]
          exact sgn_num
        have HL : Hid (l ≠ []) := Lib.hid (fun e => by rw [e] at Hn; exact hn0 Hn.out)
        have HQ := Lib.hid hq
        clear hq h hok hj
        generalize rawq (l.getD (i - 1) .nil) = q at *
        have hcc : (cmpI q.num 0 != 0) = U := by
          rw [hT.out, decide_eq_false HL.out, Bool.false_or, Bool.eq_iff_iff]
          simp only [bne_iff_ne, ne_eq, decide_eq_true_eq]
          exact not_congr HQ.out
        obtain ⟨k, rfl⟩ : ∃ k, i = k + 1 := ⟨i - 1, by omega⟩
        rw [Nat.add_sub_cancel] at hR
        obtain ⟨s2, A2, n2, c2, t2, B2, m2, d2, h1, h2, h3, h4, h5⟩ := hR
        have hSg := q_sign _ q wr h5.is
        generalize cmpI q.num 0 = cc at *
        have Hcc := Lib.hid hcc
        clear hT hcc h5
        have e0 : ((k : Int) + 1 == 0) = false := by simp; omega
        go_wp2_with fail
        refine hSg.mono ?_
        rintro e w2 ⟨rfl, hb2⟩
        have hBW := hBW.trans (hb2.mono hBW.size)
        go_wp2_with fail
        go_ret
        refine ⟨?_, hBW⟩
        show Ending.returned (.bool ((k : Int) + 1 == 0 || cc != 0)) = _
        rw [e0, ← Hcc.out]; rfl

end Go.Proofs.YtlklgeidffjidaaGreat

/- Walks of the reference: Made, Small, Plain (eliminantref07). -/
namespace Go.Proofs.YtlklgeidffjidaaGreat
open Go.RowKit
set_option linter.unusedSimpArgs false

/-- A description of a number: its three fields. -/
structure QRaw where
  n : Int
  d : Int
  k : Int
def QRaw.ok (x : QRaw) : Prop := -128 ≤ x.n ∧ x.n ≤ 127 ∧ -128 ≤ x.d ∧ x.d ≤ 127 ∧ 0 ≤ x.k ∧ x.k ≤ 255
def QRaw.zero : QRaw := ⟨0, 0, 0⟩
def QRaw.rat (x : QRaw) : Rat := rmade x.n x.d x.k
/-- Descriptions in memory. -/
def QRaws (w : World) (A : Option Addr) (l : List QRaw) : Prop := ∀ j, j < l.length → (l.getD j .zero).ok ∧ ∃ b off, A = some ⟨b, off, none⟩ ∧ b < w.heap.size ∧ w.cell? ⟨b, off + j * 3, none⟩ = some (.int .i8 (l.getD j .zero).n) ∧ w.cell? ⟨b, off + j * 3 + 1, none⟩ = some (.int .i8 (l.getD j .zero).d) ∧ w.cell? ⟨b, off + j * 3 + 2, none⟩ = some (.int .u8 (l.getD j .zero).k)
theorem QRaws.below {w w' : World} {A : Option Addr} {l : List QRaw} (h : QRaws w A l) (hb : Below w.heap.size w w') : QRaws w' A l := by
  intro j hj
  obtain ⟨h0, b, off, e, hlt, h1, h2, h3⟩ := h j hj
  exact ⟨h0, b, off, e, Nat.lt_of_lt_of_le hlt hb.size, cell_below h1 hb, cell_below h2 hb, cell_below h3 hb⟩
def made1 (l : List QRaw) (k : Nat) : List Rat := (l.take k).map QRaw.rat
theorem made1_succ (l : List QRaw) (k : Nat) (h : k < l.length) : made1 l (k + 1) = made1 l k ++ [(l.getD k .zero).rat] := by
  unfold made1
  rw [List.take_succ_eq_append_getElem h, List.map_append]
  simp [List.getD_eq_getElem?_getD, List.getElem?_eq_getElem h]
theorem made1_length (l : List QRaw) (k : Nat) (h : k ≤ l.length) : (made1 l k).length = k := by simp [made1]; omega
/-- What Made makes of a description. -/
def pmade (l : List QRaw) (D : Nat) : List Rat := ptrim (made1 l (D + 1))

set_option maxRecDepth 100000 in
set_option maxHeartbeats 2000000 in
theorem p_made (A : Option Addr) (n c D : Nat) (z : Int) (l : List QRaw) (w : World) (hA : QRaws w A l) (hn : n = l.length) (hc : n ≤ c) (hz : z = (D : Int)) (hD : D ≤ 1000) (hl : n ≤ 140737488355328) :
    Calls Tryz.prog 15 #[.slice A n c, .int .i64 z] w fun e w' => (∃ v, e = .returned v ∧ IsNew w.heap.size w' v (pmade l D)) ∧ Below w.heap.size w w' := by
  subst hz
  have HE : ∀ k, k ≤ n → k ≤ D + 1 → (k = n ∨ k = D + 1) → Hid (ptrim (made1 l k) = pmade l D) := fun k h1 h2 h3 => Lib.hid (by
    unfold pmade made1
    rcases h3 with h | h
    · rw [List.take_of_length_le (by omega), List.take_of_length_le (by omega)]
    · rw [h])
  have Hn := Lib.hid hn
  clear hn
  go_enter Tryz.func15, Tryz.ntmps15
  go_wp2_with fail
  go_loopw [5, 6] (fun s5 s6 wr => ∃ (k : Nat), k ≤ n ∧ k ≤ D + 1 ∧ s6 = .int .i64 (k : Int) ∧ IsRow w.heap.size wr s5 (made1 l k) ∧ Below w.heap.size w wr) (fun _ i _ => n - (intOf i).toNat)
  case atStart => exact ⟨0, Nat.zero_le _, Nat.zero_le _, rfl, IsRow.empty w (Nat.le_refl _), below_alloc _ _⟩
  case round =>
    obtain ⟨k, hk, hkD, rfl, hR, hBW⟩ := hrel
    have hML := Lib.hid (made1_length l k (by rw [← Hn.out]; exact hk))
    by_cases hlt : k < n ∧ k ≤ D
    · obtain ⟨hlt, hle⟩ := hlt
      have b1 : decide ((k : Int) < (n : Int)) = true := by simp; omega
      have b2 : decide ((k : Int) ≤ (D : Int)) = true := by simp; omega
      have hkl : k < l.length := by rw [← Hn.out]; exact hlt
      obtain ⟨hok, b, off, rfl, hbl, h1, h2, h3⟩ := (hA.below hBW) k hkl
      have HS := Lib.hid (made1_succ l k hkl)
      have hM := fun W => q_made (l.getD k .zero).n (l.getD k .zero).d (l.getD k .zero).k W hok.1 hok.2.1 hok.2.2.1 hok.2.2.2.1 hok.2.2.2.2.1 hok.2.2.2.2.2
      have e : rmade (l.getD k .zero).n (l.getD k .zero).d (l.getD k .zero).k = (l.getD k .zero).rat := rfl
      rw [e] at hM
      clear e hok
      generalize (l.getD k .zero).rat = q at *
      generalize (l.getD k .zero).n = xn at *
      generalize (l.getD k .zero).d = xd at *
      generalize (l.getD k .zero).k = xk at *
      go_wp2_with fail
      refine (hM _).mono ?_
      rintro e w3 ⟨⟨_, rfl, s3, A3, n3, m3, t3, B3, k3, l3, rfl, hq⟩, hb3⟩
      have hB3 := hBW.trans (hb3.mono hBW.size)
      have hR3 := hR.below hb3
      have hba := below_alloc w3 (.cells #[.bool s3, .slice A3 n3 m3, .bool t3, .slice B3 k3 l3] 31)
      have hB4 := hB3.trans (hba.mono hB3.size)
      obtain ⟨v', w5, hr, hrow, hb5⟩ := (hR3.below hba).push (b := w3.heap.size) (off := 0) (c := 1) hB4.size (hq.below hba) (by simp [go_sem]) (by simp [go_sem]) (by simp [go_sem]) (by simp [go_sem]) 23 Tryz.underlying23 (by rw [hML.out]; omega)
      rw [← HS.out] at hrow
      clear hR hR3
      go_wp2_with (first
        | (at_builtin; refine wpList_append_runs rfl _ _ 23 rfl _ _ rfl rfl hr ?_))
      go_roundw
      case rel => exact ⟨k + 1, hlt, by omega, by go_num, hrow, hB4.trans hb5⟩
      case measure => simp [intOf]; omega
    · have hT := p_trim_new _ _ _ _ hR.isnew (by rw [hML.out]; omega)
      rw [(HE k hk hkD (by omega)).out] at hT
      by_cases hkn : k < n
      · have b1 : decide ((k : Int) < (n : Int)) = true := by simp; omega
        have b2 : decide ((k : Int) ≤ (D : Int)) = false := by simp; omega
        go_wp2_with fail
        refine hT.mono ?_
        rintro e w4 ⟨⟨u, rfl, hu⟩, hb5⟩
        go_wp2
        go_ret
        exact ⟨⟨_, rfl, hu⟩, hBW.trans (hb5.mono hBW.size)⟩
      · have b1 : decide ((k : Int) < (n : Int)) = false := by simp; omega
        go_wp2_with fail
        refine hT.mono ?_
        rintro e w4 ⟨⟨u, rfl, hu⟩, hb5⟩
        go_wp2
        go_ret
        exact ⟨⟨_, rfl, hu⟩, hBW.trans (hb5.mono hBW.size)⟩

/-- Small integers in memory. -/
def I8s (w : World) (A : Option Addr) (l : List Int) : Prop := ∀ j, j < l.length → (-128 ≤ l.getD j 0 ∧ l.getD j 0 ≤ 127) ∧ ∃ b off, A = some ⟨b, off, none⟩ ∧ b < w.heap.size ∧ w.cell? ⟨b, off + j, none⟩ = some (.int .i8 (l.getD j 0))
theorem I8s.below {w w' : World} {A : Option Addr} {l : List Int} (h : I8s w A l) (hb : Below w.heap.size w w') : I8s w' A l := by
  intro j hj
  obtain ⟨h0, b, off, e, hlt, h1⟩ := h j hj
  exact ⟨h0, b, off, e, Nat.lt_of_lt_of_le hlt hb.size, cell_below h1 hb⟩
def small1 (l : List Int) (k : Nat) : List Rat := (l.take k).map (fun z : Int => (z : Rat))
theorem small1_succ (l : List Int) (k : Nat) (h : k < l.length) : small1 l (k + 1) = small1 l k ++ [((l.getD k 0 : Int) : Rat)] := by
  unfold small1
  rw [List.take_succ_eq_append_getElem h, List.map_append]
  simp [List.getD_eq_getElem?_getD, List.getElem?_eq_getElem h]
theorem small1_length (l : List Int) (k : Nat) (h : k ≤ l.length) : (small1 l k).length = k := by simp [small1]; omega

set_option maxRecDepth 100000 in
set_option maxHeartbeats 2000000 in
theorem p_small (A : Option Addr) (n c D : Nat) (z : Int) (l : List Int) (w : World) (hA : I8s w A l) (hn : n = l.length) (hc : n ≤ c) (hz : z = (D : Int)) (hD : D ≤ 1000) (hl : n ≤ D + 1) :
    Calls Tryz.prog 66 #[.slice A n c, .int .i64 z] w fun e w' => (∃ v, e = .returned v ∧ IsNew w.heap.size w' v (ptrim (small1 l l.length))) ∧ Below w.heap.size w w' := by
  subst hz
  have Hn := Lib.hid hn
  rw [← hn]
  clear hn
  go_enter Tryz.func66, Tryz.ntmps66
  go_wp2_with fail
  go_loopw [5, 6] (fun s5 s6 wr => ∃ (k : Nat), k ≤ n ∧ s6 = .int .i64 (k : Int) ∧ IsRow w.heap.size wr s5 (small1 l k) ∧ Below w.heap.size w wr) (fun _ i _ => n - (intOf i).toNat)
  case atStart => exact ⟨0, Nat.zero_le _, rfl, IsRow.empty w (Nat.le_refl _), below_alloc _ _⟩
  case round =>
    obtain ⟨k, hk, rfl, hR, hBW⟩ := hrel
    have hML := Lib.hid (small1_length l k (by rw [← Hn.out]; exact hk))
    by_cases hlt : k < n
    · have b1 : decide ((k : Int) < (n : Int)) = true := by simp; omega
      have b2 : decide ((k : Int) ≤ (D : Int)) = true := by simp; omega
      have hkl : k < l.length := by rw [← Hn.out]; exact hlt
      obtain ⟨hok, b, off, rfl, hbl, h1⟩ := (hA.below hBW) k hkl
      have HS := Lib.hid (small1_succ l k hkl)
      have hM := fun W => q_whole (l.getD k 0) W (by omega) (by omega)
      generalize ((l.getD k 0 : Int) : Rat) = q at *
      generalize l.getD k 0 = xn at *
      obtain ⟨hok1, hok2⟩ := hok
      go_wp2_with fail
      refine (hM _).mono ?_
      rintro e w3 ⟨⟨_, rfl, s3, A3, n3, m3, t3, B3, k3, l3, rfl, hq⟩, hb3⟩
      have hB3 := hBW.trans (hb3.mono hBW.size)
      have hR3 := hR.below hb3
      have hba := below_alloc w3 (.cells #[.bool s3, .slice A3 n3 m3, .bool t3, .slice B3 k3 l3] 31)
      have hB4 := hB3.trans (hba.mono hB3.size)
      obtain ⟨v', w5, hr, hrow, hb5⟩ := (hR3.below hba).push (b := w3.heap.size) (off := 0) (c := 1) hB4.size (hq.below hba) (by simp [go_sem]) (by simp [go_sem]) (by simp [go_sem]) (by simp [go_sem]) 23 Tryz.underlying23 (by rw [hML.out]; omega)
      rw [← HS.out] at hrow
      clear hR hR3
      go_wp2_with (first
        | (at_builtin; refine wpList_append_runs rfl _ _ 23 rfl _ _ rfl rfl hr ?_))
      go_roundw
      case rel => exact ⟨k + 1, hlt, by go_num, hrow, hB4.trans hb5⟩
      case measure => simp [intOf]; omega
    · obtain rfl : k = n := by omega
      have hT := p_trim_new _ _ _ _ hR.isnew (by rw [hML.out]; omega)
      have b1 : decide ((k : Int) < (k : Int)) = false := by simp
      go_wp2_with fail
      refine hT.mono ?_
      rintro e w4 ⟨⟨u, rfl, hu⟩, hb5⟩
      go_wp2
      go_ret
      exact ⟨⟨_, rfl, hu⟩, hBW.trans (hb5.mono hBW.size)⟩

end Go.Proofs.YtlklgeidffjidaaGreat

/- Walk of the reference: Plain (eliminantref07). -/
namespace Go.Proofs.YtlklgeidffjidaaGreat
open Go.RowKit
set_option linter.unusedSimpArgs false

def qcell (x : QRaw) : List Value := [.int .i8 x.n, .int .i8 x.d, .int .u8 x.k]
def qcells (l : List QRaw) : List Value := l.flatMap qcell
theorem qcells_length (l : List QRaw) : (qcells l).length = l.length * 3 := by
  induction l with
  | nil => rfl
  | cons x l ih => simp only [qcells, List.flatMap_cons, List.length_append] at ih ⊢; rw [ih]; simp [qcell]; omega
theorem qcells_nw (l : List QRaw) : ∀ u ∈ qcells l, Nw u := by
  intro u hu z
  simp only [qcells, List.mem_flatMap] at hu
  obtain ⟨x, _, hu⟩ := hu
  simp only [qcell, List.mem_cons, List.not_mem_nil, or_false] at hu
  rcases hu with rfl | rfl | rfl <;> simp
theorem qcells_get (l : List QRaw) (j : Nat) (hj : j < l.length) : (qcells l)[j * 3]? = some (.int .i8 (l.getD j .zero).n) ∧ (qcells l)[j * 3 + 1]? = some (.int .i8 (l.getD j .zero).d) ∧ (qcells l)[j * 3 + 2]? = some (.int .u8 (l.getD j .zero).k) := by
  induction l generalizing j with
  | nil => simp at hj
  | cons x l ih =>
    have e : qcells (x :: l) = qcell x ++ qcells l := by simp [qcells]
    rw [e]
    cases j with
    | zero => simp [qcell]
    | succ j =>
      have := ih j (by simpa using hj)
      have hl : (qcell x).length = 3 := rfl
      refine ⟨?_, ?_, ?_⟩
      · rw [List.getElem?_append_right (by omega), hl, show (j + 1) * 3 - 3 = j * 3 by omega]; simpa using this.1
      · rw [List.getElem?_append_right (by omega), hl, show (j + 1) * 3 + 1 - 3 = j * 3 + 1 by omega]; simpa using this.2.1
      · rw [List.getElem?_append_right (by omega), hl, show (j + 1) * 3 + 2 - 3 = j * 3 + 2 by omega]; simpa using this.2.2
/-- A description that the call builds by append. -/
def IsQRow (B : Nat) (w : World) (v : Value) (l : List QRaw) : Prop := KRow 3 w B 54 v l.length (qcells l)
theorem info_qraw : (Tryz.prog.info? 54).map (fun i => (i.zero, i.size, i.bytes)) = some (some (.agg #[.int .i8 0, .int .i8 0, .int .u8 0]), 3, 3) := by kernel_rfl
theorem IsQRow.empty {B : Nat} (w : World) (hB : B ≤ w.heap.size) : IsQRow B (w.alloc (.cells #[] 54)) (.slice (some ⟨w.heap.size, 0, none⟩) 0 0) [] :=
  ⟨rfl, Or.inr ⟨w.heap.size, 0, #[], rfl, hB, heap_alloc_new w _, Nat.le_refl _, Nat.zero_le _, rfl, rfl, by simp⟩⟩
theorem IsQRow.below {B : Nat} {w w' : World} {v : Value} {l : List QRaw} (h : IsQRow B w v l) (hb : Below w.heap.size w w') : IsQRow B w' v l := KRow.below h hb
theorem IsQRow.allocd {B : Nat} {w : World} {v : Value} {l : List QRaw} {X : Obj} (h : IsQRow B w v l) : IsQRow B (w.alloc X) v l := h.below (below_alloc _ _)
theorem IsQRow.drewn {B : Nat} {w : World} {v : Value} {l : List QRaw} (h : IsQRow B w v l) : IsQRow B w.drew v l := h.below (below_drew' _)
theorem IsQRow.raws {B : Nat} {w : World} {v : Value} {l : List QRaw} (h : IsQRow B w v l) (hok : ∀ j, j < l.length → (l.getD j .zero).ok) : ∃ A c, v = .slice A l.length c ∧ l.length ≤ c ∧ QRaws w A l := by
  obtain ⟨hl, h⟩ := h
  rcases h with ⟨rfl, h0⟩ | ⟨g, cap, cur, rfl, h2, h3, h4, h5, h6, h7, h8⟩
  · rw [h0]; exact ⟨none, 0, rfl, Nat.le_refl _, fun j hj => by omega⟩
  · refine ⟨_, cap, rfl, h4, fun j hj => ⟨hok j hj, g, 0, rfl, (Array.getElem?_eq_some_iff.1 h3).1, ?_⟩⟩
    have hcell : ∀ i u, (qcells l)[i]? = some u → w.cell? ⟨g, i, none⟩ = some u := by
      intro i u hi
      have hil : i < l.length * 3 := by rw [← hl]; exact (List.getElem?_eq_some_iff.1 hi).1
      rw [← h7, List.getElem?_take_of_lt hil, Array.getElem?_toList] at hi
      simp [World.cell?, h3, hi]
    obtain ⟨k1, k2, k3⟩ := qcells_get l j hj
    rw [Nat.zero_add]
    exact ⟨hcell _ _ k1, hcell _ _ k2, hcell _ _ k3⟩
theorem wp_append_qraw {B : Nat} {w : World} {o : Oper} {a : Act} {K : Act → World → Prop} {Q : Exit → Act → World → Prop} (s x : Operand) (t : TypeId)
    (ho : o.op = .call { callee := .builtin .append, args := #[s, x], argTypes := #[t, t] }) (ht : Tryz.prog.underlying t = some (.slice 54)) {v : Value} {l : List QRaw} {b off c : Nat} {n d k : Int}
    (hs : a.eval s = v) (hx : a.eval x = .slice (some ⟨b, off, none⟩) 1 c) (h : IsQRow B w v l) (hB : B ≤ w.heap.size) (c0 : w.cell? ⟨b, off, none⟩ = some (.int .i8 n)) (c1 : w.cell? ⟨b, off + 1, none⟩ = some (.int .i8 d)) (c2 : w.cell? ⟨b, off + 2, none⟩ = some (.int .u8 k))
    (hl : (l.length + 1) * 3 ≤ 140737488355328) (hK : ∀ v' w', IsQRow B w' v' (l ++ [⟨n, d, k⟩]) → Below B w w' → K (a.put o.dst v') w') : o.wp Tryz.prog a w K Q := by
  obtain ⟨i, hi, hzz⟩ := Option.map_eq_some_iff.1 info_qraw
  simp only [Prod.mk.injEq] at hzz
  obtain ⟨hz, hsz, hby⟩ := hzz
  obtain ⟨v', w', hr, hrow', hg⟩ := run_append_k (P := Tryz.prog) 3 w B t _ i _ ht hi hz hsz (by omega) (by omega) rfl (by
      intro u hu
      have hu : u ∈ [Value.int .i8 0, .int .i8 0, .int .u8 0] := hu
      simp only [List.mem_cons, List.not_mem_nil, or_false] at hu
      rcases hu with rfl | rfl | rfl <;> intro z <;> simp) v l.length (qcells l) h hB ⟨b, off, none⟩ 1 c (qcell ⟨n, d, k⟩) rfl (fun j u hj => by
      rw [addr_add]
      match j, hj with
      | 0, hj => simp [qcell] at hj; subst hj; exact c0
      | 1, hj => simp [qcell] at hj; subst hj; exact c1
      | 2, hj => simp [qcell] at hj; subst hj; exact c2
      | j + 3, hj => simp [qcell] at hj) (by
      intro u hu
      simp only [qcell, List.mem_cons, List.not_mem_nil, or_false] at hu
      rcases hu with rfl | rfl | rfl <;> rfl) (fun u hu => qcells_nw [⟨n, d, k⟩] u (by simpa [qcells] using hu)) (by rw [hby]; exact hl) (by omega)
  have e : qcells (l ++ [⟨n, d, k⟩]) = qcells l ++ qcell ⟨n, d, k⟩ := by simp [qcells]
  have hrow2 : IsQRow B w' v' (l ++ [⟨n, d, k⟩]) := by
    unfold IsQRow; rw [e, List.length_append]; exact hrow'
  unfold Oper.wp execOp
  simp only [ho, resolve, invoke, builtin, Sem.run_bind, Sem.run_pure, Result.andThen_ok, List.map_toArray, List.map_cons, List.map_nil, hs, hx, hr]
  exact hK v' w' hrow2 (KRow.belowB h hg hB)
theorem S_2 {w0 W : World} {b0 o0 b1 o1 : Nat} {v0 v1 : Value} (h0 : w0.cell? ⟨b0, o0, none⟩ = some v0) (h1 : w0.cell? ⟨b1, o1, none⟩ = some v1) (h : Below w0.heap.size w0 W) : Below w0.heap.size w0 W ∧ W.cell? ⟨b0, o0, none⟩ = some v0 ∧ W.cell? ⟨b1, o1, none⟩ = some v1 :=
  ⟨h, cell_below h0 h, cell_below h1 h⟩

/-- The description without its third field. -/
def plain1 (l : List QRaw) (k : Nat) : List QRaw := (l.take k).map (fun x => ⟨x.n, x.d, 0⟩)
theorem plain1_succ (l : List QRaw) (k : Nat) (h : k < l.length) : plain1 l (k + 1) = plain1 l k ++ [⟨(l.getD k .zero).n, (l.getD k .zero).d, 0⟩] := by
  unfold plain1
  rw [List.take_succ_eq_append_getElem h, List.map_append]
  simp [List.getD_eq_getElem?_getD, List.getElem?_eq_getElem h]
theorem plain1_length (l : List QRaw) (k : Nat) (h : k ≤ l.length) : (plain1 l k).length = k := by simp [plain1]; omega
theorem plain1_ok {l : List QRaw} (h : ∀ j, j < l.length → (l.getD j .zero).ok) (k : Nat) : ∀ j, j < (plain1 l k).length → ((plain1 l k).getD j .zero).ok := by
  intro j hj
  have hj' : j < k ∧ j < l.length := by simp [plain1] at hj; omega
  have e : (plain1 l k).getD j .zero = ⟨(l.getD j .zero).n, (l.getD j .zero).d, 0⟩ := by
    unfold plain1
    simp [List.getD_eq_getElem?_getD, List.getElem?_take, hj'.1, List.getElem?_eq_getElem hj'.2]
  rw [e]
  obtain ⟨a, b, c, d, _⟩ := h j hj'.2
  exact ⟨a, b, c, d, by show (0 : Int) ≤ 0; omega, by show (0 : Int) ≤ 255; omega⟩
def pplain (l : List QRaw) (D : Nat) : List Rat := pmade (plain1 l l.length) D

set_option maxRecDepth 100000 in
set_option maxHeartbeats 2000000 in
theorem p_plain (A : Option Addr) (n c D : Nat) (z : Int) (l : List QRaw) (w : World) (hA : QRaws w A l) (hn : n = l.length) (hc : n ≤ c) (hz : z = (D : Int)) (hD : D ≤ 1000) (hl : n * 3 ≤ 140737488351232) :
    Calls Tryz.prog 24 #[.slice A n c, .int .i64 z] w fun e w' => (∃ v, e = .returned v ∧ IsNew w.heap.size w' v (pplain l D)) ∧ Below w.heap.size w w' := by
  subst hz
  have hok : ∀ j, j < l.length → (l.getD j .zero).ok := fun j hj => (hA j hj).1
  have Hn := Lib.hid hn
  have Hok := Lib.hid hok
  clear hn hok
  go_enter Tryz.func24, Tryz.ntmps24
  go_wp2_with fail
  go_loopw [5, 6] (fun s5 s6 wr => ∃ (k : Nat), k ≤ n ∧ s6 = .int .i64 (k : Int) ∧ IsQRow w.heap.size wr s5 (plain1 l k) ∧ Below w.heap.size w wr) (fun _ i _ => n - (intOf i).toNat)
  case atStart => exact ⟨0, Nat.zero_le _, rfl, IsQRow.empty w (Nat.le_refl _), below_alloc _ _⟩
  case round =>
    obtain ⟨k, hk, rfl, hR, hBr⟩ := hrel
    have hML := Lib.hid (plain1_length l k (by rw [← Hn.out]; exact hk))
    by_cases hlt : k < n
    · have hkl : k < l.length := by rw [← Hn.out]; exact hlt
      obtain ⟨_, b, off, rfl, hbl, h1, h2, _⟩ := hA k hkl
      have HS := Lib.hid (plain1_succ l k hkl)
      have hz : w.heap.size ≤ wr.heap.size := hBr.size
      generalize (l.getD k .zero).n = xn at *
      generalize (l.getD k .zero).d = xd at *
      go_upto_region 5 with (fail)
      go_region_held3 (fun w' => Below w.heap.size w w' ∧ w'.cell? ⟨b, off + k * 3, none⟩ = some (.int .i8 xn) ∧ w'.cell? ⟨b, off + k * 3 + 1, none⟩ = some (.int .i8 xd))
        (((try dsimp only); refine S_2 h1 h2 ?_; repeat' (first | with_reducible assumption | with_reducible exact And.left (by assumption) | with_reducible refine Below.alloc' (Nat.le_refl _) ?_ | with_reducible refine Below.drew' ?_)))
        (first
          | ((refine wp_append_qraw _ _ 25 (by rfl) Tryz.underlying25 (by rfl) (by rfl) (by (repeat' (first | assumption | with_reducible apply IsQRow.allocd | with_reducible apply IsQRow.drewn)); first | done | fail) (Below.size (w := w) (B := w.heap.size) (by (repeat' (first | with_reducible assumption | with_reducible refine Below.alloc' (Nat.le_refl _) ?_ | with_reducible refine Below.drew' ?_)); first | done | fail)) (n := xn) (d := xd) (k := 0) (by simp [go_sem]) (by simp [go_sem]) (by simp [go_sem]) (by rw [hML.out]; omega) ?_)
             intro v5 w5 hrow hb5
             have g5 : Below w.heap.size w w5 := Below.trans (by (repeat' (first | with_reducible assumption | with_reducible refine Below.alloc' (Nat.le_refl _) ?_ | with_reducible refine Below.drew' ?_)); first | done | fail) hb5))
      all_goals
        rw [← HS.out] at hrow
        go_wp2
        go_roundw
        case rel => exact ⟨k + 1, hlt, by go_num, hrow, g5⟩
        case measure => simp [intOf]; omega
    · obtain rfl : k = n := by omega
      obtain ⟨A', c', rfl, hc', hQ⟩ := hR.raws (plain1_ok Hok.out k)
      have hM := p_made A' _ c' D (D : Int) (plain1 l k) wr hQ rfl hc' rfl hD (by rw [hML.out]; omega)
      have e : pmade (plain1 l k) D = pplain l D := by rw [Hn.out]; rfl
      rw [e] at hM
      clear e
      have b1 : decide ((k : Int) < (k : Int)) = false := by simp
      go_wp2_with fail
      refine hM.mono ?_
      rintro e w4 ⟨⟨u, rfl, hu⟩, hb5⟩
      go_wp2
      go_ret
      exact ⟨⟨_, rfl, hu.mono hBr.size⟩, hBr.trans (hb5.mono hBr.size)⟩

end Go.Proofs.YtlklgeidffjidaaGreat

/- What is asked of the sizes, paid in bits. -/
namespace Go.Proofs.YtlklgeidffjidaaGreat

def lim : Nat := 50000000000
theorem lim_eq : lim = 50000000000 := rfl
/-- At most 20 coefficients of at most lim bits. -/
def Fn (p : List Rat) : Prop := p.length ≤ 20 ∧ Bd p lim
theorem Fn.szB {p : List Rat} (h : Fn p) : SzB p 1562500001 := h.2.szB.mono (by rw [lim_eq]; omega)
theorem Fn.sz {p : List Rat} (h : Fn p) : Sz p := h.szB.mono (by omega)
theorem Fn.len {p : List Rat} (h : Fn p) : p.length ≤ 20 := h.1
theorem Fn.of {p : List Rat} {b : Nat} (hl : p.length ≤ 20) (h : Bd p b) (hb : b ≤ lim) : Fn p := ⟨hl, h.mono hb⟩
theorem Fn.nil : Fn [] := ⟨by simp, Bd.nil _⟩
theorem Fn.one : Fn [1] := ⟨by simp, Bd.one _⟩
theorem MulOK.fn {p q : List Rat} (hp : Fn p) (hq : Fn q) : MulOK p q := by
  have h1 := hp.1; have h2 := hq.1
  refine ⟨by omega, by omega, _, _, hp.szB, hq.szB, ?_⟩
  have := Nat.mul_le_mul_right (1562500001 + 1562500001 + 1) h1
  omega
theorem DivOK.bits {a b : List Rat} {x y : Nat} (hb : PC b) (hb0 : b ≠ []) (hla : a.length ≤ 20) (hlb : b.length ≤ 20) (ha : Bd a x) (hy : Bd b y) (h1 : x + (y + 1) * (a.length + 1 - b.length) ≤ lim) (h2 : y ≤ lim) : DivOK a b := by
  refine ⟨by omega, by omega, 1562500001, 1562500001, fun i hi => ?_, (hy.mono h2).szB.mono (by rw [lim_eq]; omega), by omega⟩
  refine ((Bd.dst1 hb hb0 ha hy i).mono (Nat.le_trans ?_ h1)).szB.mono (by rw [lim_eq]; omega)
  exact Nat.add_le_add_left (Nat.mul_le_mul_left _ hi) _
theorem PdmOK.bits {a b : List Rat} {x y : Nat} (hb : PC b) (hb0 : b ≠ []) (hla : a.length ≤ 20) (hlb : b.length ≤ 20) (ha : Bd a x) (hy : Bd b y) (h1 : x + (y + 1) * (a.length + 1 - b.length) ≤ lim) (h2 : y ≤ lim) : PdmOK a b := by
  refine ⟨by omega, by omega, 1562500001, 1562500001, fun k => ?_, (hy.mono h2).szB.mono (by rw [lim_eq]; omega), (ha.mono (show x ≤ lim by omega)).szB.mono (by rw [lim_eq]; omega), by omega⟩
  have hk : x + (y + 1) * ((a.drop k).length + 1 - b.length) ≤ lim := by
    refine Nat.le_trans (Nat.add_le_add_left (Nat.mul_le_mul_left _ ?_) _) h1
    rw [List.length_drop]; omega
  obtain ⟨e1, e2⟩ := Bd.quo_mod hb hb0 (ha.drop k) hy
  exact ⟨(e1.mono hk).szB.mono (by rw [lim_eq]; omega), (e2.mono hk).szB.mono (by rw [lim_eq]; omega)⟩
theorem Bq.sz {q : Rat} {b : Nat} (h : Bq q b) (hb : b ≤ lim) : Proofs.YtlklgeidffjidaaGreat.rsz q ≤ 1562500001 := Nat.le_trans h.rsz (by have := lim_eq; omega)
theorem pquo_length_le {a b : List Rat} (hb : PC b) (hb0 : b ≠ []) : (pquo a b).length ≤ a.length + 1 - b.length := by
  by_cases h : a.length < b.length
  · rw [(dst_short hb hb0 h).1]; simp
  · have hN : a.length + 1 - b.length + b.length = a.length + 1 := by omega
    rw [← (dst_end (a := a) hb hb0 hN).1]
    refine Nat.le_trans (ptrim_length_le _) ?_
    rw [(dst_spec hb hb0 hN _ (Nat.le_refl _)).2.1]; exact Nat.le_refl _
/-! Euclid's chain: all sequences of lengths are tried. -/
/-- The bits of quotient and remainder. -/
def dbits (la lb x y : Nat) : Nat := x + (y + 1) * (la + 1 - lb)
def eucC (fin : Nat → Nat → Bool) : Nat → Nat → Nat → Nat → Nat → Bool
  | 0, _, _, _, _ => false
  | n + 1, la, lb, x, y => decide (la ≤ 20) && decide (x ≤ lim) && if lb = 0 then fin la x else decide (lb ≤ 20) && decide (y ≤ lim) && decide (dbits la lb x y ≤ lim) && (List.range lb).all fun lc => eucC fin n lb lc y (dbits la lb x y)
theorem eucC_spec {fin : Nat → Nat → Bool} (n : Nat) : ∀ {a b : List Rat} {x y : Nat}, PC a → PC b → Bd a x → Bd b y → eucC fin (n + 1) a.length b.length x y = true →
    EucOK (n + 1) a b ∧ Fn a ∧ Fn b ∧ ∃ v, fin (eucF (n + 1) a b).length v = true ∧ Bd (eucF (n + 1) a b) v ∧ Fn (eucF (n + 1) a b) := by
  induction n with
  | zero =>
    intro a b x y ha hb hx hy h
    unfold eucC at h
    by_cases h0 : b = []
    · subst h0
      simp at h
      have hf : Fn a := Fn.of h.1.1 hx h.1.2
      refine ⟨fun h => absurd rfl h, hf, Fn.nil, ?_⟩
      simp only [eucF, if_true]
      exact ⟨x, h.2, hx, hf⟩
    · have hl : 0 < b.length := List.length_pos_iff.2 h0
      rw [if_neg (by omega)] at h
      simp [eucC] at h
      obtain ⟨_, _, h⟩ := h
      have := h 0; omega
  | succ n ih =>
    intro a b x y ha hb hx hy h
    unfold eucC at h
    by_cases h0 : b = []
    · subst h0
      simp at h
      have hf : Fn a := Fn.of h.1.1 hx h.1.2
      refine ⟨fun h => absurd rfl h, hf, Fn.nil, ?_⟩
      simp only [eucF, if_true]
      exact ⟨x, h.2, hx, hf⟩
    · have hl : 0 < b.length := List.length_pos_iff.2 h0
      rw [if_neg (by omega)] at h
      simp only [Bool.and_eq_true, decide_eq_true_eq, List.all_eq_true, List.mem_range] at h
      obtain ⟨⟨h1, h2⟩, ⟨⟨h3, h4⟩, h5⟩, h6⟩ := h
      have hm := pmod_lt hb h0 a
      have e := Bd.mod hb h0 hx hy
      obtain ⟨i1, i2, i3, v, i4, i5, i6⟩ := ih hb (pmod_PC hb h0 a) hy e (h6 _ hm)
      refine ⟨fun _ => ⟨DivOK.bits hb h0 h1 h3 hx hy h5 h4, i1⟩, Fn.of h1 hx h2, i2, v, ?_⟩
      rw [eucF, if_neg h0]
      exact ⟨i4, i5, i6⟩
theorem GcdOK.of_check {fin : Nat → Nat → Bool} {a b : List Rat} {x y : Nat} (ha : PC a) (hb : PC b) (hx : Bd a x) (hy : Bd b y) (h : eucC fin (b.length + 1) a.length b.length x y = true) :
    GcdOK a b ∧ Fn (pgcd a b) ∧ ∃ v, fin (pgcd a b).length v = true ∧ Bd (pgcd a b) v := by
  obtain ⟨h1, h2, h3, v, h4, h5, h6⟩ := eucC_spec b.length ha hb hx hy h
  have e : pgcd a b = pmonic (eucF (b.length + 1) a b) := pgcd_euc hb
  have hc := eucF_PC (b.length + 1) ha hb
  rw [e, pmonic_length hc]
  exact ⟨⟨h1, _, h6.szB, by omega⟩, ⟨by rw [pmonic_length hc]; exact h6.1, h6.2.monic hc⟩, v, h4, h5.monic hc⟩

/-! Bezout's loop, for both packages at once. -/
def BzF : Nat → List Rat → List Rat → List Rat → List Rat → Prop
  | 0, _, _, _, _ => True
  | n + 1, a, b, U, X => Fn a ∧ Fn U ∧ (b ≠ [] → DivOK a b ∧ PdmOK a b ∧ Fn b ∧ Fn (pquo a b) ∧ Fn X ∧ BzF n b (pmod a b) X (psub U (pmul (pquo a b) X)))
theorem BzF.bez (n : Nat) : ∀ {a b U X : List Rat}, BzF n a b U X → BezOK n a b U X := by
  induction n with
  | zero => intros; trivial
  | succ n ih =>
    intro a b U X h hb
    obtain ⟨h1, h2, h3⟩ := h
    obtain ⟨i1, i2, i3, i4, i5, i6⟩ := h3 hb
    have m1 := i4.1; have m2 := i5.1; have m3 := h2.1
    refine ⟨i1, ⟨by omega, by omega, by omega, _, _, _, i4.szB, i5.szB, h2.szB, ?_, by omega⟩, ih i6⟩
    have := Nat.mul_le_mul_right (1562500001 + 1562500001 + 1) m1
    omega
theorem BzF.rbez (n : Nat) : ∀ {a b U X : List Rat}, BzF n a b U X → RbezOK n a b U X := by
  induction n with
  | zero => intros; trivial
  | succ n ih =>
    intro a b U X h hb
    obtain ⟨h1, h2, h3⟩ := h
    obtain ⟨i1, i2, i3, i4, i5, i6⟩ := h3 hb
    have := h2.1
    exact ⟨i2, MulOK.fn i4 i3, MulOK.fn i4 i5, h1.sz, h2.sz, by omega, ih i6⟩
/-- u bits of U, v of X; lengths lu, lx at most. -/
def bezC (fin : Nat → Nat → Nat → Nat → Bool) : Nat → Nat → Nat → Nat → Nat → Nat → Nat → Nat → Nat → Bool
  | 0, _, _, _, _, _, _, _, _ => false
  | n + 1, la, lb, x, y, lu, lx, u, v => decide (la ≤ 20) && decide (x ≤ lim) && decide (lu ≤ 20) && decide (u ≤ lim) && if lb = 0 then fin la x lu u else
      decide (lb ≤ 20) && decide (y ≤ lim) && decide (lx ≤ 20) && decide (v ≤ lim) && decide (dbits la lb x y ≤ lim) &&
      (List.range lb).all fun lc => bezC fin n lb lc y (dbits la lb x y) lx (max lu (la + 1 - lb + lx)) v (u + (dbits la lb x y + v + 5) + 1)
theorem bezC_spec {fin : Nat → Nat → Nat → Nat → Bool} (n : Nat) : ∀ {a b U X : List Rat} {x y u v lu lx : Nat}, PC a → PC b → Bd a x → Bd b y → Bd U u → Bd X v → U.length ≤ lu → X.length ≤ lx → b.length ≤ n → bezC fin (n + 1) a.length b.length x y lu lx u v = true →
    BzF (n + 1) a b U X ∧ ∃ l u lu, fin (bezF (n + 1) a b U X).1.length l lu u = true ∧ Bd (bezF (n + 1) a b U X).1 l ∧ Bd (bezF (n + 1) a b U X).2 u ∧ (bezF (n + 1) a b U X).2.length ≤ lu ∧ Fn (bezF (n + 1) a b U X).1 ∧ Fn (bezF (n + 1) a b U X).2 := by
  induction n with
  | zero =>
    intro a b U X x y u v lu lx ha hb hx hy hu hv hlu hlx hbn h
    have h0 : b = [] := List.eq_nil_of_length_eq_zero (by omega)
    subst h0
    unfold bezC at h
    simp at h
    obtain ⟨⟨⟨⟨h1, h2⟩, h3⟩, h4⟩, h5⟩ := h
    have fa := Fn.of h1 hx h2
    have fu := Fn.of (Nat.le_trans hlu h3) hu h4
    refine ⟨⟨fa, fu, fun h => absurd rfl h⟩, ?_⟩
    simp only [bezF, if_true]
    exact ⟨x, u, lu, h5, hx, hu, hlu, fa, fu⟩
  | succ n ih =>
    intro a b U X x y u v lu lx ha hb hx hy hu hv hlu hlx hbn h
    unfold bezC at h
    by_cases h0 : b = []
    · subst h0
      simp at h
      obtain ⟨⟨⟨⟨h1, h2⟩, h3⟩, h4⟩, h5⟩ := h
      have fa := Fn.of h1 hx h2
      have fu := Fn.of (Nat.le_trans hlu h3) hu h4
      refine ⟨⟨fa, fu, fun h => absurd rfl h⟩, ?_⟩
      rw [bezF, if_pos rfl]
      exact ⟨x, u, lu, h5, hx, hu, hlu, fa, fu⟩
    · have hl : 0 < b.length := List.length_pos_iff.2 h0
      rw [if_neg (by omega)] at h
      simp only [Bool.and_eq_true, decide_eq_true_eq, List.all_eq_true, List.mem_range] at h
      obtain ⟨⟨⟨⟨h1, h2⟩, h3⟩, h4⟩, ⟨⟨⟨⟨⟨k1, k2⟩, k3⟩, k4⟩, k5⟩, k6⟩⟩ := h
      have hm := pmod_lt hb h0 a
      have e := Bd.mod hb h0 hx hy
      have eq := Bd.quo hb h0 hx hy
      have lq := pquo_length_le (a := a) hb h0
      have fb := Fn.of k1 hy k2
      have fq : Fn (pquo a b) := Fn.of (by omega) eq k5
      have lm := pmul_length_le (pquo a b) X
      have ls := psub_length_le U (pmul (pquo a b) X)
      have fm := Bd.mul eq hv (t := 5) (by have := fq.1; omega)
      obtain ⟨i1, i2⟩ := ih hb (pmod_PC hb h0 a) hy e hv (hu.sub fm) hlx (show (psub U (pmul (pquo a b) X)).length ≤ max lu (a.length + 1 - b.length + lx) by omega) (by omega) (k6 _ hm)
      refine ⟨⟨Fn.of h1 hx h2, Fn.of (Nat.le_trans hlu h3) hu h4, fun _ => ⟨DivOK.bits hb h0 h1 k1 hx hy k5 k2, PdmOK.bits hb h0 h1 k1 hx hy k5 k2, fb, fq, Fn.of (Nat.le_trans hlx k3) hv k4, i1⟩⟩, ?_⟩
      rw [bezF, if_neg h0]
      exact i2

def bezFin (la lb x y L l LU u : Nat) : Bool :=
  decide (la + lb ≤ 20) && decide (L ≤ 20) && decide (LU ≤ 20) && decide (dbits lb L y l ≤ lim) && decide (l + u + (dbits lb L y l + 1) * LU ≤ lim) && decide (y ≤ lim) && decide (x ≤ lim) &&
  decide (l + (l + u + (dbits lb L y l + 1) * LU + x + 5) + 1 + (y + 1) * 20 ≤ lim)
theorem Bq.lead_inv {p : List Rat} {a : Nat} (h : Bd p a) (h0 : plead p ≠ 0) : Bq (plead p)⁻¹ a := (h.get _).inv h0
theorem pbez_check {p q : List Rat} {x y : Nat} (hp : PC p) (hq : PC q) (hq0 : q ≠ []) (hx : Bd p x) (hy : Bd q y) (h : bezC (bezFin p.length q.length x y) (q.length + 1) p.length q.length x y 1 0 0 0 = true) :
    BezAll p q ∧ RbezAll p q ∧ Fn (pgcd p q) ∧ Fn (bezU2 p q) ∧ Fn (pquo (bezD p q) q) ∧ Fn p ∧ Fn q := by
  obtain ⟨hB, l, u, LU, hf, hL, hU, hLU, fL, fU⟩ := bezC_spec (U := [1]) (X := []) q.length hp hq hx hy (Bd.one 0) (Bd.nil 0) (by simp) (by simp) (Nat.le_refl _) h
  have eL : (bezF (q.length + 1) p q [1] []).1 = bezL p q := rfl
  have eU : (bezF (q.length + 1) p q [1] []).2 = bezU p q := rfl
  rw [eL] at hf hL fL
  rw [eU] at hU hLU fU
  have hLc := bezL_PC hp hq
  have eg := bezL_pgcd (p := p) hq
  have hg0 : pgcd p q ≠ [] := fun e => hq0 ((pgcd_nil hp hq).1 e).2
  have hgc := pgcd_PC hp hq
  have hL0 : bezL p q ≠ [] := fun e => hg0 (by rw [← eg, e]; rfl)
  have hlg : (pgcd p q).length = (bezL p q).length := by rw [← eg, pmonic_length hLc]
  have hlg1 : 0 < (pgcd p q).length := List.length_pos_iff.2 hg0
  have bg : Bd (pgcd p q) l := by rw [← eg]; exact hL.monic hLc
  simp only [bezFin, Bool.and_eq_true, decide_eq_true_eq] at hf
  obtain ⟨⟨⟨⟨⟨⟨⟨f1, f2⟩, f3⟩, f4⟩, f5⟩, f6⟩, f7⟩, f8⟩ := hf
  rw [← hlg] at f2 f4 f5 f8
  have fg : Fn (pgcd p q) := ⟨by omega, by rw [← eg]; exact fL.2.monic hLc⟩
  have hl : l ≤ lim := by unfold dbits at f8; omega
  have hi := Bq.lead_inv hL (hLc.lead_ne hL0)
  have fi : Fn [(plead (bezL p q))⁻¹] := ⟨by simp, (hi.mono hl).single⟩
  have bq := Bd.quo hgc hg0 hy bg
  have hQ0 := pquo_gcd_ne hp hq hq0
  have hQc := pquo_PC hgc hg0 q
  have hQl : 0 < (pquo q (pgcd p q)).length := List.length_pos_iff.2 hQ0
  have hQl2 := pquo_length_le (a := q) hgc hg0
  have bU1 : Bd (bezU1 p q) (l + u) := (Bd.mul hi.single hU (t := 0) (by simp)).mono (by omega)
  have lU1 : (bezU1 p q).length ≤ LU := by
    have h : bezU1 p q = pscale (plead (bezL p q))⁻¹ (bezU p q) := (pscale_mul _ _).symm
    rw [h]; exact Nat.le_trans (pscale_length_le _ _) hLU
  have hk : (dbits q.length (pgcd p q).length y l + 1) * ((bezU1 p q).length + 1 - (pquo q (pgcd p q)).length) ≤ (dbits q.length (pgcd p q).length y l + 1) * LU := Nat.mul_le_mul_left _ (by omega)
  have bU2 : Bd (bezU2 p q) (l + u + (dbits q.length (pgcd p q).length y l + 1) * LU) := (Bd.mod hQc hQ0 bU1 bq).mono (Nat.add_le_add_left hk _)
  have lU2 : (bezU2 p q).length < (pquo q (pgcd p q)).length := pmod_lt hQc hQ0 _
  have fU2 : Fn (bezU2 p q) := Fn.of (by omega) bU2 f5
  have fp : Fn p := Fn.of (by omega) hx f7
  have fq : Fn q := Fn.of (by omega) hy f6
  have bD : Bd (bezD p q) (l + (l + u + (dbits q.length (pgcd p q).length y l + 1) * LU + x + 5) + 1) := bg.sub (Bd.mul bU2 hx (t := 5) (by omega))
  have lD : (bezD p q).length ≤ 20 := by
    have h1 := psub_length_le (pgcd p q) (pmul (bezU2 p q) p)
    have h2 := pmul_length_le (bezU2 p q) p
    unfold bezD; omega
  have hD : (y + 1) * ((bezD p q).length + 1 - q.length) ≤ (y + 1) * 20 := Nat.mul_le_mul_left _ (by have : 0 < q.length := List.length_pos_iff.2 hq0; omega)
  have hD' : (l + (l + u + (dbits q.length (pgcd p q).length y l + 1) * LU + x + 5) + 1) + (y + 1) * ((bezD p q).length + 1 - q.length) ≤ lim := by omega
  have e1 : dbits q.length (pgcd p q).length y l = y + (l + 1) * (q.length + 1 - (pgcd p q).length) := rfl
  have hQ : l + u + (dbits q.length (pgcd p q).length y l + 1) * ((bezU1 p q).length + 1 - (pquo q (pgcd p q)).length) ≤ lim := by omega
  have hlq : q.length ≤ 20 := fq.1
  obtain ⟨h1, h2, h3⟩ := hB
  obtain ⟨i1, i2, i3, i4, i5, i6⟩ := h3 hq0
  rw [psub_one] at i6
  have c1 := fL.1
  have c2 := fU.1
  refine ⟨⟨BzF.bez _ ⟨h1, h2, fun h => h3 h⟩, ⟨_, fL.szB, by omega⟩, MulOK.fn fi fU, DivOK.bits hgc hg0 hlq (by omega) hy bg f4 hl, DivOK.bits hQc hQ0 (by omega) (by omega) bU1 bq hQ f4, MulOK.fn fU2 fp, fg.sz, by omega, DivOK.bits hq hq0 lD hlq bD hy hD' f6, by omega⟩,
    ⟨i2, BzF.rbez _ i6, fL.sz, by omega, fU.sz, by omega, PdmOK.bits hgc hg0 hlq (by omega) hy bg f4 hl, PdmOK.bits hQc hQ0 (by omega) (by omega) bU1 bq hQ f4, MulOK.fn fU2 fp, fg.sz, by omega, PdmOK.bits hq hq0 lD hlq bD hy hD' f6⟩, fg, fU2, ?_, fp, fq⟩
  refine Fn.of ?_ (Bd.quo hq hq0 bD hy) hD'
  have := pquo_length_le (a := bezD p q) hq hq0
  omega

/-! Resultants. -/
theorem Bq.one_neg (b : Nat) : Bq (-1) b := (Bq.one b).neg
theorem PowOK.bits {x o : Rat} {n a b : Nat} (hx : Bq x a) (ho : Bq o b) (hn : n ≤ 20) (ha : a ≤ lim) (hb : b ≤ lim) : PowOK x o n := by
  refine ⟨by omega, Nat.le_trans (ho.sz hb) (by omega), 1562500001, hx.sz ha, ?_⟩
  have := Nat.mul_le_mul_right 1562500001 hn
  omega
/-- o bits of the product so far. -/
def resC : Nat → Nat → Nat → Nat → Nat → Nat → Bool
  | 0, _, _, _, _, _ => true
  | f + 1, la, lb, x, y, o => decide (la ≤ 20) && decide (lb ≤ 20) && decide (x ≤ lim) && decide (y ≤ lim) && decide (o ≤ lim) && if lb ≤ 1 then decide (o + (la - 1) * y ≤ lim) else
      decide (dbits la lb x y ≤ lim) && (List.range lb).all fun lc => lc == 0 || resC f lb lc y (dbits la lb x y) (o + ((la - 1) - (lc - 1)) * y)
theorem rsgn_bits {a b : List Rat} {o : Rat} {k : Nat} (h : Bq o k) : Bq (rsgn a b o) k := by unfold rsgn; split; exact h.neg; exact h
theorem resC_spec (f : Nat) : ∀ {a b : List Rat} {o : Rat} {x y k : Nat}, PC a → PC b → b ≠ [] → Bd a x → Bd b y → Bq o k → resC f a.length b.length x y k = true → ResOK f a b o ∧ Bq (presF f a b o) lim := by
  induction f with
  | zero => intros; exact ⟨trivial, Bq.zero _⟩
  | succ f ih =>
    intro a b o x y k ha hb hb0 hx hy ho h
    unfold resC at h
    simp only [Bool.and_eq_true, decide_eq_true_eq] at h
    obtain ⟨⟨⟨⟨⟨h1, h2⟩, h3⟩, h4⟩, h5⟩, h6⟩ := h
    unfold ResOK presF
    by_cases hl : b.length ≤ 1
    · rw [if_pos hl] at h6 ⊢
      rw [if_pos hl]
      simp only [decide_eq_true_eq] at h6
      exact ⟨PowOK.bits (hy.get 0) ho (by omega) h4 h5, (ho.mul ((hy.get 0).pow _)).mono h6⟩
    · rw [if_neg hl] at h6 ⊢
      rw [if_neg hl]
      simp only [Bool.and_eq_true, decide_eq_true_eq, List.all_eq_true, List.mem_range, Bool.or_eq_true, beq_iff_eq] at h6
      obtain ⟨h7, h8⟩ := h6
      by_cases h0 : pmod a b = []
      · rw [if_pos h0]
        exact ⟨⟨DivOK.bits hb hb0 h1 h2 hx hy h7 h4, .inl h0⟩, Bq.zero _⟩
      · rw [if_neg h0]
        have hc := (h8 _ (pmod_lt hb hb0 a)).resolve_left (fun e => h0 (List.eq_nil_of_length_eq_zero e))
        have hn : Bq (rnext a b o) (k + ((a.length - 1) - ((pmod a b).length - 1)) * y) := (rsgn_bits ho).mul ((hy.get _).pow _)
        obtain ⟨i1, i2⟩ := ih hb (pmod_PC hb hb0 a) h0 hy (Bd.mod hb hb0 hx hy) hn hc
        exact ⟨⟨DivOK.bits hb hb0 h1 h2 hx hy h7 h4, .inr ⟨PowOK.bits (hy.get _) ho (by omega) h4 h5, i1⟩⟩, i2⟩
/-- The same for the reference, which comes back with the product. -/
def rrB : Nat → Nat → Nat → Nat → Nat → Nat
  | 0, _, _, _, _ => 0
  | f + 1, la, lb, x, y => if lb = 1 then (la - 1) * y else if la < lb then rrB f lb la y x else (List.range lb).foldl (fun m lc => max m ((la - lc) * y + rrB f lb lc y (dbits la lb x y))) 0
def rrC : Nat → Nat → Nat → Nat → Nat → Bool
  | 0, _, _, _, _ => true
  | f + 1, la, lb, x, y => decide (la ≤ 20) && decide (lb ≤ 20) && decide (x ≤ lim) && decide (y ≤ lim) && decide (rrB (f + 1) la lb x y ≤ lim) && if lb = 1 then true else if la < lb then rrC f lb la y x else
      decide (dbits la lb x y ≤ lim) && (List.range lb).all fun lc => decide ((la - lc) * y ≤ lim) && rrC f lb lc y (dbits la lb x y)
theorem le_foldl_max {α : Type} (g : α → Nat) (l : List α) : ∀ m, m ≤ l.foldl (fun m x => max m (g x)) m ∧ ∀ x ∈ l, g x ≤ l.foldl (fun m x => max m (g x)) m := by
  induction l with
  | nil => intro m; exact ⟨Nat.le_refl _, fun x h => by simp at h⟩
  | cons a l ih =>
    intro m
    obtain ⟨h1, h2⟩ := ih (max m (g a))
    rw [List.foldl_cons]
    refine ⟨by omega, fun x hx => ?_⟩
    rcases List.mem_cons.1 hx with rfl | h
    · omega
    · exact h2 x h
theorem rs_bits (M N b : Nat) : Bq (rs M N) b := by unfold rs; split; exact Bq.one_neg _; exact Bq.one _
theorem rrC_spec (f : Nat) : ∀ {a b : List Rat} {x y : Nat}, PC a → PC b → Bd a x → Bd b y → rrC f a.length b.length x y = true → RresOK f a b ∧ Bq (rresF f a b) (rrB f a.length b.length x y) := by
  induction f with
  | zero => intros; exact ⟨trivial, Bq.zero _⟩
  | succ f ih =>
    intro a b x y ha hb hx hy h
    unfold rrC at h
    simp only [Bool.and_eq_true, decide_eq_true_eq] at h
    obtain ⟨⟨⟨⟨⟨h1, h2⟩, h3⟩, h4⟩, h5⟩, h6⟩ := h
    rw [RresOK, rresF]
    by_cases hn : a = [] ∨ b = []
    · rw [if_pos hn]
      exact ⟨⟨by omega, by omega, fun ha0 hb0 => absurd hn (by simp [ha0, hb0])⟩, Bq.zero _⟩
    · have ha0 : a ≠ [] := fun e => hn (.inl e)
      have hb0 : b ≠ [] := fun e => hn (.inr e)
      rw [if_neg hn]
      unfold rrB at h5 ⊢
      by_cases hb1 : b.length = 1
      · rw [if_pos hb1] at h5
        simp only [if_pos hb1]
        exact ⟨⟨by omega, by omega, fun _ _ => PowOK.bits (hy.get 0) (Bq.one 0) (by omega) h4 (Nat.zero_le _)⟩, (hy.get 0).pow _⟩
      · rw [if_neg hb1] at h5 h6
        simp only [if_neg hb1]
        by_cases hlt : a.length < b.length
        · rw [if_pos hlt] at h5 h6
          simp only [if_pos hlt]
          obtain ⟨i1, i2⟩ := ih hb ha hy hx h6
          exact ⟨⟨by omega, by omega, fun _ _ => ⟨by have := i2.sz h5; omega, i1⟩⟩, ((rs_bits _ _ 0).mul i2).mono (by omega)⟩
        · rw [if_neg hlt] at h5 h6
          simp only [if_neg hlt]
          simp only [Bool.and_eq_true, decide_eq_true_eq, List.all_eq_true, List.mem_range] at h6
          obtain ⟨h7, h8⟩ := h6
          have hm := pmod_lt hb hb0 a
          obtain ⟨c1, c2⟩ := h8 _ hm
          obtain ⟨i1, i2⟩ := ih hb (pmod_PC hb hb0 a) hy (Bd.mod hb hb0 hx hy) c2
          have hmax := (le_foldl_max (fun lc => (a.length - lc) * y + rrB f b.length lc y (dbits a.length b.length x y)) (List.range b.length) 0).2 _ (List.mem_range.2 hm)
          have hmax : (a.length - (pmod a b).length) * y + rrB f b.length (pmod a b).length y (dbits a.length b.length x y) ≤ _ := hmax
          have hp : Bq (rs (a.length - 1) (b.length - 1) * plead b ^ (a.length - (pmod a b).length)) ((a.length - (pmod a b).length) * y) := ((rs_bits _ _ 0).mul ((hy.get _).pow _)).mono (by omega)
          refine ⟨⟨by omega, by omega, fun _ _ => ⟨PdmOK.bits hb hb0 h1 h2 hx hy h7 h4, fun _ => ⟨PowOK.bits (hy.get _) (Bq.one 0) (by omega) h4 (Nat.zero_le _), by have := hp.sz c1; omega, by have := i2.sz (Nat.le_trans (Nat.le_trans (Nat.le_add_left _ _) hmax) h5); omega, i1⟩⟩⟩, ?_⟩
          split
          · exact Bq.zero _
          · exact (hp.mul i2).mono hmax

end Go.Proofs.YtlklgeidffjidaaGreat

/- The walk of the law package's helpers: poly, half. -/
namespace Go.Proofs.YtlklgeidffjidaaGreat
open Go.RowKit
set_option linter.unusedSimpArgs false

def pz (l : List Int) : List Rat := ptrim (l.map (fun z : Int => (z : Rat)))
theorem small1_pz (l : List Int) : ptrim (small1 l l.length) = pz l := by unfold small1 pz; rw [List.take_length]
set_option maxHeartbeats 1000000 in
theorem l_poly (A : Option Addr) (n c : Nat) (l : List Int) (w : World) (hA : I8s w A l) (hn : n = l.length) (hc : n ≤ c) (hl : n ≤ 21) :
    Calls Tryz.prog 20 #[.slice A n c] w fun e w' => (∃ v, e = .returned v ∧ IsNew w.heap.size w' v (pz l)) ∧ Below w.heap.size w w' := by
  have hS := fun W (h : I8s W A l) => p_small A n c 20 20 l W h hn hc rfl (by omega) (by omega)
  rw [small1_pz] at hS
  generalize pz l = p at *
  clear hn
  go_enter Tryz.func20, Tryz.ntmps20
  go_wp2_with fail
  refine (hS _ hA).mono ?_
  rintro e w1 ⟨⟨v, rfl, hv⟩, hb⟩
  go_wp2
  go_ret
  exact ⟨⟨_, rfl, hv⟩, hb⟩
set_option maxHeartbeats 1000000 in
theorem l_half (w : World) : Calls Tryz.prog 56 #[] w fun e w' => (∃ v, e = .returned v ∧ IsRat w' v (1 / 2)) ∧ Below w.heap.size w w' := by
  have hM := fun W => q_made 1 2 0 W (by omega) (by omega) (by omega) (by omega) (by omega) (by omega)
  have e1 : Rat.divInt (mnum 1 0) (mden 2 0) = 1 / 2 := by decide +kernel
  go_enter Tryz.func56, Tryz.ntmps56
  go_wp2_with fail
  generalize hW : World.alloc _ _ = W
  have hBW : Below w.heap.size w W := by rw [← hW]; exact (Below.refl _ _).alloc (Nat.le_refl _) _
  have hR : RC4 W w.heap.size := by rw [← hW]; exact ⟨by simp [go_sem], by simp [go_sem], by simp [go_sem], by simp [go_sem], by simp [go_sem], by simp⟩
  clear hW
  refine (hM _).mono ?_
  rintro e w2 ⟨⟨_, rfl, s, A, n, c, t, B, m, d, rfl, hq⟩, hb⟩
  have hBW := hBW.trans (hb.mono hBW.size)
  have hR := hR.below hb
  have hP := rat_put' (q := rmade 1 2 0) hBW (by omega) hR hq
  have e2 : rmade 1 2 0 = 1 / 2 := e1
  rw [e2] at hP
  obtain ⟨r0, r1, r2, r3, rf, rl⟩ := hR
  go_wp2
  exact bodyPost_ret (v := .agg #[.bool s, .slice A n c, .bool t, .slice B m d]) (by simp [results, Tryz.results56, go_sem, r0, r1, r2, r3]) rfl ⟨⟨_, rfl, RatP.is hP.1⟩, hP.2⟩


end Go.Proofs.YtlklgeidffjidaaGreat

/- Contracts in the form that the laws use. -/
namespace Go.Proofs.YtlklgeidffjidaaGreat
open Go.RowKit
set_option linter.unusedSimpArgs false

/-! Valid numbers are valid. -/
def rawof (q : Rat) : Raw4 := ⟨decide (q.num < 0), words q.num.natAbs, decide ((q.den : Int) < 0), words q.den⟩
theorem ivalid_of (z : Int) : ivalid (decide (z < 0)) (words z.natAbs) = true := by
  unfold ivalid
  split
  · rename_i h
    obtain ⟨k, hk⟩ : ∃ k, (words z.natAbs).length = k + 1 := ⟨(words z.natAbs).length - 1, by omega⟩
    have := words_last hk
    rw [hk]
    simpa [nth] using this
  · rename_i h
    have h0 : words z.natAbs = [] := List.eq_nil_of_length_eq_zero (by omega)
    have := words_eq_nil.1 h0
    simp; omega
theorem rawof_ok (q : Rat) : (rawof q).ok = true := by
  have h1 := ivalid_of q.num
  have h2 := ivalid_of (q.den : Int)
  have h3 : ¬ ((q.den : Int) < 0) := by omega
  rw [Int.natAbs_natCast] at h2
  unfold Raw4.ok rvalid rawof
  simp only [h1, h2, val_words, Bool.true_and, Bool.and_eq_true, decide_eq_true_eq]
  refine ⟨?_, q.reduced⟩
  have := q.den_nz
  simp [sgn]; omega
theorem RatAt.raw {w : World} {g o : Nat} {q : Rat} (h : RatAt w g o q) : RawAt w g o (rawof q) := by
  obtain ⟨s, A, n, c, t, B, m, d, h1, h2, h3, h4, h5, h6⟩ := h
  obtain ⟨i1, i2, i3, i4⟩ := h5
  obtain ⟨j1, j2, j3, j4⟩ := h6
  rw [Int.natAbs_natCast] at j2 j3
  subst i1; subst j1
  exact ⟨A, n, c, B, m, d, h1, h2, h3, h4, i3, i2, i4, j3, j2, j4⟩
theorem PolyAt.raws {w : World} {A : Option Addr} {p : List Rat} (h : PolyAt w A p) (hs : Sz p) : RawsAt w A (p.map rawof) := by
  intro j hj
  rw [List.length_map] at hj
  have e : (p.map rawof).getD j .nil = rawof (p.getD j 0) := by
    rw [List.getD_eq_getElem?_getD, List.getD_eq_getElem?_getD, List.getElem?_map, List.getElem?_eq_getElem hj]; rfl
  rw [e]
  have := hs j
  have h1 := rsz_num (p.getD j 0)
  have h2 := rsz_den (p.getD j 0)
  obtain ⟨b, off, e2, h3⟩ := h j hj
  refine ⟨?_, ?_, b, off, e2, h3.raw⟩
  · show (words (p.getD j 0).num.natAbs).length ≤ _; unfold isz sz at h1; omega
  · show (words (p.getD j 0).den).length ≤ _; unfold sz at h2; omega
theorem uvalid_of (p : List Rat) : uvalid (p.map rawof) = true ↔ PC p := by
  unfold uvalid
  rw [all_ok (fun j hj => by
    rw [List.length_map] at hj
    have e : (p.map rawof).getD j .nil = rawof (p.getD j 0) := by
      rw [List.getD_eq_getElem?_getD, List.getD_eq_getElem?_getD, List.getElem?_map, List.getElem?_eq_getElem hj]; rfl
    rw [e]; exact rawof_ok _), Bool.true_and]
  by_cases h0 : p = []
  · subst h0; exact ⟨fun _ => PC.nil, fun _ => rfl⟩
  · obtain ⟨k, hk⟩ : ∃ k, p.length = k + 1 := ⟨p.length - 1, by have := List.length_pos_iff.2 h0; omega⟩
    have e : (p.map rawof).getD ((p.map rawof).length - 1) .nil = rawof (p.getD k 0) := by
      rw [List.length_map, hk, Nat.add_sub_cancel, List.getD_eq_getElem?_getD, List.getD_eq_getElem?_getD, List.getElem?_map, List.getElem?_eq_getElem (by omega)]; rfl
    rw [e]
    have e2 : val (rawof (p.getD k 0)).xs = (p.getD k 0).num.natAbs := val_words _
    rw [e2]
    have hm : p.map rawof ≠ [] := fun e => h0 (List.map_eq_nil_iff.1 e)
    rw [decide_eq_false hm, Bool.false_or, decide_eq_true_iff]
    constructor
    · intro h j hj
      obtain rfl : j = k := by omega
      intro e; rw [e] at h; exact h rfl
    · intro h e
      exact h k hk (Rat.num_eq_zero.1 (Int.natAbs_eq_zero.1 e))
theorem c_valid (v : Value) (p : List Rat) (w : World) (hv : IsPoly w v p) (hl : p.length ≤ 1000000) (hs : Sz p) (hp : PC p) :
    Calls Tryz.prog 13 #[v] w fun e w' => e = .returned (.bool true) ∧ Below w.heap.size w w' := by
  obtain ⟨A, c, rfl, hA, hc⟩ := hv
  refine (uni_valid A _ c _ w (hA.raws hs) (by rw [List.length_map]) hc (by omega)).mono ?_
  rintro e w1 ⟨rfl, hb⟩
  rw [(uvalid_of p).2 hp]; exact ⟨rfl, hb⟩
theorem c_invalid (v : Value) (p : List Rat) (w : World) (hv : IsPoly w v p) (hl : p.length ≤ 1000000) (hs : Sz p) (hp : ¬ PC p) :
    Calls Tryz.prog 13 #[v] w fun e w' => e = .returned (.bool false) ∧ Below w.heap.size w w' := by
  obtain ⟨A, c, rfl, hA, hc⟩ := hv
  refine (uni_valid A _ c _ w (hA.raws hs) (by rw [List.length_map]) hc (by omega)).mono ?_
  rintro e w1 ⟨rfl, hb⟩
  rw [Bool.eq_false_iff.2 (fun h => hp ((uvalid_of p).1 h))]; exact ⟨rfl, hb⟩
theorem c_rvalid (v : Value) (p : List Rat) (w : World) (hv : IsPoly w v p) (hl : p.length ≤ 1000000) (hs : Sz p) (hp : PC p) :
    Calls Tryz.prog 14 #[v] w fun e w' => e = .returned (.bool true) ∧ Below w.heap.size w w' := by
  obtain ⟨A, c, rfl, hA, hc⟩ := hv
  refine (p_valid A _ c _ w (hA.raws hs) (by rw [List.length_map]) hc (by omega)).mono ?_
  rintro e w1 ⟨rfl, hb⟩
  rw [(uvalid_of p).2 hp]; exact ⟨rfl, hb⟩
theorem c_same (u v : Value) (p q : List Rat) (w : World) (hu : IsPoly w u p) (hv : IsPoly w v q) (hl : p.length ≤ 1000000) (h : p = q) :
    Calls Tryz.prog 19 #[u, v] w fun e w' => e = .returned (.bool true) ∧ Below w.heap.size w w' := by
  refine (p_same u v p q w hu hv (by omega)).mono ?_
  rintro e w1 ⟨rfl, hb⟩
  rw [decide_eq_true h]; exact ⟨rfl, hb⟩
theorem c_qsame (u v : Value) (a b : Rat) (w : World) (hu : IsRat w u a) (hv : IsRat w v b) (h : a = b) :
    Calls Tryz.prog 41 #[u, v] w fun e w' => e = .returned (.bool true) ∧ Below w.heap.size w w' := by
  refine (q_Same u v a b w hu hv).mono ?_
  rintro e w1 ⟨rfl, hb⟩
  rw [decide_eq_true h]; exact ⟨rfl, hb⟩
/-- poly of constants, behind the alloc that holds them. -/
theorem c_poly (l : List Int) (n : Nat) (cs : Array Value) (p : List Rat) (w : World) (hn : n = l.length) (hl : n ≤ 21) (hr : ∀ x ∈ l, -128 ≤ x ∧ x ≤ 127) (hcs : cs = (l.map (Value.int .i8)).toArray) (hp : pz l = p) (T : TypeId) :
    Calls Tryz.prog 20 #[.slice (some ⟨w.heap.size, 0, none⟩) n n] (w.alloc (.cells cs T)) fun e w' => (∃ v, e = .returned v ∧ IsPoly w' v p) ∧ Below w.heap.size w w' := by
  subst hp
  have hA : I8s (w.alloc (.cells cs T)) (some ⟨w.heap.size, 0, none⟩) l := by
    intro j hj
    have hm : l.getD j 0 ∈ l := by
      rw [List.getD_eq_getElem?_getD, List.getElem?_eq_getElem hj]; exact List.getElem_mem hj
    refine ⟨hr _ hm, w.heap.size, 0, rfl, by simp, ?_⟩
    subst hcs
    clear hn
    have e : l.getD j 0 = l[j] := by rw [List.getD_eq_getElem?_getD, List.getElem?_eq_getElem hj]; rfl
    rw [e]
    clear hl hr hm
    simp [go_sem, hj]
  refine (l_poly _ n n l _ hA hn (Nat.le_refl _) hl).mono ?_
  rintro e w1 ⟨⟨v, rfl, hv⟩, hb⟩
  exact ⟨⟨_, rfl, hv.poly⟩, (below_alloc w (.cells cs T)).trans (hb.mono (by simp))⟩
/-- The parts' cells. -/
theorem IsParts.cells {B : Nat} {w : World} {v : Value} {l : List (List Rat × Nat)} (h : IsParts B w v l) (h0 : 0 < l.length) : ∃ g cap, v = .slice (some ⟨g, 0, none⟩) l.length cap ∧ B ≤ g ∧ g < w.heap.size ∧ l.length ≤ cap ∧
    ∀ (j : Nat) (p : List Rat) (n : Nat), l[j]? = some (p, n) → ∃ A c, w.cell? ⟨g, j * 2, none⟩ = some (.slice A p.length c) ∧ w.cell? ⟨g, j * 2 + 1, none⟩ = some (.int .i64 (n : Int)) ∧ IsPoly w (.slice A p.length c) p := by
  obtain ⟨cs, ⟨h1, h2, h3⟩, h4, h5⟩ := h
  rcases h5 with ⟨rfl, h5⟩ | ⟨g, cap, cur, rfl, k1, k2, k3, k4, k5, k6, k7⟩
  · omega
  · refine ⟨g, cap, rfl, k1, (Array.getElem?_eq_some_iff.1 k2).1, k3, fun j p n hj => ?_⟩
    obtain ⟨A, c, m1, m2, m3, m4⟩ := h3 j p n hj
    have hc : ∀ i u, cs[i]? = some u → w.cell? ⟨g, i, none⟩ = some u := by
      intro i u hi
      have hlt : i < l.length * 2 := by rw [← h1]; exact (List.getElem?_eq_some_iff.1 hi).1
      rw [← k6, List.getElem?_take_of_lt hlt, Array.getElem?_toList] at hi
      simp [World.cell?, k2, hi]
    exact ⟨A, c, hc _ _ m1, hc _ _ m4, ⟨A, c, rfl, m2, m3⟩⟩

end Go.Proofs.YtlklgeidffjidaaGreat

/- The walk of sanity, for polynomials that are told by their properties. -/
namespace Go.Proofs.YtlklgeidffjidaaGreat
open Go.RowKit
set_option linter.unusedSimpArgs false

theorem not_PC_zero : ¬ PC [((0 : Int) : Rat)] := fun h => h 0 rfl rfl
theorem Fn.zero : Fn [((0 : Int) : Rat)] := ⟨by simp, (Bq.zero _).single⟩
theorem IsPoly.single_new {w : World} {s A n c t B m d q} (h : IsRat w (.agg #[.bool s, .slice A n c, .bool t, .slice B m d]) q) (T : TypeId) : IsPoly (w.alloc (.cells #[.bool s, .slice A n c, .bool t, .slice B m d] T)) (.slice (some ⟨w.heap.size, 0, none⟩) 1 1) [q] := by
  obtain ⟨_, _, _, _, _, _, _, _, e, h⟩ := h
  simp only [Value.agg.injEq, Array.mk.injEq, List.cons.injEq, Value.bool.injEq, Value.slice.injEq, and_true] at e
  obtain ⟨rfl, ⟨rfl, rfl, rfl⟩, rfl, rfl, rfl, rfl⟩ := e
  refine ⟨_, 1, rfl, fun j hj => ?_, Nat.le_refl _⟩
  have hj : j < 1 := hj
  obtain rfl : j = 0 := by omega
  exact ⟨_, _, rfl, _, _, _, _, _, _, _, _, by simp [go_sem], by simp [go_sem], by simp [go_sem], by simp [go_sem], h.below (below_alloc _ _)⟩
theorem fn_le {p : List Rat} (h : Fn p) : p.length ≤ 1000000 := by have := h.1; omega
def PolyC (n : Nat) (cs : Array Value) (p : List Rat) : Prop := ∀ w : World, Calls Tryz.prog 20 #[.slice (some ⟨w.heap.size, 0, none⟩) n n] (w.alloc (.cells cs 38)) fun e w' => (∃ v, e = .returned v ∧ IsPoly w' v p) ∧ Below w.heap.size w w'
/-- The same in a region whose order is drawn. -/
def PolyD (n : Nat) (cs : Array Value) (p : List Rat) : Prop := ∀ w w0 : World, w0 = w.alloc (.cells cs 38) ∨ w0 = (w.alloc (.cells cs 38)).drew → Calls Tryz.prog 20 #[.slice (some ⟨w.heap.size, 0, none⟩) n n] w0 fun e w' => (∃ v, e = .returned v ∧ IsPoly w' v p) ∧ Below w0.heap.size w0 w'
set_option maxRecDepth 100000 in
set_option maxHeartbeats 20000000 in
theorem l_sanity_aux (w : World) (A1 A2 A3 A4 A5 A6 A7 A8 A9 A10 A11 A12 A13 A14 A15 A16 : List Rat) (one half : Rat) (K : Nat)
    (HP1 : PolyC 3 #[Value.int .i8 1, Value.int .i8 0, Value.int .i8 1] A1) (F1 : Fn A1) (C1 : PC A1)
    (HP2 : PolyC 2 #[Value.int .i8 0, Value.int .i8 2] A2) (F2 : Fn A2) (C2 : PC A2)
    (HP3 : PolyC 1 #[Value.int .i8 1] A3) (F3 : Fn A3) (C3 : PC A3)
    (HP4 : PolyC 2 #[Value.int .i8 0, Value.int .i8 1] A4) (F4 : Fn A4) (C4 : PC A4)
    (HP5 : PolyC 2 #[Value.int .i8 1, Value.int .i8 1] A5) (F5 : Fn A5) (C5 : PC A5)
    (HP6 : PolyC 1 #[Value.int .i8 2] A6) (F6 : Fn A6) (C6 : PC A6)
    (HP7 : PolyC 4 #[Value.int .i8 0, Value.int .i8 0, Value.int .i8 (-2), Value.int .i8 2] A7) (F7 : Fn A7) (C7 : PC A7)
    (HP8 : PolyC 1 #[Value.int .i8 (-1)] A8) (F8 : Fn A8) (C8 : PC A8)
    (HP9 : PolyC 2 #[Value.int .i8 (-1), Value.int .i8 1] A9) (F9 : Fn A9) (C9 : PC A9)
    (HP10 : PolyC 3 #[Value.int .i8 (-1), Value.int .i8 0, Value.int .i8 1] A10) (F10 : Fn A10) (C10 : PC A10)
    (HP11 : PolyC 2 #[Value.int .i8 (-2), Value.int .i8 2] A11) (F11 : Fn A11) (C11 : PC A11)
    (HP12 : PolyC 1 #[Value.int .i8 3] A12) (F12 : Fn A12) (C12 : PC A12)
    (HP13 : PolyC 3 #[Value.int .i8 (-2), Value.int .i8 0, Value.int .i8 1] A13) (F13 : Fn A13) (C13 : PC A13)
    (HP14 : PolyC 1 #[Value.int .i8 5] A14) (F14 : Fn A14) (C14 : PC A14)
    (HP15 : PolyC 3 #[Value.int .i8 0, Value.int .i8 0, Value.int .i8 1] A15) (F15 : Fn A15) (C15 : PC A15)
    (HP16 : PolyC 3 #[Value.int .i8 1, Value.int .i8 2, Value.int .i8 1] A16) (F16 : Fn A16) (C16 : PC A16)
    (N2 : A2 ≠ []) (N5 : A5 ≠ []) (N6 : A6 ≠ []) (hh : half = 1 / 2) (d1 : DivOK A1 A2) (b1 : BezAll A4 A5) (s1 : SqfOK K A7)
    (e1 : pquo A1 A2 = pscale half A4) (e2 : pmod A1 A2 = A3) (e3 : pbez A4 A5 = (A3, A8, A3)) (e4 : pbez A6 [] = (A3, pcon half, [])) (e5 : psqf K A7 = [(A9, 1), (A4, 2)])
    (g1 : GcdOK A10 A11) (g2 : GcdOK [] []) (g3 : GcdOK A12 []) (e6 : pgcd A10 A11 = A9) (e7 : pgcd [] [] = []) (e8 : pgcd A12 [] = A3)
    (r1 : ResOK A9.length A13 A9 1) (r2 : ResOK A1.length A12 A1 1) (r3 : ResOK A14.length A6 A14 1) (e9 : pres A13 A9 = ((-1 : Int) : Rat)) (e10 : pres A12 A1 = ((9 : Int) : Rat)) (e11 : pres A6 A14 = ((1 : Int) : Rat)) (e12 : pres A4 [] = ((0 : Int) : Rat))
    (c1 : 1 + A15.length * A5.length + A5.length ≤ 400000) (c2 : ∀ k, k ≤ A15.length → csz A5.length 10 10 k ≤ 68719476736) (z15 : SzB A15 10) (z5 : SzB A5 10) (e13 : pcomp A15 A5 = A16)
    (PD9 : PolyD 2 #[Value.int .i8 (-1), Value.int .i8 1] A9) (PD4 : PolyD 2 #[Value.int .i8 0, Value.int .i8 1] A4) (fq : Fn (pquo A1 A2)) (bh : rsz half ≤ 100) :
    Calls Tryz.prog 12 #[] w fun e w' => e = .returned (.bool true) ∧ Below w.heap.size w w' := by
  have hB := Below.refl w.heap.size w
  have HH : ∀ W, Calls Tryz.prog 56 #[] W fun e w' => (∃ v, e = .returned v ∧ IsRat w' v half) ∧ Below W.heap.size W w' := by rw [hh]; exact l_half
  clear hh
  go_enter Tryz.func12, Tryz.ntmps12
  go_wp2_with fail
  refine (HP1 _).mono ?_
  rintro e w1 ⟨⟨v_i1, rfl, i1⟩, hb⟩
  replace hB := hB.trans (hb.mono hB.size)
  clear hb
  go_wp2_with fail
  refine (HP2 _).mono ?_
  rintro e w2 ⟨⟨v_i2, rfl, i2⟩, hb⟩
  replace hB := hB.trans (hb.mono hB.size)
  replace i1 := i1.below hb
  clear hb
  go_wp2_with fail
  refine (uni_divmod _ _ _ _ _ i1 i2 C2 N2 d1).mono ?_
  rintro e w3 ⟨⟨q, r, rfl, iq, ir⟩, hb⟩
  replace hB := hB.trans (hb.mono hB.size)
  replace i1 := i1.below hb
  replace i2 := i2.below hb
  clear hb
  have iq := iq.poly
  have ir := ir.poly
  rw [e2] at ir
  clear i1
  clear i2
  go_wp2_with fail
  refine (HP3 _).mono ?_
  rintro e w4 ⟨⟨v_i3, rfl, i3⟩, hb⟩
  replace hB := hB.trans (hb.mono hB.size)
  replace iq := iq.below hb
  replace ir := ir.below hb
  clear hb
  obtain ⟨Az, cz, rfl, _, _⟩ := i3
  go_wp2_with fail
  refine (uni_divmod_zero _ _ _ _ _ _ _ rfl).mono ?_
  rintro e w5 ⟨rfl, hb⟩
  replace hB := hB.trans (hb.mono hB.size)
  replace iq := iq.below hb
  replace ir := ir.below hb
  clear hb
  go_wp2_with fail
  refine (HP4 _).mono ?_
  rintro e w6 ⟨⟨v_i4, rfl, i4⟩, hb⟩
  replace hB := hB.trans (hb.mono hB.size)
  replace iq := iq.below hb
  replace ir := ir.below hb
  clear hb
  go_wp2_with fail
  refine (HP5 _).mono ?_
  rintro e w7 ⟨⟨v_i5, rfl, i5⟩, hb⟩
  replace hB := hB.trans (hb.mono hB.size)
  replace iq := iq.below hb
  replace ir := ir.below hb
  replace i4 := i4.below hb
  clear hb
  go_wp2_with fail
  refine (uni_bezout _ _ _ _ _ i4 i5 C4 C5 (by have := F4.1; omega) ⟨_, F4.szB, by omega⟩ (fun _ => b1)).mono ?_
  rintro e w8 ⟨⟨g, u, v, rfl, ig, iu, iv⟩, hb⟩
  replace hB := hB.trans (hb.mono hB.size)
  replace iq := iq.below hb
  replace ir := ir.below hb
  replace i4 := i4.below hb
  replace i5 := i5.below hb
  clear hb
  rw [e3] at ig iu iv
  dsimp only at ig iu iv
  clear i4
  clear i5
  go_wp2_with fail
  refine (HP6 _).mono ?_
  rintro e w9 ⟨⟨v_i6, rfl, i6⟩, hb⟩
  replace hB := hB.trans (hb.mono hB.size)
  replace iq := iq.below hb
  replace ir := ir.below hb
  replace ig := ig.below hb
  replace iu := iu.below hb
  replace iv := iv.below hb
  clear hb
  go_wp2_with fail
  refine (uni_bezout _ _ _ _ _ i6 (IsPoly.nil _ _ _) C6 PC.nil (by have := F6.1; omega) ⟨_, F6.szB, by omega⟩ (fun h => absurd rfl h)).mono ?_
  rintro e w10 ⟨⟨h, s, t, rfl, ih, is, it⟩, hb⟩
  replace hB := hB.trans (hb.mono hB.size)
  replace iq := iq.below hb
  replace ir := ir.below hb
  replace ig := ig.below hb
  replace iu := iu.below hb
  replace iv := iv.below hb
  replace i6 := i6.below hb
  clear hb
  rw [e4] at ih is it
  dsimp only at ih is it
  obtain ⟨At, ct, rfl, _, _⟩ := it
  clear i6
  go_wp2_with fail
  refine (HP7 _).mono ?_
  rintro e w11 ⟨⟨v_i7, rfl, i7⟩, hb⟩
  replace hB := hB.trans (hb.mono hB.size)
  replace iq := iq.below hb
  replace ir := ir.below hb
  replace ig := ig.below hb
  replace iu := iu.below hb
  replace iv := iv.below hb
  replace ih := ih.below hb
  replace is := is.below hb
  clear hb
  go_wp2_with fail
  refine (uni_sqf _ _ K _ i7 C7 (fun _ => s1)).mono ?_
  rintro e w12 ⟨⟨l, rfl, il⟩, hb⟩
  replace hB := hB.trans (hb.mono hB.size)
  replace iq := iq.below hb
  replace ir := ir.below hb
  replace ig := ig.below hb
  replace iu := iu.below hb
  replace iv := iv.below hb
  replace ih := ih.below hb
  replace is := is.below hb
  replace i7 := i7.below hb
  clear hb
  rw [e5] at il
  obtain ⟨gl, cl, rfl, hgB, hgl, hcl, hcs⟩ := il.cells (by simp)
  obtain ⟨Al, dl, a0, a1, il0⟩ := hcs 0 A9 1 rfl
  obtain ⟨Am, dm, a2, a3, il1⟩ := hcs 1 A4 2 rfl
  clear il hcs
  dsimp only [List.length] at *
  clear i7
  go_wp2_with fail
  refine (HH _).mono ?_
  rintro e w13 ⟨⟨xh, rfl, irh⟩, hb⟩
  replace hB := hB.trans (hb.mono hB.size)
  replace iq := iq.below hb
  replace ir := ir.below hb
  replace ig := ig.below hb
  replace iu := iu.below hb
  replace iv := iv.below hb
  replace ih := ih.below hb
  replace is := is.below hb
  replace il0 := il0.below hb
  replace il1 := il1.below hb
  replace a0 := cell_below a0 hb
  replace a1 := cell_below a1 hb
  replace a2 := cell_below a2 hb
  replace a3 := cell_below a3 hb
  clear hb
  go_wp2_with fail
  refine (HP4 _).mono ?_
  rintro e w14 ⟨⟨v_i4, rfl, i4⟩, hb⟩
  replace hB := hB.trans (hb.mono hB.size)
  replace iq := iq.below hb
  replace ir := ir.below hb
  replace ig := ig.below hb
  replace iu := iu.below hb
  replace iv := iv.below hb
  replace ih := ih.below hb
  replace is := is.below hb
  replace il0 := il0.below hb
  replace il1 := il1.below hb
  replace a0 := cell_below a0 hb
  replace a1 := cell_below a1 hb
  replace a2 := cell_below a2 hb
  replace a3 := cell_below a3 hb
  replace irh := irh.below hb
  clear hb
  go_wp2_with fail
  refine (p_scale _ _ _ _ _ irh i4 (fn_le F4) (by omega) F4.sz).mono ?_
  rintro e w15 ⟨⟨z, rfl, isc⟩, hb⟩
  replace hB := hB.trans (hb.mono hB.size)
  replace iq := iq.below hb
  replace ir := ir.below hb
  replace ig := ig.below hb
  replace iu := iu.below hb
  replace iv := iv.below hb
  replace ih := ih.below hb
  replace is := is.below hb
  replace il0 := il0.below hb
  replace il1 := il1.below hb
  replace a0 := cell_below a0 hb
  replace a1 := cell_below a1 hb
  replace a2 := cell_below a2 hb
  replace a3 := cell_below a3 hb
  replace irh := irh.below hb
  replace i4 := i4.below hb
  clear hb
  have isc := isc.poly
  clear irh
  clear i4
  go_wp2_with fail
  refine (c_same _ _ _ _ _ iq isc (by have := fq.len; omega) e1).mono ?_
  rintro e w16 ⟨rfl, hb⟩
  replace hB := hB.trans (hb.mono hB.size)
  replace iq := iq.below hb
  replace ir := ir.below hb
  replace ig := ig.below hb
  replace iu := iu.below hb
  replace iv := iv.below hb
  replace ih := ih.below hb
  replace is := is.below hb
  replace il0 := il0.below hb
  replace il1 := il1.below hb
  replace a0 := cell_below a0 hb
  replace a1 := cell_below a1 hb
  replace a2 := cell_below a2 hb
  replace a3 := cell_below a3 hb
  replace isc := isc.below hb
  clear hb
  clear iq
  clear isc
  go_wp2_with fail
  refine (HP3 _).mono ?_
  rintro e w17 ⟨⟨v_i3, rfl, i3⟩, hb⟩
  replace hB := hB.trans (hb.mono hB.size)
  replace ir := ir.below hb
  replace ig := ig.below hb
  replace iu := iu.below hb
  replace iv := iv.below hb
  replace ih := ih.below hb
  replace is := is.below hb
  replace il0 := il0.below hb
  replace il1 := il1.below hb
  replace a0 := cell_below a0 hb
  replace a1 := cell_below a1 hb
  replace a2 := cell_below a2 hb
  replace a3 := cell_below a3 hb
  clear hb
  go_wp2_with fail
  refine (c_same _ _ _ _ _ ir i3 (by have := F3.len; omega) rfl).mono ?_
  rintro e w18 ⟨rfl, hb⟩
  replace hB := hB.trans (hb.mono hB.size)
  replace ir := ir.below hb
  replace ig := ig.below hb
  replace iu := iu.below hb
  replace iv := iv.below hb
  replace ih := ih.below hb
  replace is := is.below hb
  replace il0 := il0.below hb
  replace il1 := il1.below hb
  replace a0 := cell_below a0 hb
  replace a1 := cell_below a1 hb
  replace a2 := cell_below a2 hb
  replace a3 := cell_below a3 hb
  replace i3 := i3.below hb
  clear hb
  clear ir
  clear i3
  go_wp2_with fail
  refine (HP10 _).mono ?_
  rintro e w19 ⟨⟨v_i10, rfl, i10⟩, hb⟩
  replace hB := hB.trans (hb.mono hB.size)
  replace ig := ig.below hb
  replace iu := iu.below hb
  replace iv := iv.below hb
  replace ih := ih.below hb
  replace is := is.below hb
  replace il0 := il0.below hb
  replace il1 := il1.below hb
  replace a0 := cell_below a0 hb
  replace a1 := cell_below a1 hb
  replace a2 := cell_below a2 hb
  replace a3 := cell_below a3 hb
  clear hb
  go_wp2_with fail
  refine (HP11 _).mono ?_
  rintro e w20 ⟨⟨v_i11, rfl, i11⟩, hb⟩
  replace hB := hB.trans (hb.mono hB.size)
  replace ig := ig.below hb
  replace iu := iu.below hb
  replace iv := iv.below hb
  replace ih := ih.below hb
  replace is := is.below hb
  replace il0 := il0.below hb
  replace il1 := il1.below hb
  replace a0 := cell_below a0 hb
  replace a1 := cell_below a1 hb
  replace a2 := cell_below a2 hb
  replace a3 := cell_below a3 hb
  replace i10 := i10.below hb
  clear hb
  go_wp2_with fail
  refine (uni_gcd _ _ _ _ _ i10 i11 C10 C11 (by have := F10.1; omega) (by have := F11.1; omega) g1).mono ?_
  rintro e w21 ⟨⟨z, rfl, iz⟩, hb⟩
  replace hB := hB.trans (hb.mono hB.size)
  replace ig := ig.below hb
  replace iu := iu.below hb
  replace iv := iv.below hb
  replace ih := ih.below hb
  replace is := is.below hb
  replace il0 := il0.below hb
  replace il1 := il1.below hb
  replace a0 := cell_below a0 hb
  replace a1 := cell_below a1 hb
  replace a2 := cell_below a2 hb
  replace a3 := cell_below a3 hb
  replace i10 := i10.below hb
  replace i11 := i11.below hb
  clear hb
  have iz := iz.poly
  rw [e6] at iz
  clear i10
  clear i11
  go_wp2_with fail
  refine (HP9 _).mono ?_
  rintro e w22 ⟨⟨v_i9, rfl, i9⟩, hb⟩
  replace hB := hB.trans (hb.mono hB.size)
  replace ig := ig.below hb
  replace iu := iu.below hb
  replace iv := iv.below hb
  replace ih := ih.below hb
  replace is := is.below hb
  replace il0 := il0.below hb
  replace il1 := il1.below hb
  replace a0 := cell_below a0 hb
  replace a1 := cell_below a1 hb
  replace a2 := cell_below a2 hb
  replace a3 := cell_below a3 hb
  replace iz := iz.below hb
  clear hb
  go_wp2_with fail
  refine (c_same _ _ _ _ _ iz i9 (by have := F9.len; omega) rfl).mono ?_
  rintro e w23 ⟨rfl, hb⟩
  replace hB := hB.trans (hb.mono hB.size)
  replace ig := ig.below hb
  replace iu := iu.below hb
  replace iv := iv.below hb
  replace ih := ih.below hb
  replace is := is.below hb
  replace il0 := il0.below hb
  replace il1 := il1.below hb
  replace a0 := cell_below a0 hb
  replace a1 := cell_below a1 hb
  replace a2 := cell_below a2 hb
  replace a3 := cell_below a3 hb
  replace iz := iz.below hb
  replace i9 := i9.below hb
  clear hb
  clear iz
  clear i9
  go_wp2_with fail
  refine (uni_gcd _ _ _ _ _ (IsPoly.nil _ _ _) (IsPoly.nil _ _ _) PC.nil PC.nil (by simp) (by simp) g2).mono ?_
  rintro e w24 ⟨⟨z, rfl, iz⟩, hb⟩
  replace hB := hB.trans (hb.mono hB.size)
  replace ig := ig.below hb
  replace iu := iu.below hb
  replace iv := iv.below hb
  replace ih := ih.below hb
  replace is := is.below hb
  replace il0 := il0.below hb
  replace il1 := il1.below hb
  replace a0 := cell_below a0 hb
  replace a1 := cell_below a1 hb
  replace a2 := cell_below a2 hb
  replace a3 := cell_below a3 hb
  clear hb
  have iz := iz.poly
  rw [e7] at iz
  obtain ⟨_, _, rfl, _, _⟩ := iz
  dsimp only [List.length]
  go_wp2_with fail
  refine (HP12 _).mono ?_
  rintro e w25 ⟨⟨v_i12, rfl, i12⟩, hb⟩
  replace hB := hB.trans (hb.mono hB.size)
  replace ig := ig.below hb
  replace iu := iu.below hb
  replace iv := iv.below hb
  replace ih := ih.below hb
  replace is := is.below hb
  replace il0 := il0.below hb
  replace il1 := il1.below hb
  replace a0 := cell_below a0 hb
  replace a1 := cell_below a1 hb
  replace a2 := cell_below a2 hb
  replace a3 := cell_below a3 hb
  clear hb
  go_wp2_with fail
  refine (uni_gcd _ _ _ _ _ i12 (IsPoly.nil _ _ _) C12 PC.nil (by have := F12.1; omega) (by simp) g3).mono ?_
  rintro e w26 ⟨⟨z, rfl, iz⟩, hb⟩
  replace hB := hB.trans (hb.mono hB.size)
  replace ig := ig.below hb
  replace iu := iu.below hb
  replace iv := iv.below hb
  replace ih := ih.below hb
  replace is := is.below hb
  replace il0 := il0.below hb
  replace il1 := il1.below hb
  replace a0 := cell_below a0 hb
  replace a1 := cell_below a1 hb
  replace a2 := cell_below a2 hb
  replace a3 := cell_below a3 hb
  replace i12 := i12.below hb
  clear hb
  have iz := iz.poly
  rw [e8] at iz
  clear i12
  go_wp2_with fail
  refine (HP3 _).mono ?_
  rintro e w27 ⟨⟨v_i3, rfl, i3⟩, hb⟩
  replace hB := hB.trans (hb.mono hB.size)
  replace ig := ig.below hb
  replace iu := iu.below hb
  replace iv := iv.below hb
  replace ih := ih.below hb
  replace is := is.below hb
  replace il0 := il0.below hb
  replace il1 := il1.below hb
  replace a0 := cell_below a0 hb
  replace a1 := cell_below a1 hb
  replace a2 := cell_below a2 hb
  replace a3 := cell_below a3 hb
  replace iz := iz.below hb
  clear hb
  go_wp2_with fail
  refine (c_same _ _ _ _ _ iz i3 (by have := F3.len; omega) rfl).mono ?_
  rintro e w28 ⟨rfl, hb⟩
  replace hB := hB.trans (hb.mono hB.size)
  replace ig := ig.below hb
  replace iu := iu.below hb
  replace iv := iv.below hb
  replace ih := ih.below hb
  replace is := is.below hb
  replace il0 := il0.below hb
  replace il1 := il1.below hb
  replace a0 := cell_below a0 hb
  replace a1 := cell_below a1 hb
  replace a2 := cell_below a2 hb
  replace a3 := cell_below a3 hb
  replace iz := iz.below hb
  replace i3 := i3.below hb
  clear hb
  clear iz
  clear i3
  go_wp2_with fail
  refine (HP3 _).mono ?_
  rintro e w29 ⟨⟨v_i3, rfl, i3⟩, hb⟩
  replace hB := hB.trans (hb.mono hB.size)
  replace ig := ig.below hb
  replace iu := iu.below hb
  replace iv := iv.below hb
  replace ih := ih.below hb
  replace is := is.below hb
  replace il0 := il0.below hb
  replace il1 := il1.below hb
  replace a0 := cell_below a0 hb
  replace a1 := cell_below a1 hb
  replace a2 := cell_below a2 hb
  replace a3 := cell_below a3 hb
  clear hb
  go_wp2_with fail
  refine (c_same _ _ _ _ _ ig i3 (by have := F3.len; omega) rfl).mono ?_
  rintro e w30 ⟨rfl, hb⟩
  replace hB := hB.trans (hb.mono hB.size)
  replace ig := ig.below hb
  replace iu := iu.below hb
  replace iv := iv.below hb
  replace ih := ih.below hb
  replace is := is.below hb
  replace il0 := il0.below hb
  replace il1 := il1.below hb
  replace a0 := cell_below a0 hb
  replace a1 := cell_below a1 hb
  replace a2 := cell_below a2 hb
  replace a3 := cell_below a3 hb
  replace i3 := i3.below hb
  clear hb
  clear ig
  clear i3
  go_wp2_with fail
  refine (HP8 _).mono ?_
  rintro e w31 ⟨⟨v_i8, rfl, i8⟩, hb⟩
  replace hB := hB.trans (hb.mono hB.size)
  replace iu := iu.below hb
  replace iv := iv.below hb
  replace ih := ih.below hb
  replace is := is.below hb
  replace il0 := il0.below hb
  replace il1 := il1.below hb
  replace a0 := cell_below a0 hb
  replace a1 := cell_below a1 hb
  replace a2 := cell_below a2 hb
  replace a3 := cell_below a3 hb
  clear hb
  go_wp2_with fail
  refine (c_same _ _ _ _ _ iu i8 (by have := F8.len; omega) rfl).mono ?_
  rintro e w32 ⟨rfl, hb⟩
  replace hB := hB.trans (hb.mono hB.size)
  replace iu := iu.below hb
  replace iv := iv.below hb
  replace ih := ih.below hb
  replace is := is.below hb
  replace il0 := il0.below hb
  replace il1 := il1.below hb
  replace a0 := cell_below a0 hb
  replace a1 := cell_below a1 hb
  replace a2 := cell_below a2 hb
  replace a3 := cell_below a3 hb
  replace i8 := i8.below hb
  clear hb
  clear iu
  clear i8
  go_wp2_with fail
  refine (HP3 _).mono ?_
  rintro e w33 ⟨⟨v_i3, rfl, i3⟩, hb⟩
  replace hB := hB.trans (hb.mono hB.size)
  replace iv := iv.below hb
  replace ih := ih.below hb
  replace is := is.below hb
  replace il0 := il0.below hb
  replace il1 := il1.below hb
  replace a0 := cell_below a0 hb
  replace a1 := cell_below a1 hb
  replace a2 := cell_below a2 hb
  replace a3 := cell_below a3 hb
  clear hb
  go_wp2_with fail
  refine (c_same _ _ _ _ _ iv i3 (by have := F3.len; omega) rfl).mono ?_
  rintro e w34 ⟨rfl, hb⟩
  replace hB := hB.trans (hb.mono hB.size)
  replace iv := iv.below hb
  replace ih := ih.below hb
  replace is := is.below hb
  replace il0 := il0.below hb
  replace il1 := il1.below hb
  replace a0 := cell_below a0 hb
  replace a1 := cell_below a1 hb
  replace a2 := cell_below a2 hb
  replace a3 := cell_below a3 hb
  replace i3 := i3.below hb
  clear hb
  clear iv
  clear i3
  go_wp2_with fail
  refine (HP3 _).mono ?_
  rintro e w35 ⟨⟨v_i3, rfl, i3⟩, hb⟩
  replace hB := hB.trans (hb.mono hB.size)
  replace ih := ih.below hb
  replace is := is.below hb
  replace il0 := il0.below hb
  replace il1 := il1.below hb
  replace a0 := cell_below a0 hb
  replace a1 := cell_below a1 hb
  replace a2 := cell_below a2 hb
  replace a3 := cell_below a3 hb
  clear hb
  go_wp2_with fail
  refine (c_same _ _ _ _ _ ih i3 (by have := F3.len; omega) rfl).mono ?_
  rintro e w36 ⟨rfl, hb⟩
  replace hB := hB.trans (hb.mono hB.size)
  replace ih := ih.below hb
  replace is := is.below hb
  replace il0 := il0.below hb
  replace il1 := il1.below hb
  replace a0 := cell_below a0 hb
  replace a1 := cell_below a1 hb
  replace a2 := cell_below a2 hb
  replace a3 := cell_below a3 hb
  replace i3 := i3.below hb
  clear hb
  clear ih
  clear i3
  go_wp2_with fail
  refine (HH _).mono ?_
  rintro e w37 ⟨⟨xh, rfl, irh⟩, hb⟩
  replace hB := hB.trans (hb.mono hB.size)
  replace is := is.below hb
  replace il0 := il0.below hb
  replace il1 := il1.below hb
  replace a0 := cell_below a0 hb
  replace a1 := cell_below a1 hb
  replace a2 := cell_below a2 hb
  replace a3 := cell_below a3 hb
  clear hb
  go_wp2_with fail
  refine (p_constant _ _ _ irh).mono ?_
  rintro e w38 ⟨⟨z, rfl, iz⟩, hb⟩
  replace hB := hB.trans (hb.mono hB.size)
  replace is := is.below hb
  replace il0 := il0.below hb
  replace il1 := il1.below hb
  replace a0 := cell_below a0 hb
  replace a1 := cell_below a1 hb
  replace a2 := cell_below a2 hb
  replace a3 := cell_below a3 hb
  replace irh := irh.below hb
  clear hb
  have iz := iz.poly
  clear irh
  have hpl := pcon_length_le half
  go_wp2_with fail
  refine (c_same _ _ _ _ _ is iz (by omega) rfl).mono ?_
  rintro e w39 ⟨rfl, hb⟩
  replace hB := hB.trans (hb.mono hB.size)
  replace is := is.below hb
  replace il0 := il0.below hb
  replace il1 := il1.below hb
  replace a0 := cell_below a0 hb
  replace a1 := cell_below a1 hb
  replace a2 := cell_below a2 hb
  replace a3 := cell_below a3 hb
  replace iz := iz.below hb
  clear hb
  clear is
  clear iz
  generalize hWW : w39 = W at *
  clear hWW
  have hz : w.heap.size ≤ W.heap.size := hB.size
  have hWr := Below.refl W.heap.size W
  have a0' : W.cell? ⟨gl, 0, none⟩ = some (.slice Al A9.length dl) := a0
  have a1' : W.cell? ⟨gl, 1, none⟩ = some (.int .i64 1) := a1
  have a2' : W.cell? ⟨gl, 2, none⟩ = some (.slice Am A4.length dm) := a2
  have a3' : W.cell? ⟨gl, 3, none⟩ = some (.int .i64 2) := a3
  have il0' : IsPoly W (.slice Al A9.length dl) A9 := il0
  have il1' : IsPoly W (.slice Am A4.length dm) A4 := il1
  clear a0 a1 a2 a3 il0 il1
  go_upto_region 10 with (fail)
  go_region_held3 (fun w' => Below W.heap.size W w' ∧ w'.cell? ⟨gl, 0, none⟩ = some (.slice Al A9.length dl) ∧ w'.cell? ⟨gl, 1, none⟩ = some (.int .i64 1) ∧ w'.cell? ⟨gl, 2, none⟩ = some (.slice Am A4.length dm) ∧ w'.cell? ⟨gl, 3, none⟩ = some (.int .i64 2))
    (((try dsimp only); refine S_4 a0' a1' a2' a3' ?_; repeat' (first | with_reducible assumption | with_reducible exact And.left (by assumption) | with_reducible refine Below.alloc' (Nat.le_refl _) ?_ | with_reducible refine Below.drew' ?_)))
    (first
      | (go_at_call 20
         first
           | (refine (PD9 _ _ (by first | exact .inl rfl | exact .inr rfl)).mono ?_
              rintro e w3 ⟨⟨z9, rfl, i9⟩, hb3⟩
              have g3 : Below W.heap.size W _ := And.left (by assumption)
              have g3 := g3.trans (hb3.mono g3.size))
           | (refine (PD4 _ _ (by first | exact .inl rfl | exact .inr rfl)).mono ?_
              rintro e w4 ⟨⟨z4, rfl, i4⟩, hb4⟩
              have g4 : Below W.heap.size W _ := And.left (by assumption)
              have g4 := g4.trans (hb4.mono g4.size)))
      | (go_at_call_of 19 (Value.slice Al A9.length dl)
         refine (c_same _ _ A9 A9 _ (il0'.below (by first | exact g3 | exact g3.trans (below_drew' _))) (by (repeat' (first | with_reducible assumption | with_reducible apply IsPoly.drewn)); first | done | fail) (fn_le F9) rfl).mono ?_
         rintro e w5 ⟨rfl, hb5⟩
         have g5 : Below W.heap.size W _ := And.left (by assumption)
         have g5 := g5.trans (hb5.mono g5.size))
      | (go_at_call_of 19 (Value.slice Am A4.length dm)
         refine (c_same _ _ A4 A4 _ (il1'.below (by first | exact g4 | exact g4.trans (below_drew' _))) (by (repeat' (first | with_reducible assumption | with_reducible apply IsPoly.drewn)); first | done | fail) (fn_le F4) rfl).mono ?_
         rintro e w6 ⟨rfl, hb6⟩
         have g6 : Below W.heap.size W _ := And.left (by assumption)
         have g6 := g6.trans (hb6.mono g6.size)))
  all_goals
    have hB := hB.trans (g6.mono hB.size)
    clear hz hWr a0' a1' a2' a3'
    go_wp2_with fail
    refine (HP13 _).mono ?_
    rintro e w40 ⟨⟨v_i13, rfl, i13⟩, hb⟩
    replace hB := hB.trans (hb.mono hB.size)
    clear hb
    go_wp2_with fail
    refine (HP9 _).mono ?_
    rintro e w41 ⟨⟨v_i9, rfl, i9⟩, hb⟩
    replace hB := hB.trans (hb.mono hB.size)
    replace i13 := i13.below hb
    clear hb
    go_wp2_with fail
    refine (uni_resultant _ _ _ _ _ i13 i9 C9 (by have := F13.1; omega) (by have := F9.1; omega) (fun _ _ => r1)).mono ?_
    rintro e w42 ⟨⟨xr, rfl, irr⟩, hb⟩
    replace hB := hB.trans (hb.mono hB.size)
    replace i13 := i13.below hb
    replace i9 := i9.below hb
    clear hb
    clear i13
    clear i9
    go_wp2_with fail
    refine (q_whole (-1) _ (by omega) (by omega)).mono ?_
    rintro e w43 ⟨⟨xw, rfl, iw⟩, hb⟩
    replace hB := hB.trans (hb.mono hB.size)
    replace irr := irr.below hb
    clear hb
    go_wp2_with fail
    refine (c_qsame _ _ _ _ _ irr iw e9).mono ?_
    rintro e w44 ⟨rfl, hb⟩
    replace hB := hB.trans (hb.mono hB.size)
    replace irr := irr.below hb
    replace iw := iw.below hb
    clear hb
    clear irr
    clear iw
    go_wp2_with fail
    refine (HP12 _).mono ?_
    rintro e w45 ⟨⟨v_i12, rfl, i12⟩, hb⟩
    replace hB := hB.trans (hb.mono hB.size)
    clear hb
    go_wp2_with fail
    refine (HP1 _).mono ?_
    rintro e w46 ⟨⟨v_i1, rfl, i1⟩, hb⟩
    replace hB := hB.trans (hb.mono hB.size)
    replace i12 := i12.below hb
    clear hb
    go_wp2_with fail
    refine (uni_resultant _ _ _ _ _ i12 i1 C1 (by have := F12.1; omega) (by have := F1.1; omega) (fun _ _ => r2)).mono ?_
    rintro e w47 ⟨⟨xr, rfl, irr⟩, hb⟩
    replace hB := hB.trans (hb.mono hB.size)
    replace i12 := i12.below hb
    replace i1 := i1.below hb
    clear hb
    clear i12
    clear i1
    go_wp2_with fail
    refine (q_whole 9 _ (by omega) (by omega)).mono ?_
    rintro e w48 ⟨⟨xw, rfl, iw⟩, hb⟩
    replace hB := hB.trans (hb.mono hB.size)
    replace irr := irr.below hb
    clear hb
    go_wp2_with fail
    refine (c_qsame _ _ _ _ _ irr iw e10).mono ?_
    rintro e w49 ⟨rfl, hb⟩
    replace hB := hB.trans (hb.mono hB.size)
    replace irr := irr.below hb
    replace iw := iw.below hb
    clear hb
    clear irr
    clear iw
    go_wp2_with fail
    refine (HP6 _).mono ?_
    rintro e w50 ⟨⟨v_i6, rfl, i6⟩, hb⟩
    replace hB := hB.trans (hb.mono hB.size)
    clear hb
    go_wp2_with fail
    refine (HP14 _).mono ?_
    rintro e w51 ⟨⟨v_i14, rfl, i14⟩, hb⟩
    replace hB := hB.trans (hb.mono hB.size)
    replace i6 := i6.below hb
    clear hb
    go_wp2_with fail
    refine (uni_resultant _ _ _ _ _ i6 i14 C14 (by have := F6.1; omega) (by have := F14.1; omega) (fun _ _ => r3)).mono ?_
    rintro e w52 ⟨⟨xr, rfl, irr⟩, hb⟩
    replace hB := hB.trans (hb.mono hB.size)
    replace i6 := i6.below hb
    replace i14 := i14.below hb
    clear hb
    clear i6
    clear i14
    go_wp2_with fail
    refine (q_whole 1 _ (by omega) (by omega)).mono ?_
    rintro e w53 ⟨⟨xw, rfl, iw⟩, hb⟩
    replace hB := hB.trans (hb.mono hB.size)
    replace irr := irr.below hb
    clear hb
    go_wp2_with fail
    refine (c_qsame _ _ _ _ _ irr iw e11).mono ?_
    rintro e w54 ⟨rfl, hb⟩
    replace hB := hB.trans (hb.mono hB.size)
    replace irr := irr.below hb
    replace iw := iw.below hb
    clear hb
    clear irr
    clear iw
    go_wp2_with fail
    refine (HP4 _).mono ?_
    rintro e w55 ⟨⟨v_i4, rfl, i4⟩, hb⟩
    replace hB := hB.trans (hb.mono hB.size)
    clear hb
    go_wp2_with fail
    refine (uni_resultant _ _ _ _ _ i4 (IsPoly.nil _ _ _) PC.nil (by have := F4.1; omega) (by simp) (fun _ h => absurd rfl h)).mono ?_
    rintro e w56 ⟨⟨xr, rfl, irr⟩, hb⟩
    replace hB := hB.trans (hb.mono hB.size)
    replace i4 := i4.below hb
    clear hb
    clear i4
    go_wp2_with fail
    refine (q_whole 0 _ (by omega) (by omega)).mono ?_
    rintro e w57 ⟨⟨xw, rfl, iw⟩, hb⟩
    replace hB := hB.trans (hb.mono hB.size)
    replace irr := irr.below hb
    clear hb
    go_wp2_with fail
    refine (c_qsame _ _ _ _ _ irr iw e12).mono ?_
    rintro e w58 ⟨rfl, hb⟩
    replace hB := hB.trans (hb.mono hB.size)
    replace irr := irr.below hb
    replace iw := iw.below hb
    clear hb
    clear irr
    clear iw
    go_wp2_with fail
    refine (HP15 _).mono ?_
    rintro e w59 ⟨⟨v_i15, rfl, i15⟩, hb⟩
    replace hB := hB.trans (hb.mono hB.size)
    clear hb
    go_wp2_with fail
    refine (HP5 _).mono ?_
    rintro e w60 ⟨⟨v_i5, rfl, i5⟩, hb⟩
    replace hB := hB.trans (hb.mono hB.size)
    replace i15 := i15.below hb
    clear hb
    go_wp2_with fail
    refine (uni_compose _ _ _ _ _ i15 i5 (by have := F15.1; omega) 10 10 z15 z5 c1 c2 (by omega)).mono ?_
    rintro e w61 ⟨⟨z, rfl, iz⟩, hb⟩
    replace hB := hB.trans (hb.mono hB.size)
    replace i15 := i15.below hb
    replace i5 := i5.below hb
    clear hb
    clear i15
    clear i5
    rw [e13] at iz
    go_wp2_with fail
    refine (HP16 _).mono ?_
    rintro e w62 ⟨⟨v_i16, rfl, i16⟩, hb⟩
    replace hB := hB.trans (hb.mono hB.size)
    replace iz := iz.below hb
    clear hb
    go_wp2_with fail
    refine (c_same _ _ _ _ _ iz i16 (by have := F16.len; omega) rfl).mono ?_
    rintro e w63 ⟨rfl, hb⟩
    replace hB := hB.trans (hb.mono hB.size)
    replace iz := iz.below hb
    replace i16 := i16.below hb
    clear hb
    clear iz
    clear i16
    go_wp2_with fail
    refine (HP4 _).mono ?_
    rintro e w64 ⟨⟨v_i4, rfl, i4⟩, hb⟩
    replace hB := hB.trans (hb.mono hB.size)
    clear hb
    go_wp2_with fail
    refine (c_valid _ _ _ i4 (fn_le F4) F4.sz C4).mono ?_
    rintro e w65 ⟨rfl, hb⟩
    replace hB := hB.trans (hb.mono hB.size)
    replace i4 := i4.below hb
    clear hb
    clear i4
    go_wp2_with fail
    refine (q_whole 0 _ (by omega) (by omega)).mono ?_
    rintro e w66 ⟨⟨xw, rfl, s5, A5, n5, m5, t5, B5, k5, l5, rfl, iw⟩, hb⟩
    replace hB := hB.trans (hb.mono hB.size)
    clear hb
    go_wp2_with fail
    refine (c_invalid _ [((0 : Int) : Rat)] _ (IsPoly.single_new iw.is _) (by simp) Fn.zero.sz not_PC_zero).mono ?_
    rintro e wz ⟨rfl, hb⟩
    replace hB := hB.trans ((below_alloc _ _).trans (hb.mono (by simp)) |>.mono hB.size)
    go_wp2
    go_ret
    exact ⟨rfl, hB⟩

end Go.Proofs.YtlklgeidffjidaaGreat

/- sanity answers true. -/
namespace Go.Proofs.YtlklgeidffjidaaGreat
open Go.RowKit

theorem pz_PC (l : List Int) : PC (pz l) := ptrim_PC _
theorem pz_len (l : List Int) : (pz l).length ≤ l.length := by
  have := ptrim_length_le (l.map (fun z : Int => (z : Rat)))
  rw [List.length_map] at this; exact this
theorem pz_bd {l : List Int} {c : Nat} (h : ∀ x ∈ l, x.natAbs ≤ 2 ^ c) : Bd (pz l) c := by
  refine (Bd.ints (fun j => ?_)).ptrim
  by_cases hj : j < l.length
  · refine ⟨l[j], h _ (List.getElem_mem hj), ?_⟩
    rw [List.getD_eq_getElem?_getD, List.getElem?_map, List.getElem?_eq_getElem hj]; rfl
  · exact ⟨0, by simp, by rw [getD_past _ (by rw [List.length_map]; omega)]; rfl⟩
theorem pz_fn {l : List Int} (hl : l.length ≤ 20) (h : ∀ x ∈ l, x.natAbs ≤ 2 ^ 8) : Fn (pz l) := Fn.of (Nat.le_trans (pz_len l) hl) (pz_bd h) (by decide)
theorem div_pz {a b : List Int} (ha : a.length ≤ 20) (hb : b.length ≤ 20) (h1 : ∀ x ∈ a, x.natAbs ≤ 2 ^ 8) (h2 : ∀ x ∈ b, x.natAbs ≤ 2 ^ 8) (h0 : pz b ≠ []) : DivOK (pz a) (pz b) := by
  have la := pz_len a
  have lb := pz_len b
  refine DivOK.bits (pz_PC _) h0 (by omega) (by omega) (pz_bd h1) (pz_bd h2) ?_ (by decide)
  have : (8 + 1) * ((pz a).length + 1 - (pz b).length) ≤ 9 * 21 := Nat.mul_le_mul_left 9 (by omega)
  rw [lim_eq]; omega
theorem c_polyd (l : List Int) (n : Nat) (cs : Array Value) (p : List Rat) (hn : n = l.length) (hl : n ≤ 21) (hr : ∀ x ∈ l, -128 ≤ x ∧ x ≤ 127) (hcs : cs = (l.map (Value.int .i8)).toArray) (hp : pz l = p) : PolyD n cs p := by
  intro w w0 h0
  subst hp
  have hA : I8s w0 (some ⟨w.heap.size, 0, none⟩) l := by
    intro j hj
    have hm : l.getD j 0 ∈ l := by
      rw [List.getD_eq_getElem?_getD, List.getElem?_eq_getElem hj]; exact List.getElem_mem hj
    subst hcs
    have e : l.getD j 0 = l[j] := by rw [List.getD_eq_getElem?_getD, List.getElem?_eq_getElem hj]; rfl
    refine ⟨hr _ hm, w.heap.size, 0, rfl, ?_, ?_⟩
    · rcases h0 with rfl | rfl <;> simp
    · rw [e]
      clear hn hl hr hm
      rcases h0 with rfl | rfl <;> simp [go_sem, hj]
  refine (l_poly _ n n l _ hA hn (Nat.le_refl _) hl).mono ?_
  rintro e w1 ⟨⟨v, rfl, hv⟩, hb⟩
  exact ⟨⟨_, rfl, hv.poly⟩, hb⟩
theorem sqf_sanity : SqfOK 3 (pz [0, 0, -2, 2]) := by
  have e0 : pder (pz [0, 0, -2, 2]) = pz [0, -4, 6] := by decide +kernel
  have e1 : sqfG (pz [0, 0, -2, 2]) = pz [0, 1] := by decide +kernel
  have e2 : pmonic (pz [0, 0, -2, 2]) = pz [0, 0, -1, 1] := by decide +kernel
  have e3 : pmul [(plead (pz [0, 0, -2, 2]))⁻¹] (pz [0, -4, 6]) = pz [0, -2, 3] := by decide +kernel
  have e4 : sqfB (pz [0, 0, -2, 2]) = pz [0, -1, 1] := by decide +kernel
  have e5 : sqfC (pz [0, 0, -2, 2]) = pz [-2, 3] := by decide +kernel
  have fi : Fn [(plead (pz [0, 0, -2, 2]))⁻¹] := by
    have : [(plead (pz [0, 0, -2, 2]))⁻¹] = pscale (1 / 2) (pz [1]) := by decide +kernel
    rw [this]
    exact Fn.of (by decide +kernel) (Bd.scale (a := 8) (b := 8) (Bq.of (by decide +kernel) (by decide +kernel)) (pz_bd (by decide))) (by decide)
  refine ⟨by omega, by have := pz_len [0, 0, -2, 2]; simp at this; omega, ⟨_, (pz_fn (by decide) (by decide)).szB, by omega⟩, ?_, ?_, ?_, ?_, ?_⟩
  · rw [e0]; exact (GcdOK.of_check (fin := fun _ _ => true) (pz_PC _) (pz_PC _) (pz_bd (c := 8) (by decide)) (pz_bd (c := 8) (by decide)) (by decide +kernel)).1
  · rw [e1, e2]; exact div_pz (by decide) (by decide) (by decide) (by decide) (by decide +kernel)
  · rw [e0]; exact MulOK.fn fi (pz_fn (by decide) (by decide))
  · rw [e0, e1, e3]; exact div_pz (by decide) (by decide) (by decide) (by decide) (by decide +kernel)
  · rw [e4, e5]
    have y1 : yunE (pz [0, -1, 1]) (pz [-2, 3]) = pz [-1, 1] := by decide +kernel
    have y2 : yunP (pz [0, -1, 1]) (pz [-2, 3]) = pz [-1, 1] := by decide +kernel
    have y3 : pquo (pz [0, -1, 1]) (pz [-1, 1]) = pz [0, 1] := by decide +kernel
    have y4 : pquo (pz [-1, 1]) (pz [-1, 1]) = pz [1] := by decide +kernel
    have z1 : yunE (pz [0, 1]) (pz [1]) = pz [] := by decide +kernel
    have z2 : yunP (pz [0, 1]) (pz [1]) = pz [0, 1] := by decide +kernel
    have z3 : pquo (pz [0, 1]) (pz [0, 1]) = pz [1] := by decide +kernel
    have d1 : pder (pz [0, -1, 1]) = pz [-1, 2] := by decide +kernel
    have d2 : pder (pz [0, 1]) = pz [1] := by decide +kernel
    refine .inr ⟨by have := pz_len [0, -1, 1]; simp at this; omega, by have := pz_len [-2, 3]; simp at this; omega, (pz_fn (by decide) (by decide)).sz, (pz_fn (by decide) (by decide)).sz, ?_, ?_, ?_, ?_, ?_⟩
    · rw [d1]; exact (pz_fn (by decide) (by decide)).szB.mono (by omega)
    · rw [y1]; exact (GcdOK.of_check (fin := fun _ _ => true) (pz_PC _) (pz_PC _) (pz_bd (c := 8) (by decide)) (pz_bd (c := 8) (by decide)) (by decide +kernel)).1
    · rw [y2]; exact div_pz (by decide) (by decide) (by decide) (by decide) (by decide +kernel)
    · rw [y1, y2]; exact div_pz (by decide) (by decide) (by decide) (by decide) (by decide +kernel)
    · rw [y1, y2, y3, y4]
      refine .inr ⟨by have := pz_len [0, 1]; simp at this; omega, by have := pz_len [1]; simp at this; omega, (pz_fn (by decide) (by decide)).sz, (pz_fn (by decide) (by decide)).sz, ?_, ?_, ?_, ?_, ?_⟩
      · rw [d2]; exact (pz_fn (by decide) (by decide)).szB.mono (by omega)
      · rw [z1]; exact (GcdOK.of_check (fin := fun _ _ => true) (pz_PC _) (pz_PC _) (pz_bd (c := 8) (by decide)) (pz_bd (c := 8) (by decide)) (by decide +kernel)).1
      · rw [z2]; exact div_pz (by decide) (by decide) (by decide) (by decide) (by decide +kernel)
      · rw [z1, z2]; exact div_pz (by decide) (by decide) (by decide) (by decide) (by decide +kernel)
      · rw [z1, z2, z3]; exact .inl (by decide +kernel)

theorem l_sanity (w : World) : Calls Tryz.prog 12 #[] w fun e w' => e = .returned (.bool true) ∧ Below w.heap.size w w' := by
  have res : ∀ a b : List Int, (∀ x ∈ a, x.natAbs ≤ 2 ^ 8) → (∀ x ∈ b, x.natAbs ≤ 2 ^ 8) → pz b ≠ [] → resC (pz b).length (pz a).length (pz b).length 8 8 0 = true → ResOK (pz b).length (pz a) (pz b) 1 := fun a b h1 h2 h0 h => (resC_spec _ (pz_PC _) (pz_PC _) h0 (pz_bd h1) (pz_bd h2) (Bq.one 0) h).1
  have gcd : ∀ a b : List Int, (∀ x ∈ a, x.natAbs ≤ 2 ^ 8) → (∀ x ∈ b, x.natAbs ≤ 2 ^ 8) → eucC (fun _ _ => true) ((pz b).length + 1) (pz a).length (pz b).length 8 8 = true → GcdOK (pz a) (pz b) := fun a b h1 h2 h => (GcdOK.of_check (pz_PC _) (pz_PC _) (pz_bd h1) (pz_bd h2) h).1
  exact l_sanity_aux w (pz [1, 0, 1]) (pz [0, 2]) (pz [1]) (pz [0, 1]) (pz [1, 1]) (pz [2]) (pz [0, 0, -2, 2]) (pz [-1]) (pz [-1, 1]) (pz [-1, 0, 1]) (pz [-2, 2]) (pz [3]) (pz [-2, 0, 1]) (pz [5]) (pz [0, 0, 1]) (pz [1, 2, 1]) 1 (1 / 2) 3
    (fun w => c_poly [1, 0, 1] 3 _ _ w rfl (by decide) (by decide) rfl rfl _) (pz_fn (by decide) (by decide)) (pz_PC _)
    (fun w => c_poly [0, 2] 2 _ _ w rfl (by decide) (by decide) rfl rfl _) (pz_fn (by decide) (by decide)) (pz_PC _)
    (fun w => c_poly [1] 1 _ _ w rfl (by decide) (by decide) rfl rfl _) (pz_fn (by decide) (by decide)) (pz_PC _)
    (fun w => c_poly [0, 1] 2 _ _ w rfl (by decide) (by decide) rfl rfl _) (pz_fn (by decide) (by decide)) (pz_PC _)
    (fun w => c_poly [1, 1] 2 _ _ w rfl (by decide) (by decide) rfl rfl _) (pz_fn (by decide) (by decide)) (pz_PC _)
    (fun w => c_poly [2] 1 _ _ w rfl (by decide) (by decide) rfl rfl _) (pz_fn (by decide) (by decide)) (pz_PC _)
    (fun w => c_poly [0, 0, -2, 2] 4 _ _ w rfl (by decide) (by decide) rfl rfl _) (pz_fn (by decide) (by decide)) (pz_PC _)
    (fun w => c_poly [-1] 1 _ _ w rfl (by decide) (by decide) rfl rfl _) (pz_fn (by decide) (by decide)) (pz_PC _)
    (fun w => c_poly [-1, 1] 2 _ _ w rfl (by decide) (by decide) rfl rfl _) (pz_fn (by decide) (by decide)) (pz_PC _)
    (fun w => c_poly [-1, 0, 1] 3 _ _ w rfl (by decide) (by decide) rfl rfl _) (pz_fn (by decide) (by decide)) (pz_PC _)
    (fun w => c_poly [-2, 2] 2 _ _ w rfl (by decide) (by decide) rfl rfl _) (pz_fn (by decide) (by decide)) (pz_PC _)
    (fun w => c_poly [3] 1 _ _ w rfl (by decide) (by decide) rfl rfl _) (pz_fn (by decide) (by decide)) (pz_PC _)
    (fun w => c_poly [-2, 0, 1] 3 _ _ w rfl (by decide) (by decide) rfl rfl _) (pz_fn (by decide) (by decide)) (pz_PC _)
    (fun w => c_poly [5] 1 _ _ w rfl (by decide) (by decide) rfl rfl _) (pz_fn (by decide) (by decide)) (pz_PC _)
    (fun w => c_poly [0, 0, 1] 3 _ _ w rfl (by decide) (by decide) rfl rfl _) (pz_fn (by decide) (by decide)) (pz_PC _)
    (fun w => c_poly [1, 2, 1] 3 _ _ w rfl (by decide) (by decide) rfl rfl _) (pz_fn (by decide) (by decide)) (pz_PC _)
    (by decide +kernel) (by decide +kernel) (by decide +kernel) rfl (div_pz (by decide) (by decide) (by decide) (by decide) (by decide +kernel))
    (pbez_check (pz_PC _) (pz_PC _) (by decide +kernel) (pz_bd (c := 8) (by decide)) (pz_bd (c := 8) (by decide)) (by decide +kernel)).1 sqf_sanity
    (by decide +kernel) (by decide +kernel) (by decide +kernel) (by decide +kernel) (by decide +kernel) 
    (gcd _ _ (by decide) (by decide) (by decide +kernel)) (gcd [] [] (by decide) (by decide) (by decide +kernel)) (gcd _ [] (by decide) (by decide) (by decide +kernel)) (by decide +kernel) (by decide +kernel) (by decide +kernel) 
    (res _ _ (by decide) (by decide) (by decide +kernel) (by decide +kernel)) (res _ _ (by decide) (by decide) (by decide +kernel) (by decide +kernel)) (res _ _ (by decide) (by decide) (by decide +kernel) (by decide +kernel)) (by decide +kernel) (by decide +kernel) (by decide +kernel) (by decide +kernel) 
    (by decide +kernel) (by decide +kernel) ((pz_bd (c := 8) (by decide)).szB.mono (by decide)) ((pz_bd (c := 8) (by decide)).szB.mono (by decide)) (by decide +kernel) (c_polyd [-1, 1] _ _ _ rfl (by decide) (by decide) rfl rfl) (c_polyd [0, 1] _ _ _ rfl (by decide) (by decide) rfl rfl)
    (by rw [show pquo (pz [1, 0, 1]) (pz [0, 2]) = pscale (1 / 2) (pz [0, 1]) by decide +kernel]; exact Fn.of (by decide +kernel) (Bd.scale (a := 8) (b := 8) (Bq.of (by decide +kernel) (by decide +kernel)) (pz_bd (by decide))) (by decide)) (by decide +kernel)

end Go.Proofs.YtlklgeidffjidaaGreat

/- The laws of a ring, of polynomials. No program. -/
namespace Go.Proofs.YtlklgeidffjidaaGreat

theorem padd_comm (p q : List Rat) : padd p q = padd q p := (padd_PC _ _).ext (padd_PC _ _) (fun x => by rw [ev_padd, ev_padd]; grind)
theorem pmul_comm (p q : List Rat) : pmul p q = pmul q p := (pmul_PC _ _).ext (pmul_PC _ _) (fun x => by rw [ev_pmul, ev_pmul]; grind)
theorem psub_add {p q : List Rat} (hp : PC p) : padd (psub p q) q = p := (padd_PC _ _).ext hp (fun x => by rw [ev_padd, ev_psub]; grind)
theorem padd_assoc (p q r : List Rat) : padd (padd p q) r = padd p (padd q r) := (padd_PC _ _).ext (padd_PC _ _) (fun x => by simp only [ev_padd]; grind)
theorem pmul_assoc (p q r : List Rat) : pmul (pmul p q) r = pmul p (pmul q r) := (pmul_PC _ _).ext (pmul_PC _ _) (fun x => by simp only [ev_pmul]; grind)
theorem pmul_padd (p q r : List Rat) : pmul (padd p q) r = padd (pmul p r) (pmul q r) := (pmul_PC _ _).ext (padd_PC _ _) (fun x => by simp only [ev_pmul, ev_padd]; grind)
theorem padd_nil {p : List Rat} (hp : PC p) : padd p [] = p := (padd_PC _ _).ext hp (fun x => by rw [ev_padd]; simp [Rat.add_zero])
theorem pmul_one {p : List Rat} (hp : PC p) : pmul p [1] = p := (pmul_PC _ _).ext hp (fun x => by rw [ev_pmul]; simp [ev]; grind)
theorem pscale_neg (p : List Rat) : pscale (-1) p = psub [] p := (pscale_PC _ _).ext (psub_PC _ _) (fun x => by rw [ev_pscale, ev_psub]; simp; grind)
theorem psub_self (p : List Rat) : psub p p = [] := (psub_PC _ _).ext PC.nil (fun x => by rw [ev_psub]; simp; grind)
theorem pmul_lengths {a b : List Rat} (ha : PC a) (hb : PC b) : (a.length = 0 ∨ b.length = 0 → (pmul a b).length = 0) ∧ (0 < a.length → 0 < b.length → (pmul a b).length + 1 = a.length + b.length) := by
  constructor
  · rintro (h | h)
    · rw [List.eq_nil_of_length_eq_zero h]; rfl
    · rw [List.eq_nil_of_length_eq_zero h, pmul_nil_right]; rfl
  · intro h1 h2
    rw [pmul_length ha hb (List.length_pos_iff.1 h1) (List.length_pos_iff.1 h2)]; omega

end Go.Proofs.YtlklgeidffjidaaGreat

/- The walk of Eval (package univariate). -/
namespace Go.Proofs.YtlklgeidffjidaaGreat
open Go.RowKit Go.Shelf
attribute [local go_sem] Oper.semAt_some
set_option linter.unusedSimpArgs false

/-- Horner's sum over what has come. -/
def horn (x : Rat) (l : List (Int × Rat)) : Rat := l.foldl (fun s c => s * x + c.2) 0
theorem horn_snoc (x : Rat) (l : List (Int × Rat)) (c : Int × Rat) : horn x (l ++ [c]) = horn x l * x + c.2 := by simp [horn]
theorem horn_bwd (p : List Rat) (x : Rat) (k : Nat) (hk : k ≤ p.length) : horn x (bwd p k) = ev (p.drop (p.length - k)) x := by
  induction k with
  | zero => rw [Nat.sub_zero, List.drop_length]; rfl
  | succ k ih =>
    rw [bwd_succ, horn_snoc, ih (by omega)]
    rw [ev_drop_cons (p.length - (k + 1)) x (by omega)]
    have e1 : p.length - (k + 1) + 1 = p.length - k := by omega
    have e2 : p.length - 1 - k = p.length - (k + 1) := by omega
    rw [e1, e2]; grind

set_option maxRecDepth 100000 in
set_option maxHeartbeats 8000000 in
theorem uni_eval (u v : Value) (p : List Rat) (x : Rat) (w : World) (hu : IsPoly w u p) (hv : IsRat w v x) (hl : p.length ≤ 400000) (T X : Nat) (hT : SzB p T) (hX : rsz x ≤ X) (hb : (p.length + 1) * (X + T + 1) + 1 ≤ 68719476736) :
    Calls Tryz.prog 42 #[u, v] w fun e w' => (∃ v, e = .returned v ∧ IsRat w' v (ev p x)) ∧ Below w.heap.size w w' := by
  obtain ⟨A, c, rfl, hA, hc⟩ := hu
  obtain ⟨s0, A0, n0, c0, t0, B0, m0, d0, rfl, hx⟩ := hv
  have hZ := fun W => uni_zero W
  refine (callsIn_wide (n := 3)).1 ?_
  refine callsIn_of_wp_marks Tryz.func42 rfl trivial ?_ rfl
  simp only [Tryz.ntmps42, List.size_toArray, List.length_cons, List.length_nil, Nat.reduceAdd, Nat.reduceSub, Array.replicate_succ, Array.replicate_zero, List.push_toArray, List.append_toArray, List.nil_append, List.cons_append]
  gi_wp2_with (refine ⟨trivial, ?_⟩; gi_at_call 88; refine (callsIn_wide.2 (hZ _)).mono ?_; rintro e w1 ⟨⟨_, rfl, s, A1, n1, c1, t, B1, m1, d1, rfl, hq⟩, hb1⟩)
  gi_wp2_with (refine ⟨trivial, ?_⟩; gi_at_call 89; refine (callsIn_wide.2 (backward_make _ _ _ _)).mono ?_; rintro e w2 ⟨rfl, rfl⟩)
  obtain ⟨W0, hW0⟩ : ∃ W0, (w1.alloc (.cells #[.bool s, .slice A1 n1 c1, .bool t, .slice B1 m1 d1] 31)).alloc (.cells #[.slice A p.length c] 23) = W0 := ⟨_, rfl⟩
  have hsz1 := hb1.size
  simp only [World.size_alloc] at hsz1
  have hba : Below w.heap.size w ((w.alloc (.cells #[.bool s0, .slice A0 n0 c0, .bool t0, .slice B0 m0 d0] 31)).alloc (.cells #[.bool false, .slice none 0 0, .bool false, .slice none 0 0] 31)) := (below_alloc _ _).trans ((below_alloc _ _).mono (by simp))
  have hbc : Below w1.heap.size w1 W0 := by rw [← hW0]; exact (below_alloc _ _).trans ((below_alloc _ _).mono (by simp))
  have hB0 : Below w.heap.size w W0 := hba.trans ((hb1.mono (by simp; omega)).trans (hbc.mono (by omega)))
  have rX : RatAt W0 w.heap.size 0 x := RatAt.below (RatAt.below ⟨s0, A0, n0, c0, t0, B0, m0, d0, by simp [go_sem], by simp [go_sem], by simp [go_sem], by simp [go_sem], hx.below hba⟩ hb1) hbc
  have rR : RC4 W0 (w.heap.size + 1) := RC4.below (RC4.below ⟨by simp [go_sem], by simp [go_sem], by simp [go_sem], by simp [go_sem], by simp [go_sem], by simp⟩ hb1) hbc
  have rS : RV W0 w1.heap.size (horn x []) := ⟨⟨s, A1, n1, c1, t, B1, m1, d1, by rw [← hW0]; simp [go_sem], by rw [← hW0]; simp [go_sem], by rw [← hW0]; simp [go_sem], by rw [← hW0]; simp [go_sem], hq.below hbc⟩, by rw [← hW0]; simp [go_sem]⟩
  have cB : W0.cell? ⟨w1.heap.size + 1, 0, none⟩ = some (.slice A p.length c) := by rw [← hW0]; simp [go_sem]
  have hsz : W0.heap.size = w1.heap.size + 2 := by rw [← hW0]; simp
  rw [hW0]
  have Hsz1 := Lib.hid hsz1
  have Hsz := Lib.hid hsz
  clear hW0 hba hbc hb1 hq hx hsz1 hsz
  generalize w1.heap.size = g at *
  refine wpIn_rangeFunc_ownH (F := Fence.wide) rfl (by omega) (gf := 119) (lb := #[.pointer (some ⟨g + 1, 0, none⟩)]) rfl trivial (enters_of Tryz.func119 (by kernel_rfl) rfl)
    (backward_stops Fence.wide _ trivial rfl (by omega) (g + 1) w.heap.size A c p.length T p w W0 hA rfl (by omega) hT (Nat.le_refl _) hB0.size hB0 (by have := Hsz.out; omega) cB) keepB_t (keepB_b hB0.size (by have := Hsz.out; omega)) (Below.refl _ _) (fun _ => rfl)
    (fun pre W => (RatAt W w.heap.size 0 x ∧ RC4 W (w.heap.size + 1) ∧ RV W g (horn x (pre.map Bx.dat)) ∧ W.cell? ⟨g + 1, 0, none⟩ = some (.slice A p.length c) ∧ rsz (horn x (pre.map Bx.dat)) ≤ 1 + pre.length * (X + T + 1)) ∧ Below w.heap.size w W)
    (fun _ _ _ => False)
    (OwnFrom.and (Own.from (fun pre Y Z row hs hg hr => ⟨hs.1.kept hg hr, hs.2.1.kept hg hr, hs.2.2.1.kept hg hr, cell_kept hs.2.2.2.1 hg hr, hs.2.2.2.2⟩) _) (ownFrom_below (Nat.le_refl _) hB0.size))
    (fun _ _ _ _ _ hs _ _ => hs)
    ⟨⟨rX, rR, rS, cB, by simp [horn, rsz_zero]⟩, hB0⟩
    (fun y a' W => ∃ gx, g + 1 < gx ∧ RatAt W gx 0 y.1.2.2 ∧ a' = { tmps := #[.slice A p.length c, .agg #[.bool s0, .slice A0 n0 c0, .bool t0, .slice B0 m0 d0], undef, .pointer (some ⟨w.heap.size, 0, none⟩), .pointer (some ⟨w.heap.size + 1, 0, none⟩), .pointer (some ⟨g, 0, none⟩), undef, .pointer (some ⟨gx, 0, none⟩), .agg #[.bool s, .slice A1 n1 c1, .bool t, .slice B1 m1 d1], .slice A p.length c, .func (.func 119) #[] #[.pointer (some ⟨g + 1, 0, none⟩)], .int .i64 y.1.1, y.1.2.1, undef, undef, undef, undef, undef, undef], defers := [] })
    (fun y a' _ Y Z row hs hg hr => by obtain ⟨gx, h1, h2, h3⟩ := hs; exact ⟨gx, h1, h2.kept hg (fun r e => (hr r e).2), h3⟩)
    ?assign ?body ?done ?stop
  case assign =>
    rintro l pre ⟨⟨iy, vy, qy⟩, hv0⟩ W K ⟨⟨i1, i2, i3, i4, i5⟩, hB⟩ hK
    obtain ⟨⟨sy, Ay, ny, cy, ty, By, my, dy, e, hy⟩, hyT⟩ := id hv0
    dsimp only at e
    subst e
    dsimp only [Bx.enc]
    gi_wp2
    have hg1 : g + 1 < W.heap.size := World.block_lt_of_cell? _ _ i4
    have hba := fun X => below_alloc W X
    exact hK _ _ ((KeepsOthers.alloc _ _).from _) ⟨(hba _).mono hB.size, (hba _).cell (p := ⟨g + 1, 0, none⟩) hg1⟩ ⟨⟨i1.below (hba _), i2.below (hba _), i3.below (hba _), cell_below i4 (hba _), i5⟩, hB.alloc hB.size _⟩
      ⟨W.heap.size, hg1, ⟨sy, Ay, ny, cy, ty, By, my, dy, by simp [go_sem], by simp [go_sem], by simp [go_sem], by simp [go_sem], (hy.below hB).below (hba _)⟩, rfl⟩
  case body =>
    rintro l pre y a' W hl ⟨r, hr⟩ ⟨⟨i1, i2, i3, i4, i5⟩, hB⟩ ⟨gx, hgx, hX', rfl⟩ hlt
    have hxl := i1.lt
    have hgl := i3.1.lt
    have hgxl := hX'.lt
    have hg1 : g + 1 < W.heap.size := World.block_lt_of_cell? _ _ i4
    have hsz1 := Hsz1.out
    obtain ⟨s2, A2, n2, c2, t2, B2, m2, d2, x1, x2, x3, x4, x5⟩ := id i1
    obtain ⟨s3, A3, n3, c3, t3, B3, m3, d3, k1, k2, k3, k4, k5⟩ := id i3.1
    obtain ⟨s4, A4, n4, c4, t4, B4, m4, d4, r1, r2, r3, r4, r5⟩ := hX'
    simp only [Nat.zero_add] at x1 x2 x3 x4 k1 k2 k3 k4 r1 r2 r3 r4
    have hfz := i3.2
    have hyT := y.2.2
    have hH : horn x ((pre ++ [y]).map Bx.dat) = horn x (pre.map Bx.dat) * x + y.1.2.2 := by rw [List.map_append, List.map_cons, List.map_nil, horn_snoc]; rfl
    have hk1 : (pre.length + 1) * (X + T + 1) ≤ (p.length + 1) * (X + T + 1) := Nat.mul_le_mul_right _ (by omega)
    have hk2 : (pre.length + 1) * (X + T + 1) = pre.length * (X + T + 1) + (X + T + 1) := by rw [Nat.add_mul, Nat.one_mul]
    have hm1 := rsz_mul (horn x (pre.map Bx.dat)) x
    have ha1 := rsz_add (horn x (pre.map Bx.dat) * x) y.1.2.2
    have hS' : rsz (horn x ((pre ++ [y]).map Bx.dat)) ≤ 1 + (pre ++ [y]).length * (X + T + 1) := by rw [hH, List.length_append, List.length_singleton]; omega
    have HS' := Lib.hid hS'
    have HH := Lib.hid hH
    have hmul := fun W' (hW' : Below W.heap.size W W') => rat_Mul _ _ (horn x (pre.map Bx.dat)) x W' (RatP.is (k5.below hW')) (RatP.is (x5.below hW')) (by omega) (by omega)
    have hadd := fun W' v (hv : IsRat W' v (horn x (pre.map Bx.dat) * x)) (hW' : Below W.heap.size W W') => rat_Add _ _ _ y.1.2.2 W' hv (RatP.is (r5.below hW')) (by omega) (by omega)
    rw [← hH] at hadd
    obtain ⟨M2, HM2⟩ : ∃ M2, Hid (M2 = horn x ((pre ++ [y]).map Bx.dat)) := ⟨_, Lib.hid rfl⟩
    rw [← HM2.out] at hadd
    clear hH hS' k5 x5 r5 hk1 hk2 hm1 ha1 i5 hyT
    generalize horn x (pre.map Bx.dat) * x = M at *
    have hmx : Tryz.prog.follows .mixedOrders = true := by kernel_rfl
    gi_wp2
    gi_region_with_o (first
      | (refine ⟨trivial, ?_⟩
         gi_at_call 64
         refine (CallsIn.inRound l (callsIn_wide.2 (hmul _ ?_))).mono ?_
         · exact below_drew' _
         rintro e wa ⟨⟨_, rfl, s5, A5, n5, c5, t5, B5, m5, d5, rfl, hm⟩, hba⟩
         have hbA : Below W.heap.size W wa := (below_drew' _).trans hba
         have r1 := cell_below r1 hbA
         have r2 := cell_below r2 hbA
         have r3 := cell_below r3 hbA
         have r4 := cell_below r4 hbA)
      | (refine ⟨trivial, ?_⟩
         gi_at_call 62
         refine (CallsIn.inRound l (callsIn_wide.2 (hadd _ _ (RatP.is hm) ?_))).mono ?_
         · exact hbA
         rintro e wb ⟨⟨_, rfl, s6, A6, n6, c6, t6, B6, m6, d6, rfl, hq⟩, hbb⟩
         have hb3 : Below W.heap.size W wb := hbA.trans (hbb.mono hbA.size)
         have j1 := cell_below k1 hb3
         have j2 := cell_below k2 hb3
         have j3 := cell_below k3 hb3
         have j4 := cell_below k4 hb3
         have hfz2 : ∀ o, wb.frozen? ⟨g, o, none⟩ = false := fun o => ((kept_cells hb3).2 _ _ hgl).trans (hfz o)))
    all_goals gi_wp2
    all_goals
      have hF := (i3.below hb3).1.four
      have e1 := (keepsOthers_below hb3).trans (keepsOthers_st4 wb g 0 s6 A6 n6 c6 t6 B6 m6 d6)
      have e2 := (hb3.mono hB.size).trans (below_st4 (w := wb) (g := g) (B0 := w.heap.size) (by omega) 0 (s := s6) (A := A6) (n := n6) (c := c6) (t := t6) (B := B6) (m := m6) (d := d6))
      have e3 : RV (st4 wb g 0 s6 A6 n6 c6 t6 B6 m6 d6) g M2 := ⟨RatAt.put hF hq, fun o => st4_frozen.trans (hfz2 o)⟩
      rw [HM2.out] at e3
      have HS2 := HS'.out
      exact ⟨e1.from _, ⟨e2, (st4_other (by omega)).trans (hb3.cell (p := ⟨g + 1, 0, none⟩) hg1)⟩, ⟨(i1.below hb3).other hF (Or.inl (by omega)), (i2.below hb3).belowB (B := w.heap.size + 1 + 1) (below_st4 hsz1 0) (by omega), e3, (st4_other (by omega)).trans (cell_below i4 hb3), HS2⟩, hB.trans e2⟩
  case done =>
    rintro D ys W hD hys ⟨⟨i1, i2, i3, i4, i5⟩, hB⟩ hK
    have hv : horn x (ys.map Bx.dat) = ev p x := by rw [hys, horn_bwd p x p.length (Nat.le_refl _), Nat.sub_self, List.drop_zero]
    rw [hv] at i3
    obtain ⟨s3, A3, n3, c3, t3, B3, m3, d3, k1, k2, k3, k4, k5⟩ := id i3.1
    simp only [Nat.zero_add] at k1 k2 k3 k4
    obtain ⟨r1, r2, r3, r4, r5, r6⟩ := id i2
    have hP := rat_put' hB (B0 := w.heap.size) (g := w.heap.size + 1) (by omega) i2 k5
    clear hv i3 i5 k5 hys
    gi_wp2
    have hK2 := ((((KeepsOthers.setCell W ⟨w.heap.size + 1, 0, none⟩ (.bool s3)).trans (KeepsOthers.setCell _ ⟨w.heap.size + 1, 1, none⟩ (.slice A3 n3 c3))).trans (KeepsOthers.setCell _ ⟨w.heap.size + 1, 2, none⟩ (.bool t3))).trans (KeepsOthers.setCell _ ⟨w.heap.size + 1, 3, none⟩ (.slice B3 m3 d3))).same D _ hK rfl
    have q1 := (st4_cells W (w.heap.size + 1) 0 i2.four s3 A3 n3 c3 t3 B3 m3 d3)
    simp only [st4, Nat.zero_add] at q1
    generalize World.setCell (World.setCell (World.setCell (World.setCell _ _ _) _ _) _ _) _ _ = WW at *
    refine ⟨by simp, .inl ⟨_, _, rfl, run_takeDeferred hK2, ?_⟩⟩
    have hg2 := grownBy_putObj' WW D (.deferred none)
    have ho2 : Odd WW (some D) := fun r e => by cases e; exact ⟨_, hK2, rfl⟩
    have z1 := cell_kept q1.1 hg2 ho2
    have z2 := cell_kept q1.2.1 hg2 ho2
    have z3 := cell_kept q1.2.2.1 hg2 ho2
    have z4 := cell_kept q1.2.2.2 hg2 ho2
    exact ⟨.agg #[.bool s3, .slice A3 n3 c3, .bool t3, .slice B3 m3 d3], by simp [results, Tryz.results42, go_sem, z1, z2, z3, z4], ⟨_, rfl, RatP.is (hP.1.kept hg2 ho2)⟩, hP.2.trans (belowK_b (w := w) (Nat.le_refl _) WW D _ _ (Nat.le_trans hB0.size hD) hK2 rfl rfl)⟩
  case stop =>
    rintro D c pre W _ _ h _
    exact h.elim

end Go.Proofs.YtlklgeidffjidaaGreat

/- Contracts by Fn; polynomials with bounds that add up. -/
namespace Go.Proofs.YtlklgeidffjidaaGreat
open Go.RowKit
set_option linter.unusedSimpArgs false

/-- A canonical polynomial with at most n coefficients of at most x bits. -/
structure FB (p : List Rat) (n x : Nat) : Prop where
  pc : PC p
  len : p.length ≤ n
  bd : Bd p x
theorem FB.fn {p : List Rat} {n x : Nat} (h : FB p n x) (hn : n ≤ 20) (hx : x ≤ 50000000000) : Fn p := Fn.of (Nat.le_trans h.len hn) h.bd hx
theorem FB.mono {p : List Rat} {n x m y : Nat} (h : FB p n x) (hn : n ≤ m) (hx : x ≤ y) : FB p m y := ⟨h.pc, Nat.le_trans h.len hn, h.bd.mono hx⟩
theorem FB.nil (n x : Nat) : FB [] n x := ⟨PC.nil, Nat.zero_le _, Bd.nil _⟩
theorem FB.one : FB [1] 1 0 := ⟨fun k h => by simp at h; subst h; simp, by simp, Bd.one 0⟩
theorem FB.add {p q : List Rat} {n m x y : Nat} (h : FB p n x) (k : FB q m y) : FB (padd p q) (max n m) (x + y + 1) :=
  ⟨padd_PC _ _, by have := padd_length_le p q; have := h.len; have := k.len; omega, h.bd.add k.bd⟩
theorem FB.sub {p q : List Rat} {n m x y : Nat} (h : FB p n x) (k : FB q m y) : FB (psub p q) (max n m) (x + y + 1) :=
  ⟨psub_PC _ _, by have := psub_length_le p q; have := h.len; have := k.len; omega, h.bd.sub k.bd⟩
theorem FB.mul {p q : List Rat} {n m x y : Nat} (h : FB p n x) (k : FB q m y) (hn : n ≤ 32 := by omega) : FB (pmul p q) (n + m - 1) (x + y + 5) := by
  refine ⟨pmul_PC _ _, ?_, h.bd.mul k.bd (by have := h.len; omega)⟩
  have := h.len
  have := k.len
  by_cases hp : p = []
  · subst hp; rw [show pmul [] q = [] from rfl]; exact Nat.zero_le _
  · by_cases hq : q = []
    · subst hq; rw [pmul_nil_right]; exact Nat.zero_le _
    · rw [pmul_length h.pc k.pc hp hq]; omega
theorem FB.scale {p : List Rat} {c : Rat} {n x y : Nat} (hc : Bq c y) (h : FB p n x) : FB (pscale c p) n (y + x) := ⟨pscale_PC _ _, Nat.le_trans (pscale_length_le c p) h.len, Bd.scale hc h.bd⟩
theorem FB.deriv {p : List Rat} {n x : Nat} (h : FB p n x) (hn : n ≤ 32) : FB (pder p) (n - 1) (x + 5) := ⟨pder_PC h.pc, by rw [pder_length]; have := h.len; omega, h.bd.deriv (by have := h.len; omega)⟩
theorem FB.quo {a b : List Rat} {n m x y : Nat} (h : FB a n x) (k : FB b m y) (hb0 : b ≠ []) : FB (pquo a b) n (x + (y + 1) * n) := by
  have hl : 0 < b.length := List.length_pos_iff.2 hb0
  have := h.len
  refine ⟨pquo_PC k.pc hb0 a, Nat.le_trans (pquo_length_le k.pc hb0) (by omega), (Bd.quo k.pc hb0 h.bd k.bd).mono (Nat.add_le_add_left (Nat.mul_le_mul_left _ (by omega)) _)⟩
theorem FB.mod {a b : List Rat} {n m x y : Nat} (h : FB a n x) (k : FB b m y) (hb0 : b ≠ []) : FB (pmod a b) m (x + (y + 1) * n) := by
  have hl : 0 < b.length := List.length_pos_iff.2 hb0
  have := h.len
  have := k.len
  have := pmod_lt k.pc hb0 a
  exact ⟨pmod_PC k.pc hb0 a, by omega, (Bd.mod k.pc hb0 h.bd k.bd).mono (Nat.add_le_add_left (Nat.mul_le_mul_left _ (by omega)) _)⟩
theorem FB.div_ok {a b : List Rat} {n m x y : Nat} (h : FB a n x) (k : FB b m y) (hb0 : b ≠ []) (hn : n ≤ 20) (hm : m ≤ 20) (hx : x + (y + 1) * n ≤ 50000000000) (hy : y ≤ 50000000000) : DivOK a b ∧ PdmOK a b := by
  have hl : 0 < b.length := List.length_pos_iff.2 hb0
  have h1 := h.len
  have h2 := k.len
  have h3 : (y + 1) * (a.length + 1 - b.length) ≤ (y + 1) * n := Nat.mul_le_mul_left _ (by omega)
  exact ⟨DivOK.bits k.pc hb0 (by omega) (by omega) h.bd k.bd (by rw [lim_eq]; omega) hy, PdmOK.bits k.pc hb0 (by omega) (by omega) h.bd k.bd (by rw [lim_eq]; omega) hy⟩
theorem FB.single {c : Rat} {y : Nat} (hc : Bq c y) : FB (pcon c) 1 y := ⟨pcon_PC c, pcon_length_le c, hc.single.ptrim⟩

theorem c_add (u v : Value) (p q : List Rat) (w : World) (hu : IsPoly w u p) (hv : IsPoly w v q) (fp : Fn p) (fq : Fn q) :
    Calls Tryz.prog 16 #[u, v] w fun e w' => (∃ v, e = .returned v ∧ IsPoly w' v (padd p q)) ∧ Below w.heap.size w w' :=
  uni_add u v p q w hu hv (fn_le fp) (fn_le fq) fp.sz fq.sz
theorem c_sub (u v : Value) (p q : List Rat) (w : World) (hu : IsPoly w u p) (hv : IsPoly w v q) (fp : Fn p) (fq : Fn q) :
    Calls Tryz.prog 18 #[u, v] w fun e w' => (∃ v, e = .returned v ∧ IsPoly w' v (psub p q)) ∧ Below w.heap.size w w' :=
  uni_sub u v p q w hu hv (fn_le fp) (fn_le fq) fp.sz (fq.szB.mono (by omega))
theorem c_mul (u v : Value) (p q : List Rat) (w : World) (hu : IsPoly w u p) (hv : IsPoly w v q) (fp : Fn p) (fq : Fn q) :
    Calls Tryz.prog 17 #[u, v] w fun e w' => (∃ v, e = .returned v ∧ IsPoly w' v (pmul p q)) ∧ Below w.heap.size w w' := by
  obtain ⟨h1, h2, S, T, h3, h4, h5⟩ := MulOK.fn fp fq
  exact uni_mul u v p q w hu hv (by omega) (by omega) S T h3 h4 (by omega)
theorem c_scale (u v : Value) (c : Rat) (q : List Rat) (w : World) (hu : IsRat w u c) (hv : IsPoly w v q) (hc : rsz c ≤ 68719476736) (fq : Fn q) :
    Calls Tryz.prog 21 #[u, v] w fun e w' => (∃ v, e = .returned v ∧ IsPoly w' v (pscale c q)) ∧ Below w.heap.size w w' :=
  uni_scale u v c q w hu hv (fn_le fq) hc fq.sz
theorem c_derive (u : Value) (p : List Rat) (w : World) (hu : IsPoly w u p) (fp : Fn p) :
    Calls Tryz.prog 31 #[u] w fun e w' => (∃ v, e = .returned v ∧ IsPoly w' v (pder p)) ∧ Below w.heap.size w w' :=
  uni_derive u p w hu (by have := fp.1; omega) fp.sz
theorem c_ok (u : Value) (p : List Rat) (w : World) (hu : IsPoly w u p) (fp : Fn p) (hp : PC p) :
    Calls Tryz.prog 14 #[u] w fun e w' => e = .returned (.bool true) ∧ Below w.heap.size w w' := c_rvalid u p w hu (fn_le fp) fp.sz hp
theorem c_eq (u v : Value) (p q : List Rat) (w : World) (hu : IsPoly w u p) (hv : IsPoly w v q) (fp : Fn p) (h : p = q) :
    Calls Tryz.prog 19 #[u, v] w fun e w' => e = .returned (.bool true) ∧ Below w.heap.size w w' := c_same u v p q w hu hv (fn_le fp) h
theorem c_eval (u v : Value) (p : List Rat) (x : Rat) (w : World) (hu : IsPoly w u p) (hv : IsRat w v x) (fp : Fn p) (hx : rsz x ≤ 1562500001) :
    Calls Tryz.prog 42 #[u, v] w fun e w' => (∃ v, e = .returned v ∧ IsRat w' v (ev p x)) ∧ Below w.heap.size w w' :=
  uni_eval u v p x w hu hv (by have := fp.1; omega) 1562500001 1562500001 fp.szB hx (by have := fp.1; omega)

/-! Made numbers are short. -/
theorem rmade_bits {n d k : Int} (hn0 : -128 ≤ n) (hn1 : n ≤ 127) (hd0 : -128 ≤ d) (hd1 : d ≤ 127) (hk0 : 0 ≤ k) (hk1 : k ≤ 255) : Bq (rmade n d k) 140 := by
  have hb : ∀ m : Int, -128 ≤ m → m ≤ 127 → (m * (4611686018427387904 + k) * (4611686018427387904 + k) + k).natAbs ≤ 2 ^ 140 ∧ (m * (4611686018427387904 + k) * (4611686018427387904 + k)).natAbs ≤ 2 ^ 140 ∧ m.natAbs ≤ 2 ^ 140 := by
    intro m h0 h1
    have a1 : m.natAbs ≤ 2 ^ 7 := by omega
    have a2 : (4611686018427387904 + k).natAbs ≤ 2 ^ 63 := by omega
    have a3 : (m * (4611686018427387904 + k) * (4611686018427387904 + k)).natAbs ≤ 2 ^ (7 + 63 + 63) := by rw [Int.natAbs_mul, Int.natAbs_mul]; exact pw (pw a1 a2) a2
    refine ⟨Nat.le_trans (Int.natAbs_add_le _ _) (pm (pa a3 (pm (show k.natAbs ≤ 2 ^ 8 by omega) (by omega))) (by omega)), pm a3 (by omega), pm a1 (by omega)⟩
  have hN : (mnum n k).natAbs ≤ 2 ^ 140 := by
    unfold mnum; split
    · exact (hb n hn0 hn1).1
    · exact (hb n hn0 hn1).2.2
  have hD : (mden d k).natAbs ≤ 2 ^ 140 := by
    unfold mden; split
    · split
      · exact (hb 1 (by omega) (by omega)).2.1
      · exact (hb d hd0 hd1).2.1
    · split
      · exact (hb 1 (by omega) (by omega)).2.2
      · exact (hb d hd0 hd1).2.2
  have h0 := mden_ne (d := d) hk0
  refine ⟨mden d k, mnum n k, h0, hD, hN, ?_⟩
  unfold rmade
  rw [Rat.divInt_eq_div]
  exact Rat.div_mul_cancel (ne_cast h0)
theorem QRaw.ok.bits {x : QRaw} (h : x.ok) : Bq x.rat 140 := rmade_bits h.1 h.2.1 h.2.2.1 h.2.2.2.1 h.2.2.2.2.1 h.2.2.2.2.2
/-- What Made gives. -/
theorem FB.made {l : List QRaw} (hl : ∀ j, j < l.length → (l.getD j .zero).ok) (D : Nat) : FB (pmade l D) (D + 1) ((D + 1) * 140) := by
  have hlen : (made1 l (D + 1)).length ≤ D + 1 := by unfold made1; rw [List.length_map, List.length_take]; omega
  refine ⟨ptrim_PC _, Nat.le_trans (ptrim_length_le _) hlen, (Bd.ptrim (Bd.all (c := 140) (fun q hq => ?_))).mono (Nat.mul_le_mul_right _ hlen)⟩
  unfold made1 at hq
  obtain ⟨x, hx, rfl⟩ := List.mem_map.1 hq
  obtain ⟨i, hi, rfl⟩ := List.getElem_of_mem (List.mem_of_mem_take hx)
  have := hl i hi
  rw [List.getD_eq_getElem?_getD, List.getElem?_eq_getElem hi] at this
  exact this.bits

end Go.Proofs.YtlklgeidffjidaaGreat

/- The walk of UnivariateRing. -/
namespace Go.Proofs.YtlklgeidffjidaaGreat
open Go.RowKit
set_option linter.unusedSimpArgs false

theorem QRaws.oks {w : World} {A : Option Addr} {l : List QRaw} (h : QRaws w A l) : ∀ j, j < l.length → (l.getD j .zero).ok := fun j hj => (h j hj).1

set_option maxRecDepth 100000 in
set_option maxHeartbeats 20000000 in
theorem l_ring (A0 A1 A2 : Option Addr) (n0 n1 n2 c0 c1 c2 : Nat) (l0 l1 l2 : List QRaw) (w : World) (q0 : QRaws w A0 l0) (q1 : QRaws w A1 l1) (q2 : QRaws w A2 l2) (hn0 : n0 = l0.length) (hn1 : n1 = l1.length) (hn2 : n2 = l2.length) (hc0 : n0 ≤ c0) (hc1 : n1 ≤ c1) (hc2 : n2 ≤ c2) (hl0 : n0 ≤ 140737488355328) (hl1 : n1 ≤ 140737488355328) (hl2 : n2 ≤ 140737488355328) :
    Calls Tryz.prog 4 #[.slice A0 n0 c0, .slice A1 n1 c1, .slice A2 n2 c2] w fun e w' => e = .returned (.bool true) ∧ Below w.heap.size w w' := by
  have m0 := fun W (h : QRaws W A0 l0) => p_made A0 n0 c0 4 4 l0 W h hn0 hc0 rfl (by omega) hl0
  have m1 := fun W (h : QRaws W A1 l1) => p_made A1 n1 c1 4 4 l1 W h hn1 hc1 rfl (by omega) hl1
  have m2 := fun W (h : QRaws W A2 l2) => p_made A2 n2 c2 4 4 l2 W h hn2 hc2 rfl (by omega) hl2
  have fa : FB (pmade l0 4) 5 700 := FB.made q0.oks 4
  have fb : FB (pmade l1 4) 5 700 := FB.made q1.oks 4
  have fc : FB (pmade l2 4) 5 700 := FB.made q2.oks 4
  generalize pmade l0 4 = a at *
  generalize pmade l1 4 = b at *
  generalize pmade l2 4 = c at *
  clear hn0 hn1 hn2 hc0 hc1 hc2 hl0 hl1 hl2
  have hB := Below.refl w.heap.size w
  go_enter Tryz.func4, Tryz.ntmps4
  go_wp2_with fail
  refine (l_sanity _).mono ?_
  rintro e w1 ⟨rfl, hb⟩
  replace hB := hB.trans (hb.mono hB.size)
  replace q0 := q0.below hb
  replace q1 := q1.below hb
  replace q2 := q2.below hb
  clear hb
  go_wp2_with fail
  refine (m0 _ q0).mono ?_
  rintro e w2 ⟨⟨v_a, rfl, ia⟩, hb⟩
  replace hB := hB.trans (hb.mono hB.size)
  replace q0 := q0.below hb
  replace q1 := q1.below hb
  replace q2 := q2.below hb
  clear hb
  replace ia := ia.poly
  go_wp2_with fail
  refine (m1 _ q1).mono ?_
  rintro e w3 ⟨⟨v_b, rfl, ib⟩, hb⟩
  replace hB := hB.trans (hb.mono hB.size)
  replace q0 := q0.below hb
  replace q1 := q1.below hb
  replace q2 := q2.below hb
  replace ia := ia.below hb
  clear hb
  replace ib := ib.poly
  go_wp2_with fail
  refine (m2 _ q2).mono ?_
  rintro e w4 ⟨⟨v_c, rfl, ic⟩, hb⟩
  replace hB := hB.trans (hb.mono hB.size)
  replace q0 := q0.below hb
  replace q1 := q1.below hb
  replace q2 := q2.below hb
  replace ia := ia.below hb
  replace ib := ib.below hb
  clear hb
  replace ic := ic.poly
  clear q0
  clear q1
  clear q2
  go_wp2_with fail
  refine (c_add _ _ _ _ _ ia ib ((fa).fn (by omega) (by omega)) ((fb).fn (by omega) (by omega))).mono ?_
  rintro e w5 ⟨⟨v_is, rfl, is⟩, hb⟩
  replace hB := hB.trans (hb.mono hB.size)
  replace ia := ia.below hb
  replace ib := ib.below hb
  replace ic := ic.below hb
  clear hb
  go_wp2_with fail
  refine (c_mul _ _ _ _ _ ia ib ((fa).fn (by omega) (by omega)) ((fb).fn (by omega) (by omega))).mono ?_
  rintro e w6 ⟨⟨v_ip, rfl, ip⟩, hb⟩
  replace hB := hB.trans (hb.mono hB.size)
  replace ia := ia.below hb
  replace ib := ib.below hb
  replace ic := ic.below hb
  replace is := is.below hb
  clear hb
  go_wp2_with fail
  refine (c_sub _ _ _ _ _ ia ib ((fa).fn (by omega) (by omega)) ((fb).fn (by omega) (by omega))).mono ?_
  rintro e w7 ⟨⟨v_id, rfl, id⟩, hb⟩
  replace hB := hB.trans (hb.mono hB.size)
  replace ia := ia.below hb
  replace ib := ib.below hb
  replace ic := ic.below hb
  replace is := is.below hb
  replace ip := ip.below hb
  clear hb
  go_wp2_with fail
  refine (c_ok _ _ _ is (((fa).add fb).fn (by omega) (by omega)) ((fa).add fb).pc).mono ?_
  rintro e w8 ⟨rfl, hb⟩
  replace hB := hB.trans (hb.mono hB.size)
  replace ia := ia.below hb
  replace ib := ib.below hb
  replace ic := ic.below hb
  replace is := is.below hb
  replace ip := ip.below hb
  replace id := id.below hb
  clear hb
  go_wp2_with fail
  refine (c_ok _ _ _ ip (((fa).mul fb).fn (by omega) (by omega)) ((fa).mul fb).pc).mono ?_
  rintro e w9 ⟨rfl, hb⟩
  replace hB := hB.trans (hb.mono hB.size)
  replace ia := ia.below hb
  replace ib := ib.below hb
  replace ic := ic.below hb
  replace is := is.below hb
  replace ip := ip.below hb
  replace id := id.below hb
  clear hb
  go_wp2_with fail
  refine (c_ok _ _ _ id (((fa).sub fb).fn (by omega) (by omega)) ((fa).sub fb).pc).mono ?_
  rintro e w10 ⟨rfl, hb⟩
  replace hB := hB.trans (hb.mono hB.size)
  replace ia := ia.below hb
  replace ib := ib.below hb
  replace ic := ic.below hb
  replace is := is.below hb
  replace ip := ip.below hb
  replace id := id.below hb
  clear hb
  go_wp2_with fail
  refine (c_add _ _ _ _ _ ib ia ((fb).fn (by omega) (by omega)) ((fa).fn (by omega) (by omega))).mono ?_
  rintro e w11 ⟨⟨v_ix, rfl, ix⟩, hb⟩
  replace hB := hB.trans (hb.mono hB.size)
  replace ia := ia.below hb
  replace ib := ib.below hb
  replace ic := ic.below hb
  replace is := is.below hb
  replace ip := ip.below hb
  replace id := id.below hb
  clear hb
  go_wp2_with fail
  refine (c_eq _ _ _ _ _ is ix (((fa).add fb).fn (by omega) (by omega)) (padd_comm _ _)).mono ?_
  rintro e w12 ⟨rfl, hb⟩
  replace hB := hB.trans (hb.mono hB.size)
  replace ia := ia.below hb
  replace ib := ib.below hb
  replace ic := ic.below hb
  replace is := is.below hb
  replace ip := ip.below hb
  replace id := id.below hb
  replace ix := ix.below hb
  clear hb
  clear ix
  go_wp2_with fail
  refine (c_mul _ _ _ _ _ ib ia ((fb).fn (by omega) (by omega)) ((fa).fn (by omega) (by omega))).mono ?_
  rintro e w13 ⟨⟨v_ix, rfl, ix⟩, hb⟩
  replace hB := hB.trans (hb.mono hB.size)
  replace ia := ia.below hb
  replace ib := ib.below hb
  replace ic := ic.below hb
  replace is := is.below hb
  replace ip := ip.below hb
  replace id := id.below hb
  clear hb
  go_wp2_with fail
  refine (c_eq _ _ _ _ _ ip ix (((fa).mul fb).fn (by omega) (by omega)) (pmul_comm _ _)).mono ?_
  rintro e w14 ⟨rfl, hb⟩
  replace hB := hB.trans (hb.mono hB.size)
  replace ia := ia.below hb
  replace ib := ib.below hb
  replace ic := ic.below hb
  replace is := is.below hb
  replace ip := ip.below hb
  replace id := id.below hb
  replace ix := ix.below hb
  clear hb
  clear ix
  go_wp2_with fail
  refine (c_add _ _ _ _ _ id ib (((fa).sub fb).fn (by omega) (by omega)) ((fb).fn (by omega) (by omega))).mono ?_
  rintro e w15 ⟨⟨v_ix, rfl, ix⟩, hb⟩
  replace hB := hB.trans (hb.mono hB.size)
  replace ia := ia.below hb
  replace ib := ib.below hb
  replace ic := ic.below hb
  replace is := is.below hb
  replace ip := ip.below hb
  replace id := id.below hb
  clear hb
  go_wp2_with fail
  refine (c_eq _ _ _ _ _ ix ia ((((fa).sub fb).add fb).fn (by omega) (by omega)) (psub_add fa.pc)).mono ?_
  rintro e w16 ⟨rfl, hb⟩
  replace hB := hB.trans (hb.mono hB.size)
  replace ia := ia.below hb
  replace ib := ib.below hb
  replace ic := ic.below hb
  replace is := is.below hb
  replace ip := ip.below hb
  replace id := id.below hb
  replace ix := ix.below hb
  clear hb
  clear ix
  clear id
  have hpl : (a.length = 0 ∨ b.length = 0 → (pmul a b).length = 0) ∧ (0 < a.length → 0 < b.length → (pmul a b).length + 1 = a.length + b.length) := pmul_lengths fa.pc fb.pc
  have ha5 := fa.len
  have hb5 := fb.len
  obtain ⟨Aa, ca, rfl, _, _⟩ := id ia
  obtain ⟨Ab, cb, rfl, _, _⟩ := id ib
  obtain ⟨Ap, cp, rfl, _, _⟩ := id ip
  generalize (pmul a b).length = np at *
  generalize a.length = na at *
  generalize b.length = nb at *
  obtain ⟨hp0, hp1⟩ := hpl
  go_upto_region 12 with (fail)
  go_cut [102] (fun s102 wr => s102 = .bool false ∧ wr = w16)
  case first =>
    rcases (by omega : na = 0 ∨ (0 < na ∧ nb = 0) ∨ (0 < na ∧ 0 < nb)) with h | ⟨h, h'⟩ | ⟨h, h'⟩
    · obtain rfl : np = 0 := hp0 (.inl h)
      subst h
      clear hp0 hp1 ha5 hb5
      go_wp2
      go_meet
      exact ⟨rfl, rfl⟩
    · obtain rfl : np = 0 := hp0 (.inr h')
      subst h'
      clear hp0 hp1 ha5 hb5
      go_wp2
      go_meet
      exact ⟨rfl, rfl⟩
    · have hp1 := hp1 h h'
      have e1 : ((np : Int) != (na : Int) + (nb : Int) - 1) = false := by simp; omega
      have e2 : ((na : Int) == 0) = false := by simp; omega
      have e3 : ((nb : Int) == 0) = false := by simp; omega
      clear hp0 hp1
      go_wp2
      go_meet
      exact ⟨rfl, rfl⟩
  case rest =>
    obtain ⟨rfl, rfl⟩ := hcut
    have hz := hB.size

    go_wp2_with fail
    refine (c_add _ _ _ _ _ is ic (((fa).add fb).fn (by omega) (by omega)) ((fc).fn (by omega) (by omega))).mono ?_
    rintro e w17 ⟨⟨v_ix, rfl, ix⟩, hb⟩
    replace hB := hB.trans (hb.mono hB.size)
    replace ia := ia.below hb
    replace ib := ib.below hb
    replace ic := ic.below hb
    replace is := is.below hb
    replace ip := ip.below hb
    clear hb
    go_wp2_with fail
    refine (c_add _ _ _ _ _ ib ic ((fb).fn (by omega) (by omega)) ((fc).fn (by omega) (by omega))).mono ?_
    rintro e w18 ⟨⟨v_iy, rfl, iy⟩, hb⟩
    replace hB := hB.trans (hb.mono hB.size)
    replace ia := ia.below hb
    replace ib := ib.below hb
    replace ic := ic.below hb
    replace is := is.below hb
    replace ip := ip.below hb
    replace ix := ix.below hb
    clear hb
    go_wp2_with fail
    refine (c_add _ _ _ _ _ ia iy ((fa).fn (by omega) (by omega)) (((fb).add fc).fn (by omega) (by omega))).mono ?_
    rintro e w19 ⟨⟨v_iz, rfl, iz⟩, hb⟩
    replace hB := hB.trans (hb.mono hB.size)
    replace ia := ia.below hb
    replace ib := ib.below hb
    replace ic := ic.below hb
    replace is := is.below hb
    replace ip := ip.below hb
    replace ix := ix.below hb
    replace iy := iy.below hb
    clear hb
    go_wp2_with fail
    refine (c_eq _ _ _ _ _ ix iz ((((fa).add fb).add fc).fn (by omega) (by omega)) (padd_assoc _ _ _)).mono ?_
    rintro e w20 ⟨rfl, hb⟩
    replace hB := hB.trans (hb.mono hB.size)
    replace ia := ia.below hb
    replace ib := ib.below hb
    replace ic := ic.below hb
    replace is := is.below hb
    replace ip := ip.below hb
    replace ix := ix.below hb
    replace iy := iy.below hb
    replace iz := iz.below hb
    clear hb
    clear ix
    clear iy
    clear iz
    go_wp2_with fail
    refine (c_mul _ _ _ _ _ ip ic (((fa).mul fb).fn (by omega) (by omega)) ((fc).fn (by omega) (by omega))).mono ?_
    rintro e w21 ⟨⟨v_ix, rfl, ix⟩, hb⟩
    replace hB := hB.trans (hb.mono hB.size)
    replace ia := ia.below hb
    replace ib := ib.below hb
    replace ic := ic.below hb
    replace is := is.below hb
    replace ip := ip.below hb
    clear hb
    go_wp2_with fail
    refine (c_mul _ _ _ _ _ ib ic ((fb).fn (by omega) (by omega)) ((fc).fn (by omega) (by omega))).mono ?_
    rintro e w22 ⟨⟨v_iy, rfl, iy⟩, hb⟩
    replace hB := hB.trans (hb.mono hB.size)
    replace ia := ia.below hb
    replace ib := ib.below hb
    replace ic := ic.below hb
    replace is := is.below hb
    replace ip := ip.below hb
    replace ix := ix.below hb
    clear hb
    go_wp2_with fail
    refine (c_mul _ _ _ _ _ ia iy ((fa).fn (by omega) (by omega)) (((fb).mul fc).fn (by omega) (by omega))).mono ?_
    rintro e w23 ⟨⟨v_iz, rfl, iz⟩, hb⟩
    replace hB := hB.trans (hb.mono hB.size)
    replace ia := ia.below hb
    replace ib := ib.below hb
    replace ic := ic.below hb
    replace is := is.below hb
    replace ip := ip.below hb
    replace ix := ix.below hb
    replace iy := iy.below hb
    clear hb
    go_wp2_with fail
    refine (c_eq _ _ _ _ _ ix iz ((((fa).mul fb).mul fc).fn (by omega) (by omega)) (pmul_assoc _ _ _)).mono ?_
    rintro e w24 ⟨rfl, hb⟩
    replace hB := hB.trans (hb.mono hB.size)
    replace ia := ia.below hb
    replace ib := ib.below hb
    replace ic := ic.below hb
    replace is := is.below hb
    replace ip := ip.below hb
    replace ix := ix.below hb
    replace iy := iy.below hb
    replace iz := iz.below hb
    clear hb
    clear ix
    clear iy
    clear iz
    go_wp2_with fail
    refine (c_mul _ _ _ _ _ is ic (((fa).add fb).fn (by omega) (by omega)) ((fc).fn (by omega) (by omega))).mono ?_
    rintro e w25 ⟨⟨v_ix, rfl, ix⟩, hb⟩
    replace hB := hB.trans (hb.mono hB.size)
    replace ia := ia.below hb
    replace ib := ib.below hb
    replace ic := ic.below hb
    replace is := is.below hb
    replace ip := ip.below hb
    clear hb
    go_wp2_with fail
    refine (c_mul _ _ _ _ _ ia ic ((fa).fn (by omega) (by omega)) ((fc).fn (by omega) (by omega))).mono ?_
    rintro e w26 ⟨⟨v_iy, rfl, iy⟩, hb⟩
    replace hB := hB.trans (hb.mono hB.size)
    replace ia := ia.below hb
    replace ib := ib.below hb
    replace ic := ic.below hb
    replace is := is.below hb
    replace ip := ip.below hb
    replace ix := ix.below hb
    clear hb
    go_wp2_with fail
    refine (c_mul _ _ _ _ _ ib ic ((fb).fn (by omega) (by omega)) ((fc).fn (by omega) (by omega))).mono ?_
    rintro e w27 ⟨⟨v_iz, rfl, iz⟩, hb⟩
    replace hB := hB.trans (hb.mono hB.size)
    replace ia := ia.below hb
    replace ib := ib.below hb
    replace ic := ic.below hb
    replace is := is.below hb
    replace ip := ip.below hb
    replace ix := ix.below hb
    replace iy := iy.below hb
    clear hb
    go_wp2_with fail
    refine (c_add _ _ _ _ _ iy iz (((fa).mul fc).fn (by omega) (by omega)) (((fb).mul fc).fn (by omega) (by omega))).mono ?_
    rintro e w28 ⟨⟨v_it, rfl, it⟩, hb⟩
    replace hB := hB.trans (hb.mono hB.size)
    replace ia := ia.below hb
    replace ib := ib.below hb
    replace ic := ic.below hb
    replace is := is.below hb
    replace ip := ip.below hb
    replace ix := ix.below hb
    replace iy := iy.below hb
    replace iz := iz.below hb
    clear hb
    go_wp2_with fail
    refine (c_eq _ _ _ _ _ ix it ((((fa).add fb).mul fc).fn (by omega) (by omega)) (pmul_padd _ _ _)).mono ?_
    rintro e w29 ⟨rfl, hb⟩
    replace hB := hB.trans (hb.mono hB.size)
    replace ia := ia.below hb
    replace ib := ib.below hb
    replace ic := ic.below hb
    replace is := is.below hb
    replace ip := ip.below hb
    replace ix := ix.below hb
    replace iy := iy.below hb
    replace iz := iz.below hb
    replace it := it.below hb
    clear hb
    clear ix
    clear iy
    clear iz
    clear it
    go_wp2_with fail
    refine (c_add _ _ _ _ _ ia (IsPoly.nil _ _ _) ((fa).fn (by omega) (by omega)) Fn.nil).mono ?_
    rintro e w30 ⟨⟨v_x, rfl, ix⟩, hb⟩
    replace hB := hB.trans (hb.mono hB.size)
    replace ia := ia.below hb
    replace ib := ib.below hb
    replace ic := ic.below hb
    replace is := is.below hb
    replace ip := ip.below hb
    clear hb
    go_wp2_with fail
    refine (c_eq _ _ _ _ _ ix ia ((fa.add (FB.nil 0 0)).fn (by omega) (by omega)) (padd_nil fa.pc)).mono ?_
    rintro e w31 ⟨rfl, hb⟩
    replace hB := hB.trans (hb.mono hB.size)
    replace ia := ia.below hb
    replace ib := ib.below hb
    replace ic := ic.below hb
    replace is := is.below hb
    replace ip := ip.below hb
    replace ix := ix.below hb
    clear hb
    clear ix
    go_wp2_with fail
    refine (c_poly [1] 1 _ [1] _ rfl (by decide) (by decide) rfl (by decide +kernel) _).mono ?_
    rintro e w32 ⟨⟨v_ix, rfl, ix⟩, hb⟩
    replace hB := hB.trans (hb.mono hB.size)
    replace ia := ia.below hb
    replace ib := ib.below hb
    replace ic := ic.below hb
    replace is := is.below hb
    replace ip := ip.below hb
    clear hb
    go_wp2_with fail
    refine (c_mul _ _ _ _ _ ia ix ((fa).fn (by omega) (by omega)) Fn.one).mono ?_
    rintro e w33 ⟨⟨v_y, rfl, iy⟩, hb⟩
    replace hB := hB.trans (hb.mono hB.size)
    replace ia := ia.below hb
    replace ib := ib.below hb
    replace ic := ic.below hb
    replace is := is.below hb
    replace ip := ip.below hb
    replace ix := ix.below hb
    clear hb
    go_wp2_with fail
    refine (c_eq _ _ _ _ _ iy ia ((fa.mul FB.one).fn (by omega) (by omega)) (pmul_one fa.pc)).mono ?_
    rintro e w34 ⟨rfl, hb⟩
    replace hB := hB.trans (hb.mono hB.size)
    replace ia := ia.below hb
    replace ib := ib.below hb
    replace ic := ic.below hb
    replace is := is.below hb
    replace ip := ip.below hb
    replace ix := ix.below hb
    replace iy := iy.below hb
    clear hb
    clear ix
    clear iy
    go_wp2_with fail
    refine (q_whole (-1) _ (by omega) (by omega)).mono ?_
    rintro e w35 ⟨⟨v_q, rfl, iq⟩, hb⟩
    replace hB := hB.trans (hb.mono hB.size)
    replace ia := ia.below hb
    replace ib := ib.below hb
    replace ic := ic.below hb
    replace is := is.below hb
    replace ip := ip.below hb
    clear hb
    go_wp2_with fail
    refine (c_scale _ _ _ _ _ iq ia (Nat.le_trans ((Bq.int (b := 0) (by decide)).sz (Nat.zero_le _)) (by omega)) ((fa).fn (by omega) (by omega))).mono ?_
    rintro e w36 ⟨⟨v_x, rfl, ix⟩, hb⟩
    replace hB := hB.trans (hb.mono hB.size)
    replace ia := ia.below hb
    replace ib := ib.below hb
    replace ic := ic.below hb
    replace is := is.below hb
    replace ip := ip.below hb
    replace iq := iq.below hb
    clear hb
    clear iq
    go_wp2_with fail
    refine (c_sub _ _ _ _ _ (IsPoly.nil _ _ _) ia Fn.nil ((fa).fn (by omega) (by omega))).mono ?_
    rintro e w37 ⟨⟨v_y, rfl, iy⟩, hb⟩
    replace hB := hB.trans (hb.mono hB.size)
    replace ia := ia.below hb
    replace ib := ib.below hb
    replace ic := ic.below hb
    replace is := is.below hb
    replace ip := ip.below hb
    replace ix := ix.below hb
    clear hb
    go_wp2_with fail
    refine (c_eq _ _ _ _ _ ix iy ((FB.scale (c := ((-1 : Int) : Rat)) (Bq.int (b := 0) (by decide)) fa).fn (by omega) (by omega)) (pscale_neg _)).mono ?_
    rintro e w38 ⟨rfl, hb⟩
    replace hB := hB.trans (hb.mono hB.size)
    replace ia := ia.below hb
    replace ib := ib.below hb
    replace ic := ic.below hb
    replace is := is.below hb
    replace ip := ip.below hb
    replace ix := ix.below hb
    replace iy := iy.below hb
    clear hb
    clear ix
    clear iy
    go_wp2_with fail
    refine (c_sub _ _ _ _ _ ia ia ((fa).fn (by omega) (by omega)) ((fa).fn (by omega) (by omega))).mono ?_
    rintro e w39 ⟨⟨v_x, rfl, ix⟩, hb⟩
    replace hB := hB.trans (hb.mono hB.size)
    replace ia := ia.below hb
    replace ib := ib.below hb
    replace ic := ic.below hb
    replace is := is.below hb
    replace ip := ip.below hb
    clear hb
    rw [psub_self] at ix
    obtain ⟨_, _, rfl, _, _⟩ := ix
    go_wp2
    go_ret
    exact ⟨rfl, hB⟩

end Go.Proofs.YtlklgeidffjidaaGreat

/- The arguments of the laws, opened. -/
namespace Go.Proofs.YtlklgeidffjidaaGreat
open Go.ChangeShapes Go.WideShapes Go.ChangeAt Go.RowKit Go.Deep
set_option linter.unusedSimpArgs false
set_option maxRecDepth 10000

theorem cells_raw : Tryz.prog.cellsOf 54 = 3 := by kernel_rfl
theorem bytes_raw : Tryz.prog.bytesOf 54 = 3 := by kernel_rfl
theorem cells_i8 : Tryz.prog.cellsOf 38 = 1 := by kernel_rfl
theorem cells_u8 : Tryz.prog.cellsOf 5 = 1 := by kernel_rfl
section
variable {H : Type} {enc : TypeId × Value → H} {w : World} {base : Nat} {spare : Nat → Bool} {held : Bool}
/-- The three fields of a Raw. -/
theorem open_raw3 {fuel : Nat} {cs : List Value} {x : DataW H × List MemPlace} (h : DataW.trod enc Tryz.prog w base spare held fuel 54 cs = some x) :
    ∃ r : QRaw, r.ok ∧ cs = [.int .i8 r.n, .int .i8 r.d, .int .u8 r.k] ∧ x.2 = [] := by
  obtain ⟨xs, n, _, hx, hlen, hxs, hf⟩ := DataW.trod_struct Tryz.underlying54 h
  rw [cells_raw] at hlen
  match cs, hlen with
  | [c0, c1, c2], _ =>
    have h0 := hf 0 _ rfl
    have h1 := hf 1 _ rfl
    have h2 := hf 2 _ rfl
    match xs, hxs with
    | [y0, y1, y2], _ =>
      simp only [cells_i8, cells_u8, List.drop_zero, List.take, List.drop, List.getElem?_cons_zero, List.getElem?_cons_succ] at h0 h1 h2
      obtain ⟨n0, e0, f0, w0⟩ := DataW.trod_int Tryz.underlying38 h0
      obtain ⟨n1, e1, f1, w1⟩ := DataW.trod_int Tryz.underlying38 h1
      obtain ⟨n2, e2, f2, w2⟩ := DataW.trod_int Tryz.underlying5 h2
      cases e0; cases e1; cases e2
      refine ⟨⟨n0, n1, n2⟩, ⟨(bounds_i8 w0).1, (bounds_i8 w0).2, (bounds_i8 w1).1, (bounds_i8 w1).2, (bounds_u8 w2).1, (bounds_u8 w2).2⟩, rfl, ?_⟩
      rw [hx, f0, f1, f2]; rfl
/-- A slice of Raw. -/
theorem open_raws {fuel : Nat} {A : Option Addr} {n c : Nat} {x : DataW H × List MemPlace} (h : DataW.trod enc Tryz.prog w base spare held fuel 25 [.slice A n c] = some x) :
    (∃ l, QRaws w A l ∧ n = l.length) ∧ n ≤ c ∧ (n = 0 ∨ ∃ elems spare, x.1 = .slice elems spare ∧ n ≤ elems.length + spare.length) := by
  rcases open_slice Tryz.underlying25 h with ⟨hcs, _⟩ | ⟨a, len, cap, m, f, D, Pl, hcs, _, hl, hm, hmm, hx, hi⟩
  · simp only [List.cons.injEq, Value.slice.injEq, and_true] at hcs
    obtain ⟨rfl, rfl, rfl⟩ := hcs
    exact ⟨⟨[], fun j hj => by simp at hj, rfl⟩, Nat.le_refl _, .inl rfl⟩
  · simp only [List.cons.injEq, Value.slice.injEq, and_true] at hcs
    obtain ⟨rfl, rfl, rfl⟩ := hcs
    have hnm : n ≤ m := by rw [hmm]; split <;> omega
    have hx1 : x.1 = .slice ((List.range n).map D) ((List.range (m - n)).map fun j => D (n + j)) := by rw [hx]
    refine ⟨?_, hl, .inr ⟨_, _, hx1, by simp⟩⟩
    rw [cells_raw] at hi
    have key : ∀ i, ∃ r : QRaw, i < n → r.ok ∧ ∀ j u, [Value.int .i8 r.n, .int .i8 r.d, .int .u8 r.k][j]? = some u → w.cell? ((a.add (i * 3)).add j) = some u := by
      intro i
      by_cases hin : i < n
      · obtain ⟨cs', hc, ht⟩ := hi i (by omega)
        obtain ⟨r, hr, rfl, _⟩ := open_raw3 ht
        obtain ⟨_, _, hat⟩ := World.cells?_some hc
        refine ⟨r, fun _ => ⟨hr, fun j u hj => ?_⟩⟩
        have hj3 : j < 3 := (List.getElem?_eq_some_iff.1 hj).1
        exact (hat j hj3).trans hj
      · exact ⟨.zero, fun h => absurd h hin⟩
    obtain ⟨F, hF⟩ : ∃ F : Nat → QRaw, ∀ i, i < n → (F i).ok ∧ ∀ j u, [Value.int .i8 (F i).n, .int .i8 (F i).d, .int .u8 (F i).k][j]? = some u → w.cell? ((a.add (i * 3)).add j) = some u := ⟨fun i => Classical.choose (key i), fun i => Classical.choose_spec (key i)⟩
    by_cases hn0 : n = 0
    · subst hn0; exact ⟨[], fun j hj => by simp at hj, rfl⟩
    have hspot : a.spot = none := by
      have k0 := (hF 0 (by omega)).2 0 _ rfl
      rw [Nat.zero_mul] at k0
      exact World.cell?_spot k0
    obtain ⟨b, off, spot⟩ := a
    simp only at hspot
    subst hspot
    refine ⟨(List.range n).map F, fun i hin => ?_, by simp⟩
    rw [List.length_map, List.length_range] at hin
    have e : ((List.range n).map F).getD i .zero = F i := by
      rw [List.getD_eq_getElem?_getD, List.getElem?_map, List.getElem?_range hin]; rfl
    rw [e]
    obtain ⟨hok, hat⟩ := hF i hin
    refine ⟨hok, ?_⟩
    have k0 := hat 0 _ rfl
    have k1 := hat 1 _ rfl
    have k2 := hat 2 _ rfl
    rw [addr_add, addr_add] at k0 k1 k2
    exact ⟨b, off, rfl, World.block_lt_of_cell? _ _ k0, k0, k1, k2⟩
end

end Go.Proofs.YtlklgeidffjidaaGreat

/- The row of UnivariateRing. -/
namespace Go.Proofs.YtlklgeidffjidaaGreat.univariateRingDone
open Go.ChangeShapes Go.WideShapes Go.ChangeAt Go.RowKit Go.Joins
open Go.ChangeMaps (open_string shut_string)
set_option linter.unusedVariables false

theorem own : ownKnob Tryz.prog.godebug = none := by kernel_rfl
theorem laidOut : laidOutB Tryz.prog = true := by kernel_rfl

set_option maxRecDepth 100000 in
theorem lifted (os : Os) (started : os.Started) (H : Type) (enc : TypeId × Value → H) :
    ReturnsInHanded {} Tryz.checked os 4 .any (Rows.univariateRingSpec.pre6 enc Tryz.prog Tryz.f4 Rows.univariateRingRow.domain false) (Rows.univariateRingSpec.post enc Tryz.prog Tryz.f4 false true false false) := by
  refine returnsInHanded_of_change_sized (C := Tryz.checked) own started (by kernel_rfl) Tryz.func4
    (ChangeSpec.witness6 (enc := enc) (C := Tryz.checked) false ⟨#[], #[.slice none 0 0, .slice none 0 0, .slice none 0 0], []⟩ 8 (by kernel_rfl) (by kernel_rfl) (by kernel_rfl) (by kernel_rfl)) ?_
  intro W base args ds gs before hval0 hW hcnd hsz0 _
  have hval : ∀ (j : Nat) t v, Tryz.f4.params[j]? = some t → args[j]? = some v → Value.okWide Tryz.prog W .any base t v := hval0
  have hW' := hW
  have hsz : (DataW.weightsEach Tryz.prog (Tryz.f4.params.toList ++ Rows.univariateRingSpec.plain.varTypes Tryz.prog) (ds ++ gs)).all (· ≤ reachBytes) = true := hsz0
  obtain ⟨p, q, hA0, hV, rfl, hfz, hnd⟩ := hW
  have hA : DataW.TrodAll enc Tryz.prog W 0 (fun _ => true) true Tryz.f4.params.toList args.toList ds p := hA0
  rw [Tryz.params4] at hA hval hsz
  obtain ⟨v0, vs0, d0, ds0, p0, q0, hargs, rfl, rfl, h0, r0⟩ := trodAll_cons hA
  obtain ⟨v1, vs1, d1, ds1, p1, q1, rfl, rfl, rfl, h1, r1⟩ := trodAll_cons r0
  obtain ⟨v2, vs2, d2, ds2, p2, q2, rfl, rfl, rfl, h2, r2⟩ := trodAll_cons r1
  obtain ⟨rfl, rfl, rfl⟩ := trodAll_nil r2
  obtain rfl : args = #[v0, v1, v2] := by cases args; simp_all
  obtain ⟨rfl, rfl⟩ := trodVars_none hV
  have k0 := h0
  have lt0 : ∀ x ∈ p0, x.block < W.heap.size := by obtain ⟨m, hm⟩ := k0; exact DataW.trod_lt m _ _ _ hm
  obtain ⟨A0, n0, c0, rfl⟩ := okWide_slice Tryz.underlying25 (hval 0 25 v0 rfl rfl)
  obtain ⟨⟨l0, a0, b0⟩, e0, s0⟩ : (∃ l, QRaws W A0 l ∧ n0 = l.length) ∧ n0 ≤ c0 ∧ n0 * 3 ≤ 140737488351232 := by
    obtain ⟨fuel, hf⟩ := h0
    obtain ⟨o1, o2, o3⟩ := open_raws hf
    refine ⟨o1, o2, ?_⟩
    rcases o3 with o3 | ⟨es, sp, hd, o3⟩
    · omega
    · have := sized_slice hsz (j := 0) (t := 25) (e := 54) rfl (by rw [← hd]; rfl) Tryz.underlying25
      rw [bytes_raw] at this
      simp only [reachBytes] at this
      omega
  have k1 := h1
  have lt1 : ∀ x ∈ p1, x.block < W.heap.size := by obtain ⟨m, hm⟩ := k1; exact DataW.trod_lt m _ _ _ hm
  obtain ⟨A1, n1, c1, rfl⟩ := okWide_slice Tryz.underlying25 (hval 1 25 v1 rfl rfl)
  obtain ⟨⟨l1, a1, b1⟩, e1, s1⟩ : (∃ l, QRaws W A1 l ∧ n1 = l.length) ∧ n1 ≤ c1 ∧ n1 * 3 ≤ 140737488351232 := by
    obtain ⟨fuel, hf⟩ := h1
    obtain ⟨o1, o2, o3⟩ := open_raws hf
    refine ⟨o1, o2, ?_⟩
    rcases o3 with o3 | ⟨es, sp, hd, o3⟩
    · omega
    · have := sized_slice hsz (j := 1) (t := 25) (e := 54) rfl (by rw [← hd]; rfl) Tryz.underlying25
      rw [bytes_raw] at this
      simp only [reachBytes] at this
      omega
  have k2 := h2
  have lt2 : ∀ x ∈ p2, x.block < W.heap.size := by obtain ⟨m, hm⟩ := k2; exact DataW.trod_lt m _ _ _ hm
  obtain ⟨A2, n2, c2, rfl⟩ := okWide_slice Tryz.underlying25 (hval 2 25 v2 rfl rfl)
  obtain ⟨⟨l2, a2, b2⟩, e2, s2⟩ : (∃ l, QRaws W A2 l ∧ n2 = l.length) ∧ n2 ≤ c2 ∧ n2 * 3 ≤ 140737488351232 := by
    obtain ⟨fuel, hf⟩ := h2
    obtain ⟨o1, o2, o3⟩ := open_raws hf
    refine ⟨o1, o2, ?_⟩
    rcases o3 with o3 | ⟨es, sp, hd, o3⟩
    · omega
    · have := sized_slice hsz (j := 2) (t := 25) (e := 54) rfl (by rw [← hd]; rfl) Tryz.underlying25
      rw [bytes_raw] at this
      simp only [reachBytes] at this
      omega
  clear hA0 hval0
  refine (l_ring A0 A1 A2 n0 n1 n2 c0 c1 c2 l0 l1 l2 W a0 a1 a2 b0 b1 b2 e0 e1 e2 (by omega) (by omega) (by omega)).mono fun e W' ⟨he, bel⟩ => ?_
  subst he
  exact ⟨_, rfl, _, _, _, [], _, [], hW', trodAll_mk1 (shut_bool Tryz.underlying4 _), (trodAll_cons_mk (Below.trod laidOut (by kernel_rfl) (of_decide_eq_true (by kernel_rfl)) k0 bel lt0) (trodAll_cons_mk (Below.trod laidOut (by kernel_rfl) (of_decide_eq_true (by kernel_rfl)) k1 bel lt1) (trodAll_cons_mk (Below.trod laidOut (by kernel_rfl) (of_decide_eq_true (by kernel_rfl)) k2 bel lt2) trodAll_mk0))), rfl, bel.frame _, fun h => by cases h⟩

theorem over : Rows.univariateRingRow.holds Tryz.pinned (OpenSpec.ofChange Rows.univariateRingSpec) :=
  OpenClaim.holds_of_wide 4 Tryz.f4 rfl rfl rfl rfl rfl rfl rfl ⟨rfl, rfl, rfl, rfl, rfl⟩ rfl rfl rfl rfl rfl (by kernel_rfl) Tryz.func4 (by kernel_rfl)
    (of_decide_eq_true (by kernel_rfl)) (by unfold Func.isWrapper; first | (rw [if_pos (by decide +kernel)]; kernel_rfl) | (rw [if_neg (by decide +kernel)]; exact ⟨rfl, rfl⟩))
    (fun os started H enc _ => lifted os started H enc)

theorem proved : Rows.UnivariateRingSaid := over
end Go.Proofs.YtlklgeidffjidaaGreat.univariateRingDone
