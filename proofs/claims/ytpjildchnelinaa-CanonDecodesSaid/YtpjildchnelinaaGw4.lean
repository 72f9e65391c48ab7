/- Words and walks of my own: what each function of the program and of the library that the law reaches comes to, for every input that its callers hand it (file 5 of 5). Conditions: none but those that each theorem names. -/
import Derived.Test.YtpjildchnelinaaGw3
set_option linter.unusedVariables false
set_option linter.unnecessarySimpa false
set_option linter.unusedSimpArgs false
set_option linter.unusedSectionVars false
namespace Go.Proofs.Gw
open Go Go.Gw Go.Proofs Go.RowKit
set_option maxRecDepth 100000 in
set_option maxHeartbeats 1000000 in
theorem r04_Over (x : GLong) (csx : List Value) (y : GLong) (csy : List Value) (w0 : World) (hx : kLong.K (hp w0) x csx) (hy : kLong.K (hp w0) y csy) (hy0 : 0 < y.N) (hy8 : y.N < 65536 ^ 8) : Calls Try.prog 125 #[.agg csx.toArray, .agg csy.toArray] w0 (Ret fun v w' => ∃ (cs0 : List Value) (cs1 : List Value), v = .tuple #[.agg cs0.toArray, .agg cs1.toArray] ∧ Has w0 w' [hp w0] ∧ kLong.K emp (⟨!(x.Below == y.Below), x.N / y.N⟩) cs0 ∧ kLong.K emp (⟨false, x.N % y.N⟩) cs1) := by
  refine fnstart (N := 62) Try.func125 rfl Try.ntmps125 (Nat.le_of_ble_eq_true rfl) ?_
  have hH0 : Has w0 w0 [hp w0] := Has.refl w0
  have hK1 := hx
  obtain ⟨_, _, rfl, rfl, hlt1, rfl⟩ := hK1
  have hK2 := hy
  obtain ⟨_, _, rfl, rfl, hlt2, rfl⟩ := hK2
  refine CW.seq (CW.region rfl ?_)
  refine W.box rfl rfl rfl rfl rfl rfl hH0 (fun b1 zb1 w1 hH1 hB1 => ?_)
  refine W.box rfl rfl rfl rfl rfl rfl hH1 (fun b2 zb2 w2 hH2 hB2 => ?_)
  refine W.alloc rfl rfl rfl rfl Try.zr181 rfl hH2 (fun b3 zb3 w3 hH3 hB3 => ?_)
  obtain ⟨D1, hD1⟩ : ∃ D : List Int, D = List.replicate 16 (0 : Int) := ⟨_, rfl⟩
  have hB4 : Blk zb3 b3 181 ([.bool false] ++ D1.map (vI .u64)) := by rw [hD1]; exact hB3
  have hDl1 : D1.length = 16 := by rw [hD1]; rfl
  have hDb1 : ∀ (i : Nat) d, D1[i]? = some d → (0 : Int) ≤ d ∧ d ≤ 18446744073709551615 := by rw [hD1]; exact rep_bd (by decide)
  refine W.alloc rfl rfl rfl rfl Try.zr181 rfl hH3 (fun b4 zb4 w4 hH4 hB5 => ?_)
  obtain ⟨D2, hD2⟩ : ∃ D : List Int, D = List.replicate 16 (0 : Int) := ⟨_, rfl⟩
  have hB6 : Blk zb4 b4 181 ([.bool false] ++ D2.map (vI .u64)) := by rw [hD2]; exact hB5
  have hDl2 : D2.length = 16 := by rw [hD2]; rfl
  have hDb2 : ∀ (i : Nat) d, D2[i]? = some d → (0 : Int) ≤ d ∧ d ≤ 18446744073709551615 := by rw [hD2]; exact rep_bd (by decide)
  refine W.nil (EX.then_n (CW.seq (CW.region rfl (W.val rfl rfl rfl (R.build rfl rfl Try.zr181 rfl (by rw [Try.underlying181]; rfl) Try.plc181 rfl) (W.re (d := 10) (v := Value.agg (([.bool false] : List Value) ++ (digs 16 0).map (vI .u64)).toArray) rfl rfl ?_)))))
  refine W.alloc rfl rfl rfl rfl Try.zr181 rfl hH4 (fun b5 zb5 w5 hH5 hB7 => ?_)
  obtain ⟨D3, hD3⟩ : ∃ D : List Int, D = List.replicate 16 (0 : Int) := ⟨_, rfl⟩
  have hB8 : Blk zb5 b5 181 ([.bool false] ++ D3.map (vI .u64)) := by rw [hD3]; exact hB7
  have hDl3 : D3.length = 16 := by rw [hD3]; rfl
  have hDb3 : ∀ (i : Nat) d, D3[i]? = some d → (0 : Int) ≤ d ∧ d ≤ 18446744073709551615 := by rw [hD3]; exact rep_bd (by decide)
  refine W.sg0 rfl rfl rfl rfl rfl (Try.sz181.trans (congrArg some (arr_len1 (digs_len 16 _)).symm)) (arr_one rfl) (arr_same (by rfl) (digs_len 16 _) hDl3) hH5 hB8 (fun zb6 w6 hH6 hB9 => ?_)
  refine W.nil (EX.then_n (CW.seq (CW.region rfl (W.val rfl rfl rfl (R.build rfl rfl Try.zr181 rfl (by rw [Try.underlying181]; rfl) Try.plc181 rfl) (W.re (d := 11) (v := Value.agg (([.bool false] : List Value) ++ (digs 16 0).map (vI .u64)).toArray) rfl rfl ?_)))))
  refine W.alloc rfl rfl rfl rfl Try.zr181 rfl hH6 (fun b6 zb7 w7 hH7 hB10 => ?_)
  obtain ⟨D4, hD4⟩ : ∃ D : List Int, D = List.replicate 16 (0 : Int) := ⟨_, rfl⟩
  have hB11 : Blk zb7 b6 181 ([.bool false] ++ D4.map (vI .u64)) := by rw [hD4]; exact hB10
  have hDl4 : D4.length = 16 := by rw [hD4]; rfl
  have hDb4 : ∀ (i : Nat) d, D4[i]? = some d → (0 : Int) ≤ d ∧ d ≤ 18446744073709551615 := by rw [hD4]; exact rep_bd (by decide)
  refine W.sg0 rfl rfl rfl rfl rfl (Try.sz181.trans (congrArg some (arr_len1 (digs_len 16 _)).symm)) (arr_one rfl) (arr_same (by rfl) (digs_len 16 _) hDl4) hH7 hB11 (fun zb8 w8 hH8 hB12 => ?_)
  refine W.nil (EX.then_n (CW.seq (CW.region rfl (W.lg0 rfl rfl rfl rfl rfl Try.pl181 (by rw [Try.underlying181]; rfl) (Try.sz181.trans (congrArg some (arr_len1 (digs_len 16 _)).symm)) hH8 m4 hB2 ?_))))
  refine W.alloc rfl rfl rfl rfl Try.zr181 rfl hH8 (fun b7 zb9 w9 hH9 hB13 => ?_)
  obtain ⟨D5, hD5⟩ : ∃ D : List Int, D = List.replicate 16 (0 : Int) := ⟨_, rfl⟩
  have hB14 : Blk zb9 b7 181 ([.bool false] ++ D5.map (vI .u64)) := by rw [hD5]; exact hB13
  have hDl5 : D5.length = 16 := by rw [hD5]; rfl
  have hDb5 : ∀ (i : Nat) d, D5[i]? = some d → (0 : Int) ≤ d ∧ d ≤ 18446744073709551615 := by rw [hD5]; exact rep_bd (by decide)
  refine W.sg0 rfl rfl rfl rfl rfl (Try.sz181.trans (congrArg some (arr_len1 (digs_len 16 _)).symm)) (arr_one rfl) (arr_same (by rfl) (digs_len 16 _) hDl5) hH9 hB14 (fun zb10 w10 hH10 hB15 => ?_)
  refine W.nil (EX.then_n (CW.seq (CW.region rfl (W.val rfl rfl rfl (R.fa0 0 rfl rfl Try.underlying181 rfl Try.sz4 rfl) ?_))))
  refine W.storeLoc rfl rfl rfl rfl rfl Try.sz4 rfl (Nat.le_of_ble_eq_true rfl) hH10 hB15 (fun zb11 w11 hH11 hB16 => ?_)
  have hB17 : Blk zb11 _ _ ([.bool false] ++ (digs 16 y.N).map (vI .u64)) := hB16
  refine W.nil (EX.then_n (CW.seq (CW.seq (CW.region rfl ?_))))
  have hx256 : x.N / 2 ^ 256 = 0 := Nat.div_eq_of_lt (Nat.lt_of_lt_of_le hlt1 (by decide))
  refine W.val rfl rfl rfl (R.assign rfl rfl) (W.nil (EX.then_n (CW.block ?_)))
  have hH12 := hH11.f1
  have hH13 := hH12.f2
  have hH14 := hH13.f7
  have hH15 := hH14.f7
  have hH16 := hH15.f7
  have hH17 := hH16.f7
  have hH18 := hH17.f7
  have hH19 := hH18.f7
  have hH20 := hH19.f7
  have hH21 := hH20.f7
  obtain ⟨I1, hI1⟩ : ∃ I : Nat → List (Nat × Value) → World → Prop, I = (fun n_ D_ w_ => ∃ (k : Nat) (zq : PH) (zr : PH), D_ = [(9, .int .i64 ((k : Int) - 1))] ∧ n_ = k ∧ Has w0 w_ [zq, zr, zb11, zb4, zb3, zb2, zb1, (hp w0)] ∧ (k ≤ 256) ∧ (Blk zq b5 181 ([.bool false] ++ (digs 16 (x.N / 2 ^ k / y.N * 2 ^ k)).map (vI .u64))) ∧ (Blk zr b6 181 ([.bool false] ++ (digs 16 (x.N / 2 ^ k % y.N)).map (vI .u64)))) := ⟨_, rfl⟩
  refine CW.loop3 [9, 14, 15, 16, 17, 18, 19, 20, 21, 22, 23, 24, 25, 26, 27, 28, 29, 30, 31, 32, 33, 34, 35, 36, 37, 38, 39, 40, 41, 42, 43, 44, 45, 46, 47, 48, 49, 50, 51, 52, 53] I1 _ _ ?_ (by rw [hI1]; exact ⟨256, _, _, rfl, rfl, hH21, by omega, (by rw [hx256, Nat.zero_div, Nat.zero_mul]; exact hB9), (by rw [hx256, Nat.zero_mod]; exact hB12)⟩) ?_
  exact ⟨lk_int rfl (by first | rfl | omega), trivial⟩
  intro n1 D w12 hn1
  rw [hI1] at hn1
  obtain ⟨k, zq, zr, rfl, hme1, hH22, hk, hBq, hBr⟩ := hn1
  refine CW.seq (CW.seq (CW.region rfl (W.val rfl rfl rfl (R.move rfl rfl) (W.val rfl rfl rfl (R.geq rfl rfl rfl) (W.nil (EX.then_n ?_))))))
  refine CW.cond rfl (fun hc1 => ?_) (fun hc1 => ?_)
  replace hc1 := of_decide_eq_true hc1
  refine CW.skip (EX.then_n (CW.seq (CW.block (CW.seq (CW.region rfl ?_)))))
  obtain ⟨b, rfl⟩ : ∃ b, k = b + 1 := ⟨k - 1, by omega⟩
  have hrm := Nat.mod_lt (x.N / 2 ^ (b + 1)) hy0
  have hrn16 : x.N / 2 ^ (b + 1) % y.N < 65536 ^ 16 := by omega
  refine W.lg0 rfl rfl rfl rfl rfl Try.pl181 (by rw [Try.underlying181]; rfl) (Try.sz181.trans (congrArg some (arr_len1 (digs_len 16 _)).symm)) hH22 m1 hBr (W.lg0 rfl rfl rfl rfl rfl Try.pl181 (by rw [Try.underlying181]; rfl) (Try.sz181.trans (congrArg some (arr_len1 (digs_len 16 _)).symm)) hH22 m1 hBr ?_)
  refine W.call rfl rfl rfl rfl rfl Try.func149 Try.nm149 Try.bd149 (r04_up (⟨_, _⟩ : GLong) _ (⟨_, _⟩ : GLong) _ w12 ⟨_, _, rfl, rfl, (by first | assumption | exact hrn16 | omega | (dsimp only; first | assumption | omega)), rfl⟩ ⟨_, _, rfl, rfl, (by first | assumption | exact hrn16 | omega | (dsimp only; first | assumption | omega)), rfl⟩ (by dsimp only; omega)) ?_
  rintro v1 w13 ⟨cs01, rfl, hH23, hK01⟩
  have hH24 := hH22.c0 hH23
  have hK3 := hK01
  obtain ⟨lb1, ln1, hlb1, hln1, hlt3, rfl⟩ := hK3
  dsimp only at hlb1 hln1
  subst hlb1
  replace hln1 : ln1 = ((x.N / 2 ^ (b + 1) % y.N)) + ((x.N / 2 ^ (b + 1) % y.N)) := hln1
  have hH25 := hH24.f1
  refine W.sg0 rfl rfl rfl rfl rfl (Try.sz181.trans (congrArg some (arr_len1 (digs_len 16 _)).symm)) (arr_one rfl) (arr_same (by rfl) (digs_len 16 _) (digs_len 16 _)) hH25 hBr (fun zb12 w14 hH26 hB18 => ?_)
  refine W.nil (EX.then_n (CW.seq ?_))
  have hH27 := hH26.drew
  refine CW.draw (fun w => Sub zb12 w ∧ Sub zb1 w ∧ True) [15] #[false, false, false, false, false, false, false, false, false, false, false, false, false, false, false, false] Try.mixed rfl rfl ⟨hH27.sub _ m0, hH27.sub _ m6, trivial⟩ (WA.pure (i := 0) #[true, false, false, false, false, false, false, false, false, false, false, false, false, false, false, false] (blind_then (blind_blk (blind_then (blind_then (blind_blk (blind_then (blind_body _ _))))))) rfl (by kernel_rfl) rfl rfl rfl (fun _ => R.fa0 1 rfl rfl Try.underlying181 rfl Try.sz179 rfl) ?_)
  refine WA.idxA (i' := 1) (D := (digs 16 ln1)) #[true, true, false, false, false, false, false, false, false, false, false, false, false, false, false, false] (blind_then (blind_blk (blind_then (blind_then (blind_blk (blind_then (blind_body _ _))))))) rfl (by kernel_rfl) 1 rfl rfl rfl rfl rfl rfl (fun j => add_add _ _ _) Try.underlying179 Try.sz75 (digs_len 16 _) (by omega) (by omega) (fun y1 hy1 => ?_)
  have hab1 := digs_all _ _ hy1
  try simp only [Int.toNat_natCast, Int.reduceToNat] at hy1
  refine WA.take (i := 2) #[true, true, true, false, false, false, false, false, false, false, false, false, false, false, false, false] (blind_then (blind_blk (blind_then (blind_then (blind_blk (blind_then (blind_body _ _))))))) rfl (by kernel_rfl) rfl rfl rfl (fun _ hw => R.load rfl rfl Try.pl75 (cellz_le hw.1 (Blk.arr 1 rfl hB18 (by first | exact hy1 | (simp only [Int.toNat_natCast, Int.reduceToNat]; exact hy1))))) ⟨hH27.sub _ m0, hH27.sub _ m6, trivial⟩ (WA.pure (i := 3) #[true, true, true, true, false, false, false, false, false, false, false, false, false, false, false, false] (blind_then (blind_blk (blind_then (blind_then (blind_blk (blind_then (blind_body _ _))))))) rfl (by kernel_rfl) rfl rfl rfl (fun _ => R.move rfl rfl) (WA.pure (i := 4) #[true, true, true, true, true, false, false, false, false, false, false, false, false, false, false, false] (blind_then (blind_blk (blind_then (blind_then (blind_blk (blind_then (blind_body _ _))))))) rfl (by kernel_rfl) rfl rfl rfl (fun _ => R.quo rfl rfl rfl (by omega) (by omega) (ok_i64 (by omega))) (WA.pure (i := 5) #[true, true, true, true, true, true, false, false, false, false, false, false, false, false, false, false] (blind_then (blind_blk (blind_then (blind_then (blind_blk (blind_then (blind_body _ _))))))) rfl (by kernel_rfl) rfl rfl rfl (fun _ => R.fa0 1 rfl rfl Try.underlying181 rfl Try.sz179 rfl) ?_)))
  refine WA.idxA (i' := 6) (D := (digs 16 x.N)) #[true, true, true, true, true, true, true, false, false, false, false, false, false, false, false, false] (blind_then (blind_blk (blind_then (blind_then (blind_blk (blind_then (blind_body _ _))))))) rfl (by kernel_rfl) 1 rfl rfl rfl rfl rfl rfl (fun j => add_add _ _ _) Try.underlying179 Try.sz75 (digs_len 16 _) (by omega) (by omega) (fun y2 hy2 => ?_)
  have hab2 := digs_all _ _ hy2
  try simp only [Int.toNat_natCast, Int.reduceToNat] at hy2
  refine WA.take (i := 7) #[true, true, true, true, true, true, true, true, false, false, false, false, false, false, false, false] (blind_then (blind_blk (blind_then (blind_then (blind_blk (blind_then (blind_body _ _))))))) rfl (by kernel_rfl) rfl rfl rfl (fun _ hw => R.load rfl rfl Try.pl75 (cellz_le hw.2.1 (Blk.arr 1 rfl hB1 (by first | exact hy2 | (simp only [Int.toNat_natCast, Int.reduceToNat]; exact hy2))))) ⟨hH27.sub _ m0, hH27.sub _ m6, trivial⟩ (WA.pure (i := 8) #[true, true, true, true, true, true, true, true, true, false, false, false, false, false, false, false] (blind_then (blind_blk (blind_then (blind_then (blind_blk (blind_then (blind_body _ _))))))) rfl (by kernel_rfl) rfl rfl rfl (fun _ => R.move rfl rfl) (WA.pure (i := 9) #[true, true, true, true, true, true, true, true, true, true, false, false, false, false, false, false] (blind_then (blind_blk (blind_then (blind_then (blind_blk (blind_then (blind_body _ _))))))) rfl (by kernel_rfl) rfl rfl rfl (fun _ => R.rem rfl rfl rfl (by omega) (by omega)) (WA.pure (i := 10) #[true, true, true, true, true, true, true, true, true, true, true, false, false, false, false, false] (blind_then (blind_blk (blind_then (blind_then (blind_blk (blind_then (blind_body _ _))))))) rfl (by kernel_rfl) rfl rfl rfl (fun _ => R.shrN (b % 16) rfl rfl rfl (by omega) (by first | omega | (show _ ≤ 64; omega)) (by omega)) ?_)))
  have hqn0 : (0:Int) ≤ ((y2.toNat / 2 ^ (b % 16) : Nat) : Int) := Int.natCast_nonneg _
  refine WA.pure (i := 11) #[true, true, true, true, true, true, true, true, true, true, true, true, false, false, false, false] (blind_then (blind_blk (blind_then (blind_then (blind_blk (blind_then (blind_body _ _))))))) rfl (by kernel_rfl) rfl rfl rfl (fun _ => R.rem rfl rfl rfl (by omega) (by omega)) ?_
  have hbt : x.N / 65536 ^ (b / 16) % 65536 / 2 ^ (b % 16) % 2 = x.N / 2 ^ b % 2 := bit_of _ _
  have hq1 := digs_get hy2
  rw [show ((((b + 1 : Nat) : Int) - 1) / 16).toNat = b / 16 by omega] at hq1
  have hq0 := digs_get hy1
  rw [Nat.pow_zero, Nat.div_one] at hq0
  obtain ⟨bt, hbt2⟩ : ∃ bt : Nat, bt = x.N / 2 ^ b % 2 := ⟨_, rfl⟩
  rw [hq1, Int.toNat_natCast, show (((x.N / 65536 ^ (b / 16) % 65536 / 2 ^ (b % 16) : Nat) : Int) % 2) = (bt : Int) from by rw [hbt2, ← hbt, Int.natCast_emod (x.N / 65536 ^ (b / 16) % 65536 / 2 ^ (b % 16))]; rfl]
  refine WA.pure (i := 12) #[true, true, true, true, true, true, true, true, true, true, true, true, true, false, false, false] (blind_then (blind_blk (blind_then (blind_then (blind_blk (blind_then (blind_body _ _))))))) rfl (by kernel_rfl) rfl rfl rfl (fun _ => R.addx rfl rfl rfl (ok_u64 (by omega))) (WA.pure (i := 13) #[true, true, true, true, true, true, true, true, true, true, true, true, true, true, false, false] (blind_then (blind_blk (blind_then (blind_then (blind_blk (blind_then (blind_body _ _))))))) rfl (by kernel_rfl) rfl rfl rfl (fun _ => R.fa0 1 rfl rfl Try.underlying181 rfl Try.sz179 rfl) ?_)
  refine WA.idxA (i' := 14) (D := (digs 16 ln1)) #[true, true, true, true, true, true, true, true, true, true, true, true, true, true, true, false] (blind_then (blind_blk (blind_then (blind_then (blind_blk (blind_then (blind_body _ _))))))) rfl (by kernel_rfl) 1 rfl rfl rfl rfl rfl rfl (fun j => add_add _ _ _) Try.underlying179 Try.sz75 (digs_len 16 _) (by omega) (by omega) (fun y3 hy3 => ?_)
  have hab3 := digs_all _ _ hy3
  try simp only [Int.toNat_natCast, Int.reduceToNat] at hy3
  refine WA.last (i := 15) #[true, true, true, true, true, true, true, true, true, true, true, true, true, true, true, true] rfl (by kernel_rfl) rfl ?_
  refine W.stA 1 rfl rfl rfl rfl rfl Try.sz75 rfl (Nat.lt_of_lt_of_eq (m := 16) (by omega) (Eq.symm (digs_len 16 _))) hH27 hB18 (fun zb13 w15 D6 hD6 hDl6 hH28 hB19 => ?_)
  replace hDl6 := hDl6.trans (digs_len 16 _)
  replace hD6 : D6 = digs 16 (ln1 + bt) := hD6.trans ((by
    have e0 := put_add (n := ln1) (i := 0) (v := bt) (by omega) rfl (by rw [Nat.pow_zero, Nat.div_one]; omega)
    rw [Nat.pow_zero, Nat.mul_one] at e0
    rw [← e0]
    congr 1
    rw [hq0, Nat.div_one, Int.natCast_add]))
  subst hD6
  refine W.nil (EX.waL (WA.done (by kernel_rfl) (EX.then_n (CW.seq (CW.region rfl (W.lg0 rfl rfl rfl rfl rfl Try.pl181 (by rw [Try.underlying181]; rfl) (Try.sz181.trans (congrArg some (arr_len1 (digs_len 16 _)).symm)) hH28 m0 hB19 (W.lg0 rfl rfl rfl rfl rfl Try.pl181 (by rw [Try.underlying181]; rfl) (Try.sz181.trans (congrArg some (arr_len1 (digs_len 16 _)).symm)) hH28 m2 hB17 ?_)))))))
  refine W.call rfl rfl rfl rfl rfl Try.func150 Try.nm150 Try.bd150 (r04_Cmp (⟨_, _⟩ : GLong) _ (⟨_, _⟩ : GLong) _ w15 ⟨_, _, rfl, rfl, (by first | assumption | exact hlt3 | omega | (dsimp only; first | assumption | omega)), rfl⟩ ⟨_, _, rfl, rfl, (by first | assumption | exact hlt2 | omega | (dsimp only; first | assumption | omega)), rfl⟩) ?_
  rintro v2 w16 ⟨rfl, hH29⟩
  have hH30 := hH28.c0 hH29
  refine W.val rfl rfl rfl (R.geq rfl rfl rfl) (W.nil (EX.then_n ?_))
  refine CW.cond rfl (fun hc2 => ?_) (fun hc2 => ?_)
  replace hc2 := of_decide_eq_true hc2
  have hge := cmp_ge hc2
  have hge2 : y.N ≤ (ln1 + bt) := hge
  refine CW.seq (CW.region rfl (W.lg0 rfl rfl rfl rfl rfl Try.pl181 (by rw [Try.underlying181]; rfl) (Try.sz181.trans (congrArg some (arr_len1 (digs_len 16 _)).symm)) hH30 m0 hB19 (W.lg0 rfl rfl rfl rfl rfl Try.pl181 (by rw [Try.underlying181]; rfl) (Try.sz181.trans (congrArg some (arr_len1 (digs_len 16 _)).symm)) hH30 m2 hB17 ?_)))
  refine W.call rfl rfl rfl rfl rfl Try.func151 Try.nm151 Try.bd151 (r04_down (⟨_, _⟩ : GLong) _ (⟨_, _⟩ : GLong) _ w16 ⟨_, _, rfl, rfl, (by first | assumption | exact hlt3 | omega | (dsimp only; first | assumption | omega)), rfl⟩ ⟨_, _, rfl, rfl, (by first | assumption | exact hlt2 | omega | (dsimp only; first | assumption | omega)), rfl⟩ hge) ?_
  rintro v3 w17 ⟨cs02, rfl, hH31, hK02⟩
  have hH32 := hH30.c0 hH31
  have hK4 := hK02
  obtain ⟨lb2, ln2, hlb2, hln2, hlt4, rfl⟩ := hK4
  dsimp only at hlb2 hln2
  subst hlb2
  replace hln2 : ln2 = ((ln1 + bt)) - (y.N) := hln2
  refine W.sg0 rfl rfl rfl rfl rfl (Try.sz181.trans (congrArg some (arr_len1 (digs_len 16 _)).symm)) (arr_one rfl) (arr_same (by rfl) (digs_len 16 _) (digs_len 16 _)) hH32 hB19 (fun zb14 w18 hH33 hB20 => ?_)
  refine W.nil (EX.then_n ?_)
  have hH34 := hH33.drew
  refine CW.draw (fun w => Sub zq w ∧ True) [11] #[false, false, false, false, false, false, false, false, false, false, false, false] Try.mixed rfl rfl ⟨hH34.sub _ m1, trivial⟩ (WA.pure (i := 0) #[true, false, false, false, false, false, false, false, false, false, false, false] (blind_blk (blind_then (blind_then (blind_blk (blind_then (blind_body _ _)))))) rfl (by kernel_rfl) rfl rfl rfl (fun _ => R.move rfl rfl) (WA.pure (i := 1) #[true, true, false, false, false, false, false, false, false, false, false, false] (blind_blk (blind_then (blind_then (blind_blk (blind_then (blind_body _ _)))))) rfl (by kernel_rfl) rfl rfl rfl (fun _ => R.quo rfl rfl rfl (by omega) (by omega) (ok_i64 (by omega))) (WA.pure (i := 2) #[true, true, true, false, false, false, false, false, false, false, false, false] (blind_blk (blind_then (blind_then (blind_blk (blind_then (blind_body _ _)))))) rfl (by kernel_rfl) rfl rfl rfl (fun _ => R.fa0 1 rfl rfl Try.underlying181 rfl Try.sz179 rfl) ?_)))
  refine WA.idxA (i' := 3) (D := (digs 16 (x.N / 2 ^ (b + 1) / y.N * 2 ^ (b + 1)))) #[true, true, true, true, false, false, false, false, false, false, false, false] (blind_blk (blind_then (blind_then (blind_blk (blind_then (blind_body _ _)))))) rfl (by kernel_rfl) 1 rfl rfl rfl rfl rfl rfl (fun j => add_add _ _ _) Try.underlying179 Try.sz75 (digs_len 16 _) (by omega) (by omega) (fun y4 hy4 => ?_)
  have hab4 := digs_all _ _ hy4
  try simp only [Int.toNat_natCast, Int.reduceToNat] at hy4
  refine WA.take (i := 4) #[true, true, true, true, true, false, false, false, false, false, false, false] (blind_blk (blind_then (blind_then (blind_blk (blind_then (blind_body _ _)))))) rfl (by kernel_rfl) rfl rfl rfl (fun _ hw => R.load rfl rfl Try.pl75 (cellz_le hw.1 (Blk.arr 1 rfl hBq (by first | exact hy4 | (simp only [Int.toNat_natCast, Int.reduceToNat]; exact hy4))))) ⟨hH34.sub _ m1, trivial⟩ (WA.pure (i := 5) #[true, true, true, true, true, true, false, false, false, false, false, false] (blind_blk (blind_then (blind_then (blind_blk (blind_then (blind_body _ _)))))) rfl (by kernel_rfl) rfl rfl rfl (fun _ => R.move rfl rfl) (WA.pure (i := 6) #[true, true, true, true, true, true, true, false, false, false, false, false] (blind_blk (blind_then (blind_then (blind_blk (blind_then (blind_body _ _)))))) rfl (by kernel_rfl) rfl rfl rfl (fun _ => R.rem rfl rfl rfl (by omega) (by omega)) (WA.pure (i := 7) #[true, true, true, true, true, true, true, true, false, false, false, false] (blind_blk (blind_then (blind_then (blind_blk (blind_then (blind_body _ _)))))) rfl (by kernel_rfl) rfl rfl rfl (fun _ => R.shl1 (b % 16) rfl rfl rfl (by omega) (by omega)) ?_)))
  have hq2 := digs_get hy4
  rw [show ((((b + 1 : Nat) : Int) - 1) / 16).toNat = b / 16 by omega] at hq2
  have hroom := bit_room (x.N / 2 ^ (b + 1) / y.N) b
  obtain ⟨pw, hpw⟩ : ∃ pw : Nat, pw = 2 ^ (b % 16) := ⟨_, rfl⟩
  rw [← hpw]
  rw [← hpw] at hroom
  refine WA.pure (i := 8) #[true, true, true, true, true, true, true, true, true, false, false, false] (blind_blk (blind_then (blind_then (blind_blk (blind_then (blind_body _ _)))))) rfl (by kernel_rfl) rfl rfl rfl (fun _ => R.addx rfl rfl rfl (ok_u64 (by omega))) (WA.pure (i := 9) #[true, true, true, true, true, true, true, true, true, true, false, false] (blind_blk (blind_then (blind_then (blind_blk (blind_then (blind_body _ _)))))) rfl (by kernel_rfl) rfl rfl rfl (fun _ => R.fa0 1 rfl rfl Try.underlying181 rfl Try.sz179 rfl) ?_)
  refine WA.idxA (i' := 10) (D := (digs 16 (x.N / 2 ^ (b + 1) / y.N * 2 ^ (b + 1)))) #[true, true, true, true, true, true, true, true, true, true, true, false] (blind_blk (blind_then (blind_then (blind_blk (blind_then (blind_body _ _)))))) rfl (by kernel_rfl) 1 rfl rfl rfl rfl rfl rfl (fun j => add_add _ _ _) Try.underlying179 Try.sz75 (digs_len 16 _) (by omega) (by omega) (fun y5 hy5 => ?_)
  have hab5 := digs_all _ _ hy5
  try simp only [Int.toNat_natCast, Int.reduceToNat] at hy5
  refine WA.last (i := 11) #[true, true, true, true, true, true, true, true, true, true, true, true] rfl (by kernel_rfl) rfl ?_
  have hH35 := hH34.f1
  refine W.stA 1 rfl rfl rfl rfl rfl Try.sz75 rfl (Nat.lt_of_lt_of_eq (m := 16) (by omega) (Eq.symm (digs_len 16 _))) hH35 hBq (fun zb15 w19 D7 hD7 hDl7 hH36 hB21 => ?_)
  replace hDl7 := hDl7.trans (digs_len 16 _)
  replace hD7 : D7 = digs 16 ((x.N / 2 ^ (b + 1) / y.N * 2 ^ (b + 1)) + 2 ^ b) := hD7.trans ((by
    have e0 := put_add (n := (x.N / 2 ^ (b + 1) / y.N * 2 ^ (b + 1))) (i := b / 16) (v := pw) (by omega) rfl hroom
    rw [hpw, bit_val] at e0
    rw [← e0, show ((((b + 1 : Nat) : Int) - 1) / 16).toNat = b / 16 by omega, hq2, ← hpw, Int.natCast_add]))
  subst hD7
  refine W.nil (EX.waL (WA.done (by kernel_rfl) (EX.blk_n (EX.then_n (CW.region rfl (W.val rfl rfl rfl (R.move rfl rfl) (W.val rfl rfl rfl (R.subx rfl rfl rfl (ok_i64 (by omega))) ?_)))))))
  refine W.val rfl rfl rfl (R.assign rfl rfl) (W.nil ?_)
  have hH37 := hH36.f7
  have hH38 := hH37.f7
  have hH39 := hH38.f7
  have hH40 := hH39.f7
  have hH41 := hH40.f7
  have hH42 := hH41.f7
  have hH43 := hH42.f7
  have hH44 := hH43.f7
  have hH45 := hH44.upto8
  have hst := over_step_ge (x := x.N) (b := b) hy0 (by omega)
  rw [show 2 * (x.N / 2 ^ (b + 1) % y.N) + x.N / 2 ^ b % 2 - y.N = ln2 by omega] at hst
  refine EX.back4 _ _ rfl ?_ (by rw [hI1]; exact ⟨b, _, _, rfl, rfl, hH45, by omega, (by rw [hst.2]; exact hB21), (by rw [hst.1]; exact hB20)⟩) ?_
  exact ⟨lk_int rfl (by omega), trivial⟩
  omega
  replace hc2 := of_decide_eq_false hc2
  have hge := cmp_nge hc2
  have hge2 : (ln1 + bt) < y.N := hge
  refine CW.skip (EX.blk_n (EX.then_n (CW.region rfl (W.val rfl rfl rfl (R.move rfl rfl) (W.val rfl rfl rfl (R.subx rfl rfl rfl (ok_i64 (by omega))) (W.val rfl rfl rfl (R.assign rfl rfl) (W.nil ?_)))))))
  have hH46 := hH30.f7
  have hH47 := hH46.f7
  have hH48 := hH47.f7
  have hH49 := hH48.f7
  have hH50 := hH49.f7
  have hH51 := hH50.f7
  have hH52 := hH51.f6
  have hH53 := hH52.f7
  have hH54 := hH53.upto8
  have hst := over_step_lt (x := x.N) (b := b) hy0 (by omega)
  rw [show 2 * (x.N / 2 ^ (b + 1) % y.N) + x.N / 2 ^ b % 2 = (ln1 + bt) by omega] at hst
  refine EX.back4 _ _ rfl ?_ (by rw [hI1]; exact ⟨b, _, _, rfl, rfl, hH54, by omega, (by rw [hst.2]; exact hBq), (by rw [hst.1]; exact hB19)⟩) ?_
  exact ⟨lk_int rfl (by omega), trivial⟩
  omega
  replace hc1 := of_decide_eq_false hc1
  refine CW.exit (EX.then_exit (EX.then_exit (EX.blk_here (EX.then_n (CW.seq (CW.region rfl (W.val rfl rfl rfl (R.fa0 0 rfl rfl Try.underlying181 rfl Try.sz4 rfl) ?_)))))))
  refine W.ldk rfl rfl rfl rfl rfl Try.pl4 hH22 m6 hB1 rfl (W.val rfl rfl rfl (R.fa0 0 rfl rfl Try.underlying181 rfl Try.sz4 rfl) (W.ldk rfl rfl rfl rfl rfl Try.pl4 hH22 m5 hB2 rfl (W.val rfl rfl rfl (R.bneq rfl rfl rfl Try.underlying4) (W.val rfl rfl rfl (R.fa0 0 rfl rfl Try.underlying181 rfl Try.sz4 rfl) ?_))))
  refine W.storeLoc rfl rfl rfl rfl rfl Try.sz4 rfl (Nat.le_of_ble_eq_true rfl) hH22 hBq (fun zb16 w20 hH55 hB22 => ?_)
  have hB23 : Blk zb16 _ _ ([.bool (!(x.Below == y.Below))] ++ (digs 16 (x.N / 2 ^ k / y.N * 2 ^ k)).map (vI .u64)) := hB22
  refine W.nil (EX.then_n (CW.seq ?_))
  have hH56 := hH55.drew
  refine CW.draw (fun w => Sub zb16 w ∧ Sub zr w ∧ True) [] #[false, false, false, false] Try.mixed rfl rfl ⟨hH56.sub _ m0, hH56.sub _ m1, trivial⟩ (WA.take (i := 0) #[true, false, false, false] (blind_then (blind_body _ _)) rfl (by kernel_rfl) rfl rfl rfl (fun _ hw => R.loadAgg rfl rfl (run_isAgg_struct Try.underlying181) (Try.sz181.trans (congrArg some (arr_len1 (digs_len 16 _)).symm)) (hB23.at_.le hw.1)) ⟨hH56.sub _ m0, hH56.sub _ m1, trivial⟩ (WA.take (i := 1) #[true, true, false, false] (blind_then (blind_body _ _)) rfl (by kernel_rfl) rfl rfl rfl (fun _ hw => R.loadAgg rfl rfl (run_isAgg_struct Try.underlying181) (Try.sz181.trans (congrArg some (arr_len1 (digs_len 16 _)).symm)) (hBr.at_.le hw.2.1)) ⟨hH56.sub _ m0, hH56.sub _ m1, trivial⟩ (WA.one (i := 2) #[true, true, true, false] rfl (by kernel_rfl) rfl ?_)))
  have hH57 := hH56.f4
  refine W.sg0 rfl rfl rfl rfl rfl (Try.sz181.trans (congrArg some (arr_len1 (digs_len 16 _)).symm)) (arr_one rfl) (arr_same (by rfl) (digs_len 16 _) hDl1) hH57 hB4 (fun zb17 w21 hH58 hB24 => ?_)
  refine W.nil (EX.wa ⟨hH58.sub _ m1, hH58.sub _ m2, trivial⟩ (WA.one (i := 3) #[true, true, true, true] rfl (by kernel_rfl) rfl ?_))
  have hH59 := hH58.f4
  refine W.sg0 rfl rfl rfl rfl rfl (Try.sz181.trans (congrArg some (arr_len1 (digs_len 16 _)).symm)) (arr_one rfl) (arr_same (by rfl) (digs_len 16 _) hDl2) hH59 hB6 (fun zb18 w22 hH60 hB25 => ?_)
  refine W.nil (EX.wa ⟨hH60.sub _ m2, hH60.sub _ m3, trivial⟩ (WA.done (by kernel_rfl) (EX.then_n (CW.ret (EX.retV Try.results125 (.cons (.agg rfl (fun w => run_isAgg_struct Try.underlying181 w) (Try.sz181.trans (congrArg some (arr_len1 (digs_len 16 _)).symm)) (fun k u hk => hH60.cell m1 (hB24.at_ k u hk))) (.cons (.agg rfl (fun w => run_isAgg_struct Try.underlying181 w) (Try.sz181.trans (congrArg some (arr_len1 (digs_len 16 _)).symm)) (fun k u hk => hH60.cell m0 (hB25.at_ k u hk))) RVs.nil)) ?_)))))
  have hH61 := hH60.f7
  have hH62 := hH61.upto1
  obtain rfl : k = 0 := by omega
  have hqn : x.N / y.N < 65536 ^ 16 := Nat.lt_of_le_of_lt (Nat.div_le_self _ _) hlt1
  have hrn : x.N % y.N < 65536 ^ 16 := Nat.lt_of_le_of_lt (Nat.mod_le _ _) hlt1
  have hp1 : x.N / 2 ^ 0 / y.N * 2 ^ 0 = x.N / y.N := by rw [Nat.pow_zero, Nat.div_one, Nat.mul_one]
  have hp2 : x.N / 2 ^ 0 % y.N = x.N % y.N := by rw [Nat.pow_zero, Nat.div_one]
  refine ⟨_, _, ?_, hH62, ⟨_, _, rfl, rfl, (by first | assumption | exact trivial | omega | (dsimp only; first | assumption | omega)), rfl⟩, ⟨_, _, rfl, rfl, (by first | assumption | exact hrn16 | omega | (dsimp only; first | assumption | omega)), rfl⟩⟩
  first
    | (rw [hp1, hp2]; rfl)

end Go.Proofs.Gw
namespace Go.Proofs.Gw
open Go Go.Gw Go.Proofs Go.RowKit
set_option maxRecDepth 100000 in
set_option maxHeartbeats 1000000 in
theorem r04_Times (x : GLong) (csx : List Value) (y : GLong) (csy : List Value) (w0 : World) (hx : kLong.K (hp w0) x csx) (hy : kLong.K (hp w0) y csy) (hx8 : x.N < 65536 ^ 8) (hy8 : y.N < 65536 ^ 8) : Calls Try.prog 126 #[.agg csx.toArray, .agg csy.toArray] w0 (Ret fun v w' => ∃ (cs0 : List Value), v = .agg cs0.toArray ∧ Has w0 w' [hp w0] ∧ kLong.K emp (⟨!(x.Below == y.Below), x.N * y.N⟩) cs0) := by
  refine fnstart (N := 78) Try.func126 rfl Try.ntmps126 (Nat.le_of_ble_eq_true rfl) ?_
  have hH0 : Has w0 w0 [hp w0] := Has.refl w0
  have hK1 := hx
  obtain ⟨_, _, rfl, rfl, hlt1, rfl⟩ := hK1
  have hK2 := hy
  obtain ⟨_, _, rfl, rfl, hlt2, rfl⟩ := hK2
  refine CW.seq (CW.region rfl ?_)
  refine W.box rfl rfl rfl rfl rfl rfl hH0 (fun b1 zb1 w1 hH1 hB1 => ?_)
  refine W.box rfl rfl rfl rfl rfl rfl hH1 (fun b2 zb2 w2 hH2 hB2 => ?_)
  refine W.alloc rfl rfl rfl rfl Try.zr181 rfl hH2 (fun b3 zb3 w3 hH3 hB3 => ?_)
  obtain ⟨D1, hD1⟩ : ∃ D : List Int, D = List.replicate 16 (0 : Int) := ⟨_, rfl⟩
  have hB4 : Blk zb3 b3 181 ([.bool false] ++ D1.map (vI .u64)) := by rw [hD1]; exact hB3
  have hDl1 : D1.length = 16 := by rw [hD1]; rfl
  have hDb1 : ∀ (i : Nat) d, D1[i]? = some d → (0 : Int) ≤ d ∧ d ≤ 18446744073709551615 := by rw [hD1]; exact rep_bd (by decide)
  refine W.nil (EX.then_n (CW.seq (CW.region rfl (W.val rfl rfl rfl (R.build rfl rfl Try.zr181 rfl (by rw [Try.underlying181]; rfl) Try.plc181 rfl) (W.re (d := 12) (v := Value.agg (([.bool false] : List Value) ++ (digs 16 0).map (vI .u64)).toArray) rfl rfl ?_)))))
  refine W.alloc rfl rfl rfl rfl Try.zr181 rfl hH3 (fun b4 zb4 w4 hH4 hB5 => ?_)
  obtain ⟨D2, hD2⟩ : ∃ D : List Int, D = List.replicate 16 (0 : Int) := ⟨_, rfl⟩
  have hB6 : Blk zb4 b4 181 ([.bool false] ++ D2.map (vI .u64)) := by rw [hD2]; exact hB5
  have hDl2 : D2.length = 16 := by rw [hD2]; rfl
  have hDb2 : ∀ (i : Nat) d, D2[i]? = some d → (0 : Int) ≤ d ∧ d ≤ 18446744073709551615 := by rw [hD2]; exact rep_bd (by decide)
  refine W.sg0 rfl rfl rfl rfl rfl (Try.sz181.trans (congrArg some (arr_len1 (digs_len 16 _)).symm)) (arr_one rfl) (arr_same (by rfl) (digs_len 16 _) hDl2) hH4 hB6 (fun zb5 w5 hH5 hB7 => ?_)
  refine W.nil (EX.then_n (CW.seq (CW.seq (CW.region rfl (W.val rfl rfl rfl (R.assign rfl rfl) (W.nil (EX.then_n ?_)))))))
  refine CW.block ?_
  have hH6 := hH5.f4
  have hH7 := hH6.f4
  have hH8 := hH7.f4
  have hH9 := hH8.f4
  have hH10 := hH9.f4
  obtain ⟨I1, hI1⟩ : ∃ I : Nat → List (Nat × Value) → World → Prop, I = (fun n_ D_ w_ => ∃ (i : Nat) (zv : PH), D_ = [(6, .int .i64 (i : Int))] ∧ n_ = 8 - i ∧ Has w0 w_ [zv, zb3, zb2, zb1, (hp w0)] ∧ (i ≤ 8) ∧ (Blk zv b4 181 ([.bool false] ++ (digs 16 (x.N % 65536 ^ i * y.N)).map (vI .u64)))) := ⟨_, rfl⟩
  refine CW.loop3 [6, 7, 8, 9, 10, 11, 13, 14, 15, 16, 17, 18, 19, 20, 21, 22, 23, 24, 25, 26, 27, 28, 29, 30, 31, 32, 33, 34, 35, 36, 37, 38, 39, 40, 41, 42, 43, 44, 45, 46, 47, 48, 49, 50, 51, 52, 53, 54, 55, 56, 57, 58, 59, 60, 61, 62, 63, 64, 65, 66, 67, 68, 69, 70] I1 _ _ ?_ (by rw [hI1]; exact ⟨0, _, rfl, rfl, hH10, by omega, (by rw [Nat.pow_zero, Nat.mod_one, Nat.zero_mul]; exact hB7)⟩) ?_
  exact ⟨lk_int rfl (by first | rfl | omega), trivial⟩
  intro n1 D w6 hn1
  rw [hI1] at hn1
  obtain ⟨i, zv, rfl, hme1, hH11, hi, hBv⟩ := hn1
  refine CW.seq (CW.seq (CW.region rfl (W.val rfl rfl rfl (R.move rfl rfl) (W.val rfl rfl rfl (R.lss rfl rfl rfl) (W.nil (EX.then_n ?_))))))
  refine CW.cond rfl (fun hc1 => ?_) (fun hc1 => ?_)
  replace hc1 := of_decide_eq_true hc1
  refine CW.skip (EX.then_n (CW.seq (CW.block (CW.seq (CW.region rfl (W.val rfl rfl rfl (R.assign rfl rfl) (W.nil ?_)))))))
  refine EX.then_n (CW.seq (CW.seq (CW.region rfl (W.val rfl rfl rfl (R.assign rfl rfl) (W.nil (EX.then_n (CW.block ?_)))))))
  have hH12 := hH11.f4
  have hH13 := hH12.f4
  have hH14 := hH13.f4
  have hH15 := hH14.f4
  have hH16 := hH15.f4
  obtain ⟨I2, hI2⟩ : ∃ I : Nat → List (Nat × Value) → World → Prop, I = (fun n_ D_ w_ => ∃ (j : Nat) (c : Nat) (n : Nat) (zj : PH), D_ = [(8, .int .i64 (j : Int)), (7, .int .u64 (c : Int))] ∧ n_ = 8 - j ∧ Has w0 w_ [zj, zb3, zb2, zb1, (hp w0)] ∧ (j ≤ 8) ∧ (c ≤ 65535) ∧ (n < 65536 ^ 16) ∧ (n + c * 65536 ^ (i + j) = x.N % 65536 ^ i * y.N + x.N / 65536 ^ i % 65536 * (y.N % 65536 ^ j) * 65536 ^ i) ∧ (Blk zj b4 181 ([.bool false] ++ (digs 16 (n)).map (vI .u64)))) := ⟨_, rfl⟩
  refine CW.loop3 [7, 8, 9, 17, 18, 19, 20, 21, 22, 23, 24, 25, 26, 27, 28, 29, 30, 31, 32, 33, 34, 35, 36, 37, 38, 39, 40, 41, 42, 43, 44, 45, 46, 47] I2 _ _ ?_ (by rw [hI2]; exact ⟨0, 0, _, _, rfl, rfl, hH16, by omega, by omega, times_lt hi hx8 hy8, (by rw [Nat.pow_zero, Nat.mod_one, Nat.mul_zero, Nat.zero_mul, Nat.zero_mul]), hBv⟩) ?_
  exact ⟨lk_int rfl (by first | rfl | omega), lk_int rfl (by first | rfl | omega), trivial⟩
  intro n2 D w7 hn2
  rw [hI2] at hn2
  obtain ⟨j, c, n, zj, rfl, hme2, hH17, hj, hc, hn16, hI, hBj⟩ := hn2
  refine CW.seq (CW.seq (CW.region rfl (W.val rfl rfl rfl (R.move rfl rfl) (W.val rfl rfl rfl (R.lss rfl rfl rfl) (W.nil (EX.then_n ?_))))))
  refine CW.cond rfl (fun hc2 => ?_) (fun hc2 => ?_)
  replace hc2 := of_decide_eq_true hc2
  refine CW.skip (EX.then_n (CW.seq (CW.block (CW.seq ?_))))
  have hH18 := hH17.drew
  refine CW.draw (fun w => Sub zj w ∧ Sub zb1 w ∧ Sub zb2 w ∧ True) [] #[false, false, false, false, false, false, false, false, false, false, false, false, false, false, false, false, false, false, false] Try.mixed rfl rfl ⟨hH18.sub _ m0, hH18.sub _ m3, hH18.sub _ m2, trivial⟩ (WA.pure (i := 0) #[true, false, false, false, false, false, false, false, false, false, false, false, false, false, false, false, false, false, false] (blind_then (blind_blk (blind_then (blind_then (blind_blk (blind_then (blind_blk (blind_then (blind_then (blind_blk (blind_then (blind_body _ _)))))))))))) rfl (by kernel_rfl) rfl rfl rfl (fun _ => R.move rfl rfl) (WA.pure (i := 1) #[true, true, false, false, false, false, false, false, false, false, false, false, false, false, false, false, false, false, false] (blind_then (blind_blk (blind_then (blind_then (blind_blk (blind_then (blind_blk (blind_then (blind_then (blind_blk (blind_then (blind_body _ _)))))))))))) rfl (by kernel_rfl) rfl rfl rfl (fun _ => R.move rfl rfl) (WA.pure (i := 2) #[true, true, true, false, false, false, false, false, false, false, false, false, false, false, false, false, false, false, false] (blind_then (blind_blk (blind_then (blind_then (blind_blk (blind_then (blind_blk (blind_then (blind_then (blind_blk (blind_then (blind_body _ _)))))))))))) rfl (by kernel_rfl) rfl rfl rfl (fun _ => R.addx rfl rfl rfl (ok_i64 (by omega))) (WA.pure (i := 3) #[true, true, true, true, false, false, false, false, false, false, false, false, false, false, false, false, false, false, false] (blind_then (blind_blk (blind_then (blind_then (blind_blk (blind_then (blind_blk (blind_then (blind_then (blind_blk (blind_then (blind_body _ _)))))))))))) rfl (by kernel_rfl) rfl rfl rfl (fun _ => R.fa0 1 rfl rfl Try.underlying181 rfl Try.sz179 rfl) ?_))))
  refine WA.idxA (i' := 4) (D := (digs 16 n)) #[true, true, true, true, true, false, false, false, false, false, false, false, false, false, false, false, false, false, false] (blind_then (blind_blk (blind_then (blind_then (blind_blk (blind_then (blind_blk (blind_then (blind_then (blind_blk (blind_then (blind_body _ _)))))))))))) rfl (by kernel_rfl) 1 rfl rfl rfl rfl rfl rfl (fun j => add_add _ _ _) Try.underlying179 Try.sz75 (digs_len 16 _) (by omega) (by omega) (fun y1 hy1 => ?_)
  have hab1 := digs_all _ _ hy1
  try simp only [Int.toNat_natCast, Int.reduceToNat] at hy1
  refine WA.take (i := 5) #[true, true, true, true, true, true, false, false, false, false, false, false, false, false, false, false, false, false, false] (blind_then (blind_blk (blind_then (blind_then (blind_blk (blind_then (blind_blk (blind_then (blind_then (blind_blk (blind_then (blind_body _ _)))))))))))) rfl (by kernel_rfl) rfl rfl rfl (fun _ hw => R.load rfl rfl Try.pl75 (cellz_le hw.1 (Blk.arr 1 rfl hBj (by first | exact hy1 | (simp only [Int.toNat_natCast, Int.reduceToNat]; exact hy1))))) ⟨hH18.sub _ m0, hH18.sub _ m3, hH18.sub _ m2, trivial⟩ (WA.pure (i := 6) #[true, true, true, true, true, true, true, false, false, false, false, false, false, false, false, false, false, false, false] (blind_then (blind_blk (blind_then (blind_then (blind_blk (blind_then (blind_blk (blind_then (blind_then (blind_blk (blind_then (blind_body _ _)))))))))))) rfl (by kernel_rfl) rfl rfl rfl (fun _ => R.move rfl rfl) (WA.pure (i := 7) #[true, true, true, true, true, true, true, true, false, false, false, false, false, false, false, false, false, false, false] (blind_then (blind_blk (blind_then (blind_then (blind_blk (blind_then (blind_blk (blind_then (blind_then (blind_blk (blind_then (blind_body _ _)))))))))))) rfl (by kernel_rfl) rfl rfl rfl (fun _ => R.fa0 1 rfl rfl Try.underlying181 rfl Try.sz179 rfl) ?_))
  refine WA.idxA (i' := 8) (D := (digs 16 x.N)) #[true, true, true, true, true, true, true, true, true, false, false, false, false, false, false, false, false, false, false] (blind_then (blind_blk (blind_then (blind_then (blind_blk (blind_then (blind_blk (blind_then (blind_then (blind_blk (blind_then (blind_body _ _)))))))))))) rfl (by kernel_rfl) 1 rfl rfl rfl rfl rfl rfl (fun j => add_add _ _ _) Try.underlying179 Try.sz75 (digs_len 16 _) (by omega) (by omega) (fun y2 hy2 => ?_)
  have hab2 := digs_all _ _ hy2
  try simp only [Int.toNat_natCast, Int.reduceToNat] at hy2
  refine WA.take (i := 9) #[true, true, true, true, true, true, true, true, true, true, false, false, false, false, false, false, false, false, false] (blind_then (blind_blk (blind_then (blind_then (blind_blk (blind_then (blind_blk (blind_then (blind_then (blind_blk (blind_then (blind_body _ _)))))))))))) rfl (by kernel_rfl) rfl rfl rfl (fun _ hw => R.load rfl rfl Try.pl75 (cellz_le hw.2.1 (Blk.arr 1 rfl hB1 (by first | exact hy2 | (simp only [Int.toNat_natCast, Int.reduceToNat]; exact hy2))))) ⟨hH18.sub _ m0, hH18.sub _ m3, hH18.sub _ m2, trivial⟩ (WA.pure (i := 10) #[true, true, true, true, true, true, true, true, true, true, true, false, false, false, false, false, false, false, false] (blind_then (blind_blk (blind_then (blind_then (blind_blk (blind_then (blind_blk (blind_then (blind_then (blind_blk (blind_then (blind_body _ _)))))))))))) rfl (by kernel_rfl) rfl rfl rfl (fun _ => R.move rfl rfl) (WA.pure (i := 11) #[true, true, true, true, true, true, true, true, true, true, true, true, false, false, false, false, false, false, false] (blind_then (blind_blk (blind_then (blind_then (blind_blk (blind_then (blind_blk (blind_then (blind_then (blind_blk (blind_then (blind_body _ _)))))))))))) rfl (by kernel_rfl) rfl rfl rfl (fun _ => R.fa0 1 rfl rfl Try.underlying181 rfl Try.sz179 rfl) ?_))
  refine WA.idxA (i' := 12) (D := (digs 16 y.N)) #[true, true, true, true, true, true, true, true, true, true, true, true, true, false, false, false, false, false, false] (blind_then (blind_blk (blind_then (blind_then (blind_blk (blind_then (blind_blk (blind_then (blind_then (blind_blk (blind_then (blind_body _ _)))))))))))) rfl (by kernel_rfl) 1 rfl rfl rfl rfl rfl rfl (fun j => add_add _ _ _) Try.underlying179 Try.sz75 (digs_len 16 _) (by omega) (by omega) (fun y3 hy3 => ?_)
  have hab3 := digs_all _ _ hy3
  try simp only [Int.toNat_natCast, Int.reduceToNat] at hy3
  refine WA.take (i := 13) #[true, true, true, true, true, true, true, true, true, true, true, true, true, true, false, false, false, false, false] (blind_then (blind_blk (blind_then (blind_then (blind_blk (blind_then (blind_blk (blind_then (blind_then (blind_blk (blind_then (blind_body _ _)))))))))))) rfl (by kernel_rfl) rfl rfl rfl (fun _ hw => R.load rfl rfl Try.pl75 (cellz_le hw.2.2.1 (Blk.arr 1 rfl hB2 (by first | exact hy3 | (simp only [Int.toNat_natCast, Int.reduceToNat]; exact hy3))))) ⟨hH18.sub _ m0, hH18.sub _ m3, hH18.sub _ m2, trivial⟩ ?_
  have hsq : 0 ≤ y2 * y3 ∧ y2 * y3 ≤ 4294836225 := mul_digs (by omega) (by omega) (by omega) (by omega)
  refine WA.pure (i := 14) #[true, true, true, true, true, true, true, true, true, true, true, true, true, true, true, false, false, false, false] (blind_then (blind_blk (blind_then (blind_then (blind_blk (blind_then (blind_blk (blind_then (blind_then (blind_blk (blind_then (blind_body _ _)))))))))))) rfl (by kernel_rfl) rfl rfl rfl (fun _ => R.mulx rfl rfl rfl (ok_u64 (by omega))) (WA.pure (i := 15) #[true, true, true, true, true, true, true, true, true, true, true, true, true, true, true, true, false, false, false] (blind_then (blind_blk (blind_then (blind_then (blind_blk (blind_then (blind_blk (blind_then (blind_then (blind_blk (blind_then (blind_body _ _)))))))))))) rfl (by kernel_rfl) rfl rfl rfl (fun _ => R.addx rfl rfl rfl (ok_u64 (by omega))) (WA.pure (i := 16) #[true, true, true, true, true, true, true, true, true, true, true, true, true, true, true, true, true, false, false] (blind_then (blind_blk (blind_then (blind_then (blind_blk (blind_then (blind_blk (blind_then (blind_then (blind_blk (blind_then (blind_body _ _)))))))))))) rfl (by kernel_rfl) rfl rfl rfl (fun _ => R.move rfl rfl) (WA.pure (i := 17) #[true, true, true, true, true, true, true, true, true, true, true, true, true, true, true, true, true, true, false] (blind_then (blind_blk (blind_then (blind_then (blind_blk (blind_then (blind_blk (blind_then (blind_then (blind_blk (blind_then (blind_body _ _)))))))))))) rfl (by kernel_rfl) rfl rfl rfl (fun _ => R.addx rfl rfl rfl (ok_u64 (by omega))) (WA.pure (i := 18) #[true, true, true, true, true, true, true, true, true, true, true, true, true, true, true, true, true, true, true] (blind_then (blind_blk (blind_then (blind_then (blind_blk (blind_then (blind_blk (blind_then (blind_then (blind_blk (blind_then (blind_body _ _)))))))))))) rfl (by kernel_rfl) rfl rfl rfl (fun _ => R.assign rfl rfl) (WA.done (by kernel_rfl) (EX.then_n (CW.seq ?_)))))))
  refine CW.region rfl ?_
  obtain ⟨s, hs⟩ : ∃ s : Nat, s = n / 65536 ^ (i + j) % 65536 + x.N / 65536 ^ i % 65536 * (y.N / 65536 ^ j % 65536) + c := ⟨_, rfl⟩
  have hsv : y1 + y2 * y3 + c = (s : Int) := by
    have q1 := digs_get hy1
    have q2 := digs_get hy2
    have q3 := digs_get hy3
    rw [show ((i : Int) + j).toNat = i + j by omega] at q1
    rw [q1, q2, q3, hs, Int.natCast_add, Int.natCast_add, Int.natCast_mul]
  obtain ⟨m, hm16, hset, hput⟩ := digs_put (k := 16) (n := n) (i := i + j) (v := ((s % 65536 : Nat) : Int)) (by omega) hn16 (by omega) (by omega)
  rw [Int.toNat_natCast] at hput
  refine W.val rfl rfl rfl (R.move rfl rfl) (W.val rfl rfl rfl (R.move rfl rfl) (W.val rfl rfl rfl (R.addx rfl rfl rfl (ok_i64 (by omega))) (W.val rfl rfl rfl (R.move rfl rfl) ?_)))
  refine W.re (d := 42) (v := .int .u64 (s : Int)) rfl (vint (by
    exact hsv)) ?_
  refine W.val rfl rfl rfl (R.rem rfl rfl rfl (by omega) (by omega)) (W.val rfl rfl rfl (R.fa0 1 rfl rfl Try.underlying181 rfl Try.sz179 rfl) ?_)
  refine W.idxA (D := (digs 16 n)) 1 rfl rfl rfl rfl rfl rfl (fun j => add_add _ _ _) Try.underlying179 Try.sz75 (digs_len 16 _) (by omega) (by omega) (fun y4 hy4 => ?_)
  have hab4 := digs_all _ _ hy4
  try simp only [Int.toNat_natCast, Int.reduceToNat] at hy4
  refine W.stA 1 rfl rfl rfl rfl rfl Try.sz75 rfl (Nat.lt_of_lt_of_eq (m := 16) (by omega) (Eq.symm (digs_len 16 _))) hH18 hBj (fun zb6 w8 D3 hD3 hDl3 hH19 hB8 => ?_)
  replace hDl3 := hDl3.trans (digs_len 16 _)
  replace hD3 : D3 = digs 16 (m) := hD3.trans ((by first | exact hset | (rw [show ((i : Int) + j).toNat = i + j by omega]; exact hset)))
  subst hD3
  refine W.nil (EX.then_n (CW.region rfl (W.val rfl rfl rfl (R.move rfl rfl) ?_)))
  refine W.re (d := 46) (v := .int .u64 (s : Int)) rfl (vint (by
    exact hsv)) ?_
  refine W.val rfl rfl rfl (R.quo rfl rfl rfl (by omega) (by omega) (ok_u64 (by omega))) (W.val rfl rfl rfl (R.assign rfl rfl) (W.nil (EX.blk_n (EX.then_n (CW.region rfl (W.val rfl rfl rfl (R.move rfl rfl) (W.val rfl rfl rfl (R.addx rfl rfl rfl (ok_i64 (by omega))) ?_)))))))
  refine W.val rfl rfl rfl (R.assign rfl rfl) (W.nil ?_)
  have hH20 := hH19.f4
  have hH21 := hH20.f4
  have hH22 := hH21.f4
  have hH23 := hH22.f4
  have hH24 := hH23.f4
  have hH25 := hH24.upto5
  refine EX.back4 _ _ rfl ?_ (by rw [hI2]; exact ⟨j + 1, s / 65536, m, _, rfl, rfl, hH25, by omega, by omega, hm16, (times_step hI hput hs rfl), hB8⟩) ?_
  exact ⟨lk_int rfl (by first | rfl | omega), lk_int rfl (by omega), trivial⟩
  omega
  replace hc2 := of_decide_eq_false hc2
  refine CW.exit (EX.then_exit (EX.then_exit (EX.blk_here (EX.then_n (CW.seq (CW.region rfl ?_))))))
  obtain rfl : j = 8 := by omega
  have hI8 := hI
  rw [Nat.mod_eq_of_lt hy8, times_next] at hI8
  refine W.val rfl rfl rfl (R.move rfl rfl) (W.val rfl rfl rfl (R.addx rfl rfl rfl (ok_i64 (by omega))) (W.val rfl rfl rfl (R.assign rfl rfl) (W.nil (EX.then_n (CW.block ?_)))))
  have hH26 := hH17.f4
  have hH27 := hH26.f4
  have hH28 := hH27.f4
  have hH29 := hH28.f4
  have hH30 := hH29.f4
  obtain ⟨I3, hI3⟩ : ∃ I : Nat → List (Nat × Value) → World → Prop, I = (fun n_ D_ w_ => ∃ (k : Nat) (c2 : Nat) (n2 : Nat) (zk : PH), D_ = [(10, .int .i64 (k : Int)), (7, .int .u64 (c2 : Int))] ∧ n_ = 16 - k ∧ Has w0 w_ [zk, zb3, zb2, zb1, (hp w0)] ∧ (i + 8 ≤ k ∧ k ≤ 16) ∧ (c2 ≤ 65535) ∧ (n2 < 65536 ^ 16) ∧ (n2 + c2 * 65536 ^ k = x.N % 65536 ^ (i + 1) * y.N) ∧ (Blk zk b4 181 ([.bool false] ++ (digs 16 (n2)).map (vI .u64)))) := ⟨_, rfl⟩
  refine CW.loop3 [7, 10, 11, 50, 51, 52, 53, 54, 55, 56, 57, 58, 59, 60, 61, 62, 63, 64, 65, 66, 67, 68, 69, 70] I3 _ _ ?_ (by rw [hI3]; exact ⟨i + 8, c, n, _, rfl, rfl, hH30, by omega, by omega, hn16, hI8, hBj⟩) ?_
  exact ⟨lk_int rfl (by first | rfl | omega), lk_int rfl (by first | rfl | omega), trivial⟩
  intro n3 D w9 hn3
  rw [hI3] at hn3
  obtain ⟨k, c2, n2, zk, rfl, hme3, hH31, hk, hc2, hn2, hT, hBk⟩ := hn3
  refine CW.seq (CW.seq (CW.region rfl (W.val rfl rfl rfl (R.move rfl rfl) (W.val rfl rfl rfl (R.lss rfl rfl rfl) (W.val rfl rfl rfl (R.move rfl rfl) ?_)))))
  refine W.split (d := 52) rfl (fun hc3 => ?_) (fun hc3 => ?_)
  replace hc3 := of_decide_eq_true hc3
  refine W.val rfl rfl rfl (R.move rfl rfl) (W.val rfl rfl rfl (R.gtr rfl rfl rfl) (W.val rfl rfl rfl (R.pick_t rfl rfl rfl) (W.nil (EX.then_n ?_))))
  refine CW.cond rfl (fun hc4 => ?_) (fun hc4 => ?_)
  replace hc4 := of_decide_eq_true hc4
  refine CW.skip (EX.then_n (CW.seq (CW.block (CW.seq (CW.region rfl (W.val rfl rfl rfl (R.move rfl rfl) (W.val rfl rfl rfl (R.fa0 1 rfl rfl Try.underlying181 rfl Try.sz179 rfl) ?_)))))))
  refine W.idxA (D := (digs 16 n2)) 1 rfl rfl rfl rfl rfl rfl (fun j => add_add _ _ _) Try.underlying179 Try.sz75 (digs_len 16 _) (by omega) (by omega) (fun y5 hy5 => ?_)
  have hab5 := digs_all _ _ hy5
  try simp only [Int.toNat_natCast, Int.reduceToNat] at hy5
  refine W.load rfl rfl rfl rfl rfl Try.pl75 hH31 m0 (Blk.arr 1 rfl hBk (by first | exact hy5 | (simp only [Int.toNat_natCast, Int.reduceToNat]; exact hy5))) (W.val rfl rfl rfl (R.move rfl rfl) (W.val rfl rfl rfl (R.addx rfl rfl rfl (ok_u64 (by omega))) (W.val rfl rfl rfl (R.assign rfl rfl) (W.nil (EX.then_n (CW.seq (CW.region rfl ?_)))))))
  obtain ⟨s, hs⟩ : ∃ s : Nat, s = n2 / 65536 ^ k % 65536 + c2 := ⟨_, rfl⟩
  have hsv : y5 + c2 = (s : Int) := by
    have q1 := digs_get hy5
    rw [q1, hs, Int.natCast_add]
  obtain ⟨m, hm16, hset, hput⟩ := digs_put (k := 16) (n := n2) (i := k) (v := ((s % 65536 : Nat) : Int)) (by omega) hn2 (by omega) (by omega)
  rw [Int.toNat_natCast] at hput
  refine W.val rfl rfl rfl (R.move rfl rfl) (W.val rfl rfl rfl (R.move rfl rfl) ?_)
  refine W.re (d := 65) (v := .int .u64 (s : Int)) rfl (vint (by
    exact hsv)) ?_
  refine W.val rfl rfl rfl (R.rem rfl rfl rfl (by omega) (by omega)) (W.val rfl rfl rfl (R.fa0 1 rfl rfl Try.underlying181 rfl Try.sz179 rfl) ?_)
  refine W.idxA (D := (digs 16 n2)) 1 rfl rfl rfl rfl rfl rfl (fun j => add_add _ _ _) Try.underlying179 Try.sz75 (digs_len 16 _) (by omega) (by omega) (fun y6 hy6 => ?_)
  have hab6 := digs_all _ _ hy6
  try simp only [Int.toNat_natCast, Int.reduceToNat] at hy6
  refine W.stA 1 rfl rfl rfl rfl rfl Try.sz75 rfl (Nat.lt_of_lt_of_eq (m := 16) (by omega) (Eq.symm (digs_len 16 _))) hH31 hBk (fun zb7 w10 D4 hD4 hDl4 hH32 hB9 => ?_)
  replace hDl4 := hDl4.trans (digs_len 16 _)
  replace hD4 : D4 = digs 16 (m) := hD4.trans ((by rw [show ((s : Nat) : Int) % 65536 = ((s % 65536 : Nat) : Int) by omega]; exact hset))
  subst hD4
  refine W.nil (EX.then_n (CW.region rfl (W.val rfl rfl rfl (R.move rfl rfl) ?_)))
  refine W.re (d := 69) (v := .int .u64 (s : Int)) rfl (vint (by
    exact hsv)) ?_
  refine W.val rfl rfl rfl (R.quo rfl rfl rfl (by omega) (by omega) (ok_u64 (by omega))) (W.val rfl rfl rfl (R.assign rfl rfl) (W.nil (EX.blk_n (EX.then_n (CW.region rfl (W.val rfl rfl rfl (R.move rfl rfl) (W.val rfl rfl rfl (R.addx rfl rfl rfl (ok_i64 (by omega))) ?_)))))))
  refine W.val rfl rfl rfl (R.assign rfl rfl) (W.nil ?_)
  have hH33 := hH32.f4
  have hH34 := hH33.f4
  have hH35 := hH34.f4
  have hH36 := hH35.f4
  have hH37 := hH36.f4
  have hH38 := hH37.upto5
  refine EX.back4 _ _ rfl ?_ (by rw [hI3]; exact ⟨k + 1, s / 65536, m, _, rfl, rfl, hH38, by omega, by omega, hm16, (ripple_step hT hput hs), hB9⟩) ?_
  exact ⟨lk_int rfl (by first | rfl | omega), lk_int rfl (by omega), trivial⟩
  omega
  replace hc4 := of_decide_eq_false hc4
  refine CW.exit (EX.then_exit (EX.then_exit (EX.blk_here (EX.blk_n (EX.then_n (CW.region rfl (W.val rfl rfl rfl (R.move rfl rfl) ?_)))))))
  refine W.val rfl rfl rfl (R.addx rfl rfl rfl (ok_i64 (by omega))) (W.val rfl rfl rfl (R.assign rfl rfl) (W.nil ?_))
  have hH39 := hH31.f4
  have hH40 := hH39.f4
  have hH41 := hH40.f4
  have hH42 := hH41.f4
  have hH43 := hH42.f4
  have hH44 := hH43.upto5
  obtain rfl : n2 = x.N % 65536 ^ (i + 1) * y.N := ripple_done hT (times_lt (by omega) hx8 hy8) (by omega)
  refine EX.back4 _ _ rfl ?_ (by rw [hI1]; exact ⟨i + 1, _, rfl, rfl, hH44, by omega, hBk⟩) ?_
  exact ⟨lk_int rfl (by first | rfl | omega), trivial⟩
  omega
  replace hc3 := of_decide_eq_false hc3
  refine W.off rfl rfl rfl (W.off rfl rfl rfl (W.val rfl rfl rfl (R.pick_f rfl rfl rfl) (W.nil (EX.then_n (CW.cond_f rfl (CW.exit (EX.then_exit ?_)))))))
  refine EX.then_exit (EX.blk_here (EX.blk_n (EX.then_n (CW.region rfl (W.val rfl rfl rfl (R.move rfl rfl) (W.val rfl rfl rfl (R.addx rfl rfl rfl (ok_i64 (by omega))) (W.val rfl rfl rfl (R.assign rfl rfl) ?_)))))))
  refine W.nil ?_
  have hH45 := hH31.f4
  have hH46 := hH45.f4
  have hH47 := hH46.f4
  have hH48 := hH47.f4
  have hH49 := hH48.f4
  have hH50 := hH49.upto5
  obtain rfl : n2 = x.N % 65536 ^ (i + 1) * y.N := ripple_done hT (times_lt (by omega) hx8 hy8) (by omega)
  refine EX.back4 _ _ rfl ?_ (by rw [hI1]; exact ⟨i + 1, _, rfl, rfl, hH50, by omega, hBk⟩) ?_
  exact ⟨lk_int rfl (by first | rfl | omega), trivial⟩
  omega
  replace hc1 := of_decide_eq_false hc1
  refine CW.exit (EX.then_exit (EX.then_exit (EX.blk_here (EX.then_n (CW.seq (CW.region rfl (W.val rfl rfl rfl (R.fa0 0 rfl rfl Try.underlying181 rfl Try.sz4 rfl) ?_)))))))
  refine W.ldk rfl rfl rfl rfl rfl Try.pl4 hH11 m3 hB1 rfl (W.val rfl rfl rfl (R.fa0 0 rfl rfl Try.underlying181 rfl Try.sz4 rfl) (W.ldk rfl rfl rfl rfl rfl Try.pl4 hH11 m2 hB2 rfl (W.val rfl rfl rfl (R.bneq rfl rfl rfl Try.underlying4) (W.val rfl rfl rfl (R.fa0 0 rfl rfl Try.underlying181 rfl Try.sz4 rfl) ?_))))
  refine W.storeLoc rfl rfl rfl rfl rfl Try.sz4 rfl (Nat.le_of_ble_eq_true rfl) hH11 hBv (fun zb8 w11 hH51 hB10 => ?_)
  have hB11 : Blk zb8 _ _ ([.bool (!(x.Below == y.Below))] ++ (digs 16 (x.N % 65536 ^ i * y.N)).map (vI .u64)) := hB10
  refine W.nil (EX.then_n (CW.seq (CW.region rfl (W.lg0 rfl rfl rfl rfl rfl Try.pl181 (by rw [Try.underlying181]; rfl) (Try.sz181.trans (congrArg some (arr_len1 (digs_len 16 _)).symm)) hH51 m0 hB11 ?_))))
  have hH52 := hH51.f1
  refine W.sg0 rfl rfl rfl rfl rfl (Try.sz181.trans (congrArg some (arr_len1 (digs_len 16 _)).symm)) (arr_one rfl) (arr_same (by rfl) (digs_len 16 _) hDl1) hH52 hB4 (fun zb9 w12 hH53 hB12 => ?_)
  refine W.nil (EX.then_n (CW.ret (EX.retV Try.results126 (.cons (.agg rfl (fun w => run_isAgg_struct Try.underlying181 w) (Try.sz181.trans (congrArg some (arr_len1 (digs_len 16 _)).symm)) (fun k u hk => hH53.cell m0 (hB12.at_ k u hk))) RVs.nil) ?_)))
  have hH54 := hH53.f4
  have hH55 := hH54.upto1
  obtain rfl : i = 8 := by omega
  have hxy16 : x.N * y.N < 65536 ^ 16 := by have := times_lt (i := 8) (by omega) hx8 hy8; rwa [Nat.mod_eq_of_lt hx8] at this
  have hm8 : x.N % 65536 ^ 8 = x.N := Nat.mod_eq_of_lt hx8
  refine ⟨_, ?_, hH55, ⟨_, _, rfl, rfl, (by first | assumption | exact trivial | omega | (dsimp only; first | assumption | omega)), rfl⟩⟩
  first
    | (rw [hm8]; rfl)

end Go.Proofs.Gw
namespace Go.Proofs.Gw
open Go Go.Gw Go.Proofs Go.RowKit
set_option maxRecDepth 100000 in
set_option maxHeartbeats 1000000 in
theorem r04_MulDiv (a : Int) (b : Int) (d : Int) (w0 : World) (a0 : -9223372036854775808 ≤ a) (a1 : a ≤ 9223372036854775807) (b0 : -9223372036854775808 ≤ b) (b1 : b ≤ 9223372036854775807) (d0 : -9223372036854775808 ≤ d) (d1 : d ≤ 9223372036854775807) : Calls Try.prog 99 #[.int .i64 a, .int .i64 b, .int .i64 d] w0 (Ret fun v w' => v = .tuple #[.int .i64 ((mulDivS a b d).1), .bool ((mulDivS a b d).2)] ∧ Has w0 w' [hp w0]) := by
  refine fnstart (N := 27) Try.func99 rfl Try.ntmps99 (Nat.le_of_ble_eq_true rfl) ?_
  have hH0 : Has w0 w0 [hp w0] := Has.refl w0
  refine CW.seq (CW.region rfl (W.val rfl rfl rfl (R.assign rfl rfl) (W.val rfl rfl rfl (R.assign rfl rfl) (W.nil (EX.then_n (CW.seq (CW.seq ?_)))))))
  refine CW.region rfl (W.val rfl rfl rfl (R.move rfl rfl) (W.val rfl rfl rfl (R.eql rfl rfl rfl) (W.nil (EX.then_n ?_))))
  refine CW.cond rfl (fun hc1 => ?_) (fun hc1 => ?_)
  replace hc1 := of_decide_eq_true hc1
  refine CW.seq (CW.region rfl (W.val rfl rfl rfl (R.assign rfl rfl) (W.val rfl rfl rfl (R.assign rfl rfl) (W.nil (EX.then_n (CW.ret (EX.then_ret ?_)))))))
  refine EX.ret2 Try.results99 rfl rfl ?_
  have hH1 := hH0.upto1
  refine ⟨?_, hH1⟩
  rw [mulDivS_zero (by assumption)]
  replace hc1 := of_decide_eq_false hc1
  refine CW.skip (EX.then_n (CW.seq (CW.region rfl (W.val rfl rfl rfl (R.move rfl rfl) (W.call rfl rfl rfl rfl rfl Try.func127 Try.nm127 Try.bd127 (r04_Of _ w0 (by omega) (by omega)) ?_)))))
  rintro v1 w1 ⟨cs01, rfl, hH2, hK01⟩
  have hH3 := hH0.c0 hH2
  have hK1 := hK01
  obtain ⟨lb1, ln1, hlb1, hln1, hlt1, rfl⟩ := hK1
  dsimp only at hlb1 hln1
  refine W.val rfl rfl rfl (R.move rfl rfl) (W.call rfl rfl rfl rfl rfl Try.func127 Try.nm127 Try.bd127 (r04_Of _ w1 (by omega) (by omega)) ?_)
  rintro v2 w2 ⟨cs02, rfl, hH4, hK02⟩
  have hH5 := hH3.c0 hH4
  have hK2 := hK02
  obtain ⟨lb2, ln2, hlb2, hln2, hlt2, rfl⟩ := hK2
  dsimp only at hlb2 hln2
  refine W.call rfl rfl rfl rfl rfl Try.func126 Try.nm126 Try.bd126 (r04_Times (⟨_, _⟩ : GLong) _ (⟨_, _⟩ : GLong) _ w2 ⟨_, _, rfl, rfl, (by first | assumption | exact hlt1 | omega | (dsimp only; first | assumption | omega)), rfl⟩ ⟨_, _, rfl, rfl, (by first | assumption | exact hlt2 | omega | (dsimp only; first | assumption | omega)), rfl⟩ (by dsimp only; omega) (by dsimp only; omega)) ?_
  rintro v3 w3 ⟨cs03, rfl, hH6, hK03⟩
  have hH7 := hH5.c0 hH6
  have hK3 := hK03
  obtain ⟨lb3, ln3, hlb3, hln3, hlt3, rfl⟩ := hK3
  dsimp only at hlb3 hln3
  replace hln3 : ln3 = (ln1) * (ln2) := hln3
  refine W.val rfl rfl rfl (R.move rfl rfl) (W.call rfl rfl rfl rfl rfl Try.func127 Try.nm127 Try.bd127 (r04_Of _ w3 (by omega) (by omega)) ?_)
  rintro v4 w4 ⟨cs04, rfl, hH8, hK04⟩
  have hH9 := hH7.c0 hH8
  have hK4 := hK04
  obtain ⟨lb4, ln4, hlb4, hln4, hlt4, rfl⟩ := hK4
  dsimp only at hlb4 hln4
  refine W.call rfl rfl rfl rfl rfl Try.func125 Try.nm125 Try.bd125 (r04_Over (⟨_, _⟩ : GLong) _ (⟨_, _⟩ : GLong) _ w4 ⟨_, _, rfl, rfl, (by first | assumption | exact hlt3 | omega | (dsimp only; first | assumption | omega)), rfl⟩ ⟨_, _, rfl, rfl, (by first | assumption | exact hlt4 | omega | (dsimp only; first | assumption | omega)), rfl⟩ (by dsimp only; omega) (by dsimp only; omega)) ?_
  rintro v5 w5 ⟨cs05, cs11, rfl, hH10, hK05, hK11⟩
  have hH11 := hH9.c0 hH10
  have hK5 := hK05
  obtain ⟨lb5, ln5, hlb5, hln5, hlt5, rfl⟩ := hK5
  dsimp only at hlb5 hln5
  have hK6 := hK11
  obtain ⟨lb6, ln6, hlb6, hln6, hlt6, rfl⟩ := hK6
  dsimp only at hlb6 hln6
  refine W.val rfl rfl rfl (R.move rfl rfl) (W.val rfl rfl rfl (R.extract rfl rfl rfl) (W.val rfl rfl rfl (R.extract rfl rfl rfl) ?_))
  refine W.alloc rfl rfl rfl rfl Try.zr181 rfl hH11 (fun b1 zb1 w6 hH12 hB1 => ?_)
  obtain ⟨D1, hD1⟩ : ∃ D : List Int, D = List.replicate 16 (0 : Int) := ⟨_, rfl⟩
  have hB2 : Blk zb1 b1 181 ([.bool false] ++ D1.map (vI .u64)) := by rw [hD1]; exact hB1
  have hDl1 : D1.length = 16 := by rw [hD1]; rfl
  have hDb1 : ∀ (i : Nat) d, D1[i]? = some d → (0 : Int) ≤ d ∧ d ≤ 18446744073709551615 := by rw [hD1]; exact rep_bd (by decide)
  refine W.alloc rfl rfl rfl rfl Try.zr181 rfl hH12 (fun b2 zb2 w7 hH13 hB3 => ?_)
  obtain ⟨D2, hD2⟩ : ∃ D : List Int, D = List.replicate 16 (0 : Int) := ⟨_, rfl⟩
  have hB4 : Blk zb2 b2 181 ([.bool false] ++ D2.map (vI .u64)) := by rw [hD2]; exact hB3
  have hDl2 : D2.length = 16 := by rw [hD2]; rfl
  have hDb2 : ∀ (i : Nat) d, D2[i]? = some d → (0 : Int) ≤ d ∧ d ≤ 18446744073709551615 := by rw [hD2]; exact rep_bd (by decide)
  have hH14 := hH13.f1
  refine W.sg0 rfl rfl rfl rfl rfl (Try.sz181.trans (congrArg some (arr_len1 (digs_len 16 _)).symm)) (arr_one rfl) (arr_same (by rfl) (digs_len 16 _) hDl1) hH14 hB2 (fun zb3 w8 hH15 hB5 => ?_)
  have hH16 := hH15.f1
  refine W.sg0 rfl rfl rfl rfl rfl (Try.sz181.trans (congrArg some (arr_len1 (digs_len 16 _)).symm)) (arr_one rfl) (arr_same (by rfl) (digs_len 16 _) hDl2) hH16 hB4 (fun zb4 w9 hH17 hB6 => ?_)
  refine W.nil (EX.then_n (CW.seq (CW.region rfl (W.lg0 rfl rfl rfl rfl rfl Try.pl181 (by rw [Try.underlying181]; rfl) (Try.sz181.trans (congrArg some (arr_len1 (digs_len 16 _)).symm)) hH17 m1 hB5 ?_))))
  refine W.call rfl rfl rfl rfl rfl Try.func128 Try.nm128 Try.bd128 (r04_Fits (⟨_, _⟩ : GLong) _ w9 ⟨_, _, rfl, rfl, (by first | assumption | exact hlt5 | omega | (dsimp only; first | assumption | omega)), rfl⟩) ?_
  rintro v6 w10 ⟨rfl, hH18⟩
  have hH19 := hH17.c0 hH18
  refine W.val rfl rfl rfl (R.extract rfl rfl rfl) (W.val rfl rfl rfl (R.extract rfl rfl rfl) (W.val rfl rfl rfl (R.assign rfl rfl) (W.val rfl rfl rfl (R.assign rfl rfl) (W.nil (EX.then_n (CW.ret (EX.ret2 Try.results99 rfl rfl ?_)))))))
  have hH20 := hH19.f2
  have hH21 := hH20.upto1
  subst_vars
  rw [mulDivS_of (by assumption)]
  refine ⟨?_, hH21⟩
  rfl

end Go.Proofs.Gw
namespace Go.Proofs.Gw
open Go Go.Gw Go.Proofs Go.RowKit
set_option maxRecDepth 100000 in
set_option maxHeartbeats 1000000 in
theorem r08_Net (s : GState) (css : List Value) (w0 : World) (hs : kState.K (hp w0) s css) (hl16 : s.Lines.length ≤ 16) (hL : lokB (-1) s.Lines = true) : Calls Try.prog 100 #[.agg css.toArray] w0 (Ret fun v w' => v = .int .i64 (netL s.Lines) ∧ Has w0 w' [hp w0]) := by
  refine fnstart (N := 28) Try.func100 rfl Try.ntmps100 (Nat.le_of_ble_eq_true rfl) ?_
  have hH0 : Has w0 w0 [hp w0] := Has.refl w0
  have hK1 := hs
  obtain ⟨A1, c1, rfl, hb1, hb2, hb3, hb4, hb5, hb6, hb7, hb8, hb9, hb10, hb11, hb12, hb13, hb14, hb15, hb16, hb17, hb18, hb19, hb20, hb21, hl1, hr1⟩ := hK1
  have hlen1 := hr1.len
  refine CW.seq (CW.region rfl ?_)
  refine W.box rfl rfl rfl rfl rfl rfl hH0 (fun b1 zb1 w1 hH1 hB1 => ?_)
  refine W.val rfl rfl rfl (R.assign rfl rfl) (W.nil (EX.then_n (CW.seq (CW.region rfl (W.val rfl rfl rfl (R.assign rfl rfl) (W.nil (EX.then_n ?_)))))))
  refine CW.seq (CW.seq (CW.region rfl (W.val rfl rfl rfl (R.fa0 5 rfl rfl Try.underlying28 rfl Try.sz26 rfl) (W.ldk rfl rfl rfl rfl rfl Try.pl26 hH1 m0 hB1 rfl (W.val rfl rfl rfl (R.len_slice rfl rfl Try.underlying26) (W.val rfl rfl rfl (R.move rfl rfl) (W.nil ?_)))))))
  refine EX.then_n (CW.block ?_)
  have hH2 := hH1.f1
  have hH3 := hH2.f1
  obtain ⟨I1, hI1⟩ : ∃ I : Nat → List (Nat × Value) → World → Prop, I = (fun n_ D_ w_ => ∃ (k : Nat) (n : Int), D_ = [(8, .int .i64 (k : Int)), (3, .int .i64 n)] ∧ n_ = s.Lines.length - k ∧ Has w0 w_ [zb1, (hp w0)] ∧ (k ≤ s.Lines.length) ∧ (n + netL (s.Lines.drop k) = netL s.Lines) ∧ (0 ≤ n ∧ n ≤ 10000000000000 * k)) := ⟨_, rfl⟩
  refine CW.loop3 [3, 4, 8, 9, 10, 11, 12, 13, 14, 15, 16, 17, 18, 19, 20, 21, 22, 23, 24, 25, 26] I1 _ _ ?_ (by rw [hI1]; exact ⟨0, 0, rfl, rfl, hH3, by omega, by simp, by omega⟩) ?_
  exact ⟨lk_int rfl (by first | rfl | omega), lk_int rfl (by first | rfl | omega), trivial⟩
  intro n1 D w2 hn1
  rw [hI1] at hn1
  obtain ⟨k, n, rfl, hme1, hH4, hk, he, hn⟩ := hn1
  refine CW.seq (CW.region rfl (W.val rfl rfl rfl (R.lss rfl rfl rfl) (W.nil (EX.then_n (CW.seq ?_)))))
  refine CW.cond rfl (fun hc1 => ?_) (fun hc1 => ?_)
  replace hc1 := of_decide_eq_true hc1
  refine CW.skip (EX.then_n (CW.seq (CW.block (CW.seq (CW.region rfl (W.val rfl rfl rfl (R.move rfl rfl) (W.val rfl rfl rfl (R.assign rfl rfl) ?_)))))))
  refine W.nil (EX.then_n ?_)
  have hH5 := hH4.drew
  refine CW.draw (fun w => Sub zb1 w ∧ Sub (hp w0) w ∧ True) [] #[false, false, false, false, false, false, false, false, false, false, false, false, false, false, false, false] Try.mixed rfl rfl ⟨hH5.sub _ m0, hH5.sub _ m1, trivial⟩ (WA.pure (i := 0) #[true, false, false, false, false, false, false, false, false, false, false, false, false, false, false, false] (blind_blk (blind_then (blind_then (blind_blk (blind_then (blind_body _ _)))))) rfl (by kernel_rfl) rfl rfl rfl (fun _ => R.move rfl rfl) (WA.pure (i := 1) #[true, true, false, false, false, false, false, false, false, false, false, false, false, false, false, false] (blind_blk (blind_then (blind_then (blind_blk (blind_then (blind_body _ _)))))) rfl (by kernel_rfl) rfl rfl rfl (fun _ => R.fa0 5 rfl rfl Try.underlying28 rfl Try.sz26 rfl) (WA.take (i := 2) #[true, true, true, false, false, false, false, false, false, false, false, false, false, false, false, false] (blind_blk (blind_then (blind_then (blind_blk (blind_then (blind_body _ _)))))) rfl (by kernel_rfl) rfl rfl rfl (fun _ hw => R.load rfl rfl Try.pl26 (cellz_le hw.1 (hB1.at_ 5 _ rfl))) ⟨hH5.sub _ m0, hH5.sub _ m1, trivial⟩ (WA.pure (i := 3) #[true, true, true, true, false, false, false, false, false, false, false, false, false, false, false, false] (blind_blk (blind_then (blind_then (blind_blk (blind_then (blind_body _ _)))))) rfl (by kernel_rfl) rfl rfl rfl (fun _ => R.move rfl rfl) ?_))))
  refine WA.indexRow (i := 4) #[true, true, true, true, true, false, false, false, false, false, false, false, false, false, false, false] (blind_blk (blind_then (blind_then (blind_blk (blind_then (blind_body _ _)))))) rfl (by kernel_rfl) rfl rfl rfl rfl rfl rfl Try.underlying26 Try.sz37 hr1 (by omega) (by omega) (fun q1 cs1 y1 hy1 hK2 hat1 => ?_)
  try simp only [Int.toNat_natCast, Int.reduceToNat] at hy1
  have hK3 := hK2
  obtain ⟨rfl, hb22, hb23, hb24, hb25, hb26, hb27, hb28, hb29⟩ := hK3
  have hlo := lokB_get hL hy1
  have hmb := lok_mul hlo
  have hnd := netL_drop hy1
  refine WA.pure (i := 5) #[true, true, true, true, true, true, false, false, false, false, false, false, false, false, false, false] (blind_blk (blind_then (blind_then (blind_blk (blind_then (blind_body _ _)))))) rfl (by kernel_rfl) rfl rfl rfl (fun _ => R.fa0 2 rfl rfl Try.underlying37 rfl Try.sz3 rfl) (WA.take (i := 6) #[true, true, true, true, true, true, true, false, false, false, false, false, false, false, false, false] (blind_blk (blind_then (blind_then (blind_blk (blind_then (blind_body _ _)))))) rfl (by kernel_rfl) rfl rfl rfl (fun _ hw => R.load rfl rfl Try.pl3 (cellz_le hw.2.1 (hat1 2 _ rfl))) ⟨hH5.sub _ m0, hH5.sub _ m1, trivial⟩ (WA.pure (i := 7) #[true, true, true, true, true, true, true, true, false, false, false, false, false, false, false, false] (blind_blk (blind_then (blind_then (blind_blk (blind_then (blind_body _ _)))))) rfl (by kernel_rfl) rfl rfl rfl (fun _ => R.fa0 5 rfl rfl Try.underlying28 rfl Try.sz26 rfl) (WA.take (i := 8) #[true, true, true, true, true, true, true, true, true, false, false, false, false, false, false, false] (blind_blk (blind_then (blind_then (blind_blk (blind_then (blind_body _ _)))))) rfl (by kernel_rfl) rfl rfl rfl (fun _ hw => R.load rfl rfl Try.pl26 (cellz_le hw.1 (hB1.at_ 5 _ rfl))) ⟨hH5.sub _ m0, hH5.sub _ m1, trivial⟩ (WA.pure (i := 9) #[true, true, true, true, true, true, true, true, true, true, false, false, false, false, false, false] (blind_blk (blind_then (blind_then (blind_blk (blind_then (blind_body _ _)))))) rfl (by kernel_rfl) rfl rfl rfl (fun _ => R.move rfl rfl) ?_))))
  refine WA.indexRow (i := 10) #[true, true, true, true, true, true, true, true, true, true, true, false, false, false, false, false] (blind_blk (blind_then (blind_then (blind_blk (blind_then (blind_body _ _)))))) rfl (by kernel_rfl) rfl rfl rfl rfl rfl rfl Try.underlying26 Try.sz37 hr1 (by omega) (by omega) (fun q2 cs2 y2 hy2 hK4 hat2 => ?_)
  try simp only [Int.toNat_natCast, Int.reduceToNat] at hy2
  have hK5 := hK4
  obtain ⟨rfl, hb30, hb31, hb32, hb33, hb34, hb35, hb36, hb37⟩ := hK5
  obtain rfl := Option.some.inj (hy1.symm.trans hy2)
  refine WA.pure (i := 11) #[true, true, true, true, true, true, true, true, true, true, true, true, false, false, false, false] (blind_blk (blind_then (blind_then (blind_blk (blind_then (blind_body _ _)))))) rfl (by kernel_rfl) rfl rfl rfl (fun _ => R.fa0 1 rfl rfl Try.underlying37 rfl Try.sz3 rfl) (WA.take (i := 12) #[true, true, true, true, true, true, true, true, true, true, true, true, true, false, false, false] (blind_blk (blind_then (blind_then (blind_blk (blind_then (blind_body _ _)))))) rfl (by kernel_rfl) rfl rfl rfl (fun _ hw => R.load rfl rfl Try.pl3 (cellz_le hw.2.1 (hat2 1 _ rfl))) ⟨hH5.sub _ m0, hH5.sub _ m1, trivial⟩ (WA.pure (i := 13) #[true, true, true, true, true, true, true, true, true, true, true, true, true, true, false, false] (blind_blk (blind_then (blind_then (blind_blk (blind_then (blind_body _ _)))))) rfl (by kernel_rfl) rfl rfl rfl (fun _ => R.mulx rfl rfl rfl (ok_i64 (by omega))) (WA.pure (i := 14) #[true, true, true, true, true, true, true, true, true, true, true, true, true, true, true, false] (blind_blk (blind_then (blind_then (blind_blk (blind_then (blind_body _ _)))))) rfl (by kernel_rfl) rfl rfl rfl (fun _ => R.addx rfl rfl rfl (ok_i64 (by omega))) (WA.pure (i := 15) #[true, true, true, true, true, true, true, true, true, true, true, true, true, true, true, true] (blind_blk (blind_then (blind_then (blind_blk (blind_then (blind_body _ _)))))) rfl (by kernel_rfl) rfl rfl rfl (fun _ => R.assign rfl rfl) (WA.done (by kernel_rfl) (EX.blk_n (EX.then_n ?_)))))))
  refine CW.region rfl (W.val rfl rfl rfl (R.addx rfl rfl rfl (ok_i64 (by omega))) (W.val rfl rfl rfl (R.move rfl rfl) (W.nil ?_)))
  have hH6 := hH5.f1
  have hH7 := hH6.f1
  have hH8 := hH7.upto2
  refine EX.back4 _ _ rfl ?_ (by rw [hI1]; exact ⟨k + 1, n + y1.Qty * y1.Price, rfl, rfl, hH8, by omega, by omega, by omega⟩) ?_
  exact ⟨lk_int rfl (by first | rfl | omega), lk_int rfl (by first | rfl | omega), trivial⟩
  omega
  replace hc1 := of_decide_eq_false hc1
  refine CW.exit (EX.then_exit (EX.then_exit (EX.blk_here (EX.then_n (CW.seq (CW.region rfl (W.val rfl rfl rfl (R.move rfl rfl) ?_)))))))
  refine W.val rfl rfl rfl (R.assign rfl rfl) (W.nil (EX.then_n (CW.ret (EX.ret1 Try.results100 rfl ?_))))
  have hH9 := hH4.f1
  have hH10 := hH9.upto1
  refine ⟨?_, hH10⟩
  obtain rfl : k = s.Lines.length := by omega
  rw [List.drop_length, netL] at he
  refine vint ?_; omega

end Go.Proofs.Gw
namespace Go.Proofs.Gw
open Go Go.Gw Go.Proofs Go.RowKit
set_option maxRecDepth 100000 in
set_option maxHeartbeats 1000000 in
theorem r08_Due (s : GState) (css : List Value) (w0 : World) (hs : kState.K (hp w0) s css) (hl16 : s.Lines.length ≤ 16) (hL : lokB (-1) s.Lines = true) (ht0 : 0 ≤ s.Tax) (ht1 : s.Tax ≤ 5000) : Calls Try.prog 77 #[.agg css.toArray] w0 (Ret fun v w' => v = .int .i64 (dueS s) ∧ Has w0 w' [hp w0]) := by
  refine fnstart (N := 17) Try.func77 rfl Try.ntmps77 (Nat.le_of_ble_eq_true rfl) ?_
  have hH0 : Has w0 w0 [hp w0] := Has.refl w0
  have hK1 := hs
  obtain ⟨A1, c1, rfl, hb1, hb2, hb3, hb4, hb5, hb6, hb7, hb8, hb9, hb10, hb11, hb12, hb13, hb14, hb15, hb16, hb17, hb18, hb19, hb20, hb21, hl1, hr1⟩ := hK1
  have hlen1 := hr1.len
  refine CW.seq (CW.region rfl ?_)
  refine W.box rfl rfl rfl rfl rfl rfl hH0 (fun b1 zb1 w1 hH1 hB1 => ?_)
  refine W.val rfl rfl rfl (R.assign rfl rfl) (W.nil (EX.then_n (CW.seq ?_)))
  have hH2 := hH1.drew
  refine CW.draw (fun w => Sub zb1 w ∧ True) [] #[false, false, false, false, false, false, false, false, false, false] Try.mixed rfl rfl ⟨hH2.sub _ m0, trivial⟩ ?_
  have hnb := netL_bd hL
  have htb := tax_bd (n := netL s.Lines) (t := s.Tax) (by omega) (by omega) ht0 ht1
  have hmd := mulDivS_pos (a := netL s.Lines) (b := s.Tax) (d := 10000) (by omega) (by omega) (by omega) (by omega)
  refine WA.take (i := 0) #[true, false, false, false, false, false, false, false, false, false] (blind_then (blind_body _ _)) rfl (by kernel_rfl) rfl rfl rfl (fun _ hw => R.loadAgg rfl rfl (run_isAgg_struct Try.underlying28) (by exact Try.sz28) (hB1.at_.le hw.1)) ⟨hH2.sub _ m0, trivial⟩ (WA.pure (i := 2) #[true, false, true, false, false, false, false, false, false, false] (blind_then (blind_body _ _)) rfl (by kernel_rfl) rfl rfl rfl (fun _ => R.fa0 4 rfl rfl Try.underlying28 rfl Try.sz3 rfl) (WA.take (i := 3) #[true, false, true, true, false, false, false, false, false, false] (blind_then (blind_body _ _)) rfl (by kernel_rfl) rfl rfl rfl (fun _ hw => R.load rfl rfl Try.pl3 (cellz_le hw.1 (hB1.at_ 4 _ rfl))) ⟨hH2.sub _ m0, trivial⟩ (WA.one (i := 1) #[true, true, true, true, false, false, false, false, false, false] rfl (by kernel_rfl) rfl (W.call rfl rfl rfl rfl rfl Try.func100 Try.nm100 Try.bd100 (r08_Net s _ (w1.drew) (hs.mono (hH2.le m1)) hl16 hL) ?_))))
  rintro v1 w2 ⟨rfl, hH3⟩
  have hH4 := hH2.c0 hH3
  refine W.nil (EX.wa ⟨hH4.sub _ m0, trivial⟩ (WA.one (i := 4) #[true, true, true, true, true, false, false, false, false, false] rfl (by kernel_rfl) rfl (W.call rfl rfl rfl rfl rfl Try.func99 Try.nm99 Try.bd99 (r04_MulDiv _ _ _ w2 (by omega) (by omega) (by omega) (by omega) (by omega) (by omega)) ?_)))
  rintro v2 w3 ⟨rfl, hH5⟩
  have hH6 := hH4.c0 hH5
  refine W.nil (EX.wa ⟨hH6.sub _ m0, trivial⟩ (WA.pure (i := 5) #[true, true, true, true, true, true, false, false, false, false] (blind_then (blind_body _ _)) rfl (by kernel_rfl) rfl rfl rfl (fun _ => R.move rfl rfl) (WA.pure (i := 6) #[true, true, true, true, true, true, true, false, false, false] (blind_then (blind_body _ _)) rfl (by kernel_rfl) rfl rfl rfl (fun _ => R.extract rfl rfl rfl) (WA.pure (i := 7) #[true, true, true, true, true, true, true, true, false, false] (blind_then (blind_body _ _)) rfl (by kernel_rfl) rfl rfl rfl (fun _ => R.extract rfl rfl rfl) (WA.pure (i := 8) #[true, true, true, true, true, true, true, true, true, false] (blind_then (blind_body _ _)) rfl (by kernel_rfl) rfl rfl rfl (fun _ => R.assign rfl rfl) (WA.pure (i := 9) #[true, true, true, true, true, true, true, true, true, true] (blind_then (blind_body _ _)) rfl (by kernel_rfl) rfl rfl rfl (fun _ => R.assign rfl rfl) (WA.done (by kernel_rfl) ?_)))))))
  refine EX.then_n (CW.seq (CW.region rfl (W.lg0 rfl rfl rfl rfl rfl Try.pl28 (by rw [Try.underlying28]; rfl) (by exact Try.sz28) hH6 m0 hB1 (W.call rfl rfl rfl rfl rfl Try.func100 Try.nm100 Try.bd100 (r08_Net s _ w3 (hs.mono (hH6.le m1)) hl16 hL) ?_))))
  rintro v3 w4 ⟨rfl, hH7⟩
  have hH8 := hH6.c0 hH7
  rw [hmd]
  refine W.val rfl rfl rfl (R.move rfl rfl) (W.val rfl rfl rfl (R.addx rfl rfl rfl (ok_i64 (by omega))) (W.val rfl rfl rfl (R.assign rfl rfl) (W.nil (EX.then_n (CW.ret (EX.ret1 Try.results77 rfl ?_))))))
  have hH9 := hH8.f1
  have hH10 := hH9.upto1
  refine ⟨?_, hH10⟩
  unfold dueS
  refine vint ?_
  omega

end Go.Proofs.Gw
namespace Go.Proofs.Gw
open Go Go.Gw Go.Proofs Go.RowKit
set_option maxRecDepth 100000 in
set_option maxHeartbeats 1000000 in
theorem r08_Lines (s : GState) (css : List Value) (w0 : World) (hs : kState.K (hp w0) s css) : Calls Try.prog 76 #[.agg css.toArray] w0 (Ret fun v w' => v = .bool (linesOk s.Lines) ∧ Has w0 w' [hp w0]) := by
  refine fnstart (N := 65) Try.func76 rfl Try.ntmps76 (Nat.le_of_ble_eq_true rfl) ?_
  have hH0 : Has w0 w0 [hp w0] := Has.refl w0
  have hK1 := hs
  obtain ⟨A1, c1, rfl, hb1, hb2, hb3, hb4, hb5, hb6, hb7, hb8, hb9, hb10, hb11, hb12, hb13, hb14, hb15, hb16, hb17, hb18, hb19, hb20, hb21, hl1, hr1⟩ := hK1
  have hlen1 := hr1.len
  refine CW.seq (CW.region rfl ?_)
  refine W.box rfl rfl rfl rfl rfl rfl hH0 (fun b1 zb1 w1 hH1 hB1 => ?_)
  refine W.val rfl rfl rfl (R.assign rfl rfl) (W.nil (EX.then_n (CW.seq (CW.seq (CW.region rfl (W.val rfl rfl rfl (R.fa0 5 rfl rfl Try.underlying28 rfl Try.sz26 rfl) (W.ldk rfl rfl rfl rfl rfl Try.pl26 hH1 m0 hB1 rfl ?_)))))))
  refine W.val rfl rfl rfl (R.len_slice rfl rfl Try.underlying26) (W.val rfl rfl rfl (R.gtr rfl rfl rfl) (W.nil (EX.then_n ?_)))
  refine CW.cond rfl (fun hc1 => ?_) (fun hc1 => ?_)
  replace hc1 := of_decide_eq_true hc1
  refine CW.seq (CW.region rfl (W.val rfl rfl rfl (R.assign rfl rfl) (W.nil (EX.then_n (CW.ret (EX.then_ret (EX.ret1 Try.results76 rfl ?_)))))))
  have hH2 := hH1.f1
  have hH3 := hH2.upto1
  refine ⟨?_, hH3⟩
  refine vbool ?_; unfold linesOk; rw [decide_eq_false (by omega)]; rfl
  replace hc1 := of_decide_eq_false hc1
  refine CW.skip (EX.then_n (CW.seq (CW.region rfl (W.val rfl rfl rfl (R.assign rfl rfl) (W.nil (EX.then_n (CW.seq ?_)))))))
  refine CW.seq (CW.region rfl (W.val rfl rfl rfl (R.fa0 5 rfl rfl Try.underlying28 rfl Try.sz26 rfl) (W.ldk rfl rfl rfl rfl rfl Try.pl26 hH1 m0 hB1 rfl (W.val rfl rfl rfl (R.len_slice rfl rfl Try.underlying26) (W.val rfl rfl rfl (R.move rfl rfl) (W.nil (EX.then_n ?_)))))))
  refine CW.block ?_
  have hH4 := hH1.f1
  have hH5 := hH4.f1
  obtain ⟨I1, hI1⟩ : ∃ I : Nat → List (Nat × Value) → World → Prop, I = (fun n_ D_ w_ => ∃ (k : Nat) (bf : Int), D_ = [(13, .int .i64 (k : Int)), (3, .int .i64 bf)] ∧ n_ = s.Lines.length - k ∧ Has w0 w_ [zb1, (hp w0)] ∧ (k ≤ s.Lines.length) ∧ (lokB (-1) s.Lines = lokB bf (s.Lines.drop k))) := ⟨_, rfl⟩
  refine CW.loop3 [2, 3, 4, 5, 13, 14, 15, 16, 17, 18, 19, 20, 21, 22, 23, 24, 25, 26, 27, 28, 29, 30, 31, 32, 33, 34, 35, 36, 37, 38, 39, 40, 41, 42, 43, 44, 45, 46, 47, 48, 49, 50, 51, 52, 53, 54, 55, 56, 57, 58, 59, 60, 61, 62, 63, 64] I1 _ _ ?_ (by rw [hI1]; exact ⟨0, (-1), rfl, rfl, hH5, by omega, rfl⟩) ?_
  exact ⟨lk_int rfl (by first | rfl | omega), lk_int rfl (by first | rfl | omega), trivial⟩
  intro n1 D w2 hn1
  rw [hI1] at hn1
  obtain ⟨k, bf, rfl, hme1, hH6, hk, he⟩ := hn1
  refine CW.seq (CW.region rfl (W.val rfl rfl rfl (R.lss rfl rfl rfl) (W.nil (EX.then_n (CW.seq ?_)))))
  refine CW.cond rfl (fun hc2 => ?_) (fun hc2 => ?_)
  replace hc2 := of_decide_eq_true hc2
  refine CW.skip (EX.then_n (CW.seq (CW.block (CW.seq (CW.region rfl (W.val rfl rfl rfl (R.move rfl rfl) (W.val rfl rfl rfl (R.assign rfl rfl) ?_)))))))
  refine W.nil (EX.then_n (CW.seq (CW.region rfl (W.val rfl rfl rfl (R.fa0 5 rfl rfl Try.underlying28 rfl Try.sz26 rfl) (W.ldk rfl rfl rfl rfl rfl Try.pl26 hH6 m0 hB1 rfl (W.val rfl rfl rfl (R.move rfl rfl) ?_))))))
  refine W.indexRow rfl rfl rfl rfl rfl rfl Try.underlying26 Try.sz37 hr1 (by omega) (by omega) (fun q1 cs1 y1 hy1 hK2 hat1 => ?_)
  try simp only [Int.toNat_natCast, Int.reduceToNat] at hy1
  have hK3 := hK2
  obtain ⟨rfl, hb22, hb23, hb24, hb25, hb26, hb27, hb28, hb29⟩ := hK3
  refine W.lga rfl rfl rfl rfl rfl Try.pl37 (by rw [Try.underlying37]; rfl) (by exact Try.sz37) hH6 m1 hat1 ?_
  refine W.alloc rfl rfl rfl rfl Try.zr37 rfl hH6 (fun b2 zb2 w3 hH7 hB2 => ?_)
  refine W.sg0 rfl rfl rfl rfl rfl Try.sz37 rfl (by rfl) hH7 hB2 (fun zb3 w4 hH8 hB3 => ?_)
  refine W.nil (EX.then_n (CW.seq (CW.seq (CW.region rfl (W.val rfl rfl rfl (R.fa0 0 rfl rfl Try.underlying37 rfl Try.sz3 rfl) (W.ldk rfl rfl rfl rfl rfl Try.pl3 hH8 m0 hB3 rfl (W.val rfl rfl rfl (R.move rfl rfl) ?_)))))))
  refine W.val rfl rfl rfl (R.leq rfl rfl rfl) (W.val rfl rfl rfl (R.move rfl rfl) ?_)
  refine W.split (d := 25) rfl (fun hc3 => ?_) (fun hc3 => ?_)
  replace hc3 := of_decide_eq_true hc3
  refine W.off rfl rfl rfl (W.off rfl rfl rfl (W.off rfl rfl rfl (W.val rfl rfl rfl (R.pick_t rfl rfl rfl) (W.val rfl rfl rfl (R.move rfl rfl) (W.off rfl rfl rfl (W.off rfl rfl rfl (W.off rfl rfl rfl ?_)))))))
  refine W.val rfl rfl rfl (R.pick_t rfl rfl rfl) (W.val rfl rfl rfl (R.move rfl rfl) (W.off rfl rfl rfl (W.off rfl rfl rfl (W.off rfl rfl rfl (W.val rfl rfl rfl (R.pick_t rfl rfl rfl) (W.val rfl rfl rfl (R.move rfl rfl) (W.off rfl rfl rfl ?_)))))))
  refine W.off rfl rfl rfl (W.off rfl rfl rfl (W.val rfl rfl rfl (R.pick_t rfl rfl rfl) (W.val rfl rfl rfl (R.move rfl rfl) (W.off rfl rfl rfl (W.off rfl rfl rfl (W.off rfl rfl rfl (W.val rfl rfl rfl (R.pick_t rfl rfl rfl) ?_)))))))
  refine W.val rfl rfl rfl (R.move rfl rfl) (W.off rfl rfl rfl (W.off rfl rfl rfl (W.off rfl rfl rfl (W.val rfl rfl rfl (R.pick_t rfl rfl rfl) (W.val rfl rfl rfl (R.move rfl rfl) (W.off rfl rfl rfl (W.off rfl rfl rfl ?_)))))))
  refine W.off rfl rfl rfl (W.off rfl rfl rfl (W.off rfl rfl rfl (W.val rfl rfl rfl (R.pick_t rfl rfl rfl) (W.nil (EX.then_n (CW.cond_t rfl (CW.seq ?_)))))))
  refine CW.region rfl (W.val rfl rfl rfl (R.assign rfl rfl) (W.nil (EX.then_n (CW.ret (EX.then_ret (EX.blk_ret (EX.then_ret ?_)))))))
  refine EX.then_ret (EX.blk_ret (EX.then_ret (EX.ret1 Try.results76 rfl ?_)))
  have hH9 := hH8.f2
  have hH10 := hH9.upto1
  refine ⟨?_, hH10⟩
  refine vbool ?_; unfold linesOk; rw [he, lokB_drop hy1, show decide (lok bf y1) = false from decide_eq_false (by unfold lok; omega)]; simp
  replace hc3 := of_decide_eq_false hc3
  refine W.val rfl rfl rfl (R.fa0 0 rfl rfl Try.underlying37 rfl Try.sz3 rfl) (W.ldk rfl rfl rfl rfl rfl Try.pl3 hH8 m0 hB3 rfl (W.val rfl rfl rfl (R.gtr rfl rfl rfl) (W.val rfl rfl rfl (R.pick_f rfl rfl rfl) (W.val rfl rfl rfl (R.move rfl rfl) ?_))))
  refine W.split (d := 30) rfl (fun hc4 => ?_) (fun hc4 => ?_)
  replace hc4 := of_decide_eq_true hc4
  refine W.off rfl rfl rfl (W.off rfl rfl rfl (W.off rfl rfl rfl (W.val rfl rfl rfl (R.pick_t rfl rfl rfl) (W.val rfl rfl rfl (R.move rfl rfl) (W.off rfl rfl rfl (W.off rfl rfl rfl (W.off rfl rfl rfl ?_)))))))
  refine W.val rfl rfl rfl (R.pick_t rfl rfl rfl) (W.val rfl rfl rfl (R.move rfl rfl) (W.off rfl rfl rfl (W.off rfl rfl rfl (W.off rfl rfl rfl (W.val rfl rfl rfl (R.pick_t rfl rfl rfl) (W.val rfl rfl rfl (R.move rfl rfl) (W.off rfl rfl rfl ?_)))))))
  refine W.off rfl rfl rfl (W.off rfl rfl rfl (W.val rfl rfl rfl (R.pick_t rfl rfl rfl) (W.val rfl rfl rfl (R.move rfl rfl) (W.off rfl rfl rfl (W.off rfl rfl rfl (W.off rfl rfl rfl (W.val rfl rfl rfl (R.pick_t rfl rfl rfl) ?_)))))))
  refine W.val rfl rfl rfl (R.move rfl rfl) (W.off rfl rfl rfl (W.off rfl rfl rfl (W.off rfl rfl rfl (W.off rfl rfl rfl (W.off rfl rfl rfl (W.val rfl rfl rfl (R.pick_t rfl rfl rfl) (W.nil ?_)))))))
  refine EX.then_n (CW.cond_t rfl (CW.seq (CW.region rfl (W.val rfl rfl rfl (R.assign rfl rfl) (W.nil (EX.then_n (CW.ret ?_)))))))
  refine EX.then_ret (EX.blk_ret (EX.then_ret (EX.then_ret (EX.blk_ret (EX.then_ret (EX.ret1 Try.results76 rfl ?_))))))
  have hH11 := hH8.f2
  have hH12 := hH11.upto1
  refine ⟨?_, hH12⟩
  refine vbool ?_; unfold linesOk; rw [he, lokB_drop hy1, show decide (lok bf y1) = false from decide_eq_false (by unfold lok; omega)]; simp
  replace hc4 := of_decide_eq_false hc4
  refine W.val rfl rfl rfl (R.fa0 1 rfl rfl Try.underlying37 rfl Try.sz3 rfl) (W.ldk rfl rfl rfl rfl rfl Try.pl3 hH8 m0 hB3 rfl (W.val rfl rfl rfl (R.lss rfl rfl rfl) (W.val rfl rfl rfl (R.pick_f rfl rfl rfl) (W.val rfl rfl rfl (R.move rfl rfl) ?_))))
  refine W.split (d := 35) rfl (fun hc5 => ?_) (fun hc5 => ?_)
  replace hc5 := of_decide_eq_true hc5
  refine W.off rfl rfl rfl (W.off rfl rfl rfl (W.off rfl rfl rfl (W.val rfl rfl rfl (R.pick_t rfl rfl rfl) (W.val rfl rfl rfl (R.move rfl rfl) (W.off rfl rfl rfl (W.off rfl rfl rfl (W.off rfl rfl rfl ?_)))))))
  refine W.val rfl rfl rfl (R.pick_t rfl rfl rfl) (W.val rfl rfl rfl (R.move rfl rfl) (W.off rfl rfl rfl (W.off rfl rfl rfl (W.off rfl rfl rfl (W.val rfl rfl rfl (R.pick_t rfl rfl rfl) (W.val rfl rfl rfl (R.move rfl rfl) (W.off rfl rfl rfl ?_)))))))
  refine W.off rfl rfl rfl (W.off rfl rfl rfl (W.val rfl rfl rfl (R.pick_t rfl rfl rfl) (W.val rfl rfl rfl (R.move rfl rfl) (W.off rfl rfl rfl (W.off rfl rfl rfl (W.off rfl rfl rfl (W.off rfl rfl rfl ?_)))))))
  refine W.off rfl rfl rfl (W.val rfl rfl rfl (R.pick_t rfl rfl rfl) (W.nil (EX.then_n (CW.cond_t rfl (CW.seq (CW.region rfl (W.val rfl rfl rfl (R.assign rfl rfl) ?_)))))))
  refine W.nil (EX.then_n (CW.ret (EX.then_ret (EX.blk_ret (EX.then_ret (EX.then_ret (EX.blk_ret ?_)))))))
  refine EX.then_ret (EX.ret1 Try.results76 rfl ?_)
  have hH13 := hH8.f2
  have hH14 := hH13.upto1
  refine ⟨?_, hH14⟩
  refine vbool ?_; unfold linesOk; rw [he, lokB_drop hy1, show decide (lok bf y1) = false from decide_eq_false (by unfold lok; omega)]; simp
  replace hc5 := of_decide_eq_false hc5
  refine W.val rfl rfl rfl (R.fa0 1 rfl rfl Try.underlying37 rfl Try.sz3 rfl) (W.ldk rfl rfl rfl rfl rfl Try.pl3 hH8 m0 hB3 rfl (W.val rfl rfl rfl (R.gtr rfl rfl rfl) (W.val rfl rfl rfl (R.pick_f rfl rfl rfl) (W.val rfl rfl rfl (R.move rfl rfl) ?_))))
  refine W.split (d := 40) rfl (fun hc6 => ?_) (fun hc6 => ?_)
  replace hc6 := of_decide_eq_true hc6
  refine W.off rfl rfl rfl (W.off rfl rfl rfl (W.off rfl rfl rfl (W.val rfl rfl rfl (R.pick_t rfl rfl rfl) (W.val rfl rfl rfl (R.move rfl rfl) (W.off rfl rfl rfl (W.off rfl rfl rfl (W.off rfl rfl rfl ?_)))))))
  refine W.val rfl rfl rfl (R.pick_t rfl rfl rfl) (W.val rfl rfl rfl (R.move rfl rfl) (W.off rfl rfl rfl (W.off rfl rfl rfl (W.off rfl rfl rfl (W.val rfl rfl rfl (R.pick_t rfl rfl rfl) (W.val rfl rfl rfl (R.move rfl rfl) (W.off rfl rfl rfl ?_)))))))
  refine W.off rfl rfl rfl (W.off rfl rfl rfl (W.off rfl rfl rfl (W.off rfl rfl rfl (W.val rfl rfl rfl (R.pick_t rfl rfl rfl) (W.nil (EX.then_n (CW.cond_t rfl ?_)))))))
  refine CW.seq (CW.region rfl (W.val rfl rfl rfl (R.assign rfl rfl) (W.nil (EX.then_n (CW.ret (EX.then_ret (EX.blk_ret ?_)))))))
  refine EX.then_ret (EX.then_ret (EX.blk_ret (EX.then_ret (EX.ret1 Try.results76 rfl ?_))))
  have hH15 := hH8.f2
  have hH16 := hH15.upto1
  refine ⟨?_, hH16⟩
  refine vbool ?_; unfold linesOk; rw [he, lokB_drop hy1, show decide (lok bf y1) = false from decide_eq_false (by unfold lok; omega)]; simp
  replace hc6 := of_decide_eq_false hc6
  refine W.val rfl rfl rfl (R.fa0 2 rfl rfl Try.underlying37 rfl Try.sz3 rfl) (W.ldk rfl rfl rfl rfl rfl Try.pl3 hH8 m0 hB3 rfl (W.val rfl rfl rfl (R.lss rfl rfl rfl) (W.val rfl rfl rfl (R.pick_f rfl rfl rfl) (W.val rfl rfl rfl (R.move rfl rfl) ?_))))
  refine W.split (d := 45) rfl (fun hc7 => ?_) (fun hc7 => ?_)
  replace hc7 := of_decide_eq_true hc7
  refine W.off rfl rfl rfl (W.off rfl rfl rfl (W.off rfl rfl rfl (W.val rfl rfl rfl (R.pick_t rfl rfl rfl) (W.val rfl rfl rfl (R.move rfl rfl) (W.off rfl rfl rfl (W.off rfl rfl rfl (W.off rfl rfl rfl ?_)))))))
  refine W.val rfl rfl rfl (R.pick_t rfl rfl rfl) (W.val rfl rfl rfl (R.move rfl rfl) (W.off rfl rfl rfl (W.off rfl rfl rfl (W.off rfl rfl rfl (W.off rfl rfl rfl (W.off rfl rfl rfl (W.val rfl rfl rfl (R.pick_t rfl rfl rfl) ?_)))))))
  refine W.nil (EX.then_n (CW.cond_t rfl (CW.seq (CW.region rfl (W.val rfl rfl rfl (R.assign rfl rfl) (W.nil (EX.then_n ?_)))))))
  refine CW.ret (EX.then_ret (EX.blk_ret (EX.then_ret (EX.then_ret (EX.blk_ret (EX.then_ret (EX.ret1 Try.results76 rfl ?_)))))))
  have hH17 := hH8.f2
  have hH18 := hH17.upto1
  refine ⟨?_, hH18⟩
  refine vbool ?_; unfold linesOk; rw [he, lokB_drop hy1, show decide (lok bf y1) = false from decide_eq_false (by unfold lok; omega)]; simp
  replace hc7 := of_decide_eq_false hc7
  refine W.val rfl rfl rfl (R.fa0 2 rfl rfl Try.underlying37 rfl Try.sz3 rfl) (W.ldk rfl rfl rfl rfl rfl Try.pl3 hH8 m0 hB3 rfl (W.val rfl rfl rfl (R.gtr rfl rfl rfl) (W.val rfl rfl rfl (R.pick_f rfl rfl rfl) (W.val rfl rfl rfl (R.move rfl rfl) ?_))))
  refine W.split (d := 50) rfl (fun hc8 => ?_) (fun hc8 => ?_)
  replace hc8 := of_decide_eq_true hc8
  refine W.off rfl rfl rfl (W.off rfl rfl rfl (W.off rfl rfl rfl (W.val rfl rfl rfl (R.pick_t rfl rfl rfl) (W.val rfl rfl rfl (R.move rfl rfl) (W.off rfl rfl rfl (W.off rfl rfl rfl (W.off rfl rfl rfl ?_)))))))
  refine W.off rfl rfl rfl (W.off rfl rfl rfl (W.val rfl rfl rfl (R.pick_t rfl rfl rfl) (W.nil (EX.then_n (CW.cond_t rfl (CW.seq (CW.region rfl ?_)))))))
  refine W.val rfl rfl rfl (R.assign rfl rfl) (W.nil (EX.then_n (CW.ret (EX.then_ret (EX.blk_ret (EX.then_ret (EX.then_ret ?_)))))))
  refine EX.blk_ret (EX.then_ret (EX.ret1 Try.results76 rfl ?_))
  have hH19 := hH8.f2
  have hH20 := hH19.upto1
  refine ⟨?_, hH20⟩
  refine vbool ?_; unfold linesOk; rw [he, lokB_drop hy1, show decide (lok bf y1) = false from decide_eq_false (by unfold lok; omega)]; simp
  replace hc8 := of_decide_eq_false hc8
  refine W.val rfl rfl rfl (R.fa0 3 rfl rfl Try.underlying37 rfl Try.sz3 rfl) (W.ldk rfl rfl rfl rfl rfl Try.pl3 hH8 m0 hB3 rfl (W.val rfl rfl rfl (R.lss rfl rfl rfl) (W.val rfl rfl rfl (R.pick_f rfl rfl rfl) (W.val rfl rfl rfl (R.move rfl rfl) ?_))))
  refine W.split (d := 55) rfl (fun hc9 => ?_) (fun hc9 => ?_)
  replace hc9 := of_decide_eq_true hc9
  refine W.off rfl rfl rfl (W.off rfl rfl rfl (W.off rfl rfl rfl (W.off rfl rfl rfl (W.off rfl rfl rfl (W.val rfl rfl rfl (R.pick_t rfl rfl rfl) (W.nil (EX.then_n ?_)))))))
  refine CW.cond_t rfl (CW.seq (CW.region rfl (W.val rfl rfl rfl (R.assign rfl rfl) (W.nil (EX.then_n (CW.ret (EX.then_ret ?_)))))))
  refine EX.blk_ret (EX.then_ret (EX.then_ret (EX.blk_ret (EX.then_ret (EX.ret1 Try.results76 rfl ?_)))))
  have hH21 := hH8.f2
  have hH22 := hH21.upto1
  refine ⟨?_, hH22⟩
  refine vbool ?_; unfold linesOk; rw [he, lokB_drop hy1, show decide (lok bf y1) = false from decide_eq_false (by unfold lok; omega)]; simp
  replace hc9 := of_decide_eq_false hc9
  refine W.val rfl rfl rfl (R.fa0 3 rfl rfl Try.underlying37 rfl Try.sz3 rfl) (W.ldk rfl rfl rfl rfl rfl Try.pl3 hH8 m0 hB3 rfl (W.val rfl rfl rfl (R.fa0 2 rfl rfl Try.underlying37 rfl Try.sz3 rfl) (W.ldk rfl rfl rfl rfl rfl Try.pl3 hH8 m0 hB3 rfl (W.val rfl rfl rfl (R.gtr rfl rfl rfl) (W.val rfl rfl rfl (R.pick_f rfl rfl rfl) (W.nil (EX.then_n ?_)))))))
  refine CW.cond rfl (fun hc10 => ?_) (fun hc10 => ?_)
  replace hc10 := of_decide_eq_true hc10
  refine CW.seq (CW.region rfl (W.val rfl rfl rfl (R.assign rfl rfl) (W.nil (EX.then_n (CW.ret (EX.then_ret (EX.blk_ret ?_)))))))
  refine EX.then_ret (EX.then_ret (EX.blk_ret (EX.then_ret (EX.ret1 Try.results76 rfl ?_))))
  have hH23 := hH8.f2
  have hH24 := hH23.upto1
  refine ⟨?_, hH24⟩
  refine vbool ?_; unfold linesOk; rw [he, lokB_drop hy1, show decide (lok bf y1) = false from decide_eq_false (by unfold lok; omega)]; simp
  replace hc10 := of_decide_eq_false hc10
  refine CW.skip (EX.then_n (CW.region rfl (W.val rfl rfl rfl (R.fa0 0 rfl rfl Try.underlying37 rfl Try.sz3 rfl) (W.ldk rfl rfl rfl rfl rfl Try.pl3 hH8 m0 hB3 rfl (W.val rfl rfl rfl (R.assign rfl rfl) (W.nil (EX.blk_n ?_)))))))
  refine EX.then_n (CW.region rfl (W.val rfl rfl rfl (R.addx rfl rfl rfl (ok_i64 (by omega))) (W.val rfl rfl rfl (R.move rfl rfl) (W.nil ?_))))
  have hH25 := hH8.f2
  have hH26 := hH25.f2
  have hH27 := hH26.upto2
  refine EX.back4 _ _ rfl ?_ (by rw [hI1]; exact ⟨k + 1, y1.Item, rfl, rfl, hH27, by omega, he.trans (by rw [lokB_drop hy1, show decide (lok bf y1) = true from decide_eq_true (by unfold lok; omega), Bool.true_and])⟩) ?_
  exact ⟨lk_int rfl (by first | rfl | omega), lk_int rfl (by first | rfl | omega), trivial⟩
  omega
  replace hc2 := of_decide_eq_false hc2
  refine CW.exit (EX.then_exit (EX.then_exit (EX.blk_here (EX.then_n (CW.seq (CW.region rfl (W.val rfl rfl rfl (R.assign rfl rfl) ?_)))))))
  refine W.nil (EX.then_n (CW.ret (EX.ret1 Try.results76 rfl ?_)))
  have hH28 := hH6.f1
  have hH29 := hH28.upto1
  refine ⟨?_, hH29⟩
  obtain rfl : k = s.Lines.length := by omega
  refine vbool ?_; unfold linesOk; rw [decide_eq_true (by omega), he, List.drop_length]; rfl

end Go.Proofs.Gw
namespace Go.Proofs.Gw
open Go Go.Gw Go.Proofs Go.RowKit
set_option maxRecDepth 100000 in
set_option maxHeartbeats 1000000 in
theorem r08_Stands (s : GState) (css : List Value) (w0 : World) (hs : kState.K (hp w0) s css) : Calls Try.prog 78 #[.agg css.toArray] w0 (Ret fun v w' => v = .int .i64 (standsS s) ∧ Has w0 w' [hp w0]) := by
  refine fnstart (N := 10) Try.func78 rfl Try.ntmps78 (Nat.le_of_ble_eq_true rfl) ?_
  have hH0 : Has w0 w0 [hp w0] := Has.refl w0
  have hK1 := hs
  obtain ⟨A1, c1, rfl, hb1, hb2, hb3, hb4, hb5, hb6, hb7, hb8, hb9, hb10, hb11, hb12, hb13, hb14, hb15, hb16, hb17, hb18, hb19, hb20, hb21, hl1, hr1⟩ := hK1
  have hlen1 := hr1.len
  refine CW.seq (CW.region rfl ?_)
  refine W.box rfl rfl rfl rfl rfl rfl hH0 (fun b1 zb1 w1 hH1 hB1 => ?_)
  refine W.val rfl rfl rfl (R.assign rfl rfl) (W.nil (EX.then_n (CW.seq (CW.seq (CW.region rfl (W.val rfl rfl rfl (R.fa0 1 rfl rfl Try.underlying28 rfl Try.sz25 rfl) (W.ldk rfl rfl rfl rfl rfl Try.pl25 hH1 m0 hB1 rfl ?_)))))))
  refine W.val rfl rfl rfl (R.eql rfl rfl rfl) (W.nil (EX.then_n ?_))
  refine CW.cond rfl (fun hc1 => ?_) (fun hc1 => ?_)
  replace hc1 := of_decide_eq_true hc1
  refine CW.seq (CW.region rfl (W.val rfl rfl rfl (R.fa0 2 rfl rfl Try.underlying28 rfl Try.sz25 rfl) (W.ldk rfl rfl rfl rfl rfl Try.pl25 hH1 m0 hB1 rfl (W.val rfl rfl rfl (R.assign rfl rfl) (W.nil (EX.then_n (CW.ret ?_)))))))
  refine EX.then_ret (EX.ret1 Try.results78 rfl ?_)
  have hH2 := hH1.f1
  have hH3 := hH2.upto1
  refine ⟨?_, hH3⟩
  unfold standsS; rw [if_pos (by assumption)]
  replace hc1 := of_decide_eq_false hc1
  refine CW.skip (EX.then_n (CW.seq (CW.region rfl (W.val rfl rfl rfl (R.fa0 1 rfl rfl Try.underlying28 rfl Try.sz25 rfl) (W.ldk rfl rfl rfl rfl rfl Try.pl25 hH1 m0 hB1 rfl (W.val rfl rfl rfl (R.assign rfl rfl) (W.nil ?_)))))))
  refine EX.then_n (CW.ret (EX.ret1 Try.results78 rfl ?_))
  have hH4 := hH1.f1
  have hH5 := hH4.upto1
  refine ⟨?_, hH5⟩
  unfold standsS; rw [if_neg (by assumption)]

end Go.Proofs.Gw
namespace Go.Proofs.Gw
open Go Go.Gw Go.Proofs Go.RowKit
set_option maxRecDepth 100000 in
set_option maxHeartbeats 1000000 in
theorem r08_Untouched (s : GState) (css : List Value) (w0 : World) (hs : kState.K (hp w0) s css) (hl16 : s.Lines.length ≤ 16) (hL : lokB (-1) s.Lines = true) : Calls Try.prog 79 #[.agg css.toArray] w0 (Ret fun v w' => v = .bool (untB s.Lines) ∧ Has w0 w' [hp w0]) := by
  refine fnstart (N := 18) Try.func79 rfl Try.ntmps79 (Nat.le_of_ble_eq_true rfl) ?_
  have hH0 : Has w0 w0 [hp w0] := Has.refl w0
  have hK1 := hs
  obtain ⟨A1, c1, rfl, hb1, hb2, hb3, hb4, hb5, hb6, hb7, hb8, hb9, hb10, hb11, hb12, hb13, hb14, hb15, hb16, hb17, hb18, hb19, hb20, hb21, hl1, hr1⟩ := hK1
  have hlen1 := hr1.len
  refine CW.seq (CW.region rfl ?_)
  refine W.box rfl rfl rfl rfl rfl rfl hH0 (fun b1 zb1 w1 hH1 hB1 => ?_)
  refine W.val rfl rfl rfl (R.assign rfl rfl) (W.nil (EX.then_n (CW.seq (CW.seq (CW.region rfl (W.val rfl rfl rfl (R.fa0 5 rfl rfl Try.underlying28 rfl Try.sz26 rfl) (W.ldk rfl rfl rfl rfl rfl Try.pl26 hH1 m0 hB1 rfl ?_)))))))
  refine W.val rfl rfl rfl (R.len_slice rfl rfl Try.underlying26) (W.val rfl rfl rfl (R.move rfl rfl) (W.nil (EX.then_n (CW.block ?_))))
  have hH2 := hH1.f1
  have hH3 := hH2.f1
  obtain ⟨I1, hI1⟩ : ∃ I : Nat → List (Nat × Value) → World → Prop, I = (fun n_ D_ w_ => ∃ (k : Nat), D_ = [(7, .int .i64 (k : Int))] ∧ n_ = s.Lines.length - k ∧ Has w0 w_ [zb1, (hp w0)] ∧ (k ≤ s.Lines.length) ∧ (untB s.Lines = untB (s.Lines.drop k))) := ⟨_, rfl⟩
  refine CW.loop3 [2, 3, 7, 8, 9, 10, 11, 12, 13, 14, 15, 16, 17] I1 _ _ ?_ (by rw [hI1]; exact ⟨0, rfl, rfl, hH3, by omega, rfl⟩) ?_
  exact ⟨lk_int rfl (by first | rfl | omega), trivial⟩
  intro n1 D w2 hn1
  rw [hI1] at hn1
  obtain ⟨k, rfl, hme1, hH4, hk, he⟩ := hn1
  refine CW.seq (CW.region rfl (W.val rfl rfl rfl (R.lss rfl rfl rfl) (W.nil (EX.then_n (CW.seq ?_)))))
  refine CW.cond rfl (fun hc1 => ?_) (fun hc1 => ?_)
  replace hc1 := of_decide_eq_true hc1
  refine CW.skip (EX.then_n (CW.seq (CW.block (CW.seq (CW.region rfl (W.val rfl rfl rfl (R.move rfl rfl) (W.val rfl rfl rfl (R.assign rfl rfl) ?_)))))))
  refine W.nil (EX.then_n (CW.seq (CW.region rfl (W.val rfl rfl rfl (R.fa0 5 rfl rfl Try.underlying28 rfl Try.sz26 rfl) (W.ldk rfl rfl rfl rfl rfl Try.pl26 hH4 m0 hB1 rfl (W.val rfl rfl rfl (R.move rfl rfl) ?_))))))
  refine W.indexRow rfl rfl rfl rfl rfl rfl Try.underlying26 Try.sz37 hr1 (by omega) (by omega) (fun q1 cs1 y1 hy1 hK2 hat1 => ?_)
  try simp only [Int.toNat_natCast, Int.reduceToNat] at hy1
  have hK3 := hK2
  obtain ⟨rfl, hb22, hb23, hb24, hb25, hb26, hb27, hb28, hb29⟩ := hK3
  have hlo := lokB_get hL hy1
  unfold lok at hlo
  refine W.val rfl rfl rfl (R.fa0 3 rfl rfl Try.underlying37 rfl Try.sz3 rfl) (W.lak rfl rfl rfl rfl rfl Try.pl3 hH4 m1 hat1 rfl (W.val rfl rfl rfl (R.gtr rfl rfl rfl) (W.nil (EX.then_n ?_))))
  refine CW.cond rfl (fun hc2 => ?_) (fun hc2 => ?_)
  replace hc2 := of_decide_eq_true hc2
  refine CW.seq (CW.region rfl (W.val rfl rfl rfl (R.assign rfl rfl) (W.nil (EX.then_n (CW.ret (EX.blk_ret (EX.then_ret ?_)))))))
  refine EX.then_ret (EX.blk_ret (EX.then_ret (EX.ret1 Try.results79 rfl ?_)))
  have hH5 := hH4.f1
  have hH6 := hH5.upto1
  refine ⟨?_, hH6⟩
  refine vbool ?_; rw [he, untB_drop hy1, show decide (y1.Shipped = 0) = false from decide_eq_false (by omega)]; rfl
  replace hc2 := of_decide_eq_false hc2
  refine CW.skip (EX.blk_n (EX.then_n (CW.region rfl (W.val rfl rfl rfl (R.addx rfl rfl rfl (ok_i64 (by omega))) (W.val rfl rfl rfl (R.move rfl rfl) (W.nil ?_))))))
  have hH7 := hH4.f1
  have hH8 := hH7.f1
  have hH9 := hH8.upto2
  refine EX.back4 _ _ rfl ?_ (by rw [hI1]; exact ⟨k + 1, rfl, rfl, hH9, by omega, he.trans (by rw [untB_drop hy1, show decide (y1.Shipped = 0) = true from decide_eq_true (by omega), Bool.true_and])⟩) ?_
  exact ⟨lk_int rfl (by first | rfl | omega), trivial⟩
  omega
  replace hc1 := of_decide_eq_false hc1
  refine CW.exit (EX.then_exit (EX.then_exit (EX.blk_here (EX.then_n (CW.seq (CW.region rfl (W.val rfl rfl rfl (R.assign rfl rfl) ?_)))))))
  refine W.nil (EX.then_n (CW.ret (EX.ret1 Try.results79 rfl ?_)))
  have hH10 := hH4.f1
  have hH11 := hH10.upto1
  refine ⟨?_, hH11⟩
  obtain rfl : k = s.Lines.length := by omega
  refine vbool ?_; rw [he, List.drop_length]; rfl

end Go.Proofs.Gw
namespace Go.Proofs.Gw
open Go Go.Gw Go.Proofs Go.RowKit
set_option maxRecDepth 100000 in
set_option maxHeartbeats 1000000 in
theorem r08_Whole (s : GState) (css : List Value) (w0 : World) (hs : kState.K (hp w0) s css) (hl16 : s.Lines.length ≤ 16) (hL : lokB (-1) s.Lines = true) : Calls Try.prog 80 #[.agg css.toArray] w0 (Ret fun v w' => v = .bool (wholeB s.Lines) ∧ Has w0 w' [hp w0]) := by
  refine fnstart (N := 24) Try.func80 rfl Try.ntmps80 (Nat.le_of_ble_eq_true rfl) ?_
  have hH0 : Has w0 w0 [hp w0] := Has.refl w0
  have hK1 := hs
  obtain ⟨A1, c1, rfl, hb1, hb2, hb3, hb4, hb5, hb6, hb7, hb8, hb9, hb10, hb11, hb12, hb13, hb14, hb15, hb16, hb17, hb18, hb19, hb20, hb21, hl1, hr1⟩ := hK1
  have hlen1 := hr1.len
  refine CW.seq (CW.region rfl ?_)
  refine W.box rfl rfl rfl rfl rfl rfl hH0 (fun b1 zb1 w1 hH1 hB1 => ?_)
  refine W.val rfl rfl rfl (R.assign rfl rfl) (W.nil (EX.then_n (CW.seq (CW.seq (CW.region rfl (W.val rfl rfl rfl (R.fa0 5 rfl rfl Try.underlying28 rfl Try.sz26 rfl) (W.ldk rfl rfl rfl rfl rfl Try.pl26 hH1 m0 hB1 rfl ?_)))))))
  refine W.val rfl rfl rfl (R.len_slice rfl rfl Try.underlying26) (W.val rfl rfl rfl (R.move rfl rfl) (W.nil (EX.then_n (CW.block ?_))))
  have hH2 := hH1.f1
  have hH3 := hH2.f1
  obtain ⟨I1, hI1⟩ : ∃ I : Nat → List (Nat × Value) → World → Prop, I = (fun n_ D_ w_ => ∃ (k : Nat), D_ = [(7, .int .i64 (k : Int))] ∧ n_ = s.Lines.length - k ∧ Has w0 w_ [zb1, (hp w0)] ∧ (k ≤ s.Lines.length) ∧ (wholeB s.Lines = wholeB (s.Lines.drop k))) := ⟨_, rfl⟩
  refine CW.loop3 [2, 3, 7, 8, 9, 10, 11, 12, 13, 14, 15, 16, 17, 18, 19, 20, 21, 22, 23] I1 _ _ ?_ (by rw [hI1]; exact ⟨0, rfl, rfl, hH3, by omega, rfl⟩) ?_
  exact ⟨lk_int rfl (by first | rfl | omega), trivial⟩
  intro n1 D w2 hn1
  rw [hI1] at hn1
  obtain ⟨k, rfl, hme1, hH4, hk, he⟩ := hn1
  refine CW.seq (CW.region rfl (W.val rfl rfl rfl (R.lss rfl rfl rfl) (W.nil (EX.then_n (CW.seq ?_)))))
  refine CW.cond rfl (fun hc1 => ?_) (fun hc1 => ?_)
  replace hc1 := of_decide_eq_true hc1
  refine CW.skip (EX.then_n (CW.seq (CW.block (CW.seq (CW.region rfl (W.val rfl rfl rfl (R.move rfl rfl) (W.val rfl rfl rfl (R.assign rfl rfl) ?_)))))))
  refine W.nil (EX.then_n (CW.seq ?_))
  have hH5 := hH4.drew
  refine CW.draw (fun w => Sub zb1 w ∧ Sub (hp w0) w ∧ True) [] #[false, false, false, false, false, false, false, false, false, false, false, false, false] Try.mixed rfl rfl ⟨hH5.sub _ m0, hH5.sub _ m1, trivial⟩ (WA.pure (i := 0) #[true, false, false, false, false, false, false, false, false, false, false, false, false] (blind_then (blind_blk (blind_then (blind_then (blind_blk (blind_then (blind_body _ _))))))) rfl (by kernel_rfl) rfl rfl rfl (fun _ => R.fa0 5 rfl rfl Try.underlying28 rfl Try.sz26 rfl) (WA.take (i := 1) #[true, true, false, false, false, false, false, false, false, false, false, false, false] (blind_then (blind_blk (blind_then (blind_then (blind_blk (blind_then (blind_body _ _))))))) rfl (by kernel_rfl) rfl rfl rfl (fun _ hw => R.load rfl rfl Try.pl26 (cellz_le hw.1 (hB1.at_ 5 _ rfl))) ⟨hH5.sub _ m0, hH5.sub _ m1, trivial⟩ (WA.pure (i := 2) #[true, true, true, false, false, false, false, false, false, false, false, false, false] (blind_then (blind_blk (blind_then (blind_then (blind_blk (blind_then (blind_body _ _))))))) rfl (by kernel_rfl) rfl rfl rfl (fun _ => R.move rfl rfl) ?_)))
  refine WA.indexRow (i := 3) #[true, true, true, true, false, false, false, false, false, false, false, false, false] (blind_then (blind_blk (blind_then (blind_then (blind_blk (blind_then (blind_body _ _))))))) rfl (by kernel_rfl) rfl rfl rfl rfl rfl rfl Try.underlying26 Try.sz37 hr1 (by omega) (by omega) (fun q1 cs1 y1 hy1 hK2 hat1 => ?_)
  try simp only [Int.toNat_natCast, Int.reduceToNat] at hy1
  have hK3 := hK2
  obtain ⟨rfl, hb22, hb23, hb24, hb25, hb26, hb27, hb28, hb29⟩ := hK3
  have hlo := lokB_get hL hy1
  unfold lok at hlo
  refine WA.pure (i := 4) #[true, true, true, true, true, false, false, false, false, false, false, false, false] (blind_then (blind_blk (blind_then (blind_then (blind_blk (blind_then (blind_body _ _))))))) rfl (by kernel_rfl) rfl rfl rfl (fun _ => R.fa0 3 rfl rfl Try.underlying37 rfl Try.sz3 rfl) (WA.take (i := 5) #[true, true, true, true, true, true, false, false, false, false, false, false, false] (blind_then (blind_blk (blind_then (blind_then (blind_blk (blind_then (blind_body _ _))))))) rfl (by kernel_rfl) rfl rfl rfl (fun _ hw => R.load rfl rfl Try.pl3 (cellz_le hw.2.1 (hat1 3 _ rfl))) ⟨hH5.sub _ m0, hH5.sub _ m1, trivial⟩ (WA.pure (i := 6) #[true, true, true, true, true, true, true, false, false, false, false, false, false] (blind_then (blind_blk (blind_then (blind_then (blind_blk (blind_then (blind_body _ _))))))) rfl (by kernel_rfl) rfl rfl rfl (fun _ => R.fa0 5 rfl rfl Try.underlying28 rfl Try.sz26 rfl) (WA.take (i := 7) #[true, true, true, true, true, true, true, true, false, false, false, false, false] (blind_then (blind_blk (blind_then (blind_then (blind_blk (blind_then (blind_body _ _))))))) rfl (by kernel_rfl) rfl rfl rfl (fun _ hw => R.load rfl rfl Try.pl26 (cellz_le hw.1 (hB1.at_ 5 _ rfl))) ⟨hH5.sub _ m0, hH5.sub _ m1, trivial⟩ (WA.pure (i := 8) #[true, true, true, true, true, true, true, true, true, false, false, false, false] (blind_then (blind_blk (blind_then (blind_then (blind_blk (blind_then (blind_body _ _))))))) rfl (by kernel_rfl) rfl rfl rfl (fun _ => R.move rfl rfl) ?_))))
  refine WA.indexRow (i := 9) #[true, true, true, true, true, true, true, true, true, true, false, false, false] (blind_then (blind_blk (blind_then (blind_then (blind_blk (blind_then (blind_body _ _))))))) rfl (by kernel_rfl) rfl rfl rfl rfl rfl rfl Try.underlying26 Try.sz37 hr1 (by omega) (by omega) (fun q2 cs2 y2 hy2 hK4 hat2 => ?_)
  try simp only [Int.toNat_natCast, Int.reduceToNat] at hy2
  have hK5 := hK4
  obtain ⟨rfl, hb30, hb31, hb32, hb33, hb34, hb35, hb36, hb37⟩ := hK5
  obtain rfl := Option.some.inj (hy1.symm.trans hy2)
  refine WA.pure (i := 10) #[true, true, true, true, true, true, true, true, true, true, true, false, false] (blind_then (blind_blk (blind_then (blind_then (blind_blk (blind_then (blind_body _ _))))))) rfl (by kernel_rfl) rfl rfl rfl (fun _ => R.fa0 2 rfl rfl Try.underlying37 rfl Try.sz3 rfl) (WA.take (i := 11) #[true, true, true, true, true, true, true, true, true, true, true, true, false] (blind_then (blind_blk (blind_then (blind_then (blind_blk (blind_then (blind_body _ _))))))) rfl (by kernel_rfl) rfl rfl rfl (fun _ hw => R.load rfl rfl Try.pl3 (cellz_le hw.2.1 (hat2 2 _ rfl))) ⟨hH5.sub _ m0, hH5.sub _ m1, trivial⟩ (WA.pure (i := 12) #[true, true, true, true, true, true, true, true, true, true, true, true, true] (blind_then (blind_blk (blind_then (blind_then (blind_blk (blind_then (blind_body _ _))))))) rfl (by kernel_rfl) rfl rfl rfl (fun _ => R.lss rfl rfl rfl) (WA.done (by kernel_rfl) (EX.then_n ?_))))
  refine CW.cond rfl (fun hc2 => ?_) (fun hc2 => ?_)
  replace hc2 := of_decide_eq_true hc2
  refine CW.seq (CW.region rfl (W.val rfl rfl rfl (R.assign rfl rfl) (W.nil (EX.then_n (CW.ret (EX.blk_ret (EX.then_ret ?_)))))))
  refine EX.then_ret (EX.blk_ret (EX.then_ret (EX.ret1 Try.results80 rfl ?_)))
  have hH6 := hH5.f1
  have hH7 := hH6.upto1
  refine ⟨?_, hH7⟩
  refine vbool ?_; rw [he, wholeB_drop hy1, show decide (y1.Shipped = y1.Qty) = false from decide_eq_false (by omega)]; rfl
  replace hc2 := of_decide_eq_false hc2
  refine CW.skip (EX.blk_n (EX.then_n (CW.region rfl (W.val rfl rfl rfl (R.addx rfl rfl rfl (ok_i64 (by omega))) (W.val rfl rfl rfl (R.move rfl rfl) (W.nil ?_))))))
  have hH8 := hH5.f1
  have hH9 := hH8.f1
  have hH10 := hH9.upto2
  refine EX.back4 _ _ rfl ?_ (by rw [hI1]; exact ⟨k + 1, rfl, rfl, hH10, by omega, he.trans (by rw [wholeB_drop hy1, show decide (y1.Shipped = y1.Qty) = true from decide_eq_true (by omega), Bool.true_and])⟩) ?_
  exact ⟨lk_int rfl (by first | rfl | omega), trivial⟩
  omega
  replace hc1 := of_decide_eq_false hc1
  refine CW.exit (EX.then_exit (EX.then_exit (EX.blk_here (EX.then_n (CW.seq (CW.region rfl (W.val rfl rfl rfl (R.assign rfl rfl) ?_)))))))
  refine W.nil (EX.then_n (CW.ret (EX.ret1 Try.results80 rfl ?_)))
  have hH11 := hH4.f1
  have hH12 := hH11.upto1
  refine ⟨?_, hH12⟩
  obtain rfl : k = s.Lines.length := by omega
  refine vbool ?_; rw [he, List.drop_length]; rfl

end Go.Proofs.Gw
namespace Go.Proofs.Gw
open Go Go.Gw Go.Proofs Go.RowKit
set_option maxRecDepth 100000 in
set_option maxHeartbeats 1000000 in
theorem r08_Valid (s : GState) (css : List Value) (w0 : World) (hs : kState.K (hp w0) s css) : Calls Try.prog 31 #[.agg css.toArray] w0 (Ret fun v w' => v = .bool (validS s) ∧ Has w0 w' [hp w0]) := by
  refine fnstart (N := 206) Try.func31 rfl Try.ntmps31 (Nat.le_of_ble_eq_true rfl) ?_
  have hH0 : Has w0 w0 [hp w0] := Has.refl w0
  have hK1 := hs
  obtain ⟨A1, c1, rfl, hb1, hb2, hb3, hb4, hb5, hb6, hb7, hb8, hb9, hb10, hb11, hb12, hb13, hb14, hb15, hb16, hb17, hb18, hb19, hb20, hb21, hl1, hr1⟩ := hK1
  have hlen1 := hr1.len
  refine CW.seq (CW.region rfl ?_)
  refine W.box rfl rfl rfl rfl rfl rfl hH0 (fun b1 zb1 w1 hH1 hB1 => ?_)
  refine W.val rfl rfl rfl (R.assign rfl rfl) (W.nil (EX.then_n (CW.seq (CW.seq (CW.region rfl (W.val rfl rfl rfl (R.fa0 0 rfl rfl Try.underlying28 rfl Try.sz3 rfl) (W.ldk rfl rfl rfl rfl rfl Try.pl3 hH1 m0 hB1 rfl ?_)))))))
  refine W.val rfl rfl rfl (R.lss rfl rfl rfl) (W.val rfl rfl rfl (R.move rfl rfl) ?_)
  refine W.split (d := 8) rfl (fun hc1 => ?_) (fun hc1 => ?_)
  replace hc1 := of_decide_eq_true hc1
  refine W.off rfl rfl rfl (W.off rfl rfl rfl (W.off rfl rfl rfl (W.val rfl rfl rfl (R.pick_t rfl rfl rfl) (W.val rfl rfl rfl (R.move rfl rfl) (W.off rfl rfl rfl (W.off rfl rfl rfl (W.off rfl rfl rfl ?_)))))))
  refine W.val rfl rfl rfl (R.pick_t rfl rfl rfl) (W.val rfl rfl rfl (R.move rfl rfl) (W.off rfl rfl rfl (W.off rfl rfl rfl (W.off rfl rfl rfl (W.val rfl rfl rfl (R.pick_t rfl rfl rfl) (W.val rfl rfl rfl (R.move rfl rfl) (W.off rfl rfl rfl ?_)))))))
  refine W.off rfl rfl rfl (W.off rfl rfl rfl (W.val rfl rfl rfl (R.pick_t rfl rfl rfl) (W.val rfl rfl rfl (R.move rfl rfl) (W.off rfl rfl rfl (W.off rfl rfl rfl (W.off rfl rfl rfl (W.val rfl rfl rfl (R.pick_t rfl rfl rfl) ?_)))))))
  refine W.val rfl rfl rfl (R.move rfl rfl) (W.off rfl rfl rfl (W.off rfl rfl rfl (W.off rfl rfl rfl (W.val rfl rfl rfl (R.pick_t rfl rfl rfl) (W.val rfl rfl rfl (R.move rfl rfl) (W.off rfl rfl rfl (W.off rfl rfl rfl ?_)))))))
  refine W.off rfl rfl rfl (W.val rfl rfl rfl (R.pick_t rfl rfl rfl) (W.nil (EX.then_n (CW.cond_t rfl (CW.seq (CW.region rfl (W.val rfl rfl rfl (R.assign rfl rfl) ?_)))))))
  refine W.nil (EX.then_n (CW.ret (EX.then_ret (EX.ret1 Try.results31 rfl ?_))))
  have hH2 := hH1.f1
  have hH3 := hH2.upto1
  refine ⟨?_, hH3⟩
  refine vbool ?_
  first
    | exact (validS_b (boundB_p (by unfold boundP; omega))).symm
    | exact (validS_b (boundB_n (by assumption))).symm
    | exact (validS_b (boundB_l (by assumption))).symm
    | exact (validS_d (by omega)).symm
    | exact (validS_p (fun h => hpq.1 rfl h.1)).symm
    | exact (validS_p (fun h => hp2.1 rfl h.2)).symm
    | (rw [validS_go hbT hdue hpr, standB_0 (by omega)]; first | rfl | exact (decide_eq_false (by omega)).symm | exact (decide_eq_false (fun h => by have h9 := due_nil h.1; omega)).symm | exact (decide_eq_false (fun h => absurd h.2.2.2.2.1 (by assumption))).symm | exact decide_eq_decide.2 ⟨fun h => ⟨by omega, by omega, by omega, by omega, by assumption, by omega⟩, fun h => by omega⟩)
    | (rw [validS_go hbT hdue hpr, standB_1 (by omega)]; first | rfl | simp_all)
    | (rw [validS_go hbT hdue hpr, standB_3 (by omega)]; first | rfl | simp_all)
    | (rw [validS_go hbT hdue hpr, standB_4 (by omega)]; first | rfl | simp_all)
    | (rw [validS_go hbT hdue hpr, standB_5 (by omega) (by omega) (by omega) (by omega)])
  replace hc1 := of_decide_eq_false hc1
  refine W.val rfl rfl rfl (R.fa0 0 rfl rfl Try.underlying28 rfl Try.sz3 rfl) (W.ldk rfl rfl rfl rfl rfl Try.pl3 hH1 m0 hB1 rfl (W.val rfl rfl rfl (R.gtr rfl rfl rfl) (W.val rfl rfl rfl (R.pick_f rfl rfl rfl) (W.val rfl rfl rfl (R.move rfl rfl) ?_))))
  refine W.split (d := 13) rfl (fun hc2 => ?_) (fun hc2 => ?_)
  replace hc2 := of_decide_eq_true hc2
  refine W.off rfl rfl rfl (W.off rfl rfl rfl (W.off rfl rfl rfl (W.val rfl rfl rfl (R.pick_t rfl rfl rfl) (W.val rfl rfl rfl (R.move rfl rfl) (W.off rfl rfl rfl (W.off rfl rfl rfl (W.off rfl rfl rfl ?_)))))))
  refine W.val rfl rfl rfl (R.pick_t rfl rfl rfl) (W.val rfl rfl rfl (R.move rfl rfl) (W.off rfl rfl rfl (W.off rfl rfl rfl (W.off rfl rfl rfl (W.val rfl rfl rfl (R.pick_t rfl rfl rfl) (W.val rfl rfl rfl (R.move rfl rfl) (W.off rfl rfl rfl ?_)))))))
  refine W.off rfl rfl rfl (W.off rfl rfl rfl (W.val rfl rfl rfl (R.pick_t rfl rfl rfl) (W.val rfl rfl rfl (R.move rfl rfl) (W.off rfl rfl rfl (W.off rfl rfl rfl (W.off rfl rfl rfl (W.val rfl rfl rfl (R.pick_t rfl rfl rfl) ?_)))))))
  refine W.val rfl rfl rfl (R.move rfl rfl) (W.off rfl rfl rfl (W.off rfl rfl rfl (W.off rfl rfl rfl (W.val rfl rfl rfl (R.pick_t rfl rfl rfl) (W.nil (EX.then_n (CW.cond_t rfl ?_)))))))
  refine CW.seq (CW.region rfl (W.val rfl rfl rfl (R.assign rfl rfl) (W.nil (EX.then_n (CW.ret (EX.then_ret (EX.ret1 Try.results31 rfl ?_)))))))
  have hH4 := hH1.f1
  have hH5 := hH4.upto1
  refine ⟨?_, hH5⟩
  refine vbool ?_
  first
    | exact (validS_b (boundB_p (by unfold boundP; omega))).symm
    | exact (validS_b (boundB_n (by assumption))).symm
    | exact (validS_b (boundB_l (by assumption))).symm
    | exact (validS_d (by omega)).symm
    | exact (validS_p (fun h => hpq.1 rfl h.1)).symm
    | exact (validS_p (fun h => hp2.1 rfl h.2)).symm
    | (rw [validS_go hbT hdue hpr, standB_0 (by omega)]; first | rfl | exact (decide_eq_false (by omega)).symm | exact (decide_eq_false (fun h => by have h9 := due_nil h.1; omega)).symm | exact (decide_eq_false (fun h => absurd h.2.2.2.2.1 (by assumption))).symm | exact decide_eq_decide.2 ⟨fun h => ⟨by omega, by omega, by omega, by omega, by assumption, by omega⟩, fun h => by omega⟩)
    | (rw [validS_go hbT hdue hpr, standB_1 (by omega)]; first | rfl | simp_all)
    | (rw [validS_go hbT hdue hpr, standB_3 (by omega)]; first | rfl | simp_all)
    | (rw [validS_go hbT hdue hpr, standB_4 (by omega)]; first | rfl | simp_all)
    | (rw [validS_go hbT hdue hpr, standB_5 (by omega) (by omega) (by omega) (by omega)])
  replace hc2 := of_decide_eq_false hc2
  refine W.val rfl rfl rfl (R.fa0 1 rfl rfl Try.underlying28 rfl Try.sz25 rfl) (W.ldk rfl rfl rfl rfl rfl Try.pl25 hH1 m0 hB1 rfl (W.val rfl rfl rfl (R.lss rfl rfl rfl) (W.val rfl rfl rfl (R.pick_f rfl rfl rfl) (W.val rfl rfl rfl (R.move rfl rfl) ?_))))
  refine W.split (d := 18) rfl (fun hc3 => ?_) (fun hc3 => ?_)
  replace hc3 := of_decide_eq_true hc3
  refine W.off rfl rfl rfl (W.off rfl rfl rfl (W.off rfl rfl rfl (W.val rfl rfl rfl (R.pick_t rfl rfl rfl) (W.val rfl rfl rfl (R.move rfl rfl) (W.off rfl rfl rfl (W.off rfl rfl rfl (W.off rfl rfl rfl ?_)))))))
  refine W.val rfl rfl rfl (R.pick_t rfl rfl rfl) (W.val rfl rfl rfl (R.move rfl rfl) (W.off rfl rfl rfl (W.off rfl rfl rfl (W.off rfl rfl rfl (W.val rfl rfl rfl (R.pick_t rfl rfl rfl) (W.val rfl rfl rfl (R.move rfl rfl) (W.off rfl rfl rfl ?_)))))))
  refine W.off rfl rfl rfl (W.off rfl rfl rfl (W.val rfl rfl rfl (R.pick_t rfl rfl rfl) (W.val rfl rfl rfl (R.move rfl rfl) (W.off rfl rfl rfl (W.off rfl rfl rfl (W.off rfl rfl rfl (W.val rfl rfl rfl (R.pick_t rfl rfl rfl) ?_)))))))
  refine W.nil (EX.then_n (CW.cond_t rfl (CW.seq (CW.region rfl (W.val rfl rfl rfl (R.assign rfl rfl) (W.nil (EX.then_n ?_)))))))
  refine CW.ret (EX.then_ret (EX.ret1 Try.results31 rfl ?_))
  have hH6 := hH1.f1
  have hH7 := hH6.upto1
  refine ⟨?_, hH7⟩
  refine vbool ?_
  first
    | exact (validS_b (boundB_p (by unfold boundP; omega))).symm
    | exact (validS_b (boundB_n (by assumption))).symm
    | exact (validS_b (boundB_l (by assumption))).symm
    | exact (validS_d (by omega)).symm
    | exact (validS_p (fun h => hpq.1 rfl h.1)).symm
    | exact (validS_p (fun h => hp2.1 rfl h.2)).symm
    | (rw [validS_go hbT hdue hpr, standB_0 (by omega)]; first | rfl | exact (decide_eq_false (by omega)).symm | exact (decide_eq_false (fun h => by have h9 := due_nil h.1; omega)).symm | exact (decide_eq_false (fun h => absurd h.2.2.2.2.1 (by assumption))).symm | exact decide_eq_decide.2 ⟨fun h => ⟨by omega, by omega, by omega, by omega, by assumption, by omega⟩, fun h => by omega⟩)
    | (rw [validS_go hbT hdue hpr, standB_1 (by omega)]; first | rfl | simp_all)
    | (rw [validS_go hbT hdue hpr, standB_3 (by omega)]; first | rfl | simp_all)
    | (rw [validS_go hbT hdue hpr, standB_4 (by omega)]; first | rfl | simp_all)
    | (rw [validS_go hbT hdue hpr, standB_5 (by omega) (by omega) (by omega) (by omega)])
  replace hc3 := of_decide_eq_false hc3
  refine W.val rfl rfl rfl (R.fa0 1 rfl rfl Try.underlying28 rfl Try.sz25 rfl) (W.ldk rfl rfl rfl rfl rfl Try.pl25 hH1 m0 hB1 rfl (W.val rfl rfl rfl (R.gtr rfl rfl rfl) (W.val rfl rfl rfl (R.pick_f rfl rfl rfl) (W.val rfl rfl rfl (R.move rfl rfl) ?_))))
  refine W.split (d := 23) rfl (fun hc4 => ?_) (fun hc4 => ?_)
  replace hc4 := of_decide_eq_true hc4
  refine W.off rfl rfl rfl (W.off rfl rfl rfl (W.off rfl rfl rfl (W.val rfl rfl rfl (R.pick_t rfl rfl rfl) (W.val rfl rfl rfl (R.move rfl rfl) (W.off rfl rfl rfl (W.off rfl rfl rfl (W.off rfl rfl rfl ?_)))))))
  refine W.val rfl rfl rfl (R.pick_t rfl rfl rfl) (W.val rfl rfl rfl (R.move rfl rfl) (W.off rfl rfl rfl (W.off rfl rfl rfl (W.off rfl rfl rfl (W.val rfl rfl rfl (R.pick_t rfl rfl rfl) (W.val rfl rfl rfl (R.move rfl rfl) (W.off rfl rfl rfl ?_)))))))
  refine W.off rfl rfl rfl (W.off rfl rfl rfl (W.val rfl rfl rfl (R.pick_t rfl rfl rfl) (W.nil (EX.then_n (CW.cond_t rfl (CW.seq (CW.region rfl ?_)))))))
  refine W.val rfl rfl rfl (R.assign rfl rfl) (W.nil (EX.then_n (CW.ret (EX.then_ret (EX.ret1 Try.results31 rfl ?_)))))
  have hH8 := hH1.f1
  have hH9 := hH8.upto1
  refine ⟨?_, hH9⟩
  refine vbool ?_
  first
    | exact (validS_b (boundB_p (by unfold boundP; omega))).symm
    | exact (validS_b (boundB_n (by assumption))).symm
    | exact (validS_b (boundB_l (by assumption))).symm
    | exact (validS_d (by omega)).symm
    | exact (validS_p (fun h => hpq.1 rfl h.1)).symm
    | exact (validS_p (fun h => hp2.1 rfl h.2)).symm
    | (rw [validS_go hbT hdue hpr, standB_0 (by omega)]; first | rfl | exact (decide_eq_false (by omega)).symm | exact (decide_eq_false (fun h => by have h9 := due_nil h.1; omega)).symm | exact (decide_eq_false (fun h => absurd h.2.2.2.2.1 (by assumption))).symm | exact decide_eq_decide.2 ⟨fun h => ⟨by omega, by omega, by omega, by omega, by assumption, by omega⟩, fun h => by omega⟩)
    | (rw [validS_go hbT hdue hpr, standB_1 (by omega)]; first | rfl | simp_all)
    | (rw [validS_go hbT hdue hpr, standB_3 (by omega)]; first | rfl | simp_all)
    | (rw [validS_go hbT hdue hpr, standB_4 (by omega)]; first | rfl | simp_all)
    | (rw [validS_go hbT hdue hpr, standB_5 (by omega) (by omega) (by omega) (by omega)])
  replace hc4 := of_decide_eq_false hc4
  refine W.val rfl rfl rfl (R.fa0 3 rfl rfl Try.underlying28 rfl Try.sz3 rfl) (W.ldk rfl rfl rfl rfl rfl Try.pl3 hH1 m0 hB1 rfl (W.val rfl rfl rfl (R.lss rfl rfl rfl) (W.val rfl rfl rfl (R.pick_f rfl rfl rfl) (W.val rfl rfl rfl (R.move rfl rfl) ?_))))
  refine W.split (d := 28) rfl (fun hc5 => ?_) (fun hc5 => ?_)
  replace hc5 := of_decide_eq_true hc5
  refine W.off rfl rfl rfl (W.off rfl rfl rfl (W.off rfl rfl rfl (W.val rfl rfl rfl (R.pick_t rfl rfl rfl) (W.val rfl rfl rfl (R.move rfl rfl) (W.off rfl rfl rfl (W.off rfl rfl rfl (W.off rfl rfl rfl ?_)))))))
  refine W.val rfl rfl rfl (R.pick_t rfl rfl rfl) (W.val rfl rfl rfl (R.move rfl rfl) (W.off rfl rfl rfl (W.off rfl rfl rfl (W.off rfl rfl rfl (W.val rfl rfl rfl (R.pick_t rfl rfl rfl) (W.nil (EX.then_n ?_)))))))
  refine CW.cond_t rfl (CW.seq (CW.region rfl (W.val rfl rfl rfl (R.assign rfl rfl) (W.nil (EX.then_n (CW.ret (EX.then_ret ?_)))))))
  refine EX.ret1 Try.results31 rfl ?_
  have hH10 := hH1.f1
  have hH11 := hH10.upto1
  refine ⟨?_, hH11⟩
  refine vbool ?_
  first
    | exact (validS_b (boundB_p (by unfold boundP; omega))).symm
    | exact (validS_b (boundB_n (by assumption))).symm
    | exact (validS_b (boundB_l (by assumption))).symm
    | exact (validS_d (by omega)).symm
    | exact (validS_p (fun h => hpq.1 rfl h.1)).symm
    | exact (validS_p (fun h => hp2.1 rfl h.2)).symm
    | (rw [validS_go hbT hdue hpr, standB_0 (by omega)]; first | rfl | exact (decide_eq_false (by omega)).symm | exact (decide_eq_false (fun h => by have h9 := due_nil h.1; omega)).symm | exact (decide_eq_false (fun h => absurd h.2.2.2.2.1 (by assumption))).symm | exact decide_eq_decide.2 ⟨fun h => ⟨by omega, by omega, by omega, by omega, by assumption, by omega⟩, fun h => by omega⟩)
    | (rw [validS_go hbT hdue hpr, standB_1 (by omega)]; first | rfl | simp_all)
    | (rw [validS_go hbT hdue hpr, standB_3 (by omega)]; first | rfl | simp_all)
    | (rw [validS_go hbT hdue hpr, standB_4 (by omega)]; first | rfl | simp_all)
    | (rw [validS_go hbT hdue hpr, standB_5 (by omega) (by omega) (by omega) (by omega)])
  replace hc5 := of_decide_eq_false hc5
  refine W.val rfl rfl rfl (R.fa0 3 rfl rfl Try.underlying28 rfl Try.sz3 rfl) (W.ldk rfl rfl rfl rfl rfl Try.pl3 hH1 m0 hB1 rfl (W.val rfl rfl rfl (R.gtr rfl rfl rfl) (W.val rfl rfl rfl (R.pick_f rfl rfl rfl) (W.val rfl rfl rfl (R.move rfl rfl) ?_))))
  refine W.split (d := 33) rfl (fun hc6 => ?_) (fun hc6 => ?_)
  replace hc6 := of_decide_eq_true hc6
  refine W.off rfl rfl rfl (W.off rfl rfl rfl (W.off rfl rfl rfl (W.val rfl rfl rfl (R.pick_t rfl rfl rfl) (W.val rfl rfl rfl (R.move rfl rfl) (W.off rfl rfl rfl (W.off rfl rfl rfl (W.off rfl rfl rfl ?_)))))))
  refine W.val rfl rfl rfl (R.pick_t rfl rfl rfl) (W.nil (EX.then_n (CW.cond_t rfl (CW.seq (CW.region rfl (W.val rfl rfl rfl (R.assign rfl rfl) (W.nil ?_)))))))
  refine EX.then_n (CW.ret (EX.then_ret (EX.ret1 Try.results31 rfl ?_)))
  have hH12 := hH1.f1
  have hH13 := hH12.upto1
  refine ⟨?_, hH13⟩
  refine vbool ?_
  first
    | exact (validS_b (boundB_p (by unfold boundP; omega))).symm
    | exact (validS_b (boundB_n (by assumption))).symm
    | exact (validS_b (boundB_l (by assumption))).symm
    | exact (validS_d (by omega)).symm
    | exact (validS_p (fun h => hpq.1 rfl h.1)).symm
    | exact (validS_p (fun h => hp2.1 rfl h.2)).symm
    | (rw [validS_go hbT hdue hpr, standB_0 (by omega)]; first | rfl | exact (decide_eq_false (by omega)).symm | exact (decide_eq_false (fun h => by have h9 := due_nil h.1; omega)).symm | exact (decide_eq_false (fun h => absurd h.2.2.2.2.1 (by assumption))).symm | exact decide_eq_decide.2 ⟨fun h => ⟨by omega, by omega, by omega, by omega, by assumption, by omega⟩, fun h => by omega⟩)
    | (rw [validS_go hbT hdue hpr, standB_1 (by omega)]; first | rfl | simp_all)
    | (rw [validS_go hbT hdue hpr, standB_3 (by omega)]; first | rfl | simp_all)
    | (rw [validS_go hbT hdue hpr, standB_4 (by omega)]; first | rfl | simp_all)
    | (rw [validS_go hbT hdue hpr, standB_5 (by omega) (by omega) (by omega) (by omega)])
  replace hc6 := of_decide_eq_false hc6
  refine W.val rfl rfl rfl (R.fa0 4 rfl rfl Try.underlying28 rfl Try.sz3 rfl) (W.ldk rfl rfl rfl rfl rfl Try.pl3 hH1 m0 hB1 rfl (W.val rfl rfl rfl (R.lss rfl rfl rfl) (W.val rfl rfl rfl (R.pick_f rfl rfl rfl) (W.val rfl rfl rfl (R.move rfl rfl) ?_))))
  refine W.split (d := 38) rfl (fun hc7 => ?_) (fun hc7 => ?_)
  replace hc7 := of_decide_eq_true hc7
  refine W.off rfl rfl rfl (W.off rfl rfl rfl (W.off rfl rfl rfl (W.val rfl rfl rfl (R.pick_t rfl rfl rfl) (W.nil (EX.then_n (CW.cond_t rfl (CW.seq ?_)))))))
  refine CW.region rfl (W.val rfl rfl rfl (R.assign rfl rfl) (W.nil (EX.then_n (CW.ret (EX.then_ret (EX.ret1 Try.results31 rfl ?_))))))
  have hH14 := hH1.f1
  have hH15 := hH14.upto1
  refine ⟨?_, hH15⟩
  refine vbool ?_
  first
    | exact (validS_b (boundB_p (by unfold boundP; omega))).symm
    | exact (validS_b (boundB_n (by assumption))).symm
    | exact (validS_b (boundB_l (by assumption))).symm
    | exact (validS_d (by omega)).symm
    | exact (validS_p (fun h => hpq.1 rfl h.1)).symm
    | exact (validS_p (fun h => hp2.1 rfl h.2)).symm
    | (rw [validS_go hbT hdue hpr, standB_0 (by omega)]; first | rfl | exact (decide_eq_false (by omega)).symm | exact (decide_eq_false (fun h => by have h9 := due_nil h.1; omega)).symm | exact (decide_eq_false (fun h => absurd h.2.2.2.2.1 (by assumption))).symm | exact decide_eq_decide.2 ⟨fun h => ⟨by omega, by omega, by omega, by omega, by assumption, by omega⟩, fun h => by omega⟩)
    | (rw [validS_go hbT hdue hpr, standB_1 (by omega)]; first | rfl | simp_all)
    | (rw [validS_go hbT hdue hpr, standB_3 (by omega)]; first | rfl | simp_all)
    | (rw [validS_go hbT hdue hpr, standB_4 (by omega)]; first | rfl | simp_all)
    | (rw [validS_go hbT hdue hpr, standB_5 (by omega) (by omega) (by omega) (by omega)])
  replace hc7 := of_decide_eq_false hc7
  refine W.val rfl rfl rfl (R.fa0 4 rfl rfl Try.underlying28 rfl Try.sz3 rfl) (W.ldk rfl rfl rfl rfl rfl Try.pl3 hH1 m0 hB1 rfl (W.val rfl rfl rfl (R.gtr rfl rfl rfl) (W.val rfl rfl rfl (R.pick_f rfl rfl rfl) (W.nil (EX.then_n ?_)))))
  refine CW.cond rfl (fun hc8 => ?_) (fun hc8 => ?_)
  replace hc8 := of_decide_eq_true hc8
  refine CW.seq (CW.region rfl (W.val rfl rfl rfl (R.assign rfl rfl) (W.nil (EX.then_n (CW.ret (EX.then_ret (EX.ret1 Try.results31 rfl ?_)))))))
  have hH16 := hH1.f1
  have hH17 := hH16.upto1
  refine ⟨?_, hH17⟩
  refine vbool ?_
  first
    | exact (validS_b (boundB_p (by unfold boundP; omega))).symm
    | exact (validS_b (boundB_n (by assumption))).symm
    | exact (validS_b (boundB_l (by assumption))).symm
    | exact (validS_d (by omega)).symm
    | exact (validS_p (fun h => hpq.1 rfl h.1)).symm
    | exact (validS_p (fun h => hp2.1 rfl h.2)).symm
    | (rw [validS_go hbT hdue hpr, standB_0 (by omega)]; first | rfl | exact (decide_eq_false (by omega)).symm | exact (decide_eq_false (fun h => by have h9 := due_nil h.1; omega)).symm | exact (decide_eq_false (fun h => absurd h.2.2.2.2.1 (by assumption))).symm | exact decide_eq_decide.2 ⟨fun h => ⟨by omega, by omega, by omega, by omega, by assumption, by omega⟩, fun h => by omega⟩)
    | (rw [validS_go hbT hdue hpr, standB_1 (by omega)]; first | rfl | simp_all)
    | (rw [validS_go hbT hdue hpr, standB_3 (by omega)]; first | rfl | simp_all)
    | (rw [validS_go hbT hdue hpr, standB_4 (by omega)]; first | rfl | simp_all)
    | (rw [validS_go hbT hdue hpr, standB_5 (by omega) (by omega) (by omega) (by omega)])
  replace hc8 := of_decide_eq_false hc8
  refine CW.skip (EX.then_n (CW.seq (CW.seq (CW.region rfl (W.val rfl rfl rfl (R.fa0 8 rfl rfl Try.underlying28 rfl Try.sz3 rfl) (W.ldk rfl rfl rfl rfl rfl Try.pl3 hH1 m0 hB1 rfl (W.val rfl rfl rfl (R.lss rfl rfl rfl) ?_)))))))
  refine W.val rfl rfl rfl (R.move rfl rfl) ?_
  refine W.split (d := 46) rfl (fun hc9 => ?_) (fun hc9 => ?_)
  replace hc9 := of_decide_eq_true hc9
  refine W.off rfl rfl rfl (W.off rfl rfl rfl (W.off rfl rfl rfl (W.val rfl rfl rfl (R.pick_t rfl rfl rfl) (W.val rfl rfl rfl (R.move rfl rfl) (W.off rfl rfl rfl (W.off rfl rfl rfl (W.off rfl rfl rfl ?_)))))))
  refine W.val rfl rfl rfl (R.pick_t rfl rfl rfl) (W.val rfl rfl rfl (R.move rfl rfl) (W.off rfl rfl rfl (W.off rfl rfl rfl (W.off rfl rfl rfl (W.off rfl rfl rfl (W.off rfl rfl rfl (W.val rfl rfl rfl (R.pick_t rfl rfl rfl) ?_)))))))
  refine W.val rfl rfl rfl (R.move rfl rfl) (W.off rfl rfl rfl (W.off rfl rfl rfl (W.off rfl rfl rfl (W.val rfl rfl rfl (R.pick_t rfl rfl rfl) (W.val rfl rfl rfl (R.move rfl rfl) (W.off rfl rfl rfl (W.off rfl rfl rfl ?_)))))))
  refine W.off rfl rfl rfl (W.val rfl rfl rfl (R.pick_t rfl rfl rfl) (W.nil (EX.then_n (CW.cond_t rfl (CW.seq (CW.region rfl (W.val rfl rfl rfl (R.assign rfl rfl) ?_)))))))
  refine W.nil (EX.then_n (CW.ret (EX.then_ret (EX.ret1 Try.results31 rfl ?_))))
  have hH18 := hH1.f1
  have hH19 := hH18.upto1
  refine ⟨?_, hH19⟩
  refine vbool ?_
  first
    | exact (validS_b (boundB_p (by unfold boundP; omega))).symm
    | exact (validS_b (boundB_n (by assumption))).symm
    | exact (validS_b (boundB_l (by assumption))).symm
    | exact (validS_d (by omega)).symm
    | exact (validS_p (fun h => hpq.1 rfl h.1)).symm
    | exact (validS_p (fun h => hp2.1 rfl h.2)).symm
    | (rw [validS_go hbT hdue hpr, standB_0 (by omega)]; first | rfl | exact (decide_eq_false (by omega)).symm | exact (decide_eq_false (fun h => by have h9 := due_nil h.1; omega)).symm | exact (decide_eq_false (fun h => absurd h.2.2.2.2.1 (by assumption))).symm | exact decide_eq_decide.2 ⟨fun h => ⟨by omega, by omega, by omega, by omega, by assumption, by omega⟩, fun h => by omega⟩)
    | (rw [validS_go hbT hdue hpr, standB_1 (by omega)]; first | rfl | simp_all)
    | (rw [validS_go hbT hdue hpr, standB_3 (by omega)]; first | rfl | simp_all)
    | (rw [validS_go hbT hdue hpr, standB_4 (by omega)]; first | rfl | simp_all)
    | (rw [validS_go hbT hdue hpr, standB_5 (by omega) (by omega) (by omega) (by omega)])
  replace hc9 := of_decide_eq_false hc9
  refine W.val rfl rfl rfl (R.fa0 8 rfl rfl Try.underlying28 rfl Try.sz3 rfl) (W.ldk rfl rfl rfl rfl rfl Try.pl3 hH1 m0 hB1 rfl (W.val rfl rfl rfl (R.gtr rfl rfl rfl) (W.val rfl rfl rfl (R.pick_f rfl rfl rfl) (W.val rfl rfl rfl (R.move rfl rfl) ?_))))
  refine W.split (d := 51) rfl (fun hc10 => ?_) (fun hc10 => ?_)
  replace hc10 := of_decide_eq_true hc10
  refine W.off rfl rfl rfl (W.off rfl rfl rfl (W.off rfl rfl rfl (W.val rfl rfl rfl (R.pick_t rfl rfl rfl) (W.val rfl rfl rfl (R.move rfl rfl) (W.off rfl rfl rfl (W.off rfl rfl rfl (W.off rfl rfl rfl ?_)))))))
  refine W.off rfl rfl rfl (W.off rfl rfl rfl (W.val rfl rfl rfl (R.pick_t rfl rfl rfl) (W.val rfl rfl rfl (R.move rfl rfl) (W.off rfl rfl rfl (W.off rfl rfl rfl (W.off rfl rfl rfl (W.val rfl rfl rfl (R.pick_t rfl rfl rfl) ?_)))))))
  refine W.val rfl rfl rfl (R.move rfl rfl) (W.off rfl rfl rfl (W.off rfl rfl rfl (W.off rfl rfl rfl (W.val rfl rfl rfl (R.pick_t rfl rfl rfl) (W.nil (EX.then_n (CW.cond_t rfl ?_)))))))
  refine CW.seq (CW.region rfl (W.val rfl rfl rfl (R.assign rfl rfl) (W.nil (EX.then_n (CW.ret (EX.then_ret (EX.ret1 Try.results31 rfl ?_)))))))
  have hH20 := hH1.f1
  have hH21 := hH20.upto1
  refine ⟨?_, hH21⟩
  refine vbool ?_
  first
    | exact (validS_b (boundB_p (by unfold boundP; omega))).symm
    | exact (validS_b (boundB_n (by assumption))).symm
    | exact (validS_b (boundB_l (by assumption))).symm
    | exact (validS_d (by omega)).symm
    | exact (validS_p (fun h => hpq.1 rfl h.1)).symm
    | exact (validS_p (fun h => hp2.1 rfl h.2)).symm
    | (rw [validS_go hbT hdue hpr, standB_0 (by omega)]; first | rfl | exact (decide_eq_false (by omega)).symm | exact (decide_eq_false (fun h => by have h9 := due_nil h.1; omega)).symm | exact (decide_eq_false (fun h => absurd h.2.2.2.2.1 (by assumption))).symm | exact decide_eq_decide.2 ⟨fun h => ⟨by omega, by omega, by omega, by omega, by assumption, by omega⟩, fun h => by omega⟩)
    | (rw [validS_go hbT hdue hpr, standB_1 (by omega)]; first | rfl | simp_all)
    | (rw [validS_go hbT hdue hpr, standB_3 (by omega)]; first | rfl | simp_all)
    | (rw [validS_go hbT hdue hpr, standB_4 (by omega)]; first | rfl | simp_all)
    | (rw [validS_go hbT hdue hpr, standB_5 (by omega) (by omega) (by omega) (by omega)])
  replace hc10 := of_decide_eq_false hc10
  refine W.val rfl rfl rfl (R.fa0 9 rfl rfl Try.underlying28 rfl Try.sz3 rfl) (W.ldk rfl rfl rfl rfl rfl Try.pl3 hH1 m0 hB1 rfl (W.val rfl rfl rfl (R.lss rfl rfl rfl) (W.val rfl rfl rfl (R.pick_f rfl rfl rfl) (W.val rfl rfl rfl (R.move rfl rfl) ?_))))
  refine W.split (d := 56) rfl (fun hc11 => ?_) (fun hc11 => ?_)
  replace hc11 := of_decide_eq_true hc11
  refine W.off rfl rfl rfl (W.off rfl rfl rfl (W.off rfl rfl rfl (W.off rfl rfl rfl (W.off rfl rfl rfl (W.val rfl rfl rfl (R.pick_t rfl rfl rfl) (W.val rfl rfl rfl (R.move rfl rfl) (W.off rfl rfl rfl ?_)))))))
  refine W.off rfl rfl rfl (W.off rfl rfl rfl (W.val rfl rfl rfl (R.pick_t rfl rfl rfl) (W.val rfl rfl rfl (R.move rfl rfl) (W.off rfl rfl rfl (W.off rfl rfl rfl (W.off rfl rfl rfl (W.val rfl rfl rfl (R.pick_t rfl rfl rfl) ?_)))))))
  refine W.nil (EX.then_n (CW.cond_t rfl (CW.seq (CW.region rfl (W.val rfl rfl rfl (R.assign rfl rfl) (W.nil (EX.then_n ?_)))))))
  refine CW.ret (EX.then_ret (EX.ret1 Try.results31 rfl ?_))
  have hH22 := hH1.f1
  have hH23 := hH22.upto1
  refine ⟨?_, hH23⟩
  refine vbool ?_
  first
    | exact (validS_b (boundB_p (by unfold boundP; omega))).symm
    | exact (validS_b (boundB_n (by assumption))).symm
    | exact (validS_b (boundB_l (by assumption))).symm
    | exact (validS_d (by omega)).symm
    | exact (validS_p (fun h => hpq.1 rfl h.1)).symm
    | exact (validS_p (fun h => hp2.1 rfl h.2)).symm
    | (rw [validS_go hbT hdue hpr, standB_0 (by omega)]; first | rfl | exact (decide_eq_false (by omega)).symm | exact (decide_eq_false (fun h => by have h9 := due_nil h.1; omega)).symm | exact (decide_eq_false (fun h => absurd h.2.2.2.2.1 (by assumption))).symm | exact decide_eq_decide.2 ⟨fun h => ⟨by omega, by omega, by omega, by omega, by assumption, by omega⟩, fun h => by omega⟩)
    | (rw [validS_go hbT hdue hpr, standB_1 (by omega)]; first | rfl | simp_all)
    | (rw [validS_go hbT hdue hpr, standB_3 (by omega)]; first | rfl | simp_all)
    | (rw [validS_go hbT hdue hpr, standB_4 (by omega)]; first | rfl | simp_all)
    | (rw [validS_go hbT hdue hpr, standB_5 (by omega) (by omega) (by omega) (by omega)])
  replace hc11 := of_decide_eq_false hc11
  refine W.val rfl rfl rfl (R.fa0 9 rfl rfl Try.underlying28 rfl Try.sz3 rfl) (W.ldk rfl rfl rfl rfl rfl Try.pl3 hH1 m0 hB1 rfl (W.val rfl rfl rfl (R.fa0 8 rfl rfl Try.underlying28 rfl Try.sz3 rfl) (W.ldk rfl rfl rfl rfl rfl Try.pl3 hH1 m0 hB1 rfl (W.val rfl rfl rfl (R.gtr rfl rfl rfl) (W.val rfl rfl rfl (R.pick_f rfl rfl rfl) (W.val rfl rfl rfl (R.move rfl rfl) ?_))))))
  refine W.split (d := 63) rfl (fun hc12 => ?_) (fun hc12 => ?_)
  replace hc12 := of_decide_eq_true hc12
  refine W.off rfl rfl rfl (W.off rfl rfl rfl (W.off rfl rfl rfl (W.val rfl rfl rfl (R.pick_t rfl rfl rfl) (W.val rfl rfl rfl (R.move rfl rfl) (W.off rfl rfl rfl (W.off rfl rfl rfl (W.off rfl rfl rfl ?_)))))))
  refine W.val rfl rfl rfl (R.pick_t rfl rfl rfl) (W.nil (EX.then_n (CW.cond_t rfl (CW.seq (CW.region rfl (W.val rfl rfl rfl (R.assign rfl rfl) (W.nil ?_)))))))
  refine EX.then_n (CW.ret (EX.then_ret (EX.ret1 Try.results31 rfl ?_)))
  have hH24 := hH1.f1
  have hH25 := hH24.upto1
  refine ⟨?_, hH25⟩
  refine vbool ?_
  first
    | exact (validS_b (boundB_p (by unfold boundP; omega))).symm
    | exact (validS_b (boundB_n (by assumption))).symm
    | exact (validS_b (boundB_l (by assumption))).symm
    | exact (validS_d (by omega)).symm
    | exact (validS_p (fun h => hpq.1 rfl h.1)).symm
    | exact (validS_p (fun h => hp2.1 rfl h.2)).symm
    | (rw [validS_go hbT hdue hpr, standB_0 (by omega)]; first | rfl | exact (decide_eq_false (by omega)).symm | exact (decide_eq_false (fun h => by have h9 := due_nil h.1; omega)).symm | exact (decide_eq_false (fun h => absurd h.2.2.2.2.1 (by assumption))).symm | exact decide_eq_decide.2 ⟨fun h => ⟨by omega, by omega, by omega, by omega, by assumption, by omega⟩, fun h => by omega⟩)
    | (rw [validS_go hbT hdue hpr, standB_1 (by omega)]; first | rfl | simp_all)
    | (rw [validS_go hbT hdue hpr, standB_3 (by omega)]; first | rfl | simp_all)
    | (rw [validS_go hbT hdue hpr, standB_4 (by omega)]; first | rfl | simp_all)
    | (rw [validS_go hbT hdue hpr, standB_5 (by omega) (by omega) (by omega) (by omega)])
  replace hc12 := of_decide_eq_false hc12
  refine W.val rfl rfl rfl (R.fa0 10 rfl rfl Try.underlying28 rfl Try.sz3 rfl) (W.ldk rfl rfl rfl rfl rfl Try.pl3 hH1 m0 hB1 rfl (W.val rfl rfl rfl (R.lss rfl rfl rfl) (W.val rfl rfl rfl (R.pick_f rfl rfl rfl) (W.val rfl rfl rfl (R.move rfl rfl) ?_))))
  refine W.split (d := 68) rfl (fun hc13 => ?_) (fun hc13 => ?_)
  replace hc13 := of_decide_eq_true hc13
  refine W.off rfl rfl rfl (W.off rfl rfl rfl (W.off rfl rfl rfl (W.val rfl rfl rfl (R.pick_t rfl rfl rfl) (W.nil (EX.then_n (CW.cond_t rfl (CW.seq ?_)))))))
  refine CW.region rfl (W.val rfl rfl rfl (R.assign rfl rfl) (W.nil (EX.then_n (CW.ret (EX.then_ret (EX.ret1 Try.results31 rfl ?_))))))
  have hH26 := hH1.f1
  have hH27 := hH26.upto1
  refine ⟨?_, hH27⟩
  refine vbool ?_
  first
    | exact (validS_b (boundB_p (by unfold boundP; omega))).symm
    | exact (validS_b (boundB_n (by assumption))).symm
    | exact (validS_b (boundB_l (by assumption))).symm
    | exact (validS_d (by omega)).symm
    | exact (validS_p (fun h => hpq.1 rfl h.1)).symm
    | exact (validS_p (fun h => hp2.1 rfl h.2)).symm
    | (rw [validS_go hbT hdue hpr, standB_0 (by omega)]; first | rfl | exact (decide_eq_false (by omega)).symm | exact (decide_eq_false (fun h => by have h9 := due_nil h.1; omega)).symm | exact (decide_eq_false (fun h => absurd h.2.2.2.2.1 (by assumption))).symm | exact decide_eq_decide.2 ⟨fun h => ⟨by omega, by omega, by omega, by omega, by assumption, by omega⟩, fun h => by omega⟩)
    | (rw [validS_go hbT hdue hpr, standB_1 (by omega)]; first | rfl | simp_all)
    | (rw [validS_go hbT hdue hpr, standB_3 (by omega)]; first | rfl | simp_all)
    | (rw [validS_go hbT hdue hpr, standB_4 (by omega)]; first | rfl | simp_all)
    | (rw [validS_go hbT hdue hpr, standB_5 (by omega) (by omega) (by omega) (by omega)])
  replace hc13 := of_decide_eq_false hc13
  refine W.val rfl rfl rfl (R.fa0 10 rfl rfl Try.underlying28 rfl Try.sz3 rfl) (W.ldk rfl rfl rfl rfl rfl Try.pl3 hH1 m0 hB1 rfl (W.val rfl rfl rfl (R.gtr rfl rfl rfl) (W.val rfl rfl rfl (R.pick_f rfl rfl rfl) (W.nil (EX.then_n ?_)))))
  refine CW.cond rfl (fun hc14 => ?_) (fun hc14 => ?_)
  replace hc14 := of_decide_eq_true hc14
  refine CW.seq (CW.region rfl (W.val rfl rfl rfl (R.assign rfl rfl) (W.nil (EX.then_n (CW.ret (EX.then_ret (EX.ret1 Try.results31 rfl ?_)))))))
  have hH28 := hH1.f1
  have hH29 := hH28.upto1
  refine ⟨?_, hH29⟩
  refine vbool ?_
  first
    | exact (validS_b (boundB_p (by unfold boundP; omega))).symm
    | exact (validS_b (boundB_n (by assumption))).symm
    | exact (validS_b (boundB_l (by assumption))).symm
    | exact (validS_d (by omega)).symm
    | exact (validS_p (fun h => hpq.1 rfl h.1)).symm
    | exact (validS_p (fun h => hp2.1 rfl h.2)).symm
    | (rw [validS_go hbT hdue hpr, standB_0 (by omega)]; first | rfl | exact (decide_eq_false (by omega)).symm | exact (decide_eq_false (fun h => by have h9 := due_nil h.1; omega)).symm | exact (decide_eq_false (fun h => absurd h.2.2.2.2.1 (by assumption))).symm | exact decide_eq_decide.2 ⟨fun h => ⟨by omega, by omega, by omega, by omega, by assumption, by omega⟩, fun h => by omega⟩)
    | (rw [validS_go hbT hdue hpr, standB_1 (by omega)]; first | rfl | simp_all)
    | (rw [validS_go hbT hdue hpr, standB_3 (by omega)]; first | rfl | simp_all)
    | (rw [validS_go hbT hdue hpr, standB_4 (by omega)]; first | rfl | simp_all)
    | (rw [validS_go hbT hdue hpr, standB_5 (by omega) (by omega) (by omega) (by omega)])
  replace hc14 := of_decide_eq_false hc14
  refine CW.skip (EX.then_n (CW.seq (CW.seq (CW.region rfl (W.val rfl rfl rfl (R.fa0 11 rfl rfl Try.underlying28 rfl Try.sz9 rfl) (W.ldk rfl rfl rfl rfl rfl Try.pl9 hH1 m0 hB1 rfl (W.val rfl rfl rfl (R.build rfl rfl Try.zr117 rfl (by rw [Try.underlying117]; rfl) Try.plc117 rfl) ?_)))))))
  refine W.re (d := 75) (v := .agg ([_, _, _, _, _, _, _, _, _, _] : List Value).toArray) rfl rfl ?_
  refine W.call rfl rfl rfl rfl rfl Try.func75 Try.nm75 Try.bd75 (r06_Check _ (⟨_, _, _, _, _, _, _, _, _, _⟩ : GEvent) _ w1 ⟨rfl, (by first | omega | decide | (dsimp only [GField.none]; omega)), (by first | omega | decide | (dsimp only [GField.none]; omega)), (by first | omega | decide | (dsimp only [GField.none]; omega)), (by first | omega | decide | (dsimp only [GField.none]; omega)), (by first | omega | decide | (dsimp only [GField.none]; omega)), (by first | omega | decide | (dsimp only [GField.none]; omega)), (by first | omega | decide | (dsimp only [GField.none]; omega)), (by first | omega | decide | (dsimp only [GField.none]; omega)), (by first | omega | decide | (dsimp only [GField.none]; omega)), (by first | omega | decide | (dsimp only [GField.none]; omega)), (by first | omega | decide | (dsimp only [GField.none]; omega)), (by first | omega | decide | (dsimp only [GField.none]; omega)), (by first | omega | decide | (dsimp only [GField.none]; omega)), (by first | omega | decide | (dsimp only [GField.none]; omega)), hb21, (by first | omega | decide | (dsimp only [GField.none]; omega)), (by first | omega | decide | (dsimp only [GField.none]; omega)), (Nat.le_of_ble_eq_true rfl)⟩ (.inl rfl)) ?_
  rintro v1 w2 ⟨rfl, hH30⟩
  have hH31 := hH1.c0 hH30
  refine W.val rfl rfl rfl (R.neq rfl rfl rfl) (W.val rfl rfl rfl (R.move rfl rfl) ?_)
  refine W.split (d := 78) rfl (fun hc15 => ?_) (fun hc15 => ?_)
  replace hc15 := of_ndec_t hc15
  have hnmf : nameB s.Who = false := by
    cases hq : nameB s.Who with
    | false => rfl
    | true => exact absurd ((placeE_ok (v := 4) (.inl rfl)).2 hq) hc15
  refine W.off rfl rfl rfl (W.off rfl rfl rfl (W.off rfl rfl rfl (W.val rfl rfl rfl (R.pick_t rfl rfl rfl) (W.nil (EX.then_n (CW.cond_t rfl (CW.seq ?_)))))))
  refine CW.region rfl (W.val rfl rfl rfl (R.assign rfl rfl) (W.nil (EX.then_n (CW.ret (EX.then_ret (EX.ret1 Try.results31 rfl ?_))))))
  have hH32 := hH31.f1
  have hH33 := hH32.upto1
  refine ⟨?_, hH33⟩
  refine vbool ?_
  first
    | exact (validS_b (boundB_p (by unfold boundP; omega))).symm
    | exact (validS_b (boundB_n (by assumption))).symm
    | exact (validS_b (boundB_l (by assumption))).symm
    | exact (validS_d (by omega)).symm
    | exact (validS_p (fun h => hpq.1 rfl h.1)).symm
    | exact (validS_p (fun h => hp2.1 rfl h.2)).symm
    | (rw [validS_go hbT hdue hpr, standB_0 (by omega)]; first | rfl | exact (decide_eq_false (by omega)).symm | exact (decide_eq_false (fun h => by have h9 := due_nil h.1; omega)).symm | exact (decide_eq_false (fun h => absurd h.2.2.2.2.1 (by assumption))).symm | exact decide_eq_decide.2 ⟨fun h => ⟨by omega, by omega, by omega, by omega, by assumption, by omega⟩, fun h => by omega⟩)
    | (rw [validS_go hbT hdue hpr, standB_1 (by omega)]; first | rfl | simp_all)
    | (rw [validS_go hbT hdue hpr, standB_3 (by omega)]; first | rfl | simp_all)
    | (rw [validS_go hbT hdue hpr, standB_4 (by omega)]; first | rfl | simp_all)
    | (rw [validS_go hbT hdue hpr, standB_5 (by omega) (by omega) (by omega) (by omega)])
  replace hc15 := of_ndec_f hc15
  have hnm : nameB s.Who = true := (placeE_ok (v := 4) (.inl rfl)).1 hc15
  refine W.lg0 rfl rfl rfl rfl rfl Try.pl28 (by rw [Try.underlying28]; rfl) (by exact Try.sz28) hH31 m0 hB1 (W.call rfl rfl rfl rfl rfl Try.func76 Try.nm76 Try.bd76 (r08_Lines s _ w2 (hs.mono (hH31.le m1))) ?_)
  rintro v2 w3 ⟨rfl, hH34⟩
  have hH35 := hH31.c0 hH34
  refine W.val rfl rfl rfl (R.not rfl rfl) (W.val rfl rfl rfl (R.pick_f rfl rfl rfl) (W.nil (EX.then_n ?_)))
  refine CW.cond rfl (fun hc16 => ?_) (fun hc16 => ?_)
  replace hc16 := of_not_t hc16
  try subst hc16
  refine CW.seq (CW.region rfl (W.val rfl rfl rfl (R.assign rfl rfl) (W.nil (EX.then_n (CW.ret (EX.then_ret (EX.ret1 Try.results31 rfl ?_)))))))
  have hH36 := hH35.f1
  have hH37 := hH36.upto1
  refine ⟨?_, hH37⟩
  refine vbool ?_
  first
    | exact (validS_b (boundB_p (by unfold boundP; omega))).symm
    | exact (validS_b (boundB_n (by assumption))).symm
    | exact (validS_b (boundB_l (by assumption))).symm
    | exact (validS_d (by omega)).symm
    | exact (validS_p (fun h => hpq.1 rfl h.1)).symm
    | exact (validS_p (fun h => hp2.1 rfl h.2)).symm
    | (rw [validS_go hbT hdue hpr, standB_0 (by omega)]; first | rfl | exact (decide_eq_false (by omega)).symm | exact (decide_eq_false (fun h => by have h9 := due_nil h.1; omega)).symm | exact (decide_eq_false (fun h => absurd h.2.2.2.2.1 (by assumption))).symm | exact decide_eq_decide.2 ⟨fun h => ⟨by omega, by omega, by omega, by omega, by assumption, by omega⟩, fun h => by omega⟩)
    | (rw [validS_go hbT hdue hpr, standB_1 (by omega)]; first | rfl | simp_all)
    | (rw [validS_go hbT hdue hpr, standB_3 (by omega)]; first | rfl | simp_all)
    | (rw [validS_go hbT hdue hpr, standB_4 (by omega)]; first | rfl | simp_all)
    | (rw [validS_go hbT hdue hpr, standB_5 (by omega) (by omega) (by omega) (by omega)])
  replace hc16 := of_not_f hc16
  try subst hc16
  have hlnT := hc16
  obtain ⟨hl16, hL⟩ := linesOk_spec hlnT
  refine CW.skip (EX.then_n (CW.seq (CW.seq ?_)))
  have hH38 := hH35.drew
  refine CW.draw (fun w => Sub zb1 w ∧ True) [] #[false, false, false, false, false, false, false, false, false, false, false, false, false, false, false, false, false, false, false, false, false, false] Try.mixed rfl rfl ⟨hH38.sub _ m0, trivial⟩ (WA.pure (i := 0) #[true, false, false, false, false, false, false, false, false, false, false, false, false, false, false, false, false, false, false, false, false, false] (blind_then (blind_then (blind_body _ _))) rfl (by kernel_rfl) rfl rfl rfl (fun _ => R.fa0 7 rfl rfl Try.underlying28 rfl Try.sz3 rfl) (WA.take (i := 1) #[true, true, false, false, false, false, false, false, false, false, false, false, false, false, false, false, false, false, false, false, false, false] (blind_then (blind_then (blind_body _ _))) rfl (by kernel_rfl) rfl rfl rfl (fun _ hw => R.load rfl rfl Try.pl3 (cellz_le hw.1 (hB1.at_ 7 _ rfl))) ⟨hH38.sub _ m0, trivial⟩ (WA.pure (i := 2) #[true, true, true, false, false, false, false, false, false, false, false, false, false, false, false, false, false, false, false, false, false, false] (blind_then (blind_then (blind_body _ _))) rfl (by kernel_rfl) rfl rfl rfl (fun _ => R.lss rfl rfl rfl) (WA.pure (i := 3) #[true, true, true, true, false, false, false, false, false, false, false, false, false, false, false, false, false, false, false, false, false, false] (blind_then (blind_then (blind_body _ _))) rfl (by kernel_rfl) rfl rfl rfl (fun _ => R.move rfl rfl) ?_))))
  refine WA.split (d := 86) rfl (fun hc17 => ?_) (fun hc17 => ?_)
  replace hc17 := of_decide_eq_true hc17
  refine WA.off (i := 4) #[true, true, true, true, true, false, false, false, false, false, false, false, false, false, false, false, false, false, false, false, false, false] (blind_then (blind_then (blind_body _ _))) rfl (by kernel_rfl) rfl rfl rfl (WA.off (i := 5) #[true, true, true, true, true, true, false, false, false, false, false, false, false, false, false, false, false, false, false, false, false, false] (blind_then (blind_then (blind_body _ _))) rfl (by kernel_rfl) rfl rfl rfl (WA.off (i := 6) #[true, true, true, true, true, true, true, false, false, false, false, false, false, false, false, false, false, false, false, false, false, false] (blind_then (blind_then (blind_body _ _))) rfl (by kernel_rfl) rfl rfl rfl (WA.off (i := 7) #[true, true, true, true, true, true, true, true, false, false, false, false, false, false, false, false, false, false, false, false, false, false] (blind_then (blind_then (blind_body _ _))) rfl (by kernel_rfl) rfl rfl rfl (WA.off (i := 8) #[true, true, true, true, true, true, true, true, true, false, false, false, false, false, false, false, false, false, false, false, false, false] (blind_then (blind_then (blind_body _ _))) rfl (by kernel_rfl) rfl rfl rfl (WA.pure (i := 9) #[true, true, true, true, true, true, true, true, true, true, false, false, false, false, false, false, false, false, false, false, false, false] (blind_then (blind_then (blind_body _ _))) rfl (by kernel_rfl) rfl rfl rfl (fun _ => R.pick_t rfl rfl rfl) (WA.pure (i := 10) #[true, true, true, true, true, true, true, true, true, true, true, false, false, false, false, false, false, false, false, false, false, false] (blind_then (blind_then (blind_body _ _))) rfl (by kernel_rfl) rfl rfl rfl (fun _ => R.move rfl rfl) (WA.off (i := 11) #[true, true, true, true, true, true, true, true, true, true, true, true, false, false, false, false, false, false, false, false, false, false] (blind_then (blind_then (blind_body _ _))) rfl (by kernel_rfl) rfl rfl rfl ?_)))))))
  refine WA.off (i := 12) #[true, true, true, true, true, true, true, true, true, true, true, true, true, false, false, false, false, false, false, false, false, false] (blind_then (blind_then (blind_body _ _))) rfl (by kernel_rfl) rfl rfl rfl (WA.off (i := 13) #[true, true, true, true, true, true, true, true, true, true, true, true, true, true, false, false, false, false, false, false, false, false] (blind_then (blind_then (blind_body _ _))) rfl (by kernel_rfl) rfl rfl rfl (WA.pure (i := 14) #[true, true, true, true, true, true, true, true, true, true, true, true, true, true, true, false, false, false, false, false, false, false] (blind_then (blind_then (blind_body _ _))) rfl (by kernel_rfl) rfl rfl rfl (fun _ => R.pick_t rfl rfl rfl) (WA.pure (i := 15) #[true, true, true, true, true, true, true, true, true, true, true, true, true, true, true, true, false, false, false, false, false, false] (blind_then (blind_then (blind_body _ _))) rfl (by kernel_rfl) rfl rfl rfl (fun _ => R.move rfl rfl) (WA.off (i := 16) #[true, true, true, true, true, true, true, true, true, true, true, true, true, true, true, true, true, false, false, false, false, false] (blind_then (blind_then (blind_body _ _))) rfl (by kernel_rfl) rfl rfl rfl (WA.off (i := 17) #[true, true, true, true, true, true, true, true, true, true, true, true, true, true, true, true, true, true, false, false, false, false] (blind_then (blind_then (blind_body _ _))) rfl (by kernel_rfl) rfl rfl rfl (WA.off (i := 18) #[true, true, true, true, true, true, true, true, true, true, true, true, true, true, true, true, true, true, true, false, false, false] (blind_then (blind_then (blind_body _ _))) rfl (by kernel_rfl) rfl rfl rfl (WA.one (i := 19) #[true, true, true, true, true, true, true, true, true, true, true, true, true, true, true, true, true, true, true, true, false, false] rfl (by kernel_rfl) rfl ?_)))))))
  refine W.off rfl rfl rfl (W.nil (EX.wa ⟨hH38.sub _ m0, trivial⟩ (WA.off (i := 20) #[true, true, true, true, true, true, true, true, true, true, true, true, true, true, true, true, true, true, true, true, true, false] (blind_then (blind_then (blind_body _ _))) rfl (by kernel_rfl) rfl rfl rfl (WA.pure (i := 21) #[true, true, true, true, true, true, true, true, true, true, true, true, true, true, true, true, true, true, true, true, true, true] (blind_then (blind_then (blind_body _ _))) rfl (by kernel_rfl) rfl rfl rfl (fun _ => R.pick_t rfl rfl rfl) (WA.done (by kernel_rfl) (EX.then_n (CW.cond_t rfl ?_)))))))
  refine CW.seq (CW.region rfl (W.val rfl rfl rfl (R.assign rfl rfl) (W.nil (EX.then_n (CW.ret (EX.then_ret (EX.ret1 Try.results31 rfl ?_)))))))
  have hH39 := hH38.f1
  have hH40 := hH39.upto1
  refine ⟨?_, hH40⟩
  refine vbool ?_
  first
    | exact (validS_b (boundB_p (by unfold boundP; omega))).symm
    | exact (validS_b (boundB_n (by assumption))).symm
    | exact (validS_b (boundB_l (by assumption))).symm
    | exact (validS_d (by omega)).symm
    | exact (validS_p (fun h => hpq.1 rfl h.1)).symm
    | exact (validS_p (fun h => hp2.1 rfl h.2)).symm
    | (rw [validS_go hbT hdue hpr, standB_0 (by omega)]; first | rfl | exact (decide_eq_false (by omega)).symm | exact (decide_eq_false (fun h => by have h9 := due_nil h.1; omega)).symm | exact (decide_eq_false (fun h => absurd h.2.2.2.2.1 (by assumption))).symm | exact decide_eq_decide.2 ⟨fun h => ⟨by omega, by omega, by omega, by omega, by assumption, by omega⟩, fun h => by omega⟩)
    | (rw [validS_go hbT hdue hpr, standB_1 (by omega)]; first | rfl | simp_all)
    | (rw [validS_go hbT hdue hpr, standB_3 (by omega)]; first | rfl | simp_all)
    | (rw [validS_go hbT hdue hpr, standB_4 (by omega)]; first | rfl | simp_all)
    | (rw [validS_go hbT hdue hpr, standB_5 (by omega) (by omega) (by omega) (by omega)])
  replace hc17 := of_decide_eq_false hc17
  refine WA.pure (i := 4) #[true, true, true, true, true, false, false, false, false, false, false, false, false, false, false, false, false, false, false, false, false, false] (blind_then (blind_then (blind_body _ _))) rfl (by kernel_rfl) rfl rfl rfl (fun _ => R.fa0 7 rfl rfl Try.underlying28 rfl Try.sz3 rfl) (WA.take (i := 5) #[true, true, true, true, true, true, false, false, false, false, false, false, false, false, false, false, false, false, false, false, false, false] (blind_then (blind_then (blind_body _ _))) rfl (by kernel_rfl) rfl rfl rfl (fun _ hw => R.load rfl rfl Try.pl3 (cellz_le hw.1 (hB1.at_ 7 _ rfl))) ⟨hH38.sub _ m0, trivial⟩ (WA.pure (i := 6) #[true, true, true, true, true, true, true, false, false, false, false, false, false, false, false, false, false, false, false, false, false, false] (blind_then (blind_then (blind_body _ _))) rfl (by kernel_rfl) rfl rfl rfl (fun _ => R.fa0 6 rfl rfl Try.underlying28 rfl Try.sz3 rfl) (WA.take (i := 7) #[true, true, true, true, true, true, true, true, false, false, false, false, false, false, false, false, false, false, false, false, false, false] (blind_then (blind_then (blind_body _ _))) rfl (by kernel_rfl) rfl rfl rfl (fun _ hw => R.load rfl rfl Try.pl3 (cellz_le hw.1 (hB1.at_ 6 _ rfl))) ⟨hH38.sub _ m0, trivial⟩ (WA.pure (i := 8) #[true, true, true, true, true, true, true, true, true, false, false, false, false, false, false, false, false, false, false, false, false, false] (blind_then (blind_then (blind_body _ _))) rfl (by kernel_rfl) rfl rfl rfl (fun _ => R.gtr rfl rfl rfl) (WA.pure (i := 9) #[true, true, true, true, true, true, true, true, true, true, false, false, false, false, false, false, false, false, false, false, false, false] (blind_then (blind_then (blind_body _ _))) rfl (by kernel_rfl) rfl rfl rfl (fun _ => R.pick_f rfl rfl rfl) (WA.pure (i := 10) #[true, true, true, true, true, true, true, true, true, true, true, false, false, false, false, false, false, false, false, false, false, false] (blind_then (blind_then (blind_body _ _))) rfl (by kernel_rfl) rfl rfl rfl (fun _ => R.move rfl rfl) ?_))))))
  refine WA.split (d := 93) rfl (fun hc18 => ?_) (fun hc18 => ?_)
  replace hc18 := of_decide_eq_true hc18
  refine WA.off (i := 11) #[true, true, true, true, true, true, true, true, true, true, true, true, false, false, false, false, false, false, false, false, false, false] (blind_then (blind_then (blind_body _ _))) rfl (by kernel_rfl) rfl rfl rfl (WA.off (i := 12) #[true, true, true, true, true, true, true, true, true, true, true, true, true, false, false, false, false, false, false, false, false, false] (blind_then (blind_then (blind_body _ _))) rfl (by kernel_rfl) rfl rfl rfl (WA.off (i := 13) #[true, true, true, true, true, true, true, true, true, true, true, true, true, true, false, false, false, false, false, false, false, false] (blind_then (blind_then (blind_body _ _))) rfl (by kernel_rfl) rfl rfl rfl (WA.pure (i := 14) #[true, true, true, true, true, true, true, true, true, true, true, true, true, true, true, false, false, false, false, false, false, false] (blind_then (blind_then (blind_body _ _))) rfl (by kernel_rfl) rfl rfl rfl (fun _ => R.pick_t rfl rfl rfl) (WA.pure (i := 15) #[true, true, true, true, true, true, true, true, true, true, true, true, true, true, true, true, false, false, false, false, false, false] (blind_then (blind_then (blind_body _ _))) rfl (by kernel_rfl) rfl rfl rfl (fun _ => R.move rfl rfl) (WA.off (i := 16) #[true, true, true, true, true, true, true, true, true, true, true, true, true, true, true, true, true, false, false, false, false, false] (blind_then (blind_then (blind_body _ _))) rfl (by kernel_rfl) rfl rfl rfl (WA.off (i := 17) #[true, true, true, true, true, true, true, true, true, true, true, true, true, true, true, true, true, true, false, false, false, false] (blind_then (blind_then (blind_body _ _))) rfl (by kernel_rfl) rfl rfl rfl (WA.off (i := 18) #[true, true, true, true, true, true, true, true, true, true, true, true, true, true, true, true, true, true, true, false, false, false] (blind_then (blind_then (blind_body _ _))) rfl (by kernel_rfl) rfl rfl rfl ?_)))))))
  refine WA.one (i := 19) #[true, true, true, true, true, true, true, true, true, true, true, true, true, true, true, true, true, true, true, true, false, false] rfl (by kernel_rfl) rfl (W.off rfl rfl rfl (W.nil (EX.wa ⟨hH38.sub _ m0, trivial⟩ (WA.off (i := 20) #[true, true, true, true, true, true, true, true, true, true, true, true, true, true, true, true, true, true, true, true, true, false] (blind_then (blind_then (blind_body _ _))) rfl (by kernel_rfl) rfl rfl rfl (WA.pure (i := 21) #[true, true, true, true, true, true, true, true, true, true, true, true, true, true, true, true, true, true, true, true, true, true] (blind_then (blind_then (blind_body _ _))) rfl (by kernel_rfl) rfl rfl rfl (fun _ => R.pick_t rfl rfl rfl) (WA.done (by kernel_rfl) (EX.then_n ?_)))))))
  refine CW.cond_t rfl (CW.seq (CW.region rfl (W.val rfl rfl rfl (R.assign rfl rfl) (W.nil (EX.then_n (CW.ret (EX.then_ret ?_)))))))
  refine EX.ret1 Try.results31 rfl ?_
  have hH41 := hH38.f1
  have hH42 := hH41.upto1
  refine ⟨?_, hH42⟩
  refine vbool ?_
  first
    | exact (validS_b (boundB_p (by unfold boundP; omega))).symm
    | exact (validS_b (boundB_n (by assumption))).symm
    | exact (validS_b (boundB_l (by assumption))).symm
    | exact (validS_d (by omega)).symm
    | exact (validS_p (fun h => hpq.1 rfl h.1)).symm
    | exact (validS_p (fun h => hp2.1 rfl h.2)).symm
    | (rw [validS_go hbT hdue hpr, standB_0 (by omega)]; first | rfl | exact (decide_eq_false (by omega)).symm | exact (decide_eq_false (fun h => by have h9 := due_nil h.1; omega)).symm | exact (decide_eq_false (fun h => absurd h.2.2.2.2.1 (by assumption))).symm | exact decide_eq_decide.2 ⟨fun h => ⟨by omega, by omega, by omega, by omega, by assumption, by omega⟩, fun h => by omega⟩)
    | (rw [validS_go hbT hdue hpr, standB_1 (by omega)]; first | rfl | simp_all)
    | (rw [validS_go hbT hdue hpr, standB_3 (by omega)]; first | rfl | simp_all)
    | (rw [validS_go hbT hdue hpr, standB_4 (by omega)]; first | rfl | simp_all)
    | (rw [validS_go hbT hdue hpr, standB_5 (by omega) (by omega) (by omega) (by omega)])
  replace hc18 := of_decide_eq_false hc18
  refine WA.pure (i := 11) #[true, true, true, true, true, true, true, true, true, true, true, true, false, false, false, false, false, false, false, false, false, false] (blind_then (blind_then (blind_body _ _))) rfl (by kernel_rfl) rfl rfl rfl (fun _ => R.fa0 6 rfl rfl Try.underlying28 rfl Try.sz3 rfl) (WA.take (i := 12) #[true, true, true, true, true, true, true, true, true, true, true, true, true, false, false, false, false, false, false, false, false, false] (blind_then (blind_then (blind_body _ _))) rfl (by kernel_rfl) rfl rfl rfl (fun _ hw => R.load rfl rfl Try.pl3 (cellz_le hw.1 (hB1.at_ 6 _ rfl))) ⟨hH38.sub _ m0, trivial⟩ (WA.pure (i := 13) #[true, true, true, true, true, true, true, true, true, true, true, true, true, true, false, false, false, false, false, false, false, false] (blind_then (blind_then (blind_body _ _))) rfl (by kernel_rfl) rfl rfl rfl (fun _ => R.lss rfl rfl rfl) (WA.pure (i := 14) #[true, true, true, true, true, true, true, true, true, true, true, true, true, true, true, false, false, false, false, false, false, false] (blind_then (blind_then (blind_body _ _))) rfl (by kernel_rfl) rfl rfl rfl (fun _ => R.pick_f rfl rfl rfl) (WA.pure (i := 15) #[true, true, true, true, true, true, true, true, true, true, true, true, true, true, true, true, false, false, false, false, false, false] (blind_then (blind_then (blind_body _ _))) rfl (by kernel_rfl) rfl rfl rfl (fun _ => R.move rfl rfl) ?_))))
  refine WA.split (d := 98) rfl (fun hc19 => ?_) (fun hc19 => ?_)
  replace hc19 := of_decide_eq_true hc19
  refine WA.off (i := 16) #[true, true, true, true, true, true, true, true, true, true, true, true, true, true, true, true, true, false, false, false, false, false] (blind_then (blind_then (blind_body _ _))) rfl (by kernel_rfl) rfl rfl rfl (WA.off (i := 17) #[true, true, true, true, true, true, true, true, true, true, true, true, true, true, true, true, true, true, false, false, false, false] (blind_then (blind_then (blind_body _ _))) rfl (by kernel_rfl) rfl rfl rfl (WA.off (i := 18) #[true, true, true, true, true, true, true, true, true, true, true, true, true, true, true, true, true, true, true, false, false, false] (blind_then (blind_then (blind_body _ _))) rfl (by kernel_rfl) rfl rfl rfl (WA.one (i := 19) #[true, true, true, true, true, true, true, true, true, true, true, true, true, true, true, true, true, true, true, true, false, false] rfl (by kernel_rfl) rfl (W.off rfl rfl rfl (W.nil (EX.wa ⟨hH38.sub _ m0, trivial⟩ (WA.off (i := 20) #[true, true, true, true, true, true, true, true, true, true, true, true, true, true, true, true, true, true, true, true, true, false] (blind_then (blind_then (blind_body _ _))) rfl (by kernel_rfl) rfl rfl rfl ?_)))))))
  refine WA.pure (i := 21) #[true, true, true, true, true, true, true, true, true, true, true, true, true, true, true, true, true, true, true, true, true, true] (blind_then (blind_then (blind_body _ _))) rfl (by kernel_rfl) rfl rfl rfl (fun _ => R.pick_t rfl rfl rfl) (WA.done (by kernel_rfl) (EX.then_n (CW.cond_t rfl (CW.seq (CW.region rfl (W.val rfl rfl rfl (R.assign rfl rfl) (W.nil ?_)))))))
  refine EX.then_n (CW.ret (EX.then_ret (EX.ret1 Try.results31 rfl ?_)))
  have hH43 := hH38.f1
  have hH44 := hH43.upto1
  refine ⟨?_, hH44⟩
  refine vbool ?_
  first
    | exact (validS_b (boundB_p (by unfold boundP; omega))).symm
    | exact (validS_b (boundB_n (by assumption))).symm
    | exact (validS_b (boundB_l (by assumption))).symm
    | exact (validS_d (by omega)).symm
    | exact (validS_p (fun h => hpq.1 rfl h.1)).symm
    | exact (validS_p (fun h => hp2.1 rfl h.2)).symm
    | (rw [validS_go hbT hdue hpr, standB_0 (by omega)]; first | rfl | exact (decide_eq_false (by omega)).symm | exact (decide_eq_false (fun h => by have h9 := due_nil h.1; omega)).symm | exact (decide_eq_false (fun h => absurd h.2.2.2.2.1 (by assumption))).symm | exact decide_eq_decide.2 ⟨fun h => ⟨by omega, by omega, by omega, by omega, by assumption, by omega⟩, fun h => by omega⟩)
    | (rw [validS_go hbT hdue hpr, standB_1 (by omega)]; first | rfl | simp_all)
    | (rw [validS_go hbT hdue hpr, standB_3 (by omega)]; first | rfl | simp_all)
    | (rw [validS_go hbT hdue hpr, standB_4 (by omega)]; first | rfl | simp_all)
    | (rw [validS_go hbT hdue hpr, standB_5 (by omega) (by omega) (by omega) (by omega)])
  replace hc19 := of_decide_eq_false hc19
  refine WA.pure (i := 16) #[true, true, true, true, true, true, true, true, true, true, true, true, true, true, true, true, true, false, false, false, false, false] (blind_then (blind_then (blind_body _ _))) rfl (by kernel_rfl) rfl rfl rfl (fun _ => R.fa0 6 rfl rfl Try.underlying28 rfl Try.sz3 rfl) (WA.take (i := 17) #[true, true, true, true, true, true, true, true, true, true, true, true, true, true, true, true, true, true, false, false, false, false] (blind_then (blind_then (blind_body _ _))) rfl (by kernel_rfl) rfl rfl rfl (fun _ hw => R.load rfl rfl Try.pl3 (cellz_le hw.1 (hB1.at_ 6 _ rfl))) ⟨hH38.sub _ m0, trivial⟩ (WA.take (i := 18) #[true, true, true, true, true, true, true, true, true, true, true, true, true, true, true, true, true, true, true, false, false, false] (blind_then (blind_then (blind_body _ _))) rfl (by kernel_rfl) rfl rfl rfl (fun _ hw => R.loadAgg rfl rfl (run_isAgg_struct Try.underlying28) (by exact Try.sz28) (hB1.at_.le hw.1)) ⟨hH38.sub _ m0, trivial⟩ (WA.one (i := 19) #[true, true, true, true, true, true, true, true, true, true, true, true, true, true, true, true, true, true, true, true, false, false] rfl (by kernel_rfl) rfl (W.call rfl rfl rfl rfl rfl Try.func77 Try.nm77 Try.bd77 (r08_Due s _ (w3.drew) (hs.mono (hH38.le m1)) (by omega) (by omega) (by omega) (by omega)) ?_))))
  rintro v3 w4 ⟨rfl, hH45⟩
  have hH46 := hH38.c0 hH45
  refine W.nil (EX.wa ⟨hH46.sub _ m0, trivial⟩ (WA.pure (i := 20) #[true, true, true, true, true, true, true, true, true, true, true, true, true, true, true, true, true, true, true, true, true, false] (blind_then (blind_then (blind_body _ _))) rfl (by kernel_rfl) rfl rfl rfl (fun _ => R.gtr rfl rfl rfl) (WA.pure (i := 21) #[true, true, true, true, true, true, true, true, true, true, true, true, true, true, true, true, true, true, true, true, true, true] (blind_then (blind_then (blind_body _ _))) rfl (by kernel_rfl) rfl rfl rfl (fun _ => R.pick_f rfl rfl rfl) (WA.done (by kernel_rfl) (EX.then_n ?_)))))
  refine CW.cond rfl (fun hc20 => ?_) (fun hc20 => ?_)
  replace hc20 := of_decide_eq_true hc20
  refine CW.seq (CW.region rfl (W.val rfl rfl rfl (R.assign rfl rfl) (W.nil (EX.then_n (CW.ret (EX.then_ret (EX.ret1 Try.results31 rfl ?_)))))))
  have hH47 := hH46.f1
  have hH48 := hH47.upto1
  refine ⟨?_, hH48⟩
  refine vbool ?_
  first
    | exact (validS_b (boundB_p (by unfold boundP; omega))).symm
    | exact (validS_b (boundB_n (by assumption))).symm
    | exact (validS_b (boundB_l (by assumption))).symm
    | exact (validS_d (by omega)).symm
    | exact (validS_p (fun h => hpq.1 rfl h.1)).symm
    | exact (validS_p (fun h => hp2.1 rfl h.2)).symm
    | (rw [validS_go hbT hdue hpr, standB_0 (by omega)]; first | rfl | exact (decide_eq_false (by omega)).symm | exact (decide_eq_false (fun h => by have h9 := due_nil h.1; omega)).symm | exact (decide_eq_false (fun h => absurd h.2.2.2.2.1 (by assumption))).symm | exact decide_eq_decide.2 ⟨fun h => ⟨by omega, by omega, by omega, by omega, by assumption, by omega⟩, fun h => by omega⟩)
    | (rw [validS_go hbT hdue hpr, standB_1 (by omega)]; first | rfl | simp_all)
    | (rw [validS_go hbT hdue hpr, standB_3 (by omega)]; first | rfl | simp_all)
    | (rw [validS_go hbT hdue hpr, standB_4 (by omega)]; first | rfl | simp_all)
    | (rw [validS_go hbT hdue hpr, standB_5 (by omega) (by omega) (by omega) (by omega)])
  replace hc20 := of_decide_eq_false hc20
  have hbT : boundB s = true := (boundB_go (by unfold boundP; omega) hlnT).trans hnm
  have hdue : s.Paid ≤ dueS s := by omega
  refine CW.skip (EX.then_n (CW.seq ?_))
  obtain ⟨I1, hI1⟩ : ∃ I : List (Nat × Value) → World → Prop, I = (fun D_ w_ => ∃ (p : Bool), D_ = [(117, .bool p)] ∧ Has w0 w_ [zb1, (hp w0)] ∧ ((p = true → ¬ (s.Status = 2 → s.Prior = 1 ∨ s.Prior = 3)) ∧ (p = false → (s.Status = 2 → s.Prior = 1 ∨ s.Prior = 3)))) := ⟨_, rfl⟩
  refine CW.mid [105, 106, 107, 108, 109, 110, 111, 112, 113, 114, 115, 116, 117] I1 ?_ ?_
  refine CW.region rfl (W.val rfl rfl rfl (R.fa0 1 rfl rfl Try.underlying28 rfl Try.sz25 rfl) (W.ldk rfl rfl rfl rfl rfl Try.pl25 hH46 m0 hB1 rfl (W.val rfl rfl rfl (R.eql rfl rfl rfl) (W.val rfl rfl rfl (R.move rfl rfl) ?_))))
  refine W.split (d := 108) rfl (fun hc21 => ?_) (fun hc21 => ?_)
  replace hc21 := of_decide_eq_true hc21
  refine W.val rfl rfl rfl (R.fa0 2 rfl rfl Try.underlying28 rfl Try.sz25 rfl) (W.ldk rfl rfl rfl rfl rfl Try.pl25 hH46 m0 hB1 rfl (W.val rfl rfl rfl (R.neq rfl rfl rfl) (W.val rfl rfl rfl (R.pick_t rfl rfl rfl) (W.val rfl rfl rfl (R.move rfl rfl) ?_))))
  refine W.split (d := 113) rfl (fun hc22 => ?_) (fun hc22 => ?_)
  replace hc22 := of_ndec_t hc22
  refine W.val rfl rfl rfl (R.fa0 2 rfl rfl Try.underlying28 rfl Try.sz25 rfl) (W.ldk rfl rfl rfl rfl rfl Try.pl25 hH46 m0 hB1 rfl (W.val rfl rfl rfl (R.neq rfl rfl rfl) (W.val rfl rfl rfl (R.pick_t rfl rfl rfl) (W.nil ?_))))
  have hH49 := hH46.f1
  have hH50 := hH49.f1
  have hH51 := hH50.upto2
  refine EX.mid _ rfl ?_ (by rw [hI1]; exact ⟨!decide (s.Prior = 3), rfl, hH51, (by constructor <;> intro h <;> simp at h <;> omega)⟩)
  exact ⟨rfl, trivial⟩
  replace hc22 := of_ndec_f hc22
  refine W.off rfl rfl rfl (W.off rfl rfl rfl (W.off rfl rfl rfl (W.val rfl rfl rfl (R.pick_f rfl rfl rfl) (W.nil ?_))))
  have hH52 := hH46.f1
  have hH53 := hH52.f1
  have hH54 := hH53.upto2
  refine EX.mid _ rfl ?_ (by rw [hI1]; exact ⟨false, rfl, hH54, (by constructor <;> intro h <;> simp at h <;> omega)⟩)
  exact ⟨rfl, trivial⟩
  replace hc21 := of_decide_eq_false hc21
  refine W.off rfl rfl rfl (W.off rfl rfl rfl (W.off rfl rfl rfl (W.val rfl rfl rfl (R.pick_f rfl rfl rfl) (W.val rfl rfl rfl (R.move rfl rfl) (W.off rfl rfl rfl (W.off rfl rfl rfl (W.off rfl rfl rfl ?_)))))))
  refine W.val rfl rfl rfl (R.pick_f rfl rfl rfl) (W.nil ?_)
  have hH55 := hH46.f1
  have hH56 := hH55.f1
  have hH57 := hH56.upto2
  refine EX.mid _ rfl ?_ (by rw [hI1]; exact ⟨false, rfl, hH57, (by constructor <;> intro h <;> simp at h <;> omega)⟩)
  exact ⟨rfl, trivial⟩
  intro D w5 hn1
  rw [hI1] at hn1
  obtain ⟨p, rfl, hH58, hpq⟩ := hn1
  refine CW.cond rfl (fun hc23 => ?_) (fun hc23 => ?_)
  try subst hc23
  refine CW.seq (CW.region rfl (W.val rfl rfl rfl (R.assign rfl rfl) (W.nil (EX.then_n (CW.ret (EX.then_ret (EX.ret1 Try.results31 rfl ?_)))))))
  have hH59 := hH58.f1
  have hH60 := hH59.upto1
  refine ⟨?_, hH60⟩
  refine vbool ?_
  first
    | exact (validS_b (boundB_p (by unfold boundP; omega))).symm
    | exact (validS_b (boundB_n (by assumption))).symm
    | exact (validS_b (boundB_l (by assumption))).symm
    | exact (validS_d (by omega)).symm
    | exact (validS_p (fun h => hpq.1 rfl h.1)).symm
    | exact (validS_p (fun h => hp2.1 rfl h.2)).symm
    | (rw [validS_go hbT hdue hpr, standB_0 (by omega)]; first | rfl | exact (decide_eq_false (by omega)).symm | exact (decide_eq_false (fun h => by have h9 := due_nil h.1; omega)).symm | exact (decide_eq_false (fun h => absurd h.2.2.2.2.1 (by assumption))).symm | exact decide_eq_decide.2 ⟨fun h => ⟨by omega, by omega, by omega, by omega, by assumption, by omega⟩, fun h => by omega⟩)
    | (rw [validS_go hbT hdue hpr, standB_1 (by omega)]; first | rfl | simp_all)
    | (rw [validS_go hbT hdue hpr, standB_3 (by omega)]; first | rfl | simp_all)
    | (rw [validS_go hbT hdue hpr, standB_4 (by omega)]; first | rfl | simp_all)
    | (rw [validS_go hbT hdue hpr, standB_5 (by omega) (by omega) (by omega) (by omega)])
  try subst hc23
  refine CW.skip (EX.then_n ?_)
  obtain ⟨I2, hI2⟩ : ∃ I : List (Nat × Value) → World → Prop, I = (fun D_ w_ => D_ = [] ∧ Has w0 w_ [zb1, (hp w0)] ∧ (priorP s)) := ⟨_, rfl⟩
  refine CW.mid [2, 118, 119, 120, 121, 122, 123, 124, 125] I2 ?_ ?_
  obtain ⟨I3, hI3⟩ : ∃ I : List (Nat × Value) → World → Prop, I = (fun D_ w_ => ∃ (p2 : Bool), D_ = [(125, .bool p2)] ∧ Has w0 w_ [zb1, (hp w0)] ∧ ((p2 = true → ¬ (¬ s.Status = 2 → s.Prior = 0)) ∧ (p2 = false → (¬ s.Status = 2 → s.Prior = 0)))) := ⟨_, rfl⟩
  refine CW.mid [118, 119, 120, 121, 122, 123, 124, 125] I3 ?_ ?_
  refine CW.region rfl (W.val rfl rfl rfl (R.fa0 1 rfl rfl Try.underlying28 rfl Try.sz25 rfl) (W.ldk rfl rfl rfl rfl rfl Try.pl25 hH58 m0 hB1 rfl (W.val rfl rfl rfl (R.neq rfl rfl rfl) (W.val rfl rfl rfl (R.move rfl rfl) ?_))))
  refine W.split (d := 121) rfl (fun hc24 => ?_) (fun hc24 => ?_)
  replace hc24 := of_ndec_t hc24
  refine W.val rfl rfl rfl (R.fa0 2 rfl rfl Try.underlying28 rfl Try.sz25 rfl) (W.ldk rfl rfl rfl rfl rfl Try.pl25 hH58 m0 hB1 rfl (W.val rfl rfl rfl (R.neq rfl rfl rfl) (W.val rfl rfl rfl (R.pick_t rfl rfl rfl) (W.nil ?_))))
  have hH61 := hH58.f1
  have hH62 := hH61.f1
  have hH63 := hH62.upto2
  refine EX.mid _ rfl ?_ (by rw [hI3]; exact ⟨!decide (s.Prior = 0), rfl, hH63, (by constructor <;> intro h <;> simp at h <;> omega)⟩)
  exact ⟨rfl, trivial⟩
  replace hc24 := of_ndec_f hc24
  refine W.off rfl rfl rfl (W.off rfl rfl rfl (W.off rfl rfl rfl (W.val rfl rfl rfl (R.pick_f rfl rfl rfl) (W.nil ?_))))
  have hH64 := hH58.f1
  have hH65 := hH64.f1
  have hH66 := hH65.upto2
  refine EX.mid _ rfl ?_ (by rw [hI3]; exact ⟨false, rfl, hH66, (by constructor <;> intro h <;> simp at h <;> omega)⟩)
  exact ⟨rfl, trivial⟩
  intro D w6 hn2
  rw [hI3] at hn2
  obtain ⟨p2, rfl, hH67, hp2⟩ := hn2
  refine CW.cond rfl (fun hc25 => ?_) (fun hc25 => ?_)
  try subst hc25
  refine CW.seq (CW.region rfl (W.val rfl rfl rfl (R.assign rfl rfl) (W.nil (EX.then_n (CW.ret (EX.then_ret (EX.ret1 Try.results31 rfl ?_)))))))
  have hH68 := hH67.f1
  have hH69 := hH68.upto1
  refine ⟨?_, hH69⟩
  refine vbool ?_
  first
    | exact (validS_b (boundB_p (by unfold boundP; omega))).symm
    | exact (validS_b (boundB_n (by assumption))).symm
    | exact (validS_b (boundB_l (by assumption))).symm
    | exact (validS_d (by omega)).symm
    | exact (validS_p (fun h => hpq.1 rfl h.1)).symm
    | exact (validS_p (fun h => hp2.1 rfl h.2)).symm
    | (rw [validS_go hbT hdue hpr, standB_0 (by omega)]; first | rfl | exact (decide_eq_false (by omega)).symm | exact (decide_eq_false (fun h => by have h9 := due_nil h.1; omega)).symm | exact (decide_eq_false (fun h => absurd h.2.2.2.2.1 (by assumption))).symm | exact decide_eq_decide.2 ⟨fun h => ⟨by omega, by omega, by omega, by omega, by assumption, by omega⟩, fun h => by omega⟩)
    | (rw [validS_go hbT hdue hpr, standB_1 (by omega)]; first | rfl | simp_all)
    | (rw [validS_go hbT hdue hpr, standB_3 (by omega)]; first | rfl | simp_all)
    | (rw [validS_go hbT hdue hpr, standB_4 (by omega)]; first | rfl | simp_all)
    | (rw [validS_go hbT hdue hpr, standB_5 (by omega) (by omega) (by omega) (by omega)])
  try subst hc25
  refine CW.skip ?_
  have hH70 := hH67.f1
  have hH71 := hH70.f1
  have hH72 := hH71.upto2
  refine EX.mid _ rfl ?_ (by rw [hI2]; exact ⟨rfl, hH72, ⟨hpq.2 rfl, hp2.2 rfl⟩⟩)
  exact trivial
  intro D w7 hn3
  rw [hI2] at hn3
  obtain ⟨rfl, hH73, hpr⟩ := hn3
  obtain ⟨I4, hI4⟩ : ∃ I : List (Nat × Value) → World → Prop, I = (fun D_ w_ => D_ = [(3, .bool (fullB s))] ∧ Has w0 w_ [zb1, (hp w0)]) := ⟨_, rfl⟩
  refine CW.mid [3, 126, 127, 128, 129, 130, 131, 132, 133, 134, 135] I4 ?_ ?_
  have hH74 := hH73.drew
  refine CW.draw (fun w => Sub zb1 w ∧ True) [] #[false, false, false, false, false, false, false, false, false, false, false] Try.mixed rfl rfl ⟨hH74.sub _ m0, trivial⟩ (WA.pure (i := 0) #[true, false, false, false, false, false, false, false, false, false, false] (blind_then (blind_body _ _)) rfl (by kernel_rfl) rfl rfl rfl (fun _ => R.fa0 6 rfl rfl Try.underlying28 rfl Try.sz3 rfl) (WA.take (i := 1) #[true, true, false, false, false, false, false, false, false, false, false] (blind_then (blind_body _ _)) rfl (by kernel_rfl) rfl rfl rfl (fun _ hw => R.load rfl rfl Try.pl3 (cellz_le hw.1 (hB1.at_ 6 _ rfl))) ⟨hH74.sub _ m0, trivial⟩ (WA.pure (i := 2) #[true, true, true, false, false, false, false, false, false, false, false] (blind_then (blind_body _ _)) rfl (by kernel_rfl) rfl rfl rfl (fun _ => R.gtr rfl rfl rfl) (WA.pure (i := 3) #[true, true, true, true, false, false, false, false, false, false, false] (blind_then (blind_body _ _)) rfl (by kernel_rfl) rfl rfl rfl (fun _ => R.move rfl rfl) ?_))))
  refine WA.split (d := 129) rfl (fun hc26 => ?_) (fun hc26 => ?_)
  replace hc26 := of_decide_eq_true hc26
  refine WA.pure (i := 4) #[true, true, true, true, true, false, false, false, false, false, false] (blind_then (blind_body _ _)) rfl (by kernel_rfl) rfl rfl rfl (fun _ => R.fa0 6 rfl rfl Try.underlying28 rfl Try.sz3 rfl) (WA.take (i := 5) #[true, true, true, true, true, true, false, false, false, false, false] (blind_then (blind_body _ _)) rfl (by kernel_rfl) rfl rfl rfl (fun _ hw => R.load rfl rfl Try.pl3 (cellz_le hw.1 (hB1.at_ 6 _ rfl))) ⟨hH74.sub _ m0, trivial⟩ (WA.take (i := 6) #[true, true, true, true, true, true, true, false, false, false, false] (blind_then (blind_body _ _)) rfl (by kernel_rfl) rfl rfl rfl (fun _ hw => R.loadAgg rfl rfl (run_isAgg_struct Try.underlying28) (by exact Try.sz28) (hB1.at_.le hw.1)) ⟨hH74.sub _ m0, trivial⟩ (WA.one (i := 7) #[true, true, true, true, true, true, true, true, false, false, false] rfl (by kernel_rfl) rfl (W.call rfl rfl rfl rfl rfl Try.func77 Try.nm77 Try.bd77 (r08_Due s _ (w7.drew) (hs.mono (hH74.le m1)) (by omega) (by omega) (by omega) (by omega)) ?_))))
  rintro v4 w8 ⟨rfl, hH75⟩
  have hH76 := hH74.c0 hH75
  refine W.nil (EX.wa ⟨hH76.sub _ m0, trivial⟩ (WA.pure (i := 8) #[true, true, true, true, true, true, true, true, true, false, false] (blind_then (blind_body _ _)) rfl (by kernel_rfl) rfl rfl rfl (fun _ => R.eql rfl rfl rfl) (WA.pure (i := 9) #[true, true, true, true, true, true, true, true, true, true, false] (blind_then (blind_body _ _)) rfl (by kernel_rfl) rfl rfl rfl (fun _ => R.pick_t rfl rfl rfl) (WA.pure (i := 10) #[true, true, true, true, true, true, true, true, true, true, true] (blind_then (blind_body _ _)) rfl (by kernel_rfl) rfl rfl rfl (fun _ => R.assign rfl rfl) (WA.done (by kernel_rfl) ?_)))))
  have hH77 := hH76.f1
  have hH78 := hH77.f1
  have hH79 := hH78.upto2
  refine EX.mid _ rfl ?_ (by rw [hI4]; exact ⟨rfl, hH79⟩)
  exact ⟨lk_eq rfl (vbool (by unfold fullB; first | exact decide_eq_decide.2 ⟨fun h => ⟨by omega, by omega⟩, fun h => by omega⟩ | exact (decide_eq_false (by omega)).symm)), trivial⟩
  replace hc26 := of_decide_eq_false hc26
  refine WA.off (i := 4) #[true, true, true, true, true, false, false, false, false, false, false] (blind_then (blind_body _ _)) rfl (by kernel_rfl) rfl rfl rfl (WA.off (i := 5) #[true, true, true, true, true, true, false, false, false, false, false] (blind_then (blind_body _ _)) rfl (by kernel_rfl) rfl rfl rfl (WA.off (i := 6) #[true, true, true, true, true, true, true, false, false, false, false] (blind_then (blind_body _ _)) rfl (by kernel_rfl) rfl rfl rfl (WA.one (i := 7) #[true, true, true, true, true, true, true, true, false, false, false] rfl (by kernel_rfl) rfl (W.off rfl rfl rfl (W.nil (EX.wa ⟨hH74.sub _ m0, trivial⟩ (WA.off (i := 8) #[true, true, true, true, true, true, true, true, true, false, false] (blind_then (blind_body _ _)) rfl (by kernel_rfl) rfl rfl rfl ?_)))))))
  refine WA.pure (i := 9) #[true, true, true, true, true, true, true, true, true, true, false] (blind_then (blind_body _ _)) rfl (by kernel_rfl) rfl rfl rfl (fun _ => R.pick_f rfl rfl rfl) (WA.pure (i := 10) #[true, true, true, true, true, true, true, true, true, true, true] (blind_then (blind_body _ _)) rfl (by kernel_rfl) rfl rfl rfl (fun _ => R.assign rfl rfl) (WA.done (by kernel_rfl) ?_))
  have hH80 := hH74.f1
  have hH81 := hH80.f1
  have hH82 := hH81.upto2
  refine EX.mid _ rfl ?_ (by rw [hI4]; exact ⟨rfl, hH82⟩)
  exact ⟨lk_eq rfl (vbool (by unfold fullB; first | exact decide_eq_decide.2 ⟨fun h => ⟨by omega, by omega⟩, fun h => by omega⟩ | exact (decide_eq_false (by omega)).symm)), trivial⟩
  intro D w9 hn4
  rw [hI4] at hn4
  obtain ⟨rfl, hH83⟩ := hn4
  refine CW.seq (CW.region rfl (W.lg0 rfl rfl rfl rfl rfl Try.pl28 (by rw [Try.underlying28]; rfl) (by exact Try.sz28) hH83 m0 hB1 (W.call rfl rfl rfl rfl rfl Try.func78 Try.nm78 Try.bd78 (r08_Stands s _ w9 (hs.mono (hH83.le m1))) ?_)))
  rintro v5 w10 ⟨rfl, hH84⟩
  have hH85 := hH83.c0 hH84
  refine W.val rfl rfl rfl (R.assign rfl rfl) (W.nil (EX.then_n (CW.seq (CW.seq (CW.region rfl (W.val rfl rfl rfl (R.move rfl rfl) (W.val rfl rfl rfl (R.eql rfl rfl rfl) ?_)))))))
  refine W.nil (EX.then_n ?_)
  refine CW.cond rfl (fun hc27 => ?_) (fun hc27 => ?_)
  replace hc27 := of_decide_eq_true hc27
  refine CW.seq (CW.region rfl (W.val rfl rfl rfl (R.fa0 5 rfl rfl Try.underlying28 rfl Try.sz26 rfl) (W.ldk rfl rfl rfl rfl rfl Try.pl26 hH85 m0 hB1 rfl (W.val rfl rfl rfl (R.len_slice rfl rfl Try.underlying26) (W.val rfl rfl rfl (R.eql rfl rfl rfl) (W.val rfl rfl rfl (R.move rfl rfl) ?_))))))
  refine W.split (d := 144) rfl (fun hc28 => ?_) (fun hc28 => ?_)
  replace hc28 := of_decide_eq_true hc28
  refine W.val rfl rfl rfl (R.fa0 3 rfl rfl Try.underlying28 rfl Try.sz3 rfl) (W.ldk rfl rfl rfl rfl rfl Try.pl3 hH85 m0 hB1 rfl (W.val rfl rfl rfl (R.eql rfl rfl rfl) (W.val rfl rfl rfl (R.pick_t rfl rfl rfl) (W.val rfl rfl rfl (R.move rfl rfl) ?_))))
  refine W.split (d := 149) rfl (fun hc29 => ?_) (fun hc29 => ?_)
  replace hc29 := of_decide_eq_true hc29
  refine W.val rfl rfl rfl (R.fa0 4 rfl rfl Try.underlying28 rfl Try.sz3 rfl) (W.ldk rfl rfl rfl rfl rfl Try.pl3 hH85 m0 hB1 rfl (W.val rfl rfl rfl (R.eql rfl rfl rfl) (W.val rfl rfl rfl (R.pick_t rfl rfl rfl) (W.val rfl rfl rfl (R.move rfl rfl) ?_))))
  refine W.split (d := 154) rfl (fun hc30 => ?_) (fun hc30 => ?_)
  replace hc30 := of_decide_eq_true hc30
  refine W.val rfl rfl rfl (R.fa0 6 rfl rfl Try.underlying28 rfl Try.sz3 rfl) (W.ldk rfl rfl rfl rfl rfl Try.pl3 hH85 m0 hB1 rfl (W.val rfl rfl rfl (R.eql rfl rfl rfl) (W.val rfl rfl rfl (R.pick_t rfl rfl rfl) (W.val rfl rfl rfl (R.move rfl rfl) ?_))))
  refine W.split (d := 159) rfl (fun hc31 => ?_) (fun hc31 => ?_)
  replace hc31 := of_decide_eq_true hc31
  refine W.val rfl rfl rfl (R.fa0 10 rfl rfl Try.underlying28 rfl Try.sz3 rfl) (W.ldk rfl rfl rfl rfl rfl Try.pl3 hH85 m0 hB1 rfl (W.val rfl rfl rfl (R.eql rfl rfl rfl) (W.val rfl rfl rfl (R.pick_t rfl rfl rfl) (W.val rfl rfl rfl (R.move rfl rfl) ?_))))
  refine W.split (d := 164) rfl (fun hc32 => ?_) (fun hc32 => ?_)
  replace hc32 := of_decide_eq_true hc32
  refine W.val rfl rfl rfl (R.fa0 11 rfl rfl Try.underlying28 rfl Try.sz9 rfl) (W.ldk rfl rfl rfl rfl rfl Try.pl9 hH85 m0 hB1 rfl (W.val rfl rfl rfl (R.seql rfl rfl rfl) (W.val rfl rfl rfl (R.pick_t rfl rfl rfl) (W.val rfl rfl rfl (R.move rfl rfl) ?_))))
  refine W.split (d := 169) rfl (fun hc33 => ?_) (fun hc33 => ?_)
  replace hc33 := of_decide_eq_true hc33
  refine W.val rfl rfl rfl (R.fa0 9 rfl rfl Try.underlying28 rfl Try.sz3 rfl) (W.ldk rfl rfl rfl rfl rfl Try.pl3 hH85 m0 hB1 rfl (W.val rfl rfl rfl (R.fa0 8 rfl rfl Try.underlying28 rfl Try.sz3 rfl) (W.ldk rfl rfl rfl rfl rfl Try.pl3 hH85 m0 hB1 rfl (W.val rfl rfl rfl (R.eql rfl rfl rfl) (W.val rfl rfl rfl (R.pick_t rfl rfl rfl) (W.val rfl rfl rfl (R.assign rfl rfl) (W.nil ?_)))))))
  refine EX.then_n (CW.ret (EX.then_ret (EX.ret1 Try.results31 rfl ?_)))
  have hH86 := hH85.f1
  have hH87 := hH86.upto1
  refine ⟨?_, hH87⟩
  refine vbool ?_
  first
    | exact (validS_b (boundB_p (by unfold boundP; omega))).symm
    | exact (validS_b (boundB_n (by assumption))).symm
    | exact (validS_b (boundB_l (by assumption))).symm
    | exact (validS_d (by omega)).symm
    | exact (validS_p (fun h => hpq.1 rfl h.1)).symm
    | exact (validS_p (fun h => hp2.1 rfl h.2)).symm
    | (rw [validS_go hbT hdue hpr, standB_0 (by omega)]; first | rfl | exact (decide_eq_false (by omega)).symm | exact (decide_eq_false (fun h => by have h9 := due_nil h.1; omega)).symm | exact (decide_eq_false (fun h => absurd h.2.2.2.2.1 (by assumption))).symm | exact decide_eq_decide.2 ⟨fun h => ⟨by omega, by omega, by omega, by omega, by assumption, by omega⟩, fun h => by omega⟩)
    | (rw [validS_go hbT hdue hpr, standB_1 (by omega)]; first | rfl | simp_all)
    | (rw [validS_go hbT hdue hpr, standB_3 (by omega)]; first | rfl | simp_all)
    | (rw [validS_go hbT hdue hpr, standB_4 (by omega)]; first | rfl | simp_all)
    | (rw [validS_go hbT hdue hpr, standB_5 (by omega) (by omega) (by omega) (by omega)])
  replace hc33 := of_decide_eq_false hc33
  refine W.off rfl rfl rfl (W.off rfl rfl rfl (W.off rfl rfl rfl (W.off rfl rfl rfl (W.off rfl rfl rfl (W.val rfl rfl rfl (R.pick_f rfl rfl rfl) (W.val rfl rfl rfl (R.assign rfl rfl) (W.nil ?_)))))))
  refine EX.then_n (CW.ret (EX.then_ret (EX.ret1 Try.results31 rfl ?_)))
  have hH88 := hH85.f1
  have hH89 := hH88.upto1
  refine ⟨?_, hH89⟩
  refine vbool ?_
  first
    | exact (validS_b (boundB_p (by unfold boundP; omega))).symm
    | exact (validS_b (boundB_n (by assumption))).symm
    | exact (validS_b (boundB_l (by assumption))).symm
    | exact (validS_d (by omega)).symm
    | exact (validS_p (fun h => hpq.1 rfl h.1)).symm
    | exact (validS_p (fun h => hp2.1 rfl h.2)).symm
    | (rw [validS_go hbT hdue hpr, standB_0 (by omega)]; first | rfl | exact (decide_eq_false (by omega)).symm | exact (decide_eq_false (fun h => by have h9 := due_nil h.1; omega)).symm | exact (decide_eq_false (fun h => absurd h.2.2.2.2.1 (by assumption))).symm | exact decide_eq_decide.2 ⟨fun h => ⟨by omega, by omega, by omega, by omega, by assumption, by omega⟩, fun h => by omega⟩)
    | (rw [validS_go hbT hdue hpr, standB_1 (by omega)]; first | rfl | simp_all)
    | (rw [validS_go hbT hdue hpr, standB_3 (by omega)]; first | rfl | simp_all)
    | (rw [validS_go hbT hdue hpr, standB_4 (by omega)]; first | rfl | simp_all)
    | (rw [validS_go hbT hdue hpr, standB_5 (by omega) (by omega) (by omega) (by omega)])
  replace hc32 := of_decide_eq_false hc32
  refine W.off rfl rfl rfl (W.off rfl rfl rfl (W.off rfl rfl rfl (W.val rfl rfl rfl (R.pick_f rfl rfl rfl) (W.val rfl rfl rfl (R.move rfl rfl) (W.off rfl rfl rfl (W.off rfl rfl rfl (W.off rfl rfl rfl ?_)))))))
  refine W.off rfl rfl rfl (W.off rfl rfl rfl (W.val rfl rfl rfl (R.pick_f rfl rfl rfl) (W.val rfl rfl rfl (R.assign rfl rfl) (W.nil (EX.then_n (CW.ret (EX.then_ret ?_)))))))
  refine EX.ret1 Try.results31 rfl ?_
  have hH90 := hH85.f1
  have hH91 := hH90.upto1
  refine ⟨?_, hH91⟩
  refine vbool ?_
  first
    | exact (validS_b (boundB_p (by unfold boundP; omega))).symm
    | exact (validS_b (boundB_n (by assumption))).symm
    | exact (validS_b (boundB_l (by assumption))).symm
    | exact (validS_d (by omega)).symm
    | exact (validS_p (fun h => hpq.1 rfl h.1)).symm
    | exact (validS_p (fun h => hp2.1 rfl h.2)).symm
    | (rw [validS_go hbT hdue hpr, standB_0 (by omega)]; first | rfl | exact (decide_eq_false (by omega)).symm | exact (decide_eq_false (fun h => by have h9 := due_nil h.1; omega)).symm | exact (decide_eq_false (fun h => absurd h.2.2.2.2.1 (by assumption))).symm | exact decide_eq_decide.2 ⟨fun h => ⟨by omega, by omega, by omega, by omega, by assumption, by omega⟩, fun h => by omega⟩)
    | (rw [validS_go hbT hdue hpr, standB_1 (by omega)]; first | rfl | simp_all)
    | (rw [validS_go hbT hdue hpr, standB_3 (by omega)]; first | rfl | simp_all)
    | (rw [validS_go hbT hdue hpr, standB_4 (by omega)]; first | rfl | simp_all)
    | (rw [validS_go hbT hdue hpr, standB_5 (by omega) (by omega) (by omega) (by omega)])
  replace hc31 := of_decide_eq_false hc31
  refine W.off rfl rfl rfl (W.off rfl rfl rfl (W.off rfl rfl rfl (W.val rfl rfl rfl (R.pick_f rfl rfl rfl) (W.val rfl rfl rfl (R.move rfl rfl) (W.off rfl rfl rfl (W.off rfl rfl rfl (W.off rfl rfl rfl ?_)))))))
  refine W.val rfl rfl rfl (R.pick_f rfl rfl rfl) (W.val rfl rfl rfl (R.move rfl rfl) (W.off rfl rfl rfl (W.off rfl rfl rfl (W.off rfl rfl rfl (W.off rfl rfl rfl (W.off rfl rfl rfl (W.val rfl rfl rfl (R.pick_f rfl rfl rfl) ?_)))))))
  refine W.val rfl rfl rfl (R.assign rfl rfl) (W.nil (EX.then_n (CW.ret (EX.then_ret (EX.ret1 Try.results31 rfl ?_)))))
  have hH92 := hH85.f1
  have hH93 := hH92.upto1
  refine ⟨?_, hH93⟩
  refine vbool ?_
  first
    | exact (validS_b (boundB_p (by unfold boundP; omega))).symm
    | exact (validS_b (boundB_n (by assumption))).symm
    | exact (validS_b (boundB_l (by assumption))).symm
    | exact (validS_d (by omega)).symm
    | exact (validS_p (fun h => hpq.1 rfl h.1)).symm
    | exact (validS_p (fun h => hp2.1 rfl h.2)).symm
    | (rw [validS_go hbT hdue hpr, standB_0 (by omega)]; first | rfl | exact (decide_eq_false (by omega)).symm | exact (decide_eq_false (fun h => by have h9 := due_nil h.1; omega)).symm | exact (decide_eq_false (fun h => absurd h.2.2.2.2.1 (by assumption))).symm | exact decide_eq_decide.2 ⟨fun h => ⟨by omega, by omega, by omega, by omega, by assumption, by omega⟩, fun h => by omega⟩)
    | (rw [validS_go hbT hdue hpr, standB_1 (by omega)]; first | rfl | simp_all)
    | (rw [validS_go hbT hdue hpr, standB_3 (by omega)]; first | rfl | simp_all)
    | (rw [validS_go hbT hdue hpr, standB_4 (by omega)]; first | rfl | simp_all)
    | (rw [validS_go hbT hdue hpr, standB_5 (by omega) (by omega) (by omega) (by omega)])
  replace hc30 := of_decide_eq_false hc30
  refine W.off rfl rfl rfl (W.off rfl rfl rfl (W.off rfl rfl rfl (W.val rfl rfl rfl (R.pick_f rfl rfl rfl) (W.val rfl rfl rfl (R.move rfl rfl) (W.off rfl rfl rfl (W.off rfl rfl rfl (W.off rfl rfl rfl ?_)))))))
  refine W.val rfl rfl rfl (R.pick_f rfl rfl rfl) (W.val rfl rfl rfl (R.move rfl rfl) (W.off rfl rfl rfl (W.off rfl rfl rfl (W.off rfl rfl rfl (W.val rfl rfl rfl (R.pick_f rfl rfl rfl) (W.val rfl rfl rfl (R.move rfl rfl) (W.off rfl rfl rfl ?_)))))))
  refine W.off rfl rfl rfl (W.off rfl rfl rfl (W.off rfl rfl rfl (W.off rfl rfl rfl (W.val rfl rfl rfl (R.pick_f rfl rfl rfl) (W.val rfl rfl rfl (R.assign rfl rfl) (W.nil (EX.then_n ?_)))))))
  refine CW.ret (EX.then_ret (EX.ret1 Try.results31 rfl ?_))
  have hH94 := hH85.f1
  have hH95 := hH94.upto1
  refine ⟨?_, hH95⟩
  refine vbool ?_
  first
    | exact (validS_b (boundB_p (by unfold boundP; omega))).symm
    | exact (validS_b (boundB_n (by assumption))).symm
    | exact (validS_b (boundB_l (by assumption))).symm
    | exact (validS_d (by omega)).symm
    | exact (validS_p (fun h => hpq.1 rfl h.1)).symm
    | exact (validS_p (fun h => hp2.1 rfl h.2)).symm
    | (rw [validS_go hbT hdue hpr, standB_0 (by omega)]; first | rfl | exact (decide_eq_false (by omega)).symm | exact (decide_eq_false (fun h => by have h9 := due_nil h.1; omega)).symm | exact (decide_eq_false (fun h => absurd h.2.2.2.2.1 (by assumption))).symm | exact decide_eq_decide.2 ⟨fun h => ⟨by omega, by omega, by omega, by omega, by assumption, by omega⟩, fun h => by omega⟩)
    | (rw [validS_go hbT hdue hpr, standB_1 (by omega)]; first | rfl | simp_all)
    | (rw [validS_go hbT hdue hpr, standB_3 (by omega)]; first | rfl | simp_all)
    | (rw [validS_go hbT hdue hpr, standB_4 (by omega)]; first | rfl | simp_all)
    | (rw [validS_go hbT hdue hpr, standB_5 (by omega) (by omega) (by omega) (by omega)])
  replace hc29 := of_decide_eq_false hc29
  refine W.off rfl rfl rfl (W.off rfl rfl rfl (W.off rfl rfl rfl (W.val rfl rfl rfl (R.pick_f rfl rfl rfl) (W.val rfl rfl rfl (R.move rfl rfl) (W.off rfl rfl rfl (W.off rfl rfl rfl (W.off rfl rfl rfl ?_)))))))
  refine W.val rfl rfl rfl (R.pick_f rfl rfl rfl) (W.val rfl rfl rfl (R.move rfl rfl) (W.off rfl rfl rfl (W.off rfl rfl rfl (W.off rfl rfl rfl (W.val rfl rfl rfl (R.pick_f rfl rfl rfl) (W.val rfl rfl rfl (R.move rfl rfl) (W.off rfl rfl rfl ?_)))))))
  refine W.off rfl rfl rfl (W.off rfl rfl rfl (W.val rfl rfl rfl (R.pick_f rfl rfl rfl) (W.val rfl rfl rfl (R.move rfl rfl) (W.off rfl rfl rfl (W.off rfl rfl rfl (W.off rfl rfl rfl (W.off rfl rfl rfl ?_)))))))
  refine W.off rfl rfl rfl (W.val rfl rfl rfl (R.pick_f rfl rfl rfl) (W.val rfl rfl rfl (R.assign rfl rfl) (W.nil (EX.then_n (CW.ret (EX.then_ret (EX.ret1 Try.results31 rfl ?_)))))))
  have hH96 := hH85.f1
  have hH97 := hH96.upto1
  refine ⟨?_, hH97⟩
  refine vbool ?_
  first
    | exact (validS_b (boundB_p (by unfold boundP; omega))).symm
    | exact (validS_b (boundB_n (by assumption))).symm
    | exact (validS_b (boundB_l (by assumption))).symm
    | exact (validS_d (by omega)).symm
    | exact (validS_p (fun h => hpq.1 rfl h.1)).symm
    | exact (validS_p (fun h => hp2.1 rfl h.2)).symm
    | (rw [validS_go hbT hdue hpr, standB_0 (by omega)]; first | rfl | exact (decide_eq_false (by omega)).symm | exact (decide_eq_false (fun h => by have h9 := due_nil h.1; omega)).symm | exact (decide_eq_false (fun h => absurd h.2.2.2.2.1 (by assumption))).symm | exact decide_eq_decide.2 ⟨fun h => ⟨by omega, by omega, by omega, by omega, by assumption, by omega⟩, fun h => by omega⟩)
    | (rw [validS_go hbT hdue hpr, standB_1 (by omega)]; first | rfl | simp_all)
    | (rw [validS_go hbT hdue hpr, standB_3 (by omega)]; first | rfl | simp_all)
    | (rw [validS_go hbT hdue hpr, standB_4 (by omega)]; first | rfl | simp_all)
    | (rw [validS_go hbT hdue hpr, standB_5 (by omega) (by omega) (by omega) (by omega)])
  replace hc28 := of_decide_eq_false hc28
  refine W.off rfl rfl rfl (W.off rfl rfl rfl (W.off rfl rfl rfl (W.val rfl rfl rfl (R.pick_f rfl rfl rfl) (W.val rfl rfl rfl (R.move rfl rfl) (W.off rfl rfl rfl (W.off rfl rfl rfl (W.off rfl rfl rfl ?_)))))))
  refine W.val rfl rfl rfl (R.pick_f rfl rfl rfl) (W.val rfl rfl rfl (R.move rfl rfl) (W.off rfl rfl rfl (W.off rfl rfl rfl (W.off rfl rfl rfl (W.val rfl rfl rfl (R.pick_f rfl rfl rfl) (W.val rfl rfl rfl (R.move rfl rfl) (W.off rfl rfl rfl ?_)))))))
  refine W.off rfl rfl rfl (W.off rfl rfl rfl (W.val rfl rfl rfl (R.pick_f rfl rfl rfl) (W.val rfl rfl rfl (R.move rfl rfl) (W.off rfl rfl rfl (W.off rfl rfl rfl (W.off rfl rfl rfl (W.val rfl rfl rfl (R.pick_f rfl rfl rfl) ?_)))))))
  refine W.val rfl rfl rfl (R.move rfl rfl) (W.off rfl rfl rfl (W.off rfl rfl rfl (W.off rfl rfl rfl (W.off rfl rfl rfl (W.off rfl rfl rfl (W.val rfl rfl rfl (R.pick_f rfl rfl rfl) (W.val rfl rfl rfl (R.assign rfl rfl) ?_)))))))
  refine W.nil (EX.then_n (CW.ret (EX.then_ret (EX.ret1 Try.results31 rfl ?_))))
  have hH98 := hH85.f1
  have hH99 := hH98.upto1
  refine ⟨?_, hH99⟩
  refine vbool ?_
  first
    | exact (validS_b (boundB_p (by unfold boundP; omega))).symm
    | exact (validS_b (boundB_n (by assumption))).symm
    | exact (validS_b (boundB_l (by assumption))).symm
    | exact (validS_d (by omega)).symm
    | exact (validS_p (fun h => hpq.1 rfl h.1)).symm
    | exact (validS_p (fun h => hp2.1 rfl h.2)).symm
    | (rw [validS_go hbT hdue hpr, standB_0 (by omega)]; first | rfl | exact (decide_eq_false (by omega)).symm | exact (decide_eq_false (fun h => by have h9 := due_nil h.1; omega)).symm | exact (decide_eq_false (fun h => absurd h.2.2.2.2.1 (by assumption))).symm | exact decide_eq_decide.2 ⟨fun h => ⟨by omega, by omega, by omega, by omega, by assumption, by omega⟩, fun h => by omega⟩)
    | (rw [validS_go hbT hdue hpr, standB_1 (by omega)]; first | rfl | simp_all)
    | (rw [validS_go hbT hdue hpr, standB_3 (by omega)]; first | rfl | simp_all)
    | (rw [validS_go hbT hdue hpr, standB_4 (by omega)]; first | rfl | simp_all)
    | (rw [validS_go hbT hdue hpr, standB_5 (by omega) (by omega) (by omega) (by omega)])
  replace hc27 := of_decide_eq_false hc27
  refine CW.skip (EX.then_n (CW.seq (CW.seq (CW.region rfl (W.val rfl rfl rfl (R.move rfl rfl) (W.val rfl rfl rfl (R.eql rfl rfl rfl) (W.nil ?_)))))))
  refine EX.then_n ?_
  refine CW.cond rfl (fun hc34 => ?_) (fun hc34 => ?_)
  replace hc34 := of_decide_eq_true hc34
  refine CW.seq (CW.region rfl (W.lg0 rfl rfl rfl rfl rfl Try.pl28 (by rw [Try.underlying28]; rfl) (by exact Try.sz28) hH85 m0 hB1 (W.call rfl rfl rfl rfl rfl Try.func79 Try.nm79 Try.bd79 (r08_Untouched s _ w10 (hs.mono (hH85.le m1)) (by omega) (by omega)) ?_)))
  rintro v6 w11 ⟨rfl, hH100⟩
  have hH101 := hH85.c0 hH100
  refine W.val rfl rfl rfl (R.move rfl rfl) ?_
  refine W.split (d := 180) rfl (fun hc35 => ?_) (fun hc35 => ?_)
  try subst hc35
  refine W.val rfl rfl rfl (R.fa0 7 rfl rfl Try.underlying28 rfl Try.sz3 rfl) (W.ldk rfl rfl rfl rfl rfl Try.pl3 hH101 m0 hB1 rfl (W.val rfl rfl rfl (R.eql rfl rfl rfl) (W.val rfl rfl rfl (R.pick_t rfl rfl rfl) (W.val rfl rfl rfl (R.move rfl rfl) ?_))))
  refine W.split (d := 185) rfl (fun hc36 => ?_) (fun hc36 => ?_)
  replace hc36 := of_decide_eq_true hc36
  refine W.val rfl rfl rfl (R.move rfl rfl) (W.val rfl rfl rfl (R.not rfl rfl) (W.val rfl rfl rfl (R.pick_t rfl rfl rfl) (W.val rfl rfl rfl (R.assign rfl rfl) (W.nil (EX.then_n (CW.ret (EX.then_ret ?_)))))))
  refine EX.ret1 Try.results31 rfl ?_
  have hH102 := hH101.f1
  have hH103 := hH102.upto1
  refine ⟨?_, hH103⟩
  refine vbool ?_
  first
    | exact (validS_b (boundB_p (by unfold boundP; omega))).symm
    | exact (validS_b (boundB_n (by assumption))).symm
    | exact (validS_b (boundB_l (by assumption))).symm
    | exact (validS_d (by omega)).symm
    | exact (validS_p (fun h => hpq.1 rfl h.1)).symm
    | exact (validS_p (fun h => hp2.1 rfl h.2)).symm
    | (rw [validS_go hbT hdue hpr, standB_0 (by omega)]; first | rfl | exact (decide_eq_false (by omega)).symm | exact (decide_eq_false (fun h => by have h9 := due_nil h.1; omega)).symm | exact (decide_eq_false (fun h => absurd h.2.2.2.2.1 (by assumption))).symm | exact decide_eq_decide.2 ⟨fun h => ⟨by omega, by omega, by omega, by omega, by assumption, by omega⟩, fun h => by omega⟩)
    | (rw [validS_go hbT hdue hpr, standB_1 (by omega)]; first | rfl | simp_all)
    | (rw [validS_go hbT hdue hpr, standB_3 (by omega)]; first | rfl | simp_all)
    | (rw [validS_go hbT hdue hpr, standB_4 (by omega)]; first | rfl | simp_all)
    | (rw [validS_go hbT hdue hpr, standB_5 (by omega) (by omega) (by omega) (by omega)])
  replace hc36 := of_decide_eq_false hc36
  refine W.off rfl rfl rfl (W.off rfl rfl rfl (W.val rfl rfl rfl (R.pick_f rfl rfl rfl) (W.val rfl rfl rfl (R.assign rfl rfl) (W.nil (EX.then_n (CW.ret (EX.then_ret ?_)))))))
  refine EX.ret1 Try.results31 rfl ?_
  have hH104 := hH101.f1
  have hH105 := hH104.upto1
  refine ⟨?_, hH105⟩
  refine vbool ?_
  first
    | exact (validS_b (boundB_p (by unfold boundP; omega))).symm
    | exact (validS_b (boundB_n (by assumption))).symm
    | exact (validS_b (boundB_l (by assumption))).symm
    | exact (validS_d (by omega)).symm
    | exact (validS_p (fun h => hpq.1 rfl h.1)).symm
    | exact (validS_p (fun h => hp2.1 rfl h.2)).symm
    | (rw [validS_go hbT hdue hpr, standB_0 (by omega)]; first | rfl | exact (decide_eq_false (by omega)).symm | exact (decide_eq_false (fun h => by have h9 := due_nil h.1; omega)).symm | exact (decide_eq_false (fun h => absurd h.2.2.2.2.1 (by assumption))).symm | exact decide_eq_decide.2 ⟨fun h => ⟨by omega, by omega, by omega, by omega, by assumption, by omega⟩, fun h => by omega⟩)
    | (rw [validS_go hbT hdue hpr, standB_1 (by omega)]; first | rfl | simp_all)
    | (rw [validS_go hbT hdue hpr, standB_3 (by omega)]; first | rfl | simp_all)
    | (rw [validS_go hbT hdue hpr, standB_4 (by omega)]; first | rfl | simp_all)
    | (rw [validS_go hbT hdue hpr, standB_5 (by omega) (by omega) (by omega) (by omega)])
  try subst hc35
  refine W.off rfl rfl rfl (W.off rfl rfl rfl (W.off rfl rfl rfl (W.val rfl rfl rfl (R.pick_f rfl rfl rfl) (W.val rfl rfl rfl (R.move rfl rfl) (W.off rfl rfl rfl (W.off rfl rfl rfl (W.val rfl rfl rfl (R.pick_f rfl rfl rfl) ?_)))))))
  refine W.val rfl rfl rfl (R.assign rfl rfl) (W.nil (EX.then_n (CW.ret (EX.then_ret (EX.ret1 Try.results31 rfl ?_)))))
  have hH106 := hH101.f1
  have hH107 := hH106.upto1
  refine ⟨?_, hH107⟩
  refine vbool ?_
  first
    | exact (validS_b (boundB_p (by unfold boundP; omega))).symm
    | exact (validS_b (boundB_n (by assumption))).symm
    | exact (validS_b (boundB_l (by assumption))).symm
    | exact (validS_d (by omega)).symm
    | exact (validS_p (fun h => hpq.1 rfl h.1)).symm
    | exact (validS_p (fun h => hp2.1 rfl h.2)).symm
    | (rw [validS_go hbT hdue hpr, standB_0 (by omega)]; first | rfl | exact (decide_eq_false (by omega)).symm | exact (decide_eq_false (fun h => by have h9 := due_nil h.1; omega)).symm | exact (decide_eq_false (fun h => absurd h.2.2.2.2.1 (by assumption))).symm | exact decide_eq_decide.2 ⟨fun h => ⟨by omega, by omega, by omega, by omega, by assumption, by omega⟩, fun h => by omega⟩)
    | (rw [validS_go hbT hdue hpr, standB_1 (by omega)]; first | rfl | simp_all)
    | (rw [validS_go hbT hdue hpr, standB_3 (by omega)]; first | rfl | simp_all)
    | (rw [validS_go hbT hdue hpr, standB_4 (by omega)]; first | rfl | simp_all)
    | (rw [validS_go hbT hdue hpr, standB_5 (by omega) (by omega) (by omega) (by omega)])
  replace hc34 := of_decide_eq_false hc34
  refine CW.skip (EX.then_n (CW.seq (CW.seq (CW.region rfl (W.val rfl rfl rfl (R.move rfl rfl) (W.val rfl rfl rfl (R.eql rfl rfl rfl) (W.nil ?_)))))))
  refine EX.then_n ?_
  refine CW.cond rfl (fun hc37 => ?_) (fun hc37 => ?_)
  replace hc37 := of_decide_eq_true hc37
  refine CW.seq (CW.region rfl (W.val rfl rfl rfl (R.move rfl rfl) (W.val rfl rfl rfl (R.move rfl rfl) ?_)))
  refine W.split (d := 192) rfl (fun hc38 => ?_) (fun hc38 => ?_)
  try subst hc38
  refine W.lg0 rfl rfl rfl rfl rfl Try.pl28 (by rw [Try.underlying28]; rfl) (by exact Try.sz28) hH85 m0 hB1 (W.call rfl rfl rfl rfl rfl Try.func80 Try.nm80 Try.bd80 (r08_Whole s _ w10 (hs.mono (hH85.le m1)) (by omega) (by omega)) ?_)
  rintro v7 w12 ⟨rfl, hH108⟩
  have hH109 := hH85.c0 hH108
  refine W.val rfl rfl rfl (R.not rfl rfl) (W.val rfl rfl rfl (R.pick_t rfl rfl rfl) (W.val rfl rfl rfl (R.assign rfl rfl) (W.nil (EX.then_n (CW.ret (EX.then_ret (EX.ret1 Try.results31 rfl ?_)))))))
  have hH110 := hH109.f1
  have hH111 := hH110.upto1
  refine ⟨?_, hH111⟩
  refine vbool ?_
  first
    | exact (validS_b (boundB_p (by unfold boundP; omega))).symm
    | exact (validS_b (boundB_n (by assumption))).symm
    | exact (validS_b (boundB_l (by assumption))).symm
    | exact (validS_d (by omega)).symm
    | exact (validS_p (fun h => hpq.1 rfl h.1)).symm
    | exact (validS_p (fun h => hp2.1 rfl h.2)).symm
    | (rw [validS_go hbT hdue hpr, standB_0 (by omega)]; first | rfl | exact (decide_eq_false (by omega)).symm | exact (decide_eq_false (fun h => by have h9 := due_nil h.1; omega)).symm | exact (decide_eq_false (fun h => absurd h.2.2.2.2.1 (by assumption))).symm | exact decide_eq_decide.2 ⟨fun h => ⟨by omega, by omega, by omega, by omega, by assumption, by omega⟩, fun h => by omega⟩)
    | (rw [validS_go hbT hdue hpr, standB_1 (by omega)]; first | rfl | simp_all)
    | (rw [validS_go hbT hdue hpr, standB_3 (by omega)]; first | rfl | simp_all)
    | (rw [validS_go hbT hdue hpr, standB_4 (by omega)]; first | rfl | simp_all)
    | (rw [validS_go hbT hdue hpr, standB_5 (by omega) (by omega) (by omega) (by omega)])
  try subst hc38
  refine W.off rfl rfl rfl (W.off rfl rfl rfl (W.off rfl rfl rfl (W.val rfl rfl rfl (R.pick_f rfl rfl rfl) (W.val rfl rfl rfl (R.assign rfl rfl) (W.nil (EX.then_n (CW.ret ?_)))))))
  refine EX.then_ret (EX.ret1 Try.results31 rfl ?_)
  have hH112 := hH85.f1
  have hH113 := hH112.upto1
  refine ⟨?_, hH113⟩
  refine vbool ?_
  first
    | exact (validS_b (boundB_p (by unfold boundP; omega))).symm
    | exact (validS_b (boundB_n (by assumption))).symm
    | exact (validS_b (boundB_l (by assumption))).symm
    | exact (validS_d (by omega)).symm
    | exact (validS_p (fun h => hpq.1 rfl h.1)).symm
    | exact (validS_p (fun h => hp2.1 rfl h.2)).symm
    | (rw [validS_go hbT hdue hpr, standB_0 (by omega)]; first | rfl | exact (decide_eq_false (by omega)).symm | exact (decide_eq_false (fun h => by have h9 := due_nil h.1; omega)).symm | exact (decide_eq_false (fun h => absurd h.2.2.2.2.1 (by assumption))).symm | exact decide_eq_decide.2 ⟨fun h => ⟨by omega, by omega, by omega, by omega, by assumption, by omega⟩, fun h => by omega⟩)
    | (rw [validS_go hbT hdue hpr, standB_1 (by omega)]; first | rfl | simp_all)
    | (rw [validS_go hbT hdue hpr, standB_3 (by omega)]; first | rfl | simp_all)
    | (rw [validS_go hbT hdue hpr, standB_4 (by omega)]; first | rfl | simp_all)
    | (rw [validS_go hbT hdue hpr, standB_5 (by omega) (by omega) (by omega) (by omega)])
  replace hc37 := of_decide_eq_false hc37
  refine CW.skip (EX.then_n (CW.seq (CW.seq (CW.region rfl (W.val rfl rfl rfl (R.move rfl rfl) (W.val rfl rfl rfl (R.eql rfl rfl rfl) (W.nil ?_)))))))
  refine EX.then_n ?_
  refine CW.cond rfl (fun hc39 => ?_) (fun hc39 => ?_)
  replace hc39 := of_decide_eq_true hc39
  refine CW.seq (CW.region rfl (W.val rfl rfl rfl (R.move rfl rfl) (W.val rfl rfl rfl (R.move rfl rfl) ?_)))
  refine W.split (d := 200) rfl (fun hc40 => ?_) (fun hc40 => ?_)
  try subst hc40
  refine W.lg0 rfl rfl rfl rfl rfl Try.pl28 (by rw [Try.underlying28]; rfl) (by exact Try.sz28) hH85 m0 hB1 (W.call rfl rfl rfl rfl rfl Try.func80 Try.nm80 Try.bd80 (r08_Whole s _ w10 (hs.mono (hH85.le m1)) (by omega) (by omega)) ?_)
  rintro v8 w13 ⟨rfl, hH114⟩
  have hH115 := hH85.c0 hH114
  refine W.val rfl rfl rfl (R.pick_t rfl rfl rfl) (W.val rfl rfl rfl (R.assign rfl rfl) (W.nil (EX.then_n (CW.ret (EX.then_ret (EX.ret1 Try.results31 rfl ?_))))))
  have hH116 := hH115.f1
  have hH117 := hH116.upto1
  refine ⟨?_, hH117⟩
  refine vbool ?_
  first
    | exact (validS_b (boundB_p (by unfold boundP; omega))).symm
    | exact (validS_b (boundB_n (by assumption))).symm
    | exact (validS_b (boundB_l (by assumption))).symm
    | exact (validS_d (by omega)).symm
    | exact (validS_p (fun h => hpq.1 rfl h.1)).symm
    | exact (validS_p (fun h => hp2.1 rfl h.2)).symm
    | (rw [validS_go hbT hdue hpr, standB_0 (by omega)]; first | rfl | exact (decide_eq_false (by omega)).symm | exact (decide_eq_false (fun h => by have h9 := due_nil h.1; omega)).symm | exact (decide_eq_false (fun h => absurd h.2.2.2.2.1 (by assumption))).symm | exact decide_eq_decide.2 ⟨fun h => ⟨by omega, by omega, by omega, by omega, by assumption, by omega⟩, fun h => by omega⟩)
    | (rw [validS_go hbT hdue hpr, standB_1 (by omega)]; first | rfl | simp_all)
    | (rw [validS_go hbT hdue hpr, standB_3 (by omega)]; first | rfl | simp_all)
    | (rw [validS_go hbT hdue hpr, standB_4 (by omega)]; first | rfl | simp_all)
    | (rw [validS_go hbT hdue hpr, standB_5 (by omega) (by omega) (by omega) (by omega)])
  try subst hc40
  refine W.off rfl rfl rfl (W.off rfl rfl rfl (W.val rfl rfl rfl (R.pick_f rfl rfl rfl) (W.val rfl rfl rfl (R.assign rfl rfl) (W.nil (EX.then_n (CW.ret (EX.then_ret ?_)))))))
  refine EX.ret1 Try.results31 rfl ?_
  have hH118 := hH85.f1
  have hH119 := hH118.upto1
  refine ⟨?_, hH119⟩
  refine vbool ?_
  first
    | exact (validS_b (boundB_p (by unfold boundP; omega))).symm
    | exact (validS_b (boundB_n (by assumption))).symm
    | exact (validS_b (boundB_l (by assumption))).symm
    | exact (validS_d (by omega)).symm
    | exact (validS_p (fun h => hpq.1 rfl h.1)).symm
    | exact (validS_p (fun h => hp2.1 rfl h.2)).symm
    | (rw [validS_go hbT hdue hpr, standB_0 (by omega)]; first | rfl | exact (decide_eq_false (by omega)).symm | exact (decide_eq_false (fun h => by have h9 := due_nil h.1; omega)).symm | exact (decide_eq_false (fun h => absurd h.2.2.2.2.1 (by assumption))).symm | exact decide_eq_decide.2 ⟨fun h => ⟨by omega, by omega, by omega, by omega, by assumption, by omega⟩, fun h => by omega⟩)
    | (rw [validS_go hbT hdue hpr, standB_1 (by omega)]; first | rfl | simp_all)
    | (rw [validS_go hbT hdue hpr, standB_3 (by omega)]; first | rfl | simp_all)
    | (rw [validS_go hbT hdue hpr, standB_4 (by omega)]; first | rfl | simp_all)
    | (rw [validS_go hbT hdue hpr, standB_5 (by omega) (by omega) (by omega) (by omega)])
  replace hc39 := of_decide_eq_false hc39
  refine CW.skip (EX.then_n (CW.seq (CW.region rfl (W.lg0 rfl rfl rfl rfl rfl Try.pl28 (by rw [Try.underlying28]; rfl) (by exact Try.sz28) hH85 m0 hB1 (W.call rfl rfl rfl rfl rfl Try.func79 Try.nm79 Try.bd79 (r08_Untouched s _ w10 (hs.mono (hH85.le m1)) (by omega) (by omega)) ?_)))))
  rintro v9 w14 ⟨rfl, hH120⟩
  have hH121 := hH85.c0 hH120
  refine W.val rfl rfl rfl (R.assign rfl rfl) (W.nil (EX.then_n (CW.ret (EX.ret1 Try.results31 rfl ?_))))
  have hH122 := hH121.f1
  have hH123 := hH122.upto1
  refine ⟨?_, hH123⟩
  refine vbool ?_
  first
    | exact (validS_b (boundB_p (by unfold boundP; omega))).symm
    | exact (validS_b (boundB_n (by assumption))).symm
    | exact (validS_b (boundB_l (by assumption))).symm
    | exact (validS_d (by omega)).symm
    | exact (validS_p (fun h => hpq.1 rfl h.1)).symm
    | exact (validS_p (fun h => hp2.1 rfl h.2)).symm
    | (rw [validS_go hbT hdue hpr, standB_0 (by omega)]; first | rfl | exact (decide_eq_false (by omega)).symm | exact (decide_eq_false (fun h => by have h9 := due_nil h.1; omega)).symm | exact (decide_eq_false (fun h => absurd h.2.2.2.2.1 (by assumption))).symm | exact decide_eq_decide.2 ⟨fun h => ⟨by omega, by omega, by omega, by omega, by assumption, by omega⟩, fun h => by omega⟩)
    | (rw [validS_go hbT hdue hpr, standB_1 (by omega)]; first | rfl | simp_all)
    | (rw [validS_go hbT hdue hpr, standB_3 (by omega)]; first | rfl | simp_all)
    | (rw [validS_go hbT hdue hpr, standB_4 (by omega)]; first | rfl | simp_all)
    | (rw [validS_go hbT hdue hpr, standB_5 (by omega) (by omega) (by omega) (by omega)])

end Go.Proofs.Gw
namespace Go.Proofs.Gw
open Go Go.Gw Go.Proofs Go.RowKit
set_option maxRecDepth 100000 in
set_option maxHeartbeats 1000000 in
theorem r09_clamp (u : Int) (w0 : World) (h0 : 0 ≤ u) (h1 : u ≤ 18446744073709551615) : Calls Try.prog 29 #[.int .u64 u] w0 (Ret fun v w' => v = .int .i64 ((clampN u.toNat : Int)) ∧ Has w0 w' [hp w0]) := by
  refine fnstart (N := 7) Try.func29 rfl Try.ntmps29 (Nat.le_of_ble_eq_true rfl) ?_
  have hH0 : Has w0 w0 [hp w0] := Has.refl w0
  refine CW.seq (CW.region rfl (W.val rfl rfl rfl (R.assign rfl rfl) (W.nil (EX.then_n (CW.seq (CW.seq (CW.region rfl ?_)))))))
  refine W.val rfl rfl rfl (R.move rfl rfl) (W.val rfl rfl rfl (R.gtr rfl rfl rfl) (W.nil (EX.then_n ?_)))
  refine CW.cond rfl (fun hc1 => ?_) (fun hc1 => ?_)
  replace hc1 := of_decide_eq_true hc1
  refine CW.seq (CW.region rfl (W.val rfl rfl rfl (R.assign rfl rfl) (W.nil (EX.then_n (CW.ret (EX.then_ret (EX.ret1 Try.results29 rfl ?_)))))))
  have hH1 := hH0.upto1
  refine ⟨?_, hH1⟩
  refine vint ?_; unfold clampN; omega
  replace hc1 := of_decide_eq_false hc1
  refine CW.skip (EX.then_n (CW.seq (CW.region rfl (W.val rfl rfl rfl (R.move rfl rfl) (W.val rfl rfl rfl (R.convx rfl rfl (by rw [Try.underlying75]; rfl) Try.underlying3 (ok_i64 (by omega))) (W.val rfl rfl rfl (R.assign rfl rfl) (W.nil ?_)))))))
  refine EX.then_n (CW.ret (EX.ret1 Try.results29 rfl ?_))
  have hH2 := hH0.upto1
  refine ⟨?_, hH2⟩
  refine vint ?_; unfold clampN; omega

end Go.Proofs.Gw
namespace Go.Proofs.Gw
open Go Go.Gw Go.Proofs Go.RowKit
set_option maxRecDepth 100000 in
set_option maxHeartbeats 1000000 in
theorem r09_Line (Ab : Option Addr) (cb : Nat) (b : List UInt8) (w0 : World) (lb : b.length ≤ cb) (hb : Row kU8 (hp w0) Ab b) : Calls Try.prog 30 #[.slice Ab b.length cb] w0 (Ret fun v w' => ∃ (cs0 : List Value), v = .tuple #[.agg cs0.toArray, .bool ((lineS b).2)] ∧ Has w0 w' [hp w0] ∧ kLine.K emp ((lineS b).1) cs0) := by
  refine fnstart (N := 49) Try.func30 rfl Try.ntmps30 (Nat.le_of_ble_eq_true rfl) ?_
  have hH0 : Has w0 w0 [hp w0] := Has.refl w0
  have hlb := hb.len
  refine CW.seq (CW.region rfl ?_)
  refine W.alloc rfl rfl rfl rfl Try.zr37 rfl hH0 (fun b1 zb1 w1 hH1 hB1 => ?_)
  refine W.val rfl rfl rfl (R.assign rfl rfl) (W.nil (EX.then_n (CW.seq (CW.region rfl ?_))))
  refine W.bsE rfl rfl rfl rfl Try.underlying47 Try.inf3 hH1 (fun b2 zb2 w2 hH2 hB2 => ?_)
  refine W.val rfl rfl rfl (R.assign rfl rfl) (W.nil (EX.then_n (CW.seq (CW.region rfl (W.val rfl rfl rfl (R.assign rfl rfl) (W.nil (EX.then_n ?_)))))))
  refine CW.seq (CW.block ?_)
  have hH3 := hH2.f2
  have hH4 := hH3.f2
  have hH5 := hH4.f2
  obtain ⟨I1, hI1⟩ : ∃ I : Nat → List (Nat × Value) → World → Prop, I = (fun n_ D_ w_ => ∃ (acc : List Int) (at_ : Nat) (A : Option Addr) (c : Nat) (z : PH), D_ = [(4, .slice A acc.length c), (5, .int .i64 (at_ : Int))] ∧ n_ = 4 - acc.length ∧ Has w0 w_ [z, zb1, (hp w0)] ∧ (acc.length ≤ 4) ∧ (at_ ≤ b.length) ∧ (nums 4 b = after acc (nums (4 - acc.length) (b.drop at_))) ∧ (Own kInt 3 emp z A c acc)) := ⟨_, rfl⟩
  refine CW.loop3 [3, 4, 5, 6, 7, 8, 10, 11, 12, 13, 14, 15, 16, 17, 18, 19, 20, 21, 22, 23, 24, 25, 26, 27, 28, 29, 30, 31] I1 _ _ ?_ (by rw [hI1]; exact ⟨[], 0, _, _, _, rfl, rfl, hH5, by simp, by omega, (after_nil _).symm, (Own.blk (κ := kInt) (zi := emp) (xs := []) hB2 rfl rfl (by decide))⟩) ?_
  exact ⟨rfl, lk_int rfl (by first | rfl | omega), trivial⟩
  intro n1 D w3 hn1
  rw [hI1] at hn1
  obtain ⟨acc, at_, A, c, z, rfl, hme1, hH6, h4, hat, he, hO⟩ := hn1
  refine CW.seq (CW.seq (CW.region rfl (W.val rfl rfl rfl (R.move rfl rfl) (W.val rfl rfl rfl (R.len_slice rfl rfl Try.underlying47) (W.val rfl rfl rfl (R.lss rfl rfl rfl) (W.nil (EX.then_n ?_)))))))
  refine CW.cond rfl (fun hc1 => ?_) (fun hc1 => ?_)
  replace hc1 := of_decide_eq_true hc1
  refine CW.skip (EX.then_n (CW.block (CW.seq (CW.region rfl (W.val rfl rfl rfl (R.move rfl rfl) (W.val rfl rfl rfl (R.move rfl rfl) ?_))))))
  refine W.slice _ _ rfl rfl rfl rfl rfl (.inr ⟨_, _, rfl, rfl⟩) (.inl ⟨rfl, rfl⟩) Try.underlying22 Try.sz5 hb lb (by omega) (by omega) (by omega) (fun B1 c1 ys1 hys1 hyl1 hr1 hl1 => ?_)
  rw [drop_tail, Int.toNat_natCast] at hys1
  subst hys1
  refine W.call rfl rfl rfl rfl rfl Try.func74 Try.nm74 Try.bd74 (r02_Decode _ _ _ w3 hl1 (hr1.mono (hH6.le m2))) ?_
  rintro v1 w4 ⟨rfl, hH7⟩
  have hH8 := hH6.c0 hH7
  have hdv := decv_all (b.drop at_)
  rw [List.length_drop] at hdv
  refine W.val rfl rfl rfl (R.move rfl rfl) (W.val rfl rfl rfl (R.extract rfl rfl rfl) (W.val rfl rfl rfl (R.extract rfl rfl rfl) (W.val rfl rfl rfl (R.extract rfl rfl rfl) (W.val rfl rfl rfl (R.assign rfl rfl) (W.val rfl rfl rfl (R.assign rfl rfl) (W.val rfl rfl rfl (R.assign rfl rfl) (W.nil ?_)))))))
  refine EX.then_n (CW.seq (CW.seq (CW.region rfl (W.val rfl rfl rfl (R.move rfl rfl) (W.val rfl rfl rfl (R.neq rfl rfl rfl) (W.nil (EX.then_n ?_)))))))
  refine CW.cond rfl (fun hc2 => ?_) (fun hc2 => ?_)
  replace hc2 := of_ndec_t hc2
  refine CW.seq (CW.region rfl (W.val rfl rfl rfl (R.build rfl rfl Try.zr37 rfl (by rw [Try.underlying37]; rfl) Try.plc37 rfl) ?_))
  have hH9 := hH8.f1
  refine W.sg0 rfl rfl rfl rfl rfl Try.sz37 rfl (by rfl) hH9 hB1 (fun zb3 w5 hH10 hB3 => ?_)
  refine W.val rfl rfl rfl (R.assign rfl rfl) (W.nil (EX.then_n (CW.ret (EX.then_ret (EX.blk_ret (EX.then_ret (EX.blk_ret ?_)))))))
  refine EX.then_ret (EX.retV Try.results30 (.cons (.agg rfl (fun w => run_isAgg_struct Try.underlying37 w) (by exact Try.sz37) (fun k u hk => hH10.cell m0 (hB3.at_ k u hk))) (.cons (.tmp rfl) RVs.nil)) ?_)
  have hH11 := hH10.f2
  have hH12 := hH11.upto1
  rw [lineS_bad (he.trans (nums_bad (by omega) (by omega)))]
  refine ⟨_, ?_, hH12, ⟨rfl, (by first | omega | decide | (dsimp only [GField.none]; omega)), (by first | omega | decide | (dsimp only [GField.none]; omega)), (by first | omega | decide | (dsimp only [GField.none]; omega)), (by first | omega | decide | (dsimp only [GField.none]; omega)), (by first | omega | decide | (dsimp only [GField.none]; omega)), (by first | omega | decide | (dsimp only [GField.none]; omega)), (by first | omega | decide | (dsimp only [GField.none]; omega)), (by first | omega | decide | (dsimp only [GField.none]; omega))⟩⟩
  rfl
  replace hc2 := of_ndec_f hc2
  refine CW.skip (EX.then_n (CW.seq (CW.region rfl (W.val rfl rfl rfl (R.move rfl rfl) (W.val rfl rfl rfl (R.move rfl rfl) (W.call rfl rfl rfl rfl rfl Try.func29 Try.nm29 Try.bd29 (r09_clamp _ w4 (by omega) (by omega)) ?_))))))
  rintro v2 w6 ⟨rfl, hH13⟩
  have hH14 := hH8.c0 hH13
  have hcl : clampN (((decv (b.drop at_)).1 : Int)).toNat ≤ 4611686018427387904 := by unfold clampN; omega
  refine W.bs rfl rfl rfl rfl rfl Try.underlying47 Try.inf3 (by decide) rfl rfl hH14 (fun b3 zb4 w7 hH15 hB4 => ?_)
  have hH16 := hH15.f1
  refine W.app1 (_) rfl rfl rfl rfl rfl rfl rfl Try.underlying47 Try.inf3 rfl hH16 hB4 hO ⟨rfl, by omega, by omega⟩ (by decide) (by omega) (fun A1 c2 z1 w8 hH17 hO1 => ?_)
  refine W.val rfl rfl rfl (R.assign rfl rfl) (W.nil (EX.then_n (CW.region rfl (W.val rfl rfl rfl (R.move rfl rfl) (W.val rfl rfl rfl (R.move rfl rfl) (W.val rfl rfl rfl (R.addx rfl rfl rfl (ok_i64 (by omega))) (W.val rfl rfl rfl (R.assign rfl rfl) ?_)))))))
  refine W.nil (EX.blk_n ?_)
  have hH18 := hH17.f2
  have hH19 := hH18.f2
  have hH20 := hH19.f2
  have hH21 := hH20.upto3
  refine EX.back4 _ _ rfl ?_ (by rw [hI1]; exact ⟨acc ++ [(clampN (((decv (b.drop at_)).1 : Int)).toNat : Int)], at_ + (decv (b.drop at_)).2.1, _, _, _, rfl, rfl, hH21, by simp <;> omega, by omega, by rw [he, nums_go (by omega) (by omega), List.drop_drop, List.length_append]; simp only [Int.toNat_natCast, List.length_singleton], hO1⟩) ?_
  exact ⟨rfl, lk_int rfl (by push_cast; omega), trivial⟩
  simp <;> omega
  replace hc1 := of_decide_eq_false hc1
  refine CW.exit (EX.then_exit (EX.then_exit (EX.blk_here (EX.then_n (CW.seq ?_)))))
  have hH22 := hH6.drew
  refine CW.draw (fun w => Sub z w ∧ True) [] #[false, false, false, false, false, false, false, false, false, false, false, false, false, false, false, false, false, false, false] Try.mixed rfl rfl ⟨hH22.sub _ m0, trivial⟩ (WA.pure (i := 0) #[true, false, false, false, false, false, false, false, false, false, false, false, false, false, false, false, false, false, false] (blind_then (blind_body _ _)) rfl (by kernel_rfl) rfl rfl rfl (fun _ => R.move rfl rfl) ?_)
  refine WA.indexOwn (i := 1) #[true, true, false, false, false, false, false, false, false, false, false, false, false, false, false, false, false, false, false] (blind_then (blind_body _ _)) rfl (by kernel_rfl) rfl rfl rfl rfl rfl rfl Try.underlying47 Try.sz3 hO (by omega) (by omega) rfl (fun q1 cs1 y1 hy1 hK1 hat1 hq1 => ?_)
  try simp only [Int.toNat_natCast, Int.reduceToNat] at hy1
  have hK2 := hK1
  obtain ⟨rfl, hb1, hb2⟩ := hK2
  refine WA.take (i := 2) #[true, true, true, false, false, false, false, false, false, false, false, false, false, false, false, false, false, false, false] (blind_then (blind_body _ _)) rfl (by kernel_rfl) rfl rfl rfl (fun _ hw => R.load rfl rfl Try.pl3 (cellz_le hw.1 (at0 hat1 rfl))) ⟨hH22.sub _ m0, trivial⟩ (WA.pure (i := 3) #[true, true, true, true, false, false, false, false, false, false, false, false, false, false, false, false, false, false, false] (blind_then (blind_body _ _)) rfl (by kernel_rfl) rfl rfl rfl (fun _ => R.move rfl rfl) ?_)
  refine WA.indexOwn (i := 4) #[true, true, true, true, true, false, false, false, false, false, false, false, false, false, false, false, false, false, false] (blind_then (blind_body _ _)) rfl (by kernel_rfl) rfl rfl rfl rfl rfl rfl Try.underlying47 Try.sz3 hO (by omega) (by omega) rfl (fun q2 cs2 y2 hy2 hK3 hat2 hq2 => ?_)
  try simp only [Int.toNat_natCast, Int.reduceToNat] at hy2
  have hK4 := hK3
  obtain ⟨rfl, hb3, hb4⟩ := hK4
  refine WA.take (i := 5) #[true, true, true, true, true, true, false, false, false, false, false, false, false, false, false, false, false, false, false] (blind_then (blind_body _ _)) rfl (by kernel_rfl) rfl rfl rfl (fun _ hw => R.load rfl rfl Try.pl3 (cellz_le hw.1 (at0 hat2 rfl))) ⟨hH22.sub _ m0, trivial⟩ (WA.pure (i := 6) #[true, true, true, true, true, true, true, false, false, false, false, false, false, false, false, false, false, false, false] (blind_then (blind_body _ _)) rfl (by kernel_rfl) rfl rfl rfl (fun _ => R.move rfl rfl) ?_)
  refine WA.indexOwn (i := 7) #[true, true, true, true, true, true, true, true, false, false, false, false, false, false, false, false, false, false, false] (blind_then (blind_body _ _)) rfl (by kernel_rfl) rfl rfl rfl rfl rfl rfl Try.underlying47 Try.sz3 hO (by omega) (by omega) rfl (fun q3 cs3 y3 hy3 hK5 hat3 hq3 => ?_)
  try simp only [Int.toNat_natCast, Int.reduceToNat] at hy3
  have hK6 := hK5
  obtain ⟨rfl, hb5, hb6⟩ := hK6
  refine WA.take (i := 8) #[true, true, true, true, true, true, true, true, true, false, false, false, false, false, false, false, false, false, false] (blind_then (blind_body _ _)) rfl (by kernel_rfl) rfl rfl rfl (fun _ hw => R.load rfl rfl Try.pl3 (cellz_le hw.1 (at0 hat3 rfl))) ⟨hH22.sub _ m0, trivial⟩ (WA.pure (i := 9) #[true, true, true, true, true, true, true, true, true, true, false, false, false, false, false, false, false, false, false] (blind_then (blind_body _ _)) rfl (by kernel_rfl) rfl rfl rfl (fun _ => R.move rfl rfl) ?_)
  refine WA.indexOwn (i := 10) #[true, true, true, true, true, true, true, true, true, true, true, false, false, false, false, false, false, false, false] (blind_then (blind_body _ _)) rfl (by kernel_rfl) rfl rfl rfl rfl rfl rfl Try.underlying47 Try.sz3 hO (by omega) (by omega) rfl (fun q4 cs4 y4 hy4 hK7 hat4 hq4 => ?_)
  try simp only [Int.toNat_natCast, Int.reduceToNat] at hy4
  have hK8 := hK7
  obtain ⟨rfl, hb7, hb8⟩ := hK8
  refine WA.take (i := 11) #[true, true, true, true, true, true, true, true, true, true, true, true, false, false, false, false, false, false, false] (blind_then (blind_body _ _)) rfl (by kernel_rfl) rfl rfl rfl (fun _ hw => R.load rfl rfl Try.pl3 (cellz_le hw.1 (at0 hat4 rfl))) ⟨hH22.sub _ m0, trivial⟩ (WA.pure (i := 13) #[true, true, true, true, true, true, true, true, true, true, true, true, false, true, false, false, false, false, false] (blind_then (blind_body _ _)) rfl (by kernel_rfl) rfl rfl rfl (fun _ => R.move rfl rfl) (WA.pure (i := 14) #[true, true, true, true, true, true, true, true, true, true, true, true, false, true, true, false, false, false, false] (blind_then (blind_body _ _)) rfl (by kernel_rfl) rfl rfl rfl (fun _ => R.move rfl rfl) (WA.pure (i := 15) #[true, true, true, true, true, true, true, true, true, true, true, true, false, true, true, true, false, false, false] (blind_then (blind_body _ _)) rfl (by kernel_rfl) rfl rfl rfl (fun _ => R.len_slice rfl rfl Try.underlying22) (WA.pure (i := 16) #[true, true, true, true, true, true, true, true, true, true, true, true, false, true, true, true, true, false, false] (blind_then (blind_body _ _)) rfl (by kernel_rfl) rfl rfl rfl (fun _ => R.eql rfl rfl rfl) (WA.one (i := 12) #[true, true, true, true, true, true, true, true, true, true, true, true, true, true, true, true, true, false, false] rfl (by kernel_rfl) rfl (W.val rfl rfl rfl (R.build rfl rfl Try.zr37 rfl (by rw [Try.underlying37]; rfl) Try.plc37 rfl) (W.nil ?_)))))))
  refine EX.wa ⟨hH22.sub _ m0, trivial⟩ (WA.one (i := 17) #[true, true, true, true, true, true, true, true, true, true, true, true, true, true, true, true, true, true, false] rfl (by kernel_rfl) rfl ?_)
  have hH23 := hH22.f1
  refine W.sg0 rfl rfl rfl rfl rfl Try.sz37 rfl (by rfl) hH23 hB1 (fun zb5 w9 hH24 hB5 => ?_)
  refine W.nil (EX.wa ⟨hH24.sub _ m1, trivial⟩ (WA.pure (i := 18) #[true, true, true, true, true, true, true, true, true, true, true, true, true, true, true, true, true, true, true] (blind_then (blind_body _ _)) rfl (by kernel_rfl) rfl rfl rfl (fun _ => R.assign rfl rfl) (WA.done (by kernel_rfl) (EX.then_n (CW.ret (EX.retV Try.results30 (.cons (.agg rfl (fun w => run_isAgg_struct Try.underlying37 w) (by exact Try.sz37) (fun k u hk => hH24.cell m0 (hB5.at_ k u hk))) (.cons (.tmp rfl) RVs.nil)) ?_))))))
  have hH25 := hH24.f2
  have hH26 := hH25.upto1
  have h5 : acc.length = 4 := by omega
  rw [h5] at he
  have hq : decide (((b.drop at_).length : Int) = 0) = decide ((at_ : Int) = b.length) := decide_eq_decide.2 (by rw [List.length_drop]; omega)
  rw [lineS_four (D := acc) (bs := b.drop at_) (by rw [List.take_of_length_le (by omega)]; exact he) h5 hy1 hy2 hy3 hy4, hq]
  refine ⟨_, ?_, hH26, ⟨rfl, (by first | omega | decide | (dsimp only [GField.none]; omega)), (by first | omega | decide | (dsimp only [GField.none]; omega)), (by first | omega | decide | (dsimp only [GField.none]; omega)), (by first | omega | decide | (dsimp only [GField.none]; omega)), (by first | omega | decide | (dsimp only [GField.none]; omega)), (by first | omega | decide | (dsimp only [GField.none]; omega)), (by first | omega | decide | (dsimp only [GField.none]; omega)), (by first | omega | decide | (dsimp only [GField.none]; omega))⟩⟩
  rfl

end Go.Proofs.Gw
namespace Go.Proofs.Gw
open Go Go.Gw Go.Proofs Go.RowKit
set_option maxRecDepth 100000 in
set_option maxHeartbeats 1000000 in
theorem r09_Decode (Ab : Option Addr) (cb : Nat) (b : List UInt8) (w0 : World) (lb : b.length ≤ cb) (hb : Row kU8 (hp w0) Ab b) : Calls Try.prog 9 #[.slice Ab b.length cb] w0 (Ret fun v w' => ∃ (cs0 : List Value) (z0 : PH), v = .tuple #[.agg cs0.toArray, .int .i64 ((decS b).2)] ∧ Has w0 w' [z0, hp w0] ∧ kState.K z0 ((decS b).1) cs0) := by
  refine fnstart (N := 147) Try.func9 rfl Try.ntmps9 (Nat.le_of_ble_eq_true rfl) ?_
  have hH0 : Has w0 w0 [hp w0] := Has.refl w0
  refine CW.seq (CW.region rfl ?_)
  refine W.alloc rfl rfl rfl rfl Try.zr28 rfl hH0 (fun b1 zb1 w1 hH1 hB1 => ?_)
  refine W.val rfl rfl rfl (R.assign rfl rfl) (W.nil (EX.then_n (CW.seq (CW.region rfl (W.val rfl rfl rfl (R.build rfl rfl Try.zr28 rfl (by rw [Try.underlying28]; rfl) Try.plc28 rfl) ?_)))))
  refine W.alloc rfl rfl rfl rfl Try.zr28 rfl hH1 (fun b2 zb2 w2 hH2 hB2 => ?_)
  refine W.sg0 rfl rfl rfl rfl rfl Try.sz28 rfl (by rfl) hH2 hB2 (fun zb3 w3 hH3 hB3 => ?_)
  refine W.nil (EX.then_n (CW.seq (CW.region rfl (W.val rfl rfl rfl (R.move rfl rfl) (W.call rfl rfl rfl rfl rfl Try.func28 Try.nm28 Try.bd28 (r05_Decode _ _ _ w3 lb (hb.mono (hH3.le m2))) ?_)))))
  rintro v1 w4 ⟨A01, c01, z01, y01, rfl, hH4, hO01⟩
  have hH5 := hH3.c2 hH4
  refine W.val rfl rfl rfl (R.move rfl rfl) (W.val rfl rfl rfl (R.extract rfl rfl rfl) (W.val rfl rfl rfl (R.extract rfl rfl rfl) (W.val rfl rfl rfl (R.extract rfl rfl rfl) (W.val rfl rfl rfl (R.assign rfl rfl) (W.val rfl rfl rfl (R.assign rfl rfl) (W.val rfl rfl rfl (R.assign rfl rfl) (W.nil ?_)))))))
  refine EX.then_n (CW.seq (CW.seq (CW.region rfl (W.val rfl rfl rfl (R.move rfl rfl) (W.val rfl rfl rfl (R.neq rfl rfl rfl) (W.nil (EX.then_n ?_)))))))
  refine CW.cond rfl (fun hc1 => ?_) (fun hc1 => ?_)
  replace hc1 := of_ndec_t hc1
  refine CW.seq (CW.region rfl (W.lg0 rfl rfl rfl rfl rfl Try.pl28 (by rw [Try.underlying28]; rfl) (by exact Try.sz28) hH5 m2 hB3 (W.val rfl rfl rfl (R.move rfl rfl) ?_)))
  have hH6 := hH5.f3
  refine W.sg0 rfl rfl rfl rfl rfl Try.sz28 rfl (by rfl) hH6 hB1 (fun zb4 w5 hH7 hB4 => ?_)
  refine W.val rfl rfl rfl (R.assign rfl rfl) (W.nil (EX.then_n (CW.ret (EX.then_ret (EX.retV Try.results9 (.cons (.agg rfl (fun w => run_isAgg_struct Try.underlying28 w) (by exact Try.sz28) (fun k u hk => hH7.cell m0 (hB4.at_ k u hk))) (.cons (.tmp rfl) RVs.nil)) ?_)))))
  have hH8 := hH7.emp
  have hH9 := hH8.f5
  have hH10 := hH9.f1
  have hH11 := hH10.upto2
  rw [decS_err (by omega)]
  refine ⟨_, _, ?_, hH11, ⟨_, _, rfl, (by first | omega | decide | (dsimp only [GField.none]; omega)), (by first | omega | decide | (dsimp only [GField.none]; omega)), (by first | omega | decide | (dsimp only [GField.none]; omega)), (by first | omega | decide | (dsimp only [GField.none]; omega)), (by first | omega | decide | (dsimp only [GField.none]; omega)), (by first | omega | decide | (dsimp only [GField.none]; omega)), (by first | omega | decide | (dsimp only [GField.none]; omega)), (by first | omega | decide | (dsimp only [GField.none]; omega)), (by first | omega | decide | (dsimp only [GField.none]; omega)), (by first | omega | decide | (dsimp only [GField.none]; omega)), (by first | omega | decide | (dsimp only [GField.none]; omega)), (by first | omega | decide | (dsimp only [GField.none]; omega)), (by first | omega | decide | (dsimp only [GField.none]; omega)), (by first | omega | decide | (dsimp only [GField.none]; omega)), (by first | omega | decide | (dsimp only [GField.none]; omega)), (by first | omega | decide | (dsimp only [GField.none]; omega)), (by first | omega | decide | (dsimp only [GField.none]; omega)), (by first | omega | decide | (dsimp only [GField.none]; omega)), (by first | omega | decide | (dsimp only [GField.none]; omega)), (by first | omega | decide | (dsimp only [GField.none]; omega)), (Nat.le_of_ble_eq_true rfl), (Nat.le_refl _), (Row.nil _ _ none)⟩⟩
  rfl
  replace hc1 := of_ndec_f hc1
  refine CW.skip (EX.then_n (CW.seq (CW.region rfl ?_)))
  refine W.mk (κ := kInt) 0 rfl rfl rfl rfl rfl rfl Try.underlying47 Try.inf3 ⟨rfl, by decide, by decide⟩ (by omega) (by omega) (by omega) hH5 (fun A1 c1 ml1 xs1 z2 w6 hH12 hm1 hmn1 hxs1 hO1 => ?_)
  refine W.val rfl rfl rfl (R.assign rfl rfl) (W.nil (EX.then_n (CW.seq (CW.region rfl (W.val rfl rfl rfl (R.build rfl rfl Try.zr28 rfl (by rw [Try.underlying28]; rfl) Try.plc28 rfl) ?_)))))
  refine W.alloc rfl rfl rfl rfl Try.zr28 rfl hH12 (fun b3 zb5 w7 hH13 hB5 => ?_)
  refine W.sg0 rfl rfl rfl rfl rfl Try.sz28 rfl (by rfl) hH13 hB5 (fun zb6 w8 hH14 hB6 => ?_)
  refine W.nil (EX.then_n (CW.seq (CW.region rfl (W.val rfl rfl rfl (R.assign rfl rfl) (W.nil (EX.then_n (CW.seq ?_)))))))
  refine CW.region rfl (W.val rfl rfl rfl (R.assign rfl rfl) (W.nil (EX.then_n (CW.seq (CW.region rfl (W.val rfl rfl rfl (R.assign rfl rfl) (W.nil ?_)))))))
  refine EX.then_n (CW.seq (CW.seq (CW.region rfl (W.val rfl rfl rfl (R.move rfl rfl) (W.val rfl rfl rfl (R.len_slice rfl rfl Try.underlying72) (W.val rfl rfl rfl (R.move rfl rfl) (W.nil ?_)))))))
  refine EX.then_n (CW.block ?_)
  have hH15 := hH14.emp
  have hOlen := (hO01.row (hH15.le m3) (hH15.le m4)).len
  have hnl0 : xs1 = (List.replicate 11 0 : List Int) := by rw [hxs1, show ml1 = 11 by omega]
  have hH16 := hH15.f1
  have hH17 := hH16.f2
  have hH18 := hH17.f2
  have hH19 := hH18.f7
  have hH20 := hH19.f7
  have hH21 := hH20.f7
  have hH22 := hH21.f7
  have hH23 := hH22.f7
  have hH24 := hH23.f7
  have hH25 := hH24.f7
  have hH26 := hH25.f7
  obtain ⟨I1, hI1⟩ : ∃ I : Nat → List (Nat × Value) → World → Prop, I = (fun n_ D_ w_ => ∃ (k : Nat) (nums : List Int) (who : ByteArray) (ls : List GLine) (gap : Bool) (ok : Bool) (Al : Option Addr) (cl : Nat) (zl : PH) (zn : PH) (zs : PH), D_ = [(32, .int .i64 (k : Int)), (10, .int .i64 (12 + (ls.length : Int))), (11, .bool gap), (12, .bool ok)] ∧ n_ = (decFs b).1.length - k ∧ Has w0 w_ [zl, zn, zs, z01, y01, zb3, zb1, (hp w0)] ∧ (k ≤ (decFs b).1.length) ∧ (decGo (decFs b).1 initD = decGo ((decFs b).1.drop k) ⟨nums, who, ls, gap, ok⟩) ∧ (ml1 = nums.length) ∧ (who.size ≤ 9223372036854775807) ∧ (ls.length ≤ 16) ∧ (Own kInt 3 emp zn A1 c1 nums) ∧ (Own kLine 37 emp zl Al cl ls) ∧ (Blk zs b3 28 [.int .i64 0, .int .i64 0, .int .i64 0, .int .i64 0, .int .i64 0, .slice Al ls.length cl, .int .i64 0, .int .i64 0, .int .i64 0, .int .i64 0, .int .i64 0, .string who])) := ⟨_, rfl⟩
  refine CW.loop3 [3, 10, 11, 12, 13, 14, 15, 16, 32, 33, 34, 35, 36, 37, 38, 39, 40, 41, 42, 43, 44, 45, 46, 47, 48, 49, 50, 51, 52, 53, 54, 55, 56, 57, 58, 59, 60, 61, 62, 63, 64, 65, 66, 67, 68, 69, 70, 71, 72, 73, 74, 75, 76, 77, 78, 79, 80, 81, 82, 83, 84, 85, 86, 87, 88, 89, 90, 91, 92, 93, 94, 95] I1 _ _ ?_ (by rw [hI1]; exact ⟨0, xs1, ⟨#[]⟩, [], false, true, none, 0, _, _, _, rfl, rfl, hH26, by omega, (by rw [hnl0]; rfl), hm1, (Nat.le_of_ble_eq_true rfl), Nat.zero_le _, hO1, Own.nil _ _ _, hB6⟩) ?_
  exact ⟨lk_int rfl (by first | rfl | omega), lk_int rfl rfl, rfl, rfl, trivial⟩
  intro n1 D w9 hn1
  rw [hI1] at hn1
  obtain ⟨k, nums, who, ls, gap, ok, Al, cl, zl, zn, zs, rfl, hme1, hH27, hk, he, hl, hwho, hll, hOn, hOl, hBs⟩ := hn1
  refine CW.seq (CW.region rfl (W.val rfl rfl rfl (R.lss rfl rfl rfl) (W.nil (EX.then_n (CW.seq ?_)))))
  refine CW.cond rfl (fun hc2 => ?_) (fun hc2 => ?_)
  replace hc2 := of_decide_eq_true hc2
  refine CW.skip (EX.then_n (CW.seq (CW.block (CW.seq (CW.region rfl (W.val rfl rfl rfl (R.move rfl rfl) (W.val rfl rfl rfl (R.assign rfl rfl) ?_)))))))
  refine W.nil (EX.then_n (CW.seq (CW.region rfl (W.val rfl rfl rfl (R.move rfl rfl) (W.val rfl rfl rfl (R.move rfl rfl) ?_)))))
  refine W.indexOwn rfl rfl rfl rfl rfl rfl Try.underlying72 Try.sz77 hO01 (by omega) (by omega) rfl (fun q1 cs1 y1 hy1 hK1 hat1 hq1 => ?_)
  try simp only [Int.toNat_natCast, Int.reduceToNat] at hy1
  have hK2 := hK1
  obtain ⟨A2, c2, rfl, hb1, hb2, hb3, hb4, hl1, hr1⟩ := hK2
  have hlen1 := hr1.len
  have hgd := decFs_good (List.mem_of_getElem? hy1)
  obtain ⟨hg1, hg2, hg3⟩ := hgd
  have hcl : clampN y1.Num.toNat ≤ 4611686018427387904 := by unfold clampN; omega
  refine W.lga rfl rfl rfl rfl rfl Try.pl77 (by rw [Try.underlying77]; rfl) (by exact Try.sz77) hH27 m3 hat1 ?_
  refine W.alloc rfl rfl rfl rfl Try.zr77 rfl hH27 (fun b4 zb7 w10 hH28 hB7 => ?_)
  refine W.sg0 rfl rfl rfl rfl rfl Try.sz77 rfl (by rfl) hH28 hB7 (fun zb8 w11 hH29 hB8 => ?_)
  refine W.nil (EX.then_n (CW.seq (CW.seq (CW.region rfl (W.val rfl rfl rfl (R.fa0 0 rfl rfl Try.underlying77 rfl Try.sz3 rfl) (W.ldk rfl rfl rfl rfl rfl Try.pl3 hH29 m0 hB8 rfl (W.val rfl rfl rfl (R.leq rfl rfl rfl) ?_)))))))
  refine W.nil (EX.then_n ?_)
  refine CW.cond rfl (fun hc3 => ?_) (fun hc3 => ?_)
  replace hc3 := of_decide_eq_true hc3
  refine CW.seq (CW.seq (CW.region rfl (W.val rfl rfl rfl (R.fa0 1 rfl rfl Try.underlying77 rfl Try.sz4 rfl) (W.ldk rfl rfl rfl rfl rfl Try.pl4 hH29 m0 hB8 rfl (W.nil (EX.then_n ?_))))))
  refine CW.cond rfl (fun hc4 => ?_) (fun hc4 => ?_)
  try subst hc4
  refine CW.seq (CW.region rfl (W.lg0 rfl rfl rfl rfl rfl Try.pl28 (by rw [Try.underlying28]; rfl) (by exact Try.sz28) hH29 m6 hB3 ?_))
  have hH30 := hH29.f7
  refine W.sg0 rfl rfl rfl rfl rfl Try.sz28 rfl (by rfl) hH30 hB1 (fun zb9 w12 hH31 hB9 => ?_)
  refine W.val rfl rfl rfl (R.assign rfl rfl) (W.nil (EX.then_n (CW.ret (EX.then_ret (EX.then_ret (EX.blk_ret (EX.then_ret ?_)))))))
  refine EX.then_ret (EX.blk_ret (EX.then_ret (EX.retV Try.results9 (.cons (.agg rfl (fun w => run_isAgg_struct Try.underlying28 w) (by exact Try.sz28) (fun k u hk => hH31.cell m0 (hB9.at_ k u hk))) (.cons (.tmp rfl) RVs.nil)) ?_)))
  have hH32 := hH31.emp
  have hH33 := hH32.f9
  have hH34 := hH33.f1
  have hH35 := hH34.upto2
  have hd : decS b = (zeroS, 33) := decS_none (by omega) (he.trans (go_form hy1 (by omega) (by assumption)))
  rw [hd]
  refine ⟨_, _, ?_, hH35, ⟨_, _, rfl, (by first | omega | decide | (dsimp only [GField.none]; omega)), (by first | omega | decide | (dsimp only [GField.none]; omega)), (by first | omega | decide | (dsimp only [GField.none]; omega)), (by first | omega | decide | (dsimp only [GField.none]; omega)), (by first | omega | decide | (dsimp only [GField.none]; omega)), (by first | omega | decide | (dsimp only [GField.none]; omega)), (by first | omega | decide | (dsimp only [GField.none]; omega)), (by first | omega | decide | (dsimp only [GField.none]; omega)), (by first | omega | decide | (dsimp only [GField.none]; omega)), (by first | omega | decide | (dsimp only [GField.none]; omega)), (by first | omega | decide | (dsimp only [GField.none]; omega)), (by first | omega | decide | (dsimp only [GField.none]; omega)), (by first | omega | decide | (dsimp only [GField.none]; omega)), (by first | omega | decide | (dsimp only [GField.none]; omega)), (by first | omega | decide | (dsimp only [GField.none]; omega)), (by first | omega | decide | (dsimp only [GField.none]; omega)), (by first | omega | decide | (dsimp only [GField.none]; omega)), (by first | omega | decide | (dsimp only [GField.none]; omega)), (by first | omega | decide | (dsimp only [GField.none]; omega)), (by first | omega | decide | (dsimp only [GField.none]; omega)), (Nat.le_of_ble_eq_true rfl), (Nat.le_refl _), (Row.nil _ _ none)⟩⟩
  rfl
  try subst hc4
  refine CW.skip (EX.then_n (CW.seq ?_))
  have hH36 := hH29.drew
  refine CW.draw (fun w => Sub zb8 w ∧ True) [] #[false, false, false, false, false, false, false, false] Try.mixed rfl rfl ⟨hH36.sub _ m0, trivial⟩ (WA.pure (i := 0) #[true, false, false, false, false, false, false, false] (blind_then (blind_then (blind_blk (blind_then (blind_then (blind_blk (blind_then (blind_body _ _)))))))) rfl (by kernel_rfl) rfl rfl rfl (fun _ => R.move rfl rfl) (WA.pure (i := 1) #[true, true, false, false, false, false, false, false] (blind_then (blind_then (blind_blk (blind_then (blind_then (blind_blk (blind_then (blind_body _ _)))))))) rfl (by kernel_rfl) rfl rfl rfl (fun _ => R.fa0 0 rfl rfl Try.underlying77 rfl Try.sz3 rfl) (WA.take (i := 2) #[true, true, true, false, false, false, false, false] (blind_then (blind_then (blind_blk (blind_then (blind_then (blind_blk (blind_then (blind_body _ _)))))))) rfl (by kernel_rfl) rfl rfl rfl (fun _ hw => R.load rfl rfl Try.pl3 (cellz_le hw.1 (hB8.at_ 0 _ rfl))) ⟨hH36.sub _ m0, trivial⟩ (WA.pure (i := 3) #[true, true, true, true, false, false, false, false] (blind_then (blind_then (blind_blk (blind_then (blind_then (blind_blk (blind_then (blind_body _ _)))))))) rfl (by kernel_rfl) rfl rfl rfl (fun _ => R.fa0 2 rfl rfl Try.underlying77 rfl Try.sz75 rfl) (WA.take (i := 4) #[true, true, true, true, true, false, false, false] (blind_then (blind_then (blind_blk (blind_then (blind_then (blind_blk (blind_then (blind_body _ _)))))))) rfl (by kernel_rfl) rfl rfl rfl (fun _ hw => R.load rfl rfl Try.pl75 (cellz_le hw.1 (hB8.at_ 2 _ rfl))) ⟨hH36.sub _ m0, trivial⟩ (WA.one (i := 5) #[true, true, true, true, true, true, false, false] rfl (by kernel_rfl) rfl (W.call rfl rfl rfl rfl rfl Try.func29 Try.nm29 Try.bd29 (r09_clamp _ (w11.drew) (by omega) (by omega)) ?_)))))))
  rintro v2 w13 ⟨rfl, hH37⟩
  have hH38 := hH36.c0 hH37
  refine W.nil (EX.wa ⟨hH38.sub _ m0, trivial⟩ ?_)
  refine WA.indexOwn (i := 6) #[true, true, true, true, true, true, true, false] (blind_then (blind_then (blind_blk (blind_then (blind_then (blind_blk (blind_then (blind_body _ _)))))))) rfl (by kernel_rfl) rfl rfl rfl rfl rfl rfl Try.underlying47 Try.sz3 hOn (by omega) (by omega) hl (fun q2 cs2 y2 hy2 hK3 hat2 hq2 => ?_)
  try simp only [Int.toNat_natCast, Int.reduceToNat] at hy2
  have hK4 := hK3
  obtain ⟨rfl, hb5, hb6⟩ := hK4
  refine WA.one (i := 7) #[true, true, true, true, true, true, true, true] rfl (by kernel_rfl) rfl ?_
  have hH39 := hH38.f2
  refine W.storeEl0 (_) rfl rfl rfl rfl rfl Try.sz3 rfl rfl hOn hq2 hy2 hK3 hat2 ⟨rfl, by omega, by omega⟩ hH39 (fun z5 w14 hH40 hO2 => ?_)
  refine W.nil (EX.wa ⟨hH40.sub _ m1, trivial⟩ (WA.done (by kernel_rfl) (EX.then_n (CW.exit (EX.then_exit (EX.blk_here (EX.then_n ?_)))))))
  refine CW.region rfl (W.val rfl rfl rfl (R.addx rfl rfl rfl (ok_i64 (by omega))) (W.val rfl rfl rfl (R.move rfl rfl) (W.nil ?_)))
  have hH41 := hH40.f8
  have hH42 := hH41.f8
  have hH43 := hH42.f8
  have hH44 := hH43.f8
  have hH45 := hH44.f8
  have hH46 := hH45.f8
  have hH47 := hH46.f6
  have hH48 := hH47.f8
  have hH49 := hH48.upto8
  refine EX.back4 _ _ rfl ?_ (by rw [hI1]; exact ⟨k + 1, _, who, ls, gap, ok, _, _, _, _, _, rfl, rfl, hH49, by omega, he.trans (go_num hy1 (by omega) (by simpa using hc4)), (by simpa using hl), hwho, (by first | omega | (simp only [List.length_append, List.length_singleton]; omega)), hO2, hOl, hBs⟩) ?_
  exact ⟨lk_int rfl (by first | rfl | omega), lk_int rfl (by first | rfl | (simp only [List.length_append, List.length_singleton]; omega)), rfl, rfl, trivial⟩
  omega
  replace hc3 := of_decide_eq_false hc3
  refine CW.skip (EX.then_n (CW.seq (CW.seq (CW.region rfl (W.val rfl rfl rfl (R.fa0 0 rfl rfl Try.underlying77 rfl Try.sz3 rfl) (W.ldk rfl rfl rfl rfl rfl Try.pl3 hH29 m0 hB8 rfl (W.val rfl rfl rfl (R.gtr rfl rfl rfl) ?_)))))))
  refine W.val rfl rfl rfl (R.move rfl rfl) ?_
  refine W.split (d := 55) rfl (fun hc5 => ?_) (fun hc5 => ?_)
  replace hc5 := of_decide_eq_true hc5
  refine W.val rfl rfl rfl (R.fa0 0 rfl rfl Try.underlying77 rfl Try.sz3 rfl) (W.ldk rfl rfl rfl rfl rfl Try.pl3 hH29 m0 hB8 rfl (W.val rfl rfl rfl (R.move rfl rfl) (W.val rfl rfl rfl (R.neq rfl rfl rfl) (W.val rfl rfl rfl (R.pick_t rfl rfl rfl) (W.val rfl rfl rfl (R.move rfl rfl) ?_)))))
  refine W.split (d := 61) rfl (fun hc6 => ?_) (fun hc6 => ?_)
  replace hc6 := of_ndec_t hc6
  refine W.off rfl rfl rfl (W.off rfl rfl rfl (W.off rfl rfl rfl (W.val rfl rfl rfl (R.pick_t rfl rfl rfl) (W.nil (EX.then_n (CW.cond_t rfl (CW.seq ?_)))))))
  refine CW.region rfl (W.val rfl rfl rfl (R.assign rfl rfl) (W.nil (EX.then_n (CW.exit (EX.then_exit (EX.blk_here (EX.then_n ?_)))))))
  refine CW.region rfl (W.val rfl rfl rfl (R.addx rfl rfl rfl (ok_i64 (by omega))) (W.val rfl rfl rfl (R.move rfl rfl) (W.nil ?_)))
  have hH50 := hH29.f8
  have hH51 := hH50.f8
  have hH52 := hH51.f8
  have hH53 := hH52.f8
  have hH54 := hH53.f8
  have hH55 := hH54.f8
  have hH56 := hH55.f8
  have hH57 := hH56.f8
  have hH58 := hH57.upto8
  refine EX.back4 _ _ rfl ?_ (by rw [hI1]; exact ⟨k + 1, nums, who, ls, true, ok, _, _, _, _, _, rfl, rfl, hH58, by omega, he.trans (go_gap hy1 (by omega) (by dsimp only; omega)), (by simpa using hl), hwho, (by first | omega | (simp only [List.length_append, List.length_singleton]; omega)), hOn, hOl, hBs⟩) ?_
  exact ⟨lk_int rfl (by first | rfl | omega), lk_int rfl (by first | rfl | (simp only [List.length_append, List.length_singleton]; omega)), rfl, rfl, trivial⟩
  omega
  replace hc6 := of_ndec_f hc6
  refine W.val rfl rfl rfl (R.fa0 0 rfl rfl Try.underlying77 rfl Try.sz3 rfl) (W.ldk rfl rfl rfl rfl rfl Try.pl3 hH29 m0 hB8 rfl (W.val rfl rfl rfl (R.gtr rfl rfl rfl) (W.val rfl rfl rfl (R.pick_f rfl rfl rfl) (W.nil (EX.then_n ?_)))))
  refine CW.cond rfl (fun hc7 => ?_) (fun hc7 => ?_)
  replace hc7 := of_decide_eq_true hc7
  refine CW.seq (CW.region rfl (W.val rfl rfl rfl (R.assign rfl rfl) (W.nil (EX.then_n (CW.exit (EX.then_exit (EX.blk_here ?_)))))))
  refine EX.then_n (CW.region rfl (W.val rfl rfl rfl (R.addx rfl rfl rfl (ok_i64 (by omega))) (W.val rfl rfl rfl (R.move rfl rfl) (W.nil ?_))))
  have hH59 := hH29.f8
  have hH60 := hH59.f8
  have hH61 := hH60.f8
  have hH62 := hH61.f8
  have hH63 := hH62.f8
  have hH64 := hH63.f8
  have hH65 := hH64.f8
  have hH66 := hH65.f8
  have hH67 := hH66.upto8
  refine EX.back4 _ _ rfl ?_ (by rw [hI1]; exact ⟨k + 1, nums, who, ls, true, ok, _, _, _, _, _, rfl, rfl, hH67, by omega, he.trans (go_gap hy1 (by omega) (by dsimp only; omega)), (by simpa using hl), hwho, (by first | omega | (simp only [List.length_append, List.length_singleton]; omega)), hOn, hOl, hBs⟩) ?_
  exact ⟨lk_int rfl (by first | rfl | omega), lk_int rfl (by first | rfl | (simp only [List.length_append, List.length_singleton]; omega)), rfl, rfl, trivial⟩
  omega
  replace hc7 := of_decide_eq_false hc7
  refine CW.skip (EX.then_n (CW.seq (CW.seq (CW.region rfl (W.val rfl rfl rfl (R.fa0 1 rfl rfl Try.underlying77 rfl Try.sz4 rfl) (W.ldk rfl rfl rfl rfl rfl Try.pl4 hH29 m0 hB8 rfl (W.val rfl rfl rfl (R.not rfl rfl) ?_)))))))
  refine W.nil (EX.then_n ?_)
  refine CW.cond rfl (fun hc8 => ?_) (fun hc8 => ?_)
  replace hc8 := of_not_t hc8
  try subst hc8
  refine CW.seq (CW.region rfl (W.lg0 rfl rfl rfl rfl rfl Try.pl28 (by rw [Try.underlying28]; rfl) (by exact Try.sz28) hH29 m6 hB3 ?_))
  have hH68 := hH29.f7
  refine W.sg0 rfl rfl rfl rfl rfl Try.sz28 rfl (by rfl) hH68 hB1 (fun zb10 w15 hH69 hB10 => ?_)
  refine W.val rfl rfl rfl (R.assign rfl rfl) (W.nil (EX.then_n (CW.ret (EX.then_ret (EX.blk_ret (EX.then_ret (EX.then_ret ?_)))))))
  refine EX.blk_ret (EX.then_ret (EX.retV Try.results9 (.cons (.agg rfl (fun w => run_isAgg_struct Try.underlying28 w) (by exact Try.sz28) (fun k u hk => hH69.cell m0 (hB10.at_ k u hk))) (.cons (.tmp rfl) RVs.nil)) ?_))
  have hH70 := hH69.emp
  have hH71 := hH70.f9
  have hH72 := hH71.f1
  have hH73 := hH72.upto2
  have hd : decS b = (zeroS, 33) := decS_none (by omega) (he.trans (go_form2 hy1 (by omega) (by dsimp only; omega) (by assumption)))
  rw [hd]
  refine ⟨_, _, ?_, hH73, ⟨_, _, rfl, (by first | omega | decide | (dsimp only [GField.none]; omega)), (by first | omega | decide | (dsimp only [GField.none]; omega)), (by first | omega | decide | (dsimp only [GField.none]; omega)), (by first | omega | decide | (dsimp only [GField.none]; omega)), (by first | omega | decide | (dsimp only [GField.none]; omega)), (by first | omega | decide | (dsimp only [GField.none]; omega)), (by first | omega | decide | (dsimp only [GField.none]; omega)), (by first | omega | decide | (dsimp only [GField.none]; omega)), (by first | omega | decide | (dsimp only [GField.none]; omega)), (by first | omega | decide | (dsimp only [GField.none]; omega)), (by first | omega | decide | (dsimp only [GField.none]; omega)), (by first | omega | decide | (dsimp only [GField.none]; omega)), (by first | omega | decide | (dsimp only [GField.none]; omega)), (by first | omega | decide | (dsimp only [GField.none]; omega)), (by first | omega | decide | (dsimp only [GField.none]; omega)), (by first | omega | decide | (dsimp only [GField.none]; omega)), (by first | omega | decide | (dsimp only [GField.none]; omega)), (by first | omega | decide | (dsimp only [GField.none]; omega)), (by first | omega | decide | (dsimp only [GField.none]; omega)), (by first | omega | decide | (dsimp only [GField.none]; omega)), (Nat.le_of_ble_eq_true rfl), (Nat.le_refl _), (Row.nil _ _ none)⟩⟩
  rfl
  replace hc8 := of_not_f hc8
  try subst hc8
  refine CW.skip (EX.then_n (CW.seq (CW.seq (CW.region rfl (W.val rfl rfl rfl (R.fa0 0 rfl rfl Try.underlying77 rfl Try.sz3 rfl) (W.ldk rfl rfl rfl rfl rfl Try.pl3 hH29 m0 hB8 rfl (W.val rfl rfl rfl (R.eql rfl rfl rfl) ?_)))))))
  refine W.nil (EX.then_n ?_)
  refine CW.cond rfl (fun hc9 => ?_) (fun hc9 => ?_)
  replace hc9 := of_decide_eq_true hc9
  exfalso
  omega
  replace hc9 := of_decide_eq_false hc9
  refine CW.skip (EX.then_n (CW.seq (CW.region rfl (W.val rfl rfl rfl (R.fa0 3 rfl rfl Try.underlying77 rfl Try.sz22 rfl) (W.ldk rfl rfl rfl rfl rfl Try.pl22 hH29 m0 hB8 rfl (W.call rfl rfl rfl rfl rfl Try.func30 Try.nm30 Try.bd30 (r09_Line _ _ _ w11 hl1 (hr1.mono (hH29.le m5))) ?_))))))
  rintro v3 w16 ⟨cs01, rfl, hH74, hK01⟩
  have hH75 := hH29.c0 hH74
  have hK5 := hK01
  obtain ⟨rfl, hb7, hb8, hb9, hb10, hb11, hb12, hb13, hb14⟩ := hK5
  refine W.val rfl rfl rfl (R.move rfl rfl) (W.val rfl rfl rfl (R.extract rfl rfl rfl) (W.val rfl rfl rfl (R.extract rfl rfl rfl) ?_))
  refine W.alloc rfl rfl rfl rfl Try.zr37 rfl hH75 (fun b5 zb11 w17 hH76 hB11 => ?_)
  refine W.sg0 rfl rfl rfl rfl rfl Try.sz37 rfl (by rfl) hH76 hB11 (fun zb12 w18 hH77 hB12 => ?_)
  refine W.val rfl rfl rfl (R.assign rfl rfl) (W.nil (EX.then_n (CW.seq (CW.region rfl (W.val rfl rfl rfl (R.move rfl rfl) (W.val rfl rfl rfl (R.move rfl rfl) ?_))))))
  refine W.split (d := 84) rfl (fun hc10 => ?_) (fun hc10 => ?_)
  try subst hc10
  refine W.val rfl rfl rfl (R.move rfl rfl) (W.val rfl rfl rfl (R.pick_t rfl rfl rfl) (W.val rfl rfl rfl (R.assign rfl rfl) (W.nil (EX.then_n (CW.seq (CW.region rfl (W.val rfl rfl rfl (R.fa0 5 rfl rfl Try.underlying28 rfl Try.sz26 rfl) ?_)))))))
  refine W.ldk rfl rfl rfl rfl rfl Try.pl26 hH77 m4 hBs rfl (W.lg0 rfl rfl rfl rfl rfl Try.pl37 (by rw [Try.underlying37]; rfl) (by exact Try.sz37) hH77 m0 hB12 ?_)
  refine W.bs rfl rfl rfl rfl rfl Try.underlying26 Try.inf37 (by decide) rfl rfl hH77 (fun b6 zb13 w19 hH78 hB13 => ?_)
  have hH79 := hH78.f3
  refine W.app1 (_) rfl rfl rfl rfl rfl rfl rfl Try.underlying26 Try.inf37 rfl hH79 hB13 hOl (hK01.mono (emp_le _)) (by decide) (by omega) (fun A3 c3 z7 w20 hH80 hO3 => ?_)
  refine W.val rfl rfl rfl (R.fa0 5 rfl rfl Try.underlying28 rfl Try.sz26 rfl) ?_
  have hH81 := hH80.f4
  refine W.storeLoc rfl rfl rfl rfl rfl Try.sz26 rfl (Nat.le_of_ble_eq_true rfl) hH81 hBs (fun zb14 w21 hH82 hB14 => ?_)
  refine W.nil (EX.then_n (CW.region rfl (W.val rfl rfl rfl (R.move rfl rfl) (W.val rfl rfl rfl (R.addx rfl rfl rfl (ok_i64 (by omega))) (W.val rfl rfl rfl (R.assign rfl rfl) (W.nil (EX.blk_n ?_)))))))
  refine EX.then_n (CW.region rfl (W.val rfl rfl rfl (R.addx rfl rfl rfl (ok_i64 (by omega))) (W.val rfl rfl rfl (R.move rfl rfl) (W.nil ?_))))
  have hH83 := hH82.f9
  have hH84 := hH83.f9
  have hH85 := hH84.f9
  have hH86 := hH85.f9
  have hH87 := hH86.f9
  have hH88 := hH87.f5
  have hH89 := hH88.f9
  have hH90 := hH89.f7
  have hH91 := hH90.upto8
  refine EX.back4 _ _ rfl ?_ (by rw [hI1]; exact ⟨k + 1, nums, who, ls ++ [(lineS y1.Bytes).1], gap, (lineS y1.Bytes).2, _, _, _, _, _, rfl, rfl, hH91, by omega, he.trans (go_line hy1 (by omega) (by dsimp only; omega) (by simpa using hc8) (by omega)), (by simpa using hl), hwho, (by first | omega | (simp only [List.length_append, List.length_singleton]; omega)), hOn, hO3, hB14⟩) ?_
  exact ⟨lk_int rfl (by first | rfl | omega), lk_int rfl (by first | rfl | (simp only [List.length_append, List.length_singleton]; omega)), rfl, rfl, trivial⟩
  omega
  try subst hc10
  refine W.off rfl rfl rfl (W.val rfl rfl rfl (R.pick_f rfl rfl rfl) (W.val rfl rfl rfl (R.assign rfl rfl) (W.nil (EX.then_n (CW.seq (CW.region rfl (W.val rfl rfl rfl (R.fa0 5 rfl rfl Try.underlying28 rfl Try.sz26 rfl) ?_)))))))
  refine W.ldk rfl rfl rfl rfl rfl Try.pl26 hH77 m4 hBs rfl (W.lg0 rfl rfl rfl rfl rfl Try.pl37 (by rw [Try.underlying37]; rfl) (by exact Try.sz37) hH77 m0 hB12 ?_)
  refine W.bs rfl rfl rfl rfl rfl Try.underlying26 Try.inf37 (by decide) rfl rfl hH77 (fun b7 zb15 w22 hH92 hB15 => ?_)
  have hH93 := hH92.f3
  refine W.app1 (_) rfl rfl rfl rfl rfl rfl rfl Try.underlying26 Try.inf37 rfl hH93 hB15 hOl (hK01.mono (emp_le _)) (by decide) (by omega) (fun A4 c4 z8 w23 hH94 hO4 => ?_)
  refine W.val rfl rfl rfl (R.fa0 5 rfl rfl Try.underlying28 rfl Try.sz26 rfl) ?_
  have hH95 := hH94.f4
  refine W.storeLoc rfl rfl rfl rfl rfl Try.sz26 rfl (Nat.le_of_ble_eq_true rfl) hH95 hBs (fun zb16 w24 hH96 hB16 => ?_)
  refine W.nil (EX.then_n (CW.region rfl (W.val rfl rfl rfl (R.move rfl rfl) (W.val rfl rfl rfl (R.addx rfl rfl rfl (ok_i64 (by omega))) (W.val rfl rfl rfl (R.assign rfl rfl) (W.nil (EX.blk_n ?_)))))))
  refine EX.then_n (CW.region rfl (W.val rfl rfl rfl (R.addx rfl rfl rfl (ok_i64 (by omega))) (W.val rfl rfl rfl (R.move rfl rfl) (W.nil ?_))))
  have hH97 := hH96.f9
  have hH98 := hH97.f9
  have hH99 := hH98.f9
  have hH100 := hH99.f9
  have hH101 := hH100.f9
  have hH102 := hH101.f5
  have hH103 := hH102.f9
  have hH104 := hH103.f7
  have hH105 := hH104.upto8
  refine EX.back4 _ _ rfl ?_ (by rw [hI1]; exact ⟨k + 1, nums, who, ls ++ [(lineS y1.Bytes).1], gap, false, _, _, _, _, _, rfl, rfl, hH105, by omega, he.trans (go_line hy1 (by omega) (by dsimp only; omega) (by simpa using hc8) (by omega)), (by simpa using hl), hwho, (by first | omega | (simp only [List.length_append, List.length_singleton]; omega)), hOn, hO4, hB16⟩) ?_
  exact ⟨lk_int rfl (by first | rfl | omega), lk_int rfl (by first | rfl | (simp only [List.length_append, List.length_singleton]; omega)), rfl, rfl, trivial⟩
  omega
  replace hc5 := of_decide_eq_false hc5
  refine W.off rfl rfl rfl (W.off rfl rfl rfl (W.off rfl rfl rfl (W.off rfl rfl rfl (W.val rfl rfl rfl (R.pick_f rfl rfl rfl) (W.val rfl rfl rfl (R.move rfl rfl) (W.val rfl rfl rfl (R.fa0 0 rfl rfl Try.underlying77 rfl Try.sz3 rfl) (W.ldk rfl rfl rfl rfl rfl Try.pl3 hH29 m0 hB8 rfl ?_)))))))
  refine W.val rfl rfl rfl (R.gtr rfl rfl rfl) (W.val rfl rfl rfl (R.pick_f rfl rfl rfl) (W.nil (EX.then_n ?_)))
  refine CW.cond rfl (fun hc11 => ?_) (fun hc11 => ?_)
  replace hc11 := of_decide_eq_true hc11
  refine CW.seq (CW.region rfl (W.val rfl rfl rfl (R.assign rfl rfl) (W.nil (EX.then_n (CW.exit (EX.then_exit (EX.blk_here ?_)))))))
  refine EX.then_n (CW.region rfl (W.val rfl rfl rfl (R.addx rfl rfl rfl (ok_i64 (by omega))) (W.val rfl rfl rfl (R.move rfl rfl) (W.nil ?_))))
  have hH106 := hH29.f8
  have hH107 := hH106.f8
  have hH108 := hH107.f8
  have hH109 := hH108.f8
  have hH110 := hH109.f8
  have hH111 := hH110.f8
  have hH112 := hH111.f8
  have hH113 := hH112.f8
  have hH114 := hH113.upto8
  refine EX.back4 _ _ rfl ?_ (by rw [hI1]; exact ⟨k + 1, nums, who, ls, true, ok, _, _, _, _, _, rfl, rfl, hH114, by omega, he.trans (go_gap hy1 (by omega) (by dsimp only; omega)), (by simpa using hl), hwho, (by first | omega | (simp only [List.length_append, List.length_singleton]; omega)), hOn, hOl, hBs⟩) ?_
  exact ⟨lk_int rfl (by first | rfl | omega), lk_int rfl (by first | rfl | (simp only [List.length_append, List.length_singleton]; omega)), rfl, rfl, trivial⟩
  omega
  replace hc11 := of_decide_eq_false hc11
  refine CW.skip (EX.then_n (CW.seq (CW.seq (CW.region rfl (W.val rfl rfl rfl (R.fa0 1 rfl rfl Try.underlying77 rfl Try.sz4 rfl) (W.ldk rfl rfl rfl rfl rfl Try.pl4 hH29 m0 hB8 rfl (W.val rfl rfl rfl (R.not rfl rfl) ?_)))))))
  refine W.nil (EX.then_n ?_)
  refine CW.cond rfl (fun hc12 => ?_) (fun hc12 => ?_)
  replace hc12 := of_not_t hc12
  try subst hc12
  refine CW.seq (CW.region rfl (W.lg0 rfl rfl rfl rfl rfl Try.pl28 (by rw [Try.underlying28]; rfl) (by exact Try.sz28) hH29 m6 hB3 ?_))
  have hH115 := hH29.f7
  refine W.sg0 rfl rfl rfl rfl rfl Try.sz28 rfl (by rfl) hH115 hB1 (fun zb17 w25 hH116 hB17 => ?_)
  refine W.val rfl rfl rfl (R.assign rfl rfl) (W.nil (EX.then_n (CW.ret (EX.then_ret (EX.blk_ret (EX.then_ret (EX.then_ret ?_)))))))
  refine EX.blk_ret (EX.then_ret (EX.retV Try.results9 (.cons (.agg rfl (fun w => run_isAgg_struct Try.underlying28 w) (by exact Try.sz28) (fun k u hk => hH116.cell m0 (hB17.at_ k u hk))) (.cons (.tmp rfl) RVs.nil)) ?_))
  have hH117 := hH116.emp
  have hH118 := hH117.f9
  have hH119 := hH118.f1
  have hH120 := hH119.upto2
  have hd : decS b = (zeroS, 33) := decS_none (by omega) (he.trans (go_form2 hy1 (by omega) (by dsimp only; omega) (by assumption)))
  rw [hd]
  refine ⟨_, _, ?_, hH120, ⟨_, _, rfl, (by first | omega | decide | (dsimp only [GField.none]; omega)), (by first | omega | decide | (dsimp only [GField.none]; omega)), (by first | omega | decide | (dsimp only [GField.none]; omega)), (by first | omega | decide | (dsimp only [GField.none]; omega)), (by first | omega | decide | (dsimp only [GField.none]; omega)), (by first | omega | decide | (dsimp only [GField.none]; omega)), (by first | omega | decide | (dsimp only [GField.none]; omega)), (by first | omega | decide | (dsimp only [GField.none]; omega)), (by first | omega | decide | (dsimp only [GField.none]; omega)), (by first | omega | decide | (dsimp only [GField.none]; omega)), (by first | omega | decide | (dsimp only [GField.none]; omega)), (by first | omega | decide | (dsimp only [GField.none]; omega)), (by first | omega | decide | (dsimp only [GField.none]; omega)), (by first | omega | decide | (dsimp only [GField.none]; omega)), (by first | omega | decide | (dsimp only [GField.none]; omega)), (by first | omega | decide | (dsimp only [GField.none]; omega)), (by first | omega | decide | (dsimp only [GField.none]; omega)), (by first | omega | decide | (dsimp only [GField.none]; omega)), (by first | omega | decide | (dsimp only [GField.none]; omega)), (by first | omega | decide | (dsimp only [GField.none]; omega)), (Nat.le_of_ble_eq_true rfl), (Nat.le_refl _), (Row.nil _ _ none)⟩⟩
  rfl
  replace hc12 := of_not_f hc12
  try subst hc12
  refine CW.skip (EX.then_n (CW.seq (CW.seq (CW.region rfl (W.val rfl rfl rfl (R.fa0 0 rfl rfl Try.underlying77 rfl Try.sz3 rfl) (W.ldk rfl rfl rfl rfl rfl Try.pl3 hH29 m0 hB8 rfl (W.val rfl rfl rfl (R.eql rfl rfl rfl) ?_)))))))
  refine W.nil (EX.then_n ?_)
  refine CW.cond rfl (fun hc13 => ?_) (fun hc13 => ?_)
  replace hc13 := of_decide_eq_true hc13
  refine CW.seq (CW.region rfl (W.val rfl rfl rfl (R.fa0 3 rfl rfl Try.underlying77 rfl Try.sz22 rfl) (W.ldk rfl rfl rfl rfl rfl Try.pl22 hH29 m0 hB8 rfl (W.val rfl rfl rfl (R.bytesStr rfl rfl Try.underlying22 Try.underlying5 Try.underlying9 (hr1.mono (hH29.le m5))) (W.val rfl rfl rfl (R.fa0 11 rfl rfl Try.underlying28 rfl Try.sz9 rfl) ?_)))))
  have hH121 := hH29.f3
  refine W.storeLoc rfl rfl rfl rfl rfl Try.sz9 rfl (Nat.le_of_ble_eq_true rfl) hH121 hBs (fun zb18 w26 hH122 hB18 => ?_)
  refine W.nil (EX.then_n (CW.exit (EX.then_exit (EX.blk_here (EX.then_n (CW.region rfl (W.val rfl rfl rfl (R.addx rfl rfl rfl (ok_i64 (by omega))) ?_)))))))
  refine W.val rfl rfl rfl (R.move rfl rfl) (W.nil ?_)
  have hH123 := hH122.f8
  have hH124 := hH123.f8
  have hH125 := hH124.f8
  have hH126 := hH125.f8
  have hH127 := hH126.f8
  have hH128 := hH127.f5
  have hH129 := hH128.f8
  have hH130 := hH129.f8
  have hH131 := hH130.upto8
  refine EX.back4 _ _ rfl ?_ (by rw [hI1]; exact ⟨k + 1, nums, ⟨y1.Bytes.toArray⟩, ls, gap, ok, _, _, _, _, _, rfl, rfl, hH131, by omega, he.trans (go_who hy1 (by omega) (by dsimp only; omega) (by simpa using hc12) (by omega)), (by simpa using hl), (bytes_sz (hr1.mono (hH29.le m5))), (by first | omega | (simp only [List.length_append, List.length_singleton]; omega)), hOn, hOl, hB18⟩) ?_
  exact ⟨lk_int rfl (by first | rfl | omega), lk_int rfl (by first | rfl | (simp only [List.length_append, List.length_singleton]; omega)), rfl, rfl, trivial⟩
  omega
  replace hc13 := of_decide_eq_false hc13
  exfalso
  omega
  replace hc2 := of_decide_eq_false hc2
  refine CW.exit (EX.then_exit (EX.then_exit (EX.blk_here (EX.then_n (CW.seq (CW.seq (CW.region rfl ?_)))))))
  obtain rfl : k = (decFs b).1.length := by omega
  have hend : decGo (decFs b).1 initD = some ⟨nums, who, ls, gap, ok⟩ := by rw [he, List.drop_length]; rfl
  refine W.val rfl rfl rfl (R.move rfl rfl) (W.nil (EX.then_n ?_))
  refine CW.cond rfl (fun hc14 => ?_) (fun hc14 => ?_)
  try subst hc14
  refine CW.seq (CW.region rfl (W.lg0 rfl rfl rfl rfl rfl Try.pl28 (by rw [Try.underlying28]; rfl) (by exact Try.sz28) hH27 m5 hB3 ?_))
  have hH132 := hH27.f6
  refine W.sg0 rfl rfl rfl rfl rfl Try.sz28 rfl (by rfl) hH132 hB1 (fun zb19 w27 hH133 hB19 => ?_)
  refine W.val rfl rfl rfl (R.assign rfl rfl) (W.nil (EX.then_n (CW.ret (EX.then_ret (EX.retV Try.results9 (.cons (.agg rfl (fun w => run_isAgg_struct Try.underlying28 w) (by exact Try.sz28) (fun k u hk => hH133.cell m0 (hB19.at_ k u hk))) (.cons (.tmp rfl) RVs.nil)) ?_)))))
  have hH134 := hH133.emp
  have hH135 := hH134.f8
  have hH136 := hH135.f1
  have hH137 := hH136.upto2
  have hd : decS b = (zeroS, 20) := decS_gap (by omega) hend rfl
  rw [hd]
  refine ⟨_, _, ?_, hH137, ⟨_, _, rfl, (by first | omega | decide | (dsimp only [GField.none]; omega)), (by first | omega | decide | (dsimp only [GField.none]; omega)), (by first | omega | decide | (dsimp only [GField.none]; omega)), (by first | omega | decide | (dsimp only [GField.none]; omega)), (by first | omega | decide | (dsimp only [GField.none]; omega)), (by first | omega | decide | (dsimp only [GField.none]; omega)), (by first | omega | decide | (dsimp only [GField.none]; omega)), (by first | omega | decide | (dsimp only [GField.none]; omega)), (by first | omega | decide | (dsimp only [GField.none]; omega)), (by first | omega | decide | (dsimp only [GField.none]; omega)), (by first | omega | decide | (dsimp only [GField.none]; omega)), (by first | omega | decide | (dsimp only [GField.none]; omega)), (by first | omega | decide | (dsimp only [GField.none]; omega)), (by first | omega | decide | (dsimp only [GField.none]; omega)), (by first | omega | decide | (dsimp only [GField.none]; omega)), (by first | omega | decide | (dsimp only [GField.none]; omega)), (by first | omega | decide | (dsimp only [GField.none]; omega)), (by first | omega | decide | (dsimp only [GField.none]; omega)), (by first | omega | decide | (dsimp only [GField.none]; omega)), (by first | omega | decide | (dsimp only [GField.none]; omega)), (Nat.le_of_ble_eq_true rfl), (Nat.le_refl _), (Row.nil _ _ none)⟩⟩
  rfl
  try subst hc14
  refine CW.skip (EX.then_n (CW.seq (CW.region rfl (W.val rfl rfl rfl (R.move rfl rfl) ?_))))
  refine W.indexOwn rfl rfl rfl rfl rfl rfl Try.underlying47 Try.sz3 hOn (by omega) (by omega) hl (fun q3 cs3 y3 hy3 hK6 hat3 hq3 => ?_)
  try simp only [Int.toNat_natCast, Int.reduceToNat] at hy3
  have hK7 := hK6
  obtain ⟨rfl, hb15, hb16⟩ := hK7
  refine W.la0 rfl rfl rfl rfl rfl Try.pl3 hH27 m1 hat3 rfl (W.val rfl rfl rfl (R.fa0 0 rfl rfl Try.underlying28 rfl Try.sz3 rfl) ?_)
  have hH138 := hH27.f2
  refine W.storeLoc rfl rfl rfl rfl rfl Try.sz3 rfl (Nat.le_of_ble_eq_true rfl) hH138 hBs (fun zb20 w28 hH139 hB20 => ?_)
  refine W.nil (EX.then_n (CW.seq (CW.region rfl (W.val rfl rfl rfl (R.move rfl rfl) ?_))))
  refine W.indexOwn rfl rfl rfl rfl rfl rfl Try.underlying47 Try.sz3 hOn (by omega) (by omega) hl (fun q4 cs4 y4 hy4 hK8 hat4 hq4 => ?_)
  try simp only [Int.toNat_natCast, Int.reduceToNat] at hy4
  have hK9 := hK8
  obtain ⟨rfl, hb17, hb18⟩ := hK9
  refine W.la0 rfl rfl rfl rfl rfl Try.pl3 hH139 m2 hat4 rfl (W.val rfl rfl rfl (R.fa0 1 rfl rfl Try.underlying28 rfl Try.sz25 rfl) ?_)
  refine W.storeLoc rfl rfl rfl rfl rfl Try.sz25 rfl (Nat.le_of_ble_eq_true rfl) hH139 hB20 (fun zb21 w29 hH140 hB21 => ?_)
  refine W.nil (EX.then_n (CW.seq (CW.region rfl (W.val rfl rfl rfl (R.move rfl rfl) ?_))))
  refine W.indexOwn rfl rfl rfl rfl rfl rfl Try.underlying47 Try.sz3 hOn (by omega) (by omega) hl (fun q5 cs5 y5 hy5 hK10 hat5 hq5 => ?_)
  try simp only [Int.toNat_natCast, Int.reduceToNat] at hy5
  have hK11 := hK10
  obtain ⟨rfl, hb19, hb20⟩ := hK11
  refine W.la0 rfl rfl rfl rfl rfl Try.pl3 hH140 m2 hat5 rfl (W.val rfl rfl rfl (R.fa0 2 rfl rfl Try.underlying28 rfl Try.sz25 rfl) ?_)
  refine W.storeLoc rfl rfl rfl rfl rfl Try.sz25 rfl (Nat.le_of_ble_eq_true rfl) hH140 hB21 (fun zb22 w30 hH141 hB22 => ?_)
  refine W.nil (EX.then_n (CW.seq (CW.region rfl (W.val rfl rfl rfl (R.move rfl rfl) ?_))))
  refine W.indexOwn rfl rfl rfl rfl rfl rfl Try.underlying47 Try.sz3 hOn (by omega) (by omega) hl (fun q6 cs6 y6 hy6 hK12 hat6 hq6 => ?_)
  try simp only [Int.toNat_natCast, Int.reduceToNat] at hy6
  have hK13 := hK12
  obtain ⟨rfl, hb21, hb22⟩ := hK13
  refine W.la0 rfl rfl rfl rfl rfl Try.pl3 hH141 m2 hat6 rfl (W.val rfl rfl rfl (R.fa0 3 rfl rfl Try.underlying28 rfl Try.sz3 rfl) ?_)
  refine W.storeLoc rfl rfl rfl rfl rfl Try.sz3 rfl (Nat.le_of_ble_eq_true rfl) hH141 hB22 (fun zb23 w31 hH142 hB23 => ?_)
  refine W.nil (EX.then_n (CW.seq (CW.region rfl (W.val rfl rfl rfl (R.move rfl rfl) ?_))))
  refine W.indexOwn rfl rfl rfl rfl rfl rfl Try.underlying47 Try.sz3 hOn (by omega) (by omega) hl (fun q7 cs7 y7 hy7 hK14 hat7 hq7 => ?_)
  try simp only [Int.toNat_natCast, Int.reduceToNat] at hy7
  have hK15 := hK14
  obtain ⟨rfl, hb23, hb24⟩ := hK15
  refine W.la0 rfl rfl rfl rfl rfl Try.pl3 hH142 m2 hat7 rfl (W.val rfl rfl rfl (R.fa0 4 rfl rfl Try.underlying28 rfl Try.sz3 rfl) ?_)
  refine W.storeLoc rfl rfl rfl rfl rfl Try.sz3 rfl (Nat.le_of_ble_eq_true rfl) hH142 hB23 (fun zb24 w32 hH143 hB24 => ?_)
  refine W.nil (EX.then_n (CW.seq (CW.region rfl (W.val rfl rfl rfl (R.move rfl rfl) ?_))))
  refine W.indexOwn rfl rfl rfl rfl rfl rfl Try.underlying47 Try.sz3 hOn (by omega) (by omega) hl (fun q8 cs8 y8 hy8 hK16 hat8 hq8 => ?_)
  try simp only [Int.toNat_natCast, Int.reduceToNat] at hy8
  have hK17 := hK16
  obtain ⟨rfl, hb25, hb26⟩ := hK17
  refine W.la0 rfl rfl rfl rfl rfl Try.pl3 hH143 m2 hat8 rfl (W.val rfl rfl rfl (R.fa0 6 rfl rfl Try.underlying28 rfl Try.sz3 rfl) ?_)
  refine W.storeLoc rfl rfl rfl rfl rfl Try.sz3 rfl (Nat.le_of_ble_eq_true rfl) hH143 hB24 (fun zb25 w33 hH144 hB25 => ?_)
  refine W.nil (EX.then_n (CW.seq (CW.region rfl (W.val rfl rfl rfl (R.move rfl rfl) ?_))))
  refine W.indexOwn rfl rfl rfl rfl rfl rfl Try.underlying47 Try.sz3 hOn (by omega) (by omega) hl (fun q9 cs9 y9 hy9 hK18 hat9 hq9 => ?_)
  try simp only [Int.toNat_natCast, Int.reduceToNat] at hy9
  have hK19 := hK18
  obtain ⟨rfl, hb27, hb28⟩ := hK19
  refine W.la0 rfl rfl rfl rfl rfl Try.pl3 hH144 m2 hat9 rfl (W.val rfl rfl rfl (R.fa0 7 rfl rfl Try.underlying28 rfl Try.sz3 rfl) ?_)
  refine W.storeLoc rfl rfl rfl rfl rfl Try.sz3 rfl (Nat.le_of_ble_eq_true rfl) hH144 hB25 (fun zb26 w34 hH145 hB26 => ?_)
  refine W.nil (EX.then_n (CW.seq (CW.region rfl (W.val rfl rfl rfl (R.move rfl rfl) ?_))))
  refine W.indexOwn rfl rfl rfl rfl rfl rfl Try.underlying47 Try.sz3 hOn (by omega) (by omega) hl (fun q10 cs10 y10 hy10 hK20 hat10 hq10 => ?_)
  try simp only [Int.toNat_natCast, Int.reduceToNat] at hy10
  have hK21 := hK20
  obtain ⟨rfl, hb29, hb30⟩ := hK21
  refine W.la0 rfl rfl rfl rfl rfl Try.pl3 hH145 m2 hat10 rfl (W.val rfl rfl rfl (R.fa0 8 rfl rfl Try.underlying28 rfl Try.sz3 rfl) ?_)
  refine W.storeLoc rfl rfl rfl rfl rfl Try.sz3 rfl (Nat.le_of_ble_eq_true rfl) hH145 hB26 (fun zb27 w35 hH146 hB27 => ?_)
  refine W.nil (EX.then_n (CW.seq (CW.region rfl (W.val rfl rfl rfl (R.move rfl rfl) ?_))))
  refine W.indexOwn rfl rfl rfl rfl rfl rfl Try.underlying47 Try.sz3 hOn (by omega) (by omega) hl (fun q11 cs11 y11 hy11 hK22 hat11 hq11 => ?_)
  try simp only [Int.toNat_natCast, Int.reduceToNat] at hy11
  have hK23 := hK22
  obtain ⟨rfl, hb31, hb32⟩ := hK23
  refine W.la0 rfl rfl rfl rfl rfl Try.pl3 hH146 m2 hat11 rfl (W.val rfl rfl rfl (R.fa0 9 rfl rfl Try.underlying28 rfl Try.sz3 rfl) ?_)
  refine W.storeLoc rfl rfl rfl rfl rfl Try.sz3 rfl (Nat.le_of_ble_eq_true rfl) hH146 hB27 (fun zb28 w36 hH147 hB28 => ?_)
  refine W.nil (EX.then_n (CW.seq (CW.region rfl (W.val rfl rfl rfl (R.move rfl rfl) ?_))))
  refine W.indexOwn rfl rfl rfl rfl rfl rfl Try.underlying47 Try.sz3 hOn (by omega) (by omega) hl (fun q12 cs12 y12 hy12 hK24 hat12 hq12 => ?_)
  try simp only [Int.toNat_natCast, Int.reduceToNat] at hy12
  have hK25 := hK24
  obtain ⟨rfl, hb33, hb34⟩ := hK25
  refine W.la0 rfl rfl rfl rfl rfl Try.pl3 hH147 m2 hat12 rfl (W.val rfl rfl rfl (R.fa0 10 rfl rfl Try.underlying28 rfl Try.sz3 rfl) ?_)
  refine W.storeLoc rfl rfl rfl rfl rfl Try.sz3 rfl (Nat.le_of_ble_eq_true rfl) hH147 hB28 (fun zb29 w37 hH148 hB29 => ?_)
  refine W.nil (EX.then_n (CW.seq (CW.seq (CW.region rfl ?_))))
  have hst : stateD ⟨nums, who, ls, false, ok⟩ = ⟨y3, y4, y5, y6, y7, ls, y8, y9, y10, y11, y12, who⟩ := by
    unfold stateD
    rw [nth_of hy3, nth_of hy4, nth_of hy5, nth_of hy6, nth_of hy7, nth_of hy8, nth_of hy9, nth_of hy10, nth_of hy11, nth_of hy12]
  refine W.val rfl rfl rfl (R.move rfl rfl) (W.val rfl rfl rfl (R.not rfl rfl) (W.val rfl rfl rfl (R.move rfl rfl) ?_))
  refine W.split (d := 140) rfl (fun hc15 => ?_) (fun hc15 => ?_)
  replace hc15 := of_not_t hc15
  try subst hc15
  refine W.off rfl rfl rfl (W.off rfl rfl rfl (W.off rfl rfl rfl (W.val rfl rfl rfl (R.pick_t rfl rfl rfl) (W.nil (EX.then_n (CW.cond_t rfl (CW.seq ?_)))))))
  refine CW.region rfl (W.lg0 rfl rfl rfl rfl rfl Try.pl28 (by rw [Try.underlying28]; rfl) (by exact Try.sz28) hH148 m5 hB3 ?_)
  have hH149 := hH148.f6
  refine W.sg0 rfl rfl rfl rfl rfl Try.sz28 rfl (by rfl) hH149 hB1 (fun zb30 w38 hH150 hB30 => ?_)
  refine W.val rfl rfl rfl (R.assign rfl rfl) (W.nil (EX.then_n (CW.ret (EX.then_ret (EX.retV Try.results9 (.cons (.agg rfl (fun w => run_isAgg_struct Try.underlying28 w) (by exact Try.sz28) (fun k u hk => hH150.cell m0 (hB30.at_ k u hk))) (.cons (.tmp rfl) RVs.nil)) ?_)))))
  have hH151 := hH150.emp
  have hH152 := hH151.f8
  have hH153 := hH152.f1
  have hH154 := hH153.upto2
  have hd : decS b = (zeroS, 40) := decS_bad (by omega) hend rfl (by rw [hst]; intro h; simp_all)
  rw [hd]
  refine ⟨_, _, ?_, hH154, ⟨_, _, rfl, (by first | omega | decide | (dsimp only [GField.none]; omega)), (by first | omega | decide | (dsimp only [GField.none]; omega)), (by first | omega | decide | (dsimp only [GField.none]; omega)), (by first | omega | decide | (dsimp only [GField.none]; omega)), (by first | omega | decide | (dsimp only [GField.none]; omega)), (by first | omega | decide | (dsimp only [GField.none]; omega)), (by first | omega | decide | (dsimp only [GField.none]; omega)), (by first | omega | decide | (dsimp only [GField.none]; omega)), (by first | omega | decide | (dsimp only [GField.none]; omega)), (by first | omega | decide | (dsimp only [GField.none]; omega)), (by first | omega | decide | (dsimp only [GField.none]; omega)), (by first | omega | decide | (dsimp only [GField.none]; omega)), (by first | omega | decide | (dsimp only [GField.none]; omega)), (by first | omega | decide | (dsimp only [GField.none]; omega)), (by first | omega | decide | (dsimp only [GField.none]; omega)), (by first | omega | decide | (dsimp only [GField.none]; omega)), (by first | omega | decide | (dsimp only [GField.none]; omega)), (by first | omega | decide | (dsimp only [GField.none]; omega)), (by first | omega | decide | (dsimp only [GField.none]; omega)), (by first | omega | decide | (dsimp only [GField.none]; omega)), (Nat.le_of_ble_eq_true rfl), (Nat.le_refl _), (Row.nil _ _ none)⟩⟩
  rfl
  replace hc15 := of_not_f hc15
  try subst hc15
  refine W.lg0 rfl rfl rfl rfl rfl Try.pl28 (by rw [Try.underlying28]; rfl) (by exact Try.sz28) hH148 m0 hB29 ?_
  refine W.call rfl rfl rfl rfl rfl Try.func31 Try.nm31 Try.bd31 (r08_Valid (⟨_, _, _, _, _, _, _, _, _, _, _, _⟩ : GState) _ w37 ⟨_, _, rfl, (by first | omega | decide | (dsimp only [GField.none]; omega)), (by first | omega | decide | (dsimp only [GField.none]; omega)), (by first | omega | decide | (dsimp only [GField.none]; omega)), (by first | omega | decide | (dsimp only [GField.none]; omega)), (by first | omega | decide | (dsimp only [GField.none]; omega)), (by first | omega | decide | (dsimp only [GField.none]; omega)), (by first | omega | decide | (dsimp only [GField.none]; omega)), (by first | omega | decide | (dsimp only [GField.none]; omega)), (by first | omega | decide | (dsimp only [GField.none]; omega)), (by first | omega | decide | (dsimp only [GField.none]; omega)), (by first | omega | decide | (dsimp only [GField.none]; omega)), (by first | omega | decide | (dsimp only [GField.none]; omega)), (by first | omega | decide | (dsimp only [GField.none]; omega)), (by first | omega | decide | (dsimp only [GField.none]; omega)), (by first | omega | decide | (dsimp only [GField.none]; omega)), (by first | omega | decide | (dsimp only [GField.none]; omega)), (by first | omega | decide | (dsimp only [GField.none]; omega)), (by first | omega | decide | (dsimp only [GField.none]; omega)), (by first | omega | decide | (dsimp only [GField.none]; omega)), (by first | omega | decide | (dsimp only [GField.none]; omega)), hwho, hOl.cap, (hOl.row (hH148.le m1) (emp_le _))⟩) ?_
  rintro v4 w39 ⟨rfl, hH155⟩
  have hH156 := hH148.c0 hH155
  refine W.val rfl rfl rfl (R.not rfl rfl) (W.val rfl rfl rfl (R.pick_f rfl rfl rfl) (W.nil (EX.then_n ?_)))
  refine CW.cond rfl (fun hc16 => ?_) (fun hc16 => ?_)
  replace hc16 := of_not_t hc16
  try subst hc16
  refine CW.seq (CW.region rfl (W.lg0 rfl rfl rfl rfl rfl Try.pl28 (by rw [Try.underlying28]; rfl) (by exact Try.sz28) hH156 m5 hB3 ?_))
  have hH157 := hH156.f6
  refine W.sg0 rfl rfl rfl rfl rfl Try.sz28 rfl (by rfl) hH157 hB1 (fun zb31 w40 hH158 hB31 => ?_)
  refine W.val rfl rfl rfl (R.assign rfl rfl) (W.nil (EX.then_n (CW.ret (EX.then_ret (EX.retV Try.results9 (.cons (.agg rfl (fun w => run_isAgg_struct Try.underlying28 w) (by exact Try.sz28) (fun k u hk => hH158.cell m0 (hB31.at_ k u hk))) (.cons (.tmp rfl) RVs.nil)) ?_)))))
  have hH159 := hH158.emp
  have hH160 := hH159.f8
  have hH161 := hH160.f1
  have hH162 := hH161.upto2
  have hd : decS b = (zeroS, 40) := decS_bad (by omega) hend rfl (by rw [hst]; intro h; simp_all)
  rw [hd]
  refine ⟨_, _, ?_, hH162, ⟨_, _, rfl, (by first | omega | decide | (dsimp only [GField.none]; omega)), (by first | omega | decide | (dsimp only [GField.none]; omega)), (by first | omega | decide | (dsimp only [GField.none]; omega)), (by first | omega | decide | (dsimp only [GField.none]; omega)), (by first | omega | decide | (dsimp only [GField.none]; omega)), (by first | omega | decide | (dsimp only [GField.none]; omega)), (by first | omega | decide | (dsimp only [GField.none]; omega)), (by first | omega | decide | (dsimp only [GField.none]; omega)), (by first | omega | decide | (dsimp only [GField.none]; omega)), (by first | omega | decide | (dsimp only [GField.none]; omega)), (by first | omega | decide | (dsimp only [GField.none]; omega)), (by first | omega | decide | (dsimp only [GField.none]; omega)), (by first | omega | decide | (dsimp only [GField.none]; omega)), (by first | omega | decide | (dsimp only [GField.none]; omega)), (by first | omega | decide | (dsimp only [GField.none]; omega)), (by first | omega | decide | (dsimp only [GField.none]; omega)), (by first | omega | decide | (dsimp only [GField.none]; omega)), (by first | omega | decide | (dsimp only [GField.none]; omega)), (by first | omega | decide | (dsimp only [GField.none]; omega)), (by first | omega | decide | (dsimp only [GField.none]; omega)), (Nat.le_of_ble_eq_true rfl), (Nat.le_refl _), (Row.nil _ _ none)⟩⟩
  rfl
  replace hc16 := of_not_f hc16
  try subst hc16
  refine CW.skip (EX.then_n (CW.seq (CW.region rfl (W.lg0 rfl rfl rfl rfl rfl Try.pl28 (by rw [Try.underlying28]; rfl) (by exact Try.sz28) hH156 m0 hB29 ?_))))
  have hH163 := hH156.f6
  refine W.sg0 rfl rfl rfl rfl rfl Try.sz28 rfl (by rfl) hH163 hB1 (fun zb32 w41 hH164 hB32 => ?_)
  refine W.val rfl rfl rfl (R.assign rfl rfl) (W.nil (EX.then_n (CW.ret (EX.retV Try.results9 (.cons (.agg rfl (fun w => run_isAgg_struct Try.underlying28 w) (by exact Try.sz28) (fun k u hk => hH164.cell m0 (hB32.at_ k u hk))) (.cons (.tmp rfl) RVs.nil)) ?_))))
  have hH165 := hH164.f7
  have hH166 := hH165.f3
  have hH167 := hH166.upto2
  have hd : decS b = (⟨y3, y4, y5, y6, y7, ls, y8, y9, y10, y11, y12, who⟩, 0) := by
    rw [decS_ok (by omega) hend rfl (by rw [hst]; simp_all), hst]
  rw [hd]
  refine ⟨_, _, ?_, hH167, ⟨_, _, rfl, (by first | omega | decide | (dsimp only [GField.none]; omega)), (by first | omega | decide | (dsimp only [GField.none]; omega)), (by first | omega | decide | (dsimp only [GField.none]; omega)), (by first | omega | decide | (dsimp only [GField.none]; omega)), (by first | omega | decide | (dsimp only [GField.none]; omega)), (by first | omega | decide | (dsimp only [GField.none]; omega)), (by first | omega | decide | (dsimp only [GField.none]; omega)), (by first | omega | decide | (dsimp only [GField.none]; omega)), (by first | omega | decide | (dsimp only [GField.none]; omega)), (by first | omega | decide | (dsimp only [GField.none]; omega)), (by first | omega | decide | (dsimp only [GField.none]; omega)), (by first | omega | decide | (dsimp only [GField.none]; omega)), (by first | omega | decide | (dsimp only [GField.none]; omega)), (by first | omega | decide | (dsimp only [GField.none]; omega)), (by first | omega | decide | (dsimp only [GField.none]; omega)), (by first | omega | decide | (dsimp only [GField.none]; omega)), (by first | omega | decide | (dsimp only [GField.none]; omega)), (by first | omega | decide | (dsimp only [GField.none]; omega)), (by first | omega | decide | (dsimp only [GField.none]; omega)), (by first | omega | decide | (dsimp only [GField.none]; omega)), hwho, hOl.cap, (hOl.row (Le.refl _) (emp_le _))⟩⟩
  rfl

end Go.Proofs.Gw
namespace Go.Proofs.Gw
open Go Go.Gw Go.Proofs Go.RowKit
set_option maxRecDepth 100000 in
set_option maxHeartbeats 1000000 in
theorem law9_decodes (Ab : Option Addr) (cb : Nat) (b : List UInt8) (w0 : World) (lb : b.length ≤ cb) (hb : Row kU8 (hp w0) Ab b) (hn : b.length ≤ 140737488355328) : Calls Try.prog 3 #[.slice Ab b.length cb] w0 (Ret fun v w' => v = .bool (true) ∧ Has w0 w' [hp w0]) := by
  refine fnstart (N := 60) Try.func3 rfl Try.ntmps3 (Nat.le_of_ble_eq_true rfl) ?_
  have hH0 : Has w0 w0 [hp w0] := Has.refl w0
  refine CW.seq (CW.region rfl (W.val rfl rfl rfl (R.assign rfl rfl) (W.nil (EX.then_n (CW.seq (CW.seq (CW.region rfl ?_)))))))
  refine W.call rfl rfl rfl rfl rfl Try.func7 Try.nm7 Try.bd7 (law9_head  w0 ) ?_
  rintro v1 w1 ⟨rfl, hH1⟩
  have hH2 := hH0.c0 hH1
  refine W.val rfl rfl rfl (R.not rfl rfl) (W.nil (EX.then_n (CW.cond_f rfl (CW.skip (EX.then_n (CW.seq (CW.region rfl ?_)))))))
  refine W.val rfl rfl rfl (R.move rfl rfl) (W.call rfl rfl rfl rfl rfl Try.func8 Try.nm8 Try.bd8 (r02_Copy _ _ _ w1 lb (hb.mono (hH2.le m0)) (by omega)) ?_)
  rintro v2 w2 ⟨A01, c01, z01, rfl, hH3, hO01⟩
  have hH4 := hH2.c1 hH3
  refine W.val rfl rfl rfl (R.assign rfl rfl) (W.nil (EX.then_n (CW.seq (CW.region rfl (W.val rfl rfl rfl (R.move rfl rfl) (W.call rfl rfl rfl rfl rfl Try.func9 Try.nm9 Try.bd9 (r09_Decode _ _ _ w2 lb (hb.mono (hH4.le m1))) ?_))))))
  rintro v3 w3 ⟨cs01, z02, rfl, hH5, hK01⟩
  have hH6 := hH4.c1 hH5
  have hK1 := hK01
  obtain ⟨A1, c1, rfl, hb1, hb2, hb3, hb4, hb5, hb6, hb7, hb8, hb9, hb10, hb11, hb12, hb13, hb14, hb15, hb16, hb17, hb18, hb19, hb20, hb21, hl1, hr1⟩ := hK1
  have hlen1 := hr1.len
  refine W.val rfl rfl rfl (R.move rfl rfl) (W.val rfl rfl rfl (R.extract rfl rfl rfl) (W.val rfl rfl rfl (R.extract rfl rfl rfl) ?_))
  refine W.alloc rfl rfl rfl rfl Try.zr28 rfl hH6 (fun b1 zb1 w4 hH7 hB1 => ?_)
  refine W.sg0 rfl rfl rfl rfl rfl Try.sz28 rfl (by rfl) hH7 hB1 (fun zb2 w5 hH8 hB2 => ?_)
  refine W.val rfl rfl rfl (R.assign rfl rfl) (W.nil (EX.then_n (CW.seq (CW.region rfl (W.val rfl rfl rfl (R.move rfl rfl) (W.call rfl rfl rfl rfl rfl Try.func10 Try.nm10 Try.bd10 (canon_Decode _ _ _ w5 hO01.cap (hO01.row (hH8.le m2) (emp_le _))) ?_))))))
  rintro v4 w6 ⟨A0_51, c0_51, z0_51, rfl, hH9, hO0_51, hB01⟩
  have hH10 := hH8.c1 hH9
  obtain ⟨⟨hb22, hb23⟩, ⟨hb24, hb25⟩, ⟨hb26, hb27⟩, ⟨hb28, hb29⟩, ⟨hb30, hb31⟩, ⟨hb32, hb33⟩, ⟨hb34, hb35⟩, ⟨hb36, hb37⟩, ⟨hb38, hb39⟩, ⟨hb40, hb41⟩, hb42⟩ := hB01
  refine W.val rfl rfl rfl (R.move rfl rfl) (W.val rfl rfl rfl (R.extract rfl rfl rfl) (W.val rfl rfl rfl (R.extract rfl rfl rfl) ?_))
  refine W.alloc rfl rfl rfl rfl Try.zr28 rfl hH10 (fun b2 zb3 w7 hH11 hB3 => ?_)
  refine W.sg0 rfl rfl rfl rfl rfl Try.sz28 rfl (by rfl) hH11 hB3 (fun zb4 w8 hH12 hB4 => ?_)
  refine W.val rfl rfl rfl (R.assign rfl rfl) (W.nil (EX.then_n (CW.seq (CW.region rfl (W.val rfl rfl rfl (R.move rfl rfl) (W.call rfl rfl rfl rfl rfl Try.func10 Try.nm10 Try.bd10 (canon_Decode _ _ _ w8 hO01.cap (hO01.row (hH12.le m4) (emp_le _))) ?_))))))
  rintro v5 w9 ⟨A0_52, c0_52, z0_52, rfl, hH13, hO0_52, hB02⟩
  have hH14 := hH12.c1 hH13
  obtain ⟨⟨hb43, hb44⟩, ⟨hb45, hb46⟩, ⟨hb47, hb48⟩, ⟨hb49, hb50⟩, ⟨hb51, hb52⟩, ⟨hb53, hb54⟩, ⟨hb55, hb56⟩, ⟨hb57, hb58⟩, ⟨hb59, hb60⟩, ⟨hb61, hb62⟩, hb63⟩ := hB02
  refine W.val rfl rfl rfl (R.move rfl rfl) (W.val rfl rfl rfl (R.extract rfl rfl rfl) (W.val rfl rfl rfl (R.extract rfl rfl rfl) ?_))
  refine W.alloc rfl rfl rfl rfl Try.zr28 rfl hH14 (fun b3 zb5 w10 hH15 hB5 => ?_)
  refine W.sg0 rfl rfl rfl rfl rfl Try.sz28 rfl (by rfl) hH15 hB5 (fun zb6 w11 hH16 hB6 => ?_)
  refine W.val rfl rfl rfl (R.assign rfl rfl) (W.nil (EX.then_n (CW.seq (CW.seq (CW.region rfl (W.val rfl rfl rfl (R.move rfl rfl) (W.val rfl rfl rfl (R.move rfl rfl) ?_)))))))
  refine W.val rfl rfl rfl (R.neq rfl rfl rfl) (W.val rfl rfl rfl (R.move rfl rfl) ?_)
  refine W.split (d := 33) rfl (fun hc1 => ?_) (fun hc1 => ?_)
  replace hc1 := of_ndec_t hc1
  exfalso
  omega
  replace hc1 := of_ndec_f hc1
  refine W.lg0 rfl rfl rfl rfl rfl Try.pl28 (by rw [Try.underlying28]; rfl) (by exact Try.sz28) hH16 m2 hB4 (W.lg0 rfl rfl rfl rfl rfl Try.pl28 (by rw [Try.underlying28]; rfl) (by exact Try.sz28) hH16 m4 hB2 ?_)
  refine W.call rfl rfl rfl rfl rfl Try.func11 Try.nm11 Try.bd11 (r08_Same (⟨_, _, _, _, _, _, _, _, _, _, _, _⟩ : GState) _ _ _ w11 ⟨_, _, rfl, (by first | omega | decide | (dsimp only [GField.none]; omega)), (by first | omega | decide | (dsimp only [GField.none]; omega)), (by first | omega | decide | (dsimp only [GField.none]; omega)), (by first | omega | decide | (dsimp only [GField.none]; omega)), (by first | omega | decide | (dsimp only [GField.none]; omega)), (by first | omega | decide | (dsimp only [GField.none]; omega)), (by first | omega | decide | (dsimp only [GField.none]; omega)), (by first | omega | decide | (dsimp only [GField.none]; omega)), (by first | omega | decide | (dsimp only [GField.none]; omega)), (by first | omega | decide | (dsimp only [GField.none]; omega)), (by first | omega | decide | (dsimp only [GField.none]; omega)), (by first | omega | decide | (dsimp only [GField.none]; omega)), (by first | omega | decide | (dsimp only [GField.none]; omega)), (by first | omega | decide | (dsimp only [GField.none]; omega)), (by first | omega | decide | (dsimp only [GField.none]; omega)), (by first | omega | decide | (dsimp only [GField.none]; omega)), (by first | omega | decide | (dsimp only [GField.none]; omega)), (by first | omega | decide | (dsimp only [GField.none]; omega)), (by first | omega | decide | (dsimp only [GField.none]; omega)), (by first | omega | decide | (dsimp only [GField.none]; omega)), hb42, hO0_51.cap, (hO0_51.row (hH16.le m3) (emp_le _))⟩ (hK01.mono (hH16.le m5))) ?_
  rintro v6 w12 ⟨rfl, hH17⟩
  have hH18 := hH16.c0 hH17
  refine W.val rfl rfl rfl (R.not rfl rfl) (W.val rfl rfl rfl (R.pick_f rfl rfl rfl) (W.val rfl rfl rfl (R.move rfl rfl) ?_))
  refine W.split (d := 39) rfl (fun hc2 => ?_) (fun hc2 => ?_)
  replace hc2 := of_not_t hc2
  try subst hc2
  exfalso
  rw [sameB_refl] at hc2
  cases hc2
  replace hc2 := of_not_f hc2
  try subst hc2
  refine W.val rfl rfl rfl (R.move rfl rfl) (W.val rfl rfl rfl (R.move rfl rfl) (W.call rfl rfl rfl rfl rfl Try.func12 Try.nm12 Try.bd12 (r02_Same _ _ _ _ _ _ w12 hO01.cap (hO01.row (hH18.le m6) (emp_le _)) lb (hb.mono (hH18.le m7))) ?_))
  rintro v7 w13 ⟨rfl, hH19⟩
  have hH20 := hH18.c0 hH19
  refine W.val rfl rfl rfl (R.not rfl rfl) (W.val rfl rfl rfl (R.pick_f rfl rfl rfl) (W.nil (EX.then_n ?_)))
  refine CW.cond rfl (fun hc3 => ?_) (fun hc3 => ?_)
  replace hc3 := of_not_t hc3
  replace hc3 := of_decide_eq_false hc3
  exfalso
  exact hc3 rfl
  replace hc3 := of_not_f hc3
  replace hc3 := of_decide_eq_true hc3
  refine CW.skip (EX.then_n (CW.seq (CW.seq (CW.region rfl (W.val rfl rfl rfl (R.fa0 5 rfl rfl Try.underlying28 rfl Try.sz26 rfl) (W.ldk rfl rfl rfl rfl rfl Try.pl26 hH20 m2 hB4 rfl (W.val rfl rfl rfl (R.len_slice rfl rfl Try.underlying26) ?_)))))))
  refine W.val rfl rfl rfl (R.move rfl rfl) (W.nil (EX.then_n (CW.block ?_)))
  have hH21 := hH20.f3
  have hH22 := hH21.f7
  have hH23 := hH22.f7
  have hH24 := hH23.f7
  have hH25 := hH24.f7
  have hH26 := hH25.f7
  have hH27 := hH26.f7
  have hH28 := hH27.f7
  have hH29 := hH28.f7
  obtain ⟨I1, hI1⟩ : ∃ I : Nat → List (Nat × Value) → World → Prop, I = (fun n_ D_ w_ => ∃ (k : Nat) (ls : List GLine) (zl : PH), D_ = [(48, .int .i64 (k : Int))] ∧ n_ = (decS b).1.Lines.length - k ∧ Has w0 w_ [zl, zb6, z0_52, zb4, zb2, z02, z01, (hp w0)] ∧ (k ≤ (decS b).1.Lines.length) ∧ ((decS b).1.Lines.length = ls.length) ∧ (Own kLine 37 emp zl A0_51 c0_51 ls)) := ⟨_, rfl⟩
  refine CW.loop3 [10, 48, 49, 50, 51, 52, 53, 54, 55, 56] I1 _ _ ?_ (by rw [hI1]; exact ⟨0, _, _, rfl, rfl, hH29, by omega, rfl, hO0_51⟩) ?_
  exact ⟨lk_int rfl (by first | rfl | omega), trivial⟩
  intro n1 D w14 hn1
  rw [hI1] at hn1
  obtain ⟨k, ls, zl, rfl, hme1, hH30, hk, hll, hO⟩ := hn1
  refine CW.seq (CW.region rfl (W.val rfl rfl rfl (R.lss rfl rfl rfl) (W.nil (EX.then_n (CW.seq ?_)))))
  refine CW.cond rfl (fun hc4 => ?_) (fun hc4 => ?_)
  replace hc4 := of_decide_eq_true hc4
  refine CW.skip (EX.then_n (CW.seq (CW.block (CW.seq (CW.region rfl (W.val rfl rfl rfl (R.move rfl rfl) (W.val rfl rfl rfl (R.assign rfl rfl) ?_)))))))
  refine W.nil (EX.then_n (CW.region rfl (W.val rfl rfl rfl (R.fa0 5 rfl rfl Try.underlying28 rfl Try.sz26 rfl) (W.ldk rfl rfl rfl rfl rfl Try.pl26 hH30 m3 hB4 rfl (W.val rfl rfl rfl (R.move rfl rfl) ?_)))))
  refine W.indexOwn rfl rfl rfl rfl rfl rfl Try.underlying26 Try.sz37 hO (by omega) (by omega) hll (fun q1 cs1 y1 hy1 hK2 hat1 hq1 => ?_)
  try simp only [Int.toNat_natCast, Int.reduceToNat] at hy1
  have hK3 := hK2
  obtain ⟨rfl, hb64, hb65, hb66, hb67, hb68, hb69, hb70, hb71⟩ := hK3
  refine W.val rfl rfl rfl (R.fa0 0 rfl rfl Try.underlying37 rfl Try.sz3 rfl) ?_
  refine W.storeEl ((⟨_, y1.Price, y1.Qty, y1.Shipped⟩ : GLine)) rfl rfl rfl rfl rfl Try.sz3 rfl rfl hO hq1 hy1 hK2 hat1 ⟨rfl, (by first | omega | (dsimp only; omega)), (by first | omega | (dsimp only; omega)), (by first | omega | (dsimp only; omega)), (by first | omega | (dsimp only; omega)), (by first | omega | (dsimp only; omega)), (by first | omega | (dsimp only; omega)), (by first | omega | (dsimp only; omega)), (by first | omega | (dsimp only; omega))⟩ hH30 (fun z1 w15 hH31 hO1 => ?_)
  refine W.nil (EX.blk_n (EX.then_n (CW.region rfl (W.val rfl rfl rfl (R.addx rfl rfl rfl (ok_i64 (by omega))) (W.val rfl rfl rfl (R.move rfl rfl) (W.nil ?_))))))
  have hH32 := hH31.f7
  have hH33 := hH32.f7
  have hH34 := hH33.f7
  have hH35 := hH34.f7
  have hH36 := hH35.f7
  have hH37 := hH36.f7
  have hH38 := hH37.f7
  have hH39 := hH38.f7
  have hH40 := hH39.upto8
  refine EX.back4 _ _ rfl ?_ (by rw [hI1]; exact ⟨k + 1, _, _, rfl, rfl, hH40, by omega, (by simpa using hll), hO1⟩) ?_
  exact ⟨lk_int rfl (by first | rfl | omega), trivial⟩
  omega
  replace hc4 := of_decide_eq_false hc4
  refine CW.exit (EX.then_exit (EX.then_exit (EX.blk_here (EX.then_n (CW.seq (CW.region rfl (W.lg0 rfl rfl rfl rfl rfl Try.pl28 (by rw [Try.underlying28]; rfl) (by exact Try.sz28) hH30 m1 hB6 ?_)))))))
  refine W.lg0 rfl rfl rfl rfl rfl Try.pl28 (by rw [Try.underlying28]; rfl) (by exact Try.sz28) hH30 m4 hB2 ?_
  refine W.call rfl rfl rfl rfl rfl Try.func11 Try.nm11 Try.bd11 (r08_Same (⟨_, _, _, _, _, _, _, _, _, _, _, _⟩ : GState) _ _ _ w14 ⟨_, _, rfl, (by first | omega | decide | (dsimp only [GField.none]; omega)), (by first | omega | decide | (dsimp only [GField.none]; omega)), (by first | omega | decide | (dsimp only [GField.none]; omega)), (by first | omega | decide | (dsimp only [GField.none]; omega)), (by first | omega | decide | (dsimp only [GField.none]; omega)), (by first | omega | decide | (dsimp only [GField.none]; omega)), (by first | omega | decide | (dsimp only [GField.none]; omega)), (by first | omega | decide | (dsimp only [GField.none]; omega)), (by first | omega | decide | (dsimp only [GField.none]; omega)), (by first | omega | decide | (dsimp only [GField.none]; omega)), (by first | omega | decide | (dsimp only [GField.none]; omega)), (by first | omega | decide | (dsimp only [GField.none]; omega)), (by first | omega | decide | (dsimp only [GField.none]; omega)), (by first | omega | decide | (dsimp only [GField.none]; omega)), (by first | omega | decide | (dsimp only [GField.none]; omega)), (by first | omega | decide | (dsimp only [GField.none]; omega)), (by first | omega | decide | (dsimp only [GField.none]; omega)), (by first | omega | decide | (dsimp only [GField.none]; omega)), (by first | omega | decide | (dsimp only [GField.none]; omega)), (by first | omega | decide | (dsimp only [GField.none]; omega)), hb63, hO0_52.cap, (hO0_52.row (hH30.le m2) (emp_le _))⟩ (hK01.mono (hH30.le m5))) ?_
  rintro v8 w16 ⟨rfl, hH41⟩
  have hH42 := hH30.c0 hH41
  refine W.val rfl rfl rfl (R.assign rfl rfl) (W.nil (EX.then_n (CW.ret (EX.ret1 Try.results3 rfl ?_))))
  have hH43 := hH42.f7
  have hH44 := hH43.upto1
  refine ⟨?_, hH44⟩
  refine vbool ?_
  exact sameB_refl _

end Go.Proofs.Gw
