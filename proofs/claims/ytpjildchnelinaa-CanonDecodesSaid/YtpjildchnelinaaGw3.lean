/- Words and walks of my own: what each function of the program and of the library that the law reaches comes to, for every input that its callers hand it (file 4 of 5). Conditions: none but those that each theorem names. -/
import Derived.Test.YtpjildchnelinaaGw2
set_option linter.unusedVariables false
set_option linter.unnecessarySimpa false
set_option linter.unusedSimpArgs false
set_option linter.unusedSectionVars false
namespace Go.Proofs.Gw
open Go Go.Gw Go.Proofs Go.RowKit
set_option maxRecDepth 100000 in
set_option maxHeartbeats 1000000 in
theorem writer_add {A : Option Addr} {c bw : Nat} {fs : List GField} {bad : Int} {zw z y : PH} {zf : PH} (f : GField) (cs : List Value) (w0 w : World) (Z : List PH) (hH0 : Has w0 w (zw :: z :: y :: zf :: Z)) (hBw : Blk zw bw 156 [.slice A (fs).length c, .int .i64 (bad)]) (hO : Own kField 77 y z A c fs) (hfl : fs.length ≤ 1000000) (hKf : kField.K zf f cs) : Calls Try.prog 93 #[.pointer (some ⟨bw, 0, none⟩), .agg cs.toArray] w (Ret fun v w' => ∃ zw' z' y' A' c', v = .pointer (some ⟨bw, 0, none⟩) ∧ Has w0 w' (zw' :: z' :: y' :: Z) ∧ Blk zw' bw 156 [.slice A' ((addF (fs, bad) f).1).length c', .int .i64 ((addF (fs, bad) f).2)] ∧ Own kField 77 y' z' A' c' (addF (fs, bad) f).1) := by
  refine fnstartP (N := 64) Try.func93 rfl Try.ntmps93 (Nat.le_of_ble_eq_true rfl) ?_
  have hK1 := hKf
  obtain ⟨A1, c1, rfl, hb1, hb2, hb3, hb4, hl1, hr1⟩ := hK1
  have hlen1 := hr1.len
  have hK2 : kField.K zf f _ := hKf
  refine CW.seq (CW.region rfl ?_)
  refine W.box rfl rfl rfl rfl rfl rfl hH0 (fun b1 zb1 w1 hH1 hB1 => ?_)
  refine W.val rfl rfl rfl (R.assign rfl rfl) (W.nil (EX.then_n (CW.seq (CW.seq (CW.region rfl (W.val rfl rfl rfl (R.move rfl rfl) (W.val rfl rfl rfl (R.peql_r_some rfl rfl rfl Try.underlying121 rfl) ?_)))))))
  refine W.val rfl rfl rfl (R.move rfl rfl) (W.val rfl rfl rfl (R.move rfl rfl) (W.val rfl rfl rfl (R.nilCheck rfl rfl) (W.val rfl rfl rfl (R.fa0 1 rfl rfl Try.underlying156 rfl Try.sz31 rfl) (W.ldk rfl rfl rfl rfl rfl Try.pl31 hH1 m1 hBw rfl (W.val rfl rfl rfl (R.neq rfl rfl rfl) (W.val rfl rfl rfl (R.pick_f rfl rfl rfl) (W.nil ?_)))))))
  refine EX.then_n ?_
  refine CW.cond rfl (fun hc1 => ?_) (fun hc1 => ?_)
  replace hc1 := of_ndec_t hc1
  refine CW.seq (CW.region rfl (W.val rfl rfl rfl (R.move rfl rfl) (W.val rfl rfl rfl (R.assign rfl rfl) (W.nil (EX.then_n (CW.ret (EX.then_ret ?_)))))))
  refine EX.retP Try.results93 (.cons (.tmp rfl) RVs.nil) ?_
  have hH2 := hH1.drop
  have hH3 := hH2.f3
  have hH4 := hH3.drop
  have hH5 := hH4.f2
  have hH6 := hH5.f2
  have hH7 := hH6.f2
  rw [addF_bad (by omega)]
  exact ⟨_, _, _, _, _, rfl, hH7, hBw, hO⟩
  replace hc1 := of_ndec_f hc1
  refine CW.skip (EX.then_n (CW.seq (CW.region rfl (W.val rfl rfl rfl (R.assign rfl rfl) (W.nil (EX.then_n ?_))))))
  obtain ⟨I1, hI1⟩ : ∃ I : List (Nat × Value) → World → Prop, I = (fun D_ w_ => D_ = [(5, .int .i64 (lastTag fs))] ∧ Has w0 w_ (zb1 :: zw :: z :: y :: zf :: Z)) := ⟨_, rfl⟩
  refine CW.mid [5, 6, 17, 18, 19, 20, 21, 22, 23, 24, 25, 26, 27, 28, 29, 30, 31, 32] I1 ?_ ?_
  refine CW.seq (CW.region rfl (W.val rfl rfl rfl (R.move rfl rfl) (W.val rfl rfl rfl (R.nilCheck rfl rfl) (W.val rfl rfl rfl (R.fa0 0 rfl rfl Try.underlying156 rfl Try.sz72 rfl) (W.ldk rfl rfl rfl rfl rfl Try.pl72 hH1 m1 hBw rfl (W.val rfl rfl rfl (R.len_slice rfl rfl Try.underlying72) (W.val rfl rfl rfl (R.assign rfl rfl) ?_)))))))
  refine W.nil (EX.then_n (CW.seq (CW.region rfl (W.val rfl rfl rfl (R.move rfl rfl) (W.val rfl rfl rfl (R.gtr rfl rfl rfl) (W.nil (EX.then_n ?_)))))))
  refine CW.cond rfl (fun hc2 => ?_) (fun hc2 => ?_)
  replace hc2 := of_decide_eq_true hc2
  refine CW.region rfl (W.val rfl rfl rfl (R.move rfl rfl) (W.val rfl rfl rfl (R.nilCheck rfl rfl) (W.val rfl rfl rfl (R.fa0 0 rfl rfl Try.underlying156 rfl Try.sz72 rfl) (W.ldk rfl rfl rfl rfl rfl Try.pl72 hH1 m1 hBw rfl (W.val rfl rfl rfl (R.move rfl rfl) (W.val rfl rfl rfl (R.subx rfl rfl rfl (ok_i64 (by omega))) ?_))))))
  refine W.indexOwn rfl rfl rfl rfl rfl rfl Try.underlying72 Try.sz77 hO (by omega) (by omega) rfl (fun q1 cs1 y1 hy1 hK3 hat1 hq1 => ?_)
  try simp only [Int.toNat_natCast, Int.reduceToNat] at hy1
  have hK4 := hK3
  obtain ⟨A2, c2, rfl, hb5, hb6, hb7, hb8, hl2, hr2⟩ := hK4
  have hlen2 := hr2.len
  refine W.val rfl rfl rfl (R.fa0 0 rfl rfl Try.underlying77 rfl Try.sz3 rfl) (W.lak rfl rfl rfl rfl rfl Try.pl3 hH1 m2 hat1 rfl (W.val rfl rfl rfl (R.assign rfl rfl) (W.nil ?_)))
  have hH8 := hH1.f4
  have hH9 := hH8.f4
  have hH10 := hH9.f4
  have hH11 := hH10.f4
  have hH12 := hH11.f4
  refine EX.mid _ rfl ?_ (by rw [hI1]; exact ⟨rfl, hH12⟩)
  exact ⟨lk_int rfl (lastTag_of hy1).symm, trivial⟩
  replace hc2 := of_decide_eq_false hc2
  refine CW.skip ?_
  have hH13 := hH1.f4
  have hH14 := hH13.f4
  have hH15 := hH14.f4
  have hH16 := hH15.f4
  have hH17 := hH16.f4
  refine EX.mid _ rfl ?_ (by rw [hI1]; exact ⟨rfl, hH17⟩)
  exact ⟨lk_int rfl (lastTag_nil (by omega)).symm, trivial⟩
  intro D w2 hn1
  rw [hI1] at hn1
  obtain ⟨rfl, hH18⟩ := hn1
  refine CW.seq (CW.region rfl (W.val rfl rfl rfl (R.move rfl rfl) (W.lg0 rfl rfl rfl rfl rfl Try.pl77 (by rw [Try.underlying77]; rfl) (by exact Try.sz77) hH18 m0 hB1 (W.val rfl rfl rfl (R.move rfl rfl) (W.call rfl rfl rfl rfl rfl Try.func123 Try.nm123 Try.bd123 (tlv_check f _ _ w2 (hK2.mono (hH18.le m4))) ?_)))))
  rintro v1 w3 ⟨rfl, hH19⟩
  have hH20 := hH18.c0 hH19
  refine W.val rfl rfl rfl (R.nilCheck rfl rfl) (W.val rfl rfl rfl (R.fa0 1 rfl rfl Try.underlying156 rfl Try.sz31 rfl) ?_)
  have hH21 := hH20.f1
  refine W.storeLoc rfl rfl rfl rfl rfl Try.sz31 rfl (Nat.le_of_ble_eq_true rfl) hH21 hBw (fun zb2 w4 hH22 hB2 => ?_)
  refine W.nil (EX.then_n (CW.seq (CW.seq (CW.region rfl (W.val rfl rfl rfl (R.move rfl rfl) (W.val rfl rfl rfl (R.nilCheck rfl rfl) (W.val rfl rfl rfl (R.fa0 1 rfl rfl Try.underlying156 rfl Try.sz31 rfl) ?_)))))))
  refine W.ldk rfl rfl rfl rfl rfl Try.pl31 hH22 m0 hB2 rfl (W.val rfl rfl rfl (R.eql rfl rfl rfl) (W.nil (EX.then_n ?_)))
  refine CW.cond rfl (fun hc3 => ?_) (fun hc3 => ?_)
  replace hc3 := of_decide_eq_true hc3
  refine CW.seq (CW.region rfl (W.val rfl rfl rfl (R.move rfl rfl) (W.val rfl rfl rfl (R.nilCheck rfl rfl) (W.val rfl rfl rfl (R.fa0 1 rfl rfl Try.underlying156 rfl Try.sz31 rfl) ?_))))
  refine W.storeLoc rfl rfl rfl rfl rfl Try.sz31 rfl (Nat.le_of_ble_eq_true rfl) hH22 hB2 (fun zb3 w5 hH23 hB3 => ?_)
  refine W.nil (EX.then_n (CW.seq (CW.region rfl (W.val rfl rfl rfl (R.move rfl rfl) (W.val rfl rfl rfl (R.assign rfl rfl) (W.nil (EX.then_n ?_)))))))
  refine CW.ret (EX.then_ret (EX.retP Try.results93 (.cons (.tmp rfl) RVs.nil) ?_))
  have hH24 := hH23.f1
  have hH25 := hH24.drop
  have hH26 := hH25.f3
  have hH27 := hH26.drop
  have hH28 := hH27.f2
  have hH29 := hH28.f2
  have hH30 := hH29.f2
  rw [addF_22 (by omega) (by omega)]
  exact ⟨_, _, _, _, _, rfl, hH30, hB3, hO⟩
  replace hc3 := of_decide_eq_false hc3
  refine CW.skip (EX.then_n (CW.seq (CW.seq (CW.region rfl (W.val rfl rfl rfl (R.move rfl rfl) (W.val rfl rfl rfl (R.nilCheck rfl rfl) (W.val rfl rfl rfl (R.fa0 1 rfl rfl Try.underlying156 rfl Try.sz31 rfl) ?_)))))))
  refine W.ldk rfl rfl rfl rfl rfl Try.pl31 hH22 m0 hB2 rfl (W.val rfl rfl rfl (R.eql rfl rfl rfl) (W.nil (EX.then_n ?_)))
  refine CW.cond rfl (fun hc4 => ?_) (fun hc4 => ?_)
  replace hc4 := of_decide_eq_true hc4
  have hH31 := hH22.drew
  refine CW.draw (fun w => Sub zb2 w ∧ Sub zb1 w ∧ True) [10] #[false, false, false, false, false, false, false, false, false, false, false] Try.mixed rfl rfl ⟨hH31.sub _ m0, hH31.sub _ m1, trivial⟩ (WA.pure (i := 0) #[true, false, false, false, false, false, false, false, false, false, false] (blind_then (blind_body _ _)) rfl (by kernel_rfl) rfl rfl rfl (fun _ => R.move rfl rfl) (WA.pure (i := 1) #[true, true, false, false, false, false, false, false, false, false, false] (blind_then (blind_body _ _)) rfl (by kernel_rfl) rfl rfl rfl (fun _ => R.move rfl rfl) (WA.pure (i := 2) #[true, true, true, false, false, false, false, false, false, false, false] (blind_then (blind_body _ _)) rfl (by kernel_rfl) rfl rfl rfl (fun _ => R.nilCheck rfl rfl) (WA.pure (i := 3) #[true, true, true, true, false, false, false, false, false, false, false] (blind_then (blind_body _ _)) rfl (by kernel_rfl) rfl rfl rfl (fun _ => R.fa0 0 rfl rfl Try.underlying156 rfl Try.sz72 rfl) (WA.take (i := 4) #[true, true, true, true, true, false, false, false, false, false, false] (blind_then (blind_body _ _)) rfl (by kernel_rfl) rfl rfl rfl (fun _ hw => R.load rfl rfl Try.pl72 (cellz_le hw.1 (hB2.at_ 0 _ rfl))) ⟨hH31.sub _ m0, hH31.sub _ m1, trivial⟩ (WA.take (i := 5) #[true, true, true, true, true, true, false, false, false, false, false] (blind_then (blind_body _ _)) rfl (by kernel_rfl) rfl rfl rfl (fun _ hw => R.loadAgg rfl rfl (run_isAgg_struct Try.underlying77) (by exact Try.sz77) (hB1.at_.le hw.2.1)) ⟨hH31.sub _ m0, hH31.sub _ m1, trivial⟩ (WA.one (i := 6) #[true, true, true, true, true, true, true, false, false, false, false] rfl (by kernel_rfl) rfl ?_)))))))
  refine W.bs rfl rfl rfl rfl rfl Try.underlying72 Try.inf77 (by decide) rfl rfl hH31 (fun b2 zb4 w6 hH32 hB4 => ?_)
  refine W.nil (EX.wa ⟨hH32.sub _ m1, hH32.sub _ m2, trivial⟩ (WA.one (i := 7) #[true, true, true, true, true, true, true, true, false, false, false] rfl (by kernel_rfl) rfl ?_))
  have hH33 := hH32.f5
  have hH34 := hH33.f5
  have dj1 := hH34.dj01
  have hH35 := hH34.join
  have hO1 := hO.mono (Le.left _ zf)
  have hH36 := hH35.f1
  have hH37 := hH36.f4
  refine W.app1 (f) rfl rfl rfl rfl rfl rfl rfl Try.underlying72 Try.inf77 rfl hH37 hB4 hO1 (hK2.mono (Le.right dj1)) (by decide) (by omega) (fun A3 c3 z1 w7 hH38 hO2 => ?_)
  refine W.nil (EX.wa ⟨hH38.sub _ m2, hH38.sub _ m3, trivial⟩ (WA.pure (i := 8) #[true, true, true, true, true, true, true, true, true, false, false] (blind_then (blind_body _ _)) rfl (by kernel_rfl) rfl rfl rfl (fun _ => R.nilCheck rfl rfl) (WA.pure (i := 9) #[true, true, true, true, true, true, true, true, true, true, false] (blind_then (blind_body _ _)) rfl (by kernel_rfl) rfl rfl rfl (fun _ => R.fa0 0 rfl rfl Try.underlying156 rfl Try.sz72 rfl) (WA.last (i := 10) #[true, true, true, true, true, true, true, true, true, true, true] rfl (by kernel_rfl) rfl ?_))))
  have hH39 := hH38.f2
  refine W.storeLoc rfl rfl rfl rfl rfl Try.sz72 rfl (Nat.le_of_ble_eq_true rfl) hH39 hB2 (fun zb5 w8 hH40 hB5 => ?_)
  refine W.nil (EX.waL (WA.done (by kernel_rfl) (EX.then_n (CW.seq (CW.region rfl (W.val rfl rfl rfl (R.move rfl rfl) (W.val rfl rfl rfl (R.assign rfl rfl) ?_)))))))
  refine W.nil (EX.then_n (CW.ret (EX.retP Try.results93 (.cons (.tmp rfl) RVs.nil) ?_)))
  have hH41 := hH40.f3
  have hH42 := hH41.drop
  have hH43 := hH42.f2
  have hH44 := hH43.f2
  have hH45 := hH44.f2
  rw [addF_ok (by omega) (by omega)]
  exact ⟨_, _, _, _, _, rfl, hH45, Blk.int2 hB5 (by omega), hO2⟩
  replace hc4 := of_decide_eq_false hc4
  refine CW.skip (EX.then_n (CW.seq (CW.region rfl (W.val rfl rfl rfl (R.move rfl rfl) (W.val rfl rfl rfl (R.assign rfl rfl) (W.nil (EX.then_n ?_)))))))
  refine CW.ret (EX.retP Try.results93 (.cons (.tmp rfl) RVs.nil) ?_)
  have hH46 := hH22.f1
  have hH47 := hH46.drop
  have hH48 := hH47.f3
  have hH49 := hH48.drop
  have hH50 := hH49.f2
  have hH51 := hH50.f2
  have hH52 := hH51.f2
  rw [addF_e (by omega) (by omega) (by omega)]
  exact ⟨_, _, _, _, _, rfl, hH52, hB2, hO⟩

end Go.Proofs.Gw
namespace Go.Proofs.Gw
open Go Go.Gw Go.Proofs Go.RowKit
set_option maxRecDepth 100000 in
set_option maxHeartbeats 1000000 in
theorem writer_Num {A : Option Addr} {c bw : Nat} {fs : List GField} {bad : Int} {zw z y : PH} (tag u : Int) (w0 w : World) (Z : List PH) (hH0 : Has w0 w (zw :: z :: y :: Z)) (hBw : Blk zw bw 156 [.slice A (fs).length c, .int .i64 (bad)]) (hO : Own kField 77 y z A c fs) (hfl : fs.length ≤ 1000000) (ht0 : -9223372036854775808 ≤ tag) (ht1 : tag ≤ 9223372036854775807) (hu0 : 0 ≤ u) (hu1 : u ≤ 18446744073709551615) : Calls Try.prog 69 #[.pointer (some ⟨bw, 0, none⟩), .int .i64 tag, .int .u64 u] w (Ret fun v w' => ∃ zw' z' y' A' c', v = .pointer (some ⟨bw, 0, none⟩) ∧ Has w0 w' (zw' :: z' :: y' :: Z) ∧ Blk zw' bw 156 [.slice A' ((addF (fs, bad) ⟨tag, false, u, []⟩).1).length c', .int .i64 ((addF (fs, bad) ⟨tag, false, u, []⟩).2)] ∧ Own kField 77 y' z' A' c' (addF (fs, bad) ⟨tag, false, u, []⟩).1) := by
  refine fnstartP (N := 12) Try.func69 rfl Try.ntmps69 (Nat.le_of_ble_eq_true rfl) (CW.seq (CW.region rfl (W.val rfl rfl rfl (R.assign rfl rfl) (W.nil (EX.then_n (CW.seq (CW.region rfl ?_)))))))
  refine W.val rfl rfl rfl (R.move rfl rfl) (W.val rfl rfl rfl (R.move rfl rfl) (W.val rfl rfl rfl (R.move rfl rfl) (W.val rfl rfl rfl (R.build rfl rfl Try.zr77 rfl (by rw [Try.underlying77]; rfl) Try.plc77 rfl) ?_)))
  have hH1 := hH0.emp
  have hH3 := hH1.f3
  have hH4 := hH3.f3
  have hH5 := hH4.f3
  refine W.call rfl rfl rfl rfl rfl Try.func93 Try.nm93 Try.bd93 (writer_add ⟨tag, false, u, []⟩ _ _ _ _ hH5 hBw hO (by omega) ⟨_, _, rfl, (by first | omega | decide | (dsimp only [GField.none]; omega)), (by first | omega | decide | (dsimp only [GField.none]; omega)), (by first | omega | decide | (dsimp only [GField.none]; omega)), (by first | omega | decide | (dsimp only [GField.none]; omega)), (Nat.le_refl _), (Row.nil _ _ none)⟩) ?_
  rintro _ w1 ⟨zw1, z2, y1, A1, c1, rfl, hH2, hB1, hO1⟩
  refine W.val rfl rfl rfl (R.assign rfl rfl) (W.nil (EX.then_n (CW.ret (EX.retP Try.results69 (.cons (.tmp rfl) RVs.nil) ?_))))
  have hH6 := hH2.f2
  have hH7 := hH6.f2
  have hH8 := hH7.f2
  exact ⟨_, _, _, _, _, rfl, hH8, hB1, hO1⟩

end Go.Proofs.Gw
namespace Go.Proofs.Gw
open Go Go.Gw Go.Proofs Go.RowKit
set_option maxRecDepth 100000 in
set_option maxHeartbeats 1000000 in
theorem writer_Text {A : Option Addr} {c bw : Nat} {fs : List GField} {bad : Int} {zw z y : PH} {A2 : Option Addr} {c2 : Nat} {zr : PH} (tag : Int) (b : List UInt8) (w0 w : World) (Z : List PH) (hH0 : Has w0 w (zw :: z :: y :: Z)) (hBw : Blk zw bw 156 [.slice A (fs).length c, .int .i64 (bad)]) (hO : Own kField 77 y z A c fs) (hfl : fs.length ≤ 1000000) (ht0 : -9223372036854775808 ≤ tag) (ht1 : tag ≤ 9223372036854775807) (lb : b.length ≤ c2) (hmr : zr ∈ Z) (hb : Row kU8 zr A2 b) (hn : b.length ≤ 1099511627776) : Calls Try.prog 70 #[.pointer (some ⟨bw, 0, none⟩), .int .i64 tag, .slice A2 b.length c2] w (Ret fun v w' => ∃ zw' z' y' A' c', v = .pointer (some ⟨bw, 0, none⟩) ∧ Has w0 w' (zw' :: z' :: y' :: Z) ∧ Blk zw' bw 156 [.slice A' ((addF (fs, bad) ⟨tag, true, 0, b⟩).1).length c', .int .i64 ((addF (fs, bad) ⟨tag, true, 0, b⟩).2)] ∧ Own kField 77 y' z' A' c' (addF (fs, bad) ⟨tag, true, 0, b⟩).1) := by
  refine fnstartP (N := 13) Try.func70 rfl Try.ntmps70 (Nat.le_of_ble_eq_true rfl) ?_
  have hlb := hb.len
  refine CW.seq (CW.region rfl (W.val rfl rfl rfl (R.assign rfl rfl) (W.nil (EX.then_n (CW.seq (CW.region rfl (W.val rfl rfl rfl (R.move rfl rfl) ?_)))))))
  refine W.val rfl rfl rfl (R.move rfl rfl) (W.val rfl rfl rfl (R.move rfl rfl) (W.call rfl rfl rfl rfl rfl Try.func64 Try.nm64 Try.bd64 (slices_Clone _ _ _ w lb (hb.mono (hH0.le (List.mem_cons_of_mem _ (List.mem_cons_of_mem _ (List.mem_cons_of_mem _ hmr))))) (by omega)) ?_))
  rintro v1 w1 ⟨A01, c01, z01, rfl, hH1, hO01⟩
  have hH2 := hH0.c1 hH1
  refine W.val rfl rfl rfl (R.build rfl rfl Try.zr77 rfl (by rw [Try.underlying77]; rfl) Try.plc77 rfl) ?_
  have hH4 := hH2.f3
  have hH5 := hH4.f3
  have hH6 := hH5.f3
  refine W.call rfl rfl rfl rfl rfl Try.func93 Try.nm93 Try.bd93 (writer_add ⟨tag, true, 0, b⟩ _ _ _ _ hH6 hBw hO (by omega) ⟨_, _, rfl, (by first | omega | decide | (dsimp only [GField.none]; omega)), (by first | omega | decide | (dsimp only [GField.none]; omega)), (by first | omega | decide | (dsimp only [GField.none]; omega)), (by first | omega | decide | (dsimp only [GField.none]; omega)), hO01.cap, (hO01.row (Le.refl _) (emp_le _))⟩) ?_
  rintro _ w2 ⟨zw1, z1, y1, A1, c1, rfl, hH3, hB1, hO1⟩
  refine W.val rfl rfl rfl (R.assign rfl rfl) (W.nil (EX.then_n (CW.ret (EX.retP Try.results70 (.cons (.tmp rfl) RVs.nil) ?_))))
  have hH7 := hH3.f2
  have hH8 := hH7.f2
  have hH9 := hH8.f2
  exact ⟨_, _, _, _, _, rfl, hH9, hB1, hO1⟩

end Go.Proofs.Gw
namespace Go.Proofs.Gw
open Go Go.Gw Go.Proofs Go.RowKit
set_option maxRecDepth 100000 in
set_option maxHeartbeats 1000000 in
theorem canon_line (l : GLine) (csl : List Value) (w0 : World) (hl : kLine.K (hp w0) l csl) (hl0 : 0 ≤ l.Item ∧ 0 ≤ l.Price ∧ 0 ≤ l.Qty ∧ 0 ≤ l.Shipped) : Calls Try.prog 71 #[.agg csl.toArray] w0 (Ret fun v w' => ∃ (A0 : Option Addr) (c0 : Nat) (z0 : PH), v = .slice A0 (lineT l).length c0 ∧ Has w0 w' [z0, hp w0] ∧ Own kU8 5 emp z0 A0 c0 (lineT l)) := by
  refine fnstart (N := 25) Try.func71 rfl Try.ntmps71 (Nat.le_of_ble_eq_true rfl) ?_
  have hH0 : Has w0 w0 [hp w0] := Has.refl w0
  have hK1 := hl
  obtain ⟨rfl, hb1, hb2, hb3, hb4, hb5, hb6, hb7, hb8⟩ := hK1
  refine CW.seq (CW.region rfl ?_)
  refine W.box rfl rfl rfl rfl rfl rfl hH0 (fun b1 zb1 w1 hH1 hB1 => ?_)
  refine W.val rfl rfl rfl (R.assign rfl rfl) (W.nil (EX.then_n (CW.seq (CW.region rfl (W.val rfl rfl rfl (R.assign rfl rfl) (W.nil (EX.then_n ?_)))))))
  refine CW.seq (CW.seq (CW.region rfl (W.val rfl rfl rfl (R.fa0 0 rfl rfl Try.underlying37 rfl Try.sz3 rfl) (W.ldk rfl rfl rfl rfl rfl Try.pl3 hH1 m0 hB1 rfl (W.val rfl rfl rfl (R.fa0 1 rfl rfl Try.underlying37 rfl Try.sz3 rfl) (W.ldk rfl rfl rfl rfl rfl Try.pl3 hH1 m0 hB1 rfl (W.val rfl rfl rfl (R.fa0 2 rfl rfl Try.underlying37 rfl Try.sz3 rfl) ?_)))))))
  refine W.ldk rfl rfl rfl rfl rfl Try.pl3 hH1 m0 hB1 rfl (W.val rfl rfl rfl (R.fa0 3 rfl rfl Try.underlying37 rfl Try.sz3 rfl) (W.ldk rfl rfl rfl rfl rfl Try.pl3 hH1 m0 hB1 rfl (W.val rfl rfl rfl (R.buildD (k := .i64) ([l.Item, l.Price, l.Qty, l.Shipped]) rfl rfl Try.zr140 rfl Try.underlying140 Try.sz3 rfl rfl) (W.val rfl rfl rfl (R.move rfl rfl) (W.nil (EX.then_n (CW.block ?_)))))))
  have hH2 := hH1.emp
  have hH3 := hH2.f2
  have hH4 := hH3.f2
  have hH5 := hH4.f2
  obtain ⟨I1, hI1⟩ : ∃ I : Nat → List (Nat × Value) → World → Prop, I = (fun n_ D_ w_ => ∃ (k : Nat) (A : Option Addr) (c : Nat) (acc : List UInt8) (z : PH), D_ = [(15, .int .i64 (k : Int)), (3, .slice A acc.length c)] ∧ n_ = 4 - k ∧ Has w0 w_ [z, zb1, (hp w0)] ∧ (k ≤ 4) ∧ (acc = encL (([l.Item, l.Price, l.Qty, l.Shipped] : List Int).take k)) ∧ (acc.length ≤ 10 * k) ∧ (Own kU8 5 emp z A c acc)) := ⟨_, rfl⟩
  refine CW.loop3 [3, 5, 15, 16, 17, 18, 19, 20, 21, 22, 23] I1 _ _ ?_ (by rw [hI1]; exact ⟨0, none, 0, [], _, rfl, rfl, hH5, by omega, rfl, Nat.zero_le _, Own.nil _ _ _⟩) ?_
  exact ⟨lk_int rfl (by first | rfl | omega), rfl, trivial⟩
  intro n1 D w2 hn1
  rw [hI1] at hn1
  obtain ⟨k, A, c, acc, z, rfl, hme1, hH6, hk, he, hal, hO⟩ := hn1
  refine CW.seq (CW.region rfl (W.val rfl rfl rfl (R.lss rfl rfl rfl) (W.nil (EX.then_n (CW.seq ?_)))))
  refine CW.cond rfl (fun hc1 => ?_) (fun hc1 => ?_)
  replace hc1 := of_decide_eq_true hc1
  refine CW.skip (EX.then_n (CW.seq (CW.block (CW.seq (CW.region rfl ?_)))))
  obtain ⟨y1, hy1⟩ : ∃ y, ([l.Item, l.Price, l.Qty, l.Shipped] : List Int)[k]? = some y := ⟨_, List.getElem?_eq_getElem (by simp only [List.length_cons, List.length_nil]; omega)⟩
  refine W.val rfl rfl rfl (R.indexI rfl rfl rfl Try.underlying140 Try.sz3 Try.pl3 (by omega) (by omega) (by first | exact hy1 | (simp only [Int.toNat_natCast]; exact hy1))) ?_
  have hyy := four_get hy1
  have hen := encv_len (u := y1.toNat) (by omega)
  refine W.val rfl rfl rfl (R.assign rfl rfl) (W.nil (EX.then_n (CW.region rfl (W.val rfl rfl rfl (R.move rfl rfl) (W.val rfl rfl rfl (R.move rfl rfl) (W.val rfl rfl rfl (R.convx rfl rfl (by rw [Try.underlying3]; rfl) Try.underlying75 (ok_u64 (by omega))) (W.call rfl rfl rfl rfl rfl Try.func94 Try.nm94 Try.bd94 (varint_Encode _ w2 (by omega) (by omega)) ?_)))))))
  rintro v1 w3 ⟨A01, c01, z01, rfl, hH7, hO01⟩
  have hH8 := hH6.c1 hH7
  have hH9 := hH8.f1
  refine W.appR rfl rfl rfl rfl rfl rfl rfl rfl Try.underlying22 Try.inf5 rfl hH9 hO (hO01.row (hH9.le m1) (emp_le _)) (fun _ hr => Reps.flat (by intro _ _ h; exact h) hr) (by decide) (by first | omega | (simp only [List.length_nil, List.length_append]; omega)) (fun A1 c1 z2 w4 hH10 hO1 => ?_)
  refine W.val rfl rfl rfl (R.assign rfl rfl) (W.nil (EX.blk_n (EX.then_n (CW.region rfl (W.val rfl rfl rfl (R.addx rfl rfl rfl (ok_i64 (by omega))) (W.val rfl rfl rfl (R.move rfl rfl) (W.nil ?_)))))))
  have hH11 := hH10.f3
  have hH12 := hH11.f3
  have hH13 := hH12.f2
  have hH14 := hH13.upto3
  refine EX.back4 _ _ rfl ?_ (by rw [hI1]; exact ⟨k + 1, _, _, acc ++ encv y1.toNat, _, rfl, rfl, hH14, by omega, by rw [encL_succ hy1, ← he], by rw [List.length_append]; omega, hO1⟩) ?_
  exact ⟨lk_int rfl (by first | rfl | omega), rfl, trivial⟩
  omega
  replace hc1 := of_decide_eq_false hc1
  refine CW.exit (EX.then_exit (EX.then_exit (EX.blk_here (EX.then_n (CW.seq (CW.region rfl (W.val rfl rfl rfl (R.move rfl rfl) ?_)))))))
  refine W.val rfl rfl rfl (R.assign rfl rfl) (W.nil (EX.then_n (CW.ret (EX.ret1 Try.results71 rfl ?_))))
  have hH15 := hH6.f2
  have hH16 := hH15.f1
  have hH17 := hH16.upto2
  obtain rfl : k = 4 := by omega
  have hq : lineT l = acc := by rw [he]; rfl
  rw [hq]
  refine ⟨_, _, _, ?_, hH17, hO⟩
  rfl

end Go.Proofs.Gw
namespace Go.Proofs.Gw
open Go Go.Gw Go.Proofs Go.RowKit
set_option maxRecDepth 100000 in
set_option maxHeartbeats 1000000 in
theorem tlv_NewWriter  (w0 : World) : Calls Try.prog 68 #[] w0 (Ret fun v w' => ∃ bw zw z y A c, v = .pointer (some ⟨bw, 0, none⟩) ∧ Has w0 w' [zw, z, y, hp w0] ∧ Blk zw bw 156 [.slice A (([] : List GField)).length c, .int .i64 (0)] ∧ Own kField 77 y z A c []) := by
  refine fnstartP (N := 3) Try.func68 rfl Try.ntmps68 (Nat.le_of_ble_eq_true rfl) ?_
  have hH0 : Has w0 w0 [hp w0] := Has.refl w0
  refine CW.seq (CW.region rfl (W.val rfl rfl rfl (R.assign rfl rfl) (W.nil (EX.then_n (CW.seq (CW.region rfl (W.val rfl rfl rfl (R.build rfl rfl Try.zr156 rfl (by rw [Try.underlying156]; rfl) Try.plc156 rfl) ?_)))))))
  refine W.box rfl rfl rfl rfl rfl rfl hH0 (fun b1 zb1 w1 hH1 hB1 => ?_)
  refine W.val rfl rfl rfl (R.assign rfl rfl) (W.nil (EX.then_n (CW.ret (EX.retP Try.results68 (.cons (.tmp rfl) RVs.nil) ?_))))
  have hH2 := hH1.emp
  have hH3 := hH2.emp
  have hH4 := hH3.f3
  have hH5 := hH4.f1
  have hH6 := hH5.f2
  have hH7 := hH6.f3
  exact ⟨_, _, _, _, _, _, rfl, hH7, hB1, Own.nil _ _ _⟩

end Go.Proofs.Gw
namespace Go.Proofs.Gw
open Go Go.Gw Go.Proofs Go.RowKit
set_option maxRecDepth 100000 in
set_option maxHeartbeats 1000000 in
theorem canon_Encode (s : GState) (css : List Value) (w0 : World) (hs : kState.K (hp w0) s css) : Calls Try.prog 26 #[.agg css.toArray] w0 (Ret fun v w' => ∃ (A0 : Option Addr) (c0 : Nat) (z0 : PH), v = .tuple #[.slice A0 ((encS s).1).length c0, .int .i64 ((encS s).2)] ∧ Has w0 w' [z0, hp w0] ∧ Own kU8 5 emp z0 A0 c0 ((encS s).1)) := by
  refine fnstart (N := 69) Try.func26 rfl Try.ntmps26 (Nat.le_of_ble_eq_true rfl) ?_
  have hH0 : Has w0 w0 [hp w0] := Has.refl w0
  have hK1 := hs
  obtain ⟨A1, c1, rfl, hb1, hb2, hb3, hb4, hb5, hb6, hb7, hb8, hb9, hb10, hb11, hb12, hb13, hb14, hb15, hb16, hb17, hb18, hb19, hb20, hb21, hl1, hr1⟩ := hK1
  have hlen1 := hr1.len
  refine CW.seq (CW.region rfl ?_)
  refine W.box rfl rfl rfl rfl rfl rfl hH0 (fun b1 zb1 w1 hH1 hB1 => ?_)
  refine W.val rfl rfl rfl (R.assign rfl rfl) (W.val rfl rfl rfl (R.assign rfl rfl) (W.nil (EX.then_n (CW.seq (CW.seq (CW.region rfl (W.lg0 rfl rfl rfl rfl rfl Try.pl28 (by rw [Try.underlying28]; rfl) (by exact Try.sz28) hH1 m0 hB1 ?_)))))))
  refine W.call rfl rfl rfl rfl rfl Try.func39 Try.nm39 Try.bd39 (order_Valid s _ w1 (hs.mono (hH1.le m1))) ?_
  rintro v1 w2 ⟨rfl, hH2⟩
  have hH3 := hH1.c0 hH2
  refine W.val rfl rfl rfl (R.not rfl rfl) (W.nil (EX.then_n ?_))
  refine CW.cond rfl (fun hc1 => ?_) (fun hc1 => ?_)
  replace hc1 := of_not_t hc1
  try subst hc1
  refine CW.seq (CW.region rfl (W.val rfl rfl rfl (R.assign rfl rfl) (W.val rfl rfl rfl (R.assign rfl rfl) (W.nil (EX.then_n (CW.ret (EX.then_ret ?_)))))))
  refine EX.ret2 Try.results26 rfl rfl ?_
  have hH4 := hH3.emp
  have hH5 := hH4.f2
  have hH6 := hH5.f1
  have hH7 := hH6.upto2
  have hq : encS s = ([], 40) := by unfold encS; rw [if_neg (by simp_all)]
  rw [hq]
  refine ⟨_, _, _, ?_, hH7, (Own.nil _ _ _)⟩
  rfl
  replace hc1 := of_not_f hc1
  try subst hc1
  have hv : validS s = true := hc1
  obtain ⟨hbP, ⟨hl16, hL⟩, hnm, hrest⟩ := validS_spec hv
  unfold boundP at hbP
  have hnl := name_len hnm
  refine CW.skip (EX.then_n (CW.seq (CW.region rfl (W.call rfl rfl rfl rfl rfl Try.func68 Try.nm68 Try.bd68 (tlv_NewWriter _) ?_))))
  rintro _ w4 (⟨bw1, zw1, z2, y1, A2, c2, rfl, hH8, hB2, hO1⟩)
  have hH9 := hH3.c3 hH8
  refine W.val rfl rfl rfl (R.assign rfl rfl) (W.nil (EX.then_n (CW.seq (CW.seq (CW.region rfl (W.val rfl rfl rfl (R.fa0 0 rfl rfl Try.underlying28 rfl Try.sz3 rfl) (W.ldk rfl rfl rfl rfl rfl Try.pl3 hH9 m3 hB1 rfl ?_)))))))
  refine W.val rfl rfl rfl (R.fa0 1 rfl rfl Try.underlying28 rfl Try.sz25 rfl) (W.ldk rfl rfl rfl rfl rfl Try.pl25 hH9 m3 hB1 rfl (W.val rfl rfl rfl (R.fa0 2 rfl rfl Try.underlying28 rfl Try.sz25 rfl) (W.ldk rfl rfl rfl rfl rfl Try.pl25 hH9 m3 hB1 rfl (W.val rfl rfl rfl (R.fa0 3 rfl rfl Try.underlying28 rfl Try.sz3 rfl) (W.ldk rfl rfl rfl rfl rfl Try.pl3 hH9 m3 hB1 rfl (W.val rfl rfl rfl (R.fa0 4 rfl rfl Try.underlying28 rfl Try.sz3 rfl) (W.ldk rfl rfl rfl rfl rfl Try.pl3 hH9 m3 hB1 rfl ?_)))))))
  refine W.val rfl rfl rfl (R.fa0 6 rfl rfl Try.underlying28 rfl Try.sz3 rfl) (W.ldk rfl rfl rfl rfl rfl Try.pl3 hH9 m3 hB1 rfl (W.val rfl rfl rfl (R.fa0 7 rfl rfl Try.underlying28 rfl Try.sz3 rfl) (W.ldk rfl rfl rfl rfl rfl Try.pl3 hH9 m3 hB1 rfl (W.val rfl rfl rfl (R.fa0 8 rfl rfl Try.underlying28 rfl Try.sz3 rfl) (W.ldk rfl rfl rfl rfl rfl Try.pl3 hH9 m3 hB1 rfl (W.val rfl rfl rfl (R.fa0 9 rfl rfl Try.underlying28 rfl Try.sz3 rfl) (W.ldk rfl rfl rfl rfl rfl Try.pl3 hH9 m3 hB1 rfl ?_)))))))
  refine W.val rfl rfl rfl (R.fa0 10 rfl rfl Try.underlying28 rfl Try.sz3 rfl) (W.ldk rfl rfl rfl rfl rfl Try.pl3 hH9 m3 hB1 rfl (W.val rfl rfl rfl (R.buildD (k := .i64) (numsS s) rfl rfl Try.zr123 rfl Try.underlying123 Try.sz3 rfl rfl) (W.val rfl rfl rfl (R.move rfl rfl) (W.nil (EX.then_n (CW.block ?_))))))
  have hH10 := hH9.f2
  have hH11 := hH10.f2
  have hH12 := hH11.f2
  have hH13 := hH12.f4
  have hH14 := hH13.f4
  have hH15 := hH14.f4
  have hH16 := hH15.f4
  have hH17 := hH16.f4
  obtain ⟨I1, hI1⟩ : ∃ I : Nat → List (Nat × Value) → World → Prop, I = (fun n_ D_ w_ => ∃ (k : Nat) (A : Option Addr) (c : Nat) (z : PH) (y : PH) (zw : PH), D_ = [(34, .int .i64 (k : Int))] ∧ n_ = 10 - k ∧ Has w0 w_ [zw, z, y, zb1, (hp w0)] ∧ (k ≤ 10) ∧ (TagsIn (numFs 1 ((numsS s).take k)) (0 + k)) ∧ ((numFs 1 ((numsS s).take k)).length ≤ 0 + k) ∧ (Own kField 77 y z A c (numFs 1 ((numsS s).take k))) ∧ (Blk zw bw1 156 [.slice A (numFs 1 ((numsS s).take k)).length c, .int .i64 0])) := ⟨_, rfl⟩
  refine CW.loop3 [5, 6, 34, 35, 36, 37, 38, 39, 40, 41, 42, 43, 44] I1 _ _ ?_ (by rw [hI1]; exact ⟨0, _, _, _, _, _, rfl, rfl, hH17, by omega, TagsIn.nil _, Nat.le_refl _, hO1, hB2⟩) ?_
  exact ⟨lk_int rfl (by first | rfl | omega), trivial⟩
  intro n1 D w5 hn1
  rw [hI1] at hn1
  obtain ⟨k, A, c, z, y, zw, rfl, hme1, hH18, hk, hT, hfl, hO, hBw⟩ := hn1
  refine CW.seq (CW.region rfl (W.val rfl rfl rfl (R.lss rfl rfl rfl) (W.nil (EX.then_n (CW.seq ?_)))))
  refine CW.cond rfl (fun hc2 => ?_) (fun hc2 => ?_)
  replace hc2 := of_decide_eq_true hc2
  refine CW.skip (EX.then_n (CW.seq (CW.block (CW.seq (CW.region rfl (W.val rfl rfl rfl (R.move rfl rfl) ?_))))))
  obtain ⟨y2, hy1⟩ : ∃ y, (numsS s : List Int)[k]? = some y := ⟨_, List.getElem?_eq_getElem (by have hDn : (numsS s).length = 10 := rfl; omega)⟩
  refine W.val rfl rfl rfl (R.indexI rfl rfl rfl Try.underlying123 Try.sz3 Try.pl3 (by omega) (by omega) (by first | exact hy1 | (simp only [Int.toNat_natCast]; exact hy1))) ?_
  have hnn := nums_nn hv hy1
  have hub : y2 ≤ 9223372036854775807 := by
    have hm := List.mem_of_getElem? hy1
    unfold numsS at hm
    simp only [List.mem_cons, List.not_mem_nil, or_false] at hm
    omega
  have htk := numFs_take (t := 1) hy1
  refine W.val rfl rfl rfl (R.assign rfl rfl) (W.val rfl rfl rfl (R.assign rfl rfl) (W.nil (EX.then_n (CW.region rfl ?_))))
  have hlt := hT.last (by omega)
  refine W.val rfl rfl rfl (R.move rfl rfl) (W.val rfl rfl rfl (R.move rfl rfl) (W.val rfl rfl rfl (R.addx rfl rfl rfl (ok_i64 (by omega))) (W.val rfl rfl rfl (R.move rfl rfl) (W.val rfl rfl rfl (R.convx rfl rfl (by rw [Try.underlying3]; rfl) Try.underlying75 (ok_u64 (by omega))) ?_))))
  have hH20 := hH18.f2
  have hH21 := hH20.f2
  have hH22 := hH21.f2
  refine W.call rfl rfl rfl rfl rfl Try.func69 Try.nm69 Try.bd69 (writer_Num _ _ _ _ _ hH22 hBw hO (by omega) (by omega) (by omega) (by omega) (by omega)) ?_
  rintro _ w6 ⟨zw2, z3, y3, A3, c3, rfl, hH19, hB3, hO2⟩
  have ea := addF_n (fs := numFs 1 ((numsS s).take k)) (t := 1 + (k : Int)) (v := y2) (by omega) (by omega) (by omega)
  rw [ea, ← htk] at hB3 hO2
  dsimp only at hB3 hO2
  have hT2 : TagsIn (numFs 1 ((numsS s).take (k + 1))) (0 + ((k + 1 : Nat) : Int)) := by
    have h9 := TagsIn.num (v := y2) (t := 1 + (k : Int)) (fs := numFs 1 ((numsS s).take k)) (by rw [show 1 + (k : Int) - 1 = 0 + (k : Int) by omega]; exact hT) (by omega)
    rw [← htk] at h9
    rw [show (0 : Int) + ((k + 1 : Nat) : Int) = 1 + (k : Int) by omega]
    exact h9
  have hfl2 : (numFs 1 ((numsS s).take (k + 1))).length ≤ 0 + (k + 1) := by
    rw [htk, List.length_append]
    split <;> simp <;> omega
  refine W.nil (EX.blk_n (EX.then_n (CW.region rfl (W.val rfl rfl rfl (R.addx rfl rfl rfl (ok_i64 (by omega))) (W.val rfl rfl rfl (R.move rfl rfl) (W.nil ?_))))))
  have hH23 := hH19.f4
  have hH24 := hH23.f4
  have hH25 := hH24.f4
  have hH26 := hH25.f4
  have hH27 := hH26.f4
  have hH28 := hH27.upto5
  refine EX.back4 _ _ rfl ?_ (by rw [hI1]; exact ⟨k + 1, _, _, _, _, _, rfl, rfl, hH28, by omega, hT2, hfl2, hO2, hB3⟩) ?_
  exact ⟨lk_int rfl (by first | rfl | omega), trivial⟩
  omega
  replace hc2 := of_decide_eq_false hc2
  refine CW.exit (EX.then_exit (EX.then_exit (EX.blk_here (EX.then_n (CW.seq (CW.region rfl ?_))))))
  obtain rfl : k = 10 := by omega
  have hnf : (numsS s).take 10 = numsS s := List.take_of_length_le (Nat.le_refl 10)
  rw [hnf] at hT hfl hO hBw
  have hlt := hT.last (by omega)
  refine W.val rfl rfl rfl (R.move rfl rfl) (W.val rfl rfl rfl (R.fa0 11 rfl rfl Try.underlying28 rfl Try.sz9 rfl) (W.ldk rfl rfl rfl rfl rfl Try.pl9 hH18 m3 hB1 rfl ?_))
  refine W.strBytes rfl rfl rfl rfl rfl Try.underlying9 Try.underlying22 Try.underlying5 hb21 hH18 (fun A4 c4 z4 w7 hH29 hr2 hl2 => ?_)
  have hH31 := hH29.f3
  have hH32 := hH31.f3
  have hH33 := hH32.f3
  refine W.call rfl rfl rfl rfl rfl Try.func70 Try.nm70 Try.bd70 (writer_Text _ _ _ _ _ hH33 hBw hO (by omega) (by omega) (by omega) hl2 m0 hr2 (by omega)) ?_
  rintro _ w8 ⟨zw3, z5, y4, A5, c5, rfl, hH30, hB4, hO3⟩
  have ea := addF_t (fs := numFs 1 (numsS s)) (t := 11) (b := s.Who.data.toList) (by omega) (by omega) (by omega) (by omega)
  rw [ea] at hB4 hO3
  dsimp only at hB4 hO3
  have hT11 : TagsIn (numFs 1 (numsS s) ++ textFs 11 s.Who.data.toList) (11 + ((0 : Nat) : Int)) := TagsIn.text (t := 11) hT (by omega)
  have hfl11 : (numFs 1 (numsS s) ++ textFs 11 s.Who.data.toList).length ≤ 11 + 0 := by
    rw [List.length_append]
    unfold textFs
    split <;> simp <;> omega
  have hl0 : numFs 1 (numsS s) ++ textFs 11 s.Who.data.toList ++ lineFs 12 (s.Lines.take 0) = numFs 1 (numsS s) ++ textFs 11 s.Who.data.toList := by rw [List.take_zero]; exact List.append_nil _
  refine W.nil (EX.then_n (CW.seq (CW.seq (CW.region rfl (W.val rfl rfl rfl (R.fa0 5 rfl rfl Try.underlying28 rfl Try.sz26 rfl) (W.ldk rfl rfl rfl rfl rfl Try.pl26 hH30 m4 hB1 rfl (W.val rfl rfl rfl (R.len_slice rfl rfl Try.underlying26) ?_)))))))
  refine W.val rfl rfl rfl (R.move rfl rfl) (W.nil (EX.then_n (CW.block ?_)))
  have hH34 := hH30.f2
  have hH35 := hH34.f2
  have hH36 := hH35.f2
  have hH37 := hH36.f5
  have hH38 := hH37.f5
  have hH39 := hH38.f5
  have hH40 := hH39.f5
  have hH41 := hH40.f5
  have hH42 := hH41.f5
  obtain ⟨I2, hI2⟩ : ∃ I : Nat → List (Nat × Value) → World → Prop, I = (fun n_ D_ w_ => ∃ (k : Nat) (A : Option Addr) (c : Nat) (z : PH) (y : PH) (zw : PH), D_ = [(53, .int .i64 (k : Int))] ∧ n_ = s.Lines.length - k ∧ Has w0 w_ [zw, z, y, z4, zb1, (hp w0)] ∧ (k ≤ s.Lines.length) ∧ (TagsIn (numFs 1 (numsS s) ++ textFs 11 s.Who.data.toList ++ lineFs 12 (s.Lines.take k)) (11 + k)) ∧ ((numFs 1 (numsS s) ++ textFs 11 s.Who.data.toList ++ lineFs 12 (s.Lines.take k)).length ≤ 11 + k) ∧ (Own kField 77 y z A c (numFs 1 (numsS s) ++ textFs 11 s.Who.data.toList ++ lineFs 12 (s.Lines.take k))) ∧ (Blk zw bw1 156 [.slice A (numFs 1 (numsS s) ++ textFs 11 s.Who.data.toList ++ lineFs 12 (s.Lines.take k)).length c, .int .i64 0])) := ⟨_, rfl⟩
  refine CW.loop3 [7, 8, 53, 54, 55, 56, 57, 58, 59, 60, 61, 62, 63, 64] I2 _ _ ?_ (by rw [hI2]; exact ⟨0, _, _, _, _, _, rfl, rfl, hH42, by omega, (by rw [hl0]; exact hT11), (by rw [hl0]; exact hfl11), (by rw [hl0]; exact hO3), (by rw [hl0]; exact hB4)⟩) ?_
  exact ⟨lk_int rfl (by first | rfl | omega), trivial⟩
  intro n2 D w9 hn2
  rw [hI2] at hn2
  obtain ⟨k, A, c, z, y, zw, rfl, hme2, hH43, hk, hT, hfl, hO, hBw⟩ := hn2
  refine CW.seq (CW.region rfl (W.val rfl rfl rfl (R.lss rfl rfl rfl) (W.nil (EX.then_n (CW.seq ?_)))))
  refine CW.cond rfl (fun hc3 => ?_) (fun hc3 => ?_)
  replace hc3 := of_decide_eq_true hc3
  refine CW.skip (EX.then_n (CW.seq (CW.block (CW.seq (CW.region rfl (W.val rfl rfl rfl (R.move rfl rfl) ?_))))))
  refine W.indexRow rfl rfl rfl rfl rfl rfl Try.underlying26 Try.sz37 hr1 (by omega) (by omega) (fun q1 cs1 y5 hy2 hK2 hat1 => ?_)
  try simp only [Int.toNat_natCast, Int.reduceToNat] at hy2
  have hK3 := hK2
  obtain ⟨rfl, hb22, hb23, hb24, hb25, hb26, hb27, hb28, hb29⟩ := hK3
  have hlo := lokB_get hL hy2
  unfold lok at hlo
  have hll := lineT_len (l := y5) (by omega) (by omega) (by omega) (by omega)
  have htk := lineFs_take (t := 12) hy2
  refine W.lga rfl rfl rfl rfl rfl Try.pl37 (by rw [Try.underlying37]; rfl) (by exact Try.sz37) hH43 m5 hat1 ?_
  refine W.alloc rfl rfl rfl rfl Try.zr37 rfl hH43 (fun b2 zb2 w10 hH44 hB5 => ?_)
  refine W.val rfl rfl rfl (R.assign rfl rfl) ?_
  refine W.sg0 rfl rfl rfl rfl rfl Try.sz37 rfl (by rfl) hH44 hB5 (fun zb3 w11 hH45 hB6 => ?_)
  refine W.nil (EX.then_n (CW.region rfl ?_))
  have hlt := hT.last (by omega)
  refine W.val rfl rfl rfl (R.move rfl rfl) (W.val rfl rfl rfl (R.move rfl rfl) (W.val rfl rfl rfl (R.addx rfl rfl rfl (ok_i64 (by omega))) (W.lg0 rfl rfl rfl rfl rfl Try.pl37 (by rw [Try.underlying37]; rfl) (by exact Try.sz37) hH45 m0 hB6 (W.call rfl rfl rfl rfl rfl Try.func71 Try.nm71 Try.bd71 (canon_line y5 _ w11 (hK2.mono (hH45.le m6)) (by omega)) ?_))))
  rintro v4 w12 ⟨A01, c01, z01, rfl, hH46, hO01⟩
  have hH47 := hH45.c1 hH46
  have hH49 := hH47.f4
  have hH50 := hH49.f4
  have hH51 := hH50.f4
  refine W.call rfl rfl rfl rfl rfl Try.func70 Try.nm70 Try.bd70 (writer_Text _ _ _ _ _ hH51 hBw hO (by omega) (by omega) (by omega) hO01.cap m0 (hO01.row (Le.refl _) (emp_le _)) (by omega)) ?_
  rintro _ w13 ⟨zw4, z6, y6, A6, c6, rfl, hH48, hB7, hO4⟩
  have ea := addF_t (fs := numFs 1 (numsS s) ++ textFs 11 s.Who.data.toList ++ lineFs 12 (s.Lines.take k)) (t := 12 + (k : Int)) (b := lineT y5) (by omega) (by omega) (by omega) (by omega)
  rw [ea] at hB7 hO4
  dsimp only at hB7 hO4
  have hT2 : TagsIn (numFs 1 (numsS s) ++ textFs 11 s.Who.data.toList ++ lineFs 12 (s.Lines.take (k + 1))) (11 + ((k + 1 : Nat) : Int)) := by
    have h9 := TagsIn.text (t := 12 + (k : Int)) (b := lineT y5) (fs := numFs 1 (numsS s) ++ textFs 11 s.Who.data.toList ++ lineFs 12 (s.Lines.take k)) (by rw [show 12 + (k : Int) - 1 = 11 + (k : Int) by omega]; exact hT) (by omega)
    rw [textFs_one hll.1, List.append_assoc, ← htk] at h9
    rw [show (11 : Int) + ((k + 1 : Nat) : Int) = 12 + (k : Int) by omega]
    exact h9
  have hfl2 : (numFs 1 (numsS s) ++ textFs 11 s.Who.data.toList ++ lineFs 12 (s.Lines.take (k + 1))).length ≤ 11 + (k + 1) := by
    rw [htk, ← List.append_assoc, List.length_append, List.length_singleton]
    omega
  rw [textFs_one hll.1, List.append_assoc, ← htk] at hB7 hO4
  refine W.nil (EX.blk_n (EX.then_n (CW.region rfl (W.val rfl rfl rfl (R.addx rfl rfl rfl (ok_i64 (by omega))) (W.val rfl rfl rfl (R.move rfl rfl) (W.nil ?_))))))
  have hH52 := hH48.f7
  have hH53 := hH52.f7
  have hH54 := hH53.f7
  have hH55 := hH54.f5
  have hH56 := hH55.f5
  have hH57 := hH56.f5
  have hH58 := hH57.upto6
  refine EX.back4 _ _ rfl ?_ (by rw [hI2]; exact ⟨k + 1, _, _, _, _, _, rfl, rfl, hH58, by omega, hT2, hfl2, hO4, hB7⟩) ?_
  exact ⟨lk_int rfl (by first | rfl | omega), trivial⟩
  omega
  replace hc3 := of_decide_eq_false hc3
  refine CW.exit (EX.then_exit (EX.then_exit (EX.blk_here (EX.then_n (CW.seq (CW.region rfl (W.val rfl rfl rfl (R.move rfl rfl) ?_)))))))
  have hH60 := hH43.f2
  have hH61 := hH60.f2
  have hH62 := hH61.f2
  refine W.call rfl rfl rfl rfl rfl Try.func72 Try.nm72 Try.bd72 (writer_Done _ _ _ hH62 hBw hO (by omega)) ?_
  rintro _ w14 ⟨A7, c7, z7, rfl, hH59, hO5⟩
  refine W.val rfl rfl rfl (R.extract rfl rfl rfl) (W.val rfl rfl rfl (R.extract rfl rfl rfl) (W.val rfl rfl rfl (R.assign rfl rfl) (W.val rfl rfl rfl (R.assign rfl rfl) (W.nil (EX.then_n (CW.ret (EX.ret2 Try.results26 rfl rfl ?_)))))))
  have hH63 := hH59.f3
  have hH64 := hH63.f1
  have hH65 := hH64.upto2
  obtain rfl : k = s.Lines.length := by omega
  have hde : doneF (numFs 1 (numsS s) ++ textFs 11 s.Who.data.toList ++ lineFs 12 (s.Lines.take s.Lines.length), 0) = encS s := by
    unfold encS doneF fieldsS
    rw [List.take_length, if_neg (by simp), if_pos hv]
  rw [← hde]
  refine ⟨_, _, _, ?_, hH65, hO5⟩
  rfl

end Go.Proofs.Gw
namespace Go.Proofs.Gw
open Go Go.Gw Go.Proofs Go.RowKit
set_option maxRecDepth 100000 in
set_option maxHeartbeats 1000000 in
theorem canon_Size (s : GState) (css : List Value) (w0 : World) (hs : kState.K (hp w0) s css) : Calls Try.prog 27 #[.agg css.toArray] w0 (Ret fun v w' => v = .int .i64 (((encS s).1.length : Int)) ∧ Has w0 w' [hp w0]) := by
  refine fnstart (N := 12) Try.func27 rfl Try.ntmps27 (Nat.le_of_ble_eq_true rfl) ?_
  have hH0 : Has w0 w0 [hp w0] := Has.refl w0
  have hK1 := hs
  obtain ⟨A1, c1, rfl, hb1, hb2, hb3, hb4, hb5, hb6, hb7, hb8, hb9, hb10, hb11, hb12, hb13, hb14, hb15, hb16, hb17, hb18, hb19, hb20, hb21, hl1, hr1⟩ := hK1
  have hlen1 := hr1.len
  refine CW.seq (CW.region rfl ?_)
  refine W.box rfl rfl rfl rfl rfl rfl hH0 (fun b1 zb1 w1 hH1 hB1 => ?_)
  refine W.val rfl rfl rfl (R.assign rfl rfl) (W.nil (EX.then_n (CW.seq (CW.region rfl (W.lg0 rfl rfl rfl rfl rfl Try.pl28 (by rw [Try.underlying28]; rfl) (by exact Try.sz28) hH1 m0 hB1 (W.call rfl rfl rfl rfl rfl Try.func26 Try.nm26 Try.bd26 (canon_Encode s _ w1 (hs.mono (hH1.le m1))) ?_))))))
  rintro v1 w2 ⟨A01, c01, z01, rfl, hH2, hO01⟩
  have hH3 := hH1.c1 hH2
  refine W.val rfl rfl rfl (R.move rfl rfl) (W.val rfl rfl rfl (R.extract rfl rfl rfl) (W.val rfl rfl rfl (R.extract rfl rfl rfl) (W.val rfl rfl rfl (R.assign rfl rfl) (W.val rfl rfl rfl (R.assign rfl rfl) (W.nil (EX.then_n (CW.seq ?_)))))))
  refine CW.region rfl (W.val rfl rfl rfl (R.move rfl rfl) (W.val rfl rfl rfl (R.len_slice rfl rfl Try.underlying22) (W.val rfl rfl rfl (R.assign rfl rfl) (W.nil (EX.then_n (CW.ret (EX.ret1 Try.results27 rfl ?_)))))))
  have hH4 := hH3.f2
  have hH5 := hH4.upto1
  refine ⟨?_, hH5⟩
  rfl

end Go.Proofs.Gw
namespace Go.Proofs.Gw
open Go Go.Gw Go.Proofs Go.RowKit
set_option maxRecDepth 100000 in
set_option maxHeartbeats 1000000 in
theorem r02_Same (Aa : Option Addr) (ca : Nat) (a : List UInt8) (Ab : Option Addr) (cb : Nat) (b : List UInt8) (w0 : World) (la : a.length ≤ ca) (ha : Row kU8 (hp w0) Aa a) (lb : b.length ≤ cb) (hb : Row kU8 (hp w0) Ab b) : Calls Try.prog 12 #[.slice Aa a.length ca, .slice Ab b.length cb] w0 (Ret fun v w' => v = .bool (decide (a = b)) ∧ Has w0 w' [hp w0]) := by
  refine fnstart (N := 26) Try.func12 rfl Try.ntmps12 (Nat.le_of_ble_eq_true rfl) ?_
  have hH0 : Has w0 w0 [hp w0] := Has.refl w0
  have hla := ha.len
  have hlb := hb.len
  refine CW.seq (CW.region rfl (W.val rfl rfl rfl (R.assign rfl rfl) (W.nil (EX.then_n (CW.seq (CW.seq (CW.region rfl ?_)))))))
  refine W.val rfl rfl rfl (R.move rfl rfl) (W.val rfl rfl rfl (R.len_slice rfl rfl Try.underlying22) (W.val rfl rfl rfl (R.move rfl rfl) (W.val rfl rfl rfl (R.len_slice rfl rfl Try.underlying22) (W.val rfl rfl rfl (R.neq rfl rfl rfl) (W.nil (EX.then_n ?_))))))
  refine CW.cond rfl (fun hc1 => ?_) (fun hc1 => ?_)
  replace hc1 := of_ndec_t hc1
  refine CW.seq (CW.region rfl (W.val rfl rfl rfl (R.assign rfl rfl) (W.nil (EX.then_n (CW.ret (EX.then_ret (EX.ret1 Try.results12 rfl ?_)))))))
  have hH1 := hH0.upto1
  refine ⟨?_, hH1⟩
  rw [decide_eq_false (fun e => ?_)]; rw [e] at hc1; exact hc1 rfl
  replace hc1 := of_ndec_f hc1
  refine CW.skip (EX.then_n (CW.seq (CW.seq (CW.region rfl (W.val rfl rfl rfl (R.move rfl rfl) (W.val rfl rfl rfl (R.len_slice rfl rfl Try.underlying22) (W.val rfl rfl rfl (R.move rfl rfl) ?_)))))))
  refine W.nil (EX.then_n (CW.block ?_))
  obtain ⟨I1, hI1⟩ : ∃ I : Nat → List (Nat × Value) → World → Prop, I = (fun n_ D_ w_ => ∃ (k : Nat), D_ = [(13, .int .i64 (k : Int))] ∧ n_ = a.length - k ∧ Has w0 w_ [(hp w0)] ∧ (k ≤ a.length) ∧ (a.take k = b.take k)) := ⟨_, rfl⟩
  refine CW.loop3 [4, 5, 13, 14, 15, 16, 17, 18, 19, 20, 21, 22, 23, 24, 25] I1 _ _ ?_ (by rw [hI1]; exact ⟨0, rfl, rfl, hH0, by omega, by simp⟩) ?_
  exact ⟨lk_int rfl (by first | rfl | omega), trivial⟩
  intro n1 D w1 hn1
  rw [hI1] at hn1
  obtain ⟨k, rfl, hme1, hH2, hk, he⟩ := hn1
  refine CW.seq (CW.region rfl (W.val rfl rfl rfl (R.lss rfl rfl rfl) (W.nil (EX.then_n (CW.seq ?_)))))
  refine CW.cond rfl (fun hc2 => ?_) (fun hc2 => ?_)
  replace hc2 := of_decide_eq_true hc2
  refine CW.skip (EX.then_n (CW.seq (CW.block (CW.seq (CW.region rfl (W.val rfl rfl rfl (R.move rfl rfl) (W.val rfl rfl rfl (R.assign rfl rfl) ?_)))))))
  refine W.nil (EX.then_n (CW.seq ?_))
  have hH3 := hH2.drew
  refine CW.draw (fun w => Sub (hp w0) w ∧ True) [] #[false, false, false, false, false, false, false, false, false] Try.mixed rfl rfl ⟨hH3.sub _ m0, trivial⟩ (WA.pure (i := 0) #[true, false, false, false, false, false, false, false, false] (blind_then (blind_blk (blind_then (blind_then (blind_blk (blind_then (blind_body _ _))))))) rfl (by kernel_rfl) rfl rfl rfl (fun _ => R.move rfl rfl) (WA.pure (i := 1) #[true, true, false, false, false, false, false, false, false] (blind_then (blind_blk (blind_then (blind_then (blind_blk (blind_then (blind_body _ _))))))) rfl (by kernel_rfl) rfl rfl rfl (fun _ => R.move rfl rfl) ?_))
  refine WA.indexRow (i := 2) #[true, true, true, false, false, false, false, false, false] (blind_then (blind_blk (blind_then (blind_then (blind_blk (blind_then (blind_body _ _))))))) rfl (by kernel_rfl) rfl rfl rfl rfl rfl rfl Try.underlying22 Try.sz5 ha (by omega) (by omega) (fun q1 cs1 y1 hy1 hK1 hat1 => ?_)
  try simp only [Int.toNat_natCast, Int.reduceToNat] at hy1
  have hK2 := hK1
  obtain rfl := hK2
  have hlt1 := y1.toNat_lt
  refine WA.take (i := 3) #[true, true, true, true, false, false, false, false, false] (blind_then (blind_blk (blind_then (blind_then (blind_blk (blind_then (blind_body _ _))))))) rfl (by kernel_rfl) rfl rfl rfl (fun _ hw => R.load rfl rfl Try.pl5 (cellz_le hw.1 (at0 hat1 rfl))) ⟨hH3.sub _ m0, trivial⟩ (WA.pure (i := 4) #[true, true, true, true, true, false, false, false, false] (blind_then (blind_blk (blind_then (blind_then (blind_blk (blind_then (blind_body _ _))))))) rfl (by kernel_rfl) rfl rfl rfl (fun _ => R.move rfl rfl) (WA.pure (i := 5) #[true, true, true, true, true, true, false, false, false] (blind_then (blind_blk (blind_then (blind_then (blind_blk (blind_then (blind_body _ _))))))) rfl (by kernel_rfl) rfl rfl rfl (fun _ => R.move rfl rfl) ?_))
  refine WA.indexRow (i := 6) #[true, true, true, true, true, true, true, false, false] (blind_then (blind_blk (blind_then (blind_then (blind_blk (blind_then (blind_body _ _))))))) rfl (by kernel_rfl) rfl rfl rfl rfl rfl rfl Try.underlying22 Try.sz5 hb (by omega) (by omega) (fun q2 cs2 y2 hy2 hK3 hat2 => ?_)
  try simp only [Int.toNat_natCast, Int.reduceToNat] at hy2
  have hK4 := hK3
  obtain rfl := hK4
  have hlt2 := y2.toNat_lt
  refine WA.take (i := 7) #[true, true, true, true, true, true, true, true, false] (blind_then (blind_blk (blind_then (blind_then (blind_blk (blind_then (blind_body _ _))))))) rfl (by kernel_rfl) rfl rfl rfl (fun _ hw => R.load rfl rfl Try.pl5 (cellz_le hw.1 (at0 hat2 rfl))) ⟨hH3.sub _ m0, trivial⟩ (WA.pure (i := 8) #[true, true, true, true, true, true, true, true, true] (blind_then (blind_blk (blind_then (blind_then (blind_blk (blind_then (blind_body _ _))))))) rfl (by kernel_rfl) rfl rfl rfl (fun _ => R.neq rfl rfl rfl) (WA.done (by kernel_rfl) (EX.then_n ?_)))
  refine CW.cond rfl (fun hc3 => ?_) (fun hc3 => ?_)
  replace hc3 := of_ndec_t hc3
  refine CW.seq (CW.region rfl (W.val rfl rfl rfl (R.assign rfl rfl) (W.nil (EX.then_n (CW.ret (EX.blk_ret (EX.then_ret ?_)))))))
  refine EX.then_ret (EX.blk_ret (EX.then_ret (EX.ret1 Try.results12 rfl ?_)))
  have hH4 := hH3.upto1
  refine ⟨?_, hH4⟩
  rw [decide_eq_false (fun e => ?_)]; rw [e, hy2] at hy1; cases hy1; exact hc3 rfl
  replace hc3 := of_ndec_f hc3
  refine CW.skip (EX.blk_n (EX.then_n (CW.region rfl (W.val rfl rfl rfl (R.addx rfl rfl rfl (ok_i64 (by omega))) (W.val rfl rfl rfl (R.move rfl rfl) (W.nil ?_))))))
  have hH5 := hH3.upto1
  refine EX.back4 _ _ rfl ?_ (by rw [hI1]; exact ⟨k + 1, rfl, rfl, hH5, by omega, by rw [take_succ_get hy1, take_succ_get hy2, he, u8_eq (x := y1) (y := y2) (by assumption)]⟩) ?_
  exact ⟨lk_int rfl (by first | rfl | omega), trivial⟩
  omega
  replace hc2 := of_decide_eq_false hc2
  refine CW.exit (EX.then_exit (EX.then_exit (EX.blk_here (EX.then_n (CW.seq (CW.region rfl (W.val rfl rfl rfl (R.assign rfl rfl) ?_)))))))
  refine W.nil (EX.then_n (CW.ret (EX.ret1 Try.results12 rfl ?_)))
  have hH6 := hH2.upto1
  refine ⟨?_, hH6⟩
  rw [decide_eq_true ?_]; rw [List.take_of_length_le (by omega), List.take_of_length_le (by omega)] at he; exact he

end Go.Proofs.Gw
namespace Go.Proofs.Gw
open Go Go.Gw Go.Proofs Go.RowKit
attribute [local irreducible] decS encS
set_option maxRecDepth 100000 in
set_option maxHeartbeats 1000000 in
theorem law9_head  (w0 : World) : Calls Try.prog 7 #[] w0 (Ret fun v w' => v = .bool (true) ∧ Has w0 w' [hp w0]) := by
  refine fnstart (N := 36) Try.func7 rfl Try.ntmps7 (Nat.le_of_ble_eq_true rfl) ?_
  have hH0 : Has w0 w0 [hp w0] := Has.refl w0
  refine CW.seq (CW.region rfl (W.val rfl rfl rfl (R.assign rfl rfl) (W.nil (EX.then_n (CW.seq (CW.region rfl (W.val rfl rfl rfl (R.build rfl rfl Try.zr28 rfl (by rw [Try.underlying28]; rfl) Try.plc28 rfl) ?_)))))))
  refine W.re (d := 6) (v := .agg ([_, _, _, _, _, _, _, _, _, _, _, _] : List Value).toArray) rfl rfl ?_
  refine W.call rfl rfl rfl rfl rfl Try.func26 Try.nm26 Try.bd26 (canon_Encode (⟨_, _, _, _, _, _, _, _, _, _, _, _⟩ : GState) _ w0 ⟨_, _, rfl, (by first | omega | decide | (dsimp only [GField.none]; omega)), (by first | omega | decide | (dsimp only [GField.none]; omega)), (by first | omega | decide | (dsimp only [GField.none]; omega)), (by first | omega | decide | (dsimp only [GField.none]; omega)), (by first | omega | decide | (dsimp only [GField.none]; omega)), (by first | omega | decide | (dsimp only [GField.none]; omega)), (by first | omega | decide | (dsimp only [GField.none]; omega)), (by first | omega | decide | (dsimp only [GField.none]; omega)), (by first | omega | decide | (dsimp only [GField.none]; omega)), (by first | omega | decide | (dsimp only [GField.none]; omega)), (by first | omega | decide | (dsimp only [GField.none]; omega)), (by first | omega | decide | (dsimp only [GField.none]; omega)), (by first | omega | decide | (dsimp only [GField.none]; omega)), (by first | omega | decide | (dsimp only [GField.none]; omega)), (by first | omega | decide | (dsimp only [GField.none]; omega)), (by first | omega | decide | (dsimp only [GField.none]; omega)), (by first | omega | decide | (dsimp only [GField.none]; omega)), (by first | omega | decide | (dsimp only [GField.none]; omega)), (by first | omega | decide | (dsimp only [GField.none]; omega)), (by first | omega | decide | (dsimp only [GField.none]; omega)), (Nat.le_of_ble_eq_true rfl), (Nat.le_refl _), (Row.nil _ _ none)⟩) ?_
  rintro v1 w1 ⟨A01, c01, z01, rfl, hH1, hO01⟩
  have hH2 := hH0.c1 hH1
  rw [show encS _ = ([2, 7], 0) from head_enc] at hO01 ⊢
  dsimp only at hO01
  refine W.val rfl rfl rfl (R.move rfl rfl) (W.val rfl rfl rfl (R.extract rfl rfl rfl) (W.val rfl rfl rfl (R.extract rfl rfl rfl) (W.val rfl rfl rfl (R.assign rfl rfl) (W.val rfl rfl rfl (R.assign rfl rfl) (W.nil (EX.then_n (CW.seq ?_)))))))
  refine CW.region rfl ?_
  refine W.bs rfl rfl rfl rfl rfl Try.underlying22 Try.inf5 (by decide) rfl rfl hH2 (fun b1 zb1 w2 hH3 hB1 => ?_)
  obtain ⟨xs1, hxs1⟩ : ∃ xs : List UInt8, xs = ([2, 7] : List UInt8) := ⟨_, rfl⟩
  have hO1 : Own kU8 5 emp zb1 (some ⟨b1, 0, none⟩) 2 xs1 := by rw [hxs1]; exact Own.blk hB1 (reps_bytes ([2, 7] : List UInt8)) rfl (by decide)
  refine W.re (d := 11) (v := .slice (some ⟨b1, 0, none⟩) xs1.length 2) rfl (by rw [hxs1]; rfl) (W.call rfl rfl rfl rfl rfl Try.func10 Try.nm10 Try.bd10 (canon_Decode _ _ _ w2 hO1.cap (hO1.row (hH3.le m0) (emp_le _))) ?_)
  rintro v2 w3 ⟨A0_51, c0_51, z0_51, rfl, hH4, hO0_51, hB01⟩
  have hH5 := hH3.c1 hH4
  obtain ⟨⟨hb1, hb2⟩, ⟨hb3, hb4⟩, ⟨hb5, hb6⟩, ⟨hb7, hb8⟩, ⟨hb9, hb10⟩, ⟨hb11, hb12⟩, ⟨hb13, hb14⟩, ⟨hb15, hb16⟩, ⟨hb17, hb18⟩, ⟨hb19, hb20⟩, hb21⟩ := hB01
  have hD : decS xs1 = (headS, 0) := by rw [hxs1]; exact head_dec
  refine W.val rfl rfl rfl (R.move rfl rfl) (W.val rfl rfl rfl (R.extract rfl rfl rfl) (W.val rfl rfl rfl (R.extract rfl rfl rfl) ?_))
  refine W.alloc rfl rfl rfl rfl Try.zr28 rfl hH5 (fun b2 zb2 w4 hH6 hB2 => ?_)
  refine W.sg0 rfl rfl rfl rfl rfl Try.sz28 rfl (by rfl) hH6 hB2 (fun zb3 w5 hH7 hB3 => ?_)
  refine W.val rfl rfl rfl (R.assign rfl rfl) (W.nil (EX.then_n (CW.seq (CW.region rfl (W.val rfl rfl rfl (R.move rfl rfl) (W.val rfl rfl rfl (R.eql rfl rfl rfl) (W.val rfl rfl rfl (R.move rfl rfl) ?_)))))))
  refine W.split (d := 17) rfl (fun hc1 => ?_) (fun hc1 => ?_)
  replace hc1 := of_decide_eq_true hc1
  refine W.val rfl rfl rfl (R.move rfl rfl) ?_
  refine W.bs rfl rfl rfl rfl rfl Try.underlying22 Try.inf5 (by decide) rfl rfl hH7 (fun b3 zb4 w6 hH8 hB4 => ?_)
  obtain ⟨xs2, hxs2⟩ : ∃ xs : List UInt8, xs = ([2, 7] : List UInt8) := ⟨_, rfl⟩
  have hO2 : Own kU8 5 emp zb4 (some ⟨b3, 0, none⟩) 2 xs2 := by rw [hxs2]; exact Own.blk hB4 (reps_bytes ([2, 7] : List UInt8)) rfl (by decide)
  refine W.re (d := 19) (v := .slice (some ⟨b3, 0, none⟩) xs2.length 2) rfl (by rw [hxs2]; rfl) (W.call rfl rfl rfl rfl rfl Try.func12 Try.nm12 Try.bd12 (r02_Same _ _ _ _ _ _ w6 hO01.cap (hO01.row (hH8.le m4) (emp_le _)) hO2.cap (hO2.row (hH8.le m0) (emp_le _))) ?_)
  rintro v3 w7 ⟨rfl, hH9⟩
  have hH10 := hH8.c0 hH9
  refine W.val rfl rfl rfl (R.pick_t rfl rfl rfl) (W.val rfl rfl rfl (R.move rfl rfl) ?_)
  refine W.split (d := 22) rfl (fun hc2 => ?_) (fun hc2 => ?_)
  replace hc2 := of_decide_eq_true hc2
  refine W.val rfl rfl rfl (R.move rfl rfl) (W.val rfl rfl rfl (R.eql rfl rfl rfl) (W.val rfl rfl rfl (R.pick_t rfl rfl rfl) (W.val rfl rfl rfl (R.move rfl rfl) ?_)))
  refine W.split (d := 26) rfl (fun hc3 => ?_) (fun hc3 => ?_)
  replace hc3 := of_decide_eq_true hc3
  refine W.val rfl rfl rfl (R.fa0 0 rfl rfl Try.underlying28 rfl Try.sz3 rfl) (W.ldk rfl rfl rfl rfl rfl Try.pl3 hH10 m1 hB3 rfl (W.val rfl rfl rfl (R.eql rfl rfl rfl) (W.val rfl rfl rfl (R.pick_t rfl rfl rfl) (W.val rfl rfl rfl (R.move rfl rfl) ?_))))
  refine W.split (d := 31) rfl (fun hc4 => ?_) (fun hc4 => ?_)
  replace hc4 := of_decide_eq_true hc4
  refine W.lg0 rfl rfl rfl rfl rfl Try.pl28 (by rw [Try.underlying28]; rfl) (by exact Try.sz28) hH10 m1 hB3 ?_
  refine W.call rfl rfl rfl rfl rfl Try.func27 Try.nm27 Try.bd27 (canon_Size (⟨_, _, _, _, _, _, _, _, _, _, _, _⟩ : GState) _ w7 ⟨_, _, rfl, (by first | omega | decide | (dsimp only [GField.none]; omega)), (by first | omega | decide | (dsimp only [GField.none]; omega)), (by first | omega | decide | (dsimp only [GField.none]; omega)), (by first | omega | decide | (dsimp only [GField.none]; omega)), (by first | omega | decide | (dsimp only [GField.none]; omega)), (by first | omega | decide | (dsimp only [GField.none]; omega)), (by first | omega | decide | (dsimp only [GField.none]; omega)), (by first | omega | decide | (dsimp only [GField.none]; omega)), (by first | omega | decide | (dsimp only [GField.none]; omega)), (by first | omega | decide | (dsimp only [GField.none]; omega)), (by first | omega | decide | (dsimp only [GField.none]; omega)), (by first | omega | decide | (dsimp only [GField.none]; omega)), (by first | omega | decide | (dsimp only [GField.none]; omega)), (by first | omega | decide | (dsimp only [GField.none]; omega)), (by first | omega | decide | (dsimp only [GField.none]; omega)), (by first | omega | decide | (dsimp only [GField.none]; omega)), (by first | omega | decide | (dsimp only [GField.none]; omega)), (by first | omega | decide | (dsimp only [GField.none]; omega)), (by first | omega | decide | (dsimp only [GField.none]; omega)), (by first | omega | decide | (dsimp only [GField.none]; omega)), hb21, hO0_51.cap, (hO0_51.row (hH10.le m2) (emp_le _))⟩) ?_
  rintro v4 w8 ⟨rfl, hH11⟩
  have hH12 := hH10.c0 hH11
  refine W.val rfl rfl rfl (R.eql rfl rfl rfl) (W.val rfl rfl rfl (R.pick_t rfl rfl rfl) (W.val rfl rfl rfl (R.assign rfl rfl) (W.nil (EX.then_n (CW.ret (EX.ret1 Try.results7 rfl ?_))))))
  have hH13 := hH12.f5
  have hH14 := hH13.upto1
  refine ⟨?_, hH14⟩
  have hE := head_enc
  refine vbool ?_
  simp_all
  replace hc4 := of_decide_eq_false hc4
  refine W.off rfl rfl rfl (W.off rfl rfl rfl (W.off rfl rfl rfl (W.val rfl rfl rfl (R.pick_f rfl rfl rfl) (W.val rfl rfl rfl (R.assign rfl rfl) (W.nil (EX.then_n (CW.ret ?_)))))))
  refine EX.ret1 Try.results7 rfl ?_
  have hH15 := hH10.f5
  have hH16 := hH15.upto1
  refine ⟨?_, hH16⟩
  have hE := head_enc
  refine vbool ?_
  simp_all
  replace hc3 := of_decide_eq_false hc3
  refine W.off rfl rfl rfl (W.off rfl rfl rfl (W.off rfl rfl rfl (W.val rfl rfl rfl (R.pick_f rfl rfl rfl) (W.val rfl rfl rfl (R.move rfl rfl) (W.off rfl rfl rfl (W.off rfl rfl rfl (W.off rfl rfl rfl ?_)))))))
  refine W.val rfl rfl rfl (R.pick_f rfl rfl rfl) (W.val rfl rfl rfl (R.assign rfl rfl) (W.nil (EX.then_n (CW.ret (EX.ret1 Try.results7 rfl ?_)))))
  have hH17 := hH10.f5
  have hH18 := hH17.upto1
  refine ⟨?_, hH18⟩
  have hE := head_enc
  refine vbool ?_
  simp_all
  replace hc2 := of_decide_eq_false hc2
  refine W.off rfl rfl rfl (W.off rfl rfl rfl (W.val rfl rfl rfl (R.pick_f rfl rfl rfl) (W.val rfl rfl rfl (R.move rfl rfl) (W.off rfl rfl rfl (W.off rfl rfl rfl (W.off rfl rfl rfl (W.val rfl rfl rfl (R.pick_f rfl rfl rfl) ?_)))))))
  refine W.val rfl rfl rfl (R.move rfl rfl) (W.off rfl rfl rfl (W.off rfl rfl rfl (W.off rfl rfl rfl (W.val rfl rfl rfl (R.pick_f rfl rfl rfl) (W.val rfl rfl rfl (R.assign rfl rfl) (W.nil (EX.then_n ?_)))))))
  refine CW.ret (EX.ret1 Try.results7 rfl ?_)
  have hH19 := hH10.f5
  have hH20 := hH19.upto1
  refine ⟨?_, hH20⟩
  have hE := head_enc
  refine vbool ?_
  simp_all
  replace hc1 := of_decide_eq_false hc1
  refine W.off rfl rfl rfl (W.off rfl rfl rfl (W.off rfl rfl rfl (W.val rfl rfl rfl (R.pick_f rfl rfl rfl) (W.val rfl rfl rfl (R.move rfl rfl) (W.off rfl rfl rfl (W.off rfl rfl rfl (W.val rfl rfl rfl (R.pick_f rfl rfl rfl) ?_)))))))
  refine W.val rfl rfl rfl (R.move rfl rfl) (W.off rfl rfl rfl (W.off rfl rfl rfl (W.off rfl rfl rfl (W.val rfl rfl rfl (R.pick_f rfl rfl rfl) (W.val rfl rfl rfl (R.move rfl rfl) (W.off rfl rfl rfl (W.off rfl rfl rfl ?_)))))))
  refine W.off rfl rfl rfl (W.val rfl rfl rfl (R.pick_f rfl rfl rfl) (W.val rfl rfl rfl (R.assign rfl rfl) (W.nil (EX.then_n (CW.ret (EX.ret1 Try.results7 rfl ?_))))))
  have hH21 := hH7.f4
  have hH22 := hH21.upto1
  refine ⟨?_, hH22⟩
  have hE := head_enc
  refine vbool ?_
  simp_all

end Go.Proofs.Gw
namespace Go.Proofs.Gw
open Go Go.Gw Go.Proofs Go.RowKit
set_option maxRecDepth 100000 in
set_option maxHeartbeats 1000000 in
theorem r02_Copy (Aa : Option Addr) (ca : Nat) (a : List UInt8) (w0 : World) (la : a.length ≤ ca) (ha : Row kU8 (hp w0) Aa a) (hn : a.length ≤ 140737488355328) : Calls Try.prog 8 #[.slice Aa a.length ca] w0 (Ret fun v w' => ∃ (A0 : Option Addr) (c0 : Nat) (z0 : PH), v = .slice A0 (a).length c0 ∧ Has w0 w' [z0, hp w0] ∧ Own kU8 5 emp z0 A0 c0 (a)) := by
  refine fnstart (N := 22) Try.func8 rfl Try.ntmps8 (Nat.le_of_ble_eq_true rfl) ?_
  have hH0 : Has w0 w0 [hp w0] := Has.refl w0
  refine CW.seq (CW.region rfl (W.val rfl rfl rfl (R.assign rfl rfl) (W.nil (EX.then_n (CW.seq (CW.region rfl (W.val rfl rfl rfl (R.move rfl rfl) ?_)))))))
  refine W.val rfl rfl rfl (R.len_slice rfl rfl Try.underlying22) ?_
  refine W.mk (κ := kU8) 0 rfl rfl rfl rfl rfl rfl Try.underlying22 Try.inf5 rfl (by omega) (by omega) (by omega) hH0 (fun A1 c1 ml1 xs1 z1 w1 hH1 hm1 hmn1 hxs1 hO1 => ?_)
  refine W.val rfl rfl rfl (R.assign rfl rfl) (W.nil (EX.then_n (CW.seq (CW.seq (CW.region rfl (W.val rfl rfl rfl (R.move rfl rfl) (W.val rfl rfl rfl (R.len_slice rfl rfl Try.underlying22) ?_)))))))
  refine W.val rfl rfl rfl (R.move rfl rfl) (W.nil (EX.then_n (CW.block ?_)))
  have hH2 := hH1.f1
  have hH3 := hH2.f1
  obtain ⟨I1, hI1⟩ : ∃ I : Nat → List (Nat × Value) → World → Prop, I = (fun n_ D_ w_ => ∃ (k : Nat) (bs : List UInt8) (z : PH), D_ = [(10, .int .i64 (k : Int))] ∧ n_ = a.length - k ∧ Has w0 w_ [z, (hp w0)] ∧ (k ≤ a.length) ∧ (ml1 = bs.length) ∧ (bs.take k = a.take k) ∧ (Own kU8 5 emp z A1 c1 bs)) := ⟨_, rfl⟩
  refine CW.loop3 [4, 10, 11, 12, 13, 14, 15, 16, 17, 18, 19, 20] I1 _ _ ?_ (by rw [hI1]; exact ⟨0, _, _, rfl, rfl, hH3, by omega, hm1, by simp, hO1⟩) ?_
  exact ⟨lk_int rfl (by first | rfl | omega), trivial⟩
  intro n1 D w2 hn1
  rw [hI1] at hn1
  obtain ⟨k, bs, z, rfl, hme1, hH4, hk, hl, ht, hO⟩ := hn1
  refine CW.seq (CW.region rfl (W.val rfl rfl rfl (R.lss rfl rfl rfl) (W.nil (EX.then_n (CW.seq ?_)))))
  refine CW.cond rfl (fun hc1 => ?_) (fun hc1 => ?_)
  replace hc1 := of_decide_eq_true hc1
  refine CW.skip (EX.then_n (CW.seq (CW.block (CW.seq (CW.region rfl (W.val rfl rfl rfl (R.move rfl rfl) (W.val rfl rfl rfl (R.assign rfl rfl) ?_)))))))
  refine W.nil (EX.then_n (CW.region rfl (W.val rfl rfl rfl (R.move rfl rfl) (W.val rfl rfl rfl (R.move rfl rfl) (W.val rfl rfl rfl (R.move rfl rfl) (W.val rfl rfl rfl (R.move rfl rfl) ?_))))))
  refine W.indexRow rfl rfl rfl rfl rfl rfl Try.underlying22 Try.sz5 ha (by omega) (by omega) (fun q1 cs1 y1 hy1 hK1 hat1 => ?_)
  try simp only [Int.toNat_natCast, Int.reduceToNat] at hy1
  have hK2 := hK1
  obtain rfl := hK2
  have hlt1 := y1.toNat_lt
  refine W.la0 rfl rfl rfl rfl rfl Try.pl5 hH4 m1 hat1 rfl ?_
  refine W.indexOwn rfl rfl rfl rfl rfl rfl Try.underlying22 Try.sz5 hO (by omega) (by omega) hl (fun q2 cs2 y2 hy2 hK3 hat2 hq2 => ?_)
  try simp only [Int.toNat_natCast, Int.reduceToNat] at hy2
  have hK4 := hK3
  obtain rfl := hK4
  have hlt2 := y2.toNat_lt
  refine W.storeEl0 (UInt8.ofNat (Int.toNat _)) rfl rfl rfl rfl rfl Try.sz5 rfl rfl hO hq2 hy2 hK3 hat2 (kU8_mk (by omega)) hH4 (fun z2 w3 hH5 hO2 => ?_)
  refine W.nil (EX.blk_n (EX.then_n (CW.region rfl (W.val rfl rfl rfl (R.addx rfl rfl rfl (ok_i64 (by omega))) (W.val rfl rfl rfl (R.move rfl rfl) (W.nil ?_))))))
  have hH6 := hH5.f1
  have hH7 := hH6.f1
  have hH8 := hH7.upto2
  refine EX.back4 _ _ rfl ?_ (by rw [hI1]; exact ⟨k + 1, _, _, rfl, rfl, hH8, by omega, by simpa using hl, by rw [u8_of]; exact set_take ht (by omega) hy1, hO2⟩) ?_
  exact ⟨lk_int rfl (by first | rfl | omega), trivial⟩
  omega
  replace hc1 := of_decide_eq_false hc1
  refine CW.exit (EX.then_exit (EX.then_exit (EX.blk_here (EX.then_n (CW.seq (CW.region rfl (W.val rfl rfl rfl (R.move rfl rfl) ?_)))))))
  refine W.val rfl rfl rfl (R.assign rfl rfl) (W.nil (EX.then_n (CW.ret (EX.ret1 Try.results8 rfl ?_))))
  have hH9 := hH4.f1
  have hH10 := hH9.f1
  have hH11 := hH10.upto2
  obtain rfl := take_all_eq ht (by omega) (by omega)
  subst hl
  refine ⟨_, _, _, ?_, hH11, hO⟩
  rfl

end Go.Proofs.Gw
namespace Go.Proofs.Gw
open Go Go.Gw Go.Proofs Go.RowKit
set_option maxRecDepth 100000 in
set_option maxHeartbeats 1000000 in
theorem r08_Same (a : GState) (csa : List Value) (b : GState) (csb : List Value) (w0 : World) (ha : kState.K (hp w0) a csa) (hb : kState.K (hp w0) b csb) : Calls Try.prog 11 #[.agg csa.toArray, .agg csb.toArray] w0 (Ret fun v w' => v = .bool (sameB a b) ∧ Has w0 w' [hp w0]) := by
  refine fnstart (N := 106) Try.func11 rfl Try.ntmps11 (Nat.le_of_ble_eq_true rfl) ?_
  have hH0 : Has w0 w0 [hp w0] := Has.refl w0
  have hK1 := ha
  obtain ⟨A1, c1, rfl, hb1, hb2, hb3, hb4, hb5, hb6, hb7, hb8, hb9, hb10, hb11, hb12, hb13, hb14, hb15, hb16, hb17, hb18, hb19, hb20, hb21, hl1, hr1⟩ := hK1
  have hlen1 := hr1.len
  have hK2 := hb
  obtain ⟨A2, c2, rfl, hb22, hb23, hb24, hb25, hb26, hb27, hb28, hb29, hb30, hb31, hb32, hb33, hb34, hb35, hb36, hb37, hb38, hb39, hb40, hb41, hb42, hl2, hr2⟩ := hK2
  have hlen2 := hr2.len
  refine CW.seq (CW.region rfl ?_)
  refine W.box rfl rfl rfl rfl rfl rfl hH0 (fun b1 zb1 w1 hH1 hB1 => ?_)
  refine W.box rfl rfl rfl rfl rfl rfl hH1 (fun b2 zb2 w2 hH2 hB2 => ?_)
  refine W.val rfl rfl rfl (R.assign rfl rfl) (W.nil (EX.then_n (CW.seq (CW.seq (CW.region rfl (W.val rfl rfl rfl (R.fa0 0 rfl rfl Try.underlying28 rfl Try.sz3 rfl) (W.ldk rfl rfl rfl rfl rfl Try.pl3 hH2 m1 hB1 rfl ?_)))))))
  refine W.val rfl rfl rfl (R.fa0 0 rfl rfl Try.underlying28 rfl Try.sz3 rfl) (W.ldk rfl rfl rfl rfl rfl Try.pl3 hH2 m0 hB2 rfl (W.val rfl rfl rfl (R.neq rfl rfl rfl) (W.val rfl rfl rfl (R.move rfl rfl) ?_)))
  refine W.split (d := 11) rfl (fun hc1 => ?_) (fun hc1 => ?_)
  replace hc1 := of_ndec_t hc1
  refine W.off rfl rfl rfl (W.off rfl rfl rfl (W.off rfl rfl rfl (W.off rfl rfl rfl (W.off rfl rfl rfl (W.val rfl rfl rfl (R.pick_t rfl rfl rfl) (W.val rfl rfl rfl (R.move rfl rfl) (W.off rfl rfl rfl ?_)))))))
  refine W.off rfl rfl rfl (W.off rfl rfl rfl (W.off rfl rfl rfl (W.off rfl rfl rfl (W.val rfl rfl rfl (R.pick_t rfl rfl rfl) (W.val rfl rfl rfl (R.move rfl rfl) (W.off rfl rfl rfl (W.off rfl rfl rfl ?_)))))))
  refine W.off rfl rfl rfl (W.off rfl rfl rfl (W.off rfl rfl rfl (W.val rfl rfl rfl (R.pick_t rfl rfl rfl) (W.val rfl rfl rfl (R.move rfl rfl) (W.off rfl rfl rfl (W.off rfl rfl rfl (W.off rfl rfl rfl ?_)))))))
  refine W.off rfl rfl rfl (W.off rfl rfl rfl (W.val rfl rfl rfl (R.pick_t rfl rfl rfl) (W.val rfl rfl rfl (R.move rfl rfl) (W.off rfl rfl rfl (W.off rfl rfl rfl (W.off rfl rfl rfl (W.off rfl rfl rfl ?_)))))))
  refine W.off rfl rfl rfl (W.val rfl rfl rfl (R.pick_t rfl rfl rfl) (W.val rfl rfl rfl (R.move rfl rfl) (W.off rfl rfl rfl (W.off rfl rfl rfl (W.off rfl rfl rfl (W.off rfl rfl rfl (W.off rfl rfl rfl ?_)))))))
  refine W.val rfl rfl rfl (R.pick_t rfl rfl rfl) (W.nil (EX.then_n (CW.cond_t rfl (CW.seq (CW.region rfl (W.val rfl rfl rfl (R.assign rfl rfl) (W.nil ?_)))))))
  refine EX.then_n (CW.ret (EX.then_ret (EX.ret1 Try.results11 rfl ?_)))
  have hH3 := hH2.f2
  have hH4 := hH3.upto1
  refine ⟨?_, hH4⟩
  refine vbool (sameB_false fun h => ?_).symm; unfold sameP at h; first | omega | simp_all
  replace hc1 := of_ndec_f hc1
  refine W.val rfl rfl rfl (R.fa0 1 rfl rfl Try.underlying28 rfl Try.sz25 rfl) (W.ldk rfl rfl rfl rfl rfl Try.pl25 hH2 m1 hB1 rfl (W.val rfl rfl rfl (R.fa0 1 rfl rfl Try.underlying28 rfl Try.sz25 rfl) (W.ldk rfl rfl rfl rfl rfl Try.pl25 hH2 m0 hB2 rfl (W.val rfl rfl rfl (R.neq rfl rfl rfl) (W.val rfl rfl rfl (R.pick_f rfl rfl rfl) (W.val rfl rfl rfl (R.move rfl rfl) ?_))))))
  refine W.split (d := 18) rfl (fun hc2 => ?_) (fun hc2 => ?_)
  replace hc2 := of_ndec_t hc2
  refine W.off rfl rfl rfl (W.off rfl rfl rfl (W.off rfl rfl rfl (W.off rfl rfl rfl (W.off rfl rfl rfl (W.val rfl rfl rfl (R.pick_t rfl rfl rfl) (W.val rfl rfl rfl (R.move rfl rfl) (W.off rfl rfl rfl ?_)))))))
  refine W.off rfl rfl rfl (W.off rfl rfl rfl (W.off rfl rfl rfl (W.off rfl rfl rfl (W.val rfl rfl rfl (R.pick_t rfl rfl rfl) (W.val rfl rfl rfl (R.move rfl rfl) (W.off rfl rfl rfl (W.off rfl rfl rfl ?_)))))))
  refine W.off rfl rfl rfl (W.off rfl rfl rfl (W.off rfl rfl rfl (W.val rfl rfl rfl (R.pick_t rfl rfl rfl) (W.val rfl rfl rfl (R.move rfl rfl) (W.off rfl rfl rfl (W.off rfl rfl rfl (W.off rfl rfl rfl ?_)))))))
  refine W.off rfl rfl rfl (W.off rfl rfl rfl (W.val rfl rfl rfl (R.pick_t rfl rfl rfl) (W.val rfl rfl rfl (R.move rfl rfl) (W.off rfl rfl rfl (W.off rfl rfl rfl (W.off rfl rfl rfl (W.off rfl rfl rfl ?_)))))))
  refine W.off rfl rfl rfl (W.val rfl rfl rfl (R.pick_t rfl rfl rfl) (W.nil (EX.then_n (CW.cond_t rfl (CW.seq (CW.region rfl (W.val rfl rfl rfl (R.assign rfl rfl) ?_)))))))
  refine W.nil (EX.then_n (CW.ret (EX.then_ret (EX.ret1 Try.results11 rfl ?_))))
  have hH5 := hH2.f2
  have hH6 := hH5.upto1
  refine ⟨?_, hH6⟩
  refine vbool (sameB_false fun h => ?_).symm; unfold sameP at h; first | omega | simp_all
  replace hc2 := of_ndec_f hc2
  refine W.val rfl rfl rfl (R.fa0 2 rfl rfl Try.underlying28 rfl Try.sz25 rfl) (W.ldk rfl rfl rfl rfl rfl Try.pl25 hH2 m1 hB1 rfl (W.val rfl rfl rfl (R.fa0 2 rfl rfl Try.underlying28 rfl Try.sz25 rfl) (W.ldk rfl rfl rfl rfl rfl Try.pl25 hH2 m0 hB2 rfl (W.val rfl rfl rfl (R.neq rfl rfl rfl) (W.val rfl rfl rfl (R.pick_f rfl rfl rfl) (W.val rfl rfl rfl (R.move rfl rfl) ?_))))))
  refine W.split (d := 25) rfl (fun hc3 => ?_) (fun hc3 => ?_)
  replace hc3 := of_ndec_t hc3
  refine W.off rfl rfl rfl (W.off rfl rfl rfl (W.off rfl rfl rfl (W.off rfl rfl rfl (W.off rfl rfl rfl (W.val rfl rfl rfl (R.pick_t rfl rfl rfl) (W.val rfl rfl rfl (R.move rfl rfl) (W.off rfl rfl rfl ?_)))))))
  refine W.off rfl rfl rfl (W.off rfl rfl rfl (W.off rfl rfl rfl (W.off rfl rfl rfl (W.val rfl rfl rfl (R.pick_t rfl rfl rfl) (W.val rfl rfl rfl (R.move rfl rfl) (W.off rfl rfl rfl (W.off rfl rfl rfl ?_)))))))
  refine W.off rfl rfl rfl (W.off rfl rfl rfl (W.off rfl rfl rfl (W.val rfl rfl rfl (R.pick_t rfl rfl rfl) (W.val rfl rfl rfl (R.move rfl rfl) (W.off rfl rfl rfl (W.off rfl rfl rfl (W.off rfl rfl rfl ?_)))))))
  refine W.off rfl rfl rfl (W.off rfl rfl rfl (W.val rfl rfl rfl (R.pick_t rfl rfl rfl) (W.nil (EX.then_n (CW.cond_t rfl (CW.seq (CW.region rfl ?_)))))))
  refine W.val rfl rfl rfl (R.assign rfl rfl) (W.nil (EX.then_n (CW.ret (EX.then_ret (EX.ret1 Try.results11 rfl ?_)))))
  have hH7 := hH2.f2
  have hH8 := hH7.upto1
  refine ⟨?_, hH8⟩
  refine vbool (sameB_false fun h => ?_).symm; unfold sameP at h; first | omega | simp_all
  replace hc3 := of_ndec_f hc3
  refine W.val rfl rfl rfl (R.fa0 3 rfl rfl Try.underlying28 rfl Try.sz3 rfl) (W.ldk rfl rfl rfl rfl rfl Try.pl3 hH2 m1 hB1 rfl (W.val rfl rfl rfl (R.fa0 3 rfl rfl Try.underlying28 rfl Try.sz3 rfl) (W.ldk rfl rfl rfl rfl rfl Try.pl3 hH2 m0 hB2 rfl (W.val rfl rfl rfl (R.neq rfl rfl rfl) (W.val rfl rfl rfl (R.pick_f rfl rfl rfl) (W.val rfl rfl rfl (R.move rfl rfl) ?_))))))
  refine W.split (d := 32) rfl (fun hc4 => ?_) (fun hc4 => ?_)
  replace hc4 := of_ndec_t hc4
  refine W.off rfl rfl rfl (W.off rfl rfl rfl (W.off rfl rfl rfl (W.off rfl rfl rfl (W.off rfl rfl rfl (W.val rfl rfl rfl (R.pick_t rfl rfl rfl) (W.val rfl rfl rfl (R.move rfl rfl) (W.off rfl rfl rfl ?_)))))))
  refine W.off rfl rfl rfl (W.off rfl rfl rfl (W.off rfl rfl rfl (W.off rfl rfl rfl (W.val rfl rfl rfl (R.pick_t rfl rfl rfl) (W.val rfl rfl rfl (R.move rfl rfl) (W.off rfl rfl rfl (W.off rfl rfl rfl ?_)))))))
  refine W.off rfl rfl rfl (W.off rfl rfl rfl (W.off rfl rfl rfl (W.val rfl rfl rfl (R.pick_t rfl rfl rfl) (W.nil (EX.then_n (CW.cond_t rfl (CW.seq ?_)))))))
  refine CW.region rfl (W.val rfl rfl rfl (R.assign rfl rfl) (W.nil (EX.then_n (CW.ret (EX.then_ret (EX.ret1 Try.results11 rfl ?_))))))
  have hH9 := hH2.f2
  have hH10 := hH9.upto1
  refine ⟨?_, hH10⟩
  refine vbool (sameB_false fun h => ?_).symm; unfold sameP at h; first | omega | simp_all
  replace hc4 := of_ndec_f hc4
  refine W.val rfl rfl rfl (R.fa0 4 rfl rfl Try.underlying28 rfl Try.sz3 rfl) (W.ldk rfl rfl rfl rfl rfl Try.pl3 hH2 m1 hB1 rfl (W.val rfl rfl rfl (R.fa0 4 rfl rfl Try.underlying28 rfl Try.sz3 rfl) (W.ldk rfl rfl rfl rfl rfl Try.pl3 hH2 m0 hB2 rfl (W.val rfl rfl rfl (R.neq rfl rfl rfl) (W.val rfl rfl rfl (R.pick_f rfl rfl rfl) (W.val rfl rfl rfl (R.move rfl rfl) ?_))))))
  refine W.split (d := 39) rfl (fun hc5 => ?_) (fun hc5 => ?_)
  replace hc5 := of_ndec_t hc5
  refine W.off rfl rfl rfl (W.off rfl rfl rfl (W.off rfl rfl rfl (W.off rfl rfl rfl (W.off rfl rfl rfl (W.val rfl rfl rfl (R.pick_t rfl rfl rfl) (W.val rfl rfl rfl (R.move rfl rfl) (W.off rfl rfl rfl ?_)))))))
  refine W.off rfl rfl rfl (W.off rfl rfl rfl (W.off rfl rfl rfl (W.off rfl rfl rfl (W.val rfl rfl rfl (R.pick_t rfl rfl rfl) (W.nil (EX.then_n (CW.cond_t rfl ?_)))))))
  refine CW.seq (CW.region rfl (W.val rfl rfl rfl (R.assign rfl rfl) (W.nil (EX.then_n (CW.ret (EX.then_ret (EX.ret1 Try.results11 rfl ?_)))))))
  have hH11 := hH2.f2
  have hH12 := hH11.upto1
  refine ⟨?_, hH12⟩
  refine vbool (sameB_false fun h => ?_).symm; unfold sameP at h; first | omega | simp_all
  replace hc5 := of_ndec_f hc5
  refine W.val rfl rfl rfl (R.fa0 6 rfl rfl Try.underlying28 rfl Try.sz3 rfl) (W.ldk rfl rfl rfl rfl rfl Try.pl3 hH2 m1 hB1 rfl (W.val rfl rfl rfl (R.fa0 6 rfl rfl Try.underlying28 rfl Try.sz3 rfl) (W.ldk rfl rfl rfl rfl rfl Try.pl3 hH2 m0 hB2 rfl (W.val rfl rfl rfl (R.neq rfl rfl rfl) (W.val rfl rfl rfl (R.pick_f rfl rfl rfl) (W.val rfl rfl rfl (R.move rfl rfl) ?_))))))
  refine W.split (d := 46) rfl (fun hc6 => ?_) (fun hc6 => ?_)
  replace hc6 := of_ndec_t hc6
  refine W.off rfl rfl rfl (W.off rfl rfl rfl (W.off rfl rfl rfl (W.off rfl rfl rfl (W.off rfl rfl rfl (W.val rfl rfl rfl (R.pick_t rfl rfl rfl) (W.nil (EX.then_n ?_)))))))
  refine CW.cond_t rfl (CW.seq (CW.region rfl (W.val rfl rfl rfl (R.assign rfl rfl) (W.nil (EX.then_n (CW.ret (EX.then_ret ?_)))))))
  refine EX.ret1 Try.results11 rfl ?_
  have hH13 := hH2.f2
  have hH14 := hH13.upto1
  refine ⟨?_, hH14⟩
  refine vbool (sameB_false fun h => ?_).symm; unfold sameP at h; first | omega | simp_all
  replace hc6 := of_ndec_f hc6
  refine W.val rfl rfl rfl (R.fa0 7 rfl rfl Try.underlying28 rfl Try.sz3 rfl) (W.ldk rfl rfl rfl rfl rfl Try.pl3 hH2 m1 hB1 rfl (W.val rfl rfl rfl (R.fa0 7 rfl rfl Try.underlying28 rfl Try.sz3 rfl) (W.ldk rfl rfl rfl rfl rfl Try.pl3 hH2 m0 hB2 rfl (W.val rfl rfl rfl (R.neq rfl rfl rfl) (W.val rfl rfl rfl (R.pick_f rfl rfl rfl) (W.nil (EX.then_n ?_)))))))
  refine CW.cond rfl (fun hc7 => ?_) (fun hc7 => ?_)
  replace hc7 := of_ndec_t hc7
  refine CW.seq (CW.region rfl (W.val rfl rfl rfl (R.assign rfl rfl) (W.nil (EX.then_n (CW.ret (EX.then_ret (EX.ret1 Try.results11 rfl ?_)))))))
  have hH15 := hH2.f2
  have hH16 := hH15.upto1
  refine ⟨?_, hH16⟩
  refine vbool (sameB_false fun h => ?_).symm; unfold sameP at h; first | omega | simp_all
  replace hc7 := of_ndec_f hc7
  refine CW.skip (EX.then_n (CW.seq (CW.seq (CW.region rfl (W.val rfl rfl rfl (R.fa0 8 rfl rfl Try.underlying28 rfl Try.sz3 rfl) (W.ldk rfl rfl rfl rfl rfl Try.pl3 hH2 m1 hB1 rfl (W.val rfl rfl rfl (R.fa0 8 rfl rfl Try.underlying28 rfl Try.sz3 rfl) ?_)))))))
  refine W.ldk rfl rfl rfl rfl rfl Try.pl3 hH2 m0 hB2 rfl (W.val rfl rfl rfl (R.neq rfl rfl rfl) (W.val rfl rfl rfl (R.move rfl rfl) ?_))
  refine W.split (d := 58) rfl (fun hc8 => ?_) (fun hc8 => ?_)
  replace hc8 := of_ndec_t hc8
  refine W.off rfl rfl rfl (W.off rfl rfl rfl (W.off rfl rfl rfl (W.off rfl rfl rfl (W.off rfl rfl rfl (W.val rfl rfl rfl (R.pick_t rfl rfl rfl) (W.val rfl rfl rfl (R.move rfl rfl) (W.off rfl rfl rfl ?_)))))))
  refine W.off rfl rfl rfl (W.off rfl rfl rfl (W.off rfl rfl rfl (W.off rfl rfl rfl (W.val rfl rfl rfl (R.pick_t rfl rfl rfl) (W.val rfl rfl rfl (R.move rfl rfl) (W.off rfl rfl rfl (W.off rfl rfl rfl ?_)))))))
  refine W.off rfl rfl rfl (W.off rfl rfl rfl (W.off rfl rfl rfl (W.val rfl rfl rfl (R.pick_t rfl rfl rfl) (W.val rfl rfl rfl (R.move rfl rfl) (W.off rfl rfl rfl (W.off rfl rfl rfl (W.off rfl rfl rfl ?_)))))))
  refine W.off rfl rfl rfl (W.off rfl rfl rfl (W.off rfl rfl rfl (W.off rfl rfl rfl (W.val rfl rfl rfl (R.pick_t rfl rfl rfl) (W.nil (EX.then_n (CW.cond_t rfl ?_)))))))
  refine CW.seq (CW.region rfl (W.val rfl rfl rfl (R.assign rfl rfl) (W.nil (EX.then_n (CW.ret (EX.then_ret (EX.ret1 Try.results11 rfl ?_)))))))
  have hH17 := hH2.f2
  have hH18 := hH17.upto1
  refine ⟨?_, hH18⟩
  refine vbool (sameB_false fun h => ?_).symm; unfold sameP at h; first | omega | simp_all
  replace hc8 := of_ndec_f hc8
  refine W.val rfl rfl rfl (R.fa0 9 rfl rfl Try.underlying28 rfl Try.sz3 rfl) (W.ldk rfl rfl rfl rfl rfl Try.pl3 hH2 m1 hB1 rfl (W.val rfl rfl rfl (R.fa0 9 rfl rfl Try.underlying28 rfl Try.sz3 rfl) (W.ldk rfl rfl rfl rfl rfl Try.pl3 hH2 m0 hB2 rfl (W.val rfl rfl rfl (R.neq rfl rfl rfl) (W.val rfl rfl rfl (R.pick_f rfl rfl rfl) (W.val rfl rfl rfl (R.move rfl rfl) ?_))))))
  refine W.split (d := 65) rfl (fun hc9 => ?_) (fun hc9 => ?_)
  replace hc9 := of_ndec_t hc9
  refine W.off rfl rfl rfl (W.off rfl rfl rfl (W.off rfl rfl rfl (W.off rfl rfl rfl (W.off rfl rfl rfl (W.val rfl rfl rfl (R.pick_t rfl rfl rfl) (W.val rfl rfl rfl (R.move rfl rfl) (W.off rfl rfl rfl ?_)))))))
  refine W.off rfl rfl rfl (W.off rfl rfl rfl (W.off rfl rfl rfl (W.off rfl rfl rfl (W.val rfl rfl rfl (R.pick_t rfl rfl rfl) (W.val rfl rfl rfl (R.move rfl rfl) (W.off rfl rfl rfl (W.off rfl rfl rfl ?_)))))))
  refine W.off rfl rfl rfl (W.off rfl rfl rfl (W.off rfl rfl rfl (W.off rfl rfl rfl (W.off rfl rfl rfl (W.val rfl rfl rfl (R.pick_t rfl rfl rfl) (W.nil (EX.then_n ?_)))))))
  refine CW.cond_t rfl (CW.seq (CW.region rfl (W.val rfl rfl rfl (R.assign rfl rfl) (W.nil (EX.then_n (CW.ret (EX.then_ret ?_)))))))
  refine EX.ret1 Try.results11 rfl ?_
  have hH19 := hH2.f2
  have hH20 := hH19.upto1
  refine ⟨?_, hH20⟩
  refine vbool (sameB_false fun h => ?_).symm; unfold sameP at h; first | omega | simp_all
  replace hc9 := of_ndec_f hc9
  refine W.val rfl rfl rfl (R.fa0 10 rfl rfl Try.underlying28 rfl Try.sz3 rfl) (W.ldk rfl rfl rfl rfl rfl Try.pl3 hH2 m1 hB1 rfl (W.val rfl rfl rfl (R.fa0 10 rfl rfl Try.underlying28 rfl Try.sz3 rfl) (W.ldk rfl rfl rfl rfl rfl Try.pl3 hH2 m0 hB2 rfl (W.val rfl rfl rfl (R.neq rfl rfl rfl) (W.val rfl rfl rfl (R.pick_f rfl rfl rfl) (W.val rfl rfl rfl (R.move rfl rfl) ?_))))))
  refine W.split (d := 72) rfl (fun hc10 => ?_) (fun hc10 => ?_)
  replace hc10 := of_ndec_t hc10
  refine W.off rfl rfl rfl (W.off rfl rfl rfl (W.off rfl rfl rfl (W.off rfl rfl rfl (W.off rfl rfl rfl (W.val rfl rfl rfl (R.pick_t rfl rfl rfl) (W.val rfl rfl rfl (R.move rfl rfl) (W.off rfl rfl rfl ?_)))))))
  refine W.off rfl rfl rfl (W.off rfl rfl rfl (W.off rfl rfl rfl (W.off rfl rfl rfl (W.off rfl rfl rfl (W.off rfl rfl rfl (W.val rfl rfl rfl (R.pick_t rfl rfl rfl) (W.nil ?_)))))))
  refine EX.then_n (CW.cond_t rfl (CW.seq (CW.region rfl (W.val rfl rfl rfl (R.assign rfl rfl) (W.nil (EX.then_n (CW.ret ?_)))))))
  refine EX.then_ret (EX.ret1 Try.results11 rfl ?_)
  have hH21 := hH2.f2
  have hH22 := hH21.upto1
  refine ⟨?_, hH22⟩
  refine vbool (sameB_false fun h => ?_).symm; unfold sameP at h; first | omega | simp_all
  replace hc10 := of_ndec_f hc10
  refine W.val rfl rfl rfl (R.fa0 11 rfl rfl Try.underlying28 rfl Try.sz9 rfl) (W.ldk rfl rfl rfl rfl rfl Try.pl9 hH2 m1 hB1 rfl (W.val rfl rfl rfl (R.fa0 11 rfl rfl Try.underlying28 rfl Try.sz9 rfl) (W.ldk rfl rfl rfl rfl rfl Try.pl9 hH2 m0 hB2 rfl (W.val rfl rfl rfl (R.sneq rfl rfl rfl) (W.val rfl rfl rfl (R.pick_f rfl rfl rfl) (W.val rfl rfl rfl (R.move rfl rfl) ?_))))))
  refine W.split (d := 79) rfl (fun hc11 => ?_) (fun hc11 => ?_)
  replace hc11 := of_ndec_t hc11
  refine W.off rfl rfl rfl (W.off rfl rfl rfl (W.off rfl rfl rfl (W.off rfl rfl rfl (W.off rfl rfl rfl (W.off rfl rfl rfl (W.off rfl rfl rfl (W.val rfl rfl rfl (R.pick_t rfl rfl rfl) ?_)))))))
  refine W.nil (EX.then_n (CW.cond_t rfl (CW.seq (CW.region rfl (W.val rfl rfl rfl (R.assign rfl rfl) (W.nil (EX.then_n ?_)))))))
  refine CW.ret (EX.then_ret (EX.ret1 Try.results11 rfl ?_))
  have hH23 := hH2.f2
  have hH24 := hH23.upto1
  refine ⟨?_, hH24⟩
  refine vbool (sameB_false fun h => ?_).symm; unfold sameP at h; first | omega | simp_all
  replace hc11 := of_ndec_f hc11
  refine W.val rfl rfl rfl (R.fa0 5 rfl rfl Try.underlying28 rfl Try.sz26 rfl) (W.ldk rfl rfl rfl rfl rfl Try.pl26 hH2 m1 hB1 rfl (W.val rfl rfl rfl (R.len_slice rfl rfl Try.underlying26) (W.val rfl rfl rfl (R.fa0 5 rfl rfl Try.underlying28 rfl Try.sz26 rfl) (W.ldk rfl rfl rfl rfl rfl Try.pl26 hH2 m0 hB2 rfl (W.val rfl rfl rfl (R.len_slice rfl rfl Try.underlying26) (W.val rfl rfl rfl (R.neq rfl rfl rfl) (W.val rfl rfl rfl (R.pick_f rfl rfl rfl) ?_)))))))
  refine W.nil (EX.then_n ?_)
  refine CW.cond rfl (fun hc12 => ?_) (fun hc12 => ?_)
  replace hc12 := of_ndec_t hc12
  refine CW.seq (CW.region rfl (W.val rfl rfl rfl (R.assign rfl rfl) (W.nil (EX.then_n (CW.ret (EX.then_ret (EX.ret1 Try.results11 rfl ?_)))))))
  have hH25 := hH2.f2
  have hH26 := hH25.upto1
  refine ⟨?_, hH26⟩
  refine vbool (sameB_false fun h => ?_).symm; unfold sameP at h; first | omega | simp_all
  replace hc12 := of_ndec_f hc12
  refine CW.skip (EX.then_n (CW.seq (CW.seq (CW.region rfl (W.val rfl rfl rfl (R.fa0 5 rfl rfl Try.underlying28 rfl Try.sz26 rfl) (W.ldk rfl rfl rfl rfl rfl Try.pl26 hH2 m1 hB1 rfl (W.val rfl rfl rfl (R.len_slice rfl rfl Try.underlying26) ?_)))))))
  refine W.val rfl rfl rfl (R.move rfl rfl) (W.nil (EX.then_n (CW.block ?_)))
  have hH27 := hH2.f2
  have hH28 := hH27.f2
  have hH29 := hH28.f2
  obtain ⟨I1, hI1⟩ : ∃ I : Nat → List (Nat × Value) → World → Prop, I = (fun n_ D_ w_ => ∃ (k : Nat), D_ = [(91, .int .i64 (k : Int))] ∧ n_ = a.Lines.length - k ∧ Has w0 w_ [zb2, zb1, (hp w0)] ∧ (k ≤ a.Lines.length) ∧ (a.Lines.take k = b.Lines.take k)) := ⟨_, rfl⟩
  refine CW.loop3 [4, 5, 91, 92, 93, 94, 95, 96, 97, 98, 99, 100, 101, 102, 103, 104, 105] I1 _ _ ?_ (by rw [hI1]; exact ⟨0, rfl, rfl, hH29, by omega, by simp⟩) ?_
  exact ⟨lk_int rfl (by first | rfl | omega), trivial⟩
  intro n1 D w3 hn1
  rw [hI1] at hn1
  obtain ⟨k, rfl, hme1, hH30, hk, he⟩ := hn1
  refine CW.seq (CW.region rfl (W.val rfl rfl rfl (R.lss rfl rfl rfl) (W.nil (EX.then_n (CW.seq ?_)))))
  refine CW.cond rfl (fun hc13 => ?_) (fun hc13 => ?_)
  replace hc13 := of_decide_eq_true hc13
  refine CW.skip (EX.then_n (CW.seq (CW.block (CW.seq (CW.region rfl (W.val rfl rfl rfl (R.move rfl rfl) (W.val rfl rfl rfl (R.assign rfl rfl) ?_)))))))
  refine W.nil (EX.then_n (CW.seq ?_))
  have hH31 := hH30.drew
  refine CW.draw (fun w => Sub zb1 w ∧ Sub (hp w0) w ∧ Sub zb2 w ∧ True) [] #[false, false, false, false, false, false, false, false, false, false, false] Try.mixed rfl rfl ⟨hH31.sub _ m1, hH31.sub _ m2, hH31.sub _ m0, trivial⟩ (WA.pure (i := 0) #[true, false, false, false, false, false, false, false, false, false, false] (blind_then (blind_blk (blind_then (blind_then (blind_blk (blind_then (blind_body _ _))))))) rfl (by kernel_rfl) rfl rfl rfl (fun _ => R.fa0 5 rfl rfl Try.underlying28 rfl Try.sz26 rfl) (WA.take (i := 1) #[true, true, false, false, false, false, false, false, false, false, false] (blind_then (blind_blk (blind_then (blind_then (blind_blk (blind_then (blind_body _ _))))))) rfl (by kernel_rfl) rfl rfl rfl (fun _ hw => R.load rfl rfl Try.pl26 (cellz_le hw.1 (hB1.at_ 5 _ rfl))) ⟨hH31.sub _ m1, hH31.sub _ m2, hH31.sub _ m0, trivial⟩ (WA.pure (i := 2) #[true, true, true, false, false, false, false, false, false, false, false] (blind_then (blind_blk (blind_then (blind_then (blind_blk (blind_then (blind_body _ _))))))) rfl (by kernel_rfl) rfl rfl rfl (fun _ => R.move rfl rfl) ?_)))
  refine WA.indexRow (i := 3) #[true, true, true, true, false, false, false, false, false, false, false] (blind_then (blind_blk (blind_then (blind_then (blind_blk (blind_then (blind_body _ _))))))) rfl (by kernel_rfl) rfl rfl rfl rfl rfl rfl Try.underlying26 Try.sz37 hr1 (by omega) (by omega) (fun q1 cs1 y1 hy1 hK3 hat1 => ?_)
  try simp only [Int.toNat_natCast, Int.reduceToNat] at hy1
  have hK4 := hK3
  obtain ⟨rfl, hb43, hb44, hb45, hb46, hb47, hb48, hb49, hb50⟩ := hK4
  refine WA.take (i := 4) #[true, true, true, true, true, false, false, false, false, false, false] (blind_then (blind_blk (blind_then (blind_then (blind_blk (blind_then (blind_body _ _))))))) rfl (by kernel_rfl) rfl rfl rfl (fun _ hw => R.loadAgg rfl rfl (run_isAgg_struct Try.underlying37) (by exact Try.sz37) (hat1.le hw.2.1)) ⟨hH31.sub _ m1, hH31.sub _ m2, hH31.sub _ m0, trivial⟩ (WA.pure (i := 5) #[true, true, true, true, true, true, false, false, false, false, false] (blind_then (blind_blk (blind_then (blind_then (blind_blk (blind_then (blind_body _ _))))))) rfl (by kernel_rfl) rfl rfl rfl (fun _ => R.fa0 5 rfl rfl Try.underlying28 rfl Try.sz26 rfl) (WA.take (i := 6) #[true, true, true, true, true, true, true, false, false, false, false] (blind_then (blind_blk (blind_then (blind_then (blind_blk (blind_then (blind_body _ _))))))) rfl (by kernel_rfl) rfl rfl rfl (fun _ hw => R.load rfl rfl Try.pl26 (cellz_le hw.2.2.1 (hB2.at_ 5 _ rfl))) ⟨hH31.sub _ m1, hH31.sub _ m2, hH31.sub _ m0, trivial⟩ (WA.pure (i := 7) #[true, true, true, true, true, true, true, true, false, false, false] (blind_then (blind_blk (blind_then (blind_then (blind_blk (blind_then (blind_body _ _))))))) rfl (by kernel_rfl) rfl rfl rfl (fun _ => R.move rfl rfl) ?_)))
  refine WA.indexRow (i := 8) #[true, true, true, true, true, true, true, true, true, false, false] (blind_then (blind_blk (blind_then (blind_then (blind_blk (blind_then (blind_body _ _))))))) rfl (by kernel_rfl) rfl rfl rfl rfl rfl rfl Try.underlying26 Try.sz37 hr2 (by omega) (by omega) (fun q2 cs2 y2 hy2 hK5 hat2 => ?_)
  try simp only [Int.toNat_natCast, Int.reduceToNat] at hy2
  have hK6 := hK5
  obtain ⟨rfl, hb51, hb52, hb53, hb54, hb55, hb56, hb57, hb58⟩ := hK6
  refine WA.take (i := 9) #[true, true, true, true, true, true, true, true, true, true, false] (blind_then (blind_blk (blind_then (blind_then (blind_blk (blind_then (blind_body _ _))))))) rfl (by kernel_rfl) rfl rfl rfl (fun _ hw => R.loadAgg rfl rfl (run_isAgg_struct Try.underlying37) (by exact Try.sz37) (hat2.le hw.2.1)) ⟨hH31.sub _ m1, hH31.sub _ m2, hH31.sub _ m0, trivial⟩ (WA.pure (i := 10) #[true, true, true, true, true, true, true, true, true, true, true] (blind_then (blind_blk (blind_then (blind_then (blind_blk (blind_then (blind_body _ _))))))) rfl (by kernel_rfl) rfl rfl rfl (fun _ => R.aneq rfl rfl rfl eqg_Line (eq_Line _ _ _ _ _ _ _ _)) (WA.done (by kernel_rfl) (EX.then_n ?_)))
  refine CW.cond rfl (fun hc14 => ?_) (fun hc14 => ?_)
  replace hc14 := of_ndec_t hc14
  refine CW.seq (CW.region rfl (W.val rfl rfl rfl (R.assign rfl rfl) (W.nil (EX.then_n (CW.ret (EX.blk_ret (EX.then_ret ?_)))))))
  refine EX.then_ret (EX.blk_ret (EX.then_ret (EX.ret1 Try.results11 rfl ?_)))
  have hH32 := hH31.f2
  have hH33 := hH32.upto1
  refine ⟨?_, hH33⟩
  refine vbool (sameB_false fun h => ?_).symm; unfold sameP at h; have h2 := h.2.2.2.2.2.2.2.2.2.2.2; rw [h2, hy2] at hy1; cases hy1; simp at * <;> omega
  replace hc14 := of_ndec_f hc14
  refine CW.skip (EX.blk_n (EX.then_n (CW.region rfl (W.val rfl rfl rfl (R.addx rfl rfl rfl (ok_i64 (by omega))) (W.val rfl rfl rfl (R.move rfl rfl) (W.nil ?_))))))
  have hH34 := hH31.f2
  have hH35 := hH34.f2
  have hH36 := hH35.f2
  have hH37 := hH36.upto3
  have hyy : y1 = y2 := GLine.ext4 (by omega) (by omega) (by omega) (by omega)
  refine EX.back4 _ _ rfl ?_ (by rw [hI1]; exact ⟨k + 1, rfl, rfl, hH37, by omega, by rw [take_succ_get hy1, take_succ_get hy2, he, hyy]⟩) ?_
  exact ⟨lk_int rfl (by first | rfl | omega), trivial⟩
  omega
  replace hc13 := of_decide_eq_false hc13
  refine CW.exit (EX.then_exit (EX.then_exit (EX.blk_here (EX.then_n (CW.seq (CW.region rfl (W.val rfl rfl rfl (R.assign rfl rfl) ?_)))))))
  refine W.nil (EX.then_n (CW.ret (EX.ret1 Try.results11 rfl ?_)))
  have hH38 := hH30.f2
  have hH39 := hH38.upto1
  refine ⟨?_, hH39⟩
  refine vbool (sameB_true ?_).symm; unfold sameP; rw [List.take_of_length_le (by omega), List.take_of_length_le (by omega)] at he; simp_all

end Go.Proofs.Gw
namespace Go.Proofs.Gw
open Go Go.Gw Go.Proofs Go.RowKit
set_option maxRecDepth 100000 in
set_option maxHeartbeats 1000000 in
theorem r02_Decode (Ab : Option Addr) (cb : Nat) (b : List UInt8) (w0 : World) (lb : b.length ≤ cb) (hb : Row kU8 (hp w0) Ab b) : Calls Try.prog 74 #[.slice Ab b.length cb] w0 (Ret fun v w' => v = .tuple #[.int .u64 (((decv b).1 : Int)), .int .i64 (((decv b).2.1 : Int)), .int .i64 (((decv b).2.2 : Int))] ∧ Has w0 w' [hp w0]) := by
  refine fnstart (N := 63) Try.func74 rfl Try.ntmps74 (Nat.le_of_ble_eq_true rfl) ?_
  have hH0 : Has w0 w0 [hp w0] := Has.refl w0
  have hlb := hb.len
  refine CW.seq (CW.region rfl (W.val rfl rfl rfl (R.assign rfl rfl) (W.val rfl rfl rfl (R.assign rfl rfl) (W.val rfl rfl rfl (R.assign rfl rfl) (W.nil (EX.then_n (CW.seq ?_)))))))
  refine CW.region rfl (W.val rfl rfl rfl (R.assign rfl rfl) (W.nil (EX.then_n ?_)))
  obtain ⟨I1, hI1⟩ : ∃ I : List (Nat × Value) → World → Prop, I = (fun D_ w_ => ∃ (k : Nat), D_ = [(5, .int .i64 (k : Int))] ∧ Has w0 w_ [(hp w0)] ∧ (k ≤ b.length) ∧ (k ≤ 9) ∧ (Hi b k) ∧ (k = b.length ∨ k = 9 ∨ ∃ y : UInt8, b[k]? = some y ∧ y.toNat < 128)) := ⟨_, rfl⟩
  refine CW.mid [5, 8, 9, 10, 11, 12, 13, 14, 15, 16, 17, 18, 19, 20, 21, 22, 23, 24] I1 ?_ ?_
  refine CW.block ?_
  obtain ⟨I2, hI2⟩ : ∃ I : Nat → List (Nat × Value) → World → Prop, I = (fun n_ D_ w_ => ∃ (k : Nat), D_ = [(5, .int .i64 (k : Int))] ∧ n_ = b.length - k ∧ Has w0 w_ [(hp w0)] ∧ (k ≤ b.length) ∧ (k ≤ 9) ∧ (Hi b k)) := ⟨_, rfl⟩
  refine CW.loop3 [5, 8, 9, 10, 11, 12, 13, 14, 15, 16, 17, 18, 19, 20, 21, 22, 23, 24] I2 _ _ ?_ (by rw [hI2]; exact ⟨0, rfl, rfl, hH0, by omega, by omega, Hi.zero b⟩) ?_
  exact ⟨lk_int rfl (by first | rfl | omega), trivial⟩
  intro n1 D w1 hn1
  rw [hI2] at hn1
  obtain ⟨k, rfl, hme1, hH1, hk, hk9, hi⟩ := hn1
  refine CW.seq (CW.seq (CW.region rfl (W.val rfl rfl rfl (R.move rfl rfl) (W.val rfl rfl rfl (R.move rfl rfl) (W.val rfl rfl rfl (R.len_slice rfl rfl Try.underlying22) (W.val rfl rfl rfl (R.lss rfl rfl rfl) (W.val rfl rfl rfl (R.move rfl rfl) ?_)))))))
  refine W.split (d := 12) rfl (fun hc1 => ?_) (fun hc1 => ?_)
  replace hc1 := of_decide_eq_true hc1
  refine W.val rfl rfl rfl (R.move rfl rfl) (W.val rfl rfl rfl (R.lss rfl rfl rfl) (W.val rfl rfl rfl (R.pick_t rfl rfl rfl) (W.val rfl rfl rfl (R.move rfl rfl) ?_)))
  refine W.split (d := 16) rfl (fun hc2 => ?_) (fun hc2 => ?_)
  replace hc2 := of_decide_eq_true hc2
  refine W.val rfl rfl rfl (R.move rfl rfl) (W.val rfl rfl rfl (R.move rfl rfl) ?_)
  refine W.indexRow rfl rfl rfl rfl rfl rfl Try.underlying22 Try.sz5 hb (by omega) (by omega) (fun q1 cs1 y1 hy1 hK1 hat1 => ?_)
  try simp only [Int.toNat_natCast, Int.reduceToNat] at hy1
  have hK2 := hK1
  obtain rfl := hK2
  have hlt1 := y1.toNat_lt
  refine W.la0 rfl rfl rfl rfl rfl Try.pl5 hH1 m0 hat1 rfl (W.val rfl rfl rfl (R.geq rfl rfl rfl) (W.val rfl rfl rfl (R.pick_t rfl rfl rfl) (W.nil (EX.then_n ?_))))
  refine CW.cond rfl (fun hc3 => ?_) (fun hc3 => ?_)
  replace hc3 := of_decide_eq_true hc3
  refine CW.skip (EX.then_n (CW.block (CW.region rfl (W.val rfl rfl rfl (R.move rfl rfl) (W.val rfl rfl rfl (R.addx rfl rfl rfl (ok_i64 (by omega))) (W.val rfl rfl rfl (R.assign rfl rfl) (W.nil ?_)))))))
  refine EX.blk_n ?_
  have hH2 := hH1.upto1
  refine EX.back4 _ _ rfl ?_ (by rw [hI2]; exact ⟨k + 1, rfl, rfl, hH2, by omega, by omega, hi.succ hy1 (by omega)⟩) ?_
  exact ⟨lk_int rfl (by first | rfl | omega), trivial⟩
  omega
  replace hc3 := of_decide_eq_false hc3
  refine CW.exit (EX.then_exit (EX.then_exit (EX.blk_here ?_)))
  have hH3 := hH1.upto1
  refine EX.mid _ rfl ?_ (by rw [hI1]; exact ⟨k, rfl, hH3, by omega, by omega, hi, .inr (.inr ⟨_, hy1, by omega⟩)⟩)
  exact ⟨lk_int rfl (by first | rfl | omega), trivial⟩
  replace hc2 := of_decide_eq_false hc2
  refine W.off rfl rfl rfl (W.off rfl rfl rfl (W.off rfl rfl rfl (W.off rfl rfl rfl (W.off rfl rfl rfl (W.val rfl rfl rfl (R.pick_f rfl rfl rfl) (W.nil (EX.then_n ?_)))))))
  refine CW.cond_f rfl (CW.exit (EX.then_exit (EX.then_exit (EX.blk_here ?_))))
  have hH4 := hH1.upto1
  refine EX.mid _ rfl ?_ (by rw [hI1]; exact ⟨k, rfl, hH4, by omega, by omega, hi, by omega⟩)
  exact ⟨lk_int rfl (by first | rfl | omega), trivial⟩
  replace hc1 := of_decide_eq_false hc1
  refine W.off rfl rfl rfl (W.off rfl rfl rfl (W.val rfl rfl rfl (R.pick_f rfl rfl rfl) (W.val rfl rfl rfl (R.move rfl rfl) (W.off rfl rfl rfl (W.off rfl rfl rfl (W.off rfl rfl rfl (W.off rfl rfl rfl ?_)))))))
  refine W.off rfl rfl rfl (W.val rfl rfl rfl (R.pick_f rfl rfl rfl) (W.nil (EX.then_n (CW.cond_f rfl (CW.exit (EX.then_exit (EX.then_exit ?_)))))))
  refine EX.blk_here ?_
  have hH5 := hH1.upto1
  refine EX.mid _ rfl ?_ (by rw [hI1]; exact ⟨k, rfl, hH5, by omega, by omega, hi, by omega⟩)
  exact ⟨lk_int rfl (by first | rfl | omega), trivial⟩
  intro D w2 hn2
  rw [hI1] at hn2
  obtain ⟨k, rfl, hH6, hk, hk9, hi, he⟩ := hn2
  obtain ⟨I3, hI3⟩ : ∃ I : List (Nat × Value) → World → Prop, I = (fun D_ w_ => D_ = [] ∧ Has w0 w_ [(hp w0)] ∧ (k < b.length)) := ⟨_, rfl⟩
  refine CW.mid [2, 3, 4, 25, 26, 27, 28] I3 ?_ ?_
  refine CW.seq (CW.region rfl (W.val rfl rfl rfl (R.move rfl rfl) (W.val rfl rfl rfl (R.move rfl rfl) (W.val rfl rfl rfl (R.len_slice rfl rfl Try.underlying22) (W.val rfl rfl rfl (R.eql rfl rfl rfl) (W.nil (EX.then_n ?_)))))))
  refine CW.cond rfl (fun hc4 => ?_) (fun hc4 => ?_)
  replace hc4 := of_decide_eq_true hc4
  refine CW.seq (CW.region rfl (W.val rfl rfl rfl (R.assign rfl rfl) (W.val rfl rfl rfl (R.assign rfl rfl) (W.val rfl rfl rfl (R.assign rfl rfl) (W.nil (EX.then_n (CW.ret ?_)))))))
  refine EX.then_ret (EX.ret3 Try.results74 rfl rfl rfl ?_)
  have hH7 := hH6.upto1
  refine ⟨?_, hH7⟩
  obtain rfl : k = b.length := by omega
  rw [decv_short hi (by omega)]; rfl
  replace hc4 := of_decide_eq_false hc4
  refine CW.skip ?_
  have hH8 := hH6.upto1
  refine EX.mid _ rfl ?_ (by rw [hI3]; exact ⟨rfl, hH8, by omega⟩)
  exact trivial
  intro D w3 hn3
  rw [hI3] at hn3
  obtain ⟨rfl, hH9, hkl⟩ := hn3
  obtain ⟨I4, hI4⟩ : ∃ I : List (Nat × Value) → World → Prop, I = (fun D_ w_ => D_ = [] ∧ Has w0 w_ [(hp w0)] ∧ (∀ y : UInt8, b[k]? = some y → y.toNat < 128 ∧ (k = 9 → y.toNat ≤ 1))) := ⟨_, rfl⟩
  refine CW.mid [2, 3, 4, 29, 30, 31, 32, 33, 34, 35, 36] I4 ?_ ?_
  refine CW.seq (CW.region rfl (W.val rfl rfl rfl (R.move rfl rfl) (W.val rfl rfl rfl (R.eql rfl rfl rfl) (W.val rfl rfl rfl (R.move rfl rfl) ?_))))
  refine W.split (d := 31) rfl (fun hc5 => ?_) (fun hc5 => ?_)
  replace hc5 := of_decide_eq_true hc5
  refine W.val rfl rfl rfl (R.move rfl rfl) ?_
  refine W.indexRow rfl rfl rfl rfl rfl rfl Try.underlying22 Try.sz5 hb (by omega) (by omega) (fun q2 cs2 y2 hy2 hK3 hat2 => ?_)
  try simp only [Int.toNat_natCast, Int.reduceToNat] at hy2
  have hK4 := hK3
  obtain rfl := hK4
  have hlt2 := y2.toNat_lt
  refine W.la0 rfl rfl rfl rfl rfl Try.pl5 hH9 m0 hat2 rfl (W.val rfl rfl rfl (R.gtr rfl rfl rfl) (W.val rfl rfl rfl (R.pick_t rfl rfl rfl) (W.nil (EX.then_n ?_))))
  refine CW.cond rfl (fun hc6 => ?_) (fun hc6 => ?_)
  replace hc6 := of_decide_eq_true hc6
  refine CW.seq (CW.region rfl (W.val rfl rfl rfl (R.assign rfl rfl) (W.val rfl rfl rfl (R.assign rfl rfl) (W.val rfl rfl rfl (R.assign rfl rfl) (W.nil (EX.then_n (CW.ret ?_)))))))
  refine EX.then_ret (EX.ret3 Try.results74 rfl rfl rfl ?_)
  have hH10 := hH9.upto1
  refine ⟨?_, hH10⟩
  obtain rfl : k = 9 := by omega
  rw [decv_wide hi hy2 (by omega)]; rfl
  replace hc6 := of_decide_eq_false hc6
  refine CW.skip ?_
  have hH11 := hH9.upto1
  refine EX.mid _ rfl ?_ (by rw [hI4]; exact ⟨rfl, hH11, by
    intro y hy
    obtain rfl : k = 9 := by omega
    rw [hy2] at hy
    cases hy
    omega⟩)
  exact trivial
  replace hc5 := of_decide_eq_false hc5
  refine W.off rfl rfl rfl (W.off rfl rfl rfl (W.off rfl rfl rfl (W.off rfl rfl rfl (W.val rfl rfl rfl (R.pick_f rfl rfl rfl) (W.nil (EX.then_n (CW.cond_f rfl ?_)))))))
  refine CW.skip ?_
  have hH12 := hH9.upto1
  refine EX.mid _ rfl ?_ (by rw [hI4]; exact ⟨rfl, hH12, by
    intro y hy
    refine ⟨?_, by omega⟩
    rcases he with h | h | ⟨x, h1, h2⟩
    · omega
    · omega
    · rw [h1] at hy; cases hy; exact h2⟩)
  exact trivial
  intro D w4 hn4
  rw [hI4] at hn4
  obtain ⟨rfl, hH13, h9⟩ := hn4
  obtain ⟨I5, hI5⟩ : ∃ I : List (Nat × Value) → World → Prop, I = (fun D_ w_ => D_ = [] ∧ Has w0 w_ [(hp w0)] ∧ (∀ y : UInt8, b[k]? = some y → 0 < k → y.toNat ≠ 0)) := ⟨_, rfl⟩
  refine CW.mid [2, 3, 4, 37, 38, 39, 40, 41, 42, 43, 44, 45] I5 ?_ ?_
  refine CW.seq (CW.region rfl (W.val rfl rfl rfl (R.move rfl rfl) (W.val rfl rfl rfl (R.gtr rfl rfl rfl) (W.val rfl rfl rfl (R.move rfl rfl) ?_))))
  refine W.split (d := 39) rfl (fun hc7 => ?_) (fun hc7 => ?_)
  replace hc7 := of_decide_eq_true hc7
  refine W.val rfl rfl rfl (R.move rfl rfl) (W.val rfl rfl rfl (R.move rfl rfl) ?_)
  refine W.indexRow rfl rfl rfl rfl rfl rfl Try.underlying22 Try.sz5 hb (by omega) (by omega) (fun q3 cs3 y3 hy3 hK5 hat3 => ?_)
  try simp only [Int.toNat_natCast, Int.reduceToNat] at hy3
  have hK6 := hK5
  obtain rfl := hK6
  have hlt3 := y3.toNat_lt
  refine W.la0 rfl rfl rfl rfl rfl Try.pl5 hH13 m0 hat3 rfl (W.val rfl rfl rfl (R.eql rfl rfl rfl) (W.val rfl rfl rfl (R.pick_t rfl rfl rfl) (W.nil (EX.then_n ?_))))
  refine CW.cond rfl (fun hc8 => ?_) (fun hc8 => ?_)
  replace hc8 := of_decide_eq_true hc8
  refine CW.seq (CW.region rfl (W.val rfl rfl rfl (R.assign rfl rfl) (W.val rfl rfl rfl (R.assign rfl rfl) (W.val rfl rfl rfl (R.assign rfl rfl) (W.nil (EX.then_n (CW.ret ?_)))))))
  refine EX.then_ret (EX.ret3 Try.results74 rfl rfl rfl ?_)
  have hH14 := hH13.upto1
  refine ⟨?_, hH14⟩
  rw [decv_long hi (by omega) (hy3.trans (congrArg some (u8_eq (y := 0) (by simp; omega)))) (by omega)]; rfl
  replace hc8 := of_decide_eq_false hc8
  refine CW.skip ?_
  have hH15 := hH13.upto1
  refine EX.mid _ rfl ?_ (by rw [hI5]; exact ⟨rfl, hH15, by
    intro y hy h0
    rw [hy3] at hy
    cases hy
    omega⟩)
  exact trivial
  replace hc7 := of_decide_eq_false hc7
  refine W.off rfl rfl rfl (W.off rfl rfl rfl (W.off rfl rfl rfl (W.off rfl rfl rfl (W.off rfl rfl rfl (W.val rfl rfl rfl (R.pick_f rfl rfl rfl) (W.nil (EX.then_n ?_)))))))
  refine CW.cond_f rfl (CW.skip ?_)
  have hH16 := hH13.upto1
  refine EX.mid _ rfl ?_ (by rw [hI5]; exact ⟨rfl, hH16, fun y hy h => by omega⟩)
  exact trivial
  intro D w5 hn5
  rw [hI5] at hn5
  obtain ⟨rfl, hH17, h0⟩ := hn5
  obtain ⟨y, hy⟩ : ∃ y : UInt8, b[k]? = some y := ⟨_, List.getElem?_eq_getElem hkl⟩
  have hyl := h9 y hy
  have hy0 := h0 y hy
  have hlow := low_lt hy (by omega) (by omega)
  refine CW.seq (CW.region rfl (W.val rfl rfl rfl (R.assign rfl rfl) (W.nil (EX.then_n (CW.seq (CW.seq (CW.region rfl ?_)))))))
  refine W.val rfl rfl rfl (R.move rfl rfl) (W.val rfl rfl rfl (R.assign rfl rfl) (W.nil (EX.then_n (CW.block ?_))))
  obtain ⟨I6, hI6⟩ : ∃ I : Nat → List (Nat × Value) → World → Prop, I = (fun n_ D_ w_ => ∃ (j : Nat), D_ = [(7, .int .i64 ((j : Int) - 1)), (6, .int .u64 (lowv ((b.take (k + 1)).drop j) : Int))] ∧ n_ = j ∧ Has w0 w_ [(hp w0)] ∧ (j ≤ k + 1)) := ⟨_, rfl⟩
  refine CW.loop3 [6, 7, 47, 48, 49, 50, 51, 52, 53, 54, 55, 56, 57, 58, 59] I6 _ _ ?_ (by rw [hI6]; exact ⟨(k + 1), rfl, rfl, hH17, by omega⟩) ?_
  exact ⟨lk_int rfl (by first | rfl | omega), lk_int rfl (by rw [List.drop_eq_nil_of_le (by simp; omega)]; rfl), trivial⟩
  intro n2 D w6 hn6
  rw [hI6] at hn6
  obtain ⟨j, rfl, hme2, hH18, hj⟩ := hn6
  refine CW.seq (CW.seq (CW.region rfl (W.val rfl rfl rfl (R.move rfl rfl) (W.val rfl rfl rfl (R.geq rfl rfl rfl) (W.nil (EX.then_n ?_))))))
  refine CW.cond rfl (fun hc9 => ?_) (fun hc9 => ?_)
  replace hc9 := of_decide_eq_true hc9
  refine CW.skip (EX.then_n (CW.seq (CW.block (CW.region rfl ?_))))
  obtain ⟨y', hy'⟩ : ∃ y' : UInt8, b[((j : Int) - 1).toNat]? = some y' := ⟨_, List.getElem?_eq_getElem (by omega)⟩
  have hs := lowv_step hy' (by omega) hj
  have hs2 := lowv_drop_le (b.take (k + 1)) (j - 1)
  refine W.val rfl rfl rfl (R.move rfl rfl) (W.val rfl rfl rfl (R.mulx rfl rfl rfl (ok_u64 (by omega))) (W.val rfl rfl rfl (R.move rfl rfl) (W.val rfl rfl rfl (R.move rfl rfl) ?_)))
  refine W.indexRow rfl rfl rfl rfl rfl rfl Try.underlying22 Try.sz5 hb (by omega) (by omega) (fun q4 cs4 y4 hy4 hK7 hat4 => ?_)
  try simp only [Int.toNat_natCast, Int.reduceToNat] at hy4
  have hK8 := hK7
  obtain rfl := hK8
  have hlt4 := y4.toNat_lt
  obtain rfl := Option.some.inj (hy4.symm.trans hy')
  refine W.la0 rfl rfl rfl rfl rfl Try.pl5 hH18 m0 hat4 rfl (W.val rfl rfl rfl (R.convx rfl rfl (by rw [Try.underlying5]; rfl) Try.underlying75 (ok_u64 (by omega))) (W.val rfl rfl rfl (R.rem rfl rfl rfl (by omega) (by omega)) (W.val rfl rfl rfl (R.addx rfl rfl rfl (ok_u64 (by omega))) (W.val rfl rfl rfl (R.assign rfl rfl) (W.nil (EX.blk_n (EX.then_n ?_)))))))
  refine CW.region rfl (W.val rfl rfl rfl (R.move rfl rfl) (W.val rfl rfl rfl (R.subx rfl rfl rfl (ok_i64 (by omega))) (W.val rfl rfl rfl (R.assign rfl rfl) (W.nil ?_))))
  have hH19 := hH18.upto1
  refine EX.back4 _ _ rfl ?_ (by rw [hI6]; exact ⟨j - 1, rfl, rfl, hH19, by omega⟩) ?_
  exact ⟨lk_int rfl (by first | rfl | omega), lk_int rfl (by first | rfl | omega), trivial⟩
  omega
  replace hc9 := of_decide_eq_false hc9
  refine CW.exit (EX.then_exit (EX.then_exit (EX.blk_here (EX.then_n (CW.seq (CW.region rfl (W.val rfl rfl rfl (R.move rfl rfl) ?_)))))))
  refine W.val rfl rfl rfl (R.move rfl rfl) (W.val rfl rfl rfl (R.addx rfl rfl rfl (ok_i64 (by omega))) (W.val rfl rfl rfl (R.assign rfl rfl) (W.val rfl rfl rfl (R.assign rfl rfl) (W.val rfl rfl rfl (R.assign rfl rfl) (W.nil (EX.then_n (CW.ret ?_)))))))
  refine EX.ret3 Try.results74 rfl rfl rfl ?_
  have hH20 := hH18.upto1
  refine ⟨?_, hH20⟩
  obtain rfl : j = 0 := by omega
  rw [decv_ok hi (by omega) hy (by omega) (by omega) (by omega), List.drop_zero]; rfl

end Go.Proofs.Gw
namespace Go.Proofs.Gw
open Go Go.Gw Go.Proofs Go.RowKit
set_option maxRecDepth 100000 in
set_option maxHeartbeats 1000000 in
theorem r05_Next (Ab : Option Addr) (cb : Nat) (b : List UInt8) (last : Int) (w0 : World) (lb : b.length ≤ cb) (hb : Row kU8 (hp w0) Ab b) (hn : b.length ≤ 1024) : Calls Try.prog 73 #[.slice Ab b.length cb, .int .i64 last] w0 (Ret fun v w' => ∃ (cs0 : List Value) (z0 : PH), v = .tuple #[.agg cs0.toArray, .int .i64 (((nextF b last).2.2 : Int)), .int .i64 (((nextF b last).1 : Int))] ∧ Has w0 w' [z0, hp w0] ∧ kField.K z0 ((nextF b last).2.1) cs0) := by
  refine fnstart (N := 98) Try.func73 rfl Try.ntmps73 (Nat.le_of_ble_eq_true rfl) ?_
  have hH0 : Has w0 w0 [hp w0] := Has.refl w0
  have hlb := hb.len
  refine CW.seq (CW.region rfl ?_)
  refine W.alloc rfl rfl rfl rfl Try.zr77 rfl hH0 (fun b1 zb1 w1 hH1 hB1 => ?_)
  refine W.val rfl rfl rfl (R.assign rfl rfl) (W.val rfl rfl rfl (R.assign rfl rfl) (W.nil (EX.then_n (CW.seq (CW.region rfl (W.val rfl rfl rfl (R.build rfl rfl Try.zr77 rfl (by rw [Try.underlying77]; rfl) Try.plc77 rfl) ?_))))))
  refine W.alloc rfl rfl rfl rfl Try.zr77 rfl hH1 (fun b2 zb2 w2 hH2 hB2 => ?_)
  refine W.sg0 rfl rfl rfl rfl rfl Try.sz77 rfl (by rfl) hH2 hB2 (fun zb3 w3 hH3 hB3 => ?_)
  refine W.nil (EX.then_n (CW.seq (CW.region rfl (W.val rfl rfl rfl (R.move rfl rfl) (W.call rfl rfl rfl rfl rfl Try.func74 Try.nm74 Try.bd74 (r02_Decode _ _ _ w3 lb (hb.mono (hH3.le m2))) ?_)))))
  rintro v1 w4 ⟨rfl, hH4⟩
  have hH5 := hH3.c0 hH4
  have hdv := decv_all b
  refine W.val rfl rfl rfl (R.move rfl rfl) (W.val rfl rfl rfl (R.extract rfl rfl rfl) (W.val rfl rfl rfl (R.extract rfl rfl rfl) (W.val rfl rfl rfl (R.extract rfl rfl rfl) (W.val rfl rfl rfl (R.assign rfl rfl) (W.val rfl rfl rfl (R.assign rfl rfl) (W.val rfl rfl rfl (R.assign rfl rfl) (W.nil ?_)))))))
  refine EX.then_n (CW.seq (CW.seq (CW.region rfl (W.val rfl rfl rfl (R.move rfl rfl) (W.val rfl rfl rfl (R.neq rfl rfl rfl) (W.nil (EX.then_n ?_)))))))
  refine CW.cond rfl (fun hc1 => ?_) (fun hc1 => ?_)
  replace hc1 := of_ndec_t hc1
  refine CW.seq (CW.region rfl (W.lg0 rfl rfl rfl rfl rfl Try.pl77 (by rw [Try.underlying77]; rfl) (by exact Try.sz77) hH5 m0 hB3 (W.val rfl rfl rfl (R.move rfl rfl) ?_)))
  have hH6 := hH5.f1
  refine W.sg0 rfl rfl rfl rfl rfl Try.sz77 rfl (by rfl) hH6 hB1 (fun zb4 w5 hH7 hB4 => ?_)
  refine W.val rfl rfl rfl (R.assign rfl rfl) (W.val rfl rfl rfl (R.assign rfl rfl) (W.nil (EX.then_n (CW.ret (EX.then_ret (EX.retV Try.results73 (.cons (.agg rfl (fun w => run_isAgg_struct Try.underlying77 w) (by exact Try.sz77) (fun k u hk => hH7.cell m0 (hB4.at_ k u hk))) (.cons (.tmp rfl) (.cons (.tmp rfl) RVs.nil))) ?_))))))
  have hH8 := hH7.emp
  have hH9 := hH8.f3
  have hH10 := hH9.f1
  have hH11 := hH10.upto2
  have hNX := nextF_e1 (b := b) (last := last) (by omega)
  rw [hNX]
  refine ⟨_, _, ?_, hH11, ⟨_, _, rfl, (by first | omega | decide | (dsimp only [GField.none]; omega)), (by first | omega | decide | (dsimp only [GField.none]; omega)), (by first | omega | decide | (dsimp only [GField.none]; omega)), (by first | omega | decide | (dsimp only [GField.none]; omega)), (Nat.le_refl _), (Row.nil _ _ none)⟩⟩
  rfl
  replace hc1 := of_ndec_f hc1
  refine CW.skip (EX.then_n (CW.seq (CW.seq (CW.region rfl (W.val rfl rfl rfl (R.move rfl rfl) (W.val rfl rfl rfl (R.lss rfl rfl rfl) (W.val rfl rfl rfl (R.move rfl rfl) ?_)))))))
  refine W.split (d := 26) rfl (fun hc2 => ?_) (fun hc2 => ?_)
  replace hc2 := of_decide_eq_true hc2
  refine W.off rfl rfl rfl (W.off rfl rfl rfl (W.val rfl rfl rfl (R.pick_t rfl rfl rfl) (W.nil (EX.then_n (CW.cond_t rfl (CW.seq (CW.region rfl ?_)))))))
  refine W.lg0 rfl rfl rfl rfl rfl Try.pl77 (by rw [Try.underlying77]; rfl) (by exact Try.sz77) hH5 m0 hB3 ?_
  have hH12 := hH5.f1
  refine W.sg0 rfl rfl rfl rfl rfl Try.sz77 rfl (by rfl) hH12 hB1 (fun zb5 w6 hH13 hB5 => ?_)
  refine W.val rfl rfl rfl (R.assign rfl rfl) (W.val rfl rfl rfl (R.assign rfl rfl) (W.nil (EX.then_n (CW.ret (EX.then_ret (EX.retV Try.results73 (.cons (.agg rfl (fun w => run_isAgg_struct Try.underlying77 w) (by exact Try.sz77) (fun k u hk => hH13.cell m0 (hB5.at_ k u hk))) (.cons (.tmp rfl) (.cons (.tmp rfl) RVs.nil))) ?_))))))
  have hH14 := hH13.emp
  have hH15 := hH14.f3
  have hH16 := hH15.f1
  have hH17 := hH16.upto2
  have hNX := nextF_20 (b := b) (last := last) (by omega) (by omega)
  rw [hNX]
  refine ⟨_, _, ?_, hH17, ⟨_, _, rfl, (by first | omega | decide | (dsimp only [GField.none]; omega)), (by first | omega | decide | (dsimp only [GField.none]; omega)), (by first | omega | decide | (dsimp only [GField.none]; omega)), (by first | omega | decide | (dsimp only [GField.none]; omega)), (Nat.le_refl _), (Row.nil _ _ none)⟩⟩
  rfl
  replace hc2 := of_decide_eq_false hc2
  refine W.val rfl rfl rfl (R.move rfl rfl) (W.val rfl rfl rfl (R.gtr rfl rfl rfl) (W.val rfl rfl rfl (R.pick_f rfl rfl rfl) (W.nil (EX.then_n ?_))))
  refine CW.cond rfl (fun hc3 => ?_) (fun hc3 => ?_)
  replace hc3 := of_decide_eq_true hc3
  refine CW.seq (CW.region rfl (W.lg0 rfl rfl rfl rfl rfl Try.pl77 (by rw [Try.underlying77]; rfl) (by exact Try.sz77) hH5 m0 hB3 ?_))
  have hH18 := hH5.f1
  refine W.sg0 rfl rfl rfl rfl rfl Try.sz77 rfl (by rfl) hH18 hB1 (fun zb6 w7 hH19 hB6 => ?_)
  refine W.val rfl rfl rfl (R.assign rfl rfl) (W.val rfl rfl rfl (R.assign rfl rfl) (W.nil (EX.then_n (CW.ret (EX.then_ret (EX.retV Try.results73 (.cons (.agg rfl (fun w => run_isAgg_struct Try.underlying77 w) (by exact Try.sz77) (fun k u hk => hH19.cell m0 (hB6.at_ k u hk))) (.cons (.tmp rfl) (.cons (.tmp rfl) RVs.nil))) ?_))))))
  have hH20 := hH19.emp
  have hH21 := hH20.f3
  have hH22 := hH21.f1
  have hH23 := hH22.upto2
  have hNX := nextF_20 (b := b) (last := last) (by omega) (by omega)
  rw [hNX]
  refine ⟨_, _, ?_, hH23, ⟨_, _, rfl, (by first | omega | decide | (dsimp only [GField.none]; omega)), (by first | omega | decide | (dsimp only [GField.none]; omega)), (by first | omega | decide | (dsimp only [GField.none]; omega)), (by first | omega | decide | (dsimp only [GField.none]; omega)), (Nat.le_refl _), (Row.nil _ _ none)⟩⟩
  rfl
  replace hc3 := of_decide_eq_false hc3
  refine CW.skip (EX.then_n (CW.seq (CW.seq (CW.region rfl (W.val rfl rfl rfl (R.move rfl rfl) (W.val rfl rfl rfl (R.quo rfl rfl rfl (by omega) (by omega) (ok_u64 (by omega))) (W.val rfl rfl rfl (R.convx rfl rfl (by rw [Try.underlying75]; rfl) Try.underlying3 (ok_i64 (by omega))) ?_)))))))
  refine W.val rfl rfl rfl (R.move rfl rfl) (W.val rfl rfl rfl (R.leq rfl rfl rfl) (W.nil (EX.then_n ?_)))
  refine CW.cond rfl (fun hc4 => ?_) (fun hc4 => ?_)
  replace hc4 := of_decide_eq_true hc4
  refine CW.seq (CW.region rfl (W.lg0 rfl rfl rfl rfl rfl Try.pl77 (by rw [Try.underlying77]; rfl) (by exact Try.sz77) hH5 m0 hB3 ?_))
  have hH24 := hH5.f1
  refine W.sg0 rfl rfl rfl rfl rfl Try.sz77 rfl (by rfl) hH24 hB1 (fun zb7 w8 hH25 hB7 => ?_)
  refine W.val rfl rfl rfl (R.assign rfl rfl) (W.val rfl rfl rfl (R.assign rfl rfl) (W.nil (EX.then_n (CW.ret (EX.then_ret (EX.retV Try.results73 (.cons (.agg rfl (fun w => run_isAgg_struct Try.underlying77 w) (by exact Try.sz77) (fun k u hk => hH25.cell m0 (hB7.at_ k u hk))) (.cons (.tmp rfl) (.cons (.tmp rfl) RVs.nil))) ?_))))))
  have hH26 := hH25.emp
  have hH27 := hH26.f3
  have hH28 := hH27.f1
  have hH29 := hH28.upto2
  have hNX := nextF_21 (b := b) (last := last) (by omega) (by omega) (by omega)
  rw [hNX]
  refine ⟨_, _, ?_, hH29, ⟨_, _, rfl, (by first | omega | decide | (dsimp only [GField.none]; omega)), (by first | omega | decide | (dsimp only [GField.none]; omega)), (by first | omega | decide | (dsimp only [GField.none]; omega)), (by first | omega | decide | (dsimp only [GField.none]; omega)), (Nat.le_refl _), (Row.nil _ _ none)⟩⟩
  rfl
  replace hc4 := of_decide_eq_false hc4
  refine CW.skip (EX.then_n (CW.seq (CW.region rfl (W.val rfl rfl rfl (R.move rfl rfl) (W.val rfl rfl rfl (R.move rfl rfl) ?_)))))
  refine W.slice _ _ rfl rfl rfl rfl rfl (.inr ⟨_, _, rfl, rfl⟩) (.inl ⟨rfl, rfl⟩) Try.underlying22 Try.sz5 hb lb (by omega) (by omega) (by omega) (fun B1 c1 ys1 hys1 hyl1 hr1 hl1 => ?_)
  rw [drop_tail, Int.toNat_natCast] at hys1
  subst hys1
  refine W.call rfl rfl rfl rfl rfl Try.func74 Try.nm74 Try.bd74 (r02_Decode _ _ _ w4 hl1 (hr1.mono (hH5.le m2))) ?_
  rintro v2 w9 ⟨rfl, hH30⟩
  have hH31 := hH5.c0 hH30
  have hdu := decv_all (b.drop (decv b).2.1)
  rw [List.length_drop] at hdu
  refine W.val rfl rfl rfl (R.move rfl rfl) (W.val rfl rfl rfl (R.extract rfl rfl rfl) (W.val rfl rfl rfl (R.extract rfl rfl rfl) (W.val rfl rfl rfl (R.extract rfl rfl rfl) (W.val rfl rfl rfl (R.assign rfl rfl) (W.val rfl rfl rfl (R.assign rfl rfl) (W.val rfl rfl rfl (R.assign rfl rfl) (W.nil ?_)))))))
  refine EX.then_n (CW.seq (CW.seq (CW.region rfl (W.val rfl rfl rfl (R.move rfl rfl) (W.val rfl rfl rfl (R.neq rfl rfl rfl) (W.nil (EX.then_n ?_)))))))
  refine CW.cond rfl (fun hc5 => ?_) (fun hc5 => ?_)
  replace hc5 := of_ndec_t hc5
  refine CW.seq (CW.region rfl (W.lg0 rfl rfl rfl rfl rfl Try.pl77 (by rw [Try.underlying77]; rfl) (by exact Try.sz77) hH31 m0 hB3 (W.val rfl rfl rfl (R.move rfl rfl) ?_)))
  have hH32 := hH31.f1
  refine W.sg0 rfl rfl rfl rfl rfl Try.sz77 rfl (by rfl) hH32 hB1 (fun zb8 w10 hH33 hB8 => ?_)
  refine W.val rfl rfl rfl (R.assign rfl rfl) (W.val rfl rfl rfl (R.assign rfl rfl) (W.nil (EX.then_n (CW.ret (EX.then_ret (EX.retV Try.results73 (.cons (.agg rfl (fun w => run_isAgg_struct Try.underlying77 w) (by exact Try.sz77) (fun k u hk => hH33.cell m0 (hB8.at_ k u hk))) (.cons (.tmp rfl) (.cons (.tmp rfl) RVs.nil))) ?_))))))
  have hH34 := hH33.emp
  have hH35 := hH34.f3
  have hH36 := hH35.f1
  have hH37 := hH36.upto2
  have hNX := nextF_e2 (b := b) (last := last) (by omega) (by omega) (by omega) (by omega)
  rw [hNX]
  refine ⟨_, _, ?_, hH37, ⟨_, _, rfl, (by first | omega | decide | (dsimp only [GField.none]; omega)), (by first | omega | decide | (dsimp only [GField.none]; omega)), (by first | omega | decide | (dsimp only [GField.none]; omega)), (by first | omega | decide | (dsimp only [GField.none]; omega)), (Nat.le_refl _), (Row.nil _ _ none)⟩⟩
  rfl
  replace hc5 := of_ndec_f hc5
  refine CW.skip (EX.then_n (CW.seq (CW.seq (CW.region rfl (W.val rfl rfl rfl (R.move rfl rfl) (W.val rfl rfl rfl (R.eql rfl rfl rfl) (W.nil ?_)))))))
  refine EX.then_n ?_
  refine CW.cond rfl (fun hc6 => ?_) (fun hc6 => ?_)
  replace hc6 := of_decide_eq_true hc6
  refine CW.seq (CW.region rfl (W.lg0 rfl rfl rfl rfl rfl Try.pl77 (by rw [Try.underlying77]; rfl) (by exact Try.sz77) hH31 m0 hB3 ?_))
  have hH38 := hH31.f1
  refine W.sg0 rfl rfl rfl rfl rfl Try.sz77 rfl (by rfl) hH38 hB1 (fun zb9 w11 hH39 hB9 => ?_)
  refine W.val rfl rfl rfl (R.assign rfl rfl) (W.val rfl rfl rfl (R.assign rfl rfl) (W.nil (EX.then_n (CW.ret (EX.then_ret (EX.retV Try.results73 (.cons (.agg rfl (fun w => run_isAgg_struct Try.underlying77 w) (by exact Try.sz77) (fun k u hk => hH39.cell m0 (hB9.at_ k u hk))) (.cons (.tmp rfl) (.cons (.tmp rfl) RVs.nil))) ?_))))))
  have hH40 := hH39.emp
  have hH41 := hH40.f3
  have hH42 := hH41.f1
  have hH43 := hH42.upto2
  have hNX := nextF_22 (b := b) (last := last) (by omega) (by omega) (by omega) (by omega) (by omega)
  rw [hNX]
  refine ⟨_, _, ?_, hH43, ⟨_, _, rfl, (by first | omega | decide | (dsimp only [GField.none]; omega)), (by first | omega | decide | (dsimp only [GField.none]; omega)), (by first | omega | decide | (dsimp only [GField.none]; omega)), (by first | omega | decide | (dsimp only [GField.none]; omega)), (Nat.le_refl _), (Row.nil _ _ none)⟩⟩
  rfl
  replace hc6 := of_decide_eq_false hc6
  refine CW.skip (EX.then_n (CW.seq (CW.seq (CW.region rfl (W.val rfl rfl rfl (R.move rfl rfl) (W.val rfl rfl rfl (R.rem rfl rfl rfl (by omega) (by omega)) (W.val rfl rfl rfl (R.eql rfl rfl rfl) ?_)))))))
  refine W.nil (EX.then_n ?_)
  refine CW.cond rfl (fun hc7 => ?_) (fun hc7 => ?_)
  replace hc7 := of_decide_eq_true hc7
  refine CW.seq (CW.region rfl (W.val rfl rfl rfl (R.move rfl rfl) (W.val rfl rfl rfl (R.quo rfl rfl rfl (by omega) (by omega) (ok_u64 (by omega))) (W.val rfl rfl rfl (R.convx rfl rfl (by rw [Try.underlying75]; rfl) Try.underlying3 (ok_i64 (by omega))) (W.val rfl rfl rfl (R.move rfl rfl) (W.val rfl rfl rfl (R.build rfl rfl Try.zr77 rfl (by rw [Try.underlying77]; rfl) Try.plc77 rfl) (W.val rfl rfl rfl (R.move rfl rfl) ?_)))))))
  refine W.val rfl rfl rfl (R.move rfl rfl) (W.val rfl rfl rfl (R.addx rfl rfl rfl (ok_i64 (by omega))) ?_)
  have hH44 := hH31.f1
  refine W.sg0 rfl rfl rfl rfl rfl Try.sz77 rfl (by rfl) hH44 hB1 (fun zb10 w12 hH45 hB10 => ?_)
  refine W.val rfl rfl rfl (R.assign rfl rfl) (W.val rfl rfl rfl (R.assign rfl rfl) (W.nil (EX.then_n (CW.ret (EX.then_ret (EX.retV Try.results73 (.cons (.agg rfl (fun w => run_isAgg_struct Try.underlying77 w) (by exact Try.sz77) (fun k u hk => hH45.cell m0 (hB10.at_ k u hk))) (.cons (.tmp rfl) (.cons (.tmp rfl) RVs.nil))) ?_))))))
  have hH46 := hH45.emp
  have hH47 := hH46.f3
  have hH48 := hH47.f1
  have hH49 := hH48.upto2
  have hNX := nextF_num (b := b) (last := last) (by omega) (by omega) (by omega) (by omega) (by omega) (by omega)
  rw [hNX]
  refine ⟨_, _, ?_, hH49, ⟨_, _, rfl, (by first | omega | decide | (dsimp only [GField.none]; omega)), (by first | omega | decide | (dsimp only [GField.none]; omega)), (by first | omega | decide | (dsimp only [GField.none]; omega)), (by first | omega | decide | (dsimp only [GField.none]; omega)), (Nat.le_refl _), (Row.nil _ _ none)⟩⟩
  rfl
  replace hc7 := of_decide_eq_false hc7
  refine CW.skip (EX.then_n (CW.seq (CW.seq (CW.region rfl (W.val rfl rfl rfl (R.move rfl rfl) (W.val rfl rfl rfl (R.gtr rfl rfl rfl) (W.nil ?_)))))))
  refine EX.then_n ?_
  refine CW.cond rfl (fun hc8 => ?_) (fun hc8 => ?_)
  replace hc8 := of_decide_eq_true hc8
  refine CW.seq (CW.region rfl (W.lg0 rfl rfl rfl rfl rfl Try.pl77 (by rw [Try.underlying77]; rfl) (by exact Try.sz77) hH31 m0 hB3 ?_))
  have hH50 := hH31.f1
  refine W.sg0 rfl rfl rfl rfl rfl Try.sz77 rfl (by rfl) hH50 hB1 (fun zb11 w13 hH51 hB11 => ?_)
  refine W.val rfl rfl rfl (R.assign rfl rfl) (W.val rfl rfl rfl (R.assign rfl rfl) (W.nil (EX.then_n (CW.ret (EX.then_ret (EX.retV Try.results73 (.cons (.agg rfl (fun w => run_isAgg_struct Try.underlying77 w) (by exact Try.sz77) (fun k u hk => hH51.cell m0 (hB11.at_ k u hk))) (.cons (.tmp rfl) (.cons (.tmp rfl) RVs.nil))) ?_))))))
  have hH52 := hH51.emp
  have hH53 := hH52.f3
  have hH54 := hH53.f1
  have hH55 := hH54.upto2
  have hNX := nextF_23 (b := b) (last := last) (by omega) (by omega) (by omega) (by omega) (by omega) (by omega) (by omega)
  rw [hNX]
  refine ⟨_, _, ?_, hH55, ⟨_, _, rfl, (by first | omega | decide | (dsimp only [GField.none]; omega)), (by first | omega | decide | (dsimp only [GField.none]; omega)), (by first | omega | decide | (dsimp only [GField.none]; omega)), (by first | omega | decide | (dsimp only [GField.none]; omega)), (Nat.le_refl _), (Row.nil _ _ none)⟩⟩
  rfl
  replace hc8 := of_decide_eq_false hc8
  refine CW.skip (EX.then_n (CW.seq (CW.seq (CW.region rfl (W.val rfl rfl rfl (R.move rfl rfl) (W.val rfl rfl rfl (R.convx rfl rfl (by rw [Try.underlying75]; rfl) Try.underlying3 (ok_i64 (by omega))) (W.val rfl rfl rfl (R.move rfl rfl) ?_)))))))
  refine W.val rfl rfl rfl (R.len_slice rfl rfl Try.underlying22) (W.val rfl rfl rfl (R.move rfl rfl) (W.val rfl rfl rfl (R.subx rfl rfl rfl (ok_i64 (by omega))) (W.val rfl rfl rfl (R.move rfl rfl) (W.val rfl rfl rfl (R.subx rfl rfl rfl (ok_i64 (by omega))) (W.val rfl rfl rfl (R.gtr rfl rfl rfl) (W.nil (EX.then_n ?_)))))))
  refine CW.cond rfl (fun hc9 => ?_) (fun hc9 => ?_)
  replace hc9 := of_decide_eq_true hc9
  refine CW.seq (CW.region rfl (W.lg0 rfl rfl rfl rfl rfl Try.pl77 (by rw [Try.underlying77]; rfl) (by exact Try.sz77) hH31 m0 hB3 ?_))
  have hH56 := hH31.f1
  refine W.sg0 rfl rfl rfl rfl rfl Try.sz77 rfl (by rfl) hH56 hB1 (fun zb12 w14 hH57 hB12 => ?_)
  refine W.val rfl rfl rfl (R.assign rfl rfl) (W.val rfl rfl rfl (R.assign rfl rfl) (W.nil (EX.then_n (CW.ret (EX.then_ret (EX.retV Try.results73 (.cons (.agg rfl (fun w => run_isAgg_struct Try.underlying77 w) (by exact Try.sz77) (fun k u hk => hH57.cell m0 (hB12.at_ k u hk))) (.cons (.tmp rfl) (.cons (.tmp rfl) RVs.nil))) ?_))))))
  have hH58 := hH57.emp
  have hH59 := hH58.f3
  have hH60 := hH59.f1
  have hH61 := hH60.upto2
  have hNX := nextF_10 (b := b) (last := last) (by omega) (by omega) (by omega) (by omega) (by omega) (by omega) (by omega) (by omega)
  rw [hNX]
  refine ⟨_, _, ?_, hH61, ⟨_, _, rfl, (by first | omega | decide | (dsimp only [GField.none]; omega)), (by first | omega | decide | (dsimp only [GField.none]; omega)), (by first | omega | decide | (dsimp only [GField.none]; omega)), (by first | omega | decide | (dsimp only [GField.none]; omega)), (Nat.le_refl _), (Row.nil _ _ none)⟩⟩
  rfl
  replace hc9 := of_decide_eq_false hc9
  refine CW.skip (EX.then_n (CW.seq (CW.region rfl (W.val rfl rfl rfl (R.move rfl rfl) (W.val rfl rfl rfl (R.quo rfl rfl rfl (by omega) (by omega) (ok_u64 (by omega))) (W.val rfl rfl rfl (R.convx rfl rfl (by rw [Try.underlying75]; rfl) Try.underlying3 (ok_i64 (by omega))) (W.val rfl rfl rfl (R.move rfl rfl) ?_)))))))
  refine W.val rfl rfl rfl (R.move rfl rfl) (W.val rfl rfl rfl (R.move rfl rfl) (W.val rfl rfl rfl (R.addx rfl rfl rfl (ok_i64 (by omega))) (W.val rfl rfl rfl (R.move rfl rfl) (W.val rfl rfl rfl (R.move rfl rfl) (W.val rfl rfl rfl (R.addx rfl rfl rfl (ok_i64 (by omega))) (W.val rfl rfl rfl (R.move rfl rfl) (W.val rfl rfl rfl (R.convx rfl rfl (by rw [Try.underlying75]; rfl) Try.underlying3 (ok_i64 (by omega))) ?_)))))))
  refine W.val rfl rfl rfl (R.addx rfl rfl rfl (ok_i64 (by omega))) ?_
  refine W.slice _ _ rfl rfl rfl rfl rfl (.inr ⟨_, _, rfl, rfl⟩) (.inr ⟨_, _, rfl, rfl⟩) Try.underlying22 Try.sz5 hb lb (by omega) (by omega) (by omega) (fun B2 c2 ys2 hys2 hyl2 hr2 hl2 => ?_)
  replace hys2 : ys2 = (b.drop ((decv b).2.1 + (decv (b.drop (decv b).2.1)).2.1)).take (decv (b.drop (decv b).2.1)).1 := by
    rw [hys2]
    congr 1 <;> first | omega | (congr 1; omega)
  subst hys2
  refine W.call rfl rfl rfl rfl rfl Try.func8 Try.nm8 Try.bd8 (r02_Copy _ _ _ w9 hl2 (hr2.mono (hH31.le m2)) (by omega)) ?_
  rintro v3 w15 ⟨A01, c01, z01, rfl, hH62, hO01⟩
  have hH63 := hH31.c1 hH62
  refine W.val rfl rfl rfl (R.build rfl rfl Try.zr77 rfl (by rw [Try.underlying77]; rfl) Try.plc77 rfl) (W.val rfl rfl rfl (R.move rfl rfl) (W.val rfl rfl rfl (R.move rfl rfl) (W.val rfl rfl rfl (R.addx rfl rfl rfl (ok_i64 (by omega))) (W.val rfl rfl rfl (R.move rfl rfl) (W.val rfl rfl rfl (R.convx rfl rfl (by rw [Try.underlying75]; rfl) Try.underlying3 (ok_i64 (by omega))) (W.val rfl rfl rfl (R.addx rfl rfl rfl (ok_i64 (by omega))) ?_))))))
  have hH64 := hH63.f2
  refine W.sg0 rfl rfl rfl rfl rfl Try.sz77 rfl (by rfl) hH64 hB1 (fun zb13 w16 hH65 hB13 => ?_)
  refine W.val rfl rfl rfl (R.assign rfl rfl) (W.val rfl rfl rfl (R.assign rfl rfl) (W.nil (EX.then_n (CW.ret (EX.retV Try.results73 (.cons (.agg rfl (fun w => run_isAgg_struct Try.underlying77 w) (by exact Try.sz77) (fun k u hk => hH65.cell m0 (hB13.at_ k u hk))) (.cons (.tmp rfl) (.cons (.tmp rfl) RVs.nil))) ?_)))))
  have hH66 := hH65.f3
  have hH67 := hH66.f2
  have hH68 := hH67.upto2
  have hNX := nextF_text (b := b) (last := last) (by omega) (by omega) (by omega) (by omega) (by omega) (by omega) (by omega) (by omega)
  rw [hNX]
  refine ⟨_, _, ?_, hH68, ⟨_, _, rfl, (by first | omega | decide | (dsimp only [GField.none]; omega)), (by first | omega | decide | (dsimp only [GField.none]; omega)), (by first | omega | decide | (dsimp only [GField.none]; omega)), (by first | omega | decide | (dsimp only [GField.none]; omega)), hO01.cap, (hO01.row (Le.refl _) (emp_le _))⟩⟩
  rfl

end Go.Proofs.Gw
namespace Go.Proofs.Gw
open Go Go.Gw Go.Proofs Go.RowKit
set_option maxRecDepth 100000 in
set_option maxHeartbeats 1000000 in
theorem r05_Decode (Ab : Option Addr) (cb : Nat) (b : List UInt8) (w0 : World) (lb : b.length ≤ cb) (hb : Row kU8 (hp w0) Ab b) : Calls Try.prog 28 #[.slice Ab b.length cb] w0 (Ret fun v w' => ∃ (A0 : Option Addr) (c0 : Nat) (z0 : PH) (y0 : PH), v = .tuple #[.slice A0 ((decFs b).1).length c0, .int .i64 (((decFs b).2.1 : Int)), .int .i64 (((decFs b).2.2 : Int))] ∧ Has w0 w' [z0, y0, hp w0] ∧ Own kField 77 y0 z0 A0 c0 ((decFs b).1)) := by
  refine fnstart (N := 42) Try.func28 rfl Try.ntmps28 (Nat.le_of_ble_eq_true rfl) ?_
  have hH0 : Has w0 w0 [hp w0] := Has.refl w0
  have hlb := hb.len
  refine CW.seq (CW.region rfl (W.val rfl rfl rfl (R.assign rfl rfl) (W.val rfl rfl rfl (R.assign rfl rfl) (W.val rfl rfl rfl (R.assign rfl rfl) (W.nil (EX.then_n (CW.seq ?_)))))))
  refine CW.seq (CW.region rfl (W.val rfl rfl rfl (R.move rfl rfl) (W.val rfl rfl rfl (R.len_slice rfl rfl Try.underlying22) (W.val rfl rfl rfl (R.gtr rfl rfl rfl) (W.nil (EX.then_n ?_))))))
  refine CW.cond rfl (fun hc1 => ?_) (fun hc1 => ?_)
  replace hc1 := of_decide_eq_true hc1
  refine CW.seq (CW.region rfl (W.val rfl rfl rfl (R.assign rfl rfl) (W.val rfl rfl rfl (R.assign rfl rfl) (W.val rfl rfl rfl (R.assign rfl rfl) (W.nil (EX.then_n (CW.ret ?_)))))))
  refine EX.then_ret (EX.ret3 Try.results28 rfl rfl rfl ?_)
  have hH1 := hH0.emp
  have hH2 := hH1.emp
  have hH3 := hH2.f2
  have hH4 := hH3.f1
  have hH5 := hH4.f2
  have hH6 := hH5.upto3
  have hd : decFs b = ([], 0, 24) := by unfold decFs; rw [if_pos (by omega)]
  rw [hd]
  refine ⟨_, _, _, _, ?_, hH6, (Own.nil _ _ _)⟩
  rfl
  replace hc1 := of_decide_eq_false hc1
  refine CW.skip (EX.then_n (CW.seq (CW.region rfl ?_)))
  refine W.bsE rfl rfl rfl rfl Try.underlying72 Try.inf77 hH0 (fun b1 zb1 w1 hH7 hB1 => ?_)
  refine W.val rfl rfl rfl (R.assign rfl rfl) (W.nil (EX.then_n (CW.seq (CW.region rfl (W.val rfl rfl rfl (R.assign rfl rfl) (W.nil (EX.then_n ?_)))))))
  refine CW.seq (CW.seq (CW.region rfl (W.val rfl rfl rfl (R.assign rfl rfl) (W.nil (EX.then_n (CW.block ?_))))))
  have hH8 := hH7.emp
  have hO_z3 : Own kField 77 emp zb1 _ _ [] := (Own.blk (κ := kField) (zi := emp) (xs := []) hB1 rfl rfl (by decide))
  have hH9 := hH8.f1
  have hH10 := hH9.f2
  have hH11 := hH10.f2
  have hH12 := hH11.f2
  obtain ⟨I1, hI1⟩ : ∃ I : Nat → List (Nat × Value) → World → Prop, I = (fun n_ D_ w_ => ∃ (k : Nat) (last : Int) (fs : List GField) (A : Option Addr) (c : Nat) (z : PH) (y : PH) (f : Nat), D_ = [(7, .int .i64 (k : Int)), (6, .int .i64 last), (5, .slice A fs.length c)] ∧ n_ = b.length - k ∧ Has w0 w_ [z, y, (hp w0)] ∧ (k ≤ b.length) ∧ (decLoop (b.length + 1) b 0 0 [] = decLoop f b k last fs) ∧ (b.length < f + k) ∧ (last ≤ 31 ∧ 0 ≤ last) ∧ (fs.length ≤ k) ∧ (Own kField 77 y z A c fs)) := ⟨_, rfl⟩
  refine CW.loop3 [2, 3, 4, 5, 6, 7, 8, 9, 10, 15, 16, 17, 18, 19, 20, 21, 22, 23, 24, 25, 26, 27, 28, 29, 30, 31, 32, 33, 34, 35, 36, 37, 38, 39, 40] I1 _ _ ?_ (by rw [hI1]; exact ⟨0, 0, [], _, _, _, _, (b.length + 1), rfl, rfl, hH12, by omega, rfl, by omega, by omega, Nat.zero_le _, hO_z3⟩) ?_
  exact ⟨lk_int rfl (by first | rfl | omega), lk_int rfl (by first | rfl | omega), rfl, trivial⟩
  intro n1 D w2 hn1
  rw [hI1] at hn1
  obtain ⟨k, last, fs, A, c, z, y, f, rfl, hme1, hH13, hk, he, hf, hls, hfk, hO⟩ := hn1
  refine CW.seq (CW.seq (CW.region rfl (W.val rfl rfl rfl (R.move rfl rfl) (W.val rfl rfl rfl (R.move rfl rfl) (W.val rfl rfl rfl (R.len_slice rfl rfl Try.underlying22) (W.val rfl rfl rfl (R.lss rfl rfl rfl) (W.nil ?_)))))))
  refine EX.then_n ?_
  refine CW.cond rfl (fun hc2 => ?_) (fun hc2 => ?_)
  replace hc2 := of_decide_eq_true hc2
  refine CW.skip (EX.then_n (CW.block (CW.seq (CW.region rfl (W.val rfl rfl rfl (R.move rfl rfl) (W.val rfl rfl rfl (R.move rfl rfl) ?_))))))
  refine W.slice _ _ rfl rfl rfl rfl rfl (.inr ⟨_, _, rfl, rfl⟩) (.inl ⟨rfl, rfl⟩) Try.underlying22 Try.sz5 hb lb (by omega) (by omega) (by omega) (fun B1 c1 ys1 hys1 hyl1 hr1 hl1 => ?_)
  rw [drop_tail, Int.toNat_natCast] at hys1
  subst hys1
  refine W.val rfl rfl rfl (R.move rfl rfl) (W.call rfl rfl rfl rfl rfl Try.func73 Try.nm73 Try.bd73 (r05_Next _ _ _ _ w2 hl1 (hr1.mono (hH13.le m2)) (by rw [List.length_drop]; omega)) ?_)
  rintro v1 w3 ⟨cs01, z01, rfl, hH14, hK01⟩
  have hH15 := hH13.c1 hH14
  have hK1 := hK01
  obtain ⟨A1, c2, rfl, hb1, hb2, hb3, hb4, hl2, hr2⟩ := hK1
  have hlen1 := hr2.len
  have hnx : (nextF (b.drop k) last).2.2 ≤ 2000 := by
    by_cases hz : (nextF (b.drop k) last).1 = 0
    · have := nextF_ok hz
      rw [List.length_drop] at this
      omega
    · rw [nextF_bad hz]; omega
  refine W.val rfl rfl rfl (R.move rfl rfl) (W.val rfl rfl rfl (R.extract rfl rfl rfl) (W.val rfl rfl rfl (R.extract rfl rfl rfl) (W.val rfl rfl rfl (R.extract rfl rfl rfl) ?_)))
  refine W.alloc rfl rfl rfl rfl Try.zr77 rfl hH15 (fun b2 zb2 w4 hH16 hB2 => ?_)
  refine W.sg0 rfl rfl rfl rfl rfl Try.sz77 rfl (by rfl) hH16 hB2 (fun zb3 w5 hH17 hB3 => ?_)
  refine W.val rfl rfl rfl (R.assign rfl rfl) (W.val rfl rfl rfl (R.assign rfl rfl) (W.nil (EX.then_n (CW.seq (CW.seq (CW.region rfl (W.val rfl rfl rfl (R.move rfl rfl) ?_)))))))
  refine W.val rfl rfl rfl (R.neq rfl rfl rfl) (W.nil (EX.then_n ?_))
  refine CW.cond rfl (fun hc3 => ?_) (fun hc3 => ?_)
  replace hc3 := of_ndec_t hc3
  refine CW.seq (CW.region rfl (W.val rfl rfl rfl (R.move rfl rfl) (W.val rfl rfl rfl (R.move rfl rfl) (W.val rfl rfl rfl (R.assign rfl rfl) (W.val rfl rfl rfl (R.assign rfl rfl) (W.val rfl rfl rfl (R.assign rfl rfl) (W.nil ?_)))))))
  refine EX.then_n (CW.ret (EX.then_ret (EX.blk_ret (EX.then_ret (EX.blk_ret (EX.then_ret (EX.ret3 Try.results28 rfl rfl rfl ?_)))))))
  have hH18 := hH17.emp
  have hH19 := hH18.emp
  have hH20 := hH19.f6
  have hH21 := hH20.f1
  have hH22 := hH21.f2
  have hH23 := hH22.upto3
  have hd : decFs b = ([], k, (nextF (b.drop k) last).1) := by
    unfold decFs
    rw [if_neg (by omega)]
    exact he.trans (decLoop_bad (by omega) (by omega) (by omega))
  rw [hd]
  refine ⟨_, _, _, _, ?_, hH23, (Own.nil _ _ _)⟩
  rfl
  replace hc3 := of_ndec_f hc3
  refine CW.skip (EX.then_n (CW.seq (CW.region rfl (W.val rfl rfl rfl (R.move rfl rfl) (W.lg0 rfl rfl rfl rfl rfl Try.pl77 (by rw [Try.underlying77]; rfl) (by exact Try.sz77) hH17 m0 hB3 ?_)))))
  refine W.bs rfl rfl rfl rfl rfl Try.underlying72 Try.inf77 (by decide) rfl rfl hH17 (fun b3 zb4 w6 hH24 hB4 => ?_)
  have hH25 := hH24.f2
  have hH26 := hH25.f4
  have dj1 := hH26.dj01
  have hH27 := hH26.join
  have hO1 := hO.mono (Le.left _ z01)
  have hH28 := hH27.f1
  have hH29 := hH28.f3
  refine W.app1 (_) rfl rfl rfl rfl rfl rfl rfl Try.underlying72 Try.inf77 rfl hH29 hB4 hO1 (hK01.mono (Le.right dj1)) (by decide) (by omega) (fun A2 c3 z6 w7 hH30 hO2 => ?_)
  refine W.val rfl rfl rfl (R.assign rfl rfl) (W.nil (EX.then_n (CW.seq (CW.region rfl (W.val rfl rfl rfl (R.fa0 0 rfl rfl Try.underlying77 rfl Try.sz3 rfl) (W.ldk rfl rfl rfl rfl rfl Try.pl3 hH30 m2 hB3 rfl (W.val rfl rfl rfl (R.assign rfl rfl) ?_)))))))
  refine W.nil (EX.then_n (CW.region rfl (W.val rfl rfl rfl (R.move rfl rfl) (W.val rfl rfl rfl (R.move rfl rfl) (W.val rfl rfl rfl (R.addx rfl rfl rfl (ok_i64 (by omega))) (W.val rfl rfl rfl (R.assign rfl rfl) (W.nil ?_)))))))
  refine EX.blk_n ?_
  have hH31 := hH30.f3
  have hH32 := hH31.f2
  have hH33 := hH32.f2
  have hH34 := hH33.upto3
  have hz : (nextF (b.drop k) last).1 = 0 := by omega
  have hok := nextF_ok hz
  rw [List.length_drop] at hok
  refine EX.back4 _ _ rfl ?_ (by rw [hI1]; exact ⟨k + (nextF (b.drop k) last).2.2, (nextF (b.drop k) last).2.1.Tag, fs ++ [(nextF (b.drop k) last).2.1], _, _, _, _, f - 1, rfl, rfl, hH34, by omega, he.trans (decLoop_go (by omega) (by omega) hz), by omega, by omega, by simp <;> omega, hO2⟩) ?_
  exact ⟨lk_int rfl (by push_cast; omega), lk_int rfl (by first | rfl | omega), rfl, trivial⟩
  omega
  replace hc2 := of_decide_eq_false hc2
  refine CW.exit (EX.then_exit (EX.then_exit (EX.blk_here (EX.then_n (CW.seq (CW.region rfl (W.val rfl rfl rfl (R.move rfl rfl) ?_)))))))
  refine W.val rfl rfl rfl (R.assign rfl rfl) (W.val rfl rfl rfl (R.assign rfl rfl) (W.val rfl rfl rfl (R.assign rfl rfl) (W.nil (EX.then_n (CW.ret (EX.ret3 Try.results28 rfl rfl rfl ?_))))))
  have hH35 := hH13.f2
  have hH36 := hH35.f2
  have hH37 := hH36.f2
  have hH38 := hH37.upto3
  have hd : decFs b = (fs, 0, 0) := by
    unfold decFs
    rw [if_neg (by omega)]
    exact he.trans (decLoop_end (by omega))
  rw [hd]
  refine ⟨_, _, _, _, ?_, hH38, hO⟩
  rfl

end Go.Proofs.Gw
namespace Go.Proofs.Gw
open Go Go.Gw Go.Proofs Go.RowKit
set_option maxRecDepth 100000 in
set_option maxHeartbeats 1000000 in
theorem r06_Has (v_ : Int) (w0 : World) (h0 : 1 ≤ v_) (h1 : v_ ≤ 5) : Calls Try.prog 98 #[.int .i64 v_] w0 (Ret fun v w' => v = .int .i64 (hasE v_) ∧ Has w0 w' [hp w0]) := by
  refine fnstart (N := 9) Try.func98 rfl Try.ntmps98 (Nat.le_of_ble_eq_true rfl) ?_
  have hH0 : Has w0 w0 [hp w0] := Has.refl w0
  refine CW.seq (CW.region rfl (W.val rfl rfl rfl (R.assign rfl rfl) (W.nil (EX.then_n (CW.seq (CW.region rfl ?_))))))
  refine W.bsN ([0, 5, 6, 7, 8, 10] : List Int) rfl rfl rfl rfl rfl Try.underlying47 Try.inf3 (by decide) rfl rfl rfl hH0 (fun b1 zb1 w1 hH1 hB1 => ?_)
  have hO1 : Own kInt 3 emp zb1 (some ⟨b1, 0, none⟩) 6 ([0, 5, 6, 7, 8, 10] : List Int) := Own.blk hB1 (reps_ints (by simp only [List.forall_mem_cons]; refine ⟨by omega, by omega, by omega, by omega, by omega, by omega, fun _ h => by cases h⟩)) rfl (by decide)
  have hdl1 : ([0, 5, 6, 7, 8, 10] : List Int).length = 6 := rfl
  refine W.val rfl rfl rfl (R.assign rfl rfl) (W.nil (EX.then_n (CW.seq (CW.region rfl (W.val rfl rfl rfl (R.move rfl rfl) (W.val rfl rfl rfl (R.move rfl rfl) ?_))))))
  refine W.indexOwn rfl rfl rfl rfl rfl rfl Try.underlying47 Try.sz3 hO1 (by omega) (by omega) rfl (fun q1 cs1 y1 hy1 hK1 hat1 hq1 => ?_)
  try simp only [Int.toNat_natCast, Int.reduceToNat] at hy1
  have hK2 := hK1
  obtain ⟨rfl, hb1, hb2⟩ := hK2
  refine W.la0 rfl rfl rfl rfl rfl Try.pl3 hH1 m0 hat1 rfl (W.val rfl rfl rfl (R.assign rfl rfl) (W.nil (EX.then_n (CW.ret (EX.ret1 Try.results98 rfl ?_)))))
  have hH2 := hH1.f1
  have hH3 := hH2.upto1
  refine ⟨?_, hH3⟩
  refine vint ?_; unfold hasE; exact (getD_int hy1).symm

end Go.Proofs.Gw
namespace Go.Proofs.Gw
open Go Go.Gw Go.Proofs Go.RowKit
set_option maxRecDepth 100000 in
set_option maxHeartbeats 1000000 in
theorem r06_Last (v_ : Int) (w0 : World) (h0 : 1 ≤ v_) (h1 : v_ ≤ 5) : Calls Try.prog 96 #[.int .i64 v_] w0 (Ret fun v w' => v = .int .i64 (lastE v_) ∧ Has w0 w' [hp w0]) := by
  refine fnstart (N := 9) Try.func96 rfl Try.ntmps96 (Nat.le_of_ble_eq_true rfl) ?_
  have hH0 : Has w0 w0 [hp w0] := Has.refl w0
  refine CW.seq (CW.region rfl (W.val rfl rfl rfl (R.assign rfl rfl) (W.nil (EX.then_n (CW.seq (CW.region rfl ?_))))))
  refine W.bsN ([0, 5, 5, 7, 9, 10] : List Int) rfl rfl rfl rfl rfl Try.underlying47 Try.inf3 (by decide) rfl rfl rfl hH0 (fun b1 zb1 w1 hH1 hB1 => ?_)
  have hO1 : Own kInt 3 emp zb1 (some ⟨b1, 0, none⟩) 6 ([0, 5, 5, 7, 9, 10] : List Int) := Own.blk hB1 (reps_ints (by simp only [List.forall_mem_cons]; refine ⟨by omega, by omega, by omega, by omega, by omega, by omega, fun _ h => by cases h⟩)) rfl (by decide)
  have hdl1 : ([0, 5, 5, 7, 9, 10] : List Int).length = 6 := rfl
  refine W.val rfl rfl rfl (R.assign rfl rfl) (W.nil (EX.then_n (CW.seq (CW.region rfl (W.val rfl rfl rfl (R.move rfl rfl) (W.val rfl rfl rfl (R.move rfl rfl) ?_))))))
  refine W.indexOwn rfl rfl rfl rfl rfl rfl Try.underlying47 Try.sz3 hO1 (by omega) (by omega) rfl (fun q1 cs1 y1 hy1 hK1 hat1 hq1 => ?_)
  try simp only [Int.toNat_natCast, Int.reduceToNat] at hy1
  have hK2 := hK1
  obtain ⟨rfl, hb1, hb2⟩ := hK2
  refine W.la0 rfl rfl rfl rfl rfl Try.pl3 hH1 m0 hat1 rfl (W.val rfl rfl rfl (R.assign rfl rfl) (W.nil (EX.then_n (CW.ret (EX.ret1 Try.results96 rfl ?_)))))
  have hH2 := hH1.f1
  have hH3 := hH2.upto1
  refine ⟨?_, hH3⟩
  refine vint ?_; unfold lastE; exact (getD_int hy1).symm

end Go.Proofs.Gw
namespace Go.Proofs.Gw
open Go Go.Gw Go.Proofs Go.RowKit
set_option maxRecDepth 100000 in
set_option maxHeartbeats 1000000 in
theorem r06_Nums (e : GEvent) (cse : List Value) (w0 : World) (he : kEvent.K (hp w0) e cse) : Calls Try.prog 97 #[.agg cse.toArray] w0 (Ret fun v w' => ∃ (A0 : Option Addr) (c0 : Nat) (z0 : PH), v = .slice A0 (numsE e).length c0 ∧ Has w0 w' [z0, hp w0] ∧ Own kInt 3 emp z0 A0 c0 (numsE e)) := by
  refine fnstart (N := 20) Try.func97 rfl Try.ntmps97 (Nat.le_of_ble_eq_true rfl) ?_
  have hH0 : Has w0 w0 [hp w0] := Has.refl w0
  have hK1 := he
  obtain ⟨rfl, hb1, hb2, hb3, hb4, hb5, hb6, hb7, hb8, hb9, hb10, hb11, hb12, hb13, hb14, hb15, hb16, hb17, hb18⟩ := hK1
  refine CW.seq (CW.region rfl ?_)
  refine W.box rfl rfl rfl rfl rfl rfl hH0 (fun b1 zb1 w1 hH1 hB1 => ?_)
  refine W.val rfl rfl rfl (R.assign rfl rfl) (W.nil (EX.then_n (CW.seq (CW.region rfl (W.val rfl rfl rfl (R.fa0 0 rfl rfl Try.underlying117 rfl Try.sz115 rfl) (W.ldk rfl rfl rfl rfl rfl Try.pl115 hH1 m0 hB1 rfl (W.val rfl rfl rfl (R.fa0 1 rfl rfl Try.underlying117 rfl Try.sz3 rfl) ?_)))))))
  refine W.ldk rfl rfl rfl rfl rfl Try.pl3 hH1 m0 hB1 rfl (W.val rfl rfl rfl (R.fa0 2 rfl rfl Try.underlying117 rfl Try.sz3 rfl) (W.ldk rfl rfl rfl rfl rfl Try.pl3 hH1 m0 hB1 rfl (W.val rfl rfl rfl (R.fa0 3 rfl rfl Try.underlying117 rfl Try.sz3 rfl) (W.ldk rfl rfl rfl rfl rfl Try.pl3 hH1 m0 hB1 rfl (W.val rfl rfl rfl (R.fa0 4 rfl rfl Try.underlying117 rfl Try.sz3 rfl) (W.ldk rfl rfl rfl rfl rfl Try.pl3 hH1 m0 hB1 rfl (W.val rfl rfl rfl (R.fa0 5 rfl rfl Try.underlying117 rfl Try.sz3 rfl) ?_)))))))
  refine W.ldk rfl rfl rfl rfl rfl Try.pl3 hH1 m0 hB1 rfl (W.val rfl rfl rfl (R.fa0 6 rfl rfl Try.underlying117 rfl Try.sz3 rfl) (W.ldk rfl rfl rfl rfl rfl Try.pl3 hH1 m0 hB1 rfl (W.val rfl rfl rfl (R.fa0 8 rfl rfl Try.underlying117 rfl Try.sz3 rfl) (W.ldk rfl rfl rfl rfl rfl Try.pl3 hH1 m0 hB1 rfl ?_))))
  refine W.bsN ([0, e.Kind, e.Order, e.Item, e.Qty, e.Price, e.Cur, e.Tax, 0, e.Stamp, 0] : List Int) rfl rfl rfl rfl rfl Try.underlying47 Try.inf3 (by decide) rfl rfl rfl hH1 (fun b2 zb2 w2 hH2 hB2 => ?_)
  have hO1 : Own kInt 3 emp zb2 (some ⟨b2, 0, none⟩) 11 ([0, e.Kind, e.Order, e.Item, e.Qty, e.Price, e.Cur, e.Tax, 0, e.Stamp, 0] : List Int) := Own.blk hB2 (reps_ints (by simp only [List.forall_mem_cons]; refine ⟨by omega, by omega, by omega, by omega, by omega, by omega, by omega, by omega, by omega, by omega, by omega, fun _ h => by cases h⟩)) rfl (by decide)
  have hdl1 : ([0, e.Kind, e.Order, e.Item, e.Qty, e.Price, e.Cur, e.Tax, 0, e.Stamp, 0] : List Int).length = 11 := rfl
  refine W.val rfl rfl rfl (R.assign rfl rfl) (W.nil (EX.then_n (CW.ret (EX.ret1 Try.results97 rfl ?_))))
  have hH3 := hH2.f2
  have hH4 := hH3.f1
  have hH5 := hH4.upto2
  refine ⟨_, _, _, ?_, hH5, hO1⟩
  rfl

end Go.Proofs.Gw
namespace Go.Proofs.Gw
open Go Go.Gw Go.Proofs Go.RowKit
set_option maxRecDepth 100000 in
set_option maxHeartbeats 1000000 in
theorem r06_Check (v_ : Int) (e : GEvent) (cse : List Value) (w0 : World) (he : kEvent.K (hp w0) e cse) (hv : v_ = 4 ∨ v_ = 5) : Calls Try.prog 75 #[.int .i64 v_, .agg cse.toArray] w0 (Ret fun v w' => v = .int .i64 (checkE v_ e) ∧ Has w0 w' [hp w0]) := by
  refine fnstart (N := 130) Try.func75 rfl Try.ntmps75 (Nat.le_of_ble_eq_true rfl) ?_
  have hH0 : Has w0 w0 [hp w0] := Has.refl w0
  have hK1 := he
  obtain ⟨rfl, hb1, hb2, hb3, hb4, hb5, hb6, hb7, hb8, hb9, hb10, hb11, hb12, hb13, hb14, hb15, hb16, hb17, hb18⟩ := hK1
  have hla := last45 hv
  have hlnn : (numsE e).length = 11 := rfl
  refine CW.seq (CW.region rfl ?_)
  refine W.box rfl rfl rfl rfl rfl rfl hH0 (fun b1 zb1 w1 hH1 hB1 => ?_)
  refine W.val rfl rfl rfl (R.assign rfl rfl) (W.nil (EX.then_n (CW.seq (CW.seq (CW.region rfl (W.val rfl rfl rfl (R.move rfl rfl) (W.val rfl rfl rfl (R.lss rfl rfl rfl) ?_)))))))
  refine W.val rfl rfl rfl (R.move rfl rfl) ?_
  refine W.split (d := 13) rfl (fun hc1 => ?_) (fun hc1 => ?_)
  replace hc1 := of_decide_eq_true hc1
  exfalso
  omega
  replace hc1 := of_decide_eq_false hc1
  refine W.val rfl rfl rfl (R.move rfl rfl) (W.val rfl rfl rfl (R.gtr rfl rfl rfl) (W.val rfl rfl rfl (R.pick_f rfl rfl rfl) (W.nil (EX.then_n ?_))))
  refine CW.cond rfl (fun hc2 => ?_) (fun hc2 => ?_)
  replace hc2 := of_decide_eq_true hc2
  exfalso
  omega
  replace hc2 := of_decide_eq_false hc2
  refine CW.skip (EX.then_n (CW.seq (CW.seq ?_)))
  have hH2 := hH1.drew
  refine CW.draw (fun w => Sub zb1 w ∧ True) [] #[false, false, false, false, false, false, false, false, false, false] Try.mixed rfl rfl ⟨hH2.sub _ m0, trivial⟩ (WA.pure (i := 0) #[true, false, false, false, false, false, false, false, false, false] (blind_then (blind_then (blind_body _ _))) rfl (by kernel_rfl) rfl rfl rfl (fun _ => R.fa0 0 rfl rfl Try.underlying117 rfl Try.sz115 rfl) (WA.take (i := 1) #[true, true, false, false, false, false, false, false, false, false] (blind_then (blind_then (blind_body _ _))) rfl (by kernel_rfl) rfl rfl rfl (fun _ hw => R.load rfl rfl Try.pl115 (cellz_le hw.1 (hB1.at_ 0 _ rfl))) ⟨hH2.sub _ m0, trivial⟩ (WA.pure (i := 2) #[true, true, true, false, false, false, false, false, false, false] (blind_then (blind_then (blind_body _ _))) rfl (by kernel_rfl) rfl rfl rfl (fun _ => R.lss rfl rfl rfl) (WA.pure (i := 3) #[true, true, true, true, false, false, false, false, false, false] (blind_then (blind_then (blind_body _ _))) rfl (by kernel_rfl) rfl rfl rfl (fun _ => R.move rfl rfl) ?_))))
  refine WA.split (d := 20) rfl (fun hc3 => ?_) (fun hc3 => ?_)
  replace hc3 := of_decide_eq_true hc3
  refine WA.off (i := 4) #[true, true, true, true, true, false, false, false, false, false] (blind_then (blind_then (blind_body _ _))) rfl (by kernel_rfl) rfl rfl rfl (WA.off (i := 5) #[true, true, true, true, true, true, false, false, false, false] (blind_then (blind_then (blind_body _ _))) rfl (by kernel_rfl) rfl rfl rfl (WA.off (i := 6) #[true, true, true, true, true, true, true, false, false, false] (blind_then (blind_then (blind_body _ _))) rfl (by kernel_rfl) rfl rfl rfl (WA.one (i := 7) #[true, true, true, true, true, true, true, true, false, false] rfl (by kernel_rfl) rfl (W.off rfl rfl rfl (W.nil (EX.wa ⟨hH2.sub _ m0, trivial⟩ (WA.off (i := 8) #[true, true, true, true, true, true, true, true, true, false] (blind_then (blind_then (blind_body _ _))) rfl (by kernel_rfl) rfl rfl rfl ?_)))))))
  refine WA.pure (i := 9) #[true, true, true, true, true, true, true, true, true, true] (blind_then (blind_then (blind_body _ _))) rfl (by kernel_rfl) rfl rfl rfl (fun _ => R.pick_t rfl rfl rfl) (WA.done (by kernel_rfl) (EX.then_n (CW.cond_t rfl (CW.seq (CW.region rfl (W.val rfl rfl rfl (R.assign rfl rfl) (W.nil ?_)))))))
  refine EX.then_n (CW.ret (EX.then_ret (EX.ret1 Try.results75 rfl ?_)))
  have hH3 := hH2.f1
  have hH4 := hH3.upto1
  refine ⟨?_, hH4⟩
  rw [checkE_31 (by omega)]
  replace hc3 := of_decide_eq_false hc3
  refine WA.pure (i := 4) #[true, true, true, true, true, false, false, false, false, false] (blind_then (blind_then (blind_body _ _))) rfl (by kernel_rfl) rfl rfl rfl (fun _ => R.fa0 0 rfl rfl Try.underlying117 rfl Try.sz115 rfl) (WA.take (i := 5) #[true, true, true, true, true, true, false, false, false, false] (blind_then (blind_then (blind_body _ _))) rfl (by kernel_rfl) rfl rfl rfl (fun _ hw => R.load rfl rfl Try.pl115 (cellz_le hw.1 (hB1.at_ 0 _ rfl))) ⟨hH2.sub _ m0, trivial⟩ (WA.pure (i := 6) #[true, true, true, true, true, true, true, false, false, false] (blind_then (blind_then (blind_body _ _))) rfl (by kernel_rfl) rfl rfl rfl (fun _ => R.move rfl rfl) (WA.one (i := 7) #[true, true, true, true, true, true, true, true, false, false] rfl (by kernel_rfl) rfl (W.call rfl rfl rfl rfl rfl Try.func96 Try.nm96 Try.bd96 (r06_Last _ (w1.drew) (by omega) (by omega)) ?_))))
  rintro v1 w2 ⟨rfl, hH5⟩
  have hH6 := hH2.c0 hH5
  refine W.nil (EX.wa ⟨hH6.sub _ m0, trivial⟩ (WA.pure (i := 8) #[true, true, true, true, true, true, true, true, true, false] (blind_then (blind_then (blind_body _ _))) rfl (by kernel_rfl) rfl rfl rfl (fun _ => R.gtr rfl rfl rfl) (WA.pure (i := 9) #[true, true, true, true, true, true, true, true, true, true] (blind_then (blind_then (blind_body _ _))) rfl (by kernel_rfl) rfl rfl rfl (fun _ => R.pick_f rfl rfl rfl) (WA.done (by kernel_rfl) (EX.then_n ?_)))))
  refine CW.cond rfl (fun hc4 => ?_) (fun hc4 => ?_)
  replace hc4 := of_decide_eq_true hc4
  refine CW.seq (CW.region rfl (W.val rfl rfl rfl (R.assign rfl rfl) (W.nil (EX.then_n (CW.ret (EX.then_ret (EX.ret1 Try.results75 rfl ?_)))))))
  have hH7 := hH6.f1
  have hH8 := hH7.upto1
  refine ⟨?_, hH8⟩
  rw [checkE_31 (by omega)]
  replace hc4 := of_decide_eq_false hc4
  refine CW.skip (EX.then_n (CW.seq (CW.seq (CW.region rfl (W.val rfl rfl rfl (R.fa0 7 rfl rfl Try.underlying117 rfl Try.sz9 rfl) (W.ldk rfl rfl rfl rfl rfl Try.pl9 hH6 m0 hB1 rfl (W.val rfl rfl rfl (R.len_string rfl rfl Try.underlying9) ?_)))))))
  refine W.val rfl rfl rfl (R.gtr rfl rfl rfl) (W.val rfl rfl rfl (R.move rfl rfl) ?_)
  refine W.split (d := 31) rfl (fun hc5 => ?_) (fun hc5 => ?_)
  replace hc5 := of_decide_eq_true hc5
  refine W.off rfl rfl rfl (W.off rfl rfl rfl (W.off rfl rfl rfl (W.off rfl rfl rfl (W.val rfl rfl rfl (R.pick_t rfl rfl rfl) (W.nil (EX.then_n (CW.cond_t rfl ?_)))))))
  refine CW.seq (CW.region rfl (W.val rfl rfl rfl (R.assign rfl rfl) (W.nil (EX.then_n (CW.ret (EX.then_ret (EX.ret1 Try.results75 rfl ?_)))))))
  have hH9 := hH6.f1
  have hH10 := hH9.upto1
  refine ⟨?_, hH10⟩
  rw [checkE_24 (by omega) (by omega)]
  replace hc5 := of_decide_eq_false hc5
  refine W.val rfl rfl rfl (R.fa0 9 rfl rfl Try.underlying117 rfl Try.sz9 rfl) (W.ldk rfl rfl rfl rfl rfl Try.pl9 hH6 m0 hB1 rfl (W.val rfl rfl rfl (R.len_string rfl rfl Try.underlying9) (W.val rfl rfl rfl (R.gtr rfl rfl rfl) (W.val rfl rfl rfl (R.pick_f rfl rfl rfl) (W.nil (EX.then_n ?_))))))
  refine CW.cond rfl (fun hc6 => ?_) (fun hc6 => ?_)
  replace hc6 := of_decide_eq_true hc6
  refine CW.seq (CW.region rfl (W.val rfl rfl rfl (R.assign rfl rfl) (W.nil (EX.then_n (CW.ret (EX.then_ret (EX.ret1 Try.results75 rfl ?_)))))))
  have hH11 := hH6.f1
  have hH12 := hH11.upto1
  refine ⟨?_, hH12⟩
  rw [checkE_24 (by omega) (by omega)]
  replace hc6 := of_decide_eq_false hc6
  refine CW.skip (EX.then_n (CW.seq (CW.region rfl ?_)))
  refine W.bsN ([0, 1, 1, 0, 0, 0, 0, 0, 0, 0, 0] : List Int) rfl rfl rfl rfl rfl Try.underlying47 Try.inf3 (by decide) rfl rfl rfl hH6 (fun b2 zb2 w3 hH13 hB2 => ?_)
  have hO1 : Own kInt 3 emp zb2 (some ⟨b2, 0, none⟩) 11 ([0, 1, 1, 0, 0, 0, 0, 0, 0, 0, 0] : List Int) := Own.blk hB2 (reps_ints (by simp only [List.forall_mem_cons]; refine ⟨by omega, by omega, by omega, by omega, by omega, by omega, by omega, by omega, by omega, by omega, by omega, fun _ h => by cases h⟩)) rfl (by decide)
  have hdl1 : ([0, 1, 1, 0, 0, 0, 0, 0, 0, 0, 0] : List Int).length = 11 := rfl
  refine W.val rfl rfl rfl (R.assign rfl rfl) (W.nil (EX.then_n (CW.seq (CW.region rfl ?_))))
  refine W.bsN ([0, 10, 1099511627776, 65535, 10000, 100000000, 3, 5000, 0, 1099511627776, 0] : List Int) rfl rfl rfl rfl rfl Try.underlying47 Try.inf3 (by decide) rfl rfl rfl hH13 (fun b3 zb3 w4 hH14 hB3 => ?_)
  have hO2 : Own kInt 3 emp zb3 (some ⟨b3, 0, none⟩) 11 ([0, 10, 1099511627776, 65535, 10000, 100000000, 3, 5000, 0, 1099511627776, 0] : List Int) := Own.blk hB3 (reps_ints (by simp only [List.forall_mem_cons]; refine ⟨by omega, by omega, by omega, by omega, by omega, by omega, by omega, by omega, by omega, by omega, by omega, fun _ h => by cases h⟩)) rfl (by decide)
  have hdl2 : ([0, 10, 1099511627776, 65535, 10000, 100000000, 3, 5000, 0, 1099511627776, 0] : List Int).length = 11 := rfl
  refine W.val rfl rfl rfl (R.assign rfl rfl) (W.nil (EX.then_n (CW.seq (CW.seq (CW.region rfl (W.val rfl rfl rfl (R.move rfl rfl) (W.val rfl rfl rfl (R.lss rfl rfl rfl) ?_)))))))
  refine W.nil (EX.then_n ?_)
  refine CW.cond rfl (fun hc7 => ?_) (fun hc7 => ?_)
  replace hc7 := of_decide_eq_true hc7
  exfalso
  omega
  replace hc7 := of_decide_eq_false hc7
  refine CW.skip (EX.then_n (CW.seq (CW.seq (CW.region rfl (W.val rfl rfl rfl (R.move rfl rfl) (W.val rfl rfl rfl (R.eql rfl rfl rfl) (W.nil ?_)))))))
  refine EX.then_n ?_
  refine CW.cond rfl (fun hc8 => ?_) (fun hc8 => ?_)
  replace hc8 := of_decide_eq_true hc8
  exfalso
  omega
  replace hc8 := of_decide_eq_false hc8
  refine CW.skip (EX.then_n (CW.seq (CW.region rfl (W.lg0 rfl rfl rfl rfl rfl Try.pl117 (by rw [Try.underlying117]; rfl) (by exact Try.sz117) hH14 m2 hB1 (W.call rfl rfl rfl rfl rfl Try.func97 Try.nm97 Try.bd97 (r06_Nums e _ w4 (he.mono (hH14.le m3))) ?_)))))
  rintro v2 w5 ⟨A01, c01, z01, rfl, hH15, hO01⟩
  have hH16 := hH14.c1 hH15
  refine W.val rfl rfl rfl (R.assign rfl rfl) (W.nil (EX.then_n (CW.seq (CW.seq (CW.region rfl (W.val rfl rfl rfl (R.assign rfl rfl) (W.nil ?_)))))))
  refine EX.then_n (CW.block ?_)
  have hH17 := hH16.f4
  have hH18 := hH17.f4
  have hH19 := hH18.f4
  have hH20 := hH19.f4
  have hH21 := hH20.f4
  obtain ⟨I1, hI1⟩ : ∃ I : Nat → List (Nat × Value) → World → Prop, I = (fun n_ D_ w_ => ∃ (k : Nat), D_ = [(8, .int .i64 (k : Int))] ∧ n_ = 11 - k ∧ Has w0 w_ [z01, zb3, zb2, zb1, (hp w0)] ∧ (1 ≤ k ∧ k ≤ 11) ∧ (∀ (j : Nat) (y l h : Int), 1 ≤ j → j < k → (numsE e)[j]? = some y → lowV[j]? = some l → highV[j]? = some h → (l ≤ y ∧ y ≤ h) ∧ (hasE v_ < (j : Int) → y = 0))) := ⟨_, rfl⟩
  refine CW.loop3 [4, 8, 49, 50, 51, 52, 53, 54, 55, 56, 57, 58, 59, 60, 61, 62, 63, 64, 65, 66, 67, 68, 69, 70, 71, 72, 73, 74, 75, 76, 77, 78, 79, 80, 81, 82, 83] I1 _ _ ?_ (by rw [hI1]; exact ⟨1, rfl, rfl, hH21, by omega, (fun j y l h h1 h2 => by omega)⟩) ?_
  exact ⟨lk_int rfl (by first | rfl | omega), trivial⟩
  intro n1 D w6 hn1
  rw [hI1] at hn1
  obtain ⟨k, rfl, hme1, hH22, hk, hok⟩ := hn1
  refine CW.seq (CW.seq (CW.region rfl (W.val rfl rfl rfl (R.move rfl rfl) (W.val rfl rfl rfl (R.leq rfl rfl rfl) (W.nil (EX.then_n ?_))))))
  refine CW.cond rfl (fun hc9 => ?_) (fun hc9 => ?_)
  replace hc9 := of_decide_eq_true hc9
  refine CW.skip (EX.then_n (CW.seq (CW.block (CW.seq (CW.seq (CW.region rfl (W.val rfl rfl rfl (R.move rfl rfl) ?_)))))))
  refine W.val rfl rfl rfl (R.move rfl rfl) (W.call rfl rfl rfl rfl rfl Try.func98 Try.nm98 Try.bd98 (r06_Has _ w6 (by omega) (by omega)) ?_)
  rintro v3 w7 ⟨rfl, hH23⟩
  have hH24 := hH22.c0 hH23
  refine W.val rfl rfl rfl (R.gtr rfl rfl rfl) (W.val rfl rfl rfl (R.move rfl rfl) ?_)
  refine W.split (d := 57) rfl (fun hc10 => ?_) (fun hc10 => ?_)
  replace hc10 := of_decide_eq_true hc10
  refine W.val rfl rfl rfl (R.move rfl rfl) (W.val rfl rfl rfl (R.move rfl rfl) ?_)
  refine W.indexOwn rfl rfl rfl rfl rfl rfl Try.underlying47 Try.sz3 hO01 (by omega) (by omega) rfl (fun q1 cs1 y1 hy1 hK2 hat1 hq1 => ?_)
  try simp only [Int.toNat_natCast, Int.reduceToNat] at hy1
  have hK3 := hK2
  obtain ⟨rfl, hb19, hb20⟩ := hK3
  refine W.la0 rfl rfl rfl rfl rfl Try.pl3 hH24 m0 hat1 rfl (W.val rfl rfl rfl (R.neq rfl rfl rfl) (W.val rfl rfl rfl (R.pick_t rfl rfl rfl) (W.nil (EX.then_n ?_))))
  refine CW.cond rfl (fun hc11 => ?_) (fun hc11 => ?_)
  replace hc11 := of_ndec_t hc11
  refine CW.seq (CW.region rfl (W.val rfl rfl rfl (R.assign rfl rfl) (W.nil (EX.then_n (CW.ret (EX.then_ret (EX.blk_ret ?_)))))))
  refine EX.then_ret (EX.then_ret (EX.blk_ret (EX.then_ret (EX.ret1 Try.results75 rfl ?_))))
  have hH25 := hH24.f4
  have hH26 := hH25.upto1
  refine ⟨?_, hH26⟩
  rw [checkE_32 (by omega) (by omega) (fun h => by
    have h3 := chk_at hv (by omega) (by omega) (by omega) hy1 h.1 h.2.1
    exact absurd (h3.1 (by omega)) (by omega))]
  replace hc11 := of_ndec_f hc11
  refine CW.skip (EX.then_n (CW.seq ?_))
  have hH27 := hH24.drew
  refine CW.draw (fun w => Sub z01 w ∧ Sub zb2 w ∧ Sub zb3 w ∧ True) [] #[false, false, false, false, false, false, false, false, false, false, false, false, false, false, false, false, false, false, false, false] Try.mixed rfl rfl ⟨hH27.sub _ m0, hH27.sub _ m2, hH27.sub _ m1, trivial⟩ (WA.pure (i := 0) #[true, false, false, false, false, false, false, false, false, false, false, false, false, false, false, false, false, false, false, false] (blind_then (blind_blk (blind_then (blind_then (blind_blk (blind_then (blind_body _ _))))))) rfl (by kernel_rfl) rfl rfl rfl (fun _ => R.move rfl rfl) (WA.pure (i := 1) #[true, true, false, false, false, false, false, false, false, false, false, false, false, false, false, false, false, false, false, false] (blind_then (blind_blk (blind_then (blind_then (blind_blk (blind_then (blind_body _ _))))))) rfl (by kernel_rfl) rfl rfl rfl (fun _ => R.move rfl rfl) ?_))
  refine WA.indexOwn (i := 2) #[true, true, true, false, false, false, false, false, false, false, false, false, false, false, false, false, false, false, false, false] (blind_then (blind_blk (blind_then (blind_then (blind_blk (blind_then (blind_body _ _))))))) rfl (by kernel_rfl) rfl rfl rfl rfl rfl rfl Try.underlying47 Try.sz3 hO01 (by omega) (by omega) rfl (fun q2 cs2 y2 hy2 hK4 hat2 hq2 => ?_)
  try simp only [Int.toNat_natCast, Int.reduceToNat] at hy2
  have hK5 := hK4
  obtain ⟨rfl, hb21, hb22⟩ := hK5
  refine WA.take (i := 3) #[true, true, true, true, false, false, false, false, false, false, false, false, false, false, false, false, false, false, false, false] (blind_then (blind_blk (blind_then (blind_then (blind_blk (blind_then (blind_body _ _))))))) rfl (by kernel_rfl) rfl rfl rfl (fun _ hw => R.load rfl rfl Try.pl3 (cellz_le hw.1 (at0 hat2 rfl))) ⟨hH27.sub _ m0, hH27.sub _ m2, hH27.sub _ m1, trivial⟩ (WA.pure (i := 4) #[true, true, true, true, true, false, false, false, false, false, false, false, false, false, false, false, false, false, false, false] (blind_then (blind_blk (blind_then (blind_then (blind_blk (blind_then (blind_body _ _))))))) rfl (by kernel_rfl) rfl rfl rfl (fun _ => R.move rfl rfl) (WA.pure (i := 5) #[true, true, true, true, true, true, false, false, false, false, false, false, false, false, false, false, false, false, false, false] (blind_then (blind_blk (blind_then (blind_then (blind_blk (blind_then (blind_body _ _))))))) rfl (by kernel_rfl) rfl rfl rfl (fun _ => R.move rfl rfl) ?_))
  refine WA.indexOwn (i := 6) #[true, true, true, true, true, true, true, false, false, false, false, false, false, false, false, false, false, false, false, false] (blind_then (blind_blk (blind_then (blind_then (blind_blk (blind_then (blind_body _ _))))))) rfl (by kernel_rfl) rfl rfl rfl rfl rfl rfl Try.underlying47 Try.sz3 hO1 (by omega) (by omega) rfl (fun q3 cs3 y3 hy3 hK6 hat3 hq3 => ?_)
  try simp only [Int.toNat_natCast, Int.reduceToNat] at hy3
  have hK7 := hK6
  obtain ⟨rfl, hb23, hb24⟩ := hK7
  refine WA.take (i := 7) #[true, true, true, true, true, true, true, true, false, false, false, false, false, false, false, false, false, false, false, false] (blind_then (blind_blk (blind_then (blind_then (blind_blk (blind_then (blind_body _ _))))))) rfl (by kernel_rfl) rfl rfl rfl (fun _ hw => R.load rfl rfl Try.pl3 (cellz_le hw.2.1 (at0 hat3 rfl))) ⟨hH27.sub _ m0, hH27.sub _ m2, hH27.sub _ m1, trivial⟩ (WA.pure (i := 8) #[true, true, true, true, true, true, true, true, true, false, false, false, false, false, false, false, false, false, false, false] (blind_then (blind_blk (blind_then (blind_then (blind_blk (blind_then (blind_body _ _))))))) rfl (by kernel_rfl) rfl rfl rfl (fun _ => R.lss rfl rfl rfl) (WA.pure (i := 9) #[true, true, true, true, true, true, true, true, true, true, false, false, false, false, false, false, false, false, false, false] (blind_then (blind_blk (blind_then (blind_then (blind_blk (blind_then (blind_body _ _))))))) rfl (by kernel_rfl) rfl rfl rfl (fun _ => R.move rfl rfl) ?_))
  refine WA.split (d := 73) rfl (fun hc12 => ?_) (fun hc12 => ?_)
  replace hc12 := of_decide_eq_true hc12
  refine WA.off (i := 10) #[true, true, true, true, true, true, true, true, true, true, true, false, false, false, false, false, false, false, false, false] (blind_then (blind_blk (blind_then (blind_then (blind_blk (blind_then (blind_body _ _))))))) rfl (by kernel_rfl) rfl rfl rfl (WA.off (i := 11) #[true, true, true, true, true, true, true, true, true, true, true, true, false, false, false, false, false, false, false, false] (blind_then (blind_blk (blind_then (blind_then (blind_blk (blind_then (blind_body _ _))))))) rfl (by kernel_rfl) rfl rfl rfl (WA.off (i := 12) #[true, true, true, true, true, true, true, true, true, true, true, true, true, false, false, false, false, false, false, false] (blind_then (blind_blk (blind_then (blind_then (blind_blk (blind_then (blind_body _ _))))))) rfl (by kernel_rfl) rfl rfl rfl (WA.off (i := 13) #[true, true, true, true, true, true, true, true, true, true, true, true, true, true, false, false, false, false, false, false] (blind_then (blind_blk (blind_then (blind_then (blind_blk (blind_then (blind_body _ _))))))) rfl (by kernel_rfl) rfl rfl rfl (WA.off (i := 14) #[true, true, true, true, true, true, true, true, true, true, true, true, true, true, true, false, false, false, false, false] (blind_then (blind_blk (blind_then (blind_then (blind_blk (blind_then (blind_body _ _))))))) rfl (by kernel_rfl) rfl rfl rfl (WA.off (i := 15) #[true, true, true, true, true, true, true, true, true, true, true, true, true, true, true, true, false, false, false, false] (blind_then (blind_blk (blind_then (blind_then (blind_blk (blind_then (blind_body _ _))))))) rfl (by kernel_rfl) rfl rfl rfl (WA.off (i := 16) #[true, true, true, true, true, true, true, true, true, true, true, true, true, true, true, true, true, false, false, false] (blind_then (blind_blk (blind_then (blind_then (blind_blk (blind_then (blind_body _ _))))))) rfl (by kernel_rfl) rfl rfl rfl (WA.off (i := 17) #[true, true, true, true, true, true, true, true, true, true, true, true, true, true, true, true, true, true, false, false] (blind_then (blind_blk (blind_then (blind_then (blind_blk (blind_then (blind_body _ _))))))) rfl (by kernel_rfl) rfl rfl rfl ?_)))))))
  refine WA.off (i := 18) #[true, true, true, true, true, true, true, true, true, true, true, true, true, true, true, true, true, true, true, false] (blind_then (blind_blk (blind_then (blind_then (blind_blk (blind_then (blind_body _ _))))))) rfl (by kernel_rfl) rfl rfl rfl (WA.pure (i := 19) #[true, true, true, true, true, true, true, true, true, true, true, true, true, true, true, true, true, true, true, true] (blind_then (blind_blk (blind_then (blind_then (blind_blk (blind_then (blind_body _ _))))))) rfl (by kernel_rfl) rfl rfl rfl (fun _ => R.pick_t rfl rfl rfl) (WA.done (by kernel_rfl) (EX.then_n (CW.cond_t rfl (CW.seq (CW.region rfl (W.val rfl rfl rfl (R.assign rfl rfl) ?_)))))))
  refine W.nil (EX.then_n (CW.ret (EX.blk_ret (EX.then_ret (EX.then_ret (EX.blk_ret (EX.then_ret ?_)))))))
  refine EX.ret1 Try.results75 rfl ?_
  have hH28 := hH27.f4
  have hH29 := hH28.upto1
  refine ⟨?_, hH29⟩
  rw [checkE_32 (by omega) (by omega) (fun h => by
    have h3 := chk_at hv (by omega) (by omega) (by omega) hy2 h.1 h.2.1
    have h70 := h3.2.1 _ hy3
    omega)]
  replace hc12 := of_decide_eq_false hc12
  refine WA.pure (i := 10) #[true, true, true, true, true, true, true, true, true, true, true, false, false, false, false, false, false, false, false, false] (blind_then (blind_blk (blind_then (blind_then (blind_blk (blind_then (blind_body _ _))))))) rfl (by kernel_rfl) rfl rfl rfl (fun _ => R.move rfl rfl) (WA.pure (i := 11) #[true, true, true, true, true, true, true, true, true, true, true, true, false, false, false, false, false, false, false, false] (blind_then (blind_blk (blind_then (blind_then (blind_blk (blind_then (blind_body _ _))))))) rfl (by kernel_rfl) rfl rfl rfl (fun _ => R.move rfl rfl) ?_)
  refine WA.indexOwn (i := 12) #[true, true, true, true, true, true, true, true, true, true, true, true, true, false, false, false, false, false, false, false] (blind_then (blind_blk (blind_then (blind_then (blind_blk (blind_then (blind_body _ _))))))) rfl (by kernel_rfl) rfl rfl rfl rfl rfl rfl Try.underlying47 Try.sz3 hO01 (by omega) (by omega) rfl (fun q4 cs4 y4 hy4 hK8 hat4 hq4 => ?_)
  try simp only [Int.toNat_natCast, Int.reduceToNat] at hy4
  have hK9 := hK8
  obtain ⟨rfl, hb25, hb26⟩ := hK9
  refine WA.take (i := 13) #[true, true, true, true, true, true, true, true, true, true, true, true, true, true, false, false, false, false, false, false] (blind_then (blind_blk (blind_then (blind_then (blind_blk (blind_then (blind_body _ _))))))) rfl (by kernel_rfl) rfl rfl rfl (fun _ hw => R.load rfl rfl Try.pl3 (cellz_le hw.1 (at0 hat4 rfl))) ⟨hH27.sub _ m0, hH27.sub _ m2, hH27.sub _ m1, trivial⟩ (WA.pure (i := 14) #[true, true, true, true, true, true, true, true, true, true, true, true, true, true, true, false, false, false, false, false] (blind_then (blind_blk (blind_then (blind_then (blind_blk (blind_then (blind_body _ _))))))) rfl (by kernel_rfl) rfl rfl rfl (fun _ => R.move rfl rfl) (WA.pure (i := 15) #[true, true, true, true, true, true, true, true, true, true, true, true, true, true, true, true, false, false, false, false] (blind_then (blind_blk (blind_then (blind_then (blind_blk (blind_then (blind_body _ _))))))) rfl (by kernel_rfl) rfl rfl rfl (fun _ => R.move rfl rfl) ?_))
  refine WA.indexOwn (i := 16) #[true, true, true, true, true, true, true, true, true, true, true, true, true, true, true, true, true, false, false, false] (blind_then (blind_blk (blind_then (blind_then (blind_blk (blind_then (blind_body _ _))))))) rfl (by kernel_rfl) rfl rfl rfl rfl rfl rfl Try.underlying47 Try.sz3 hO2 (by omega) (by omega) rfl (fun q5 cs5 y5 hy5 hK10 hat5 hq5 => ?_)
  try simp only [Int.toNat_natCast, Int.reduceToNat] at hy5
  have hK11 := hK10
  obtain ⟨rfl, hb27, hb28⟩ := hK11
  refine WA.take (i := 17) #[true, true, true, true, true, true, true, true, true, true, true, true, true, true, true, true, true, true, false, false] (blind_then (blind_blk (blind_then (blind_then (blind_blk (blind_then (blind_body _ _))))))) rfl (by kernel_rfl) rfl rfl rfl (fun _ hw => R.load rfl rfl Try.pl3 (cellz_le hw.2.2.1 (at0 hat5 rfl))) ⟨hH27.sub _ m0, hH27.sub _ m2, hH27.sub _ m1, trivial⟩ (WA.pure (i := 18) #[true, true, true, true, true, true, true, true, true, true, true, true, true, true, true, true, true, true, true, false] (blind_then (blind_blk (blind_then (blind_then (blind_blk (blind_then (blind_body _ _))))))) rfl (by kernel_rfl) rfl rfl rfl (fun _ => R.gtr rfl rfl rfl) (WA.pure (i := 19) #[true, true, true, true, true, true, true, true, true, true, true, true, true, true, true, true, true, true, true, true] (blind_then (blind_blk (blind_then (blind_then (blind_blk (blind_then (blind_body _ _))))))) rfl (by kernel_rfl) rfl rfl rfl (fun _ => R.pick_f rfl rfl rfl) (WA.done (by kernel_rfl) (EX.then_n ?_))))
  refine CW.cond rfl (fun hc13 => ?_) (fun hc13 => ?_)
  replace hc13 := of_decide_eq_true hc13
  refine CW.seq (CW.region rfl (W.val rfl rfl rfl (R.assign rfl rfl) (W.nil (EX.then_n (CW.ret (EX.blk_ret (EX.then_ret ?_)))))))
  refine EX.then_ret (EX.blk_ret (EX.then_ret (EX.ret1 Try.results75 rfl ?_)))
  have hH30 := hH27.f4
  have hH31 := hH30.upto1
  refine ⟨?_, hH31⟩
  rw [checkE_32 (by omega) (by omega) (fun h => by
    have h3 := chk_at hv (by omega) (by omega) (by omega) hy2 h.1 h.2.1
    have h70 := h3.2.1 _ hy3
    have h80 := h3.2.2 _ hy5
    have q7 := Option.some.inj (hy4.symm.trans hy2)
    omega)]
  replace hc13 := of_decide_eq_false hc13
  refine CW.skip (EX.blk_n (EX.then_n (CW.region rfl (W.val rfl rfl rfl (R.move rfl rfl) (W.val rfl rfl rfl (R.addx rfl rfl rfl (ok_i64 (by omega))) (W.val rfl rfl rfl (R.assign rfl rfl) (W.nil ?_)))))))
  have hH32 := hH27.f4
  have hH33 := hH32.f4
  have hH34 := hH33.f4
  have hH35 := hH34.f4
  have hH36 := hH35.f4
  have hH37 := hH36.upto5
  have q60 := Option.some.inj (hy1.symm.trans hy2)
  have q76 := Option.some.inj (hy4.symm.trans hy2)
  have q66 := hy2
  have q70 := hy3
  have q80 := hy5
  refine EX.back4 _ _ rfl ?_ (by rw [hI1]; exact ⟨k + 1, rfl, rfl, hH37, by omega, (fun j y l h h1 h2 e1 e2 e3 => by
    rcases Nat.lt_or_ge j k with hlt | hge
    · exact hok j y l h h1 hlt e1 e2 e3
    · obtain rfl : j = k := by omega
      have r1 := Option.some.inj (e1.symm.trans q66)
      have r2 := Option.some.inj (e2.symm.trans q70)
      have r3 := Option.some.inj (e3.symm.trans q80)
      refine ⟨by omega, fun hh => by omega⟩)⟩) ?_
  exact ⟨lk_int rfl (by first | rfl | omega), trivial⟩
  omega
  replace hc10 := of_decide_eq_false hc10
  refine W.off rfl rfl rfl (W.off rfl rfl rfl (W.off rfl rfl rfl (W.off rfl rfl rfl (W.off rfl rfl rfl (W.val rfl rfl rfl (R.pick_f rfl rfl rfl) (W.nil (EX.then_n ?_)))))))
  refine CW.cond_f rfl (CW.skip (EX.then_n (CW.seq ?_)))
  have hH38 := hH24.drew
  refine CW.draw (fun w => Sub z01 w ∧ Sub zb2 w ∧ Sub zb3 w ∧ True) [] #[false, false, false, false, false, false, false, false, false, false, false, false, false, false, false, false, false, false, false, false] Try.mixed rfl rfl ⟨hH38.sub _ m0, hH38.sub _ m2, hH38.sub _ m1, trivial⟩ (WA.pure (i := 0) #[true, false, false, false, false, false, false, false, false, false, false, false, false, false, false, false, false, false, false, false] (blind_then (blind_blk (blind_then (blind_then (blind_blk (blind_then (blind_body _ _))))))) rfl (by kernel_rfl) rfl rfl rfl (fun _ => R.move rfl rfl) (WA.pure (i := 1) #[true, true, false, false, false, false, false, false, false, false, false, false, false, false, false, false, false, false, false, false] (blind_then (blind_blk (blind_then (blind_then (blind_blk (blind_then (blind_body _ _))))))) rfl (by kernel_rfl) rfl rfl rfl (fun _ => R.move rfl rfl) ?_))
  refine WA.indexOwn (i := 2) #[true, true, true, false, false, false, false, false, false, false, false, false, false, false, false, false, false, false, false, false] (blind_then (blind_blk (blind_then (blind_then (blind_blk (blind_then (blind_body _ _))))))) rfl (by kernel_rfl) rfl rfl rfl rfl rfl rfl Try.underlying47 Try.sz3 hO01 (by omega) (by omega) rfl (fun q6 cs6 y6 hy6 hK12 hat6 hq6 => ?_)
  try simp only [Int.toNat_natCast, Int.reduceToNat] at hy6
  have hK13 := hK12
  obtain ⟨rfl, hb29, hb30⟩ := hK13
  refine WA.take (i := 3) #[true, true, true, true, false, false, false, false, false, false, false, false, false, false, false, false, false, false, false, false] (blind_then (blind_blk (blind_then (blind_then (blind_blk (blind_then (blind_body _ _))))))) rfl (by kernel_rfl) rfl rfl rfl (fun _ hw => R.load rfl rfl Try.pl3 (cellz_le hw.1 (at0 hat6 rfl))) ⟨hH38.sub _ m0, hH38.sub _ m2, hH38.sub _ m1, trivial⟩ (WA.pure (i := 4) #[true, true, true, true, true, false, false, false, false, false, false, false, false, false, false, false, false, false, false, false] (blind_then (blind_blk (blind_then (blind_then (blind_blk (blind_then (blind_body _ _))))))) rfl (by kernel_rfl) rfl rfl rfl (fun _ => R.move rfl rfl) (WA.pure (i := 5) #[true, true, true, true, true, true, false, false, false, false, false, false, false, false, false, false, false, false, false, false] (blind_then (blind_blk (blind_then (blind_then (blind_blk (blind_then (blind_body _ _))))))) rfl (by kernel_rfl) rfl rfl rfl (fun _ => R.move rfl rfl) ?_))
  refine WA.indexOwn (i := 6) #[true, true, true, true, true, true, true, false, false, false, false, false, false, false, false, false, false, false, false, false] (blind_then (blind_blk (blind_then (blind_then (blind_blk (blind_then (blind_body _ _))))))) rfl (by kernel_rfl) rfl rfl rfl rfl rfl rfl Try.underlying47 Try.sz3 hO1 (by omega) (by omega) rfl (fun q7 cs7 y7 hy7 hK14 hat7 hq7 => ?_)
  try simp only [Int.toNat_natCast, Int.reduceToNat] at hy7
  have hK15 := hK14
  obtain ⟨rfl, hb31, hb32⟩ := hK15
  refine WA.take (i := 7) #[true, true, true, true, true, true, true, true, false, false, false, false, false, false, false, false, false, false, false, false] (blind_then (blind_blk (blind_then (blind_then (blind_blk (blind_then (blind_body _ _))))))) rfl (by kernel_rfl) rfl rfl rfl (fun _ hw => R.load rfl rfl Try.pl3 (cellz_le hw.2.1 (at0 hat7 rfl))) ⟨hH38.sub _ m0, hH38.sub _ m2, hH38.sub _ m1, trivial⟩ (WA.pure (i := 8) #[true, true, true, true, true, true, true, true, true, false, false, false, false, false, false, false, false, false, false, false] (blind_then (blind_blk (blind_then (blind_then (blind_blk (blind_then (blind_body _ _))))))) rfl (by kernel_rfl) rfl rfl rfl (fun _ => R.lss rfl rfl rfl) (WA.pure (i := 9) #[true, true, true, true, true, true, true, true, true, true, false, false, false, false, false, false, false, false, false, false] (blind_then (blind_blk (blind_then (blind_then (blind_blk (blind_then (blind_body _ _))))))) rfl (by kernel_rfl) rfl rfl rfl (fun _ => R.move rfl rfl) ?_))
  refine WA.split (d := 73) rfl (fun hc14 => ?_) (fun hc14 => ?_)
  replace hc14 := of_decide_eq_true hc14
  refine WA.off (i := 10) #[true, true, true, true, true, true, true, true, true, true, true, false, false, false, false, false, false, false, false, false] (blind_then (blind_blk (blind_then (blind_then (blind_blk (blind_then (blind_body _ _))))))) rfl (by kernel_rfl) rfl rfl rfl (WA.off (i := 11) #[true, true, true, true, true, true, true, true, true, true, true, true, false, false, false, false, false, false, false, false] (blind_then (blind_blk (blind_then (blind_then (blind_blk (blind_then (blind_body _ _))))))) rfl (by kernel_rfl) rfl rfl rfl (WA.off (i := 12) #[true, true, true, true, true, true, true, true, true, true, true, true, true, false, false, false, false, false, false, false] (blind_then (blind_blk (blind_then (blind_then (blind_blk (blind_then (blind_body _ _))))))) rfl (by kernel_rfl) rfl rfl rfl (WA.off (i := 13) #[true, true, true, true, true, true, true, true, true, true, true, true, true, true, false, false, false, false, false, false] (blind_then (blind_blk (blind_then (blind_then (blind_blk (blind_then (blind_body _ _))))))) rfl (by kernel_rfl) rfl rfl rfl (WA.off (i := 14) #[true, true, true, true, true, true, true, true, true, true, true, true, true, true, true, false, false, false, false, false] (blind_then (blind_blk (blind_then (blind_then (blind_blk (blind_then (blind_body _ _))))))) rfl (by kernel_rfl) rfl rfl rfl (WA.off (i := 15) #[true, true, true, true, true, true, true, true, true, true, true, true, true, true, true, true, false, false, false, false] (blind_then (blind_blk (blind_then (blind_then (blind_blk (blind_then (blind_body _ _))))))) rfl (by kernel_rfl) rfl rfl rfl (WA.off (i := 16) #[true, true, true, true, true, true, true, true, true, true, true, true, true, true, true, true, true, false, false, false] (blind_then (blind_blk (blind_then (blind_then (blind_blk (blind_then (blind_body _ _))))))) rfl (by kernel_rfl) rfl rfl rfl (WA.off (i := 17) #[true, true, true, true, true, true, true, true, true, true, true, true, true, true, true, true, true, true, false, false] (blind_then (blind_blk (blind_then (blind_then (blind_blk (blind_then (blind_body _ _))))))) rfl (by kernel_rfl) rfl rfl rfl ?_)))))))
  refine WA.off (i := 18) #[true, true, true, true, true, true, true, true, true, true, true, true, true, true, true, true, true, true, true, false] (blind_then (blind_blk (blind_then (blind_then (blind_blk (blind_then (blind_body _ _))))))) rfl (by kernel_rfl) rfl rfl rfl (WA.pure (i := 19) #[true, true, true, true, true, true, true, true, true, true, true, true, true, true, true, true, true, true, true, true] (blind_then (blind_blk (blind_then (blind_then (blind_blk (blind_then (blind_body _ _))))))) rfl (by kernel_rfl) rfl rfl rfl (fun _ => R.pick_t rfl rfl rfl) (WA.done (by kernel_rfl) (EX.then_n (CW.cond_t rfl (CW.seq (CW.region rfl (W.val rfl rfl rfl (R.assign rfl rfl) ?_)))))))
  refine W.nil (EX.then_n (CW.ret (EX.blk_ret (EX.then_ret (EX.then_ret (EX.blk_ret (EX.then_ret ?_)))))))
  refine EX.ret1 Try.results75 rfl ?_
  have hH39 := hH38.f4
  have hH40 := hH39.upto1
  refine ⟨?_, hH40⟩
  rw [checkE_32 (by omega) (by omega) (fun h => by
    have h3 := chk_at hv (by omega) (by omega) (by omega) hy6 h.1 h.2.1
    have h70 := h3.2.1 _ hy7
    omega)]
  replace hc14 := of_decide_eq_false hc14
  refine WA.pure (i := 10) #[true, true, true, true, true, true, true, true, true, true, true, false, false, false, false, false, false, false, false, false] (blind_then (blind_blk (blind_then (blind_then (blind_blk (blind_then (blind_body _ _))))))) rfl (by kernel_rfl) rfl rfl rfl (fun _ => R.move rfl rfl) (WA.pure (i := 11) #[true, true, true, true, true, true, true, true, true, true, true, true, false, false, false, false, false, false, false, false] (blind_then (blind_blk (blind_then (blind_then (blind_blk (blind_then (blind_body _ _))))))) rfl (by kernel_rfl) rfl rfl rfl (fun _ => R.move rfl rfl) ?_)
  refine WA.indexOwn (i := 12) #[true, true, true, true, true, true, true, true, true, true, true, true, true, false, false, false, false, false, false, false] (blind_then (blind_blk (blind_then (blind_then (blind_blk (blind_then (blind_body _ _))))))) rfl (by kernel_rfl) rfl rfl rfl rfl rfl rfl Try.underlying47 Try.sz3 hO01 (by omega) (by omega) rfl (fun q8 cs8 y8 hy8 hK16 hat8 hq8 => ?_)
  try simp only [Int.toNat_natCast, Int.reduceToNat] at hy8
  have hK17 := hK16
  obtain ⟨rfl, hb33, hb34⟩ := hK17
  refine WA.take (i := 13) #[true, true, true, true, true, true, true, true, true, true, true, true, true, true, false, false, false, false, false, false] (blind_then (blind_blk (blind_then (blind_then (blind_blk (blind_then (blind_body _ _))))))) rfl (by kernel_rfl) rfl rfl rfl (fun _ hw => R.load rfl rfl Try.pl3 (cellz_le hw.1 (at0 hat8 rfl))) ⟨hH38.sub _ m0, hH38.sub _ m2, hH38.sub _ m1, trivial⟩ (WA.pure (i := 14) #[true, true, true, true, true, true, true, true, true, true, true, true, true, true, true, false, false, false, false, false] (blind_then (blind_blk (blind_then (blind_then (blind_blk (blind_then (blind_body _ _))))))) rfl (by kernel_rfl) rfl rfl rfl (fun _ => R.move rfl rfl) (WA.pure (i := 15) #[true, true, true, true, true, true, true, true, true, true, true, true, true, true, true, true, false, false, false, false] (blind_then (blind_blk (blind_then (blind_then (blind_blk (blind_then (blind_body _ _))))))) rfl (by kernel_rfl) rfl rfl rfl (fun _ => R.move rfl rfl) ?_))
  refine WA.indexOwn (i := 16) #[true, true, true, true, true, true, true, true, true, true, true, true, true, true, true, true, true, false, false, false] (blind_then (blind_blk (blind_then (blind_then (blind_blk (blind_then (blind_body _ _))))))) rfl (by kernel_rfl) rfl rfl rfl rfl rfl rfl Try.underlying47 Try.sz3 hO2 (by omega) (by omega) rfl (fun q9 cs9 y9 hy9 hK18 hat9 hq9 => ?_)
  try simp only [Int.toNat_natCast, Int.reduceToNat] at hy9
  have hK19 := hK18
  obtain ⟨rfl, hb35, hb36⟩ := hK19
  refine WA.take (i := 17) #[true, true, true, true, true, true, true, true, true, true, true, true, true, true, true, true, true, true, false, false] (blind_then (blind_blk (blind_then (blind_then (blind_blk (blind_then (blind_body _ _))))))) rfl (by kernel_rfl) rfl rfl rfl (fun _ hw => R.load rfl rfl Try.pl3 (cellz_le hw.2.2.1 (at0 hat9 rfl))) ⟨hH38.sub _ m0, hH38.sub _ m2, hH38.sub _ m1, trivial⟩ (WA.pure (i := 18) #[true, true, true, true, true, true, true, true, true, true, true, true, true, true, true, true, true, true, true, false] (blind_then (blind_blk (blind_then (blind_then (blind_blk (blind_then (blind_body _ _))))))) rfl (by kernel_rfl) rfl rfl rfl (fun _ => R.gtr rfl rfl rfl) (WA.pure (i := 19) #[true, true, true, true, true, true, true, true, true, true, true, true, true, true, true, true, true, true, true, true] (blind_then (blind_blk (blind_then (blind_then (blind_blk (blind_then (blind_body _ _))))))) rfl (by kernel_rfl) rfl rfl rfl (fun _ => R.pick_f rfl rfl rfl) (WA.done (by kernel_rfl) (EX.then_n ?_))))
  refine CW.cond rfl (fun hc15 => ?_) (fun hc15 => ?_)
  replace hc15 := of_decide_eq_true hc15
  refine CW.seq (CW.region rfl (W.val rfl rfl rfl (R.assign rfl rfl) (W.nil (EX.then_n (CW.ret (EX.blk_ret (EX.then_ret ?_)))))))
  refine EX.then_ret (EX.blk_ret (EX.then_ret (EX.ret1 Try.results75 rfl ?_)))
  have hH41 := hH38.f4
  have hH42 := hH41.upto1
  refine ⟨?_, hH42⟩
  rw [checkE_32 (by omega) (by omega) (fun h => by
    have h3 := chk_at hv (by omega) (by omega) (by omega) hy6 h.1 h.2.1
    have h70 := h3.2.1 _ hy7
    have h80 := h3.2.2 _ hy9
    have q7 := Option.some.inj (hy8.symm.trans hy6)
    omega)]
  replace hc15 := of_decide_eq_false hc15
  refine CW.skip (EX.blk_n (EX.then_n (CW.region rfl (W.val rfl rfl rfl (R.move rfl rfl) (W.val rfl rfl rfl (R.addx rfl rfl rfl (ok_i64 (by omega))) (W.val rfl rfl rfl (R.assign rfl rfl) (W.nil ?_)))))))
  have hH43 := hH38.f4
  have hH44 := hH43.f4
  have hH45 := hH44.f4
  have hH46 := hH45.f4
  have hH47 := hH46.f4
  have hH48 := hH47.upto5
  have q76 := Option.some.inj (hy8.symm.trans hy6)
  have q66 := hy6
  have q70 := hy7
  have q80 := hy9
  refine EX.back4 _ _ rfl ?_ (by rw [hI1]; exact ⟨k + 1, rfl, rfl, hH48, by omega, (fun j y l h h1 h2 e1 e2 e3 => by
    rcases Nat.lt_or_ge j k with hlt | hge
    · exact hok j y l h h1 hlt e1 e2 e3
    · obtain rfl : j = k := by omega
      have r1 := Option.some.inj (e1.symm.trans q66)
      have r2 := Option.some.inj (e2.symm.trans q70)
      have r3 := Option.some.inj (e3.symm.trans q80)
      refine ⟨by omega, fun hh => by omega⟩)⟩) ?_
  exact ⟨lk_int rfl (by first | rfl | omega), trivial⟩
  omega
  replace hc9 := of_decide_eq_false hc9
  refine CW.exit (EX.then_exit (EX.then_exit (EX.blk_here (EX.then_n (CW.seq (CW.seq (CW.region rfl ?_)))))))
  obtain rfl : k = 11 := by omega
  have hall := chk_all hv (fun j y l h h1 h2 => hok j y l h h1 (by omega))
  refine W.val rfl rfl rfl (R.move rfl rfl) (W.val rfl rfl rfl (R.lss rfl rfl rfl) (W.val rfl rfl rfl (R.move rfl rfl) ?_))
  refine W.split (d := 86) rfl (fun hc16 => ?_) (fun hc16 => ?_)
  replace hc16 := of_decide_eq_true hc16
  refine W.val rfl rfl rfl (R.fa0 7 rfl rfl Try.underlying117 rfl Try.sz9 rfl) (W.ldk rfl rfl rfl rfl rfl Try.pl9 hH22 m3 hB1 rfl (W.val rfl rfl rfl (R.sneq rfl rfl rfl) (W.val rfl rfl rfl (R.pick_t rfl rfl rfl) (W.val rfl rfl rfl (R.move rfl rfl) ?_))))
  refine W.split (d := 91) rfl (fun hc17 => ?_) (fun hc17 => ?_)
  replace hc17 := of_ndec_t hc17
  refine W.off rfl rfl rfl (W.off rfl rfl rfl (W.off rfl rfl rfl (W.off rfl rfl rfl (W.off rfl rfl rfl (W.off rfl rfl rfl (W.off rfl rfl rfl (W.val rfl rfl rfl (R.pick_t rfl rfl rfl) ?_)))))))
  refine W.nil (EX.then_n (CW.cond_t rfl (CW.seq (CW.region rfl (W.val rfl rfl rfl (R.assign rfl rfl) (W.nil (EX.then_n ?_)))))))
  refine CW.ret (EX.then_ret (EX.ret1 Try.results75 rfl ?_))
  have hH49 := hH22.f4
  have hH50 := hH49.upto1
  refine ⟨?_, hH50⟩
  rw [checkE_32 (by omega) (by omega) (fun h => by
    first
    | omega
    | (have h3 := (h.2.1 (by omega)).2
       exact absurd (nil_size h3) (by assumption)))]
  replace hc17 := of_ndec_f hc17
  refine W.val rfl rfl rfl (R.move rfl rfl) (W.val rfl rfl rfl (R.lss rfl rfl rfl) (W.val rfl rfl rfl (R.move rfl rfl) ?_))
  refine W.split (d := 94) rfl (fun hc18 => ?_) (fun hc18 => ?_)
  replace hc18 := of_decide_eq_true hc18
  refine W.val rfl rfl rfl (R.fa0 9 rfl rfl Try.underlying117 rfl Try.sz9 rfl) (W.ldk rfl rfl rfl rfl rfl Try.pl9 hH22 m3 hB1 rfl (W.val rfl rfl rfl (R.sneq rfl rfl rfl) (W.val rfl rfl rfl (R.pick_t rfl rfl rfl) (W.val rfl rfl rfl (R.pick_f rfl rfl rfl) (W.nil (EX.then_n ?_))))))
  refine CW.cond rfl (fun hc19 => ?_) (fun hc19 => ?_)
  replace hc19 := of_ndec_t hc19
  refine CW.seq (CW.region rfl (W.val rfl rfl rfl (R.assign rfl rfl) (W.nil (EX.then_n (CW.ret (EX.then_ret (EX.ret1 Try.results75 rfl ?_)))))))
  have hH51 := hH22.f4
  have hH52 := hH51.upto1
  refine ⟨?_, hH52⟩
  rw [checkE_32 (by omega) (by omega) (fun h => by
    first
    | omega
    | (have h3 := (h.2.1 (by omega)).2
       exact absurd (nil_size h3) (by assumption)))]
  replace hc19 := of_ndec_f hc19
  refine CW.skip (EX.then_n (CW.seq (CW.seq (CW.region rfl (W.val rfl rfl rfl (R.assign rfl rfl) (W.nil (EX.then_n ?_)))))))
  refine CW.block ?_
  have hH53 := hH22.f4
  have hH54 := hH53.f4
  have hH55 := hH54.f4
  have hH56 := hH55.f4
  have hH57 := hH56.f4
  obtain ⟨I2, hI2⟩ : ∃ I : Nat → List (Nat × Value) → World → Prop, I = (fun n_ D_ w_ => ∃ (k2 : Nat), D_ = [(9, .int .i64 (k2 : Int))] ∧ n_ = e.Who.size - k2 ∧ Has w0 w_ [z01, zb3, zb2, zb1, (hp w0)] ∧ (k2 ≤ e.Who.size) ∧ (whoB e.Who.data.toList = whoB (e.Who.data.toList.drop k2))) := ⟨_, rfl⟩
  refine CW.loop3 [4, 9, 10, 100, 101, 102, 103, 104, 105, 106, 107, 108, 109, 110, 111, 112, 113, 114, 115, 116, 117, 118, 119, 120, 121, 122, 123, 124, 125, 126, 127, 128, 129] I2 _ _ ?_ (by rw [hI2]; exact ⟨0, rfl, rfl, hH57, by omega, rfl⟩) ?_
  exact ⟨lk_int rfl (by first | rfl | omega), trivial⟩
  intro n2 D w8 hn2
  rw [hI2] at hn2
  obtain ⟨k2, rfl, hme2, hH58, hk2, he⟩ := hn2
  refine CW.seq (CW.seq (CW.region rfl (W.val rfl rfl rfl (R.move rfl rfl) (W.val rfl rfl rfl (R.fa0 7 rfl rfl Try.underlying117 rfl Try.sz9 rfl) (W.ldk rfl rfl rfl rfl rfl Try.pl9 hH58 m3 hB1 rfl (W.val rfl rfl rfl (R.len_string rfl rfl Try.underlying9) (W.val rfl rfl rfl (R.lss rfl rfl rfl) ?_)))))))
  refine W.nil (EX.then_n ?_)
  refine CW.cond rfl (fun hc20 => ?_) (fun hc20 => ?_)
  replace hc20 := of_decide_eq_true hc20
  refine CW.skip (EX.then_n (CW.seq (CW.block (CW.seq (CW.region rfl (W.val rfl rfl rfl (R.fa0 7 rfl rfl Try.underlying117 rfl Try.sz9 rfl) (W.ldk rfl rfl rfl rfl rfl Try.pl9 hH58 m3 hB1 rfl ?_)))))))
  refine W.val rfl rfl rfl (R.move rfl rfl) ?_
  obtain ⟨y10, hy10⟩ : ∃ y, e.Who.data.toList[k2]? = some y := ⟨_, List.getElem?_eq_getElem (by rw [show e.Who.data.toList.length = e.Who.size by simp]; omega)⟩
  have hlt1 := y10.toNat_lt
  refine W.val rfl rfl rfl (R.indexS rfl rfl rfl Try.underlying9 (by omega) (by first | exact hy10 | (simp only [Int.toNat_natCast]; exact hy10))) (W.val rfl rfl rfl (R.assign rfl rfl) (W.nil (EX.then_n (CW.seq (CW.region rfl (W.val rfl rfl rfl (R.move rfl rfl) (W.val rfl rfl rfl (R.eql rfl rfl rfl) ?_)))))))
  refine W.val rfl rfl rfl (R.move rfl rfl) ?_
  refine W.split (d := 113) rfl (fun hc21 => ?_) (fun hc21 => ?_)
  replace hc21 := of_decide_eq_true hc21
  refine W.off rfl rfl rfl (W.off rfl rfl rfl (W.off rfl rfl rfl (W.off rfl rfl rfl (W.off rfl rfl rfl (W.off rfl rfl rfl (W.val rfl rfl rfl (R.pick_t rfl rfl rfl) (W.val rfl rfl rfl (R.move rfl rfl) ?_)))))))
  refine W.off rfl rfl rfl (W.off rfl rfl rfl (W.off rfl rfl rfl (W.off rfl rfl rfl (W.off rfl rfl rfl (W.off rfl rfl rfl (W.val rfl rfl rfl (R.pick_t rfl rfl rfl) (W.val rfl rfl rfl (R.not rfl rfl) ?_)))))))
  refine W.nil (EX.then_n (CW.cond_f rfl (CW.skip (EX.blk_n (EX.then_n (CW.region rfl (W.val rfl rfl rfl (R.move rfl rfl) ?_)))))))
  refine W.val rfl rfl rfl (R.addx rfl rfl rfl (ok_i64 (by omega))) (W.val rfl rfl rfl (R.assign rfl rfl) (W.nil ?_))
  have hH59 := hH58.f4
  have hH60 := hH59.f4
  have hH61 := hH60.f4
  have hH62 := hH61.f4
  have hH63 := hH62.f4
  have hH64 := hH63.upto5
  refine EX.back4 _ _ rfl ?_ (by rw [hI2]; exact ⟨k2 + 1, rfl, rfl, hH64, by omega, he.trans (by rw [whoB_drop hy10, decide_eq_true (by omega), Bool.true_and])⟩) ?_
  exact ⟨lk_int rfl (by first | rfl | omega), trivial⟩
  omega
  replace hc21 := of_decide_eq_false hc21
  refine W.val rfl rfl rfl (R.move rfl rfl) (W.val rfl rfl rfl (R.geq rfl rfl rfl) (W.val rfl rfl rfl (R.move rfl rfl) ?_))
  refine W.split (d := 116) rfl (fun hc22 => ?_) (fun hc22 => ?_)
  replace hc22 := of_decide_eq_true hc22
  refine W.val rfl rfl rfl (R.move rfl rfl) (W.val rfl rfl rfl (R.leq rfl rfl rfl) (W.val rfl rfl rfl (R.pick_t rfl rfl rfl) (W.val rfl rfl rfl (R.pick_f rfl rfl rfl) (W.val rfl rfl rfl (R.move rfl rfl) ?_))))
  refine W.split (d := 121) rfl (fun hc23 => ?_) (fun hc23 => ?_)
  replace hc23 := of_decide_eq_true hc23
  refine W.off rfl rfl rfl (W.off rfl rfl rfl (W.off rfl rfl rfl (W.off rfl rfl rfl (W.off rfl rfl rfl (W.off rfl rfl rfl (W.val rfl rfl rfl (R.pick_t rfl rfl rfl) (W.val rfl rfl rfl (R.not rfl rfl) ?_)))))))
  refine W.nil (EX.then_n (CW.cond_f rfl (CW.skip (EX.blk_n (EX.then_n (CW.region rfl (W.val rfl rfl rfl (R.move rfl rfl) ?_)))))))
  refine W.val rfl rfl rfl (R.addx rfl rfl rfl (ok_i64 (by omega))) (W.val rfl rfl rfl (R.assign rfl rfl) (W.nil ?_))
  have hH65 := hH58.f4
  have hH66 := hH65.f4
  have hH67 := hH66.f4
  have hH68 := hH67.f4
  have hH69 := hH68.f4
  have hH70 := hH69.upto5
  refine EX.back4 _ _ rfl ?_ (by rw [hI2]; exact ⟨k2 + 1, rfl, rfl, hH70, by omega, he.trans (by rw [whoB_drop hy10, decide_eq_true (by omega), Bool.true_and])⟩) ?_
  exact ⟨lk_int rfl (by first | rfl | omega), trivial⟩
  omega
  replace hc23 := of_decide_eq_false hc23
  refine W.val rfl rfl rfl (R.move rfl rfl) (W.val rfl rfl rfl (R.geq rfl rfl rfl) (W.val rfl rfl rfl (R.move rfl rfl) ?_))
  refine W.split (d := 124) rfl (fun hc24 => ?_) (fun hc24 => ?_)
  replace hc24 := of_decide_eq_true hc24
  refine W.val rfl rfl rfl (R.move rfl rfl) (W.val rfl rfl rfl (R.leq rfl rfl rfl) (W.val rfl rfl rfl (R.pick_t rfl rfl rfl) (W.val rfl rfl rfl (R.pick_f rfl rfl rfl) (W.val rfl rfl rfl (R.not rfl rfl) (W.nil (EX.then_n ?_))))))
  refine CW.cond rfl (fun hc25 => ?_) (fun hc25 => ?_)
  replace hc25 := of_not_t hc25
  replace hc25 := of_decide_eq_false hc25
  refine CW.seq (CW.region rfl (W.val rfl rfl rfl (R.assign rfl rfl) (W.nil (EX.then_n (CW.ret (EX.blk_ret (EX.then_ret ?_)))))))
  refine EX.then_ret (EX.blk_ret (EX.then_ret (EX.ret1 Try.results75 rfl ?_)))
  have hH71 := hH58.f4
  have hH72 := hH71.upto1
  refine ⟨?_, hH72⟩
  rw [checkE_32 (by omega) (by omega) (fun h => by
    have h3 := h.2.2
    rw [he, whoB_drop hy10, decide_eq_false (by omega), Bool.false_and] at h3
    cases h3)]
  replace hc25 := of_not_f hc25
  replace hc25 := of_decide_eq_true hc25
  refine CW.skip (EX.blk_n (EX.then_n (CW.region rfl (W.val rfl rfl rfl (R.move rfl rfl) (W.val rfl rfl rfl (R.addx rfl rfl rfl (ok_i64 (by omega))) (W.val rfl rfl rfl (R.assign rfl rfl) (W.nil ?_)))))))
  have hH73 := hH58.f4
  have hH74 := hH73.f4
  have hH75 := hH74.f4
  have hH76 := hH75.f4
  have hH77 := hH76.f4
  have hH78 := hH77.upto5
  refine EX.back4 _ _ rfl ?_ (by rw [hI2]; exact ⟨k2 + 1, rfl, rfl, hH78, by omega, he.trans (by rw [whoB_drop hy10, decide_eq_true (by omega), Bool.true_and])⟩) ?_
  exact ⟨lk_int rfl (by first | rfl | omega), trivial⟩
  omega
  replace hc24 := of_decide_eq_false hc24
  refine W.off rfl rfl rfl (W.off rfl rfl rfl (W.val rfl rfl rfl (R.pick_f rfl rfl rfl) (W.val rfl rfl rfl (R.pick_f rfl rfl rfl) (W.val rfl rfl rfl (R.not rfl rfl) (W.nil (EX.then_n (CW.cond_t rfl ?_)))))))
  refine CW.seq (CW.region rfl (W.val rfl rfl rfl (R.assign rfl rfl) (W.nil (EX.then_n (CW.ret (EX.blk_ret (EX.then_ret ?_)))))))
  refine EX.then_ret (EX.blk_ret (EX.then_ret (EX.ret1 Try.results75 rfl ?_)))
  have hH79 := hH58.f4
  have hH80 := hH79.upto1
  refine ⟨?_, hH80⟩
  rw [checkE_32 (by omega) (by omega) (fun h => by
    have h3 := h.2.2
    rw [he, whoB_drop hy10, decide_eq_false (by omega), Bool.false_and] at h3
    cases h3)]
  replace hc22 := of_decide_eq_false hc22
  refine W.off rfl rfl rfl (W.off rfl rfl rfl (W.val rfl rfl rfl (R.pick_f rfl rfl rfl) (W.val rfl rfl rfl (R.pick_f rfl rfl rfl) (W.val rfl rfl rfl (R.move rfl rfl) (W.val rfl rfl rfl (R.move rfl rfl) (W.val rfl rfl rfl (R.geq rfl rfl rfl) (W.val rfl rfl rfl (R.move rfl rfl) ?_)))))))
  refine W.split (d := 124) rfl (fun hc26 => ?_) (fun hc26 => ?_)
  replace hc26 := of_decide_eq_true hc26
  refine W.val rfl rfl rfl (R.move rfl rfl) (W.val rfl rfl rfl (R.leq rfl rfl rfl) (W.val rfl rfl rfl (R.pick_t rfl rfl rfl) (W.val rfl rfl rfl (R.pick_f rfl rfl rfl) (W.val rfl rfl rfl (R.not rfl rfl) (W.nil (EX.then_n ?_))))))
  refine CW.cond rfl (fun hc27 => ?_) (fun hc27 => ?_)
  replace hc27 := of_not_t hc27
  replace hc27 := of_decide_eq_false hc27
  refine CW.seq (CW.region rfl (W.val rfl rfl rfl (R.assign rfl rfl) (W.nil (EX.then_n (CW.ret (EX.blk_ret (EX.then_ret ?_)))))))
  refine EX.then_ret (EX.blk_ret (EX.then_ret (EX.ret1 Try.results75 rfl ?_)))
  have hH81 := hH58.f4
  have hH82 := hH81.upto1
  refine ⟨?_, hH82⟩
  rw [checkE_32 (by omega) (by omega) (fun h => by
    have h3 := h.2.2
    rw [he, whoB_drop hy10, decide_eq_false (by omega), Bool.false_and] at h3
    cases h3)]
  replace hc27 := of_not_f hc27
  replace hc27 := of_decide_eq_true hc27
  refine CW.skip (EX.blk_n (EX.then_n (CW.region rfl (W.val rfl rfl rfl (R.move rfl rfl) (W.val rfl rfl rfl (R.addx rfl rfl rfl (ok_i64 (by omega))) (W.val rfl rfl rfl (R.assign rfl rfl) (W.nil ?_)))))))
  have hH83 := hH58.f4
  have hH84 := hH83.f4
  have hH85 := hH84.f4
  have hH86 := hH85.f4
  have hH87 := hH86.f4
  have hH88 := hH87.upto5
  refine EX.back4 _ _ rfl ?_ (by rw [hI2]; exact ⟨k2 + 1, rfl, rfl, hH88, by omega, he.trans (by rw [whoB_drop hy10, decide_eq_true (by omega), Bool.true_and])⟩) ?_
  exact ⟨lk_int rfl (by first | rfl | omega), trivial⟩
  omega
  replace hc26 := of_decide_eq_false hc26
  refine W.off rfl rfl rfl (W.off rfl rfl rfl (W.val rfl rfl rfl (R.pick_f rfl rfl rfl) (W.val rfl rfl rfl (R.pick_f rfl rfl rfl) (W.val rfl rfl rfl (R.not rfl rfl) (W.nil (EX.then_n (CW.cond_t rfl ?_)))))))
  refine CW.seq (CW.region rfl (W.val rfl rfl rfl (R.assign rfl rfl) (W.nil (EX.then_n (CW.ret (EX.blk_ret (EX.then_ret ?_)))))))
  refine EX.then_ret (EX.blk_ret (EX.then_ret (EX.ret1 Try.results75 rfl ?_)))
  have hH89 := hH58.f4
  have hH90 := hH89.upto1
  refine ⟨?_, hH90⟩
  rw [checkE_32 (by omega) (by omega) (fun h => by
    have h3 := h.2.2
    rw [he, whoB_drop hy10, decide_eq_false (by omega), Bool.false_and] at h3
    cases h3)]
  replace hc20 := of_decide_eq_false hc20
  refine CW.exit (EX.then_exit (EX.then_exit (EX.blk_here (EX.then_n (CW.seq (CW.region rfl (W.val rfl rfl rfl (R.assign rfl rfl) ?_)))))))
  refine W.nil (EX.then_n (CW.ret (EX.ret1 Try.results75 rfl ?_)))
  have hH91 := hH58.f4
  have hH92 := hH91.upto1
  refine ⟨?_, hH92⟩
  obtain rfl : k2 = e.Who.size := by omega
  rw [checkE_0 (by omega) (by omega) hall.1 (fun h => ⟨hall.2 h, (by first | omega | exact size_nil (by assumption) | (exfalso; omega))⟩) (he.trans (by rw [List.drop_of_length_le (by simp)]; rfl))]
  replace hc18 := of_decide_eq_false hc18
  refine W.off rfl rfl rfl (W.off rfl rfl rfl (W.off rfl rfl rfl (W.val rfl rfl rfl (R.pick_f rfl rfl rfl) (W.val rfl rfl rfl (R.pick_f rfl rfl rfl) (W.nil (EX.then_n (CW.cond_f rfl ?_)))))))
  refine CW.skip (EX.then_n (CW.seq (CW.seq (CW.region rfl (W.val rfl rfl rfl (R.assign rfl rfl) (W.nil (EX.then_n ?_)))))))
  refine CW.block ?_
  have hH93 := hH22.f4
  have hH94 := hH93.f4
  have hH95 := hH94.f4
  have hH96 := hH95.f4
  have hH97 := hH96.f4
  obtain ⟨I3, hI3⟩ : ∃ I : Nat → List (Nat × Value) → World → Prop, I = (fun n_ D_ w_ => ∃ (k2 : Nat), D_ = [(9, .int .i64 (k2 : Int))] ∧ n_ = e.Who.size - k2 ∧ Has w0 w_ [z01, zb3, zb2, zb1, (hp w0)] ∧ (k2 ≤ e.Who.size) ∧ (whoB e.Who.data.toList = whoB (e.Who.data.toList.drop k2))) := ⟨_, rfl⟩
  refine CW.loop3 [4, 9, 10, 100, 101, 102, 103, 104, 105, 106, 107, 108, 109, 110, 111, 112, 113, 114, 115, 116, 117, 118, 119, 120, 121, 122, 123, 124, 125, 126, 127, 128, 129] I3 _ _ ?_ (by rw [hI3]; exact ⟨0, rfl, rfl, hH97, by omega, rfl⟩) ?_
  exact ⟨lk_int rfl (by first | rfl | omega), trivial⟩
  intro n3 D w9 hn3
  rw [hI3] at hn3
  obtain ⟨k2, rfl, hme3, hH98, hk2, he⟩ := hn3
  refine CW.seq (CW.seq (CW.region rfl (W.val rfl rfl rfl (R.move rfl rfl) (W.val rfl rfl rfl (R.fa0 7 rfl rfl Try.underlying117 rfl Try.sz9 rfl) (W.ldk rfl rfl rfl rfl rfl Try.pl9 hH98 m3 hB1 rfl (W.val rfl rfl rfl (R.len_string rfl rfl Try.underlying9) (W.val rfl rfl rfl (R.lss rfl rfl rfl) ?_)))))))
  refine W.nil (EX.then_n ?_)
  refine CW.cond rfl (fun hc28 => ?_) (fun hc28 => ?_)
  replace hc28 := of_decide_eq_true hc28
  refine CW.skip (EX.then_n (CW.seq (CW.block (CW.seq (CW.region rfl (W.val rfl rfl rfl (R.fa0 7 rfl rfl Try.underlying117 rfl Try.sz9 rfl) (W.ldk rfl rfl rfl rfl rfl Try.pl9 hH98 m3 hB1 rfl ?_)))))))
  refine W.val rfl rfl rfl (R.move rfl rfl) ?_
  obtain ⟨y11, hy11⟩ : ∃ y, e.Who.data.toList[k2]? = some y := ⟨_, List.getElem?_eq_getElem (by rw [show e.Who.data.toList.length = e.Who.size by simp]; omega)⟩
  have hlt2 := y11.toNat_lt
  refine W.val rfl rfl rfl (R.indexS rfl rfl rfl Try.underlying9 (by omega) (by first | exact hy11 | (simp only [Int.toNat_natCast]; exact hy11))) (W.val rfl rfl rfl (R.assign rfl rfl) (W.nil (EX.then_n (CW.seq (CW.region rfl (W.val rfl rfl rfl (R.move rfl rfl) (W.val rfl rfl rfl (R.eql rfl rfl rfl) ?_)))))))
  refine W.val rfl rfl rfl (R.move rfl rfl) ?_
  refine W.split (d := 113) rfl (fun hc29 => ?_) (fun hc29 => ?_)
  replace hc29 := of_decide_eq_true hc29
  refine W.off rfl rfl rfl (W.off rfl rfl rfl (W.off rfl rfl rfl (W.off rfl rfl rfl (W.off rfl rfl rfl (W.off rfl rfl rfl (W.val rfl rfl rfl (R.pick_t rfl rfl rfl) (W.val rfl rfl rfl (R.move rfl rfl) ?_)))))))
  refine W.off rfl rfl rfl (W.off rfl rfl rfl (W.off rfl rfl rfl (W.off rfl rfl rfl (W.off rfl rfl rfl (W.off rfl rfl rfl (W.val rfl rfl rfl (R.pick_t rfl rfl rfl) (W.val rfl rfl rfl (R.not rfl rfl) ?_)))))))
  refine W.nil (EX.then_n (CW.cond_f rfl (CW.skip (EX.blk_n (EX.then_n (CW.region rfl (W.val rfl rfl rfl (R.move rfl rfl) ?_)))))))
  refine W.val rfl rfl rfl (R.addx rfl rfl rfl (ok_i64 (by omega))) (W.val rfl rfl rfl (R.assign rfl rfl) (W.nil ?_))
  have hH99 := hH98.f4
  have hH100 := hH99.f4
  have hH101 := hH100.f4
  have hH102 := hH101.f4
  have hH103 := hH102.f4
  have hH104 := hH103.upto5
  refine EX.back4 _ _ rfl ?_ (by rw [hI3]; exact ⟨k2 + 1, rfl, rfl, hH104, by omega, he.trans (by rw [whoB_drop hy11, decide_eq_true (by omega), Bool.true_and])⟩) ?_
  exact ⟨lk_int rfl (by first | rfl | omega), trivial⟩
  omega
  replace hc29 := of_decide_eq_false hc29
  refine W.val rfl rfl rfl (R.move rfl rfl) (W.val rfl rfl rfl (R.geq rfl rfl rfl) (W.val rfl rfl rfl (R.move rfl rfl) ?_))
  refine W.split (d := 116) rfl (fun hc30 => ?_) (fun hc30 => ?_)
  replace hc30 := of_decide_eq_true hc30
  refine W.val rfl rfl rfl (R.move rfl rfl) (W.val rfl rfl rfl (R.leq rfl rfl rfl) (W.val rfl rfl rfl (R.pick_t rfl rfl rfl) (W.val rfl rfl rfl (R.pick_f rfl rfl rfl) (W.val rfl rfl rfl (R.move rfl rfl) ?_))))
  refine W.split (d := 121) rfl (fun hc31 => ?_) (fun hc31 => ?_)
  replace hc31 := of_decide_eq_true hc31
  refine W.off rfl rfl rfl (W.off rfl rfl rfl (W.off rfl rfl rfl (W.off rfl rfl rfl (W.off rfl rfl rfl (W.off rfl rfl rfl (W.val rfl rfl rfl (R.pick_t rfl rfl rfl) (W.val rfl rfl rfl (R.not rfl rfl) ?_)))))))
  refine W.nil (EX.then_n (CW.cond_f rfl (CW.skip (EX.blk_n (EX.then_n (CW.region rfl (W.val rfl rfl rfl (R.move rfl rfl) ?_)))))))
  refine W.val rfl rfl rfl (R.addx rfl rfl rfl (ok_i64 (by omega))) (W.val rfl rfl rfl (R.assign rfl rfl) (W.nil ?_))
  have hH105 := hH98.f4
  have hH106 := hH105.f4
  have hH107 := hH106.f4
  have hH108 := hH107.f4
  have hH109 := hH108.f4
  have hH110 := hH109.upto5
  refine EX.back4 _ _ rfl ?_ (by rw [hI3]; exact ⟨k2 + 1, rfl, rfl, hH110, by omega, he.trans (by rw [whoB_drop hy11, decide_eq_true (by omega), Bool.true_and])⟩) ?_
  exact ⟨lk_int rfl (by first | rfl | omega), trivial⟩
  omega
  replace hc31 := of_decide_eq_false hc31
  refine W.val rfl rfl rfl (R.move rfl rfl) (W.val rfl rfl rfl (R.geq rfl rfl rfl) (W.val rfl rfl rfl (R.move rfl rfl) ?_))
  refine W.split (d := 124) rfl (fun hc32 => ?_) (fun hc32 => ?_)
  replace hc32 := of_decide_eq_true hc32
  refine W.val rfl rfl rfl (R.move rfl rfl) (W.val rfl rfl rfl (R.leq rfl rfl rfl) (W.val rfl rfl rfl (R.pick_t rfl rfl rfl) (W.val rfl rfl rfl (R.pick_f rfl rfl rfl) (W.val rfl rfl rfl (R.not rfl rfl) (W.nil (EX.then_n ?_))))))
  refine CW.cond rfl (fun hc33 => ?_) (fun hc33 => ?_)
  replace hc33 := of_not_t hc33
  replace hc33 := of_decide_eq_false hc33
  refine CW.seq (CW.region rfl (W.val rfl rfl rfl (R.assign rfl rfl) (W.nil (EX.then_n (CW.ret (EX.blk_ret (EX.then_ret ?_)))))))
  refine EX.then_ret (EX.blk_ret (EX.then_ret (EX.ret1 Try.results75 rfl ?_)))
  have hH111 := hH98.f4
  have hH112 := hH111.upto1
  refine ⟨?_, hH112⟩
  rw [checkE_32 (by omega) (by omega) (fun h => by
    have h3 := h.2.2
    rw [he, whoB_drop hy11, decide_eq_false (by omega), Bool.false_and] at h3
    cases h3)]
  replace hc33 := of_not_f hc33
  replace hc33 := of_decide_eq_true hc33
  refine CW.skip (EX.blk_n (EX.then_n (CW.region rfl (W.val rfl rfl rfl (R.move rfl rfl) (W.val rfl rfl rfl (R.addx rfl rfl rfl (ok_i64 (by omega))) (W.val rfl rfl rfl (R.assign rfl rfl) (W.nil ?_)))))))
  have hH113 := hH98.f4
  have hH114 := hH113.f4
  have hH115 := hH114.f4
  have hH116 := hH115.f4
  have hH117 := hH116.f4
  have hH118 := hH117.upto5
  refine EX.back4 _ _ rfl ?_ (by rw [hI3]; exact ⟨k2 + 1, rfl, rfl, hH118, by omega, he.trans (by rw [whoB_drop hy11, decide_eq_true (by omega), Bool.true_and])⟩) ?_
  exact ⟨lk_int rfl (by first | rfl | omega), trivial⟩
  omega
  replace hc32 := of_decide_eq_false hc32
  refine W.off rfl rfl rfl (W.off rfl rfl rfl (W.val rfl rfl rfl (R.pick_f rfl rfl rfl) (W.val rfl rfl rfl (R.pick_f rfl rfl rfl) (W.val rfl rfl rfl (R.not rfl rfl) (W.nil (EX.then_n (CW.cond_t rfl ?_)))))))
  refine CW.seq (CW.region rfl (W.val rfl rfl rfl (R.assign rfl rfl) (W.nil (EX.then_n (CW.ret (EX.blk_ret (EX.then_ret ?_)))))))
  refine EX.then_ret (EX.blk_ret (EX.then_ret (EX.ret1 Try.results75 rfl ?_)))
  have hH119 := hH98.f4
  have hH120 := hH119.upto1
  refine ⟨?_, hH120⟩
  rw [checkE_32 (by omega) (by omega) (fun h => by
    have h3 := h.2.2
    rw [he, whoB_drop hy11, decide_eq_false (by omega), Bool.false_and] at h3
    cases h3)]
  replace hc30 := of_decide_eq_false hc30
  refine W.off rfl rfl rfl (W.off rfl rfl rfl (W.val rfl rfl rfl (R.pick_f rfl rfl rfl) (W.val rfl rfl rfl (R.pick_f rfl rfl rfl) (W.val rfl rfl rfl (R.move rfl rfl) (W.val rfl rfl rfl (R.move rfl rfl) (W.val rfl rfl rfl (R.geq rfl rfl rfl) (W.val rfl rfl rfl (R.move rfl rfl) ?_)))))))
  refine W.split (d := 124) rfl (fun hc34 => ?_) (fun hc34 => ?_)
  replace hc34 := of_decide_eq_true hc34
  refine W.val rfl rfl rfl (R.move rfl rfl) (W.val rfl rfl rfl (R.leq rfl rfl rfl) (W.val rfl rfl rfl (R.pick_t rfl rfl rfl) (W.val rfl rfl rfl (R.pick_f rfl rfl rfl) (W.val rfl rfl rfl (R.not rfl rfl) (W.nil (EX.then_n ?_))))))
  refine CW.cond rfl (fun hc35 => ?_) (fun hc35 => ?_)
  replace hc35 := of_not_t hc35
  replace hc35 := of_decide_eq_false hc35
  refine CW.seq (CW.region rfl (W.val rfl rfl rfl (R.assign rfl rfl) (W.nil (EX.then_n (CW.ret (EX.blk_ret (EX.then_ret ?_)))))))
  refine EX.then_ret (EX.blk_ret (EX.then_ret (EX.ret1 Try.results75 rfl ?_)))
  have hH121 := hH98.f4
  have hH122 := hH121.upto1
  refine ⟨?_, hH122⟩
  rw [checkE_32 (by omega) (by omega) (fun h => by
    have h3 := h.2.2
    rw [he, whoB_drop hy11, decide_eq_false (by omega), Bool.false_and] at h3
    cases h3)]
  replace hc35 := of_not_f hc35
  replace hc35 := of_decide_eq_true hc35
  refine CW.skip (EX.blk_n (EX.then_n (CW.region rfl (W.val rfl rfl rfl (R.move rfl rfl) (W.val rfl rfl rfl (R.addx rfl rfl rfl (ok_i64 (by omega))) (W.val rfl rfl rfl (R.assign rfl rfl) (W.nil ?_)))))))
  have hH123 := hH98.f4
  have hH124 := hH123.f4
  have hH125 := hH124.f4
  have hH126 := hH125.f4
  have hH127 := hH126.f4
  have hH128 := hH127.upto5
  refine EX.back4 _ _ rfl ?_ (by rw [hI3]; exact ⟨k2 + 1, rfl, rfl, hH128, by omega, he.trans (by rw [whoB_drop hy11, decide_eq_true (by omega), Bool.true_and])⟩) ?_
  exact ⟨lk_int rfl (by first | rfl | omega), trivial⟩
  omega
  replace hc34 := of_decide_eq_false hc34
  refine W.off rfl rfl rfl (W.off rfl rfl rfl (W.val rfl rfl rfl (R.pick_f rfl rfl rfl) (W.val rfl rfl rfl (R.pick_f rfl rfl rfl) (W.val rfl rfl rfl (R.not rfl rfl) (W.nil (EX.then_n (CW.cond_t rfl ?_)))))))
  refine CW.seq (CW.region rfl (W.val rfl rfl rfl (R.assign rfl rfl) (W.nil (EX.then_n (CW.ret (EX.blk_ret (EX.then_ret ?_)))))))
  refine EX.then_ret (EX.blk_ret (EX.then_ret (EX.ret1 Try.results75 rfl ?_)))
  have hH129 := hH98.f4
  have hH130 := hH129.upto1
  refine ⟨?_, hH130⟩
  rw [checkE_32 (by omega) (by omega) (fun h => by
    have h3 := h.2.2
    rw [he, whoB_drop hy11, decide_eq_false (by omega), Bool.false_and] at h3
    cases h3)]
  replace hc28 := of_decide_eq_false hc28
  refine CW.exit (EX.then_exit (EX.then_exit (EX.blk_here (EX.then_n (CW.seq (CW.region rfl (W.val rfl rfl rfl (R.assign rfl rfl) ?_)))))))
  refine W.nil (EX.then_n (CW.ret (EX.ret1 Try.results75 rfl ?_)))
  have hH131 := hH98.f4
  have hH132 := hH131.upto1
  refine ⟨?_, hH132⟩
  obtain rfl : k2 = e.Who.size := by omega
  rw [checkE_0 (by omega) (by omega) hall.1 (fun h => ⟨hall.2 h, (by first | omega | exact size_nil (by assumption) | (exfalso; omega))⟩) (he.trans (by rw [List.drop_of_length_le (by simp)]; rfl))]
  replace hc16 := of_decide_eq_false hc16
  refine W.off rfl rfl rfl (W.off rfl rfl rfl (W.off rfl rfl rfl (W.val rfl rfl rfl (R.pick_f rfl rfl rfl) (W.val rfl rfl rfl (R.move rfl rfl) (W.val rfl rfl rfl (R.move rfl rfl) (W.val rfl rfl rfl (R.lss rfl rfl rfl) (W.val rfl rfl rfl (R.move rfl rfl) ?_)))))))
  refine W.split (d := 94) rfl (fun hc36 => ?_) (fun hc36 => ?_)
  replace hc36 := of_decide_eq_true hc36
  refine W.val rfl rfl rfl (R.fa0 9 rfl rfl Try.underlying117 rfl Try.sz9 rfl) (W.ldk rfl rfl rfl rfl rfl Try.pl9 hH22 m3 hB1 rfl (W.val rfl rfl rfl (R.sneq rfl rfl rfl) (W.val rfl rfl rfl (R.pick_t rfl rfl rfl) (W.val rfl rfl rfl (R.pick_f rfl rfl rfl) (W.nil (EX.then_n ?_))))))
  refine CW.cond rfl (fun hc37 => ?_) (fun hc37 => ?_)
  replace hc37 := of_ndec_t hc37
  refine CW.seq (CW.region rfl (W.val rfl rfl rfl (R.assign rfl rfl) (W.nil (EX.then_n (CW.ret (EX.then_ret (EX.ret1 Try.results75 rfl ?_)))))))
  have hH133 := hH22.f4
  have hH134 := hH133.upto1
  refine ⟨?_, hH134⟩
  rw [checkE_32 (by omega) (by omega) (fun h => by
    first
    | omega
    | (have h3 := (h.2.1 (by omega)).2
       exact absurd (nil_size h3) (by assumption)))]
  replace hc37 := of_ndec_f hc37
  refine CW.skip (EX.then_n (CW.seq (CW.seq (CW.region rfl (W.val rfl rfl rfl (R.assign rfl rfl) (W.nil (EX.then_n ?_)))))))
  refine CW.block ?_
  have hH135 := hH22.f4
  have hH136 := hH135.f4
  have hH137 := hH136.f4
  have hH138 := hH137.f4
  have hH139 := hH138.f4
  obtain ⟨I4, hI4⟩ : ∃ I : Nat → List (Nat × Value) → World → Prop, I = (fun n_ D_ w_ => ∃ (k2 : Nat), D_ = [(9, .int .i64 (k2 : Int))] ∧ n_ = e.Who.size - k2 ∧ Has w0 w_ [z01, zb3, zb2, zb1, (hp w0)] ∧ (k2 ≤ e.Who.size) ∧ (whoB e.Who.data.toList = whoB (e.Who.data.toList.drop k2))) := ⟨_, rfl⟩
  refine CW.loop3 [4, 9, 10, 100, 101, 102, 103, 104, 105, 106, 107, 108, 109, 110, 111, 112, 113, 114, 115, 116, 117, 118, 119, 120, 121, 122, 123, 124, 125, 126, 127, 128, 129] I4 _ _ ?_ (by rw [hI4]; exact ⟨0, rfl, rfl, hH139, by omega, rfl⟩) ?_
  exact ⟨lk_int rfl (by first | rfl | omega), trivial⟩
  intro n4 D w10 hn4
  rw [hI4] at hn4
  obtain ⟨k2, rfl, hme4, hH140, hk2, he⟩ := hn4
  refine CW.seq (CW.seq (CW.region rfl (W.val rfl rfl rfl (R.move rfl rfl) (W.val rfl rfl rfl (R.fa0 7 rfl rfl Try.underlying117 rfl Try.sz9 rfl) (W.ldk rfl rfl rfl rfl rfl Try.pl9 hH140 m3 hB1 rfl (W.val rfl rfl rfl (R.len_string rfl rfl Try.underlying9) (W.val rfl rfl rfl (R.lss rfl rfl rfl) ?_)))))))
  refine W.nil (EX.then_n ?_)
  refine CW.cond rfl (fun hc38 => ?_) (fun hc38 => ?_)
  replace hc38 := of_decide_eq_true hc38
  refine CW.skip (EX.then_n (CW.seq (CW.block (CW.seq (CW.region rfl (W.val rfl rfl rfl (R.fa0 7 rfl rfl Try.underlying117 rfl Try.sz9 rfl) (W.ldk rfl rfl rfl rfl rfl Try.pl9 hH140 m3 hB1 rfl ?_)))))))
  refine W.val rfl rfl rfl (R.move rfl rfl) ?_
  obtain ⟨y12, hy12⟩ : ∃ y, e.Who.data.toList[k2]? = some y := ⟨_, List.getElem?_eq_getElem (by rw [show e.Who.data.toList.length = e.Who.size by simp]; omega)⟩
  have hlt3 := y12.toNat_lt
  refine W.val rfl rfl rfl (R.indexS rfl rfl rfl Try.underlying9 (by omega) (by first | exact hy12 | (simp only [Int.toNat_natCast]; exact hy12))) (W.val rfl rfl rfl (R.assign rfl rfl) (W.nil (EX.then_n (CW.seq (CW.region rfl (W.val rfl rfl rfl (R.move rfl rfl) (W.val rfl rfl rfl (R.eql rfl rfl rfl) ?_)))))))
  refine W.val rfl rfl rfl (R.move rfl rfl) ?_
  refine W.split (d := 113) rfl (fun hc39 => ?_) (fun hc39 => ?_)
  replace hc39 := of_decide_eq_true hc39
  refine W.off rfl rfl rfl (W.off rfl rfl rfl (W.off rfl rfl rfl (W.off rfl rfl rfl (W.off rfl rfl rfl (W.off rfl rfl rfl (W.val rfl rfl rfl (R.pick_t rfl rfl rfl) (W.val rfl rfl rfl (R.move rfl rfl) ?_)))))))
  refine W.off rfl rfl rfl (W.off rfl rfl rfl (W.off rfl rfl rfl (W.off rfl rfl rfl (W.off rfl rfl rfl (W.off rfl rfl rfl (W.val rfl rfl rfl (R.pick_t rfl rfl rfl) (W.val rfl rfl rfl (R.not rfl rfl) ?_)))))))
  refine W.nil (EX.then_n (CW.cond_f rfl (CW.skip (EX.blk_n (EX.then_n (CW.region rfl (W.val rfl rfl rfl (R.move rfl rfl) ?_)))))))
  refine W.val rfl rfl rfl (R.addx rfl rfl rfl (ok_i64 (by omega))) (W.val rfl rfl rfl (R.assign rfl rfl) (W.nil ?_))
  have hH141 := hH140.f4
  have hH142 := hH141.f4
  have hH143 := hH142.f4
  have hH144 := hH143.f4
  have hH145 := hH144.f4
  have hH146 := hH145.upto5
  refine EX.back4 _ _ rfl ?_ (by rw [hI4]; exact ⟨k2 + 1, rfl, rfl, hH146, by omega, he.trans (by rw [whoB_drop hy12, decide_eq_true (by omega), Bool.true_and])⟩) ?_
  exact ⟨lk_int rfl (by first | rfl | omega), trivial⟩
  omega
  replace hc39 := of_decide_eq_false hc39
  refine W.val rfl rfl rfl (R.move rfl rfl) (W.val rfl rfl rfl (R.geq rfl rfl rfl) (W.val rfl rfl rfl (R.move rfl rfl) ?_))
  refine W.split (d := 116) rfl (fun hc40 => ?_) (fun hc40 => ?_)
  replace hc40 := of_decide_eq_true hc40
  refine W.val rfl rfl rfl (R.move rfl rfl) (W.val rfl rfl rfl (R.leq rfl rfl rfl) (W.val rfl rfl rfl (R.pick_t rfl rfl rfl) (W.val rfl rfl rfl (R.pick_f rfl rfl rfl) (W.val rfl rfl rfl (R.move rfl rfl) ?_))))
  refine W.split (d := 121) rfl (fun hc41 => ?_) (fun hc41 => ?_)
  replace hc41 := of_decide_eq_true hc41
  refine W.off rfl rfl rfl (W.off rfl rfl rfl (W.off rfl rfl rfl (W.off rfl rfl rfl (W.off rfl rfl rfl (W.off rfl rfl rfl (W.val rfl rfl rfl (R.pick_t rfl rfl rfl) (W.val rfl rfl rfl (R.not rfl rfl) ?_)))))))
  refine W.nil (EX.then_n (CW.cond_f rfl (CW.skip (EX.blk_n (EX.then_n (CW.region rfl (W.val rfl rfl rfl (R.move rfl rfl) ?_)))))))
  refine W.val rfl rfl rfl (R.addx rfl rfl rfl (ok_i64 (by omega))) (W.val rfl rfl rfl (R.assign rfl rfl) (W.nil ?_))
  have hH147 := hH140.f4
  have hH148 := hH147.f4
  have hH149 := hH148.f4
  have hH150 := hH149.f4
  have hH151 := hH150.f4
  have hH152 := hH151.upto5
  refine EX.back4 _ _ rfl ?_ (by rw [hI4]; exact ⟨k2 + 1, rfl, rfl, hH152, by omega, he.trans (by rw [whoB_drop hy12, decide_eq_true (by omega), Bool.true_and])⟩) ?_
  exact ⟨lk_int rfl (by first | rfl | omega), trivial⟩
  omega
  replace hc41 := of_decide_eq_false hc41
  refine W.val rfl rfl rfl (R.move rfl rfl) (W.val rfl rfl rfl (R.geq rfl rfl rfl) (W.val rfl rfl rfl (R.move rfl rfl) ?_))
  refine W.split (d := 124) rfl (fun hc42 => ?_) (fun hc42 => ?_)
  replace hc42 := of_decide_eq_true hc42
  refine W.val rfl rfl rfl (R.move rfl rfl) (W.val rfl rfl rfl (R.leq rfl rfl rfl) (W.val rfl rfl rfl (R.pick_t rfl rfl rfl) (W.val rfl rfl rfl (R.pick_f rfl rfl rfl) (W.val rfl rfl rfl (R.not rfl rfl) (W.nil (EX.then_n ?_))))))
  refine CW.cond rfl (fun hc43 => ?_) (fun hc43 => ?_)
  replace hc43 := of_not_t hc43
  replace hc43 := of_decide_eq_false hc43
  refine CW.seq (CW.region rfl (W.val rfl rfl rfl (R.assign rfl rfl) (W.nil (EX.then_n (CW.ret (EX.blk_ret (EX.then_ret ?_)))))))
  refine EX.then_ret (EX.blk_ret (EX.then_ret (EX.ret1 Try.results75 rfl ?_)))
  have hH153 := hH140.f4
  have hH154 := hH153.upto1
  refine ⟨?_, hH154⟩
  rw [checkE_32 (by omega) (by omega) (fun h => by
    have h3 := h.2.2
    rw [he, whoB_drop hy12, decide_eq_false (by omega), Bool.false_and] at h3
    cases h3)]
  replace hc43 := of_not_f hc43
  replace hc43 := of_decide_eq_true hc43
  refine CW.skip (EX.blk_n (EX.then_n (CW.region rfl (W.val rfl rfl rfl (R.move rfl rfl) (W.val rfl rfl rfl (R.addx rfl rfl rfl (ok_i64 (by omega))) (W.val rfl rfl rfl (R.assign rfl rfl) (W.nil ?_)))))))
  have hH155 := hH140.f4
  have hH156 := hH155.f4
  have hH157 := hH156.f4
  have hH158 := hH157.f4
  have hH159 := hH158.f4
  have hH160 := hH159.upto5
  refine EX.back4 _ _ rfl ?_ (by rw [hI4]; exact ⟨k2 + 1, rfl, rfl, hH160, by omega, he.trans (by rw [whoB_drop hy12, decide_eq_true (by omega), Bool.true_and])⟩) ?_
  exact ⟨lk_int rfl (by first | rfl | omega), trivial⟩
  omega
  replace hc42 := of_decide_eq_false hc42
  refine W.off rfl rfl rfl (W.off rfl rfl rfl (W.val rfl rfl rfl (R.pick_f rfl rfl rfl) (W.val rfl rfl rfl (R.pick_f rfl rfl rfl) (W.val rfl rfl rfl (R.not rfl rfl) (W.nil (EX.then_n (CW.cond_t rfl ?_)))))))
  refine CW.seq (CW.region rfl (W.val rfl rfl rfl (R.assign rfl rfl) (W.nil (EX.then_n (CW.ret (EX.blk_ret (EX.then_ret ?_)))))))
  refine EX.then_ret (EX.blk_ret (EX.then_ret (EX.ret1 Try.results75 rfl ?_)))
  have hH161 := hH140.f4
  have hH162 := hH161.upto1
  refine ⟨?_, hH162⟩
  rw [checkE_32 (by omega) (by omega) (fun h => by
    have h3 := h.2.2
    rw [he, whoB_drop hy12, decide_eq_false (by omega), Bool.false_and] at h3
    cases h3)]
  replace hc40 := of_decide_eq_false hc40
  refine W.off rfl rfl rfl (W.off rfl rfl rfl (W.val rfl rfl rfl (R.pick_f rfl rfl rfl) (W.val rfl rfl rfl (R.pick_f rfl rfl rfl) (W.val rfl rfl rfl (R.move rfl rfl) (W.val rfl rfl rfl (R.move rfl rfl) (W.val rfl rfl rfl (R.geq rfl rfl rfl) (W.val rfl rfl rfl (R.move rfl rfl) ?_)))))))
  refine W.split (d := 124) rfl (fun hc44 => ?_) (fun hc44 => ?_)
  replace hc44 := of_decide_eq_true hc44
  refine W.val rfl rfl rfl (R.move rfl rfl) (W.val rfl rfl rfl (R.leq rfl rfl rfl) (W.val rfl rfl rfl (R.pick_t rfl rfl rfl) (W.val rfl rfl rfl (R.pick_f rfl rfl rfl) (W.val rfl rfl rfl (R.not rfl rfl) (W.nil (EX.then_n ?_))))))
  refine CW.cond rfl (fun hc45 => ?_) (fun hc45 => ?_)
  replace hc45 := of_not_t hc45
  replace hc45 := of_decide_eq_false hc45
  refine CW.seq (CW.region rfl (W.val rfl rfl rfl (R.assign rfl rfl) (W.nil (EX.then_n (CW.ret (EX.blk_ret (EX.then_ret ?_)))))))
  refine EX.then_ret (EX.blk_ret (EX.then_ret (EX.ret1 Try.results75 rfl ?_)))
  have hH163 := hH140.f4
  have hH164 := hH163.upto1
  refine ⟨?_, hH164⟩
  rw [checkE_32 (by omega) (by omega) (fun h => by
    have h3 := h.2.2
    rw [he, whoB_drop hy12, decide_eq_false (by omega), Bool.false_and] at h3
    cases h3)]
  replace hc45 := of_not_f hc45
  replace hc45 := of_decide_eq_true hc45
  refine CW.skip (EX.blk_n (EX.then_n (CW.region rfl (W.val rfl rfl rfl (R.move rfl rfl) (W.val rfl rfl rfl (R.addx rfl rfl rfl (ok_i64 (by omega))) (W.val rfl rfl rfl (R.assign rfl rfl) (W.nil ?_)))))))
  have hH165 := hH140.f4
  have hH166 := hH165.f4
  have hH167 := hH166.f4
  have hH168 := hH167.f4
  have hH169 := hH168.f4
  have hH170 := hH169.upto5
  refine EX.back4 _ _ rfl ?_ (by rw [hI4]; exact ⟨k2 + 1, rfl, rfl, hH170, by omega, he.trans (by rw [whoB_drop hy12, decide_eq_true (by omega), Bool.true_and])⟩) ?_
  exact ⟨lk_int rfl (by first | rfl | omega), trivial⟩
  omega
  replace hc44 := of_decide_eq_false hc44
  refine W.off rfl rfl rfl (W.off rfl rfl rfl (W.val rfl rfl rfl (R.pick_f rfl rfl rfl) (W.val rfl rfl rfl (R.pick_f rfl rfl rfl) (W.val rfl rfl rfl (R.not rfl rfl) (W.nil (EX.then_n (CW.cond_t rfl ?_)))))))
  refine CW.seq (CW.region rfl (W.val rfl rfl rfl (R.assign rfl rfl) (W.nil (EX.then_n (CW.ret (EX.blk_ret (EX.then_ret ?_)))))))
  refine EX.then_ret (EX.blk_ret (EX.then_ret (EX.ret1 Try.results75 rfl ?_)))
  have hH171 := hH140.f4
  have hH172 := hH171.upto1
  refine ⟨?_, hH172⟩
  rw [checkE_32 (by omega) (by omega) (fun h => by
    have h3 := h.2.2
    rw [he, whoB_drop hy12, decide_eq_false (by omega), Bool.false_and] at h3
    cases h3)]
  replace hc38 := of_decide_eq_false hc38
  refine CW.exit (EX.then_exit (EX.then_exit (EX.blk_here (EX.then_n (CW.seq (CW.region rfl (W.val rfl rfl rfl (R.assign rfl rfl) ?_)))))))
  refine W.nil (EX.then_n (CW.ret (EX.ret1 Try.results75 rfl ?_)))
  have hH173 := hH140.f4
  have hH174 := hH173.upto1
  refine ⟨?_, hH174⟩
  obtain rfl : k2 = e.Who.size := by omega
  rw [checkE_0 (by omega) (by omega) hall.1 (fun h => ⟨hall.2 h, (by first | omega | exact size_nil (by assumption) | (exfalso; omega))⟩) (he.trans (by rw [List.drop_of_length_le (by simp)]; rfl))]
  replace hc36 := of_decide_eq_false hc36
  refine W.off rfl rfl rfl (W.off rfl rfl rfl (W.off rfl rfl rfl (W.val rfl rfl rfl (R.pick_f rfl rfl rfl) (W.val rfl rfl rfl (R.pick_f rfl rfl rfl) (W.nil (EX.then_n (CW.cond_f rfl ?_)))))))
  refine CW.skip (EX.then_n (CW.seq (CW.seq (CW.region rfl (W.val rfl rfl rfl (R.assign rfl rfl) (W.nil (EX.then_n ?_)))))))
  refine CW.block ?_
  have hH175 := hH22.f4
  have hH176 := hH175.f4
  have hH177 := hH176.f4
  have hH178 := hH177.f4
  have hH179 := hH178.f4
  obtain ⟨I5, hI5⟩ : ∃ I : Nat → List (Nat × Value) → World → Prop, I = (fun n_ D_ w_ => ∃ (k2 : Nat), D_ = [(9, .int .i64 (k2 : Int))] ∧ n_ = e.Who.size - k2 ∧ Has w0 w_ [z01, zb3, zb2, zb1, (hp w0)] ∧ (k2 ≤ e.Who.size) ∧ (whoB e.Who.data.toList = whoB (e.Who.data.toList.drop k2))) := ⟨_, rfl⟩
  refine CW.loop3 [4, 9, 10, 100, 101, 102, 103, 104, 105, 106, 107, 108, 109, 110, 111, 112, 113, 114, 115, 116, 117, 118, 119, 120, 121, 122, 123, 124, 125, 126, 127, 128, 129] I5 _ _ ?_ (by rw [hI5]; exact ⟨0, rfl, rfl, hH179, by omega, rfl⟩) ?_
  exact ⟨lk_int rfl (by first | rfl | omega), trivial⟩
  intro n5 D w11 hn5
  rw [hI5] at hn5
  obtain ⟨k2, rfl, hme5, hH180, hk2, he⟩ := hn5
  refine CW.seq (CW.seq (CW.region rfl (W.val rfl rfl rfl (R.move rfl rfl) (W.val rfl rfl rfl (R.fa0 7 rfl rfl Try.underlying117 rfl Try.sz9 rfl) (W.ldk rfl rfl rfl rfl rfl Try.pl9 hH180 m3 hB1 rfl (W.val rfl rfl rfl (R.len_string rfl rfl Try.underlying9) (W.val rfl rfl rfl (R.lss rfl rfl rfl) ?_)))))))
  refine W.nil (EX.then_n ?_)
  refine CW.cond rfl (fun hc46 => ?_) (fun hc46 => ?_)
  replace hc46 := of_decide_eq_true hc46
  refine CW.skip (EX.then_n (CW.seq (CW.block (CW.seq (CW.region rfl (W.val rfl rfl rfl (R.fa0 7 rfl rfl Try.underlying117 rfl Try.sz9 rfl) (W.ldk rfl rfl rfl rfl rfl Try.pl9 hH180 m3 hB1 rfl ?_)))))))
  refine W.val rfl rfl rfl (R.move rfl rfl) ?_
  obtain ⟨y13, hy13⟩ : ∃ y, e.Who.data.toList[k2]? = some y := ⟨_, List.getElem?_eq_getElem (by rw [show e.Who.data.toList.length = e.Who.size by simp]; omega)⟩
  have hlt4 := y13.toNat_lt
  refine W.val rfl rfl rfl (R.indexS rfl rfl rfl Try.underlying9 (by omega) (by first | exact hy13 | (simp only [Int.toNat_natCast]; exact hy13))) (W.val rfl rfl rfl (R.assign rfl rfl) (W.nil (EX.then_n (CW.seq (CW.region rfl (W.val rfl rfl rfl (R.move rfl rfl) (W.val rfl rfl rfl (R.eql rfl rfl rfl) ?_)))))))
  refine W.val rfl rfl rfl (R.move rfl rfl) ?_
  refine W.split (d := 113) rfl (fun hc47 => ?_) (fun hc47 => ?_)
  replace hc47 := of_decide_eq_true hc47
  refine W.off rfl rfl rfl (W.off rfl rfl rfl (W.off rfl rfl rfl (W.off rfl rfl rfl (W.off rfl rfl rfl (W.off rfl rfl rfl (W.val rfl rfl rfl (R.pick_t rfl rfl rfl) (W.val rfl rfl rfl (R.move rfl rfl) ?_)))))))
  refine W.off rfl rfl rfl (W.off rfl rfl rfl (W.off rfl rfl rfl (W.off rfl rfl rfl (W.off rfl rfl rfl (W.off rfl rfl rfl (W.val rfl rfl rfl (R.pick_t rfl rfl rfl) (W.val rfl rfl rfl (R.not rfl rfl) ?_)))))))
  refine W.nil (EX.then_n (CW.cond_f rfl (CW.skip (EX.blk_n (EX.then_n (CW.region rfl (W.val rfl rfl rfl (R.move rfl rfl) ?_)))))))
  refine W.val rfl rfl rfl (R.addx rfl rfl rfl (ok_i64 (by omega))) (W.val rfl rfl rfl (R.assign rfl rfl) (W.nil ?_))
  have hH181 := hH180.f4
  have hH182 := hH181.f4
  have hH183 := hH182.f4
  have hH184 := hH183.f4
  have hH185 := hH184.f4
  have hH186 := hH185.upto5
  refine EX.back4 _ _ rfl ?_ (by rw [hI5]; exact ⟨k2 + 1, rfl, rfl, hH186, by omega, he.trans (by rw [whoB_drop hy13, decide_eq_true (by omega), Bool.true_and])⟩) ?_
  exact ⟨lk_int rfl (by first | rfl | omega), trivial⟩
  omega
  replace hc47 := of_decide_eq_false hc47
  refine W.val rfl rfl rfl (R.move rfl rfl) (W.val rfl rfl rfl (R.geq rfl rfl rfl) (W.val rfl rfl rfl (R.move rfl rfl) ?_))
  refine W.split (d := 116) rfl (fun hc48 => ?_) (fun hc48 => ?_)
  replace hc48 := of_decide_eq_true hc48
  refine W.val rfl rfl rfl (R.move rfl rfl) (W.val rfl rfl rfl (R.leq rfl rfl rfl) (W.val rfl rfl rfl (R.pick_t rfl rfl rfl) (W.val rfl rfl rfl (R.pick_f rfl rfl rfl) (W.val rfl rfl rfl (R.move rfl rfl) ?_))))
  refine W.split (d := 121) rfl (fun hc49 => ?_) (fun hc49 => ?_)
  replace hc49 := of_decide_eq_true hc49
  refine W.off rfl rfl rfl (W.off rfl rfl rfl (W.off rfl rfl rfl (W.off rfl rfl rfl (W.off rfl rfl rfl (W.off rfl rfl rfl (W.val rfl rfl rfl (R.pick_t rfl rfl rfl) (W.val rfl rfl rfl (R.not rfl rfl) ?_)))))))
  refine W.nil (EX.then_n (CW.cond_f rfl (CW.skip (EX.blk_n (EX.then_n (CW.region rfl (W.val rfl rfl rfl (R.move rfl rfl) ?_)))))))
  refine W.val rfl rfl rfl (R.addx rfl rfl rfl (ok_i64 (by omega))) (W.val rfl rfl rfl (R.assign rfl rfl) (W.nil ?_))
  have hH187 := hH180.f4
  have hH188 := hH187.f4
  have hH189 := hH188.f4
  have hH190 := hH189.f4
  have hH191 := hH190.f4
  have hH192 := hH191.upto5
  refine EX.back4 _ _ rfl ?_ (by rw [hI5]; exact ⟨k2 + 1, rfl, rfl, hH192, by omega, he.trans (by rw [whoB_drop hy13, decide_eq_true (by omega), Bool.true_and])⟩) ?_
  exact ⟨lk_int rfl (by first | rfl | omega), trivial⟩
  omega
  replace hc49 := of_decide_eq_false hc49
  refine W.val rfl rfl rfl (R.move rfl rfl) (W.val rfl rfl rfl (R.geq rfl rfl rfl) (W.val rfl rfl rfl (R.move rfl rfl) ?_))
  refine W.split (d := 124) rfl (fun hc50 => ?_) (fun hc50 => ?_)
  replace hc50 := of_decide_eq_true hc50
  refine W.val rfl rfl rfl (R.move rfl rfl) (W.val rfl rfl rfl (R.leq rfl rfl rfl) (W.val rfl rfl rfl (R.pick_t rfl rfl rfl) (W.val rfl rfl rfl (R.pick_f rfl rfl rfl) (W.val rfl rfl rfl (R.not rfl rfl) (W.nil (EX.then_n ?_))))))
  refine CW.cond rfl (fun hc51 => ?_) (fun hc51 => ?_)
  replace hc51 := of_not_t hc51
  replace hc51 := of_decide_eq_false hc51
  refine CW.seq (CW.region rfl (W.val rfl rfl rfl (R.assign rfl rfl) (W.nil (EX.then_n (CW.ret (EX.blk_ret (EX.then_ret ?_)))))))
  refine EX.then_ret (EX.blk_ret (EX.then_ret (EX.ret1 Try.results75 rfl ?_)))
  have hH193 := hH180.f4
  have hH194 := hH193.upto1
  refine ⟨?_, hH194⟩
  rw [checkE_32 (by omega) (by omega) (fun h => by
    have h3 := h.2.2
    rw [he, whoB_drop hy13, decide_eq_false (by omega), Bool.false_and] at h3
    cases h3)]
  replace hc51 := of_not_f hc51
  replace hc51 := of_decide_eq_true hc51
  refine CW.skip (EX.blk_n (EX.then_n (CW.region rfl (W.val rfl rfl rfl (R.move rfl rfl) (W.val rfl rfl rfl (R.addx rfl rfl rfl (ok_i64 (by omega))) (W.val rfl rfl rfl (R.assign rfl rfl) (W.nil ?_)))))))
  have hH195 := hH180.f4
  have hH196 := hH195.f4
  have hH197 := hH196.f4
  have hH198 := hH197.f4
  have hH199 := hH198.f4
  have hH200 := hH199.upto5
  refine EX.back4 _ _ rfl ?_ (by rw [hI5]; exact ⟨k2 + 1, rfl, rfl, hH200, by omega, he.trans (by rw [whoB_drop hy13, decide_eq_true (by omega), Bool.true_and])⟩) ?_
  exact ⟨lk_int rfl (by first | rfl | omega), trivial⟩
  omega
  replace hc50 := of_decide_eq_false hc50
  refine W.off rfl rfl rfl (W.off rfl rfl rfl (W.val rfl rfl rfl (R.pick_f rfl rfl rfl) (W.val rfl rfl rfl (R.pick_f rfl rfl rfl) (W.val rfl rfl rfl (R.not rfl rfl) (W.nil (EX.then_n (CW.cond_t rfl ?_)))))))
  refine CW.seq (CW.region rfl (W.val rfl rfl rfl (R.assign rfl rfl) (W.nil (EX.then_n (CW.ret (EX.blk_ret (EX.then_ret ?_)))))))
  refine EX.then_ret (EX.blk_ret (EX.then_ret (EX.ret1 Try.results75 rfl ?_)))
  have hH201 := hH180.f4
  have hH202 := hH201.upto1
  refine ⟨?_, hH202⟩
  rw [checkE_32 (by omega) (by omega) (fun h => by
    have h3 := h.2.2
    rw [he, whoB_drop hy13, decide_eq_false (by omega), Bool.false_and] at h3
    cases h3)]
  replace hc48 := of_decide_eq_false hc48
  refine W.off rfl rfl rfl (W.off rfl rfl rfl (W.val rfl rfl rfl (R.pick_f rfl rfl rfl) (W.val rfl rfl rfl (R.pick_f rfl rfl rfl) (W.val rfl rfl rfl (R.move rfl rfl) (W.val rfl rfl rfl (R.move rfl rfl) (W.val rfl rfl rfl (R.geq rfl rfl rfl) (W.val rfl rfl rfl (R.move rfl rfl) ?_)))))))
  refine W.split (d := 124) rfl (fun hc52 => ?_) (fun hc52 => ?_)
  replace hc52 := of_decide_eq_true hc52
  refine W.val rfl rfl rfl (R.move rfl rfl) (W.val rfl rfl rfl (R.leq rfl rfl rfl) (W.val rfl rfl rfl (R.pick_t rfl rfl rfl) (W.val rfl rfl rfl (R.pick_f rfl rfl rfl) (W.val rfl rfl rfl (R.not rfl rfl) (W.nil (EX.then_n ?_))))))
  refine CW.cond rfl (fun hc53 => ?_) (fun hc53 => ?_)
  replace hc53 := of_not_t hc53
  replace hc53 := of_decide_eq_false hc53
  refine CW.seq (CW.region rfl (W.val rfl rfl rfl (R.assign rfl rfl) (W.nil (EX.then_n (CW.ret (EX.blk_ret (EX.then_ret ?_)))))))
  refine EX.then_ret (EX.blk_ret (EX.then_ret (EX.ret1 Try.results75 rfl ?_)))
  have hH203 := hH180.f4
  have hH204 := hH203.upto1
  refine ⟨?_, hH204⟩
  rw [checkE_32 (by omega) (by omega) (fun h => by
    have h3 := h.2.2
    rw [he, whoB_drop hy13, decide_eq_false (by omega), Bool.false_and] at h3
    cases h3)]
  replace hc53 := of_not_f hc53
  replace hc53 := of_decide_eq_true hc53
  refine CW.skip (EX.blk_n (EX.then_n (CW.region rfl (W.val rfl rfl rfl (R.move rfl rfl) (W.val rfl rfl rfl (R.addx rfl rfl rfl (ok_i64 (by omega))) (W.val rfl rfl rfl (R.assign rfl rfl) (W.nil ?_)))))))
  have hH205 := hH180.f4
  have hH206 := hH205.f4
  have hH207 := hH206.f4
  have hH208 := hH207.f4
  have hH209 := hH208.f4
  have hH210 := hH209.upto5
  refine EX.back4 _ _ rfl ?_ (by rw [hI5]; exact ⟨k2 + 1, rfl, rfl, hH210, by omega, he.trans (by rw [whoB_drop hy13, decide_eq_true (by omega), Bool.true_and])⟩) ?_
  exact ⟨lk_int rfl (by first | rfl | omega), trivial⟩
  omega
  replace hc52 := of_decide_eq_false hc52
  refine W.off rfl rfl rfl (W.off rfl rfl rfl (W.val rfl rfl rfl (R.pick_f rfl rfl rfl) (W.val rfl rfl rfl (R.pick_f rfl rfl rfl) (W.val rfl rfl rfl (R.not rfl rfl) (W.nil (EX.then_n (CW.cond_t rfl ?_)))))))
  refine CW.seq (CW.region rfl (W.val rfl rfl rfl (R.assign rfl rfl) (W.nil (EX.then_n (CW.ret (EX.blk_ret (EX.then_ret ?_)))))))
  refine EX.then_ret (EX.blk_ret (EX.then_ret (EX.ret1 Try.results75 rfl ?_)))
  have hH211 := hH180.f4
  have hH212 := hH211.upto1
  refine ⟨?_, hH212⟩
  rw [checkE_32 (by omega) (by omega) (fun h => by
    have h3 := h.2.2
    rw [he, whoB_drop hy13, decide_eq_false (by omega), Bool.false_and] at h3
    cases h3)]
  replace hc46 := of_decide_eq_false hc46
  refine CW.exit (EX.then_exit (EX.then_exit (EX.blk_here (EX.then_n (CW.seq (CW.region rfl (W.val rfl rfl rfl (R.assign rfl rfl) ?_)))))))
  refine W.nil (EX.then_n (CW.ret (EX.ret1 Try.results75 rfl ?_)))
  have hH213 := hH180.f4
  have hH214 := hH213.upto1
  refine ⟨?_, hH214⟩
  obtain rfl : k2 = e.Who.size := by omega
  rw [checkE_0 (by omega) (by omega) hall.1 (fun h => ⟨hall.2 h, (by first | omega | exact size_nil (by assumption) | (exfalso; omega))⟩) (he.trans (by rw [List.drop_of_length_le (by simp)]; rfl))]

end Go.Proofs.Gw
namespace Go.Proofs.Gw
open Go Go.Gw Go.Proofs Go.RowKit
set_option maxRecDepth 100000 in
set_option maxHeartbeats 1000000 in
theorem r04_Fits (x : GLong) (csx : List Value) (w0 : World) (hx : kLong.K (hp w0) x csx) : Calls Try.prog 128 #[.agg csx.toArray] w0 (Ret fun v w' => v = .tuple #[.int .i64 ((fitsN x.Below x.N).1), .bool ((fitsN x.Below x.N).2)] ∧ Has w0 w' [hp w0]) := by
  refine fnstart (N := 45) Try.func128 rfl Try.ntmps128 (Nat.le_of_ble_eq_true rfl) ?_
  have hH0 : Has w0 w0 [hp w0] := Has.refl w0
  have hK1 := hx
  obtain ⟨_, _, rfl, rfl, hlt1, rfl⟩ := hK1
  refine CW.seq (CW.region rfl ?_)
  refine W.box rfl rfl rfl rfl rfl rfl hH0 (fun b1 zb1 w1 hH1 hB1 => ?_)
  refine W.val rfl rfl rfl (R.assign rfl rfl) (W.val rfl rfl rfl (R.assign rfl rfl) (W.nil (EX.then_n (CW.seq (CW.seq (CW.region rfl (W.val rfl rfl rfl (R.assign rfl rfl) ?_)))))))
  refine W.nil (EX.then_n (CW.block ?_))
  have hH2 := hH1.f1
  have hH3 := hH2.f1
  obtain ⟨I1, hI1⟩ : ∃ I : Nat → List (Nat × Value) → World → Prop, I = (fun n_ D_ w_ => ∃ (t : Nat), D_ = [(4, .int .i64 ((4 + t : Nat) : Int))] ∧ n_ = 12 - t ∧ Has w0 w_ [zb1, (hp w0)] ∧ (t ≤ 12) ∧ (x.N / 65536 ^ 4 % 65536 ^ t = 0)) := ⟨_, rfl⟩
  refine CW.loop3 [2, 3, 4, 7, 8, 9, 10, 11, 12, 13, 14, 15] I1 _ _ ?_ (by rw [hI1]; exact ⟨0, rfl, rfl, hH3, by omega, (by rw [Nat.pow_zero, Nat.mod_one])⟩) ?_
  exact ⟨lk_int rfl (by first | rfl | omega), trivial⟩
  intro n1 D w2 hn1
  rw [hI1] at hn1
  obtain ⟨t, rfl, hme1, hH4, ht, he⟩ := hn1
  refine CW.seq (CW.seq (CW.region rfl (W.val rfl rfl rfl (R.move rfl rfl) (W.val rfl rfl rfl (R.lss rfl rfl rfl) (W.nil (EX.then_n ?_))))))
  refine CW.cond rfl (fun hc1 => ?_) (fun hc1 => ?_)
  replace hc1 := of_decide_eq_true hc1
  refine CW.skip (EX.then_n (CW.seq (CW.block (CW.seq (CW.region rfl (W.val rfl rfl rfl (R.move rfl rfl) (W.val rfl rfl rfl (R.fa0 1 rfl rfl Try.underlying181 rfl Try.sz179 rfl) ?_)))))))
  refine W.idxA (D := (digs 16 x.N)) 1 rfl rfl rfl rfl rfl rfl (fun j => add_add _ _ _) Try.underlying179 Try.sz75 (digs_len 16 _) (by omega) (by omega) (fun y1 hy1 => ?_)
  have hab1 := digs_all _ _ hy1
  try simp only [Int.toNat_natCast, Int.reduceToNat] at hy1
  refine W.load rfl rfl rfl rfl rfl Try.pl75 hH4 m0 (Blk.arr 1 rfl hB1 (by first | exact hy1 | (simp only [Int.toNat_natCast, Int.reduceToNat]; exact hy1))) (W.val rfl rfl rfl (R.neq rfl rfl rfl) (W.nil (EX.then_n ?_)))
  refine CW.cond rfl (fun hc2 => ?_) (fun hc2 => ?_)
  replace hc2 := of_ndec_t hc2
  refine CW.seq (CW.region rfl (W.val rfl rfl rfl (R.assign rfl rfl) (W.val rfl rfl rfl (R.assign rfl rfl) (W.nil (EX.then_n (CW.ret (EX.blk_ret ?_)))))))
  refine EX.then_ret (EX.then_ret (EX.blk_ret (EX.then_ret (EX.ret2 Try.results128 rfl rfl ?_))))
  have hH5 := hH4.f1
  have hH6 := hH5.upto1
  refine ⟨?_, hH6⟩
  have q1 := digs_get hy1
  have hb := dig_ne (n := x.N) (t := t) (by omega) 
  have hf : fitsN x.Below x.N = (0, false) := by unfold fitsN; rw [if_pos hb]
  rw [hf]
  replace hc2 := of_ndec_f hc2
  refine CW.skip (EX.blk_n (EX.then_n (CW.region rfl (W.val rfl rfl rfl (R.move rfl rfl) (W.val rfl rfl rfl (R.addx rfl rfl rfl (ok_i64 (by omega))) (W.val rfl rfl rfl (R.assign rfl rfl) (W.nil ?_)))))))
  have hH7 := hH4.f1
  have hH8 := hH7.f1
  have hH9 := hH8.upto2
  refine EX.back4 _ _ rfl ?_ (by rw [hI1]; exact ⟨t + 1, rfl, rfl, hH9, by omega, dig_zero he (by have q1 := digs_get hy1; omega)⟩) ?_
  exact ⟨lk_int rfl (by first | rfl | omega), trivial⟩
  omega
  replace hc1 := of_decide_eq_false hc1
  refine CW.exit (EX.then_exit (EX.then_exit (EX.blk_here (EX.then_n (CW.seq (CW.region rfl ?_))))))
  obtain rfl : t = 12 := by omega
  have hx64 := dig_small he hlt1
  refine W.val rfl rfl rfl (R.assign rfl rfl) (W.nil (EX.then_n (CW.seq (CW.seq (CW.region rfl (W.val rfl rfl rfl (R.assign rfl rfl) (W.nil ?_)))))))
  refine EX.then_n (CW.block ?_)
  have hH10 := hH4.f1
  have hH11 := hH10.f1
  obtain ⟨I2, hI2⟩ : ∃ I : Nat → List (Nat × Value) → World → Prop, I = (fun n_ D_ w_ => ∃ (k : Nat) (d : Nat), D_ = [(6, .int .i64 ((k : Int) - 1)), (5, .int .u64 (d : Int))] ∧ n_ = k ∧ Has w0 w_ [zb1, (hp w0)] ∧ (k ≤ 4) ∧ (d = x.N / 65536 ^ k)) := ⟨_, rfl⟩
  refine CW.loop3 [5, 6, 16, 17, 18, 19, 20, 21, 22, 23, 24, 25, 26] I2 _ _ ?_ (by rw [hI2]; exact ⟨4, 0, rfl, rfl, hH11, by omega, (by rw [Nat.div_eq_of_lt hx64])⟩) ?_
  exact ⟨lk_int rfl (by first | rfl | omega), lk_int rfl (by first | rfl | omega), trivial⟩
  intro n2 D w3 hn2
  rw [hI2] at hn2
  obtain ⟨k, d, rfl, hme2, hH12, hk, hd⟩ := hn2
  refine CW.seq (CW.seq (CW.region rfl (W.val rfl rfl rfl (R.move rfl rfl) (W.val rfl rfl rfl (R.geq rfl rfl rfl) (W.nil (EX.then_n ?_))))))
  refine CW.cond rfl (fun hc3 => ?_) (fun hc3 => ?_)
  replace hc3 := of_decide_eq_true hc3
  refine CW.skip (EX.then_n (CW.seq (CW.block (CW.region rfl ?_))))
  obtain ⟨b, rfl⟩ : ∃ b, k = b + 1 := ⟨k - 1, by omega⟩
  have hdb : x.N / 65536 ^ b ≤ x.N := Nat.div_le_self _ _
  have hds := div_succ x.N b
  refine W.val rfl rfl rfl (R.move rfl rfl) (W.val rfl rfl rfl (R.mulx rfl rfl rfl (ok_u64 (by omega))) (W.val rfl rfl rfl (R.move rfl rfl) (W.val rfl rfl rfl (R.fa0 1 rfl rfl Try.underlying181 rfl Try.sz179 rfl) ?_)))
  refine W.idxA (D := (digs 16 x.N)) 1 rfl rfl rfl rfl rfl rfl (fun j => add_add _ _ _) Try.underlying179 Try.sz75 (digs_len 16 _) (by omega) (by omega) (fun y2 hy2 => ?_)
  have hab2 := digs_all _ _ hy2
  try simp only [Int.toNat_natCast, Int.reduceToNat] at hy2
  refine W.load rfl rfl rfl rfl rfl Try.pl75 hH12 m0 (Blk.arr 1 rfl hB1 (by first | exact hy2 | (simp only [Int.toNat_natCast, Int.reduceToNat]; exact hy2))) ?_
  have q1 := digs_get hy2
  rw [show ((((b + 1 : Nat) : Int) - 1)).toNat = b by omega] at q1
  refine W.val rfl rfl rfl (R.addx rfl rfl rfl (ok_u64 (by omega))) (W.val rfl rfl rfl (R.assign rfl rfl) (W.nil (EX.blk_n (EX.then_n (CW.region rfl (W.val rfl rfl rfl (R.move rfl rfl) (W.val rfl rfl rfl (R.subx rfl rfl rfl (ok_i64 (by omega))) ?_)))))))
  refine W.val rfl rfl rfl (R.assign rfl rfl) (W.nil ?_)
  have hH13 := hH12.f1
  have hH14 := hH13.f1
  have hH15 := hH14.upto2
  refine EX.back4 _ _ rfl ?_ (by rw [hI2]; exact ⟨b, x.N / 65536 ^ b, rfl, rfl, hH15, by omega, rfl⟩) ?_
  exact ⟨lk_int rfl (by omega), lk_int rfl (by omega), trivial⟩
  omega
  replace hc3 := of_decide_eq_false hc3
  refine CW.exit (EX.then_exit (EX.then_exit (EX.blk_here (EX.then_n (CW.seq (CW.seq (CW.region rfl ?_)))))))
  obtain rfl : k = 0 := by omega
  rw [Nat.pow_zero, Nat.div_one] at hd
  subst hd
  refine W.val rfl rfl rfl (R.fa0 0 rfl rfl Try.underlying181 rfl Try.sz4 rfl) (W.ldk rfl rfl rfl rfl rfl Try.pl4 hH12 m0 hB1 rfl (W.val rfl rfl rfl (R.move rfl rfl) ?_))
  refine W.split (d := 29) rfl (fun hc4 => ?_) (fun hc4 => ?_)
  try subst hc4
  refine W.val rfl rfl rfl (R.move rfl rfl) (W.val rfl rfl rfl (R.gtr rfl rfl rfl) (W.val rfl rfl rfl (R.pick_t rfl rfl rfl) (W.nil (EX.then_n ?_))))
  refine CW.cond rfl (fun hc5 => ?_) (fun hc5 => ?_)
  replace hc5 := of_decide_eq_true hc5
  refine CW.seq (CW.seq (CW.region rfl (W.val rfl rfl rfl (R.move rfl rfl) (W.val rfl rfl rfl (R.subx rfl rfl rfl (ok_u64 (by omega))) (W.val rfl rfl rfl (R.gtr rfl rfl rfl) (W.nil (EX.then_n ?_)))))))
  refine CW.cond rfl (fun hc6 => ?_) (fun hc6 => ?_)
  replace hc6 := of_decide_eq_true hc6
  refine CW.seq (CW.region rfl (W.val rfl rfl rfl (R.assign rfl rfl) (W.val rfl rfl rfl (R.assign rfl rfl) (W.nil (EX.then_n (CW.ret (EX.then_ret ?_)))))))
  refine EX.then_ret (EX.ret2 Try.results128 rfl rfl ?_)
  have hH16 := hH12.f1
  have hH17 := hH16.upto1
  refine ⟨?_, hH17⟩
  have hf : fitsN x.Below x.N = (0, false) := by unfold fitsN; grind
  rw [hf]
  replace hc6 := of_decide_eq_false hc6
  refine CW.skip (EX.then_n (CW.seq (CW.region rfl (W.val rfl rfl rfl (R.move rfl rfl) (W.val rfl rfl rfl (R.subx rfl rfl rfl (ok_u64 (by omega))) (W.val rfl rfl rfl (R.convx rfl rfl (by rw [Try.underlying75]; rfl) Try.underlying2 (ok_i64 (by omega))) (W.val rfl rfl rfl (R.negx rfl rfl (ok_i64 (by omega))) ?_)))))))
  refine W.val rfl rfl rfl (R.subx rfl rfl rfl (ok_i64 (by omega))) (W.val rfl rfl rfl (R.assign rfl rfl) (W.val rfl rfl rfl (R.assign rfl rfl) (W.nil (EX.then_n (CW.ret (EX.then_ret (EX.ret2 Try.results128 rfl rfl ?_)))))))
  have hH18 := hH12.f1
  have hH19 := hH18.upto1
  refine ⟨?_, hH19⟩
  have hf : fitsN x.Below x.N = (-(x.N : Int), true) := by unfold fitsN; grind
  rw [hf]
  refine vtup2i ?_
  dsimp only
  omega
  replace hc5 := of_decide_eq_false hc5
  refine CW.skip (EX.then_n (CW.seq (CW.seq (CW.region rfl (W.val rfl rfl rfl (R.move rfl rfl) (W.val rfl rfl rfl (R.gtr rfl rfl rfl) (W.nil ?_)))))))
  refine EX.then_n ?_
  refine CW.cond rfl (fun hc7 => ?_) (fun hc7 => ?_)
  replace hc7 := of_decide_eq_true hc7
  refine CW.seq (CW.region rfl (W.val rfl rfl rfl (R.assign rfl rfl) (W.val rfl rfl rfl (R.assign rfl rfl) (W.nil (EX.then_n (CW.ret (EX.then_ret ?_)))))))
  refine EX.ret2 Try.results128 rfl rfl ?_
  have hH20 := hH12.f1
  have hH21 := hH20.upto1
  refine ⟨?_, hH21⟩
  have hf : fitsN x.Below x.N = (0, false) := by unfold fitsN; grind
  rw [hf]
  replace hc7 := of_decide_eq_false hc7
  refine CW.skip (EX.then_n (CW.seq (CW.region rfl (W.val rfl rfl rfl (R.move rfl rfl) (W.val rfl rfl rfl (R.convx rfl rfl (by rw [Try.underlying75]; rfl) Try.underlying2 (ok_i64 (by omega))) (W.val rfl rfl rfl (R.assign rfl rfl) (W.val rfl rfl rfl (R.assign rfl rfl) ?_)))))))
  refine W.nil (EX.then_n (CW.ret (EX.ret2 Try.results128 rfl rfl ?_)))
  have hH22 := hH12.f1
  have hH23 := hH22.upto1
  refine ⟨?_, hH23⟩
  have hf : fitsN x.Below x.N = ((x.N : Int), true) := by unfold fitsN; grind
  rw [hf]
  try subst hc4
  refine W.off rfl rfl rfl (W.off rfl rfl rfl (W.val rfl rfl rfl (R.pick_f rfl rfl rfl) (W.nil (EX.then_n (CW.cond_f rfl (CW.skip (EX.then_n ?_)))))))
  refine CW.seq (CW.seq (CW.region rfl (W.val rfl rfl rfl (R.move rfl rfl) (W.val rfl rfl rfl (R.gtr rfl rfl rfl) (W.nil (EX.then_n ?_))))))
  refine CW.cond rfl (fun hc8 => ?_) (fun hc8 => ?_)
  replace hc8 := of_decide_eq_true hc8
  refine CW.seq (CW.region rfl (W.val rfl rfl rfl (R.assign rfl rfl) (W.val rfl rfl rfl (R.assign rfl rfl) (W.nil (EX.then_n (CW.ret (EX.then_ret ?_)))))))
  refine EX.ret2 Try.results128 rfl rfl ?_
  have hH24 := hH12.f1
  have hH25 := hH24.upto1
  refine ⟨?_, hH25⟩
  have hf : fitsN x.Below x.N = (0, false) := by unfold fitsN; grind
  rw [hf]
  replace hc8 := of_decide_eq_false hc8
  refine CW.skip (EX.then_n (CW.seq (CW.region rfl (W.val rfl rfl rfl (R.move rfl rfl) (W.val rfl rfl rfl (R.convx rfl rfl (by rw [Try.underlying75]; rfl) Try.underlying2 (ok_i64 (by omega))) (W.val rfl rfl rfl (R.assign rfl rfl) (W.val rfl rfl rfl (R.assign rfl rfl) ?_)))))))
  refine W.nil (EX.then_n (CW.ret (EX.ret2 Try.results128 rfl rfl ?_)))
  have hH26 := hH12.f1
  have hH27 := hH26.upto1
  refine ⟨?_, hH27⟩
  have hf : fitsN x.Below x.N = ((x.N : Int), true) := by unfold fitsN; grind
  rw [hf]

end Go.Proofs.Gw
namespace Go.Proofs.Gw
open Go Go.Gw Go.Proofs Go.RowKit
set_option maxRecDepth 100000 in
set_option maxHeartbeats 1000000 in
theorem r04_Of (a : Int) (w0 : World) (v0 : -9223372036854775808 ≤ a) (v1 : a ≤ 9223372036854775807) : Calls Try.prog 127 #[.int .i64 a] w0 (Ret fun v w' => ∃ (cs0 : List Value), v = .agg cs0.toArray ∧ Has w0 w' [hp w0] ∧ kLong.K emp (⟨decide (a < 0), a.natAbs⟩) cs0) := by
  refine fnstart (N := 29) Try.func127 rfl Try.ntmps127 (Nat.le_of_ble_eq_true rfl) ?_
  have hH0 : Has w0 w0 [hp w0] := Has.refl w0
  refine CW.seq (CW.region rfl ?_)
  refine W.alloc rfl rfl rfl rfl Try.zr181 rfl hH0 (fun b1 zb1 w1 hH1 hB1 => ?_)
  obtain ⟨D1, hD1⟩ : ∃ D : List Int, D = List.replicate 16 (0 : Int) := ⟨_, rfl⟩
  have hB2 : Blk zb1 b1 181 ([.bool false] ++ D1.map (vI .u64)) := by rw [hD1]; exact hB1
  have hDl1 : D1.length = 16 := by rw [hD1]; rfl
  have hDb1 : ∀ (i : Nat) d, D1[i]? = some d → (0 : Int) ≤ d ∧ d ≤ 18446744073709551615 := by rw [hD1]; exact rep_bd (by decide)
  refine W.nil (EX.then_n (CW.seq (CW.region rfl (W.val rfl rfl rfl (R.build rfl rfl Try.zr181 rfl (by rw [Try.underlying181]; rfl) Try.plc181 rfl) (W.re (d := 6) (v := Value.agg (([.bool false] : List Value) ++ (digs 16 0).map (vI .u64)).toArray) rfl rfl ?_)))))
  refine W.alloc rfl rfl rfl rfl Try.zr181 rfl hH1 (fun b2 zb2 w2 hH2 hB3 => ?_)
  obtain ⟨D2, hD2⟩ : ∃ D : List Int, D = List.replicate 16 (0 : Int) := ⟨_, rfl⟩
  have hB4 : Blk zb2 b2 181 ([.bool false] ++ D2.map (vI .u64)) := by rw [hD2]; exact hB3
  have hDl2 : D2.length = 16 := by rw [hD2]; rfl
  have hDb2 : ∀ (i : Nat) d, D2[i]? = some d → (0 : Int) ≤ d ∧ d ≤ 18446744073709551615 := by rw [hD2]; exact rep_bd (by decide)
  refine W.sg0 rfl rfl rfl rfl rfl (Try.sz181.trans (congrArg some (arr_len1 (digs_len 16 _)).symm)) (arr_one rfl) (arr_same (by rfl) (digs_len 16 _) hDl2) hH2 hB4 (fun zb3 w3 hH3 hB5 => ?_)
  refine W.nil (EX.then_n (CW.seq (CW.region rfl (W.val rfl rfl rfl (R.move rfl rfl) (W.val rfl rfl rfl (R.cu64 rfl rfl (by rw [Try.underlying2]; rfl) Try.underlying75) (W.val rfl rfl rfl (R.assign rfl rfl) (W.nil ?_)))))))
  refine EX.then_n (CW.seq (CW.seq (CW.region rfl (W.val rfl rfl rfl (R.move rfl rfl) (W.val rfl rfl rfl (R.lss rfl rfl rfl) (W.nil (EX.then_n ?_)))))))
  refine CW.cond rfl (fun hc1 => ?_) (fun hc1 => ?_)
  replace hc1 := of_decide_eq_true hc1
  refine CW.seq (CW.region rfl (W.val rfl rfl rfl (R.fa0 0 rfl rfl Try.underlying181 rfl Try.sz4 rfl) ?_))
  refine W.storeLoc rfl rfl rfl rfl rfl Try.sz4 rfl (Nat.le_of_ble_eq_true rfl) hH3 hB5 (fun zb4 w4 hH4 hB6 => ?_)
  have hB7 : Blk zb4 _ _ ([.bool true] ++ (digs 16 0).map (vI .u64)) := hB6
  refine W.nil (EX.then_n (CW.region rfl (W.val rfl rfl rfl (R.move rfl rfl) (W.val rfl rfl rfl (R.addx rfl rfl rfl (ok_i64 (by omega))) (W.val rfl rfl rfl (R.negx rfl rfl (ok_i64 (by omega))) (W.val rfl rfl rfl (R.convx rfl rfl (by rw [Try.underlying2]; rfl) Try.underlying75 (ok_u64 (by omega))) (W.val rfl rfl rfl (R.addx rfl rfl rfl (ok_u64 (by omega))) ?_)))))))
  refine W.val rfl rfl rfl (R.assign rfl rfl) (W.nil (EX.then_n (CW.seq (CW.seq (CW.region rfl (W.val rfl rfl rfl (R.assign rfl rfl) (W.nil ?_)))))))
  refine EX.then_n (CW.block ?_)
  have hH5 := hH4.f2
  have hH6 := hH5.f2
  have hH7 := hH6.f2
  obtain ⟨I1, hI1⟩ : ∃ I : Nat → List (Nat × Value) → World → Prop, I = (fun n_ D_ w_ => ∃ (k : Nat) (d : Nat) (zv : PH), D_ = [(5, .int .i64 (k : Int)), (4, .int .u64 (d : Int))] ∧ n_ = 4 - k ∧ Has w0 w_ [zv, zb1, (hp w0)] ∧ (k ≤ 4) ∧ (d = a.natAbs / 65536 ^ k) ∧ (d ≤ 9223372036854775808) ∧ (Blk zv b2 181 ([.bool true] ++ (digs 16 (a.natAbs % 65536 ^ k)).map (vI .u64)))) := ⟨_, rfl⟩
  refine CW.loop3 [4, 5, 17, 18, 19, 20, 21, 22, 23, 24, 25, 26, 27] I1 _ _ ?_ (by rw [hI1]; exact ⟨0, a.natAbs, _, rfl, rfl, hH7, by omega, (by rw [Nat.pow_zero, Nat.div_one]), by omega, (by rw [Nat.pow_zero, Nat.mod_one]; exact hB7)⟩) ?_
  exact ⟨lk_int rfl (by first | rfl | omega), lk_int rfl (by omega), trivial⟩
  intro n1 D w5 hn1
  rw [hI1] at hn1
  obtain ⟨k, d, zv, rfl, hme1, hH8, hk, hd, hdk, hBv⟩ := hn1
  refine CW.seq (CW.seq (CW.region rfl (W.val rfl rfl rfl (R.move rfl rfl) (W.val rfl rfl rfl (R.lss rfl rfl rfl) (W.nil (EX.then_n ?_))))))
  refine CW.cond rfl (fun hc2 => ?_) (fun hc2 => ?_)
  replace hc2 := of_decide_eq_true hc2
  refine CW.skip (EX.then_n (CW.seq (CW.block (CW.seq (CW.region rfl (W.val rfl rfl rfl (R.move rfl rfl) (W.val rfl rfl rfl (R.move rfl rfl) ?_)))))))
  refine W.val rfl rfl rfl (R.rem rfl rfl rfl (by omega) (by omega)) (W.val rfl rfl rfl (R.fa0 1 rfl rfl Try.underlying181 rfl Try.sz179 rfl) ?_)
  refine W.idxA (D := (digs 16 (a.natAbs % 65536 ^ k))) 1 rfl rfl rfl rfl rfl rfl (fun j => add_add _ _ _) Try.underlying179 Try.sz75 (digs_len 16 _) (by omega) (by omega) (fun y1 hy1 => ?_)
  have hab1 := digs_all _ _ hy1
  try simp only [Int.toNat_natCast, Int.reduceToNat] at hy1
  refine W.stA 1 rfl rfl rfl rfl rfl Try.sz75 rfl (Nat.lt_of_lt_of_eq (m := 16) (by omega) (Eq.symm (digs_len 16 _))) hH8 hBv (fun zb5 w6 D3 hD3 hDl3 hH9 hB8 => ?_)
  replace hDl3 := hDl3.trans (digs_len 16 _)
  replace hD3 : D3 = digs 16 (a.natAbs % 65536 ^ k + d % 65536 * 65536 ^ k) := hD3.trans (put_new_s (s := d) (by omega) (Nat.mod_lt _ (Nat.pow_pos (by decide))) (by omega))
  subst hD3
  refine W.nil (EX.then_n (CW.region rfl (W.val rfl rfl rfl (R.move rfl rfl) (W.val rfl rfl rfl (R.quo rfl rfl rfl (by omega) (by omega) (ok_u64 (by omega))) (W.val rfl rfl rfl (R.assign rfl rfl) (W.nil (EX.blk_n ?_)))))))
  refine EX.then_n (CW.region rfl (W.val rfl rfl rfl (R.move rfl rfl) (W.val rfl rfl rfl (R.addx rfl rfl rfl (ok_i64 (by omega))) (W.val rfl rfl rfl (R.assign rfl rfl) (W.nil ?_)))))
  have hH10 := hH9.f2
  have hH11 := hH10.f2
  have hH12 := hH11.f2
  have hH13 := hH12.upto3
  refine EX.back4 _ _ rfl ?_ (by rw [hI1]; exact ⟨k + 1, d / 65536, _, rfl, rfl, hH13, by omega, (by rw [div_succ, hd]), by omega, (by rw [mod_succ, ← hd]; exact hB8)⟩) ?_
  exact ⟨lk_int rfl (by first | rfl | omega), lk_int rfl (by omega), trivial⟩
  omega
  replace hc2 := of_decide_eq_false hc2
  refine CW.exit (EX.then_exit (EX.then_exit (EX.blk_here (EX.then_n (CW.seq (CW.region rfl (W.lg0 rfl rfl rfl rfl rfl Try.pl181 (by rw [Try.underlying181]; rfl) (Try.sz181.trans (congrArg some (arr_len1 (digs_len 16 _)).symm)) hH8 m0 hBv ?_)))))))
  have hH14 := hH8.f1
  refine W.sg0 rfl rfl rfl rfl rfl (Try.sz181.trans (congrArg some (arr_len1 (digs_len 16 _)).symm)) (arr_one rfl) (arr_same (by rfl) (digs_len 16 _) hDl1) hH14 hB2 (fun zb6 w7 hH15 hB9 => ?_)
  refine W.nil (EX.then_n (CW.ret (EX.retV Try.results127 (.cons (.agg rfl (fun w => run_isAgg_struct Try.underlying181 w) (Try.sz181.trans (congrArg some (arr_len1 (digs_len 16 _)).symm)) (fun k u hk => hH15.cell m0 (hB9.at_ k u hk))) RVs.nil) ?_)))
  have hH16 := hH15.f2
  have hH17 := hH16.upto1
  obtain rfl : k = 4 := by omega
  have hvm : a.natAbs % 65536 ^ 4 = a.natAbs := Nat.mod_eq_of_lt (by omega)
  have hlt16 : a.natAbs % 65536 ^ 4 < 65536 ^ 16 := by omega
  have hdv : decide (a < 0) = true := decide_eq_true (by omega)
  refine ⟨_, ?_, hH17, ⟨_, _, rfl, rfl, (by first | assumption | exact trivial | omega | (dsimp only; first | assumption | omega)), rfl⟩⟩
  first
    | (rw [hvm, hdv]; rfl)
    | (rw [hvm, hdv]; done)
  replace hc1 := of_decide_eq_false hc1
  refine CW.skip (EX.then_n (CW.seq (CW.seq (CW.region rfl (W.val rfl rfl rfl (R.assign rfl rfl) (W.nil (EX.then_n ?_)))))))
  refine CW.block ?_
  have hH18 := hH3.f2
  have hH19 := hH18.f2
  have hH20 := hH19.f2
  obtain ⟨I2, hI2⟩ : ∃ I : Nat → List (Nat × Value) → World → Prop, I = (fun n_ D_ w_ => ∃ (k : Nat) (d : Nat) (zv : PH), D_ = [(5, .int .i64 (k : Int)), (4, .int .u64 (d : Int))] ∧ n_ = 4 - k ∧ Has w0 w_ [zv, zb1, (hp w0)] ∧ (k ≤ 4) ∧ (d = a.natAbs / 65536 ^ k) ∧ (d ≤ 9223372036854775808) ∧ (Blk zv b2 181 ([.bool false] ++ (digs 16 (a.natAbs % 65536 ^ k)).map (vI .u64)))) := ⟨_, rfl⟩
  refine CW.loop3 [4, 5, 17, 18, 19, 20, 21, 22, 23, 24, 25, 26, 27] I2 _ _ ?_ (by rw [hI2]; exact ⟨0, a.natAbs, _, rfl, rfl, hH20, by omega, (by rw [Nat.pow_zero, Nat.div_one]), by omega, (by rw [Nat.pow_zero, Nat.mod_one]; exact hB5)⟩) ?_
  exact ⟨lk_int rfl (by first | rfl | omega), lk_int rfl (by omega), trivial⟩
  intro n2 D w8 hn2
  rw [hI2] at hn2
  obtain ⟨k, d, zv, rfl, hme2, hH21, hk, hd, hdk, hBv⟩ := hn2
  refine CW.seq (CW.seq (CW.region rfl (W.val rfl rfl rfl (R.move rfl rfl) (W.val rfl rfl rfl (R.lss rfl rfl rfl) (W.nil (EX.then_n ?_))))))
  refine CW.cond rfl (fun hc3 => ?_) (fun hc3 => ?_)
  replace hc3 := of_decide_eq_true hc3
  refine CW.skip (EX.then_n (CW.seq (CW.block (CW.seq (CW.region rfl (W.val rfl rfl rfl (R.move rfl rfl) (W.val rfl rfl rfl (R.move rfl rfl) ?_)))))))
  refine W.val rfl rfl rfl (R.rem rfl rfl rfl (by omega) (by omega)) (W.val rfl rfl rfl (R.fa0 1 rfl rfl Try.underlying181 rfl Try.sz179 rfl) ?_)
  refine W.idxA (D := (digs 16 (a.natAbs % 65536 ^ k))) 1 rfl rfl rfl rfl rfl rfl (fun j => add_add _ _ _) Try.underlying179 Try.sz75 (digs_len 16 _) (by omega) (by omega) (fun y2 hy2 => ?_)
  have hab2 := digs_all _ _ hy2
  try simp only [Int.toNat_natCast, Int.reduceToNat] at hy2
  refine W.stA 1 rfl rfl rfl rfl rfl Try.sz75 rfl (Nat.lt_of_lt_of_eq (m := 16) (by omega) (Eq.symm (digs_len 16 _))) hH21 hBv (fun zb7 w9 D4 hD4 hDl4 hH22 hB10 => ?_)
  replace hDl4 := hDl4.trans (digs_len 16 _)
  replace hD4 : D4 = digs 16 (a.natAbs % 65536 ^ k + d % 65536 * 65536 ^ k) := hD4.trans (put_new_s (s := d) (by omega) (Nat.mod_lt _ (Nat.pow_pos (by decide))) (by omega))
  subst hD4
  refine W.nil (EX.then_n (CW.region rfl (W.val rfl rfl rfl (R.move rfl rfl) (W.val rfl rfl rfl (R.quo rfl rfl rfl (by omega) (by omega) (ok_u64 (by omega))) (W.val rfl rfl rfl (R.assign rfl rfl) (W.nil (EX.blk_n ?_)))))))
  refine EX.then_n (CW.region rfl (W.val rfl rfl rfl (R.move rfl rfl) (W.val rfl rfl rfl (R.addx rfl rfl rfl (ok_i64 (by omega))) (W.val rfl rfl rfl (R.assign rfl rfl) (W.nil ?_)))))
  have hH23 := hH22.f2
  have hH24 := hH23.f2
  have hH25 := hH24.f2
  have hH26 := hH25.upto3
  refine EX.back4 _ _ rfl ?_ (by rw [hI2]; exact ⟨k + 1, d / 65536, _, rfl, rfl, hH26, by omega, (by rw [div_succ, hd]), by omega, (by rw [mod_succ, ← hd]; exact hB10)⟩) ?_
  exact ⟨lk_int rfl (by first | rfl | omega), lk_int rfl (by omega), trivial⟩
  omega
  replace hc3 := of_decide_eq_false hc3
  refine CW.exit (EX.then_exit (EX.then_exit (EX.blk_here (EX.then_n (CW.seq (CW.region rfl (W.lg0 rfl rfl rfl rfl rfl Try.pl181 (by rw [Try.underlying181]; rfl) (Try.sz181.trans (congrArg some (arr_len1 (digs_len 16 _)).symm)) hH21 m0 hBv ?_)))))))
  have hH27 := hH21.f1
  refine W.sg0 rfl rfl rfl rfl rfl (Try.sz181.trans (congrArg some (arr_len1 (digs_len 16 _)).symm)) (arr_one rfl) (arr_same (by rfl) (digs_len 16 _) hDl1) hH27 hB2 (fun zb8 w10 hH28 hB11 => ?_)
  refine W.nil (EX.then_n (CW.ret (EX.retV Try.results127 (.cons (.agg rfl (fun w => run_isAgg_struct Try.underlying181 w) (Try.sz181.trans (congrArg some (arr_len1 (digs_len 16 _)).symm)) (fun k u hk => hH28.cell m0 (hB11.at_ k u hk))) RVs.nil) ?_)))
  have hH29 := hH28.f2
  have hH30 := hH29.upto1
  obtain rfl : k = 4 := by omega
  have hvm : a.natAbs % 65536 ^ 4 = a.natAbs := Nat.mod_eq_of_lt (by omega)
  have hlt16 : a.natAbs % 65536 ^ 4 < 65536 ^ 16 := by omega
  have hdv : decide (a < 0) = false := decide_eq_false (by omega)
  refine ⟨_, ?_, hH30, ⟨_, _, rfl, rfl, (by first | assumption | exact trivial | omega | (dsimp only; first | assumption | omega)), rfl⟩⟩
  first
    | (rw [hvm, hdv]; rfl)
    | (rw [hvm, hdv]; done)

end Go.Proofs.Gw
namespace Go.Proofs.Gw
open Go Go.Gw Go.Proofs Go.RowKit
set_option maxRecDepth 100000 in
set_option maxHeartbeats 1000000 in
theorem r04_Cmp (x : GLong) (csx : List Value) (y : GLong) (csy : List Value) (w0 : World) (hx : kLong.K (hp w0) x csx) (hy : kLong.K (hp w0) y csy) : Calls Try.prog 150 #[.agg csx.toArray, .agg csy.toArray] w0 (Ret fun v w' => v = .int .i64 (cmpN x.N y.N) ∧ Has w0 w' [hp w0]) := by
  refine fnstart (N := 28) Try.func150 rfl Try.ntmps150 (Nat.le_of_ble_eq_true rfl) ?_
  have hH0 : Has w0 w0 [hp w0] := Has.refl w0
  have hK1 := hx
  obtain ⟨_, _, rfl, rfl, hlt1, rfl⟩ := hK1
  have hK2 := hy
  obtain ⟨_, _, rfl, rfl, hlt2, rfl⟩ := hK2
  refine CW.seq (CW.region rfl ?_)
  refine W.box rfl rfl rfl rfl rfl rfl hH0 (fun b1 zb1 w1 hH1 hB1 => ?_)
  refine W.box rfl rfl rfl rfl rfl rfl hH1 (fun b2 zb2 w2 hH2 hB2 => ?_)
  refine W.val rfl rfl rfl (R.assign rfl rfl) (W.nil (EX.then_n (CW.seq (CW.seq (CW.region rfl (W.val rfl rfl rfl (R.assign rfl rfl) (W.nil ?_)))))))
  refine EX.then_n (CW.block ?_)
  have hH3 := hH2.f2
  have hH4 := hH3.f2
  have hH5 := hH4.f2
  obtain ⟨I1, hI1⟩ : ∃ I : Nat → List (Nat × Value) → World → Prop, I = (fun n_ D_ w_ => ∃ (t : Nat), D_ = [(5, .int .i64 ((t : Int) - 1))] ∧ n_ = t ∧ Has w0 w_ [zb2, zb1, (hp w0)] ∧ (t ≤ 16) ∧ (x.N / 65536 ^ t = y.N / 65536 ^ t)) := ⟨_, rfl⟩
  refine CW.loop3 [4, 5, 6, 7, 8, 9, 10, 11, 12, 13, 14, 15, 16, 17, 18, 19, 20, 21, 22, 23, 24, 25, 26, 27] I1 _ _ ?_ (by rw [hI1]; exact ⟨16, rfl, rfl, hH5, by omega, by rw [Nat.div_eq_of_lt hlt1, Nat.div_eq_of_lt hlt2]⟩) ?_
  exact ⟨lk_int rfl (by first | rfl | omega), trivial⟩
  intro n1 D w3 hn1
  rw [hI1] at hn1
  obtain ⟨t, rfl, hme1, hH6, hk, he⟩ := hn1
  refine CW.seq (CW.seq (CW.region rfl (W.val rfl rfl rfl (R.move rfl rfl) (W.val rfl rfl rfl (R.geq rfl rfl rfl) (W.nil (EX.then_n ?_))))))
  refine CW.cond rfl (fun hc1 => ?_) (fun hc1 => ?_)
  replace hc1 := of_decide_eq_true hc1
  refine CW.skip (EX.then_n (CW.seq (CW.block (CW.seq (CW.seq ?_)))))
  have hH7 := hH6.drew
  refine CW.draw (fun w => Sub zb1 w ∧ Sub zb2 w ∧ True) [] #[false, false, false, false, false, false, false, false, false] Try.mixed rfl rfl ⟨hH7.sub _ m1, hH7.sub _ m0, trivial⟩ ?_
  obtain ⟨k, rfl⟩ : ∃ k, t = k + 1 := ⟨t - 1, by omega⟩
  refine WA.pure (i := 0) #[true, false, false, false, false, false, false, false, false] (blind_then (blind_then (blind_blk (blind_then (blind_then (blind_blk (blind_then (blind_body _ _)))))))) rfl (by kernel_rfl) rfl rfl rfl (fun _ => R.move rfl rfl) (WA.pure (i := 1) #[true, true, false, false, false, false, false, false, false] (blind_then (blind_then (blind_blk (blind_then (blind_then (blind_blk (blind_then (blind_body _ _)))))))) rfl (by kernel_rfl) rfl rfl rfl (fun _ => R.fa0 1 rfl rfl Try.underlying181 rfl Try.sz179 rfl) ?_)
  refine WA.idxA (i' := 2) (D := (digs 16 x.N)) #[true, true, true, false, false, false, false, false, false] (blind_then (blind_then (blind_blk (blind_then (blind_then (blind_blk (blind_then (blind_body _ _)))))))) rfl (by kernel_rfl) 1 rfl rfl rfl rfl rfl rfl (fun j => add_add _ _ _) Try.underlying179 Try.sz75 (digs_len 16 _) (by omega) (by omega) (fun y1 hy1 => ?_)
  have hab1 := digs_all _ _ hy1
  try simp only [Int.toNat_natCast, Int.reduceToNat] at hy1
  refine WA.take (i := 3) #[true, true, true, true, false, false, false, false, false] (blind_then (blind_then (blind_blk (blind_then (blind_then (blind_blk (blind_then (blind_body _ _)))))))) rfl (by kernel_rfl) rfl rfl rfl (fun _ hw => R.load rfl rfl Try.pl75 (cellz_le hw.1 (Blk.arr 1 rfl hB1 (by first | exact hy1 | (simp only [Int.toNat_natCast, Int.reduceToNat]; exact hy1))))) ⟨hH7.sub _ m1, hH7.sub _ m0, trivial⟩ (WA.pure (i := 4) #[true, true, true, true, true, false, false, false, false] (blind_then (blind_then (blind_blk (blind_then (blind_then (blind_blk (blind_then (blind_body _ _)))))))) rfl (by kernel_rfl) rfl rfl rfl (fun _ => R.move rfl rfl) (WA.pure (i := 5) #[true, true, true, true, true, true, false, false, false] (blind_then (blind_then (blind_blk (blind_then (blind_then (blind_blk (blind_then (blind_body _ _)))))))) rfl (by kernel_rfl) rfl rfl rfl (fun _ => R.fa0 1 rfl rfl Try.underlying181 rfl Try.sz179 rfl) ?_))
  refine WA.idxA (i' := 6) (D := (digs 16 y.N)) #[true, true, true, true, true, true, true, false, false] (blind_then (blind_then (blind_blk (blind_then (blind_then (blind_blk (blind_then (blind_body _ _)))))))) rfl (by kernel_rfl) 1 rfl rfl rfl rfl rfl rfl (fun j => add_add _ _ _) Try.underlying179 Try.sz75 (digs_len 16 _) (by omega) (by omega) (fun y2 hy2 => ?_)
  have hab2 := digs_all _ _ hy2
  try simp only [Int.toNat_natCast, Int.reduceToNat] at hy2
  refine WA.take (i := 7) #[true, true, true, true, true, true, true, true, false] (blind_then (blind_then (blind_blk (blind_then (blind_then (blind_blk (blind_then (blind_body _ _)))))))) rfl (by kernel_rfl) rfl rfl rfl (fun _ hw => R.load rfl rfl Try.pl75 (cellz_le hw.2.1 (Blk.arr 1 rfl hB2 (by first | exact hy2 | (simp only [Int.toNat_natCast, Int.reduceToNat]; exact hy2))))) ⟨hH7.sub _ m1, hH7.sub _ m0, trivial⟩ (WA.pure (i := 8) #[true, true, true, true, true, true, true, true, true] (blind_then (blind_then (blind_blk (blind_then (blind_then (blind_blk (blind_then (blind_body _ _)))))))) rfl (by kernel_rfl) rfl rfl rfl (fun _ => R.lss rfl rfl rfl) (WA.done (by kernel_rfl) (EX.then_n ?_)))
  refine CW.cond rfl (fun hc2 => ?_) (fun hc2 => ?_)
  replace hc2 := of_decide_eq_true hc2
  refine CW.seq (CW.region rfl (W.val rfl rfl rfl (R.assign rfl rfl) (W.nil (EX.then_n (CW.ret (EX.then_ret (EX.blk_ret ?_)))))))
  refine EX.then_ret (EX.then_ret (EX.blk_ret (EX.then_ret (EX.ret1 Try.results150 rfl ?_))))
  have hH8 := hH7.f2
  have hH9 := hH8.upto1
  refine ⟨?_, hH9⟩
  rw [cmp_lt he (by have q1 := digs_get hy1; have q2 := digs_get hy2; simp only [show ((((k + 1 : Nat) : Int) - 1)).toNat = k by omega] at q1 q2; omega)]
  replace hc2 := of_decide_eq_false hc2
  refine CW.skip (EX.then_n (CW.seq ?_))
  have hH10 := hH7.drew
  refine CW.draw (fun w => Sub zb1 w ∧ Sub zb2 w ∧ True) [] #[false, false, false, false, false, false, false, false, false] Try.mixed rfl rfl ⟨hH10.sub _ m1, hH10.sub _ m0, trivial⟩ (WA.pure (i := 0) #[true, false, false, false, false, false, false, false, false] (blind_then (blind_blk (blind_then (blind_then (blind_blk (blind_then (blind_body _ _))))))) rfl (by kernel_rfl) rfl rfl rfl (fun _ => R.move rfl rfl) (WA.pure (i := 1) #[true, true, false, false, false, false, false, false, false] (blind_then (blind_blk (blind_then (blind_then (blind_blk (blind_then (blind_body _ _))))))) rfl (by kernel_rfl) rfl rfl rfl (fun _ => R.fa0 1 rfl rfl Try.underlying181 rfl Try.sz179 rfl) ?_))
  refine WA.idxA (i' := 2) (D := (digs 16 x.N)) #[true, true, true, false, false, false, false, false, false] (blind_then (blind_blk (blind_then (blind_then (blind_blk (blind_then (blind_body _ _))))))) rfl (by kernel_rfl) 1 rfl rfl rfl rfl rfl rfl (fun j => add_add _ _ _) Try.underlying179 Try.sz75 (digs_len 16 _) (by omega) (by omega) (fun y3 hy3 => ?_)
  have hab3 := digs_all _ _ hy3
  try simp only [Int.toNat_natCast, Int.reduceToNat] at hy3
  refine WA.take (i := 3) #[true, true, true, true, false, false, false, false, false] (blind_then (blind_blk (blind_then (blind_then (blind_blk (blind_then (blind_body _ _))))))) rfl (by kernel_rfl) rfl rfl rfl (fun _ hw => R.load rfl rfl Try.pl75 (cellz_le hw.1 (Blk.arr 1 rfl hB1 (by first | exact hy3 | (simp only [Int.toNat_natCast, Int.reduceToNat]; exact hy3))))) ⟨hH10.sub _ m1, hH10.sub _ m0, trivial⟩ (WA.pure (i := 4) #[true, true, true, true, true, false, false, false, false] (blind_then (blind_blk (blind_then (blind_then (blind_blk (blind_then (blind_body _ _))))))) rfl (by kernel_rfl) rfl rfl rfl (fun _ => R.move rfl rfl) (WA.pure (i := 5) #[true, true, true, true, true, true, false, false, false] (blind_then (blind_blk (blind_then (blind_then (blind_blk (blind_then (blind_body _ _))))))) rfl (by kernel_rfl) rfl rfl rfl (fun _ => R.fa0 1 rfl rfl Try.underlying181 rfl Try.sz179 rfl) ?_))
  refine WA.idxA (i' := 6) (D := (digs 16 y.N)) #[true, true, true, true, true, true, true, false, false] (blind_then (blind_blk (blind_then (blind_then (blind_blk (blind_then (blind_body _ _))))))) rfl (by kernel_rfl) 1 rfl rfl rfl rfl rfl rfl (fun j => add_add _ _ _) Try.underlying179 Try.sz75 (digs_len 16 _) (by omega) (by omega) (fun y4 hy4 => ?_)
  have hab4 := digs_all _ _ hy4
  try simp only [Int.toNat_natCast, Int.reduceToNat] at hy4
  refine WA.take (i := 7) #[true, true, true, true, true, true, true, true, false] (blind_then (blind_blk (blind_then (blind_then (blind_blk (blind_then (blind_body _ _))))))) rfl (by kernel_rfl) rfl rfl rfl (fun _ hw => R.load rfl rfl Try.pl75 (cellz_le hw.2.1 (Blk.arr 1 rfl hB2 (by first | exact hy4 | (simp only [Int.toNat_natCast, Int.reduceToNat]; exact hy4))))) ⟨hH10.sub _ m1, hH10.sub _ m0, trivial⟩ (WA.pure (i := 8) #[true, true, true, true, true, true, true, true, true] (blind_then (blind_blk (blind_then (blind_then (blind_blk (blind_then (blind_body _ _))))))) rfl (by kernel_rfl) rfl rfl rfl (fun _ => R.gtr rfl rfl rfl) (WA.done (by kernel_rfl) (EX.then_n ?_)))
  refine CW.cond rfl (fun hc3 => ?_) (fun hc3 => ?_)
  replace hc3 := of_decide_eq_true hc3
  refine CW.seq (CW.region rfl (W.val rfl rfl rfl (R.assign rfl rfl) (W.nil (EX.then_n (CW.ret (EX.blk_ret (EX.then_ret ?_)))))))
  refine EX.then_ret (EX.blk_ret (EX.then_ret (EX.ret1 Try.results150 rfl ?_)))
  have hH11 := hH10.f2
  have hH12 := hH11.upto1
  refine ⟨?_, hH12⟩
  rw [cmp_gt he (by have q1 := digs_get hy3; have q2 := digs_get hy4; simp only [show ((((k + 1 : Nat) : Int) - 1)).toNat = k by omega] at q1 q2; omega)]
  replace hc3 := of_decide_eq_false hc3
  refine CW.skip (EX.blk_n (EX.then_n (CW.region rfl (W.val rfl rfl rfl (R.move rfl rfl) (W.val rfl rfl rfl (R.subx rfl rfl rfl (ok_i64 (by omega))) (W.val rfl rfl rfl (R.assign rfl rfl) (W.nil ?_)))))))
  have hH13 := hH10.f2
  have hH14 := hH13.f2
  have hH15 := hH14.f2
  have hH16 := hH15.upto3
  refine EX.back4 _ _ rfl ?_ (by rw [hI1]; exact ⟨k, rfl, rfl, hH16, by omega, digs_eq he (by have q1 := digs_get hy3; have q2 := digs_get hy4; have q3 := digs_get hy1; have q4 := digs_get hy2; simp only [show ((((k + 1 : Nat) : Int) - 1)).toNat = k by omega] at q1 q2 q3 q4; omega)⟩) ?_
  exact ⟨lk_int rfl (by first | rfl | omega), trivial⟩
  omega
  replace hc1 := of_decide_eq_false hc1
  refine CW.exit (EX.then_exit (EX.then_exit (EX.blk_here (EX.then_n (CW.seq (CW.region rfl (W.val rfl rfl rfl (R.assign rfl rfl) ?_)))))))
  refine W.nil (EX.then_n (CW.ret (EX.ret1 Try.results150 rfl ?_)))
  have hH17 := hH6.f2
  have hH18 := hH17.upto1
  refine ⟨?_, hH18⟩
  obtain rfl : t = 0 := by omega
  rw [cmp_eq he]

end Go.Proofs.Gw
namespace Go.Proofs.Gw
open Go Go.Gw Go.Proofs Go.RowKit
set_option maxRecDepth 100000 in
set_option maxHeartbeats 1000000 in
theorem r04_down (x : GLong) (csx : List Value) (y : GLong) (csy : List Value) (w0 : World) (hx : kLong.K (hp w0) x csx) (hy : kLong.K (hp w0) y csy) (hxy : y.N ≤ x.N) : Calls Try.prog 151 #[.agg csx.toArray, .agg csy.toArray] w0 (Ret fun v w' => ∃ (cs0 : List Value), v = .agg cs0.toArray ∧ Has w0 w' [hp w0] ∧ kLong.K emp (⟨x.Below, x.N - y.N⟩) cs0) := by
  refine fnstart (N := 37) Try.func151 rfl Try.ntmps151 (Nat.le_of_ble_eq_true rfl) ?_
  have hH0 : Has w0 w0 [hp w0] := Has.refl w0
  have hK1 := hx
  obtain ⟨_, _, rfl, rfl, hlt1, rfl⟩ := hK1
  have hK2 := hy
  obtain ⟨_, _, rfl, rfl, hlt2, rfl⟩ := hK2
  refine CW.seq (CW.region rfl ?_)
  refine W.box rfl rfl rfl rfl rfl rfl hH0 (fun b1 zb1 w1 hH1 hB1 => ?_)
  refine W.box rfl rfl rfl rfl rfl rfl hH1 (fun b2 zb2 w2 hH2 hB2 => ?_)
  refine W.alloc rfl rfl rfl rfl Try.zr181 rfl hH2 (fun b3 zb3 w3 hH3 hB3 => ?_)
  obtain ⟨D1, hD1⟩ : ∃ D : List Int, D = List.replicate 16 (0 : Int) := ⟨_, rfl⟩
  have hB4 : Blk zb3 b3 181 ([.bool false] ++ D1.map (vI .u64)) := by rw [hD1]; exact hB3
  have hDl1 : D1.length = 16 := by rw [hD1]; rfl
  have hDb1 : ∀ (i : Nat) d, D1[i]? = some d → (0 : Int) ≤ d ∧ d ≤ 18446744073709551615 := by rw [hD1]; exact rep_bd (by decide)
  refine W.nil (EX.then_n (CW.seq (CW.region rfl (W.val rfl rfl rfl (R.fa0 0 rfl rfl Try.underlying181 rfl Try.sz4 rfl) (W.ldk rfl rfl rfl rfl rfl Try.pl4 hH3 m2 hB1 rfl (W.val rfl rfl rfl (R.build rfl rfl Try.zr181 rfl (by rw [Try.underlying181]; rfl) Try.plc181 rfl) (W.re (d := 11) (v := Value.agg (([.bool x.Below] : List Value) ++ (digs 16 0).map (vI .u64)).toArray) rfl rfl ?_)))))))
  refine W.alloc rfl rfl rfl rfl Try.zr181 rfl hH3 (fun b4 zb4 w4 hH4 hB5 => ?_)
  obtain ⟨D2, hD2⟩ : ∃ D : List Int, D = List.replicate 16 (0 : Int) := ⟨_, rfl⟩
  have hB6 : Blk zb4 b4 181 ([.bool false] ++ D2.map (vI .u64)) := by rw [hD2]; exact hB5
  have hDl2 : D2.length = 16 := by rw [hD2]; rfl
  have hDb2 : ∀ (i : Nat) d, D2[i]? = some d → (0 : Int) ≤ d ∧ d ≤ 18446744073709551615 := by rw [hD2]; exact rep_bd (by decide)
  refine W.sg0 rfl rfl rfl rfl rfl (Try.sz181.trans (congrArg some (arr_len1 (digs_len 16 _)).symm)) (arr_one rfl) (arr_same (by rfl) (digs_len 16 _) hDl2) hH4 hB6 (fun zb5 w5 hH5 hB7 => ?_)
  refine W.nil (EX.then_n (CW.seq (CW.region rfl (W.val rfl rfl rfl (R.assign rfl rfl) (W.nil (EX.then_n (CW.seq ?_)))))))
  refine CW.seq (CW.region rfl (W.val rfl rfl rfl (R.assign rfl rfl) (W.nil (EX.then_n (CW.block ?_)))))
  have hH6 := hH5.f4
  have hH7 := hH6.f4
  have hH8 := hH7.f4
  have hH9 := hH8.f4
  have hH10 := hH9.f4
  obtain ⟨I1, hI1⟩ : ∃ I : Nat → List (Nat × Value) → World → Prop, I = (fun n_ D_ w_ => ∃ (k : Nat) (n : Nat) (c : Nat) (zv : PH), D_ = [(7, .int .i64 (k : Int)), (6, .int .u64 (c : Int))] ∧ n_ = 16 - k ∧ Has w0 w_ [zv, zb3, zb2, zb1, (hp w0)] ∧ (k ≤ 16) ∧ (c ≤ 1) ∧ (DownI x.N y.N k n c) ∧ (Blk zv b4 181 ([.bool x.Below] ++ (digs 16 (n)).map (vI .u64)))) := ⟨_, rfl⟩
  refine CW.loop3 [6, 7, 8, 12, 13, 14, 15, 16, 17, 18, 19, 20, 21, 22, 23, 24, 25, 26, 27, 28, 29, 30, 31, 32, 33, 34, 35] I1 _ _ ?_ (by rw [hI1]; exact ⟨0, 0, 0, _, rfl, rfl, hH10, by omega, by omega, DownI.zero _ _, hB7⟩) ?_
  exact ⟨lk_int rfl (by first | rfl | omega), lk_int rfl (by first | rfl | omega), trivial⟩
  intro n1 D w6 hn1
  rw [hI1] at hn1
  obtain ⟨k, n, c, zv, rfl, hme1, hH11, hk, hc, hI, hBv⟩ := hn1
  refine CW.seq (CW.seq (CW.region rfl (W.val rfl rfl rfl (R.move rfl rfl) (W.val rfl rfl rfl (R.lss rfl rfl rfl) (W.nil (EX.then_n ?_))))))
  refine CW.cond rfl (fun hc1 => ?_) (fun hc1 => ?_)
  replace hc1 := of_decide_eq_true hc1
  refine CW.skip (EX.then_n (CW.seq (CW.block (CW.seq ?_))))
  have hH12 := hH11.drew
  refine CW.draw (fun w => Sub zb1 w ∧ Sub zb2 w ∧ True) [] #[false, false, false, false, false, false, false, false, false, false, false, false, false] Try.mixed rfl rfl ⟨hH12.sub _ m3, hH12.sub _ m2, trivial⟩ (WA.pure (i := 0) #[true, false, false, false, false, false, false, false, false, false, false, false, false] (blind_then (blind_blk (blind_then (blind_then (blind_blk (blind_then (blind_body _ _))))))) rfl (by kernel_rfl) rfl rfl rfl (fun _ => R.move rfl rfl) (WA.pure (i := 1) #[true, true, false, false, false, false, false, false, false, false, false, false, false] (blind_then (blind_blk (blind_then (blind_then (blind_blk (blind_then (blind_body _ _))))))) rfl (by kernel_rfl) rfl rfl rfl (fun _ => R.fa0 1 rfl rfl Try.underlying181 rfl Try.sz179 rfl) ?_))
  refine WA.idxA (i' := 2) (D := (digs 16 x.N)) #[true, true, true, false, false, false, false, false, false, false, false, false, false] (blind_then (blind_blk (blind_then (blind_then (blind_blk (blind_then (blind_body _ _))))))) rfl (by kernel_rfl) 1 rfl rfl rfl rfl rfl rfl (fun j => add_add _ _ _) Try.underlying179 Try.sz75 (digs_len 16 _) (by omega) (by omega) (fun y1 hy1 => ?_)
  have hab1 := digs_all _ _ hy1
  try simp only [Int.toNat_natCast, Int.reduceToNat] at hy1
  refine WA.take (i := 3) #[true, true, true, true, false, false, false, false, false, false, false, false, false] (blind_then (blind_blk (blind_then (blind_then (blind_blk (blind_then (blind_body _ _))))))) rfl (by kernel_rfl) rfl rfl rfl (fun _ hw => R.load rfl rfl Try.pl75 (cellz_le hw.1 (Blk.arr 1 rfl hB1 (by first | exact hy1 | (simp only [Int.toNat_natCast, Int.reduceToNat]; exact hy1))))) ⟨hH12.sub _ m3, hH12.sub _ m2, trivial⟩ (WA.pure (i := 4) #[true, true, true, true, true, false, false, false, false, false, false, false, false] (blind_then (blind_blk (blind_then (blind_then (blind_blk (blind_then (blind_body _ _))))))) rfl (by kernel_rfl) rfl rfl rfl (fun _ => R.addx rfl rfl rfl (ok_u64 (by omega))) (WA.pure (i := 5) #[true, true, true, true, true, true, false, false, false, false, false, false, false] (blind_then (blind_blk (blind_then (blind_then (blind_blk (blind_then (blind_body _ _))))))) rfl (by kernel_rfl) rfl rfl rfl (fun _ => R.move rfl rfl) (WA.pure (i := 6) #[true, true, true, true, true, true, true, false, false, false, false, false, false] (blind_then (blind_blk (blind_then (blind_then (blind_blk (blind_then (blind_body _ _))))))) rfl (by kernel_rfl) rfl rfl rfl (fun _ => R.fa0 1 rfl rfl Try.underlying181 rfl Try.sz179 rfl) ?_)))
  refine WA.idxA (i' := 7) (D := (digs 16 y.N)) #[true, true, true, true, true, true, true, true, false, false, false, false, false] (blind_then (blind_blk (blind_then (blind_then (blind_blk (blind_then (blind_body _ _))))))) rfl (by kernel_rfl) 1 rfl rfl rfl rfl rfl rfl (fun j => add_add _ _ _) Try.underlying179 Try.sz75 (digs_len 16 _) (by omega) (by omega) (fun y2 hy2 => ?_)
  have hab2 := digs_all _ _ hy2
  try simp only [Int.toNat_natCast, Int.reduceToNat] at hy2
  refine WA.take (i := 8) #[true, true, true, true, true, true, true, true, true, false, false, false, false] (blind_then (blind_blk (blind_then (blind_then (blind_blk (blind_then (blind_body _ _))))))) rfl (by kernel_rfl) rfl rfl rfl (fun _ hw => R.load rfl rfl Try.pl75 (cellz_le hw.2.1 (Blk.arr 1 rfl hB2 (by first | exact hy2 | (simp only [Int.toNat_natCast, Int.reduceToNat]; exact hy2))))) ⟨hH12.sub _ m3, hH12.sub _ m2, trivial⟩ (WA.pure (i := 9) #[true, true, true, true, true, true, true, true, true, true, false, false, false] (blind_then (blind_blk (blind_then (blind_then (blind_blk (blind_then (blind_body _ _))))))) rfl (by kernel_rfl) rfl rfl rfl (fun _ => R.subx rfl rfl rfl (ok_u64 (by omega))) (WA.pure (i := 10) #[true, true, true, true, true, true, true, true, true, true, true, false, false] (blind_then (blind_blk (blind_then (blind_then (blind_blk (blind_then (blind_body _ _))))))) rfl (by kernel_rfl) rfl rfl rfl (fun _ => R.move rfl rfl) (WA.pure (i := 11) #[true, true, true, true, true, true, true, true, true, true, true, true, false] (blind_then (blind_blk (blind_then (blind_then (blind_blk (blind_then (blind_body _ _))))))) rfl (by kernel_rfl) rfl rfl rfl (fun _ => R.subx rfl rfl rfl (ok_u64 (by omega))) (WA.pure (i := 12) #[true, true, true, true, true, true, true, true, true, true, true, true, true] (blind_then (blind_blk (blind_then (blind_then (blind_blk (blind_then (blind_body _ _))))))) rfl (by kernel_rfl) rfl rfl rfl (fun _ => R.assign rfl rfl) (WA.done (by kernel_rfl) (EX.then_n (CW.seq ?_)))))))
  refine CW.region rfl ?_
  obtain ⟨s, hs⟩ : ∃ s : Nat, (s : Int) = y1 + 65536 - y2 - c := ⟨(y1 + 65536 - y2 - c).toNat, by omega⟩
  refine W.val rfl rfl rfl (R.move rfl rfl) (W.val rfl rfl rfl (R.move rfl rfl) (W.val rfl rfl rfl (R.rem rfl rfl rfl (by omega) (by omega)) (W.val rfl rfl rfl (R.fa0 1 rfl rfl Try.underlying181 rfl Try.sz179 rfl) ?_)))
  refine W.idxA (D := (digs 16 n)) 1 rfl rfl rfl rfl rfl rfl (fun j => add_add _ _ _) Try.underlying179 Try.sz75 (digs_len 16 _) (by omega) (by omega) (fun y3 hy3 => ?_)
  have hab3 := digs_all _ _ hy3
  try simp only [Int.toNat_natCast, Int.reduceToNat] at hy3
  refine W.stA 1 rfl rfl rfl rfl rfl Try.sz75 rfl (Nat.lt_of_lt_of_eq (m := 16) (by omega) (Eq.symm (digs_len 16 _))) hH12 hBv (fun zb6 w7 D3 hD3 hDl3 hH13 hB8 => ?_)
  replace hDl3 := hDl3.trans (digs_len 16 _)
  replace hD3 : D3 = digs 16 (n + s % 65536 * 65536 ^ k) := hD3.trans (put_new_s (s := s) (by omega) hI.1 (by omega))
  subst hD3
  refine W.nil (EX.then_n (CW.region rfl (W.val rfl rfl rfl (R.move rfl rfl) (W.val rfl rfl rfl (R.quo rfl rfl rfl (by omega) (by omega) (ok_u64 (by omega))) (W.val rfl rfl rfl (R.subx rfl rfl rfl (ok_u64 (by omega))) (W.val rfl rfl rfl (R.assign rfl rfl) (W.nil ?_)))))))
  refine EX.blk_n (EX.then_n (CW.region rfl (W.val rfl rfl rfl (R.move rfl rfl) (W.val rfl rfl rfl (R.addx rfl rfl rfl (ok_i64 (by omega))) (W.val rfl rfl rfl (R.assign rfl rfl) (W.nil ?_))))))
  have hH14 := hH13.f4
  have hH15 := hH14.f4
  have hH16 := hH15.f4
  have hH17 := hH16.f4
  have hH18 := hH17.f4
  have hH19 := hH18.upto5
  refine EX.back4 _ _ rfl ?_ (by rw [hI1]; exact ⟨k + 1, _, 1 - s / 65536, _, rfl, rfl, hH19, by omega, by omega, hI.step (s := s) (by have q1 := digs_get hy1; have q2 := digs_get hy2; omega), hB8⟩) ?_
  exact ⟨lk_int rfl (by first | rfl | omega), lk_int rfl (by first | rfl | omega), trivial⟩
  omega
  replace hc1 := of_decide_eq_false hc1
  refine CW.exit (EX.then_exit (EX.then_exit (EX.blk_here (EX.then_n (CW.seq (CW.region rfl (W.lg0 rfl rfl rfl rfl rfl Try.pl181 (by rw [Try.underlying181]; rfl) (Try.sz181.trans (congrArg some (arr_len1 (digs_len 16 _)).symm)) hH11 m0 hBv ?_)))))))
  have hH20 := hH11.f1
  refine W.sg0 rfl rfl rfl rfl rfl (Try.sz181.trans (congrArg some (arr_len1 (digs_len 16 _)).symm)) (arr_one rfl) (arr_same (by rfl) (digs_len 16 _) hDl1) hH20 hB4 (fun zb7 w8 hH21 hB9 => ?_)
  refine W.nil (EX.then_n (CW.ret (EX.retV Try.results151 (.cons (.agg rfl (fun w => run_isAgg_struct Try.underlying181 w) (Try.sz181.trans (congrArg some (arr_len1 (digs_len 16 _)).symm)) (fun k u hk => hH21.cell m0 (hB9.at_ k u hk))) RVs.nil) ?_)))
  have hH22 := hH21.f4
  have hH23 := hH22.upto1
  obtain rfl : k = 16 := by omega
  obtain rfl := hI.done hlt1 hlt2 hxy
  refine ⟨_, ?_, hH23, ⟨_, _, rfl, rfl, (by first | assumption | exact trivial | omega | (dsimp only; first | assumption | omega)), rfl⟩⟩
  rfl

end Go.Proofs.Gw
namespace Go.Proofs.Gw
open Go Go.Gw Go.Proofs Go.RowKit
set_option maxRecDepth 100000 in
set_option maxHeartbeats 1000000 in
theorem r04_up (x : GLong) (csx : List Value) (y : GLong) (csy : List Value) (w0 : World) (hx : kLong.K (hp w0) x csx) (hy : kLong.K (hp w0) y csy) (hxy : x.N + y.N < 65536 ^ 16) : Calls Try.prog 149 #[.agg csx.toArray, .agg csy.toArray] w0 (Ret fun v w' => ∃ (cs0 : List Value), v = .agg cs0.toArray ∧ Has w0 w' [hp w0] ∧ kLong.K emp (⟨x.Below, x.N + y.N⟩) cs0) := by
  refine fnstart (N := 35) Try.func149 rfl Try.ntmps149 (Nat.le_of_ble_eq_true rfl) ?_
  have hH0 : Has w0 w0 [hp w0] := Has.refl w0
  have hK1 := hx
  obtain ⟨_, _, rfl, rfl, hlt1, rfl⟩ := hK1
  have hK2 := hy
  obtain ⟨_, _, rfl, rfl, hlt2, rfl⟩ := hK2
  refine CW.seq (CW.region rfl ?_)
  refine W.box rfl rfl rfl rfl rfl rfl hH0 (fun b1 zb1 w1 hH1 hB1 => ?_)
  refine W.box rfl rfl rfl rfl rfl rfl hH1 (fun b2 zb2 w2 hH2 hB2 => ?_)
  refine W.alloc rfl rfl rfl rfl Try.zr181 rfl hH2 (fun b3 zb3 w3 hH3 hB3 => ?_)
  obtain ⟨D1, hD1⟩ : ∃ D : List Int, D = List.replicate 16 (0 : Int) := ⟨_, rfl⟩
  have hB4 : Blk zb3 b3 181 ([.bool false] ++ D1.map (vI .u64)) := by rw [hD1]; exact hB3
  have hDl1 : D1.length = 16 := by rw [hD1]; rfl
  have hDb1 : ∀ (i : Nat) d, D1[i]? = some d → (0 : Int) ≤ d ∧ d ≤ 18446744073709551615 := by rw [hD1]; exact rep_bd (by decide)
  refine W.nil (EX.then_n (CW.seq (CW.region rfl (W.val rfl rfl rfl (R.fa0 0 rfl rfl Try.underlying181 rfl Try.sz4 rfl) (W.ldk rfl rfl rfl rfl rfl Try.pl4 hH3 m2 hB1 rfl (W.val rfl rfl rfl (R.build rfl rfl Try.zr181 rfl (by rw [Try.underlying181]; rfl) Try.plc181 rfl) (W.re (d := 11) (v := Value.agg (([.bool x.Below] : List Value) ++ (digs 16 0).map (vI .u64)).toArray) rfl rfl ?_)))))))
  refine W.alloc rfl rfl rfl rfl Try.zr181 rfl hH3 (fun b4 zb4 w4 hH4 hB5 => ?_)
  obtain ⟨D2, hD2⟩ : ∃ D : List Int, D = List.replicate 16 (0 : Int) := ⟨_, rfl⟩
  have hB6 : Blk zb4 b4 181 ([.bool false] ++ D2.map (vI .u64)) := by rw [hD2]; exact hB5
  have hDl2 : D2.length = 16 := by rw [hD2]; rfl
  have hDb2 : ∀ (i : Nat) d, D2[i]? = some d → (0 : Int) ≤ d ∧ d ≤ 18446744073709551615 := by rw [hD2]; exact rep_bd (by decide)
  refine W.sg0 rfl rfl rfl rfl rfl (Try.sz181.trans (congrArg some (arr_len1 (digs_len 16 _)).symm)) (arr_one rfl) (arr_same (by rfl) (digs_len 16 _) hDl2) hH4 hB6 (fun zb5 w5 hH5 hB7 => ?_)
  refine W.nil (EX.then_n (CW.seq (CW.region rfl (W.val rfl rfl rfl (R.assign rfl rfl) (W.nil (EX.then_n (CW.seq ?_)))))))
  refine CW.seq (CW.region rfl (W.val rfl rfl rfl (R.assign rfl rfl) (W.nil (EX.then_n (CW.block ?_)))))
  have hH6 := hH5.f4
  have hH7 := hH6.f4
  have hH8 := hH7.f4
  have hH9 := hH8.f4
  have hH10 := hH9.f4
  obtain ⟨I1, hI1⟩ : ∃ I : Nat → List (Nat × Value) → World → Prop, I = (fun n_ D_ w_ => ∃ (k : Nat) (n : Nat) (c : Nat) (zv : PH), D_ = [(7, .int .i64 (k : Int)), (6, .int .u64 (c : Int))] ∧ n_ = 16 - k ∧ Has w0 w_ [zv, zb3, zb2, zb1, (hp w0)] ∧ (k ≤ 16) ∧ (c ≤ 65535) ∧ (UpI x.N y.N k n c) ∧ (Blk zv b4 181 ([.bool x.Below] ++ (digs 16 (n)).map (vI .u64)))) := ⟨_, rfl⟩
  refine CW.loop3 [6, 7, 8, 12, 13, 14, 15, 16, 17, 18, 19, 20, 21, 22, 23, 24, 25, 26, 27, 28, 29, 30, 31, 32, 33] I1 _ _ ?_ (by rw [hI1]; exact ⟨0, 0, 0, _, rfl, rfl, hH10, by omega, by omega, UpI.zero _ _, hB7⟩) ?_
  exact ⟨lk_int rfl (by first | rfl | omega), lk_int rfl (by first | rfl | omega), trivial⟩
  intro n1 D w6 hn1
  rw [hI1] at hn1
  obtain ⟨k, n, c, zv, rfl, hme1, hH11, hk, hc, hI, hBv⟩ := hn1
  refine CW.seq (CW.seq (CW.region rfl (W.val rfl rfl rfl (R.move rfl rfl) (W.val rfl rfl rfl (R.lss rfl rfl rfl) (W.nil (EX.then_n ?_))))))
  refine CW.cond rfl (fun hc1 => ?_) (fun hc1 => ?_)
  replace hc1 := of_decide_eq_true hc1
  refine CW.skip (EX.then_n (CW.seq (CW.block (CW.seq ?_))))
  have hH12 := hH11.drew
  refine CW.draw (fun w => Sub zb1 w ∧ Sub zb2 w ∧ True) [] #[false, false, false, false, false, false, false, false, false, false, false, false] Try.mixed rfl rfl ⟨hH12.sub _ m3, hH12.sub _ m2, trivial⟩ (WA.pure (i := 0) #[true, false, false, false, false, false, false, false, false, false, false, false] (blind_then (blind_blk (blind_then (blind_then (blind_blk (blind_then (blind_body _ _))))))) rfl (by kernel_rfl) rfl rfl rfl (fun _ => R.move rfl rfl) (WA.pure (i := 1) #[true, true, false, false, false, false, false, false, false, false, false, false] (blind_then (blind_blk (blind_then (blind_then (blind_blk (blind_then (blind_body _ _))))))) rfl (by kernel_rfl) rfl rfl rfl (fun _ => R.fa0 1 rfl rfl Try.underlying181 rfl Try.sz179 rfl) ?_))
  refine WA.idxA (i' := 2) (D := (digs 16 x.N)) #[true, true, true, false, false, false, false, false, false, false, false, false] (blind_then (blind_blk (blind_then (blind_then (blind_blk (blind_then (blind_body _ _))))))) rfl (by kernel_rfl) 1 rfl rfl rfl rfl rfl rfl (fun j => add_add _ _ _) Try.underlying179 Try.sz75 (digs_len 16 _) (by omega) (by omega) (fun y1 hy1 => ?_)
  have hab1 := digs_all _ _ hy1
  try simp only [Int.toNat_natCast, Int.reduceToNat] at hy1
  refine WA.take (i := 3) #[true, true, true, true, false, false, false, false, false, false, false, false] (blind_then (blind_blk (blind_then (blind_then (blind_blk (blind_then (blind_body _ _))))))) rfl (by kernel_rfl) rfl rfl rfl (fun _ hw => R.load rfl rfl Try.pl75 (cellz_le hw.1 (Blk.arr 1 rfl hB1 (by first | exact hy1 | (simp only [Int.toNat_natCast, Int.reduceToNat]; exact hy1))))) ⟨hH12.sub _ m3, hH12.sub _ m2, trivial⟩ (WA.pure (i := 4) #[true, true, true, true, true, false, false, false, false, false, false, false] (blind_then (blind_blk (blind_then (blind_then (blind_blk (blind_then (blind_body _ _))))))) rfl (by kernel_rfl) rfl rfl rfl (fun _ => R.move rfl rfl) (WA.pure (i := 5) #[true, true, true, true, true, true, false, false, false, false, false, false] (blind_then (blind_blk (blind_then (blind_then (blind_blk (blind_then (blind_body _ _))))))) rfl (by kernel_rfl) rfl rfl rfl (fun _ => R.fa0 1 rfl rfl Try.underlying181 rfl Try.sz179 rfl) ?_))
  refine WA.idxA (i' := 6) (D := (digs 16 y.N)) #[true, true, true, true, true, true, true, false, false, false, false, false] (blind_then (blind_blk (blind_then (blind_then (blind_blk (blind_then (blind_body _ _))))))) rfl (by kernel_rfl) 1 rfl rfl rfl rfl rfl rfl (fun j => add_add _ _ _) Try.underlying179 Try.sz75 (digs_len 16 _) (by omega) (by omega) (fun y2 hy2 => ?_)
  have hab2 := digs_all _ _ hy2
  try simp only [Int.toNat_natCast, Int.reduceToNat] at hy2
  refine WA.take (i := 7) #[true, true, true, true, true, true, true, true, false, false, false, false] (blind_then (blind_blk (blind_then (blind_then (blind_blk (blind_then (blind_body _ _))))))) rfl (by kernel_rfl) rfl rfl rfl (fun _ hw => R.load rfl rfl Try.pl75 (cellz_le hw.2.1 (Blk.arr 1 rfl hB2 (by first | exact hy2 | (simp only [Int.toNat_natCast, Int.reduceToNat]; exact hy2))))) ⟨hH12.sub _ m3, hH12.sub _ m2, trivial⟩ (WA.pure (i := 8) #[true, true, true, true, true, true, true, true, true, false, false, false] (blind_then (blind_blk (blind_then (blind_then (blind_blk (blind_then (blind_body _ _))))))) rfl (by kernel_rfl) rfl rfl rfl (fun _ => R.addx rfl rfl rfl (ok_u64 (by omega))) (WA.pure (i := 9) #[true, true, true, true, true, true, true, true, true, true, false, false] (blind_then (blind_blk (blind_then (blind_then (blind_blk (blind_then (blind_body _ _))))))) rfl (by kernel_rfl) rfl rfl rfl (fun _ => R.move rfl rfl) (WA.pure (i := 10) #[true, true, true, true, true, true, true, true, true, true, true, false] (blind_then (blind_blk (blind_then (blind_then (blind_blk (blind_then (blind_body _ _))))))) rfl (by kernel_rfl) rfl rfl rfl (fun _ => R.addx rfl rfl rfl (ok_u64 (by omega))) (WA.pure (i := 11) #[true, true, true, true, true, true, true, true, true, true, true, true] (blind_then (blind_blk (blind_then (blind_then (blind_blk (blind_then (blind_body _ _))))))) rfl (by kernel_rfl) rfl rfl rfl (fun _ => R.assign rfl rfl) (WA.done (by kernel_rfl) (EX.then_n (CW.seq ?_)))))))
  refine CW.region rfl ?_
  obtain ⟨s, hs⟩ : ∃ s : Nat, (s : Int) = y1 + y2 + c := ⟨(y1 + y2 + c).toNat, by omega⟩
  refine W.val rfl rfl rfl (R.move rfl rfl) (W.val rfl rfl rfl (R.move rfl rfl) (W.val rfl rfl rfl (R.rem rfl rfl rfl (by omega) (by omega)) (W.val rfl rfl rfl (R.fa0 1 rfl rfl Try.underlying181 rfl Try.sz179 rfl) ?_)))
  refine W.idxA (D := (digs 16 n)) 1 rfl rfl rfl rfl rfl rfl (fun j => add_add _ _ _) Try.underlying179 Try.sz75 (digs_len 16 _) (by omega) (by omega) (fun y3 hy3 => ?_)
  have hab3 := digs_all _ _ hy3
  try simp only [Int.toNat_natCast, Int.reduceToNat] at hy3
  refine W.stA 1 rfl rfl rfl rfl rfl Try.sz75 rfl (Nat.lt_of_lt_of_eq (m := 16) (by omega) (Eq.symm (digs_len 16 _))) hH12 hBv (fun zb6 w7 D3 hD3 hDl3 hH13 hB8 => ?_)
  replace hDl3 := hDl3.trans (digs_len 16 _)
  replace hD3 : D3 = digs 16 (n + s % 65536 * 65536 ^ k) := hD3.trans (put_new_s (s := s) (by omega) hI.1 (by omega))
  subst hD3
  refine W.nil (EX.then_n (CW.region rfl (W.val rfl rfl rfl (R.move rfl rfl) (W.val rfl rfl rfl (R.quo rfl rfl rfl (by omega) (by omega) (ok_u64 (by omega))) (W.val rfl rfl rfl (R.assign rfl rfl) (W.nil (EX.blk_n ?_)))))))
  refine EX.then_n (CW.region rfl (W.val rfl rfl rfl (R.move rfl rfl) (W.val rfl rfl rfl (R.addx rfl rfl rfl (ok_i64 (by omega))) (W.val rfl rfl rfl (R.assign rfl rfl) (W.nil ?_)))))
  have hH14 := hH13.f4
  have hH15 := hH14.f4
  have hH16 := hH15.f4
  have hH17 := hH16.f4
  have hH18 := hH17.f4
  have hH19 := hH18.upto5
  refine EX.back4 _ _ rfl ?_ (by rw [hI1]; exact ⟨k + 1, _, s / 65536, _, rfl, rfl, hH19, by omega, by omega, hI.step (s := s) (by have q1 := digs_get hy1; have q2 := digs_get hy2; omega), hB8⟩) ?_
  exact ⟨lk_int rfl (by first | rfl | omega), lk_int rfl (by first | rfl | omega), trivial⟩
  omega
  replace hc1 := of_decide_eq_false hc1
  refine CW.exit (EX.then_exit (EX.then_exit (EX.blk_here (EX.then_n (CW.seq (CW.region rfl (W.lg0 rfl rfl rfl rfl rfl Try.pl181 (by rw [Try.underlying181]; rfl) (Try.sz181.trans (congrArg some (arr_len1 (digs_len 16 _)).symm)) hH11 m0 hBv ?_)))))))
  have hH20 := hH11.f1
  refine W.sg0 rfl rfl rfl rfl rfl (Try.sz181.trans (congrArg some (arr_len1 (digs_len 16 _)).symm)) (arr_one rfl) (arr_same (by rfl) (digs_len 16 _) hDl1) hH20 hB4 (fun zb7 w8 hH21 hB9 => ?_)
  refine W.nil (EX.then_n (CW.ret (EX.retV Try.results149 (.cons (.agg rfl (fun w => run_isAgg_struct Try.underlying181 w) (Try.sz181.trans (congrArg some (arr_len1 (digs_len 16 _)).symm)) (fun k u hk => hH21.cell m0 (hB9.at_ k u hk))) RVs.nil) ?_)))
  have hH22 := hH21.f4
  have hH23 := hH22.upto1
  obtain rfl : k = 16 := by omega
  obtain rfl := hI.done hxy
  refine ⟨_, ?_, hH23, ⟨_, _, rfl, rfl, (by first | assumption | exact trivial | omega | (dsimp only; first | assumption | omega)), rfl⟩⟩
  rfl

end Go.Proofs.Gw
