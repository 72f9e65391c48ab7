/- Words and walks of my own: what each function of the program and of the library that the law reaches comes to, for every input that its callers hand it (file 3 of 5). Conditions: none but those that each theorem names. -/
import Derived.Test.YtpjildchnelinaaGw1
set_option linter.unusedVariables false
set_option linter.unnecessarySimpa false
set_option linter.unusedSimpArgs false
set_option linter.unusedSectionVars false
namespace Go.Proofs.Gw
open Go Go.Gw Go.Proofs Go.RowKit
set_option maxRecDepth 100000 in
set_option maxHeartbeats 1000000 in
theorem order_Valid (s : GState) (css : List Value) (w0 : World) (hs : kState.K (hp w0) s css) : Calls Try.prog 39 #[.agg css.toArray] w0 (Ret fun v w' => v = .bool (validS s) ∧ Has w0 w' [hp w0]) := by
  refine fnstart (N := 107) Try.func39 rfl Try.ntmps39 (Nat.le_of_ble_eq_true rfl) ?_
  have hH0 : Has w0 w0 [hp w0] := Has.refl w0
  have hK1 := hs
  obtain ⟨A1, c1, rfl, hb1, hb2, hb3, hb4, hb5, hb6, hb7, hb8, hb9, hb10, hb11, hb12, hb13, hb14, hb15, hb16, hb17, hb18, hb19, hb20, hb21, hl1, hr1⟩ := hK1
  have hlen1 := hr1.len
  refine CW.seq (CW.region rfl ?_)
  refine W.box rfl rfl rfl rfl rfl rfl hH0 (fun b1 zb1 w1 hH1 hB1 => ?_)
  refine W.val rfl rfl rfl (R.assign rfl rfl) (W.nil (EX.then_n (CW.seq (CW.seq ?_))))
  have hH2 := hH1.drew
  refine CW.draw (fun w => Sub zb1 w ∧ True) [] #[false, false, false, false, false, false, false, false, false, false] Try.mixed rfl rfl ⟨hH2.sub _ m0, trivial⟩ (WA.take (i := 0) #[true, false, false, false, false, false, false, false, false, false] (blind_then (blind_then (blind_body _ _))) rfl (by kernel_rfl) rfl rfl rfl (fun _ hw => R.loadAgg rfl rfl (run_isAgg_struct Try.underlying28) (by exact Try.sz28) (hB1.at_.le hw.1)) ⟨hH2.sub _ m0, trivial⟩ (WA.one (i := 1) #[true, true, false, false, false, false, false, false, false, false] rfl (by kernel_rfl) rfl (W.call rfl rfl rfl rfl rfl Try.func84 Try.nm84 Try.bd84 (order_bounded s _ (w1.drew) (hs.mono (hH2.le m1))) ?_)))
  rintro v1 w2 ⟨rfl, hH3⟩
  have hH4 := hH2.c0 hH3
  refine W.nil (EX.wa ⟨hH4.sub _ m0, trivial⟩ (WA.pure (i := 2) #[true, true, true, false, false, false, false, false, false, false] (blind_then (blind_then (blind_body _ _))) rfl (by kernel_rfl) rfl rfl rfl (fun _ => R.not rfl rfl) (WA.pure (i := 3) #[true, true, true, true, false, false, false, false, false, false] (blind_then (blind_then (blind_body _ _))) rfl (by kernel_rfl) rfl rfl rfl (fun _ => R.move rfl rfl) ?_)))
  refine WA.split (d := 10) rfl (fun hc1 => ?_) (fun hc1 => ?_)
  replace hc1 := of_not_t hc1
  try subst hc1
  refine WA.off (i := 4) #[true, true, true, true, true, false, false, false, false, false] (blind_then (blind_then (blind_body _ _))) rfl (by kernel_rfl) rfl rfl rfl (WA.off (i := 5) #[true, true, true, true, true, true, false, false, false, false] (blind_then (blind_then (blind_body _ _))) rfl (by kernel_rfl) rfl rfl rfl (WA.off (i := 6) #[true, true, true, true, true, true, true, false, false, false] (blind_then (blind_then (blind_body _ _))) rfl (by kernel_rfl) rfl rfl rfl (WA.one (i := 7) #[true, true, true, true, true, true, true, true, false, false] rfl (by kernel_rfl) rfl (W.off rfl rfl rfl (W.nil (EX.wa ⟨hH4.sub _ m0, trivial⟩ (WA.off (i := 8) #[true, true, true, true, true, true, true, true, true, false] (blind_then (blind_then (blind_body _ _))) rfl (by kernel_rfl) rfl rfl rfl ?_)))))))
  refine WA.pure (i := 9) #[true, true, true, true, true, true, true, true, true, true] (blind_then (blind_then (blind_body _ _))) rfl (by kernel_rfl) rfl rfl rfl (fun _ => R.pick_t rfl rfl rfl) (WA.done (by kernel_rfl) (EX.then_n (CW.cond_t rfl (CW.seq (CW.region rfl (W.val rfl rfl rfl (R.assign rfl rfl) (W.nil ?_)))))))
  refine EX.then_n (CW.ret (EX.then_ret (EX.ret1 Try.results39 rfl ?_)))
  have hH5 := hH4.f1
  have hH6 := hH5.upto1
  refine ⟨?_, hH6⟩
  refine vbool ?_
  first
    | exact (validS_b (by assumption)).symm
    | exact (validS_d (by omega)).symm
    | exact (validS_p (by unfold priorP; omega)).symm
    | (rw [validS_go hbT hdue hpr, standB_0 (by omega)]; first | rfl | exact (decide_eq_false (by omega)).symm | exact decide_eq_decide.2 ⟨fun h => ⟨by omega, by omega, by omega, by omega, h, by omega⟩, fun h => h.2.2.2.2.1⟩ | (exact (decide_eq_false (fun h => by omega)).symm))
    | (rw [validS_go hbT hdue hpr, standB_1 (by omega)]; first | rfl | simp_all)
    | (rw [validS_go hbT hdue hpr, standB_3 (by omega)]; first | rfl | simp_all)
    | (rw [validS_go hbT hdue hpr, standB_4 (by omega)]; first | rfl | simp_all)
    | (rw [validS_go hbT hdue hpr, standB_5 (by omega) (by omega) (by omega) (by omega)])
  replace hc1 := of_not_f hc1
  try subst hc1
  have hbd := boundB_spec hc1
  obtain ⟨hbp, ⟨hl16, hL⟩, hnm⟩ := hbd
  have hbp2 := hbp
  unfold boundP at hbp2
  have hbT := hc1
  refine WA.pure (i := 4) #[true, true, true, true, true, false, false, false, false, false] (blind_then (blind_then (blind_body _ _))) rfl (by kernel_rfl) rfl rfl rfl (fun _ => R.fa0 6 rfl rfl Try.underlying28 rfl Try.sz3 rfl) (WA.take (i := 5) #[true, true, true, true, true, true, false, false, false, false] (blind_then (blind_then (blind_body _ _))) rfl (by kernel_rfl) rfl rfl rfl (fun _ hw => R.load rfl rfl Try.pl3 (cellz_le hw.1 (hB1.at_ 6 _ rfl))) ⟨hH4.sub _ m0, trivial⟩ (WA.take (i := 6) #[true, true, true, true, true, true, true, false, false, false] (blind_then (blind_then (blind_body _ _))) rfl (by kernel_rfl) rfl rfl rfl (fun _ hw => R.loadAgg rfl rfl (run_isAgg_struct Try.underlying28) (by exact Try.sz28) (hB1.at_.le hw.1)) ⟨hH4.sub _ m0, trivial⟩ (WA.one (i := 7) #[true, true, true, true, true, true, true, true, false, false] rfl (by kernel_rfl) rfl (W.call rfl rfl rfl rfl rfl Try.func85 Try.nm85 Try.bd85 (order_due s _ w2 (hs.mono (hH4.le m1)) (by omega) (by omega) (by omega) (by omega)) ?_))))
  rintro v2 w3 ⟨rfl, hH7⟩
  have hH8 := hH4.c0 hH7
  refine W.nil (EX.wa ⟨hH8.sub _ m0, trivial⟩ (WA.pure (i := 8) #[true, true, true, true, true, true, true, true, true, false] (blind_then (blind_then (blind_body _ _))) rfl (by kernel_rfl) rfl rfl rfl (fun _ => R.gtr rfl rfl rfl) (WA.pure (i := 9) #[true, true, true, true, true, true, true, true, true, true] (blind_then (blind_then (blind_body _ _))) rfl (by kernel_rfl) rfl rfl rfl (fun _ => R.pick_f rfl rfl rfl) (WA.done (by kernel_rfl) (EX.then_n ?_)))))
  refine CW.cond rfl (fun hc2 => ?_) (fun hc2 => ?_)
  replace hc2 := of_decide_eq_true hc2
  refine CW.seq (CW.region rfl (W.val rfl rfl rfl (R.assign rfl rfl) (W.nil (EX.then_n (CW.ret (EX.then_ret (EX.ret1 Try.results39 rfl ?_)))))))
  have hH9 := hH8.f1
  have hH10 := hH9.upto1
  refine ⟨?_, hH10⟩
  refine vbool ?_
  first
    | exact (validS_b (by assumption)).symm
    | exact (validS_d (by omega)).symm
    | exact (validS_p (by unfold priorP; omega)).symm
    | (rw [validS_go hbT hdue hpr, standB_0 (by omega)]; first | rfl | exact (decide_eq_false (by omega)).symm | exact decide_eq_decide.2 ⟨fun h => ⟨by omega, by omega, by omega, by omega, h, by omega⟩, fun h => h.2.2.2.2.1⟩ | (exact (decide_eq_false (fun h => by omega)).symm))
    | (rw [validS_go hbT hdue hpr, standB_1 (by omega)]; first | rfl | simp_all)
    | (rw [validS_go hbT hdue hpr, standB_3 (by omega)]; first | rfl | simp_all)
    | (rw [validS_go hbT hdue hpr, standB_4 (by omega)]; first | rfl | simp_all)
    | (rw [validS_go hbT hdue hpr, standB_5 (by omega) (by omega) (by omega) (by omega)])
  replace hc2 := of_decide_eq_false hc2
  refine CW.skip (EX.then_n (CW.seq (CW.region rfl (W.val rfl rfl rfl (R.fa0 1 rfl rfl Try.underlying28 rfl Try.sz25 rfl) (W.ldk rfl rfl rfl rfl rfl Try.pl25 hH8 m0 hB1 rfl (W.val rfl rfl rfl (R.assign rfl rfl) (W.nil ?_)))))))
  refine EX.then_n ?_
  obtain ⟨I1, hI1⟩ : ∃ I : List (Nat × Value) → World → Prop, I = (fun D_ w_ => D_ = [(3, .int .i64 (standsS s))] ∧ Has w0 w_ [zb1, (hp w0)] ∧ (priorP s) ∧ (s.Paid ≤ dueS s)) := ⟨_, rfl⟩
  refine CW.mid [2, 3, 19, 20, 21, 22, 23, 24, 25, 26, 27, 28, 29, 30, 31] I1 ?_ ?_
  refine CW.seq (CW.region rfl (W.val rfl rfl rfl (R.move rfl rfl) (W.val rfl rfl rfl (R.eql rfl rfl rfl) (W.nil (EX.then_n ?_)))))
  refine CW.cond rfl (fun hc3 => ?_) (fun hc3 => ?_)
  replace hc3 := of_decide_eq_true hc3
  refine CW.seq (CW.region rfl (W.val rfl rfl rfl (R.fa0 2 rfl rfl Try.underlying28 rfl Try.sz25 rfl) (W.ldk rfl rfl rfl rfl rfl Try.pl25 hH8 m0 hB1 rfl (W.val rfl rfl rfl (R.assign rfl rfl) (W.nil (EX.then_n (CW.seq ?_)))))))
  refine CW.region rfl (W.val rfl rfl rfl (R.move rfl rfl) (W.val rfl rfl rfl (R.neq rfl rfl rfl) (W.val rfl rfl rfl (R.move rfl rfl) ?_)))
  refine W.split (d := 25) rfl (fun hc4 => ?_) (fun hc4 => ?_)
  replace hc4 := of_ndec_t hc4
  refine W.val rfl rfl rfl (R.move rfl rfl) (W.val rfl rfl rfl (R.neq rfl rfl rfl) (W.val rfl rfl rfl (R.pick_t rfl rfl rfl) (W.nil (EX.then_n ?_))))
  refine CW.cond rfl (fun hc5 => ?_) (fun hc5 => ?_)
  replace hc5 := of_ndec_t hc5
  refine CW.seq (CW.region rfl (W.val rfl rfl rfl (R.assign rfl rfl) (W.nil (EX.then_n (CW.ret (EX.then_ret (EX.ret1 Try.results39 rfl ?_)))))))
  have hH11 := hH8.f1
  have hH12 := hH11.upto1
  refine ⟨?_, hH12⟩
  refine vbool ?_
  first
    | exact (validS_b (by assumption)).symm
    | exact (validS_d (by omega)).symm
    | exact (validS_p (by unfold priorP; omega)).symm
    | (rw [validS_go hbT hdue hpr, standB_0 (by omega)]; first | rfl | exact (decide_eq_false (by omega)).symm | exact decide_eq_decide.2 ⟨fun h => ⟨by omega, by omega, by omega, by omega, h, by omega⟩, fun h => h.2.2.2.2.1⟩ | (exact (decide_eq_false (fun h => by omega)).symm))
    | (rw [validS_go hbT hdue hpr, standB_1 (by omega)]; first | rfl | simp_all)
    | (rw [validS_go hbT hdue hpr, standB_3 (by omega)]; first | rfl | simp_all)
    | (rw [validS_go hbT hdue hpr, standB_4 (by omega)]; first | rfl | simp_all)
    | (rw [validS_go hbT hdue hpr, standB_5 (by omega) (by omega) (by omega) (by omega)])
  replace hc5 := of_ndec_f hc5
  refine CW.skip ?_
  have hH13 := hH8.f1
  have hH14 := hH13.f1
  have hH15 := hH14.upto2
  refine EX.mid _ rfl ?_ (by rw [hI1]; exact ⟨rfl, hH15, (by unfold priorP; omega), (by omega)⟩)
  exact ⟨lk_int rfl (by unfold standsS; rw [if_pos (by omega)]), trivial⟩
  replace hc4 := of_ndec_f hc4
  refine W.off rfl rfl rfl (W.off rfl rfl rfl (W.val rfl rfl rfl (R.pick_f rfl rfl rfl) (W.nil (EX.then_n (CW.cond_f rfl (CW.skip ?_))))))
  have hH16 := hH8.f1
  have hH17 := hH16.f1
  have hH18 := hH17.upto2
  refine EX.mid _ rfl ?_ (by rw [hI1]; exact ⟨rfl, hH18, (by unfold priorP; omega), (by omega)⟩)
  exact ⟨lk_int rfl (by unfold standsS; rw [if_pos (by omega)]), trivial⟩
  replace hc3 := of_decide_eq_false hc3
  refine CW.seq (CW.region rfl (W.val rfl rfl rfl (R.fa0 2 rfl rfl Try.underlying28 rfl Try.sz25 rfl) (W.ldk rfl rfl rfl rfl rfl Try.pl25 hH8 m0 hB1 rfl (W.val rfl rfl rfl (R.neq rfl rfl rfl) (W.nil (EX.then_n ?_))))))
  refine CW.cond rfl (fun hc6 => ?_) (fun hc6 => ?_)
  replace hc6 := of_ndec_t hc6
  refine CW.seq (CW.region rfl (W.val rfl rfl rfl (R.assign rfl rfl) (W.nil (EX.then_n (CW.ret (EX.then_ret (EX.ret1 Try.results39 rfl ?_)))))))
  have hH19 := hH8.f1
  have hH20 := hH19.upto1
  refine ⟨?_, hH20⟩
  refine vbool ?_
  first
    | exact (validS_b (by assumption)).symm
    | exact (validS_d (by omega)).symm
    | exact (validS_p (by unfold priorP; omega)).symm
    | (rw [validS_go hbT hdue hpr, standB_0 (by omega)]; first | rfl | exact (decide_eq_false (by omega)).symm | exact decide_eq_decide.2 ⟨fun h => ⟨by omega, by omega, by omega, by omega, h, by omega⟩, fun h => h.2.2.2.2.1⟩ | (exact (decide_eq_false (fun h => by omega)).symm))
    | (rw [validS_go hbT hdue hpr, standB_1 (by omega)]; first | rfl | simp_all)
    | (rw [validS_go hbT hdue hpr, standB_3 (by omega)]; first | rfl | simp_all)
    | (rw [validS_go hbT hdue hpr, standB_4 (by omega)]; first | rfl | simp_all)
    | (rw [validS_go hbT hdue hpr, standB_5 (by omega) (by omega) (by omega) (by omega)])
  replace hc6 := of_ndec_f hc6
  refine CW.skip ?_
  have hH21 := hH8.f1
  have hH22 := hH21.f1
  have hH23 := hH22.upto2
  refine EX.mid _ rfl ?_ (by rw [hI1]; exact ⟨rfl, hH23, (by unfold priorP; omega), (by omega)⟩)
  exact ⟨lk_int rfl (by unfold standsS; rw [if_neg (by omega)]), trivial⟩
  intro D w4 hn1
  rw [hI1] at hn1
  obtain ⟨rfl, hH24, hpr, hdue⟩ := hn1
  refine CW.seq (CW.region rfl (W.lg0 rfl rfl rfl rfl rfl Try.pl28 (by rw [Try.underlying28]; rfl) (by exact Try.sz28) hH24 m0 hB1 (W.call rfl rfl rfl rfl rfl Try.func86 Try.nm86 Try.bd86 (order_shipped s _ w4 (hs.mono (hH24.le m1))) ?_)))
  rintro v3 w5 ⟨rfl, hH25⟩
  have hH26 := hH24.c0 hH25
  refine W.val rfl rfl rfl (R.move rfl rfl) (W.val rfl rfl rfl (R.extract rfl rfl rfl) (W.val rfl rfl rfl (R.extract rfl rfl rfl) (W.val rfl rfl rfl (R.assign rfl rfl) (W.val rfl rfl rfl (R.assign rfl rfl) (W.nil (EX.then_n ?_))))))
  obtain ⟨I2, hI2⟩ : ∃ I : List (Nat × Value) → World → Prop, I = (fun D_ w_ => D_ = [(4, .bool (untB s.Lines)), (5, .bool (wholeB s.Lines)), (6, .bool (fullB s))] ∧ Has w0 w_ [zb1, (hp w0)]) := ⟨_, rfl⟩
  refine CW.mid [6, 37, 38, 39, 40, 41, 42, 43, 44, 45, 46] I2 ?_ ?_
  have hH27 := hH26.drew
  refine CW.draw (fun w => Sub zb1 w ∧ True) [] #[false, false, false, false, false, false, false, false, false, false, false] Try.mixed rfl rfl ⟨hH27.sub _ m0, trivial⟩ (WA.pure (i := 0) #[true, false, false, false, false, false, false, false, false, false, false] (blind_then (blind_body _ _)) rfl (by kernel_rfl) rfl rfl rfl (fun _ => R.fa0 6 rfl rfl Try.underlying28 rfl Try.sz3 rfl) (WA.take (i := 1) #[true, true, false, false, false, false, false, false, false, false, false] (blind_then (blind_body _ _)) rfl (by kernel_rfl) rfl rfl rfl (fun _ hw => R.load rfl rfl Try.pl3 (cellz_le hw.1 (hB1.at_ 6 _ rfl))) ⟨hH27.sub _ m0, trivial⟩ (WA.take (i := 2) #[true, true, true, false, false, false, false, false, false, false, false] (blind_then (blind_body _ _)) rfl (by kernel_rfl) rfl rfl rfl (fun _ hw => R.loadAgg rfl rfl (run_isAgg_struct Try.underlying28) (by exact Try.sz28) (hB1.at_.le hw.1)) ⟨hH27.sub _ m0, trivial⟩ (WA.one (i := 3) #[true, true, true, true, false, false, false, false, false, false, false] rfl (by kernel_rfl) rfl (W.call rfl rfl rfl rfl rfl Try.func85 Try.nm85 Try.bd85 (order_due s _ (w5.drew) (hs.mono (hH27.le m1)) (by omega) (by omega) (by omega) (by omega)) ?_)))))
  rintro v4 w6 ⟨rfl, hH28⟩
  have hH29 := hH27.c0 hH28
  refine W.nil (EX.wa ⟨hH29.sub _ m0, trivial⟩ (WA.pure (i := 4) #[true, true, true, true, true, false, false, false, false, false, false] (blind_then (blind_body _ _)) rfl (by kernel_rfl) rfl rfl rfl (fun _ => R.eql rfl rfl rfl) (WA.pure (i := 5) #[true, true, true, true, true, true, false, false, false, false, false] (blind_then (blind_body _ _)) rfl (by kernel_rfl) rfl rfl rfl (fun _ => R.move rfl rfl) ?_)))
  refine WA.split (d := 42) rfl (fun hc7 => ?_) (fun hc7 => ?_)
  replace hc7 := of_decide_eq_true hc7
  refine WA.pure (i := 6) #[true, true, true, true, true, true, true, false, false, false, false] (blind_then (blind_body _ _)) rfl (by kernel_rfl) rfl rfl rfl (fun _ => R.fa0 6 rfl rfl Try.underlying28 rfl Try.sz3 rfl) (WA.take (i := 7) #[true, true, true, true, true, true, true, true, false, false, false] (blind_then (blind_body _ _)) rfl (by kernel_rfl) rfl rfl rfl (fun _ hw => R.load rfl rfl Try.pl3 (cellz_le hw.1 (hB1.at_ 6 _ rfl))) ⟨hH29.sub _ m0, trivial⟩ (WA.pure (i := 8) #[true, true, true, true, true, true, true, true, true, false, false] (blind_then (blind_body _ _)) rfl (by kernel_rfl) rfl rfl rfl (fun _ => R.gtr rfl rfl rfl) (WA.pure (i := 9) #[true, true, true, true, true, true, true, true, true, true, false] (blind_then (blind_body _ _)) rfl (by kernel_rfl) rfl rfl rfl (fun _ => R.pick_t rfl rfl rfl) (WA.pure (i := 10) #[true, true, true, true, true, true, true, true, true, true, true] (blind_then (blind_body _ _)) rfl (by kernel_rfl) rfl rfl rfl (fun _ => R.assign rfl rfl) (WA.done (by kernel_rfl) ?_)))))
  have hH30 := hH29.f1
  have hH31 := hH30.f1
  have hH32 := hH31.upto2
  refine EX.mid _ rfl ?_ (by rw [hI2]; exact ⟨rfl, hH32⟩)
  exact ⟨rfl, rfl, lk_eq rfl (vbool (by unfold fullB; first | exact decide_eq_decide.2 ⟨fun h => ⟨by omega, by omega⟩, fun h => by omega⟩ | exact (decide_eq_false (by omega)).symm)), trivial⟩
  replace hc7 := of_decide_eq_false hc7
  refine WA.off (i := 6) #[true, true, true, true, true, true, true, false, false, false, false] (blind_then (blind_body _ _)) rfl (by kernel_rfl) rfl rfl rfl (WA.off (i := 7) #[true, true, true, true, true, true, true, true, false, false, false] (blind_then (blind_body _ _)) rfl (by kernel_rfl) rfl rfl rfl (WA.off (i := 8) #[true, true, true, true, true, true, true, true, true, false, false] (blind_then (blind_body _ _)) rfl (by kernel_rfl) rfl rfl rfl (WA.pure (i := 9) #[true, true, true, true, true, true, true, true, true, true, false] (blind_then (blind_body _ _)) rfl (by kernel_rfl) rfl rfl rfl (fun _ => R.pick_f rfl rfl rfl) (WA.pure (i := 10) #[true, true, true, true, true, true, true, true, true, true, true] (blind_then (blind_body _ _)) rfl (by kernel_rfl) rfl rfl rfl (fun _ => R.assign rfl rfl) (WA.done (by kernel_rfl) ?_)))))
  have hH33 := hH29.f1
  have hH34 := hH33.f1
  have hH35 := hH34.upto2
  refine EX.mid _ rfl ?_ (by rw [hI2]; exact ⟨rfl, hH35⟩)
  exact ⟨rfl, rfl, lk_eq rfl (vbool (by unfold fullB; first | exact decide_eq_decide.2 ⟨fun h => ⟨by omega, by omega⟩, fun h => by omega⟩ | exact (decide_eq_false (by omega)).symm)), trivial⟩
  intro D w7 hn2
  rw [hI2] at hn2
  obtain ⟨rfl, hH36⟩ := hn2
  refine CW.seq (CW.seq (CW.region rfl (W.val rfl rfl rfl (R.move rfl rfl) (W.nil (EX.then_n (CW.block (CW.seq ?_)))))))
  refine CW.region rfl (W.val rfl rfl rfl (R.eql rfl rfl rfl) (W.val rfl rfl rfl (R.assign rfl rfl) (W.nil (EX.then_n ?_))))
  refine CW.cond rfl (fun hc8 => ?_) (fun hc8 => ?_)
  replace hc8 := of_decide_eq_true hc8
  refine CW.seq (CW.region rfl (W.val rfl rfl rfl (R.fa0 5 rfl rfl Try.underlying28 rfl Try.sz26 rfl) (W.ldk rfl rfl rfl rfl rfl Try.pl26 hH36 m0 hB1 rfl (W.val rfl rfl rfl (R.len_slice rfl rfl Try.underlying26) (W.val rfl rfl rfl (R.eql rfl rfl rfl) (W.val rfl rfl rfl (R.move rfl rfl) ?_))))))
  refine W.split (d := 54) rfl (fun hc9 => ?_) (fun hc9 => ?_)
  replace hc9 := of_decide_eq_true hc9
  refine W.val rfl rfl rfl (R.fa0 3 rfl rfl Try.underlying28 rfl Try.sz3 rfl) (W.ldk rfl rfl rfl rfl rfl Try.pl3 hH36 m0 hB1 rfl (W.val rfl rfl rfl (R.eql rfl rfl rfl) (W.val rfl rfl rfl (R.pick_t rfl rfl rfl) (W.val rfl rfl rfl (R.move rfl rfl) ?_))))
  refine W.split (d := 59) rfl (fun hc10 => ?_) (fun hc10 => ?_)
  replace hc10 := of_decide_eq_true hc10
  refine W.val rfl rfl rfl (R.fa0 4 rfl rfl Try.underlying28 rfl Try.sz3 rfl) (W.ldk rfl rfl rfl rfl rfl Try.pl3 hH36 m0 hB1 rfl (W.val rfl rfl rfl (R.eql rfl rfl rfl) (W.val rfl rfl rfl (R.pick_t rfl rfl rfl) (W.val rfl rfl rfl (R.move rfl rfl) ?_))))
  refine W.split (d := 64) rfl (fun hc11 => ?_) (fun hc11 => ?_)
  replace hc11 := of_decide_eq_true hc11
  refine W.val rfl rfl rfl (R.fa0 8 rfl rfl Try.underlying28 rfl Try.sz3 rfl) (W.ldk rfl rfl rfl rfl rfl Try.pl3 hH36 m0 hB1 rfl (W.val rfl rfl rfl (R.fa0 9 rfl rfl Try.underlying28 rfl Try.sz3 rfl) (W.ldk rfl rfl rfl rfl rfl Try.pl3 hH36 m0 hB1 rfl (W.val rfl rfl rfl (R.eql rfl rfl rfl) (W.val rfl rfl rfl (R.pick_t rfl rfl rfl) (W.val rfl rfl rfl (R.move rfl rfl) ?_))))))
  refine W.split (d := 71) rfl (fun hc12 => ?_) (fun hc12 => ?_)
  replace hc12 := of_decide_eq_true hc12
  refine W.val rfl rfl rfl (R.fa0 10 rfl rfl Try.underlying28 rfl Try.sz3 rfl) (W.ldk rfl rfl rfl rfl rfl Try.pl3 hH36 m0 hB1 rfl (W.val rfl rfl rfl (R.eql rfl rfl rfl) (W.val rfl rfl rfl (R.pick_t rfl rfl rfl) (W.val rfl rfl rfl (R.move rfl rfl) ?_))))
  refine W.split (d := 76) rfl (fun hc13 => ?_) (fun hc13 => ?_)
  replace hc13 := of_decide_eq_true hc13
  refine W.val rfl rfl rfl (R.fa0 11 rfl rfl Try.underlying28 rfl Try.sz9 rfl) (W.ldk rfl rfl rfl rfl rfl Try.pl9 hH36 m0 hB1 rfl (W.val rfl rfl rfl (R.seql rfl rfl rfl) (W.val rfl rfl rfl (R.pick_t rfl rfl rfl) (W.val rfl rfl rfl (R.assign rfl rfl) (W.nil (EX.then_n (CW.ret ?_)))))))
  refine EX.blk_ret (EX.then_ret (EX.ret1 Try.results39 rfl ?_))
  have hH37 := hH36.f1
  have hH38 := hH37.upto1
  refine ⟨?_, hH38⟩
  refine vbool ?_
  first
    | exact (validS_b (by assumption)).symm
    | exact (validS_d (by omega)).symm
    | exact (validS_p (by unfold priorP; omega)).symm
    | (rw [validS_go hbT hdue hpr, standB_0 (by omega)]; first | rfl | exact (decide_eq_false (by omega)).symm | exact decide_eq_decide.2 ⟨fun h => ⟨by omega, by omega, by omega, by omega, h, by omega⟩, fun h => h.2.2.2.2.1⟩ | (exact (decide_eq_false (fun h => by omega)).symm))
    | (rw [validS_go hbT hdue hpr, standB_1 (by omega)]; first | rfl | simp_all)
    | (rw [validS_go hbT hdue hpr, standB_3 (by omega)]; first | rfl | simp_all)
    | (rw [validS_go hbT hdue hpr, standB_4 (by omega)]; first | rfl | simp_all)
    | (rw [validS_go hbT hdue hpr, standB_5 (by omega) (by omega) (by omega) (by omega)])
  replace hc13 := of_decide_eq_false hc13
  refine W.off rfl rfl rfl (W.off rfl rfl rfl (W.off rfl rfl rfl (W.val rfl rfl rfl (R.pick_f rfl rfl rfl) (W.val rfl rfl rfl (R.assign rfl rfl) (W.nil (EX.then_n (CW.ret ?_)))))))
  refine EX.blk_ret (EX.then_ret (EX.ret1 Try.results39 rfl ?_))
  have hH39 := hH36.f1
  have hH40 := hH39.upto1
  refine ⟨?_, hH40⟩
  refine vbool ?_
  first
    | exact (validS_b (by assumption)).symm
    | exact (validS_d (by omega)).symm
    | exact (validS_p (by unfold priorP; omega)).symm
    | (rw [validS_go hbT hdue hpr, standB_0 (by omega)]; first | rfl | exact (decide_eq_false (by omega)).symm | exact decide_eq_decide.2 ⟨fun h => ⟨by omega, by omega, by omega, by omega, h, by omega⟩, fun h => h.2.2.2.2.1⟩ | (exact (decide_eq_false (fun h => by omega)).symm))
    | (rw [validS_go hbT hdue hpr, standB_1 (by omega)]; first | rfl | simp_all)
    | (rw [validS_go hbT hdue hpr, standB_3 (by omega)]; first | rfl | simp_all)
    | (rw [validS_go hbT hdue hpr, standB_4 (by omega)]; first | rfl | simp_all)
    | (rw [validS_go hbT hdue hpr, standB_5 (by omega) (by omega) (by omega) (by omega)])
  replace hc12 := of_decide_eq_false hc12
  refine W.off rfl rfl rfl (W.off rfl rfl rfl (W.off rfl rfl rfl (W.val rfl rfl rfl (R.pick_f rfl rfl rfl) (W.val rfl rfl rfl (R.move rfl rfl) (W.off rfl rfl rfl (W.off rfl rfl rfl (W.off rfl rfl rfl ?_)))))))
  refine W.val rfl rfl rfl (R.pick_f rfl rfl rfl) (W.val rfl rfl rfl (R.assign rfl rfl) (W.nil (EX.then_n (CW.ret (EX.blk_ret (EX.then_ret (EX.ret1 Try.results39 rfl ?_)))))))
  have hH41 := hH36.f1
  have hH42 := hH41.upto1
  refine ⟨?_, hH42⟩
  refine vbool ?_
  first
    | exact (validS_b (by assumption)).symm
    | exact (validS_d (by omega)).symm
    | exact (validS_p (by unfold priorP; omega)).symm
    | (rw [validS_go hbT hdue hpr, standB_0 (by omega)]; first | rfl | exact (decide_eq_false (by omega)).symm | exact decide_eq_decide.2 ⟨fun h => ⟨by omega, by omega, by omega, by omega, h, by omega⟩, fun h => h.2.2.2.2.1⟩ | (exact (decide_eq_false (fun h => by omega)).symm))
    | (rw [validS_go hbT hdue hpr, standB_1 (by omega)]; first | rfl | simp_all)
    | (rw [validS_go hbT hdue hpr, standB_3 (by omega)]; first | rfl | simp_all)
    | (rw [validS_go hbT hdue hpr, standB_4 (by omega)]; first | rfl | simp_all)
    | (rw [validS_go hbT hdue hpr, standB_5 (by omega) (by omega) (by omega) (by omega)])
  replace hc11 := of_decide_eq_false hc11
  refine W.off rfl rfl rfl (W.off rfl rfl rfl (W.off rfl rfl rfl (W.off rfl rfl rfl (W.off rfl rfl rfl (W.val rfl rfl rfl (R.pick_f rfl rfl rfl) (W.val rfl rfl rfl (R.move rfl rfl) (W.off rfl rfl rfl ?_)))))))
  refine W.off rfl rfl rfl (W.off rfl rfl rfl (W.val rfl rfl rfl (R.pick_f rfl rfl rfl) (W.val rfl rfl rfl (R.move rfl rfl) (W.off rfl rfl rfl (W.off rfl rfl rfl (W.off rfl rfl rfl (W.val rfl rfl rfl (R.pick_f rfl rfl rfl) ?_)))))))
  refine W.val rfl rfl rfl (R.assign rfl rfl) (W.nil (EX.then_n (CW.ret (EX.blk_ret (EX.then_ret (EX.ret1 Try.results39 rfl ?_))))))
  have hH43 := hH36.f1
  have hH44 := hH43.upto1
  refine ⟨?_, hH44⟩
  refine vbool ?_
  first
    | exact (validS_b (by assumption)).symm
    | exact (validS_d (by omega)).symm
    | exact (validS_p (by unfold priorP; omega)).symm
    | (rw [validS_go hbT hdue hpr, standB_0 (by omega)]; first | rfl | exact (decide_eq_false (by omega)).symm | exact decide_eq_decide.2 ⟨fun h => ⟨by omega, by omega, by omega, by omega, h, by omega⟩, fun h => h.2.2.2.2.1⟩ | (exact (decide_eq_false (fun h => by omega)).symm))
    | (rw [validS_go hbT hdue hpr, standB_1 (by omega)]; first | rfl | simp_all)
    | (rw [validS_go hbT hdue hpr, standB_3 (by omega)]; first | rfl | simp_all)
    | (rw [validS_go hbT hdue hpr, standB_4 (by omega)]; first | rfl | simp_all)
    | (rw [validS_go hbT hdue hpr, standB_5 (by omega) (by omega) (by omega) (by omega)])
  replace hc10 := of_decide_eq_false hc10
  refine W.off rfl rfl rfl (W.off rfl rfl rfl (W.off rfl rfl rfl (W.val rfl rfl rfl (R.pick_f rfl rfl rfl) (W.val rfl rfl rfl (R.move rfl rfl) (W.off rfl rfl rfl (W.off rfl rfl rfl (W.off rfl rfl rfl ?_)))))))
  refine W.off rfl rfl rfl (W.off rfl rfl rfl (W.val rfl rfl rfl (R.pick_f rfl rfl rfl) (W.val rfl rfl rfl (R.move rfl rfl) (W.off rfl rfl rfl (W.off rfl rfl rfl (W.off rfl rfl rfl (W.val rfl rfl rfl (R.pick_f rfl rfl rfl) ?_)))))))
  refine W.val rfl rfl rfl (R.move rfl rfl) (W.off rfl rfl rfl (W.off rfl rfl rfl (W.off rfl rfl rfl (W.val rfl rfl rfl (R.pick_f rfl rfl rfl) (W.val rfl rfl rfl (R.assign rfl rfl) (W.nil (EX.then_n ?_)))))))
  refine CW.ret (EX.blk_ret (EX.then_ret (EX.ret1 Try.results39 rfl ?_)))
  have hH45 := hH36.f1
  have hH46 := hH45.upto1
  refine ⟨?_, hH46⟩
  refine vbool ?_
  first
    | exact (validS_b (by assumption)).symm
    | exact (validS_d (by omega)).symm
    | exact (validS_p (by unfold priorP; omega)).symm
    | (rw [validS_go hbT hdue hpr, standB_0 (by omega)]; first | rfl | exact (decide_eq_false (by omega)).symm | exact decide_eq_decide.2 ⟨fun h => ⟨by omega, by omega, by omega, by omega, h, by omega⟩, fun h => h.2.2.2.2.1⟩ | (exact (decide_eq_false (fun h => by omega)).symm))
    | (rw [validS_go hbT hdue hpr, standB_1 (by omega)]; first | rfl | simp_all)
    | (rw [validS_go hbT hdue hpr, standB_3 (by omega)]; first | rfl | simp_all)
    | (rw [validS_go hbT hdue hpr, standB_4 (by omega)]; first | rfl | simp_all)
    | (rw [validS_go hbT hdue hpr, standB_5 (by omega) (by omega) (by omega) (by omega)])
  replace hc9 := of_decide_eq_false hc9
  refine W.off rfl rfl rfl (W.off rfl rfl rfl (W.off rfl rfl rfl (W.val rfl rfl rfl (R.pick_f rfl rfl rfl) (W.val rfl rfl rfl (R.move rfl rfl) (W.off rfl rfl rfl (W.off rfl rfl rfl (W.off rfl rfl rfl ?_)))))))
  refine W.val rfl rfl rfl (R.pick_f rfl rfl rfl) (W.val rfl rfl rfl (R.move rfl rfl) (W.off rfl rfl rfl (W.off rfl rfl rfl (W.off rfl rfl rfl (W.off rfl rfl rfl (W.off rfl rfl rfl (W.val rfl rfl rfl (R.pick_f rfl rfl rfl) ?_)))))))
  refine W.val rfl rfl rfl (R.move rfl rfl) (W.off rfl rfl rfl (W.off rfl rfl rfl (W.off rfl rfl rfl (W.val rfl rfl rfl (R.pick_f rfl rfl rfl) (W.val rfl rfl rfl (R.move rfl rfl) (W.off rfl rfl rfl (W.off rfl rfl rfl ?_)))))))
  refine W.off rfl rfl rfl (W.val rfl rfl rfl (R.pick_f rfl rfl rfl) (W.val rfl rfl rfl (R.assign rfl rfl) (W.nil (EX.then_n (CW.ret (EX.blk_ret (EX.then_ret ?_)))))))
  refine EX.ret1 Try.results39 rfl ?_
  have hH47 := hH36.f1
  have hH48 := hH47.upto1
  refine ⟨?_, hH48⟩
  refine vbool ?_
  first
    | exact (validS_b (by assumption)).symm
    | exact (validS_d (by omega)).symm
    | exact (validS_p (by unfold priorP; omega)).symm
    | (rw [validS_go hbT hdue hpr, standB_0 (by omega)]; first | rfl | exact (decide_eq_false (by omega)).symm | exact decide_eq_decide.2 ⟨fun h => ⟨by omega, by omega, by omega, by omega, h, by omega⟩, fun h => h.2.2.2.2.1⟩ | (exact (decide_eq_false (fun h => by omega)).symm))
    | (rw [validS_go hbT hdue hpr, standB_1 (by omega)]; first | rfl | simp_all)
    | (rw [validS_go hbT hdue hpr, standB_3 (by omega)]; first | rfl | simp_all)
    | (rw [validS_go hbT hdue hpr, standB_4 (by omega)]; first | rfl | simp_all)
    | (rw [validS_go hbT hdue hpr, standB_5 (by omega) (by omega) (by omega) (by omega)])
  replace hc8 := of_decide_eq_false hc8
  refine CW.seq (CW.region rfl (W.val rfl rfl rfl (R.eql rfl rfl rfl) (W.val rfl rfl rfl (R.assign rfl rfl) (W.nil (EX.then_n ?_)))))
  refine CW.cond rfl (fun hc14 => ?_) (fun hc14 => ?_)
  replace hc14 := of_decide_eq_true hc14
  refine CW.seq (CW.region rfl (W.val rfl rfl rfl (R.move rfl rfl) (W.val rfl rfl rfl (R.move rfl rfl) ?_)))
  refine W.split (d := 84) rfl (fun hc15 => ?_) (fun hc15 => ?_)
  try subst hc15
  refine W.val rfl rfl rfl (R.move rfl rfl) (W.val rfl rfl rfl (R.not rfl rfl) (W.val rfl rfl rfl (R.pick_t rfl rfl rfl) (W.val rfl rfl rfl (R.move rfl rfl) ?_)))
  refine W.split (d := 88) rfl (fun hc16 => ?_) (fun hc16 => ?_)
  replace hc16 := of_not_t hc16
  try subst hc16
  refine W.val rfl rfl rfl (R.fa0 7 rfl rfl Try.underlying28 rfl Try.sz3 rfl) (W.ldk rfl rfl rfl rfl rfl Try.pl3 hH36 m0 hB1 rfl (W.val rfl rfl rfl (R.eql rfl rfl rfl) (W.val rfl rfl rfl (R.pick_t rfl rfl rfl) (W.val rfl rfl rfl (R.assign rfl rfl) (W.nil (EX.then_n (CW.ret ?_)))))))
  refine EX.blk_ret (EX.then_ret (EX.ret1 Try.results39 rfl ?_))
  have hH49 := hH36.f1
  have hH50 := hH49.upto1
  refine ⟨?_, hH50⟩
  refine vbool ?_
  first
    | exact (validS_b (by assumption)).symm
    | exact (validS_d (by omega)).symm
    | exact (validS_p (by unfold priorP; omega)).symm
    | (rw [validS_go hbT hdue hpr, standB_0 (by omega)]; first | rfl | exact (decide_eq_false (by omega)).symm | exact decide_eq_decide.2 ⟨fun h => ⟨by omega, by omega, by omega, by omega, h, by omega⟩, fun h => h.2.2.2.2.1⟩ | (exact (decide_eq_false (fun h => by omega)).symm))
    | (rw [validS_go hbT hdue hpr, standB_1 (by omega)]; first | rfl | simp_all)
    | (rw [validS_go hbT hdue hpr, standB_3 (by omega)]; first | rfl | simp_all)
    | (rw [validS_go hbT hdue hpr, standB_4 (by omega)]; first | rfl | simp_all)
    | (rw [validS_go hbT hdue hpr, standB_5 (by omega) (by omega) (by omega) (by omega)])
  replace hc16 := of_not_f hc16
  try subst hc16
  refine W.off rfl rfl rfl (W.off rfl rfl rfl (W.off rfl rfl rfl (W.val rfl rfl rfl (R.pick_f rfl rfl rfl) (W.val rfl rfl rfl (R.assign rfl rfl) (W.nil (EX.then_n (CW.ret ?_)))))))
  refine EX.blk_ret (EX.then_ret (EX.ret1 Try.results39 rfl ?_))
  have hH51 := hH36.f1
  have hH52 := hH51.upto1
  refine ⟨?_, hH52⟩
  refine vbool ?_
  first
    | exact (validS_b (by assumption)).symm
    | exact (validS_d (by omega)).symm
    | exact (validS_p (by unfold priorP; omega)).symm
    | (rw [validS_go hbT hdue hpr, standB_0 (by omega)]; first | rfl | exact (decide_eq_false (by omega)).symm | exact decide_eq_decide.2 ⟨fun h => ⟨by omega, by omega, by omega, by omega, h, by omega⟩, fun h => h.2.2.2.2.1⟩ | (exact (decide_eq_false (fun h => by omega)).symm))
    | (rw [validS_go hbT hdue hpr, standB_1 (by omega)]; first | rfl | simp_all)
    | (rw [validS_go hbT hdue hpr, standB_3 (by omega)]; first | rfl | simp_all)
    | (rw [validS_go hbT hdue hpr, standB_4 (by omega)]; first | rfl | simp_all)
    | (rw [validS_go hbT hdue hpr, standB_5 (by omega) (by omega) (by omega) (by omega)])
  try subst hc15
  refine W.off rfl rfl rfl (W.off rfl rfl rfl (W.val rfl rfl rfl (R.pick_f rfl rfl rfl) (W.val rfl rfl rfl (R.move rfl rfl) (W.off rfl rfl rfl (W.off rfl rfl rfl (W.off rfl rfl rfl (W.val rfl rfl rfl (R.pick_f rfl rfl rfl) ?_)))))))
  refine W.val rfl rfl rfl (R.assign rfl rfl) (W.nil (EX.then_n (CW.ret (EX.blk_ret (EX.then_ret (EX.ret1 Try.results39 rfl ?_))))))
  have hH53 := hH36.f1
  have hH54 := hH53.upto1
  refine ⟨?_, hH54⟩
  refine vbool ?_
  first
    | exact (validS_b (by assumption)).symm
    | exact (validS_d (by omega)).symm
    | exact (validS_p (by unfold priorP; omega)).symm
    | (rw [validS_go hbT hdue hpr, standB_0 (by omega)]; first | rfl | exact (decide_eq_false (by omega)).symm | exact decide_eq_decide.2 ⟨fun h => ⟨by omega, by omega, by omega, by omega, h, by omega⟩, fun h => h.2.2.2.2.1⟩ | (exact (decide_eq_false (fun h => by omega)).symm))
    | (rw [validS_go hbT hdue hpr, standB_1 (by omega)]; first | rfl | simp_all)
    | (rw [validS_go hbT hdue hpr, standB_3 (by omega)]; first | rfl | simp_all)
    | (rw [validS_go hbT hdue hpr, standB_4 (by omega)]; first | rfl | simp_all)
    | (rw [validS_go hbT hdue hpr, standB_5 (by omega) (by omega) (by omega) (by omega)])
  replace hc14 := of_decide_eq_false hc14
  refine CW.seq (CW.region rfl (W.val rfl rfl rfl (R.eql rfl rfl rfl) (W.val rfl rfl rfl (R.assign rfl rfl) (W.nil (EX.then_n ?_)))))
  refine CW.cond rfl (fun hc17 => ?_) (fun hc17 => ?_)
  replace hc17 := of_decide_eq_true hc17
  refine CW.seq (CW.region rfl (W.val rfl rfl rfl (R.move rfl rfl) (W.val rfl rfl rfl (R.move rfl rfl) ?_)))
  refine W.split (d := 96) rfl (fun hc18 => ?_) (fun hc18 => ?_)
  try subst hc18
  refine W.val rfl rfl rfl (R.move rfl rfl) (W.val rfl rfl rfl (R.not rfl rfl) (W.val rfl rfl rfl (R.pick_t rfl rfl rfl) (W.val rfl rfl rfl (R.assign rfl rfl) (W.nil (EX.then_n (CW.ret (EX.blk_ret ?_)))))))
  refine EX.then_ret (EX.ret1 Try.results39 rfl ?_)
  have hH55 := hH36.f1
  have hH56 := hH55.upto1
  refine ⟨?_, hH56⟩
  refine vbool ?_
  first
    | exact (validS_b (by assumption)).symm
    | exact (validS_d (by omega)).symm
    | exact (validS_p (by unfold priorP; omega)).symm
    | (rw [validS_go hbT hdue hpr, standB_0 (by omega)]; first | rfl | exact (decide_eq_false (by omega)).symm | exact decide_eq_decide.2 ⟨fun h => ⟨by omega, by omega, by omega, by omega, h, by omega⟩, fun h => h.2.2.2.2.1⟩ | (exact (decide_eq_false (fun h => by omega)).symm))
    | (rw [validS_go hbT hdue hpr, standB_1 (by omega)]; first | rfl | simp_all)
    | (rw [validS_go hbT hdue hpr, standB_3 (by omega)]; first | rfl | simp_all)
    | (rw [validS_go hbT hdue hpr, standB_4 (by omega)]; first | rfl | simp_all)
    | (rw [validS_go hbT hdue hpr, standB_5 (by omega) (by omega) (by omega) (by omega)])
  try subst hc18
  refine W.off rfl rfl rfl (W.off rfl rfl rfl (W.val rfl rfl rfl (R.pick_f rfl rfl rfl) (W.val rfl rfl rfl (R.assign rfl rfl) (W.nil (EX.then_n (CW.ret (EX.blk_ret ?_)))))))
  refine EX.then_ret (EX.ret1 Try.results39 rfl ?_)
  have hH57 := hH36.f1
  have hH58 := hH57.upto1
  refine ⟨?_, hH58⟩
  refine vbool ?_
  first
    | exact (validS_b (by assumption)).symm
    | exact (validS_d (by omega)).symm
    | exact (validS_p (by unfold priorP; omega)).symm
    | (rw [validS_go hbT hdue hpr, standB_0 (by omega)]; first | rfl | exact (decide_eq_false (by omega)).symm | exact decide_eq_decide.2 ⟨fun h => ⟨by omega, by omega, by omega, by omega, h, by omega⟩, fun h => h.2.2.2.2.1⟩ | (exact (decide_eq_false (fun h => by omega)).symm))
    | (rw [validS_go hbT hdue hpr, standB_1 (by omega)]; first | rfl | simp_all)
    | (rw [validS_go hbT hdue hpr, standB_3 (by omega)]; first | rfl | simp_all)
    | (rw [validS_go hbT hdue hpr, standB_4 (by omega)]; first | rfl | simp_all)
    | (rw [validS_go hbT hdue hpr, standB_5 (by omega) (by omega) (by omega) (by omega)])
  replace hc17 := of_decide_eq_false hc17
  refine CW.seq (CW.region rfl (W.val rfl rfl rfl (R.eql rfl rfl rfl) (W.val rfl rfl rfl (R.assign rfl rfl) (W.nil (EX.then_n ?_)))))
  refine CW.cond rfl (fun hc19 => ?_) (fun hc19 => ?_)
  replace hc19 := of_decide_eq_true hc19
  refine CW.seq (CW.region rfl (W.val rfl rfl rfl (R.move rfl rfl) (W.val rfl rfl rfl (R.move rfl rfl) ?_)))
  refine W.split (d := 103) rfl (fun hc20 => ?_) (fun hc20 => ?_)
  try subst hc20
  refine W.val rfl rfl rfl (R.move rfl rfl) (W.val rfl rfl rfl (R.pick_t rfl rfl rfl) (W.val rfl rfl rfl (R.assign rfl rfl) (W.nil (EX.then_n (CW.ret (EX.blk_ret (EX.then_ret ?_)))))))
  refine EX.ret1 Try.results39 rfl ?_
  have hH59 := hH36.f1
  have hH60 := hH59.upto1
  refine ⟨?_, hH60⟩
  refine vbool ?_
  first
    | exact (validS_b (by assumption)).symm
    | exact (validS_d (by omega)).symm
    | exact (validS_p (by unfold priorP; omega)).symm
    | (rw [validS_go hbT hdue hpr, standB_0 (by omega)]; first | rfl | exact (decide_eq_false (by omega)).symm | exact decide_eq_decide.2 ⟨fun h => ⟨by omega, by omega, by omega, by omega, h, by omega⟩, fun h => h.2.2.2.2.1⟩ | (exact (decide_eq_false (fun h => by omega)).symm))
    | (rw [validS_go hbT hdue hpr, standB_1 (by omega)]; first | rfl | simp_all)
    | (rw [validS_go hbT hdue hpr, standB_3 (by omega)]; first | rfl | simp_all)
    | (rw [validS_go hbT hdue hpr, standB_4 (by omega)]; first | rfl | simp_all)
    | (rw [validS_go hbT hdue hpr, standB_5 (by omega) (by omega) (by omega) (by omega)])
  try subst hc20
  refine W.off rfl rfl rfl (W.val rfl rfl rfl (R.pick_f rfl rfl rfl) (W.val rfl rfl rfl (R.assign rfl rfl) (W.nil (EX.then_n (CW.ret (EX.blk_ret (EX.then_ret ?_)))))))
  refine EX.ret1 Try.results39 rfl ?_
  have hH61 := hH36.f1
  have hH62 := hH61.upto1
  refine ⟨?_, hH62⟩
  refine vbool ?_
  first
    | exact (validS_b (by assumption)).symm
    | exact (validS_d (by omega)).symm
    | exact (validS_p (by unfold priorP; omega)).symm
    | (rw [validS_go hbT hdue hpr, standB_0 (by omega)]; first | rfl | exact (decide_eq_false (by omega)).symm | exact decide_eq_decide.2 ⟨fun h => ⟨by omega, by omega, by omega, by omega, h, by omega⟩, fun h => h.2.2.2.2.1⟩ | (exact (decide_eq_false (fun h => by omega)).symm))
    | (rw [validS_go hbT hdue hpr, standB_1 (by omega)]; first | rfl | simp_all)
    | (rw [validS_go hbT hdue hpr, standB_3 (by omega)]; first | rfl | simp_all)
    | (rw [validS_go hbT hdue hpr, standB_4 (by omega)]; first | rfl | simp_all)
    | (rw [validS_go hbT hdue hpr, standB_5 (by omega) (by omega) (by omega) (by omega)])
  replace hc19 := of_decide_eq_false hc19
  refine CW.skip (EX.blk_n (EX.then_n (CW.seq (CW.region rfl (W.val rfl rfl rfl (R.move rfl rfl) (W.val rfl rfl rfl (R.assign rfl rfl) (W.nil ?_)))))))
  refine EX.then_n (CW.ret (EX.ret1 Try.results39 rfl ?_))
  have hH63 := hH36.f1
  have hH64 := hH63.upto1
  refine ⟨?_, hH64⟩
  refine vbool ?_
  first
    | exact (validS_b (by assumption)).symm
    | exact (validS_d (by omega)).symm
    | exact (validS_p (by unfold priorP; omega)).symm
    | (rw [validS_go hbT hdue hpr, standB_0 (by omega)]; first | rfl | exact (decide_eq_false (by omega)).symm | exact decide_eq_decide.2 ⟨fun h => ⟨by omega, by omega, by omega, by omega, h, by omega⟩, fun h => h.2.2.2.2.1⟩ | (exact (decide_eq_false (fun h => by omega)).symm))
    | (rw [validS_go hbT hdue hpr, standB_1 (by omega)]; first | rfl | simp_all)
    | (rw [validS_go hbT hdue hpr, standB_3 (by omega)]; first | rfl | simp_all)
    | (rw [validS_go hbT hdue hpr, standB_4 (by omega)]; first | rfl | simp_all)
    | (rw [validS_go hbT hdue hpr, standB_5 (by omega) (by omega) (by omega) (by omega)])

end Go.Proofs.Gw
namespace Go.Proofs.Gw
open Go Go.Gw Go.Proofs Go.RowKit
set_option maxRecDepth 100000 in
set_option maxHeartbeats 1000000 in
theorem cursor_num {A : Option Addr} {c bc : Nat} {b : List UInt8} {at_ : Int} {zc zr : PH} (w0 w : World) (Z : List PH) (hH0 : Has w0 w (zc :: Z)) (hmr : zr ∈ Z) (lb : b.length ≤ c) (hb : Row kU8 zr A b) (hBc : Blk zc bc 165 [.slice A b.length c, .int .i64 at_]) (h0 : 0 ≤ at_) (h1 : at_ ≤ b.length) : Calls Try.prog 129 #[.pointer (some ⟨bc, 0, none⟩)] w (RP (fun v w' => v = .int .u64 (((decv (b.drop at_.toNat)).1 : Nat) : Int) ∧ (decv (b.drop at_.toNat)).2.2 = 0 ∧ ∃ zc', Has w0 w' (zc' :: Z) ∧ Blk zc' bc 165 [.slice A b.length c, .int .i64 (at_ + (((decv (b.drop at_.toNat)).2.1 : Nat) : Int))]) (fun ch w' => ch = [{ v := .iface 31 (.int .i64 (((decv (b.drop at_.toNat)).2.2 : Nat) : Int)), recovered := false }] ∧ (decv (b.drop at_.toNat)).2.2 ≠ 0 ∧ ∃ zc', Has w0 w' (zc' :: Z) ∧ Blk zc' bc 165 [.slice A b.length c, .int .i64 at_])) := by
  refine fnstartP (N := 33) Try.func129 rfl Try.ntmps129 (Nat.le_of_ble_eq_true rfl) ?_
  have hlb := hb.len
  refine CW.seq (CW.region rfl (W.val rfl rfl rfl (R.assign rfl rfl) (W.nil (EX.then_n (CW.seq ?_)))))
  have hH1 := hH0.drew
  refine CW.draw (fun w => Sub zc w ∧ True) [] #[false, false, false, false, false, false, false, false, false, false, false, false, false, false, false, false, false] Try.mixed rfl rfl ⟨hH1.sub _ m0, trivial⟩ (WA.pure (i := 0) #[true, false, false, false, false, false, false, false, false, false, false, false, false, false, false, false, false] (blind_then (blind_body _ _)) rfl (by kernel_rfl) rfl rfl rfl (fun _ => R.move rfl rfl) (WA.pure (i := 1) #[true, true, false, false, false, false, false, false, false, false, false, false, false, false, false, false, false] (blind_then (blind_body _ _)) rfl (by kernel_rfl) rfl rfl rfl (fun _ => R.nilCheck rfl rfl) (WA.pure (i := 2) #[true, true, true, false, false, false, false, false, false, false, false, false, false, false, false, false, false] (blind_then (blind_body _ _)) rfl (by kernel_rfl) rfl rfl rfl (fun _ => R.fa0 0 rfl rfl Try.underlying165 rfl Try.sz22 rfl) (WA.take (i := 3) #[true, true, true, true, false, false, false, false, false, false, false, false, false, false, false, false, false] (blind_then (blind_body _ _)) rfl (by kernel_rfl) rfl rfl rfl (fun _ hw => R.load rfl rfl Try.pl22 (cellz_le hw.1 (hBc.at_ 0 _ rfl))) ⟨hH1.sub _ m0, trivial⟩ (WA.pure (i := 4) #[true, true, true, true, true, false, false, false, false, false, false, false, false, false, false, false, false] (blind_then (blind_body _ _)) rfl (by kernel_rfl) rfl rfl rfl (fun _ => R.move rfl rfl) (WA.pure (i := 5) #[true, true, true, true, true, true, false, false, false, false, false, false, false, false, false, false, false] (blind_then (blind_body _ _)) rfl (by kernel_rfl) rfl rfl rfl (fun _ => R.nilCheck rfl rfl) (WA.pure (i := 6) #[true, true, true, true, true, true, true, false, false, false, false, false, false, false, false, false, false] (blind_then (blind_body _ _)) rfl (by kernel_rfl) rfl rfl rfl (fun _ => R.fa0 1 rfl rfl Try.underlying165 rfl Try.sz3 rfl) ?_)))))))
  refine WA.take (i := 7) #[true, true, true, true, true, true, true, true, false, false, false, false, false, false, false, false, false] (blind_then (blind_body _ _)) rfl (by kernel_rfl) rfl rfl rfl (fun _ hw => R.load rfl rfl Try.pl3 (cellz_le hw.1 (hBc.at_ 1 _ rfl))) ⟨hH1.sub _ m0, trivial⟩ ?_
  refine WA.slice (i := 8) #[true, true, true, true, true, true, true, true, true, false, false, false, false, false, false, false, false] (blind_then (blind_body _ _)) rfl (by kernel_rfl) _ _ rfl rfl rfl rfl rfl (.inr ⟨_, _, rfl, rfl⟩) (.inl ⟨rfl, rfl⟩) Try.underlying22 Try.sz5 hb lb (by omega) (by omega) (by omega) (fun B1 c1 ys1 hys1 hyl1 hr1 hl1 => ?_)
  rw [drop_tail] at hys1
  subst hys1
  refine WA.one (i := 9) #[true, true, true, true, true, true, true, true, true, true, false, false, false, false, false, false, false] rfl (by kernel_rfl) rfl (W.call rfl rfl rfl rfl rfl Try.func83 Try.nm83 Try.bd83 (varint_Decode _ _ _ (w.drew) hl1 (hr1.mono (hH1.le (List.mem_cons_of_mem _ hmr)))) ?_)
  rintro v1 w1 ⟨rfl, hH2⟩
  have hH3 := hH1.c0 hH2
  have hdv := decv_all (b.drop at_.toNat)
  rw [List.length_drop] at hdv
  refine W.nil (EX.wa ⟨hH3.sub _ m0, trivial⟩ (WA.pure (i := 10) #[true, true, true, true, true, true, true, true, true, true, true, false, false, false, false, false, false] (blind_then (blind_body _ _)) rfl (by kernel_rfl) rfl rfl rfl (fun _ => R.move rfl rfl) (WA.pure (i := 11) #[true, true, true, true, true, true, true, true, true, true, true, true, false, false, false, false, false] (blind_then (blind_body _ _)) rfl (by kernel_rfl) rfl rfl rfl (fun _ => R.extract rfl rfl rfl) (WA.pure (i := 12) #[true, true, true, true, true, true, true, true, true, true, true, true, true, false, false, false, false] (blind_then (blind_body _ _)) rfl (by kernel_rfl) rfl rfl rfl (fun _ => R.extract rfl rfl rfl) (WA.pure (i := 13) #[true, true, true, true, true, true, true, true, true, true, true, true, true, true, false, false, false] (blind_then (blind_body _ _)) rfl (by kernel_rfl) rfl rfl rfl (fun _ => R.extract rfl rfl rfl) (WA.pure (i := 14) #[true, true, true, true, true, true, true, true, true, true, true, true, true, true, true, false, false] (blind_then (blind_body _ _)) rfl (by kernel_rfl) rfl rfl rfl (fun _ => R.assign rfl rfl) (WA.pure (i := 15) #[true, true, true, true, true, true, true, true, true, true, true, true, true, true, true, true, false] (blind_then (blind_body _ _)) rfl (by kernel_rfl) rfl rfl rfl (fun _ => R.assign rfl rfl) ?_)))))))
  refine WA.pure (i := 16) #[true, true, true, true, true, true, true, true, true, true, true, true, true, true, true, true, true] (blind_then (blind_body _ _)) rfl (by kernel_rfl) rfl rfl rfl (fun _ => R.assign rfl rfl) (WA.done (by kernel_rfl) (EX.then_n (CW.seq (CW.seq (CW.region rfl (W.val rfl rfl rfl (R.move rfl rfl) (W.val rfl rfl rfl (R.neq rfl rfl rfl) ?_)))))))
  refine W.nil (EX.then_n ?_)
  refine CW.cond rfl (fun hc1 => ?_) (fun hc1 => ?_)
  replace hc1 := of_ndec_t hc1
  refine CW.region rfl (W.val rfl rfl rfl (R.move rfl rfl) (W.val rfl rfl rfl (R.makeInterface rfl rfl Try.underlying31 rfl) (W.panic rfl rfl rfl (EX.then_panic (EX.panic ?_)))))
  exact ⟨rfl, by omega, _, hH3, hBc⟩
  replace hc1 := of_ndec_f hc1
  refine CW.skip (EX.then_n (CW.seq (CW.region rfl (W.val rfl rfl rfl (R.move rfl rfl) (W.val rfl rfl rfl (R.nilCheck rfl rfl) (W.val rfl rfl rfl (R.fa0 1 rfl rfl Try.underlying165 rfl Try.sz3 rfl) (W.ldk rfl rfl rfl rfl rfl Try.pl3 hH3 m0 hBc rfl ?_)))))))
  refine W.val rfl rfl rfl (R.move rfl rfl) (W.val rfl rfl rfl (R.addx rfl rfl rfl (ok_i64 (by omega))) (W.val rfl rfl rfl (R.nilCheck rfl rfl) (W.val rfl rfl rfl (R.fa0 1 rfl rfl Try.underlying165 rfl Try.sz3 rfl) ?_)))
  refine W.storeLoc rfl rfl rfl rfl rfl Try.sz3 rfl (Nat.le_of_ble_eq_true rfl) hH3 hBc (fun zb1 w2 hH4 hB1 => ?_)
  refine W.nil (EX.then_n (CW.seq (CW.region rfl (W.val rfl rfl rfl (R.move rfl rfl) (W.val rfl rfl rfl (R.assign rfl rfl) (W.nil (EX.then_n ?_)))))))
  refine CW.ret (EX.retP Try.results129 (.cons (.tmp rfl) RVs.nil) ?_)
  exact ⟨rfl, by omega, _, hH4, hB1⟩

end Go.Proofs.Gw
namespace Go.Proofs.Gw
open Go Go.Gw Go.Proofs Go.RowKit
set_option maxRecDepth 100000 in
set_option maxHeartbeats 1000000 in
theorem slices_Clone (As : Option Addr) (cs : Nat) (s : List UInt8) (w0 : World) (ls : s.length ≤ cs) (hs : Row kU8 (hp w0) As s) (hn : s.length ≤ 140737488355328) : Calls Try.prog 64 #[.slice As s.length cs] w0 (Ret fun v w' => ∃ (A0 : Option Addr) (c0 : Nat) (z0 : PH), v = .slice A0 (s).length c0 ∧ Has w0 w' [z0, hp w0] ∧ Own kU8 5 emp z0 A0 c0 (s)) := by
  refine fnstart (N := 8) Try.func64 rfl Try.ntmps64 (Nat.le_of_ble_eq_true rfl) ?_
  have hH0 : Has w0 w0 [hp w0] := Has.refl w0
  refine CW.seq (CW.region rfl (W.val rfl rfl rfl (R.assign rfl rfl) (W.nil (EX.then_n (CW.seq (CW.seq (CW.region rfl ?_)))))))
  refine W.val rfl rfl rfl (R.move rfl rfl) (W.val rfl rfl rfl (R.sleql rfl rfl rfl Try.underlying22) (W.nil (EX.then_n ?_)))
  refine CW.cond rfl (fun hc1 => ?_) (fun hc1 => ?_)
  try subst hc1
  refine CW.seq (CW.region rfl (W.val rfl rfl rfl (R.assign rfl rfl) (W.nil (EX.then_n (CW.ret (EX.then_ret (EX.ret1 Try.results64 rfl ?_)))))))
  have hH1 := hH0.emp
  have hH2 := hH1.f1
  have hH3 := hH2.f1
  have hH4 := hH3.upto2
  obtain rfl := hs.none_nil hc1
  refine ⟨_, _, _, ?_, hH4, (Own.nil _ _ _)⟩
  rfl
  try subst hc1
  refine CW.skip (EX.then_n (CW.seq (CW.region rfl ?_)))
  refine W.bsE rfl rfl rfl rfl Try.underlying22 Try.inf5 hH0 (fun b1 zb1 w1 hH5 hB1 => ?_)
  refine W.val rfl rfl rfl (R.move rfl rfl) ?_
  refine W.appR rfl rfl rfl rfl rfl rfl rfl rfl Try.underlying22 Try.inf5 rfl hH5 (Own.blk (κ := kU8) (zi := emp) (xs := []) hB1 rfl rfl (by decide)) (hs.mono (hH5.le m1)) (fun _ hr => Reps.flat (by intro _ _ h; exact h) hr) (by decide) (by first | omega | (simp only [List.length_nil, List.length_append]; omega)) (fun A1 c1 z2 w2 hH6 hO1 => ?_)
  refine W.val rfl rfl rfl (R.assign rfl rfl) (W.nil (EX.then_n (CW.ret (EX.ret1 Try.results64 rfl ?_))))
  have hH7 := hH6.f1
  have hH8 := hH7.f1
  have hH9 := hH8.upto2
  refine ⟨_, _, _, ?_, hH9, hO1⟩
  rfl

end Go.Proofs.Gw
namespace Go.Proofs.Gw
open Go Go.Gw Go.Proofs Go.RowKit
set_option maxRecDepth 100000 in
set_option maxHeartbeats 1000000 in
theorem cursor_field {A : Option Addr} {c bc : Nat} {b : List UInt8} {at_ : Int} {zc zr : PH} (last : Int) (w0 w : World) (Z : List PH) (hH0 : Has w0 w (zc :: Z)) (hmr : zr ∈ Z) (lb : b.length ≤ c) (hb : Row kU8 zr A b) (hBc : Blk zc bc 165 [.slice A b.length c, .int .i64 at_]) (h0 : 0 ≤ at_) (h1 : at_ ≤ b.length) (hn : b.length ≤ 1024) : Calls Try.prog 102 #[.pointer (some ⟨bc, 0, none⟩), .int .i64 last] w (RP (fun v w' => (nextF (b.drop at_.toNat) last).1 = 0 ∧ ∃ zc' zf cs, Has w0 w' (zc' :: zf :: Z) ∧ Blk zc' bc 165 [.slice A b.length c, .int .i64 (at_ + (((nextF (b.drop at_.toNat) last).2.2 : Nat) : Int))] ∧ v = .agg cs.toArray ∧ kField.K zf (nextF (b.drop at_.toNat) last).2.1 cs) (fun ch w' => ch = [{ v := .iface 31 (.int .i64 (((nextF (b.drop at_.toNat) last).1 : Nat) : Int)), recovered := false }] ∧ (nextF (b.drop at_.toNat) last).1 ≠ 0 ∧ ∃ zc' n, Has w0 w' (zc' :: Z) ∧ Blk zc' bc 165 [.slice A b.length c, .int .i64 n])) := by
  refine fnstartP (N := 89) Try.func102 rfl Try.ntmps102 (Nat.le_of_ble_eq_true rfl) ?_
  have hlb := hb.len
  have hld : (b.drop at_.toNat).length = b.length - at_.toNat := List.length_drop
  refine CW.seq (CW.region rfl ?_)
  refine W.alloc rfl rfl rfl rfl Try.zr77 rfl hH0 (fun b1 zb1 w1 hH1 hB1 => ?_)
  refine W.nil (EX.then_n (CW.seq (CW.region rfl (W.val rfl rfl rfl (R.move rfl rfl) ?_))))
  have hH3 := hH1.f1
  refine W.callP rfl rfl rfl rfl rfl Try.func129 Try.nm129 Try.bd129 (cursor_num _ _ _ hH3 (List.mem_cons_of_mem _ hmr) lb hb hBc (by omega) (by omega)) ?_ ?_
  rintro _ w3 ⟨rfl, he2, zc2, hH4, hB3⟩
  refine EX.then_panic ?_
  have hH5 := hH4.f1
  have hH6 := hH5.drop
  refine EX.panic ?_
  refine ⟨?_, ?_, _, _, hH6, hB3⟩
  · rw [nextF_e1 (by assumption)] <;> rfl
  · first | (rw [nextF_e1 (by assumption)]; assumption) | (rw [nextF_e1 (by assumption)]; decide) | rw [nextF_e1 (by assumption)]
  rintro _ w2 ⟨rfl, he1, zc1, hH2, hB2⟩
  have hdv := decv_all (b.drop at_.toNat)
  rw [List.length_drop] at hdv
  refine W.val rfl rfl rfl (R.assign rfl rfl) (W.nil (EX.then_n (CW.seq (CW.seq (CW.region rfl (W.val rfl rfl rfl (R.move rfl rfl) (W.val rfl rfl rfl (R.gtr rfl rfl rfl) ?_)))))))
  refine W.nil (EX.then_n ?_)
  refine CW.cond rfl (fun hc1 => ?_) (fun hc1 => ?_)
  replace hc1 := of_decide_eq_true hc1
  refine CW.region rfl (W.val rfl rfl rfl (R.makeInterface rfl rfl Try.underlying31 rfl) (W.panic rfl rfl rfl (EX.then_panic ?_)))
  have hH7 := hH2.f1
  have hH8 := hH7.drop
  refine EX.panic ?_
  refine ⟨?_, ?_, _, _, hH8, hB2⟩
  · rw [nextF_20 (by omega) (by omega)] <;> rfl
  · first | (rw [nextF_20 (by omega) (by omega)]; assumption) | (rw [nextF_20 (by omega) (by omega)]; decide) | rw [nextF_20 (by omega) (by omega)]
  replace hc1 := of_decide_eq_false hc1
  refine CW.skip (EX.then_n (CW.seq (CW.region rfl (W.val rfl rfl rfl (R.move rfl rfl) (W.val rfl rfl rfl (R.quo rfl rfl rfl (by omega) (by omega) (ok_u64 (by omega))) (W.val rfl rfl rfl (R.convx rfl rfl (by rw [Try.underlying75]; rfl) Try.underlying3 (ok_i64 (by omega))) (W.val rfl rfl rfl (R.move rfl rfl) ?_)))))))
  refine W.val rfl rfl rfl (R.rem rfl rfl rfl (by omega) (by omega)) (W.val rfl rfl rfl (R.eql rfl rfl rfl) (W.val rfl rfl rfl (R.build rfl rfl Try.zr77 rfl (by rw [Try.underlying77]; rfl) Try.plc77 rfl) ?_))
  refine W.alloc rfl rfl rfl rfl Try.zr77 rfl hH2 (fun b2 zb2 w4 hH9 hB4 => ?_)
  refine W.sg0 rfl rfl rfl rfl rfl Try.sz77 rfl (by rfl) hH9 hB4 (fun zb3 w5 hH10 hB5 => ?_)
  refine W.nil (EX.then_n (CW.seq (CW.seq (CW.region rfl (W.val rfl rfl rfl (R.fa0 0 rfl rfl Try.underlying77 rfl Try.sz3 rfl) (W.ldk rfl rfl rfl rfl rfl Try.pl3 hH10 m0 hB5 rfl (W.val rfl rfl rfl (R.eql rfl rfl rfl) ?_)))))))
  refine W.nil (EX.then_n ?_)
  refine CW.cond rfl (fun hc2 => ?_) (fun hc2 => ?_)
  replace hc2 := of_decide_eq_true hc2
  refine CW.region rfl (W.val rfl rfl rfl (R.makeInterface rfl rfl Try.underlying31 rfl) (W.panic rfl rfl rfl (EX.then_panic ?_)))
  have hH11 := hH10.drop
  have hH12 := hH11.f1
  have hH13 := hH12.drop
  refine EX.panic ?_
  refine ⟨?_, ?_, _, _, hH13, hB2⟩
  · rw [nextF_20 (by omega) (by omega)] <;> rfl
  · first | (rw [nextF_20 (by omega) (by omega)]; assumption) | (rw [nextF_20 (by omega) (by omega)]; decide) | rw [nextF_20 (by omega) (by omega)]
  replace hc2 := of_decide_eq_false hc2
  refine CW.skip (EX.then_n (CW.seq (CW.seq (CW.region rfl (W.val rfl rfl rfl (R.fa0 0 rfl rfl Try.underlying77 rfl Try.sz3 rfl) (W.ldk rfl rfl rfl rfl rfl Try.pl3 hH10 m0 hB5 rfl (W.val rfl rfl rfl (R.move rfl rfl) ?_)))))))
  refine W.val rfl rfl rfl (R.leq rfl rfl rfl) (W.nil (EX.then_n ?_))
  refine CW.cond rfl (fun hc3 => ?_) (fun hc3 => ?_)
  replace hc3 := of_decide_eq_true hc3
  refine CW.region rfl (W.val rfl rfl rfl (R.makeInterface rfl rfl Try.underlying31 rfl) (W.panic rfl rfl rfl (EX.then_panic ?_)))
  have hH14 := hH10.drop
  have hH15 := hH14.f1
  have hH16 := hH15.drop
  refine EX.panic ?_
  refine ⟨?_, ?_, _, _, hH16, hB2⟩
  · rw [nextF_21 (by omega) (by omega) (by omega)] <;> rfl
  · first | (rw [nextF_21 (by omega) (by omega) (by omega)]; assumption) | (rw [nextF_21 (by omega) (by omega) (by omega)]; decide) | rw [nextF_21 (by omega) (by omega) (by omega)]
  replace hc3 := of_decide_eq_false hc3
  refine CW.skip (EX.then_n (CW.seq (CW.region rfl (W.val rfl rfl rfl (R.move rfl rfl) ?_))))
  have hH18 := hH10.f1
  refine W.callP rfl rfl rfl rfl rfl Try.func129 Try.nm129 Try.bd129 (cursor_num _ _ _ hH18 (List.mem_cons_of_mem _ (List.mem_cons_of_mem _ hmr)) lb hb hB2 (by omega) (by omega)) ?_ ?_
  rintro _ w7 ⟨rfl, he4, zc4, hH19, hB7⟩
  rw [drop_at h0] at *
  refine EX.then_panic ?_
  have hH20 := hH19.f1
  have hH21 := hH20.drop
  have hH22 := hH21.f1
  have hH23 := hH22.drop
  refine EX.panic ?_
  refine ⟨?_, ?_, _, _, hH23, hB7⟩
  · rw [nextF_e2 (by omega) (by omega) (by omega) (by assumption)] <;> rfl
  · first | (rw [nextF_e2 (by omega) (by omega) (by omega) (by assumption)]; assumption) | (rw [nextF_e2 (by omega) (by omega) (by omega) (by assumption)]; decide) | rw [nextF_e2 (by omega) (by omega) (by omega) (by assumption)]
  rintro _ w6 ⟨rfl, he3, zc3, hH17, hB6⟩
  rw [drop_at h0] at *
  have hdu := decv_all ((b.drop at_.toNat).drop (decv (b.drop at_.toNat)).2.1)
  rw [List.length_drop, List.length_drop] at hdu
  refine W.val rfl rfl rfl (R.assign rfl rfl) (W.nil (EX.then_n (CW.seq (CW.block (CW.seq (CW.region rfl (W.val rfl rfl rfl (R.move rfl rfl) ?_)))))))
  refine W.val rfl rfl rfl (R.eql rfl rfl rfl) (W.val rfl rfl rfl (R.assign rfl rfl) (W.nil (EX.then_n ?_)))
  refine CW.cond rfl (fun hc4 => ?_) (fun hc4 => ?_)
  replace hc4 := of_decide_eq_true hc4
  refine CW.region rfl (W.val rfl rfl rfl (R.makeInterface rfl rfl Try.underlying31 rfl) (W.panic rfl rfl rfl (EX.blk_panic (EX.then_panic ?_))))
  have hH24 := hH17.f1
  have hH25 := hH24.drop
  have hH26 := hH25.f1
  have hH27 := hH26.drop
  refine EX.panic ?_
  refine ⟨?_, ?_, _, _, hH27, hB6⟩
  · rw [nextF_22 (by omega) (by omega) (by omega) (by omega) (by omega)] <;> rfl
  · first | (rw [nextF_22 (by omega) (by omega) (by omega) (by omega) (by omega)]; assumption) | (rw [nextF_22 (by omega) (by omega) (by omega) (by omega) (by omega)]; decide) | rw [nextF_22 (by omega) (by omega) (by omega) (by omega) (by omega)]
  replace hc4 := of_decide_eq_false hc4
  refine CW.seq (CW.region rfl (W.val rfl rfl rfl (R.fa0 1 rfl rfl Try.underlying77 rfl Try.sz4 rfl) (W.ldk rfl rfl rfl rfl rfl Try.pl4 hH17 m1 hB5 rfl (W.val rfl rfl rfl (R.not rfl rfl) (W.val rfl rfl rfl (R.assign rfl rfl) (W.nil (EX.then_n ?_)))))))
  refine CW.cond rfl (fun hc5 => ?_) (fun hc5 => ?_)
  replace hc5 := of_not_t hc5
  replace hc5 := of_decide_eq_false hc5
  refine CW.seq (CW.region rfl (W.val rfl rfl rfl (R.move rfl rfl) (W.val rfl rfl rfl (R.fa0 2 rfl rfl Try.underlying77 rfl Try.sz75 rfl) ?_)))
  have hH28 := hH17.f1
  refine W.storeLoc rfl rfl rfl rfl rfl Try.sz75 rfl (Nat.le_of_ble_eq_true rfl) hH28 hB5 (fun zb4 w8 hH29 hB8 => ?_)
  refine W.nil (EX.then_n (CW.seq (CW.region rfl (W.lg0 rfl rfl rfl rfl rfl Try.pl77 (by rw [Try.underlying77]; rfl) (by exact Try.sz77) hH29 m0 hB8 ?_))))
  have hH30 := hH29.f2
  refine W.sg0 rfl rfl rfl rfl rfl Try.sz77 rfl (by rfl) hH30 hB1 (fun zb5 w9 hH31 hB9 => ?_)
  refine W.nil (EX.then_n (CW.ret (EX.blk_ret (EX.then_ret (EX.retP Try.results102 (.cons (.agg rfl (fun w => run_isAgg_struct Try.underlying77 w) (by exact Try.sz77) (fun k u hk => hH31.cell m0 (hB9.at_ k u hk))) RVs.nil) ?_)))))
  have hH32 := hH31.emp
  have hH33 := hH32.f1
  have hH34 := hH33.drop
  have hH35 := hH34.f1
  have hH36 := hH35.drop
  have hH37 := hH36.f1
  have hF := nextF_num (b := b.drop at_.toNat) (last := last) (by omega) (by omega) (by omega) (by omega) (by omega) (by omega)
  refine ⟨?_, _, _, _, hH37, Blk.int2 hB6 (by rw [hF]; simp only []; omega), rfl, ?_⟩
  · rw [hF]
  · rw [hF]; exact ⟨_, _, by rw [show decide ((((decv (b.drop at_.toNat)).1 : Nat) : Int) % 2 = 1) = false from decide_eq_false (by omega)] <;> rfl, by simp only []; omega, by simp only []; omega, by simp only []; omega, by simp only []; omega, Nat.le_refl _, Row.nil _ _ _⟩
  replace hc5 := of_not_f hc5
  replace hc5 := of_decide_eq_true hc5
  refine CW.seq (CW.region rfl (W.val rfl rfl rfl (R.move rfl rfl) (W.val rfl rfl rfl (R.gtr rfl rfl rfl) (W.val rfl rfl rfl (R.assign rfl rfl) (W.nil (EX.then_n ?_))))))
  refine CW.cond rfl (fun hc6 => ?_) (fun hc6 => ?_)
  replace hc6 := of_decide_eq_true hc6
  refine CW.region rfl (W.val rfl rfl rfl (R.makeInterface rfl rfl Try.underlying31 rfl) (W.panic rfl rfl rfl (EX.blk_panic (EX.then_panic ?_))))
  have hH38 := hH17.f1
  have hH39 := hH38.drop
  have hH40 := hH39.f1
  have hH41 := hH40.drop
  refine EX.panic ?_
  refine ⟨?_, ?_, _, _, hH41, hB6⟩
  · rw [nextF_23 (by omega) (by omega) (by omega) (by omega) (by omega) (by omega) (by omega)] <;> rfl
  · first | (rw [nextF_23 (by omega) (by omega) (by omega) (by omega) (by omega) (by omega) (by omega)]; assumption) | (rw [nextF_23 (by omega) (by omega) (by omega) (by omega) (by omega) (by omega) (by omega)]; decide) | rw [nextF_23 (by omega) (by omega) (by omega) (by omega) (by omega) (by omega) (by omega)]
  replace hc6 := of_decide_eq_false hc6
  refine CW.seq ?_
  have hH42 := hH17.drew
  refine CW.draw (fun w => Sub zc3 w ∧ True) [] #[false, false, false, false, false, false, false, false, false, false, false, false, false, false] Try.mixed rfl rfl ⟨hH42.sub _ m0, trivial⟩ (WA.pure (i := 0) #[true, false, false, false, false, false, false, false, false, false, false, false, false, false] (blind_then (blind_blk (blind_then (blind_body _ _)))) rfl (by kernel_rfl) rfl rfl rfl (fun _ => R.move rfl rfl) (WA.pure (i := 1) #[true, true, false, false, false, false, false, false, false, false, false, false, false, false] (blind_then (blind_blk (blind_then (blind_body _ _)))) rfl (by kernel_rfl) rfl rfl rfl (fun _ => R.move rfl rfl) (WA.pure (i := 2) #[true, true, true, false, false, false, false, false, false, false, false, false, false, false] (blind_then (blind_blk (blind_then (blind_body _ _)))) rfl (by kernel_rfl) rfl rfl rfl (fun _ => R.nilCheck rfl rfl) (WA.pure (i := 3) #[true, true, true, true, false, false, false, false, false, false, false, false, false, false] (blind_then (blind_blk (blind_then (blind_body _ _)))) rfl (by kernel_rfl) rfl rfl rfl (fun _ => R.fa0 0 rfl rfl Try.underlying165 rfl Try.sz22 rfl) (WA.take (i := 4) #[true, true, true, true, true, false, false, false, false, false, false, false, false, false] (blind_then (blind_blk (blind_then (blind_body _ _)))) rfl (by kernel_rfl) rfl rfl rfl (fun _ hw => R.load rfl rfl Try.pl22 (cellz_le hw.1 (hB6.at_ 0 _ rfl))) ⟨hH42.sub _ m0, trivial⟩ (WA.pure (i := 5) #[true, true, true, true, true, true, false, false, false, false, false, false, false, false] (blind_then (blind_blk (blind_then (blind_body _ _)))) rfl (by kernel_rfl) rfl rfl rfl (fun _ => R.len_slice rfl rfl Try.underlying22) (WA.pure (i := 6) #[true, true, true, true, true, true, true, false, false, false, false, false, false, false] (blind_then (blind_blk (blind_then (blind_body _ _)))) rfl (by kernel_rfl) rfl rfl rfl (fun _ => R.move rfl rfl) ?_)))))))
  refine WA.pure (i := 7) #[true, true, true, true, true, true, true, true, false, false, false, false, false, false] (blind_then (blind_blk (blind_then (blind_body _ _)))) rfl (by kernel_rfl) rfl rfl rfl (fun _ => R.nilCheck rfl rfl) (WA.pure (i := 8) #[true, true, true, true, true, true, true, true, true, false, false, false, false, false] (blind_then (blind_blk (blind_then (blind_body _ _)))) rfl (by kernel_rfl) rfl rfl rfl (fun _ => R.fa0 1 rfl rfl Try.underlying165 rfl Try.sz3 rfl) (WA.take (i := 9) #[true, true, true, true, true, true, true, true, true, true, false, false, false, false] (blind_then (blind_blk (blind_then (blind_body _ _)))) rfl (by kernel_rfl) rfl rfl rfl (fun _ hw => R.load rfl rfl Try.pl3 (cellz_le hw.1 (hB6.at_ 1 _ rfl))) ⟨hH42.sub _ m0, trivial⟩ (WA.pure (i := 10) #[true, true, true, true, true, true, true, true, true, true, true, false, false, false] (blind_then (blind_blk (blind_then (blind_body _ _)))) rfl (by kernel_rfl) rfl rfl rfl (fun _ => R.subx rfl rfl rfl (ok_i64 (by omega))) (WA.pure (i := 11) #[true, true, true, true, true, true, true, true, true, true, true, true, false, false] (blind_then (blind_blk (blind_then (blind_body _ _)))) rfl (by kernel_rfl) rfl rfl rfl (fun _ => R.convx rfl rfl (by rw [Try.underlying3]; rfl) Try.underlying75 (ok_u64 (by omega))) (WA.pure (i := 12) #[true, true, true, true, true, true, true, true, true, true, true, true, true, false] (blind_then (blind_blk (blind_then (blind_body _ _)))) rfl (by kernel_rfl) rfl rfl rfl (fun _ => R.gtr rfl rfl rfl) (WA.pure (i := 13) #[true, true, true, true, true, true, true, true, true, true, true, true, true, true] (blind_then (blind_blk (blind_then (blind_body _ _)))) rfl (by kernel_rfl) rfl rfl rfl (fun _ => R.assign rfl rfl) (WA.done (by kernel_rfl) ?_)))))))
  refine EX.then_n ?_
  refine CW.cond rfl (fun hc7 => ?_) (fun hc7 => ?_)
  replace hc7 := of_decide_eq_true hc7
  refine CW.region rfl (W.val rfl rfl rfl (R.makeInterface rfl rfl Try.underlying31 rfl) (W.panic rfl rfl rfl (EX.blk_panic (EX.then_panic ?_))))
  have hH43 := hH42.f1
  have hH44 := hH43.drop
  have hH45 := hH44.f1
  have hH46 := hH45.drop
  refine EX.panic ?_
  refine ⟨?_, ?_, _, _, hH46, hB6⟩
  · rw [nextF_10 (by omega) (by omega) (by omega) (by omega) (by omega) (by omega) (by omega) (by omega)] <;> rfl
  · first | (rw [nextF_10 (by omega) (by omega) (by omega) (by omega) (by omega) (by omega) (by omega) (by omega)]; assumption) | (rw [nextF_10 (by omega) (by omega) (by omega) (by omega) (by omega) (by omega) (by omega) (by omega)]; decide) | rw [nextF_10 (by omega) (by omega) (by omega) (by omega) (by omega) (by omega) (by omega) (by omega)]
  replace hc7 := of_decide_eq_false hc7
  refine CW.skip (EX.blk_n (EX.then_n (CW.seq ?_)))
  have hH47 := hH42.drew
  refine CW.draw (fun w => Sub zc3 w ∧ True) [] #[false, false, false, false, false, false, false, false, false, false, false, false, false, false, false, false, false, false, false] Try.mixed rfl rfl ⟨hH47.sub _ m0, trivial⟩ (WA.pure (i := 0) #[true, false, false, false, false, false, false, false, false, false, false, false, false, false, false, false, false, false, false] (blind_then (blind_body _ _)) rfl (by kernel_rfl) rfl rfl rfl (fun _ => R.move rfl rfl) (WA.pure (i := 1) #[true, true, false, false, false, false, false, false, false, false, false, false, false, false, false, false, false, false, false] (blind_then (blind_body _ _)) rfl (by kernel_rfl) rfl rfl rfl (fun _ => R.nilCheck rfl rfl) (WA.pure (i := 2) #[true, true, true, false, false, false, false, false, false, false, false, false, false, false, false, false, false, false, false] (blind_then (blind_body _ _)) rfl (by kernel_rfl) rfl rfl rfl (fun _ => R.fa0 0 rfl rfl Try.underlying165 rfl Try.sz22 rfl) (WA.take (i := 3) #[true, true, true, true, false, false, false, false, false, false, false, false, false, false, false, false, false, false, false] (blind_then (blind_body _ _)) rfl (by kernel_rfl) rfl rfl rfl (fun _ hw => R.load rfl rfl Try.pl22 (cellz_le hw.1 (hB6.at_ 0 _ rfl))) ⟨hH47.sub _ m0, trivial⟩ (WA.pure (i := 4) #[true, true, true, true, true, false, false, false, false, false, false, false, false, false, false, false, false, false, false] (blind_then (blind_body _ _)) rfl (by kernel_rfl) rfl rfl rfl (fun _ => R.move rfl rfl) (WA.pure (i := 5) #[true, true, true, true, true, true, false, false, false, false, false, false, false, false, false, false, false, false, false] (blind_then (blind_body _ _)) rfl (by kernel_rfl) rfl rfl rfl (fun _ => R.nilCheck rfl rfl) (WA.pure (i := 6) #[true, true, true, true, true, true, true, false, false, false, false, false, false, false, false, false, false, false, false] (blind_then (blind_body _ _)) rfl (by kernel_rfl) rfl rfl rfl (fun _ => R.fa0 1 rfl rfl Try.underlying165 rfl Try.sz3 rfl) ?_)))))))
  refine WA.take (i := 7) #[true, true, true, true, true, true, true, true, false, false, false, false, false, false, false, false, false, false, false] (blind_then (blind_body _ _)) rfl (by kernel_rfl) rfl rfl rfl (fun _ hw => R.load rfl rfl Try.pl3 (cellz_le hw.1 (hB6.at_ 1 _ rfl))) ⟨hH47.sub _ m0, trivial⟩ (WA.pure (i := 8) #[true, true, true, true, true, true, true, true, true, false, false, false, false, false, false, false, false, false, false] (blind_then (blind_body _ _)) rfl (by kernel_rfl) rfl rfl rfl (fun _ => R.move rfl rfl) (WA.pure (i := 9) #[true, true, true, true, true, true, true, true, true, true, false, false, false, false, false, false, false, false, false] (blind_then (blind_body _ _)) rfl (by kernel_rfl) rfl rfl rfl (fun _ => R.nilCheck rfl rfl) (WA.pure (i := 10) #[true, true, true, true, true, true, true, true, true, true, true, false, false, false, false, false, false, false, false] (blind_then (blind_body _ _)) rfl (by kernel_rfl) rfl rfl rfl (fun _ => R.fa0 1 rfl rfl Try.underlying165 rfl Try.sz3 rfl) (WA.take (i := 11) #[true, true, true, true, true, true, true, true, true, true, true, true, false, false, false, false, false, false, false] (blind_then (blind_body _ _)) rfl (by kernel_rfl) rfl rfl rfl (fun _ hw => R.load rfl rfl Try.pl3 (cellz_le hw.1 (hB6.at_ 1 _ rfl))) ⟨hH47.sub _ m0, trivial⟩ (WA.pure (i := 12) #[true, true, true, true, true, true, true, true, true, true, true, true, true, false, false, false, false, false, false] (blind_then (blind_body _ _)) rfl (by kernel_rfl) rfl rfl rfl (fun _ => R.move rfl rfl) (WA.pure (i := 13) #[true, true, true, true, true, true, true, true, true, true, true, true, true, true, false, false, false, false, false] (blind_then (blind_body _ _)) rfl (by kernel_rfl) rfl rfl rfl (fun _ => R.convx rfl rfl (by rw [Try.underlying75]; rfl) Try.underlying3 (ok_i64 (by omega))) (WA.pure (i := 14) #[true, true, true, true, true, true, true, true, true, true, true, true, true, true, true, false, false, false, false] (blind_then (blind_body _ _)) rfl (by kernel_rfl) rfl rfl rfl (fun _ => R.addx rfl rfl rfl (ok_i64 (by omega))) ?_)))))))
  refine WA.slice (i := 15) #[true, true, true, true, true, true, true, true, true, true, true, true, true, true, true, true, false, false, false] (blind_then (blind_body _ _)) rfl (by kernel_rfl) _ _ rfl rfl rfl rfl rfl (.inr ⟨_, _, rfl, rfl⟩) (.inr ⟨_, _, rfl, rfl⟩) Try.underlying22 Try.sz5 hb lb (by omega) (by omega) (by omega) (fun B1 c1 ys1 hys1 hyl1 hr1 hl1 => ?_)
  replace hys1 : ys1 = ((b.drop at_.toNat).drop ((decv (b.drop at_.toNat)).2.1 + (decv ((b.drop at_.toNat).drop (decv (b.drop at_.toNat)).2.1)).2.1)).take (decv ((b.drop at_.toNat).drop (decv (b.drop at_.toNat)).2.1)).1 := by
    rw [hys1, drop_at2 h0]
    congr 1
    omega
  subst hys1
  refine WA.one (i := 16) #[true, true, true, true, true, true, true, true, true, true, true, true, true, true, true, true, true, false, false] rfl (by kernel_rfl) rfl (W.call rfl rfl rfl rfl rfl Try.func64 Try.nm64 Try.bd64 (slices_Clone _ _ _ ((w6.drew).drew) hl1 (hr1.mono (hH47.le (List.mem_cons_of_mem _ (List.mem_cons_of_mem _ (List.mem_cons_of_mem _ hmr))))) (by omega)) ?_)
  rintro v3 w10 ⟨A01, c01, z01, rfl, hH48, hO01⟩
  have hH49 := hH47.c1 hH48
  refine W.nil (EX.wa ⟨hH49.sub _ m1, trivial⟩ (WA.pure (i := 17) #[true, true, true, true, true, true, true, true, true, true, true, true, true, true, true, true, true, true, false] (blind_then (blind_body _ _)) rfl (by kernel_rfl) rfl rfl rfl (fun _ => R.fa0 3 rfl rfl Try.underlying77 rfl Try.sz22 rfl) (WA.one (i := 18) #[true, true, true, true, true, true, true, true, true, true, true, true, true, true, true, true, true, true, true] rfl (by kernel_rfl) rfl ?_)))
  have hH50 := hH49.f2
  refine W.storeLoc rfl rfl rfl rfl rfl Try.sz22 rfl (Nat.le_of_ble_eq_true rfl) hH50 hB5 (fun zb6 w11 hH51 hB10 => ?_)
  refine W.nil (EX.wa ⟨hH51.sub _ m2, trivial⟩ (WA.done (by kernel_rfl) (EX.then_n (CW.seq (CW.region rfl (W.val rfl rfl rfl (R.move rfl rfl) (W.val rfl rfl rfl (R.nilCheck rfl rfl) ?_)))))))
  refine W.val rfl rfl rfl (R.fa0 1 rfl rfl Try.underlying165 rfl Try.sz3 rfl) (W.ldk rfl rfl rfl rfl rfl Try.pl3 hH51 m2 hB6 rfl (W.val rfl rfl rfl (R.move rfl rfl) (W.val rfl rfl rfl (R.convx rfl rfl (by rw [Try.underlying75]; rfl) Try.underlying3 (ok_i64 (by omega))) (W.val rfl rfl rfl (R.addx rfl rfl rfl (ok_i64 (by omega))) (W.val rfl rfl rfl (R.nilCheck rfl rfl) (W.val rfl rfl rfl (R.fa0 1 rfl rfl Try.underlying165 rfl Try.sz3 rfl) ?_))))))
  have hH52 := hH51.f2
  refine W.storeLoc rfl rfl rfl rfl rfl Try.sz3 rfl (Nat.le_of_ble_eq_true rfl) hH52 hB6 (fun zb7 w12 hH53 hB11 => ?_)
  refine W.nil (EX.then_n (CW.seq (CW.region rfl (W.lg0 rfl rfl rfl rfl rfl Try.pl77 (by rw [Try.underlying77]; rfl) (by exact Try.sz77) hH53 m1 hB10 ?_))))
  have hH54 := hH53.f3
  refine W.sg0 rfl rfl rfl rfl rfl Try.sz77 rfl (by rfl) hH54 hB1 (fun zb8 w13 hH55 hB12 => ?_)
  refine W.nil (EX.then_n (CW.ret (EX.retP Try.results102 (.cons (.agg rfl (fun w => run_isAgg_struct Try.underlying77 w) (by exact Try.sz77) (fun k u hk => hH55.cell m0 (hB12.at_ k u hk))) RVs.nil) ?_)))
  have hH56 := hH55.drop
  have hH57 := hH56.f1
  have hH58 := hH57.drop
  have hH59 := hH58.f1
  have hH60 := hH59.f1
  have hF := nextF_text (b := b.drop at_.toNat) (last := last) (by omega) (by omega) (by omega) (by omega) (by omega) (by omega) (by omega) (by omega)
  refine ⟨?_, _, _, _, hH60, Blk.int2 hB11 (by rw [hF]; simp only []; omega), rfl, ?_⟩
  · rw [hF]
  · rw [hF]; exact ⟨_, _, by rw [show decide ((((decv (b.drop at_.toNat)).1 : Nat) : Int) % 2 = 1) = true from decide_eq_true (by omega)] <;> rfl, by simp only []; omega, by simp only []; omega, by simp only []; omega, by simp only []; omega, hO01.cap, (hO01.row (Le.refl _) (emp_le _))⟩

end Go.Proofs.Gw
namespace Go.Proofs.Gw
open Go Go.Gw Go.Proofs Go.RowKit
set_option maxRecDepth 100000 in
set_option maxHeartbeats 1000000 in
theorem tlv_Dp (b2 b4 : Nat) (z2 z4 : PH) (v2 : Value) (e0 e : Int) (w0 w : World) (Z : List PH) (hH0 : Has w0 w (z2 :: z4 :: Z)) (hB2 : Blk z2 b2 72 [v2]) (hB4 : Blk z4 b4 31 [.int .i64 e0]) : CallsD Try.prog 101 #[.pointer (some ⟨b2, 0, none⟩), .pointer (some ⟨b4, 0, none⟩)] (.panicking [{ v := .iface 31 (.int .i64 e), recovered := false }]) w (fun en u w' => ∃ v, en = .returned v ∧ u = (.panicking [{ v := .iface 31 (.int .i64 e), recovered := true }]) ∧ ∃ z2' z4', Has w0 w' (z2' :: z4' :: Z) ∧ Blk z2' b2 72 [.slice none 0 0] ∧ Blk z4' b4 31 [.int .i64 e]) := by
  refine callsD_of_wpS Try.func101 rfl (fun c₀ cs hu => ?_)
  apply wpS_seq
  apply wpS_region
  simp [wpOpsS, go_sem, recoverD, hu, Try.ntmps101, Exit.thenS]
  refine wpS_of_wp (frS (N := 17) (E := [(2, .iface 31 (.int .i64 e)), (0, .pointer (some ⟨b2, 0, none⟩)), (1, .pointer (some ⟨b4, 0, none⟩))]) ?_ ?_)
  · refine ⟨by simp [Array.replicate], rfl, fun i v hv => ?_⟩
    match i, hv with
    | 0, hv => cases hv; simp
    | 1, hv => cases hv; simp
    | 2, hv => cases hv; simp
    | n + 3, hv => cases hv
  refine CW.seq (CW.region rfl (W.val rfl rfl rfl (R.move rfl rfl) (W.val rfl rfl rfl (R.ifneq rfl rfl rfl Try.underlying20) (W.nil (EX.then_n (CW.cond_t rfl (CW.seq ?_)))))))
  refine CW.region rfl (W.val rfl rfl rfl (R.move rfl rfl) (W.val rfl rfl rfl (R.typeAssert rfl rfl Try.underlying31 rfl) (W.val rfl rfl rfl (R.move rfl rfl) (W.val rfl rfl rfl (R.extract rfl rfl rfl) (W.val rfl rfl rfl (R.extract rfl rfl rfl) (W.val rfl rfl rfl (R.assign rfl rfl) (W.val rfl rfl rfl (R.assign rfl rfl) ?_)))))))
  refine W.nil (EX.then_n (CW.seq (CW.seq (CW.region rfl (W.val rfl rfl rfl (R.move rfl rfl) (W.val rfl rfl rfl (R.not rfl rfl) (W.nil ?_)))))))
  refine EX.then_n (CW.cond_f rfl (CW.skip (EX.then_n (CW.region rfl (W.val rfl rfl rfl (R.move rfl rfl) ?_)))))
  refine W.st0 rfl rfl rfl rfl rfl Try.sz72 rfl (Nat.le_of_ble_eq_true rfl) hH0 hB2 (fun zb1 w1 hH1 hB1 => ?_)
  have hH2 := hH1.f1
  refine W.st0 rfl rfl rfl rfl rfl Try.sz31 rfl (Nat.le_of_ble_eq_true rfl) hH2 hB4 (fun zb2 w2 hH3 hB2 => ?_)
  refine W.nil (EX.endS Try.results101 ?_)
  have hH4 := hH3.f1
  exact ⟨⟨_, rfl⟩, rfl, _, _, hH4, hB1, hB2⟩

end Go.Proofs.Gw
namespace Go.Proofs.Gw
open Go Go.Gw Go.Proofs Go.RowKit
set_option maxRecDepth 100000 in
set_option maxHeartbeats 1000000 in
theorem tlv_Dr (b2 b4 : Nat) (z2 z4 : PH) (v2 : Value) (e0 e : Int) (w0 w : World) (Z : List PH) (hH0 : Has w0 w (z2 :: z4 :: Z)) (hB2 : Blk z2 b2 72 [v2]) (hB4 : Blk z4 b4 31 [.int .i64 e0]) : CallsD Try.prog 101 #[.pointer (some ⟨b2, 0, none⟩), .pointer (some ⟨b4, 0, none⟩)] .returning w (fun en u w' => ∃ v, en = .returned v ∧ u = .returning ∧ w' = w) := by
  refine callsD_of_wpS Try.func101 rfl (fun c₀ cs hu => ?_)
  apply wpS_seq
  apply wpS_region
  simp [wpOpsS, go_sem, recoverD, hu, Try.ntmps101, Exit.thenS]
  refine wpS_of_wp (frS (N := 17) (E := [(2, .nilIface), (0, .pointer (some ⟨b2, 0, none⟩)), (1, .pointer (some ⟨b4, 0, none⟩))]) ?_ ?_)
  · refine ⟨by simp [Array.replicate], rfl, fun i v hv => ?_⟩
    match i, hv with
    | 0, hv => cases hv; simp
    | 1, hv => cases hv; simp
    | 2, hv => cases hv; simp
    | n + 3, hv => cases hv
  refine CW.seq (CW.region rfl (W.val rfl rfl rfl (R.move rfl rfl) (W.val rfl rfl rfl (R.ifneqn rfl rfl rfl Try.underlying20) (W.nil (EX.then_n (CW.cond_f rfl (CW.skip ?_)))))))
  refine EX.endS Try.results101 ?_
  exact ⟨⟨_, rfl⟩, hu, rfl⟩

end Go.Proofs.Gw
namespace Go.Proofs.Gw
open Go Go.Gw Go.Proofs Go.RowKit
set_option maxRecDepth 100000 in
set_option maxHeartbeats 1000000 in
theorem tlv_Decode (Ab : Option Addr) (cb : Nat) (b : List UInt8) (w0 : World) (lb : b.length ≤ cb) (hb : Row kU8 (hp w0) Ab b) : Calls Try.prog 81 #[.slice Ab b.length cb] w0 (Ret fun v w' => ∃ A c z y, v = .tuple #[.slice A (decFs b).1.length c, .int .i64 (((decFs b).2.1 : Nat) : Int), .int .i64 (((decFs b).2.2 : Nat) : Int)] ∧ Has w0 w' [z, y, hp w0] ∧ Own kField 77 y z A c (decFs b).1) := by
  refine fnstartD (N := 36) Try.func81 rfl Try.ntmps81 (Nat.le_of_ble_eq_true rfl) ?_
  have hH0 : Has w0 w0 [hp w0] := Has.refl w0
  have hlb := hb.len
  refine CW.seq (CW.region rfl ?_)
  refine W.alloc rfl rfl rfl rfl Try.zr72 rfl hH0 (fun b1 zb1 w1 hH1 hB1 => ?_)
  refine W.val rfl rfl rfl (R.assign rfl rfl) ?_
  refine W.alloc rfl rfl rfl rfl Try.zr31 rfl hH1 (fun b2 zb2 w2 hH2 hB2 => ?_)
  refine W.nil (EX.then_n (CW.seq (CW.seq (CW.region rfl (W.val rfl rfl rfl (R.move rfl rfl) (W.val rfl rfl rfl (R.len_slice rfl rfl Try.underlying22) (W.val rfl rfl rfl (R.gtr rfl rfl rfl) ?_)))))))
  refine W.nil (EX.then_n ?_)
  refine CW.cond rfl (fun hc1 => ?_) (fun hc1 => ?_)
  replace hc1 := of_decide_eq_true hc1
  refine CW.seq (CW.region rfl ?_)
  have hH3 := hH2.f1
  refine W.st0 rfl rfl rfl rfl rfl Try.sz72 rfl (Nat.le_of_ble_eq_true rfl) hH3 hB1 (fun zb3 w3 hH4 hB3 => ?_)
  refine W.val rfl rfl rfl (R.assign rfl rfl) ?_
  have hH5 := hH4.f1
  refine W.st0 rfl rfl rfl rfl rfl Try.sz31 rfl (Nat.le_of_ble_eq_true rfl) hH5 hB2 (fun zb4 w4 hH6 hB4 => ?_)
  refine W.nil (EX.then_n (CW.ret (EX.then_ret (EX.retD0 rfl Try.results81 (.cons (.one rfl Try.pl72 (hH6.cell m1 (at0 hB3.at_ rfl))) (.cons (.tmp rfl) (.cons (.one rfl Try.pl31 (hH6.cell m0 (at0 hB4.at_ rfl))) RVs.nil))) ?_))))
  have hH7 := hH6.emp
  have hH8 := hH7.emp
  have hH9 := hH8.f2
  have hH10 := hH9.drop
  have hH11 := hH10.f2
  have hH12 := hH11.drop
  have hH13 := hH12.f2
  have hH14 := hH13.f1
  have hH15 := hH14.f2
  have hd : decFs b = ([], 0, 24) := by unfold decFs; rw [if_pos (by omega)]
  rw [hd]
  exact ⟨_, _, _, _, rfl, hH15, Own.nil _ _ _⟩
  replace hc1 := of_decide_eq_false hc1
  refine CW.skip (EX.then_n (CW.seq (CW.region rfl (W.val rfl rfl rfl (R.move rfl rfl) (W.val rfl rfl rfl (R.build rfl rfl Try.zr165 rfl (by rw [Try.underlying165]; rfl) Try.plc165 rfl) ?_)))))
  refine W.box rfl rfl rfl rfl rfl rfl hH2 (fun b3 zb5 w5 hH16 hB5 => ?_)
  refine W.val rfl rfl rfl (R.assign rfl rfl) (W.nil (EX.then_n (CW.seq (CW.region rfl (W.val rfl rfl rfl (R.makeFunc rfl rfl rfl) (W.defer rfl rfl rfl rfl ?_))))))
  letI dd : Dfs := ⟨[{ target := .fn (.func 101) #[.pointer (some ⟨b1, 0, none⟩), .pointer (some ⟨b2, 0, none⟩)], args := #[] }]⟩
  refine W.nil (EX.then_n (CW.seq (CW.region rfl (W.val rfl rfl rfl (R.assign rfl rfl) (W.nil (EX.then_n (CW.seq ?_)))))))
  refine CW.block ?_
  have hH17 := hH16.emp
  have hH18 := hH17.emp
  have hH19 := hH18.f1
  have hH20 := hH19.f4
  have hH21 := hH20.f3
  have hH22 := hH21.f5
  have hH23 := hH22.f5
  have hH24 := hH23.f5
  have hH25 := hH24.f5
  have hH26 := hH25.f5
  have hH27 := hH26.f5
  obtain ⟨I1, hI1⟩ : ∃ I : Nat → List (Nat × Value) → World → Prop, I = (fun n_ D_ w_ => ∃ (k : Nat) (last : Int) (fs : List GField) (A : Option Addr) (c : Nat) (z : PH) (y : PH) (z2 : PH) (zc : PH) (f : Nat), D_ = [(6, .int .i64 last)] ∧ n_ = b.length - k ∧ Has w0 w_ [zc, z2, z, y, zb2, (hp w0)] ∧ (k ≤ b.length) ∧ (decLoop (b.length + 1) b 0 0 [] = decLoop f b k last fs) ∧ (b.length < f + k) ∧ (last ≤ 31 ∧ 0 ≤ last) ∧ (fs.length ≤ k) ∧ (Own kField 77 y z A c fs) ∧ (Blk z2 b1 72 [.slice A fs.length c]) ∧ (Blk zc b3 165 [.slice Ab b.length cb, .int .i64 (k : Int)])) := ⟨_, rfl⟩
  refine CW.loop3 [3, 6, 7, 15, 16, 17, 18, 19, 20, 21, 22, 23, 24, 25, 26, 27, 28, 29, 30, 31, 32, 33, 34] I1 _ _ ?_ (by rw [hI1]; exact ⟨0, 0, [], none, 0, _, _, _, _, (b.length + 1), rfl, rfl, hH27, by omega, rfl, by omega, by omega, Nat.zero_le _, Own.nil _ _ _, hB1, hB5⟩) ?_
  exact ⟨lk_int rfl (by first | rfl | omega), trivial⟩
  intro n1 D w6 hn1
  rw [hI1] at hn1
  obtain ⟨k, last, fs, A, c, z, y, z2, zc, f, rfl, hme1, hH28, hk, he, hf, hls, hfk, hO, hBz, hBk⟩ := hn1
  refine CW.seq (CW.seq (CW.region rfl (W.val rfl rfl rfl (R.move rfl rfl) (W.val rfl rfl rfl (R.nilCheck rfl rfl) (W.val rfl rfl rfl (R.fa0 1 rfl rfl Try.underlying165 rfl Try.sz3 rfl) (W.ldk rfl rfl rfl rfl rfl Try.pl3 hH28 m0 hBk rfl (W.val rfl rfl rfl (R.move rfl rfl) ?_)))))))
  refine W.val rfl rfl rfl (R.len_slice rfl rfl Try.underlying22) (W.val rfl rfl rfl (R.lss rfl rfl rfl) (W.nil (EX.then_n ?_)))
  refine CW.cond rfl (fun hc2 => ?_) (fun hc2 => ?_)
  replace hc2 := of_decide_eq_true hc2
  refine CW.skip (EX.then_n (CW.block (CW.seq (CW.region rfl (W.val rfl rfl rfl (R.move rfl rfl) (W.val rfl rfl rfl (R.nilCheck rfl rfl) (W.val rfl rfl rfl (R.fa0 1 rfl rfl Try.underlying165 rfl Try.sz3 rfl) ?_)))))))
  refine W.ldk rfl rfl rfl rfl rfl Try.pl3 hH28 m0 hBk rfl (W.val rfl rfl rfl (R.assign rfl rfl) (W.nil (EX.then_n (CW.seq (CW.region rfl (W.val rfl rfl rfl (R.move rfl rfl) (W.val rfl rfl rfl (R.move rfl rfl) ?_)))))))
  refine W.callP rfl rfl rfl rfl rfl Try.func102 Try.nm102 Try.bd102 (cursor_field _ _ _ _ hH28 m4 lb (hb) hBk (by omega) (by omega) (by omega)) ?_ ?_
  rintro _ w8 ⟨rfl, he2, zc2, n2, hH30, hB7⟩
  simp only [Int.toNat_natCast] at he2
  refine EX.then_panic (EX.blk_panic (EX.then_panic (EX.blk_panic (EX.then_panic ?_))))
  have hH31 := hH30.f4
  have hH32 := hH31.f2
  refine EX.panD rfl Try.func101 Try.nm101 Try.bd101 (tlv_Dp _ _ _ _ _ 0 _ _ _ _ hH32 hBz hB2) Try.results81 (fun w' hs => ?_)
  obtain ⟨z2', z4', hHp, hBp2, hBp4⟩ := hs
  refine ⟨_, (.cons (.one rfl Try.pl72 (hHp.cell m0 (at0 hBp2.at_ rfl))) (.cons (.tmp rfl) (.cons (.one rfl Try.pl31 (hHp.cell m1 (at0 hBp4.at_ rfl))) .nil))), ?_⟩
  have hH33 := hHp.emp
  have hH34 := hH33.emp
  have hH35 := hH34.f2
  have hH36 := hH35.drop
  have hH37 := hH36.f2
  have hH38 := hH37.drop
  have hH39 := hH38.f2
  have hH40 := hH39.drop
  have hH41 := hH40.f2
  have hH42 := hH41.drop
  have hH43 := hH42.f2
  have hH44 := hH43.drop
  have hH45 := hH44.f2
  have hH46 := hH45.f1
  have hH47 := hH46.f2
  replace he := he.trans (decLoop_bad (by omega) (by omega) (by simpa using he2))
  have hd : decFs b = ([], k, (nextF (b.drop k) last).1) := by unfold decFs; rw [if_neg (by omega)]; exact he
  rw [hd]
  exact ⟨_, _, _, _, rfl, hH47, Own.nil _ _ _⟩
  rintro _ w7 ⟨he1, zc1, zf1, cs1, hH29, hB6, rfl, hK1⟩
  have hK2 := hK1
  obtain ⟨A1, c1, rfl, hb1, hb2, hb3, hb4, hl1, hr1⟩ := hK2
  have hlen1 := hr1.len
  have hK3 : kField.K zf1 _ _ := hK1
  simp only [Int.toNat_natCast] at he1
  refine W.alloc rfl rfl rfl rfl Try.zr77 rfl hH29 (fun b4 zb6 w9 hH48 hB8 => ?_)
  refine W.sg0 rfl rfl rfl rfl rfl Try.sz77 rfl (by rfl) hH48 hB8 (fun zb7 w10 hH49 hB9 => ?_)
  refine W.nil (EX.then_n (CW.seq (CW.region rfl (W.val rfl rfl rfl (R.fa0 0 rfl rfl Try.underlying77 rfl Try.sz3 rfl) (W.ldk rfl rfl rfl rfl rfl Try.pl3 hH49 m0 hB9 rfl (W.val rfl rfl rfl (R.assign rfl rfl) (W.nil ?_)))))))
  refine EX.then_n (CW.region rfl (W.ld0 rfl rfl rfl rfl rfl Try.pl72 hH49 m3 hBz rfl (W.lg0 rfl rfl rfl rfl rfl Try.pl77 (by rw [Try.underlying77]; rfl) (by exact Try.sz77) hH49 m0 hB9 ?_)))
  refine W.bs rfl rfl rfl rfl rfl Try.underlying72 Try.inf77 (by decide) rfl rfl hH49 (fun b5 zb8 w11 hH50 hB10 => ?_)
  have hH51 := hH50.f3
  have hH52 := hH51.f6
  have dj1 := hH52.dj01
  have hH53 := hH52.join
  have hO1 := hO.mono (Le.left _ zf1)
  have hH54 := hH53.f1
  have hH55 := hH54.f5
  refine W.app1 (_) rfl rfl rfl rfl rfl rfl rfl Try.underlying72 Try.inf77 rfl hH55 hB10 hO1 (hK3.mono (Le.right dj1)) (by decide) (by omega) (fun A2 c2 z7 w12 hH56 hO2 => ?_)
  have hH57 := hH56.f4
  refine W.st0 rfl rfl rfl rfl rfl Try.sz72 rfl (Nat.le_of_ble_eq_true rfl) hH57 hBz (fun zb9 w13 hH58 hB11 => ?_)
  refine W.nil (EX.blk_n ?_)
  have hH59 := hH58.f6
  have hH60 := hH59.f6
  have hH61 := hH60.f4
  have hH62 := hH61.f4
  have hH63 := hH62.f4
  have hH64 := hH63.f6
  have hH65 := hH64.upto6
  have hok := nextF_ok he1
  rw [List.length_drop] at hok
  refine EX.back4 _ _ rfl ?_ (by rw [hI1]; exact ⟨k + (nextF (b.drop k) last).2.2, (nextF (b.drop k) last).2.1.Tag, fs ++ [(nextF (b.drop k) last).2.1], _, _, _, _, _, _, f - 1, rfl, rfl, hH65, by omega, he.trans (decLoop_go (by omega) (by omega) he1), by omega, by omega, by simp <;> omega, hO2, hB11, Blk.int2 hB6 (by simp <;> omega)⟩) ?_
  exact ⟨lk_int rfl (by first | rfl | omega), trivial⟩
  omega
  replace hc2 := of_decide_eq_false hc2
  refine CW.exit (EX.then_exit (EX.then_exit (EX.blk_here (EX.then_n (CW.seq (CW.region rfl (W.ld0 rfl rfl rfl rfl rfl Try.pl72 hH28 m1 hBz rfl ?_)))))))
  have hH66 := hH28.f1
  refine W.st0 rfl rfl rfl rfl rfl Try.sz72 rfl (Nat.le_of_ble_eq_true rfl) hH66 hBz (fun zb10 w14 hH67 hB12 => ?_)
  refine W.val rfl rfl rfl (R.assign rfl rfl) ?_
  have hH68 := hH67.f4
  refine W.st0 rfl rfl rfl rfl rfl Try.sz31 rfl (Nat.le_of_ble_eq_true rfl) hH68 hB2 (fun zb11 w15 hH69 hB13 => ?_)
  refine W.nil (EX.then_n (CW.ret ?_))
  have hH70 := hH69.f1
  refine EX.retD rfl Try.func101 Try.nm101 Try.bd101 (tlv_Dr _ _ _ _ _ _ 0 _ _ _ hH70 hB12 hB13) Try.results81 (fun w' hs => ?_)
  obtain rfl := hs
  refine ⟨_, (.cons (.one rfl Try.pl72 (hH69.cell m1 (at0 hB12.at_ rfl))) (.cons (.tmp rfl) (.cons (.one rfl Try.pl31 (hH69.cell m0 (at0 hB13.at_ rfl))) RVs.nil))), ?_⟩
  replace he := he.trans (decLoop_end (by omega))
  have hH71 := hH70.drop
  have hH72 := hH71.drop
  have hH73 := hH72.drop
  have hH74 := hH73.f2
  have hH75 := hH74.f2
  have hH76 := hH75.f2
  have hd : decFs b = (fs, 0, 0) := by unfold decFs; rw [if_neg (by omega)]; exact he
  rw [hd]
  exact ⟨_, _, _, _, rfl, hH76, hO⟩

end Go.Proofs.Gw
namespace Go.Proofs.Gw
open Go Go.Gw Go.Proofs Go.RowKit
set_option maxRecDepth 100000 in
set_option maxHeartbeats 1000000 in
theorem tlv_NewReader (Ab : Option Addr) (cb : Nat) (b : List UInt8) (w0 : World) (lb : b.length ≤ cb) (hb : Row kU8 (hp w0) Ab b) : Calls Try.prog 32 #[.slice Ab b.length cb] w0 (Ret fun v w' => ((decFs b).2.2 ≠ 0 ∧ v = .tuple #[.pointer none, .int .i64 (((decFs b).2.2 : Nat) : Int)] ∧ Has w0 w' [hp w0]) ∨ ((decFs b).2.2 = 0 ∧ ∃ br rm zb zm y, v = .tuple #[.pointer (some ⟨br, 0, none⟩), .int .i64 0] ∧ Has w0 w' [zb, zm, y, hp w0] ∧ Blk zb br 138 [.map (some rm), .int .i64 0] ∧ Mp kvI (VS kField y) zm rm (byTag (decFs b).1))) := by
  refine fnstartP (N := 37) Try.func32 rfl Try.ntmps32 (Nat.le_of_ble_eq_true rfl) ?_
  have hH0 : Has w0 w0 [hp w0] := Has.refl w0
  have hlb := hb.len
  refine CW.seq (CW.region rfl (W.val rfl rfl rfl (R.assign rfl rfl) (W.val rfl rfl rfl (R.assign rfl rfl) (W.nil (EX.then_n (CW.seq (CW.region rfl ?_)))))))
  refine W.val rfl rfl rfl (R.move rfl rfl) (W.call rfl rfl rfl rfl rfl Try.func81 Try.nm81 Try.bd81 (tlv_Decode _ _ _ w0 lb (hb.mono (hH0.le m0))) ?_)
  rintro v1 w1 ⟨A01, c01, z01, y01, rfl, hH1, hO01⟩
  have hH2 := hH0.c2 hH1
  refine W.val rfl rfl rfl (R.move rfl rfl) (W.val rfl rfl rfl (R.extract rfl rfl rfl) (W.val rfl rfl rfl (R.extract rfl rfl rfl) (W.val rfl rfl rfl (R.extract rfl rfl rfl) (W.val rfl rfl rfl (R.assign rfl rfl) (W.val rfl rfl rfl (R.assign rfl rfl) (W.val rfl rfl rfl (R.assign rfl rfl) (W.nil ?_)))))))
  refine EX.then_n (CW.seq (CW.seq (CW.region rfl (W.val rfl rfl rfl (R.move rfl rfl) (W.val rfl rfl rfl (R.neq rfl rfl rfl) (W.nil (EX.then_n ?_)))))))
  refine CW.cond rfl (fun hc1 => ?_) (fun hc1 => ?_)
  replace hc1 := of_ndec_t hc1
  refine CW.seq (CW.region rfl (W.val rfl rfl rfl (R.move rfl rfl) (W.val rfl rfl rfl (R.assign rfl rfl) (W.val rfl rfl rfl (R.assign rfl rfl) (W.nil (EX.then_n (CW.ret ?_)))))))
  refine EX.then_ret (EX.retP Try.results32 (.cons (.tmp rfl) (.cons (.tmp rfl) RVs.nil)) ?_)
  have hH3 := hH2.drop
  have hH4 := hH3.drop
  exact .inl ⟨by omega, rfl, hH4⟩
  replace hc1 := of_ndec_f hc1
  refine CW.skip (EX.then_n (CW.seq (CW.region rfl ?_)))
  refine W.makeMap kvI (VS kField y01) rfl rfl rfl rfl hH2 (fun r1 z2 w2 hH6 hM1 => ?_)
  refine W.val rfl rfl rfl (R.build rfl rfl Try.zr138 rfl (by rw [Try.underlying138]; rfl) Try.plc138 rfl) ?_
  refine W.box rfl rfl rfl rfl rfl rfl hH6 (fun b1 zb1 w3 hH7 hB1 => ?_)
  refine W.val rfl rfl rfl (R.assign rfl rfl) (W.nil (EX.then_n (CW.seq (CW.seq (CW.region rfl (W.val rfl rfl rfl (R.move rfl rfl) (W.val rfl rfl rfl (R.len_slice rfl rfl Try.underlying72) ?_)))))))
  refine W.val rfl rfl rfl (R.move rfl rfl) (W.nil (EX.then_n (CW.block ?_)))
  have hOlen := (hO01.row (hH7.le m2) (hH7.le m3)).len
  have hH8 := hH7.f1
  have hH9 := hH8.f4
  have hH10 := hH9.f4
  have hH11 := hH10.f4
  have hH12 := hH11.f4
  have hH13 := hH12.f4
  obtain ⟨I1, hI1⟩ : ∃ I : Nat → List (Nat × Value) → World → Prop, I = (fun n_ D_ w_ => ∃ (k : Nat) (zm : PH), D_ = [(24, .int .i64 (k : Int))] ∧ n_ = (decFs b).1.length - k ∧ Has w0 w_ [zm, zb1, z01, y01, (hp w0)] ∧ (k ≤ (decFs b).1.length) ∧ (Mp kvI (VS kField y01) zm r1 (byTag ((decFs b).1.take k)))) := ⟨_, rfl⟩
  refine CW.loop3 [9, 24, 25, 26, 27, 28, 29, 30, 31, 32, 33, 34, 35] I1 _ _ ?_ (by rw [hI1]; exact ⟨0, _, rfl, rfl, hH13, by omega, hM1⟩) ?_
  exact ⟨lk_int rfl (by first | rfl | omega), trivial⟩
  intro n1 D w4 hn1
  rw [hI1] at hn1
  obtain ⟨k, zm, rfl, hme1, hH14, hk, hM⟩ := hn1
  refine CW.seq (CW.region rfl (W.val rfl rfl rfl (R.lss rfl rfl rfl) (W.nil (EX.then_n (CW.seq ?_)))))
  refine CW.cond rfl (fun hc2 => ?_) (fun hc2 => ?_)
  replace hc2 := of_decide_eq_true hc2
  refine CW.skip (EX.then_n (CW.seq (CW.block (CW.seq (CW.region rfl ?_)))))
  refine W.indexOwn rfl rfl rfl rfl rfl rfl Try.underlying72 Try.sz77 hO01 (by omega) (by omega) rfl (fun q1 cs1 y1 hy1 hK1 hat1 hq1 => ?_)
  try simp only [Int.toNat_natCast, Int.reduceToNat] at hy1
  have hK2 := hK1
  obtain ⟨A1, c1, rfl, hb1, hb2, hb3, hb4, hl1, hr1⟩ := hK2
  have hlen1 := hr1.len
  refine W.lga rfl rfl rfl rfl rfl Try.pl77 (by rw [Try.underlying77]; rfl) (by exact Try.sz77) hH14 m2 hat1 ?_
  refine W.alloc rfl rfl rfl rfl Try.zr77 rfl hH14 (fun b2 zb2 w5 hH15 hB2 => ?_)
  refine W.sg0 rfl rfl rfl rfl rfl Try.sz77 rfl (by rfl) hH15 hB2 (fun zb3 w6 hH16 hB3 => ?_)
  refine W.nil (EX.then_n ?_)
  have hH17 := hH16.drew
  refine CW.draw (fun w => Sub zb1 w ∧ Sub zb3 w ∧ True) [] #[false, false, false, false, false, false, false, false] Try.mixed rfl rfl ⟨hH17.sub _ m2, hH17.sub _ m0, trivial⟩ (WA.pure (i := 0) #[true, false, false, false, false, false, false, false] (blind_blk (blind_then (blind_then (blind_blk (blind_then (blind_body _ _)))))) rfl (by kernel_rfl) rfl rfl rfl (fun _ => R.move rfl rfl) (WA.pure (i := 1) #[true, true, false, false, false, false, false, false] (blind_blk (blind_then (blind_then (blind_blk (blind_then (blind_body _ _)))))) rfl (by kernel_rfl) rfl rfl rfl (fun _ => R.nilCheck rfl rfl) (WA.pure (i := 2) #[true, true, true, false, false, false, false, false] (blind_blk (blind_then (blind_then (blind_blk (blind_then (blind_body _ _)))))) rfl (by kernel_rfl) rfl rfl rfl (fun _ => R.fa0 0 rfl rfl Try.underlying138 rfl Try.sz136 rfl) (WA.take (i := 3) #[true, true, true, true, false, false, false, false] (blind_blk (blind_then (blind_then (blind_blk (blind_then (blind_body _ _)))))) rfl (by kernel_rfl) rfl rfl rfl (fun _ hw => R.load rfl rfl Try.pl136 (cellz_le hw.1 (hB1.at_ 0 _ rfl))) ⟨hH17.sub _ m2, hH17.sub _ m0, trivial⟩ (WA.pure (i := 4) #[true, true, true, true, true, false, false, false] (blind_blk (blind_then (blind_then (blind_blk (blind_then (blind_body _ _)))))) rfl (by kernel_rfl) rfl rfl rfl (fun _ => R.fa0 0 rfl rfl Try.underlying77 rfl Try.sz3 rfl) (WA.take (i := 5) #[true, true, true, true, true, true, false, false] (blind_blk (blind_then (blind_then (blind_blk (blind_then (blind_body _ _)))))) rfl (by kernel_rfl) rfl rfl rfl (fun _ hw => R.load rfl rfl Try.pl3 (cellz_le hw.2.1 (hB3.at_ 0 _ rfl))) ⟨hH17.sub _ m2, hH17.sub _ m0, trivial⟩ (WA.take (i := 6) #[true, true, true, true, true, true, true, false] (blind_blk (blind_then (blind_then (blind_blk (blind_then (blind_body _ _)))))) rfl (by kernel_rfl) rfl rfl rfl (fun _ hw => R.loadAgg rfl rfl (run_isAgg_struct Try.underlying77) (by exact Try.sz77) (hB3.at_.le hw.2.1)) ⟨hH17.sub _ m2, hH17.sub _ m0, trivial⟩ ?_)))))))
  refine WA.one (i := 7) #[true, true, true, true, true, true, true, true] rfl (by kernel_rfl) rfl ?_
  have hH18 := hH17.f1
  refine W.mapPut goodInt rfl rfl rfl rfl rfl rfl Try.underlying136 Try.underlying3 hH18 hM (absent_take (decFs_up b) hy1) ⟨_, rfl, hK1⟩ (fun z3 w7 hH19 hM2 => ?_)
  refine W.nil (EX.wa ⟨hH19.sub _ m2, hH19.sub _ m1, trivial⟩ (WA.done (by kernel_rfl) (EX.blk_n (EX.then_n (CW.region rfl (W.val rfl rfl rfl (R.addx rfl rfl rfl (ok_i64 (by omega))) (W.val rfl rfl rfl (R.move rfl rfl) ?_)))))))
  refine W.nil ?_
  have hH20 := hH19.f5
  have hH21 := hH20.f5
  have hH22 := hH21.f5
  have hH23 := hH22.f5
  have hH24 := hH23.f4
  have hH25 := hH24.upto5
  refine EX.back4 _ _ rfl ?_ (by rw [hI1]; exact ⟨k + 1, _, rfl, rfl, hH25, by omega, by rw [byTag_succ hy1]; exact hM2⟩) ?_
  exact ⟨lk_int rfl (by first | rfl | omega), trivial⟩
  omega
  replace hc2 := of_decide_eq_false hc2
  refine CW.exit (EX.then_exit (EX.then_exit (EX.blk_here (EX.then_n (CW.seq (CW.region rfl (W.val rfl rfl rfl (R.move rfl rfl) ?_)))))))
  refine W.val rfl rfl rfl (R.assign rfl rfl) (W.val rfl rfl rfl (R.assign rfl rfl) (W.nil (EX.then_n (CW.ret (EX.retP Try.results32 (.cons (.tmp rfl) (.cons (.tmp rfl) RVs.nil)) ?_)))))
  have hH26 := hH14.f2
  have hH27 := hH26.drop
  have hH28 := hH27.f3
  have hH29 := hH28.f3
  have hH30 := hH29.f2
  have hH31 := hH30.f3
  obtain rfl : k = (decFs b).1.length := by omega
  have hMx := hM
  rw [List.take_length] at hMx
  exact .inr ⟨by omega, _, _, _, _, _, rfl, hH31, hB1, hMx⟩

end Go.Proofs.Gw
namespace Go.Proofs.Gw
open Go Go.Gw Go.Proofs Go.RowKit
set_option maxRecDepth 100000 in
set_option maxHeartbeats 1000000 in
theorem canon_Decode (Ab : Option Addr) (cb : Nat) (b : List UInt8) (w0 : World) (lb : b.length ≤ cb) (hb : Row kU8 (hp w0) Ab b) : Calls Try.prog 10 #[.slice Ab b.length cb] w0 (Ret fun v w' => ∃ (A0_5 : Option Addr) (c0_5 : Nat) (z0_5 : PH), v = .tuple #[.agg ([.int .i64 ((decS b).1).Order, .int .i64 ((decS b).1).Status, .int .i64 ((decS b).1).Prior, .int .i64 ((decS b).1).Cur, .int .i64 ((decS b).1).Tax, .slice A0_5 ((decS b).1).Lines.length c0_5, .int .i64 ((decS b).1).Paid, .int .i64 ((decS b).1).Refunded, .int .i64 ((decS b).1).Events, .int .i64 ((decS b).1).Refused, .int .i64 ((decS b).1).Stamp, .string ((decS b).1).Who] : List Value).toArray, .int .i64 ((decS b).2)] ∧ Has w0 w' [z0_5, hp w0] ∧ Own kLine 37 emp z0_5 A0_5 c0_5 ((decS b).1).Lines ∧ (-9223372036854775808 ≤ ((decS b).1).Order ∧ ((decS b).1).Order ≤ 9223372036854775807) ∧ (-9223372036854775808 ≤ ((decS b).1).Status ∧ ((decS b).1).Status ≤ 9223372036854775807) ∧ (-9223372036854775808 ≤ ((decS b).1).Prior ∧ ((decS b).1).Prior ≤ 9223372036854775807) ∧ (-9223372036854775808 ≤ ((decS b).1).Cur ∧ ((decS b).1).Cur ≤ 9223372036854775807) ∧ (-9223372036854775808 ≤ ((decS b).1).Tax ∧ ((decS b).1).Tax ≤ 9223372036854775807) ∧ (-9223372036854775808 ≤ ((decS b).1).Paid ∧ ((decS b).1).Paid ≤ 9223372036854775807) ∧ (-9223372036854775808 ≤ ((decS b).1).Refunded ∧ ((decS b).1).Refunded ≤ 9223372036854775807) ∧ (-9223372036854775808 ≤ ((decS b).1).Events ∧ ((decS b).1).Events ≤ 9223372036854775807) ∧ (-9223372036854775808 ≤ ((decS b).1).Refused ∧ ((decS b).1).Refused ≤ 9223372036854775807) ∧ (-9223372036854775808 ≤ ((decS b).1).Stamp ∧ ((decS b).1).Stamp ≤ 9223372036854775807) ∧ ((decS b).1).Who.size ≤ 9223372036854775807) := by
  refine fnstart (N := 89) Try.func10 rfl Try.ntmps10 (Nat.le_of_ble_eq_true rfl) ?_
  have hH0 : Has w0 w0 [hp w0] := Has.refl w0
  refine CW.seq (CW.region rfl ?_)
  refine W.alloc rfl rfl rfl rfl Try.zr28 rfl hH0 (fun b1 zb1 w1 hH1 hB1 => ?_)
  refine W.val rfl rfl rfl (R.assign rfl rfl) (W.nil (EX.then_n (CW.seq (CW.region rfl (W.val rfl rfl rfl (R.move rfl rfl) (W.call rfl rfl rfl rfl rfl Try.func32 Try.nm32 Try.bd32 (tlv_NewReader _ _ _ _ lb (hb.mono (hH1.le m1))) ?_))))))
  rintro _ w4 (⟨he1, rfl, hH2⟩ | ⟨he2, br1, rm1, zb2, zm1, y1, rfl, hH3, hB2, hM1⟩)
  have hH4 := hH1.c0 hH2
  refine W.val rfl rfl rfl (R.move rfl rfl) (W.val rfl rfl rfl (R.extract rfl rfl rfl) (W.val rfl rfl rfl (R.extract rfl rfl rfl) ?_))
  refine W.alloc rfl rfl rfl rfl Try.zr82 rfl hH4 (fun b2 zb3 w5 hH5 hB3 => ?_)
  refine W.st0 rfl rfl rfl rfl rfl Try.sz82 rfl (Nat.le_of_ble_eq_true rfl) hH5 hB3 (fun zb4 w6 hH6 hB4 => ?_)
  refine W.val rfl rfl rfl (R.assign rfl rfl) (W.nil (EX.then_n (CW.seq (CW.seq (CW.region rfl (W.val rfl rfl rfl (R.move rfl rfl) (W.val rfl rfl rfl (R.neq rfl rfl rfl) ?_)))))))
  refine W.nil (EX.then_n ?_)
  refine CW.cond rfl (fun hc1 => ?_) (fun hc1 => ?_)
  replace hc1 := of_ndec_t hc1
  refine CW.seq (CW.region rfl (W.val rfl rfl rfl (R.build rfl rfl Try.zr28 rfl (by rw [Try.underlying28]; rfl) Try.plc28 rfl) (W.val rfl rfl rfl (R.move rfl rfl) ?_)))
  have hH7 := hH6.f1
  refine W.sg0 rfl rfl rfl rfl rfl Try.sz28 rfl (by rfl) hH7 hB1 (fun zb5 w7 hH8 hB5 => ?_)
  refine W.val rfl rfl rfl (R.assign rfl rfl) (W.nil (EX.then_n (CW.ret (EX.then_ret (EX.retV Try.results10 (.cons (.agg rfl (fun w => run_isAgg_struct Try.underlying28 w) (by exact Try.sz28) (fun k u hk => hH8.cell m0 (hB5.at_ k u hk))) (.cons (.tmp rfl) RVs.nil)) ?_)))))
  have hH9 := hH8.emp
  have hH10 := hH9.f3
  have hH11 := hH10.f1
  have hH12 := hH11.upto2
  rw [decS_err (by omega)]
  refine ⟨_, _, _, ?_, hH12, (Own.nil _ _ _), ⟨⟨by first | omega | decide | (dsimp only; omega), by first | omega | decide | (dsimp only; omega)⟩, ⟨by first | omega | decide | (dsimp only; omega), by first | omega | decide | (dsimp only; omega)⟩, ⟨by first | omega | decide | (dsimp only; omega), by first | omega | decide | (dsimp only; omega)⟩, ⟨by first | omega | decide | (dsimp only; omega), by first | omega | decide | (dsimp only; omega)⟩, ⟨by first | omega | decide | (dsimp only; omega), by first | omega | decide | (dsimp only; omega)⟩, ⟨by first | omega | decide | (dsimp only; omega), by first | omega | decide | (dsimp only; omega)⟩, ⟨by first | omega | decide | (dsimp only; omega), by first | omega | decide | (dsimp only; omega)⟩, ⟨by first | omega | decide | (dsimp only; omega), by first | omega | decide | (dsimp only; omega)⟩, ⟨by first | omega | decide | (dsimp only; omega), by first | omega | decide | (dsimp only; omega)⟩, ⟨by first | omega | decide | (dsimp only; omega), by first | omega | decide | (dsimp only; omega)⟩, (Nat.le_of_ble_eq_true rfl)⟩⟩
  rfl
  replace hc1 := of_ndec_f hc1
  exfalso
  omega
  have hH13 := hH1.c3 hH3
  refine W.val rfl rfl rfl (R.move rfl rfl) (W.val rfl rfl rfl (R.extract rfl rfl rfl) (W.val rfl rfl rfl (R.extract rfl rfl rfl) ?_))
  refine W.alloc rfl rfl rfl rfl Try.zr82 rfl hH13 (fun b3 zb6 w8 hH14 hB6 => ?_)
  refine W.st0 rfl rfl rfl rfl rfl Try.sz82 rfl (Nat.le_of_ble_eq_true rfl) hH14 hB6 (fun zb7 w9 hH15 hB7 => ?_)
  refine W.val rfl rfl rfl (R.assign rfl rfl) (W.nil (EX.then_n (CW.seq (CW.seq (CW.region rfl (W.val rfl rfl rfl (R.move rfl rfl) (W.val rfl rfl rfl (R.neq rfl rfl rfl) ?_)))))))
  refine W.nil (EX.then_n ?_)
  refine CW.cond rfl (fun hc2 => ?_) (fun hc2 => ?_)
  replace hc2 := of_ndec_t hc2
  exfalso
  omega
  replace hc2 := of_ndec_f hc2
  refine CW.skip (EX.then_n (CW.seq (CW.region rfl ?_)))
  have hR0 := RelC.start (b := b)
  refine W.val rfl rfl rfl (R.makeFunc rfl rfl rfl) (W.val rfl rfl rfl (R.assign rfl rfl) (W.nil (EX.then_n ?_)))
  obtain ⟨I1, hI1⟩ : ∃ I : List (Nat × Value) → World → Prop, I = (fun D_ w_ => ∃ (n1 : Int) (n2 : Int) (n3 : Int) (n4 : Int) (n5 : Int) (n6 : Int) (n7 : Int) (n8 : Int) (n9 : Int) (n10 : Int) (who : ByteArray) (bad : Int) (fsl : List GField) (bS : Nat) (zb : PH) (zm : PH) (zs : PH), D_ = [(7, .pointer (some ⟨bS, 0, none⟩))] ∧ Has w0 w_ [zb, zm, zs, zb7, y1, zb1, (hp w0)] ∧ (RelC (decFs b).1 12 fsl ⟨[0, n1, n2, n3, n4, n5, n6, n7, n8, n9, n10], who, [], false, true⟩ bad) ∧ (Blk zb br1 138 [.map (some rm1), .int .i64 bad]) ∧ (Mp kvI (VS kField y1) zm rm1 (byTag fsl)) ∧ (Blk zs bS 28 [.int .i64 n1, .int .i64 n2, .int .i64 n3, .int .i64 n4, .int .i64 n5, .slice none 0 0, .int .i64 n6, .int .i64 n7, .int .i64 n8, .int .i64 n9, .int .i64 n10, .string who]) ∧ (who.size ≤ 9223372036854775807) ∧ ((0 ≤ n1 ∧ n1 ≤ 4611686018427387904) ∧ (0 ≤ n2 ∧ n2 ≤ 4611686018427387904) ∧ (0 ≤ n3 ∧ n3 ≤ 4611686018427387904) ∧ (0 ≤ n4 ∧ n4 ≤ 4611686018427387904) ∧ (0 ≤ n5 ∧ n5 ≤ 4611686018427387904) ∧ (0 ≤ n6 ∧ n6 ≤ 4611686018427387904) ∧ (0 ≤ n7 ∧ n7 ≤ 4611686018427387904) ∧ (0 ≤ n8 ∧ n8 ≤ 4611686018427387904) ∧ (0 ≤ n9 ∧ n9 ≤ 4611686018427387904) ∧ (0 ≤ n10 ∧ n10 ≤ 4611686018427387904))) := ⟨_, rfl⟩
  refine CW.mid [7, 24, 25, 26, 27, 28, 29, 30, 31, 32, 33, 34, 35, 36, 37, 38, 39, 40, 41, 42, 43, 44, 45, 46, 47] I1 ?_ ?_
  have hH16 := hH15.drew
  refine CW.draw (fun w => Sub zb7 w ∧ True) [] #[false, false, false, false, false, false, false, false, false, false, false, false, false, false, false, false, false, false, false, false, false, false, false, false, false, false] Try.mixed rfl rfl ⟨hH16.sub _ m0, trivial⟩ (WA.pure (i := 0) #[true, false, false, false, false, false, false, false, false, false, false, false, false, false, false, false, false, false, false, false, false, false, false, false, false, false] (blind_then (blind_body _ _)) rfl (by kernel_rfl) rfl rfl rfl (fun _ => R.move rfl rfl) (WA.pure (i := 2) #[true, false, true, false, false, false, false, false, false, false, false, false, false, false, false, false, false, false, false, false, false, false, false, false, false, false] (blind_then (blind_body _ _)) rfl (by kernel_rfl) rfl rfl rfl (fun _ => R.move rfl rfl) (WA.pure (i := 4) #[true, false, true, false, true, false, false, false, false, false, false, false, false, false, false, false, false, false, false, false, false, false, false, false, false, false] (blind_then (blind_body _ _)) rfl (by kernel_rfl) rfl rfl rfl (fun _ => R.move rfl rfl) (WA.pure (i := 6) #[true, false, true, false, true, false, true, false, false, false, false, false, false, false, false, false, false, false, false, false, false, false, false, false, false, false] (blind_then (blind_body _ _)) rfl (by kernel_rfl) rfl rfl rfl (fun _ => R.move rfl rfl) (WA.pure (i := 8) #[true, false, true, false, true, false, true, false, true, false, false, false, false, false, false, false, false, false, false, false, false, false, false, false, false, false] (blind_then (blind_body _ _)) rfl (by kernel_rfl) rfl rfl rfl (fun _ => R.move rfl rfl) (WA.pure (i := 10) #[true, false, true, false, true, false, true, false, true, false, true, false, false, false, false, false, false, false, false, false, false, false, false, false, false, false] (blind_then (blind_body _ _)) rfl (by kernel_rfl) rfl rfl rfl (fun _ => R.move rfl rfl) (WA.pure (i := 12) #[true, false, true, false, true, false, true, false, true, false, true, false, true, false, false, false, false, false, false, false, false, false, false, false, false, false] (blind_then (blind_body _ _)) rfl (by kernel_rfl) rfl rfl rfl (fun _ => R.move rfl rfl) ?_)))))))
  refine WA.pure (i := 14) #[true, false, true, false, true, false, true, false, true, false, true, false, true, false, true, false, false, false, false, false, false, false, false, false, false, false] (blind_then (blind_body _ _)) rfl (by kernel_rfl) rfl rfl rfl (fun _ => R.move rfl rfl) (WA.pure (i := 16) #[true, false, true, false, true, false, true, false, true, false, true, false, true, false, true, false, true, false, false, false, false, false, false, false, false, false] (blind_then (blind_body _ _)) rfl (by kernel_rfl) rfl rfl rfl (fun _ => R.move rfl rfl) (WA.pure (i := 18) #[true, false, true, false, true, false, true, false, true, false, true, false, true, false, true, false, true, false, true, false, false, false, false, false, false, false] (blind_then (blind_body _ _)) rfl (by kernel_rfl) rfl rfl rfl (fun _ => R.move rfl rfl) (WA.take (i := 20) #[true, false, true, false, true, false, true, false, true, false, true, false, true, false, true, false, true, false, true, false, true, false, false, false, false, false] (blind_then (blind_body _ _)) rfl (by kernel_rfl) rfl rfl rfl (fun _ hw => R.load rfl rfl Try.pl82 (cellz_le hw.1 (at0 hB7.at_ rfl))) ⟨hH16.sub _ m0, trivial⟩ ?_)))
  refine WA.two (i := 1) (j := 24) #[true, true, true, false, true, false, true, false, true, false, true, false, true, false, true, false, true, false, true, false, true, false, false, false, false, false] #[true, false, true, false, true, false, true, false, true, false, true, false, true, false, true, false, true, false, true, false, true, false, false, false, true, false] rfl rfl (by kernel_rfl) rfl rfl ?_ ?_
  have hH18 := hH16.f2
  have hH19 := hH18.f2
  refine W.callV rfl rfl rfl rfl rfl rfl Try.func33 Try.nm33 Try.bd33 (canon_num _ _ _ _ hH19 hB2 hM1 m0 hB7) ?_
  rintro _ w10 ⟨f1, m1, bad1, zb8, zm2, hT1, rfl, hH17, hB8, hM2⟩
  obtain ⟨fs1, hm1, hR1⟩ := RelC.num (t := 1) hR0 (by omega) rfl hT1
  subst hm1
  replace hR1 : RelC (decFs b).1 2 fs1 ⟨[0, ((clampN f1.Num.toNat : Nat) : Int), 0, 0, 0, 0, 0, 0, 0, 0, 0], ⟨#[]⟩, [], false, true⟩ bad1 := hR1
  have hcl1 : clampN f1.Num.toNat ≤ 4611686018427387904 := by unfold clampN; omega
  refine W.nil (EX.wa ⟨hH17.sub _ m2, trivial⟩ ?_)
  refine WA.two (i := 3) (j := 24) #[true, true, true, true, true, false, true, false, true, false, true, false, true, false, true, false, true, false, true, false, true, false, false, false, false, false] #[true, true, true, false, true, false, true, false, true, false, true, false, true, false, true, false, true, false, true, false, true, false, false, false, true, false] rfl rfl (by kernel_rfl) rfl rfl ?_ ?_
  have hH21 := hH17.f1
  have hH22 := hH21.f1
  refine W.callV rfl rfl rfl rfl rfl rfl Try.func33 Try.nm33 Try.bd33 (canon_num _ _ _ _ hH22 hB8 hM2 m0 hB7) ?_
  rintro _ w11 ⟨f2, m2, bad2, zb9, zm3, hT2, rfl, hH20, hB9, hM3⟩
  obtain ⟨fs2, hm2, hR2⟩ := RelC.num (t := 2) hR1 (by omega) rfl hT2
  subst hm2
  replace hR2 : RelC (decFs b).1 3 fs2 ⟨[0, ((clampN f1.Num.toNat : Nat) : Int), ((clampN f2.Num.toNat : Nat) : Int), 0, 0, 0, 0, 0, 0, 0, 0], ⟨#[]⟩, [], false, true⟩ bad2 := hR2
  have hcl2 : clampN f2.Num.toNat ≤ 4611686018427387904 := by unfold clampN; omega
  refine W.nil (EX.wa ⟨hH20.sub _ m2, trivial⟩ ?_)
  refine WA.two (i := 5) (j := 24) #[true, true, true, true, true, true, true, false, true, false, true, false, true, false, true, false, true, false, true, false, true, false, false, false, false, false] #[true, true, true, true, true, false, true, false, true, false, true, false, true, false, true, false, true, false, true, false, true, false, false, false, true, false] rfl rfl (by kernel_rfl) rfl rfl ?_ ?_
  have hH24 := hH20.f1
  have hH25 := hH24.f1
  refine W.callV rfl rfl rfl rfl rfl rfl Try.func33 Try.nm33 Try.bd33 (canon_num _ _ _ _ hH25 hB9 hM3 m0 hB7) ?_
  rintro _ w12 ⟨f3, m3, bad3, zb10, zm4, hT3, rfl, hH23, hB10, hM4⟩
  obtain ⟨fs3, hm3, hR3⟩ := RelC.num (t := 3) hR2 (by omega) rfl hT3
  subst hm3
  replace hR3 : RelC (decFs b).1 4 fs3 ⟨[0, ((clampN f1.Num.toNat : Nat) : Int), ((clampN f2.Num.toNat : Nat) : Int), ((clampN f3.Num.toNat : Nat) : Int), 0, 0, 0, 0, 0, 0, 0], ⟨#[]⟩, [], false, true⟩ bad3 := hR3
  have hcl3 : clampN f3.Num.toNat ≤ 4611686018427387904 := by unfold clampN; omega
  refine W.nil (EX.wa ⟨hH23.sub _ m2, trivial⟩ ?_)
  refine WA.two (i := 7) (j := 24) #[true, true, true, true, true, true, true, true, true, false, true, false, true, false, true, false, true, false, true, false, true, false, false, false, false, false] #[true, true, true, true, true, true, true, false, true, false, true, false, true, false, true, false, true, false, true, false, true, false, false, false, true, false] rfl rfl (by kernel_rfl) rfl rfl ?_ ?_
  have hH27 := hH23.f1
  have hH28 := hH27.f1
  refine W.callV rfl rfl rfl rfl rfl rfl Try.func33 Try.nm33 Try.bd33 (canon_num _ _ _ _ hH28 hB10 hM4 m0 hB7) ?_
  rintro _ w13 ⟨f4, m4, bad4, zb11, zm5, hT4, rfl, hH26, hB11, hM5⟩
  obtain ⟨fs4, hm4, hR4⟩ := RelC.num (t := 4) hR3 (by omega) rfl hT4
  subst hm4
  replace hR4 : RelC (decFs b).1 5 fs4 ⟨[0, ((clampN f1.Num.toNat : Nat) : Int), ((clampN f2.Num.toNat : Nat) : Int), ((clampN f3.Num.toNat : Nat) : Int), ((clampN f4.Num.toNat : Nat) : Int), 0, 0, 0, 0, 0, 0], ⟨#[]⟩, [], false, true⟩ bad4 := hR4
  have hcl4 : clampN f4.Num.toNat ≤ 4611686018427387904 := by unfold clampN; omega
  refine W.nil (EX.wa ⟨hH26.sub _ m2, trivial⟩ ?_)
  refine WA.two (i := 9) (j := 24) #[true, true, true, true, true, true, true, true, true, true, true, false, true, false, true, false, true, false, true, false, true, false, false, false, false, false] #[true, true, true, true, true, true, true, true, true, false, true, false, true, false, true, false, true, false, true, false, true, false, false, false, true, false] rfl rfl (by kernel_rfl) rfl rfl ?_ ?_
  have hH30 := hH26.f1
  have hH31 := hH30.f1
  refine W.callV rfl rfl rfl rfl rfl rfl Try.func33 Try.nm33 Try.bd33 (canon_num _ _ _ _ hH31 hB11 hM5 m0 hB7) ?_
  rintro _ w14 ⟨f5, m5, bad5, zb12, zm6, hT5, rfl, hH29, hB12, hM6⟩
  obtain ⟨fs5, hm5, hR5⟩ := RelC.num (t := 5) hR4 (by omega) rfl hT5
  subst hm5
  replace hR5 : RelC (decFs b).1 6 fs5 ⟨[0, ((clampN f1.Num.toNat : Nat) : Int), ((clampN f2.Num.toNat : Nat) : Int), ((clampN f3.Num.toNat : Nat) : Int), ((clampN f4.Num.toNat : Nat) : Int), ((clampN f5.Num.toNat : Nat) : Int), 0, 0, 0, 0, 0], ⟨#[]⟩, [], false, true⟩ bad5 := hR5
  have hcl5 : clampN f5.Num.toNat ≤ 4611686018427387904 := by unfold clampN; omega
  refine W.nil (EX.wa ⟨hH29.sub _ m2, trivial⟩ ?_)
  refine WA.two (i := 11) (j := 24) #[true, true, true, true, true, true, true, true, true, true, true, true, true, false, true, false, true, false, true, false, true, false, false, false, false, false] #[true, true, true, true, true, true, true, true, true, true, true, false, true, false, true, false, true, false, true, false, true, false, false, false, true, false] rfl rfl (by kernel_rfl) rfl rfl ?_ ?_
  have hH33 := hH29.f1
  have hH34 := hH33.f1
  refine W.callV rfl rfl rfl rfl rfl rfl Try.func33 Try.nm33 Try.bd33 (canon_num _ _ _ _ hH34 hB12 hM6 m0 hB7) ?_
  rintro _ w15 ⟨f6, m6, bad6, zb13, zm7, hT6, rfl, hH32, hB13, hM7⟩
  obtain ⟨fs6, hm6, hR6⟩ := RelC.num (t := 6) hR5 (by omega) rfl hT6
  subst hm6
  replace hR6 : RelC (decFs b).1 7 fs6 ⟨[0, ((clampN f1.Num.toNat : Nat) : Int), ((clampN f2.Num.toNat : Nat) : Int), ((clampN f3.Num.toNat : Nat) : Int), ((clampN f4.Num.toNat : Nat) : Int), ((clampN f5.Num.toNat : Nat) : Int), ((clampN f6.Num.toNat : Nat) : Int), 0, 0, 0, 0], ⟨#[]⟩, [], false, true⟩ bad6 := hR6
  have hcl6 : clampN f6.Num.toNat ≤ 4611686018427387904 := by unfold clampN; omega
  refine W.nil (EX.wa ⟨hH32.sub _ m2, trivial⟩ ?_)
  refine WA.two (i := 13) (j := 24) #[true, true, true, true, true, true, true, true, true, true, true, true, true, true, true, false, true, false, true, false, true, false, false, false, false, false] #[true, true, true, true, true, true, true, true, true, true, true, true, true, false, true, false, true, false, true, false, true, false, false, false, true, false] rfl rfl (by kernel_rfl) rfl rfl ?_ ?_
  have hH36 := hH32.f1
  have hH37 := hH36.f1
  refine W.callV rfl rfl rfl rfl rfl rfl Try.func33 Try.nm33 Try.bd33 (canon_num _ _ _ _ hH37 hB13 hM7 m0 hB7) ?_
  rintro _ w16 ⟨f7, m7, bad7, zb14, zm8, hT7, rfl, hH35, hB14, hM8⟩
  obtain ⟨fs7, hm7, hR7⟩ := RelC.num (t := 7) hR6 (by omega) rfl hT7
  subst hm7
  replace hR7 : RelC (decFs b).1 8 fs7 ⟨[0, ((clampN f1.Num.toNat : Nat) : Int), ((clampN f2.Num.toNat : Nat) : Int), ((clampN f3.Num.toNat : Nat) : Int), ((clampN f4.Num.toNat : Nat) : Int), ((clampN f5.Num.toNat : Nat) : Int), ((clampN f6.Num.toNat : Nat) : Int), ((clampN f7.Num.toNat : Nat) : Int), 0, 0, 0], ⟨#[]⟩, [], false, true⟩ bad7 := hR7
  have hcl7 : clampN f7.Num.toNat ≤ 4611686018427387904 := by unfold clampN; omega
  refine W.nil (EX.wa ⟨hH35.sub _ m2, trivial⟩ ?_)
  refine WA.two (i := 15) (j := 24) #[true, true, true, true, true, true, true, true, true, true, true, true, true, true, true, true, true, false, true, false, true, false, false, false, false, false] #[true, true, true, true, true, true, true, true, true, true, true, true, true, true, true, false, true, false, true, false, true, false, false, false, true, false] rfl rfl (by kernel_rfl) rfl rfl ?_ ?_
  have hH39 := hH35.f1
  have hH40 := hH39.f1
  refine W.callV rfl rfl rfl rfl rfl rfl Try.func33 Try.nm33 Try.bd33 (canon_num _ _ _ _ hH40 hB14 hM8 m0 hB7) ?_
  rintro _ w17 ⟨f8, m8, bad8, zb15, zm9, hT8, rfl, hH38, hB15, hM9⟩
  obtain ⟨fs8, hm8, hR8⟩ := RelC.num (t := 8) hR7 (by omega) rfl hT8
  subst hm8
  replace hR8 : RelC (decFs b).1 9 fs8 ⟨[0, ((clampN f1.Num.toNat : Nat) : Int), ((clampN f2.Num.toNat : Nat) : Int), ((clampN f3.Num.toNat : Nat) : Int), ((clampN f4.Num.toNat : Nat) : Int), ((clampN f5.Num.toNat : Nat) : Int), ((clampN f6.Num.toNat : Nat) : Int), ((clampN f7.Num.toNat : Nat) : Int), ((clampN f8.Num.toNat : Nat) : Int), 0, 0], ⟨#[]⟩, [], false, true⟩ bad8 := hR8
  have hcl8 : clampN f8.Num.toNat ≤ 4611686018427387904 := by unfold clampN; omega
  refine W.nil (EX.wa ⟨hH38.sub _ m2, trivial⟩ ?_)
  refine WA.two (i := 17) (j := 24) #[true, true, true, true, true, true, true, true, true, true, true, true, true, true, true, true, true, true, true, false, true, false, false, false, false, false] #[true, true, true, true, true, true, true, true, true, true, true, true, true, true, true, true, true, false, true, false, true, false, false, false, true, false] rfl rfl (by kernel_rfl) rfl rfl ?_ ?_
  have hH42 := hH38.f1
  have hH43 := hH42.f1
  refine W.callV rfl rfl rfl rfl rfl rfl Try.func33 Try.nm33 Try.bd33 (canon_num _ _ _ _ hH43 hB15 hM9 m0 hB7) ?_
  rintro _ w18 ⟨f9, m9, bad9, zb16, zm10, hT9, rfl, hH41, hB16, hM10⟩
  obtain ⟨fs9, hm9, hR9⟩ := RelC.num (t := 9) hR8 (by omega) rfl hT9
  subst hm9
  replace hR9 : RelC (decFs b).1 10 fs9 ⟨[0, ((clampN f1.Num.toNat : Nat) : Int), ((clampN f2.Num.toNat : Nat) : Int), ((clampN f3.Num.toNat : Nat) : Int), ((clampN f4.Num.toNat : Nat) : Int), ((clampN f5.Num.toNat : Nat) : Int), ((clampN f6.Num.toNat : Nat) : Int), ((clampN f7.Num.toNat : Nat) : Int), ((clampN f8.Num.toNat : Nat) : Int), ((clampN f9.Num.toNat : Nat) : Int), 0], ⟨#[]⟩, [], false, true⟩ bad9 := hR9
  have hcl9 : clampN f9.Num.toNat ≤ 4611686018427387904 := by unfold clampN; omega
  refine W.nil (EX.wa ⟨hH41.sub _ m2, trivial⟩ ?_)
  refine WA.two (i := 19) (j := 24) #[true, true, true, true, true, true, true, true, true, true, true, true, true, true, true, true, true, true, true, true, true, false, false, false, false, false] #[true, true, true, true, true, true, true, true, true, true, true, true, true, true, true, true, true, true, true, false, true, false, false, false, true, false] rfl rfl (by kernel_rfl) rfl rfl ?_ ?_
  have hH45 := hH41.f1
  have hH46 := hH45.f1
  refine W.callV rfl rfl rfl rfl rfl rfl Try.func33 Try.nm33 Try.bd33 (canon_num _ _ _ _ hH46 hB16 hM10 m0 hB7) ?_
  rintro _ w19 ⟨f10, m10, bad10, zb17, zm11, hT10, rfl, hH44, hB17, hM11⟩
  obtain ⟨fs10, hm10, hR10⟩ := RelC.num (t := 10) hR9 (by omega) rfl hT10
  subst hm10
  replace hR10 : RelC (decFs b).1 11 fs10 ⟨[0, ((clampN f1.Num.toNat : Nat) : Int), ((clampN f2.Num.toNat : Nat) : Int), ((clampN f3.Num.toNat : Nat) : Int), ((clampN f4.Num.toNat : Nat) : Int), ((clampN f5.Num.toNat : Nat) : Int), ((clampN f6.Num.toNat : Nat) : Int), ((clampN f7.Num.toNat : Nat) : Int), ((clampN f8.Num.toNat : Nat) : Int), ((clampN f9.Num.toNat : Nat) : Int), ((clampN f10.Num.toNat : Nat) : Int)], ⟨#[]⟩, [], false, true⟩ bad10 := hR10
  have hcl10 : clampN f10.Num.toNat ≤ 4611686018427387904 := by unfold clampN; omega
  refine W.nil (EX.wa ⟨hH44.sub _ m2, trivial⟩ ?_)
  refine WA.two (i := 21) (j := 24) #[true, true, true, true, true, true, true, true, true, true, true, true, true, true, true, true, true, true, true, true, true, true, false, false, false, false] #[true, true, true, true, true, true, true, true, true, true, true, true, true, true, true, true, true, true, true, true, true, false, false, false, true, false] rfl rfl (by kernel_rfl) rfl rfl ?_ ?_
  have hH48 := hH44.f1
  have hH49 := hH48.f1
  refine W.call rfl rfl rfl rfl rfl Try.func36 Try.nm36 Try.bd36 (reader_Text _ _ _ _ hH49 hB17 hM11) ?_
  rintro _ w20 ⟨f11, m11, bad11, zb18, zm12, A1, c1, hT11, rfl, hl1, hr1, hH47, hB18, hM12⟩
  obtain ⟨fs11, hm11, hR11⟩ := RelC.who hR10 rfl hT11
  subst hm11
  replace hR11 : RelC (decFs b).1 12 fs11 ⟨[0, ((clampN f1.Num.toNat : Nat) : Int), ((clampN f2.Num.toNat : Nat) : Int), ((clampN f3.Num.toNat : Nat) : Int), ((clampN f4.Num.toNat : Nat) : Int), ((clampN f5.Num.toNat : Nat) : Int), ((clampN f6.Num.toNat : Nat) : Int), ((clampN f7.Num.toNat : Nat) : Int), ((clampN f8.Num.toNat : Nat) : Int), ((clampN f9.Num.toNat : Nat) : Int), ((clampN f10.Num.toNat : Nat) : Int)], ⟨f11.Bytes.toArray⟩, [], false, true⟩ bad11 := hR11
  refine W.nil (EX.wa ⟨hH47.sub _ m2, trivial⟩ ?_)
  refine WA.two (i := 22) (j := 24) #[true, true, true, true, true, true, true, true, true, true, true, true, true, true, true, true, true, true, true, true, true, true, true, false, false, false] #[true, true, true, true, true, true, true, true, true, true, true, true, true, true, true, true, true, true, true, true, true, true, false, false, true, false] rfl rfl (by kernel_rfl) rfl rfl ?_ ?_
  refine W.val rfl rfl rfl (R.bytesStr rfl rfl Try.underlying22 Try.underlying5 Try.underlying9 (hr1.mono (hH47.le m3))) (W.nil (EX.wa ⟨hH47.sub _ m2, trivial⟩ ?_))
  refine WA.two (i := 23) (j := 24) #[true, true, true, true, true, true, true, true, true, true, true, true, true, true, true, true, true, true, true, true, true, true, true, true, false, false] #[true, true, true, true, true, true, true, true, true, true, true, true, true, true, true, true, true, true, true, true, true, true, true, false, true, false] rfl rfl (by kernel_rfl) rfl rfl ?_ ?_
  refine W.val rfl rfl rfl (R.buildS 12 rfl rfl Try.zr28 rfl rfl (by rw [Try.underlying28]; rfl) Try.plc28 rfl) (W.re (d := 47) (v := .agg ([_, _, _, _, _, _, _, _, _, _, _, _] : List Value).toArray) rfl rfl (W.nil (EX.wa ⟨hH47.sub _ m2, trivial⟩ (WA.one (i := 24) #[true, true, true, true, true, true, true, true, true, true, true, true, true, true, true, true, true, true, true, true, true, true, true, true, true, false] rfl (by kernel_rfl) rfl ?_))))
  refine W.alloc rfl rfl rfl rfl Try.zr28 rfl hH47 (fun b4 zb19 w21 hH50 hB19 => ?_)
  refine W.nil (EX.wa ⟨hH50.sub _ m3, trivial⟩ (WA.one (i := 25) #[true, true, true, true, true, true, true, true, true, true, true, true, true, true, true, true, true, true, true, true, true, true, true, true, true, true] rfl (by kernel_rfl) rfl ?_))
  refine W.sg0 rfl rfl rfl rfl rfl Try.sz28 rfl (by rfl) hH50 hB19 (fun zb20 w22 hH51 hB20 => ?_)
  refine W.nil (EX.wa ⟨hH51.sub _ m3, trivial⟩ (WA.done (by kernel_rfl) ?_))
  have hH52 := hH51.f6
  have hH53 := hH52.f6
  have hH54 := hH53.f6
  have hH55 := hH54.f6
  have hH56 := hH55.f4
  have hH57 := hH56.f6
  have hH58 := hH57.f6
  have hH59 := hH58.upto7
  refine EX.mid _ rfl ?_ (by rw [hI1]; exact ⟨((clampN f1.Num.toNat : Nat) : Int), ((clampN f2.Num.toNat : Nat) : Int), ((clampN f3.Num.toNat : Nat) : Int), ((clampN f4.Num.toNat : Nat) : Int), ((clampN f5.Num.toNat : Nat) : Int), ((clampN f6.Num.toNat : Nat) : Int), ((clampN f7.Num.toNat : Nat) : Int), ((clampN f8.Num.toNat : Nat) : Int), ((clampN f9.Num.toNat : Nat) : Int), ((clampN f10.Num.toNat : Nat) : Int), ⟨f11.Bytes.toArray⟩, bad11, fs11, b4, _, _, _, rfl, hH59, hR11, hB18, hM12, hB20, (bytes_sz (hr1.mono (hH47.le m3))), (by omega)⟩)
  exact ⟨rfl, trivial⟩
  refine W.alloc rfl rfl rfl rfl Try.zr28 rfl hH47 (fun b5 zb21 w23 hH60 hB21 => ?_)
  refine W.nil (EX.wa ⟨hH60.sub _ m3, trivial⟩ (WA.one (i := 23) #[true, true, true, true, true, true, true, true, true, true, true, true, true, true, true, true, true, true, true, true, true, true, true, true, true, false] rfl (by kernel_rfl) rfl (W.val rfl rfl rfl (R.buildS 12 rfl rfl Try.zr28 rfl rfl (by rw [Try.underlying28]; rfl) Try.plc28 rfl) (W.re (d := 47) (v := .agg ([_, _, _, _, _, _, _, _, _, _, _, _] : List Value).toArray) rfl rfl (W.nil (EX.wa ⟨hH60.sub _ m3, trivial⟩ (WA.one (i := 25) #[true, true, true, true, true, true, true, true, true, true, true, true, true, true, true, true, true, true, true, true, true, true, true, true, true, true] rfl (by kernel_rfl) rfl ?_)))))))
  refine W.sg0 rfl rfl rfl rfl rfl Try.sz28 rfl (by rfl) hH60 hB21 (fun zb22 w24 hH61 hB22 => ?_)
  refine W.nil (EX.wa ⟨hH61.sub _ m3, trivial⟩ (WA.done (by kernel_rfl) ?_))
  have hH62 := hH61.f6
  have hH63 := hH62.f6
  have hH64 := hH63.f6
  have hH65 := hH64.f6
  have hH66 := hH65.f4
  have hH67 := hH66.f6
  have hH68 := hH67.f6
  have hH69 := hH68.upto7
  refine EX.mid _ rfl ?_ (by rw [hI1]; exact ⟨((clampN f1.Num.toNat : Nat) : Int), ((clampN f2.Num.toNat : Nat) : Int), ((clampN f3.Num.toNat : Nat) : Int), ((clampN f4.Num.toNat : Nat) : Int), ((clampN f5.Num.toNat : Nat) : Int), ((clampN f6.Num.toNat : Nat) : Int), ((clampN f7.Num.toNat : Nat) : Int), ((clampN f8.Num.toNat : Nat) : Int), ((clampN f9.Num.toNat : Nat) : Int), ((clampN f10.Num.toNat : Nat) : Int), ⟨f11.Bytes.toArray⟩, bad11, fs11, b5, _, _, _, rfl, hH69, hR11, hB18, hM12, hB22, (bytes_sz (hr1.mono (hH47.le m3))), (by omega)⟩)
  exact ⟨rfl, trivial⟩
  refine W.alloc rfl rfl rfl rfl Try.zr28 rfl hH47 (fun b6 zb23 w25 hH70 hB23 => ?_)
  refine W.nil (EX.wa ⟨hH70.sub _ m3, trivial⟩ (WA.one (i := 22) #[true, true, true, true, true, true, true, true, true, true, true, true, true, true, true, true, true, true, true, true, true, true, true, false, true, false] rfl (by kernel_rfl) rfl (W.val rfl rfl rfl (R.bytesStr rfl rfl Try.underlying22 Try.underlying5 Try.underlying9 (hr1.mono (hH70.le m4))) (W.nil (EX.wa ⟨hH70.sub _ m3, trivial⟩ (WA.one (i := 23) #[true, true, true, true, true, true, true, true, true, true, true, true, true, true, true, true, true, true, true, true, true, true, true, true, true, false] rfl (by kernel_rfl) rfl (W.val rfl rfl rfl (R.buildS 12 rfl rfl Try.zr28 rfl rfl (by rw [Try.underlying28]; rfl) Try.plc28 rfl) ?_)))))))
  refine W.re (d := 47) (v := .agg ([_, _, _, _, _, _, _, _, _, _, _, _] : List Value).toArray) rfl rfl (W.nil (EX.wa ⟨hH70.sub _ m3, trivial⟩ (WA.one (i := 25) #[true, true, true, true, true, true, true, true, true, true, true, true, true, true, true, true, true, true, true, true, true, true, true, true, true, true] rfl (by kernel_rfl) rfl ?_)))
  refine W.sg0 rfl rfl rfl rfl rfl Try.sz28 rfl (by rfl) hH70 hB23 (fun zb24 w26 hH71 hB24 => ?_)
  refine W.nil (EX.wa ⟨hH71.sub _ m3, trivial⟩ (WA.done (by kernel_rfl) ?_))
  have hH72 := hH71.f6
  have hH73 := hH72.f6
  have hH74 := hH73.f6
  have hH75 := hH74.f6
  have hH76 := hH75.f4
  have hH77 := hH76.f6
  have hH78 := hH77.f6
  have hH79 := hH78.upto7
  refine EX.mid _ rfl ?_ (by rw [hI1]; exact ⟨((clampN f1.Num.toNat : Nat) : Int), ((clampN f2.Num.toNat : Nat) : Int), ((clampN f3.Num.toNat : Nat) : Int), ((clampN f4.Num.toNat : Nat) : Int), ((clampN f5.Num.toNat : Nat) : Int), ((clampN f6.Num.toNat : Nat) : Int), ((clampN f7.Num.toNat : Nat) : Int), ((clampN f8.Num.toNat : Nat) : Int), ((clampN f9.Num.toNat : Nat) : Int), ((clampN f10.Num.toNat : Nat) : Int), ⟨f11.Bytes.toArray⟩, bad11, fs11, b6, _, _, _, rfl, hH79, hR11, hB18, hM12, hB24, (bytes_sz (hr1.mono (hH70.le m4))), (by omega)⟩)
  exact ⟨rfl, trivial⟩
  refine W.alloc rfl rfl rfl rfl Try.zr28 rfl hH44 (fun b7 zb25 w27 hH80 hB25 => ?_)
  refine W.nil (EX.wa ⟨hH80.sub _ m3, trivial⟩ (WA.one (i := 21) #[true, true, true, true, true, true, true, true, true, true, true, true, true, true, true, true, true, true, true, true, true, true, false, false, true, false] rfl (by kernel_rfl) rfl ?_))
  have hH82 := hH80.f2
  have hH83 := hH82.f2
  refine W.call rfl rfl rfl rfl rfl Try.func36 Try.nm36 Try.bd36 (reader_Text _ _ _ _ hH83 hB17 hM11) ?_
  rintro _ w28 ⟨f12, m12, bad12, zb26, zm13, A2, c2, hT12, rfl, hl2, hr2, hH81, hB26, hM13⟩
  obtain ⟨fs12, hm12, hR12⟩ := RelC.who hR10 rfl hT12
  subst hm12
  replace hR12 : RelC (decFs b).1 12 fs12 ⟨[0, ((clampN f1.Num.toNat : Nat) : Int), ((clampN f2.Num.toNat : Nat) : Int), ((clampN f3.Num.toNat : Nat) : Int), ((clampN f4.Num.toNat : Nat) : Int), ((clampN f5.Num.toNat : Nat) : Int), ((clampN f6.Num.toNat : Nat) : Int), ((clampN f7.Num.toNat : Nat) : Int), ((clampN f8.Num.toNat : Nat) : Int), ((clampN f9.Num.toNat : Nat) : Int), ((clampN f10.Num.toNat : Nat) : Int)], ⟨f12.Bytes.toArray⟩, [], false, true⟩ bad12 := hR12
  refine W.nil (EX.wa ⟨hH81.sub _ m3, trivial⟩ (WA.one (i := 22) #[true, true, true, true, true, true, true, true, true, true, true, true, true, true, true, true, true, true, true, true, true, true, true, false, true, false] rfl (by kernel_rfl) rfl (W.val rfl rfl rfl (R.bytesStr rfl rfl Try.underlying22 Try.underlying5 Try.underlying9 (hr2.mono (hH81.le m4))) (W.nil (EX.wa ⟨hH81.sub _ m3, trivial⟩ (WA.one (i := 23) #[true, true, true, true, true, true, true, true, true, true, true, true, true, true, true, true, true, true, true, true, true, true, true, true, true, false] rfl (by kernel_rfl) rfl (W.val rfl rfl rfl (R.buildS 12 rfl rfl Try.zr28 rfl rfl (by rw [Try.underlying28]; rfl) Try.plc28 rfl) ?_)))))))
  refine W.re (d := 47) (v := .agg ([_, _, _, _, _, _, _, _, _, _, _, _] : List Value).toArray) rfl rfl (W.nil (EX.wa ⟨hH81.sub _ m3, trivial⟩ (WA.one (i := 25) #[true, true, true, true, true, true, true, true, true, true, true, true, true, true, true, true, true, true, true, true, true, true, true, true, true, true] rfl (by kernel_rfl) rfl ?_)))
  have hH84 := hH81.f2
  refine W.sg0 rfl rfl rfl rfl rfl Try.sz28 rfl (by rfl) hH84 hB25 (fun zb27 w29 hH85 hB27 => ?_)
  refine W.nil (EX.wa ⟨hH85.sub _ m3, trivial⟩ (WA.done (by kernel_rfl) ?_))
  have hH86 := hH85.f6
  have hH87 := hH86.f6
  have hH88 := hH87.f6
  have hH89 := hH88.f6
  have hH90 := hH89.f4
  have hH91 := hH90.f6
  have hH92 := hH91.f6
  have hH93 := hH92.upto7
  refine EX.mid _ rfl ?_ (by rw [hI1]; exact ⟨((clampN f1.Num.toNat : Nat) : Int), ((clampN f2.Num.toNat : Nat) : Int), ((clampN f3.Num.toNat : Nat) : Int), ((clampN f4.Num.toNat : Nat) : Int), ((clampN f5.Num.toNat : Nat) : Int), ((clampN f6.Num.toNat : Nat) : Int), ((clampN f7.Num.toNat : Nat) : Int), ((clampN f8.Num.toNat : Nat) : Int), ((clampN f9.Num.toNat : Nat) : Int), ((clampN f10.Num.toNat : Nat) : Int), ⟨f12.Bytes.toArray⟩, bad12, fs12, b7, _, _, _, rfl, hH93, hR12, hB26, hM13, hB27, (bytes_sz (hr2.mono (hH81.le m4))), (by omega)⟩)
  exact ⟨rfl, trivial⟩
  refine W.alloc rfl rfl rfl rfl Try.zr28 rfl hH41 (fun b8 zb28 w30 hH94 hB28 => ?_)
  refine W.nil (EX.wa ⟨hH94.sub _ m3, trivial⟩ (WA.one (i := 19) #[true, true, true, true, true, true, true, true, true, true, true, true, true, true, true, true, true, true, true, true, true, false, false, false, true, false] rfl (by kernel_rfl) rfl ?_))
  have hH96 := hH94.f2
  have hH97 := hH96.f2
  refine W.callV rfl rfl rfl rfl rfl rfl Try.func33 Try.nm33 Try.bd33 (canon_num _ _ _ _ hH97 hB16 hM10 m1 hB7) ?_
  rintro _ w31 ⟨f13, m13, bad13, zb29, zm14, hT13, rfl, hH95, hB29, hM14⟩
  obtain ⟨fs13, hm13, hR13⟩ := RelC.num (t := 10) hR9 (by omega) rfl hT13
  subst hm13
  replace hR13 : RelC (decFs b).1 11 fs13 ⟨[0, ((clampN f1.Num.toNat : Nat) : Int), ((clampN f2.Num.toNat : Nat) : Int), ((clampN f3.Num.toNat : Nat) : Int), ((clampN f4.Num.toNat : Nat) : Int), ((clampN f5.Num.toNat : Nat) : Int), ((clampN f6.Num.toNat : Nat) : Int), ((clampN f7.Num.toNat : Nat) : Int), ((clampN f8.Num.toNat : Nat) : Int), ((clampN f9.Num.toNat : Nat) : Int), ((clampN f13.Num.toNat : Nat) : Int)], ⟨#[]⟩, [], false, true⟩ bad13 := hR13
  have hcl11 : clampN f13.Num.toNat ≤ 4611686018427387904 := by unfold clampN; omega
  refine W.nil (EX.wa ⟨hH95.sub _ m3, trivial⟩ (WA.one (i := 21) #[true, true, true, true, true, true, true, true, true, true, true, true, true, true, true, true, true, true, true, true, true, true, false, false, true, false] rfl (by kernel_rfl) rfl ?_))
  have hH99 := hH95.f1
  have hH100 := hH99.f1
  refine W.call rfl rfl rfl rfl rfl Try.func36 Try.nm36 Try.bd36 (reader_Text _ _ _ _ hH100 hB29 hM14) ?_
  rintro _ w32 ⟨f14, m14, bad14, zb30, zm15, A3, c3, hT14, rfl, hl3, hr3, hH98, hB30, hM15⟩
  obtain ⟨fs14, hm14, hR14⟩ := RelC.who hR13 rfl hT14
  subst hm14
  replace hR14 : RelC (decFs b).1 12 fs14 ⟨[0, ((clampN f1.Num.toNat : Nat) : Int), ((clampN f2.Num.toNat : Nat) : Int), ((clampN f3.Num.toNat : Nat) : Int), ((clampN f4.Num.toNat : Nat) : Int), ((clampN f5.Num.toNat : Nat) : Int), ((clampN f6.Num.toNat : Nat) : Int), ((clampN f7.Num.toNat : Nat) : Int), ((clampN f8.Num.toNat : Nat) : Int), ((clampN f9.Num.toNat : Nat) : Int), ((clampN f13.Num.toNat : Nat) : Int)], ⟨f14.Bytes.toArray⟩, [], false, true⟩ bad14 := hR14
  refine W.nil (EX.wa ⟨hH98.sub _ m3, trivial⟩ (WA.one (i := 22) #[true, true, true, true, true, true, true, true, true, true, true, true, true, true, true, true, true, true, true, true, true, true, true, false, true, false] rfl (by kernel_rfl) rfl (W.val rfl rfl rfl (R.bytesStr rfl rfl Try.underlying22 Try.underlying5 Try.underlying9 (hr3.mono (hH98.le m4))) (W.nil (EX.wa ⟨hH98.sub _ m3, trivial⟩ (WA.one (i := 23) #[true, true, true, true, true, true, true, true, true, true, true, true, true, true, true, true, true, true, true, true, true, true, true, true, true, false] rfl (by kernel_rfl) rfl (W.val rfl rfl rfl (R.buildS 12 rfl rfl Try.zr28 rfl rfl (by rw [Try.underlying28]; rfl) Try.plc28 rfl) ?_)))))))
  refine W.re (d := 47) (v := .agg ([_, _, _, _, _, _, _, _, _, _, _, _] : List Value).toArray) rfl rfl (W.nil (EX.wa ⟨hH98.sub _ m3, trivial⟩ (WA.one (i := 25) #[true, true, true, true, true, true, true, true, true, true, true, true, true, true, true, true, true, true, true, true, true, true, true, true, true, true] rfl (by kernel_rfl) rfl ?_)))
  have hH101 := hH98.f2
  refine W.sg0 rfl rfl rfl rfl rfl Try.sz28 rfl (by rfl) hH101 hB28 (fun zb31 w33 hH102 hB31 => ?_)
  refine W.nil (EX.wa ⟨hH102.sub _ m3, trivial⟩ (WA.done (by kernel_rfl) ?_))
  have hH103 := hH102.f6
  have hH104 := hH103.f6
  have hH105 := hH104.f6
  have hH106 := hH105.f6
  have hH107 := hH106.f4
  have hH108 := hH107.f6
  have hH109 := hH108.f6
  have hH110 := hH109.upto7
  refine EX.mid _ rfl ?_ (by rw [hI1]; exact ⟨((clampN f1.Num.toNat : Nat) : Int), ((clampN f2.Num.toNat : Nat) : Int), ((clampN f3.Num.toNat : Nat) : Int), ((clampN f4.Num.toNat : Nat) : Int), ((clampN f5.Num.toNat : Nat) : Int), ((clampN f6.Num.toNat : Nat) : Int), ((clampN f7.Num.toNat : Nat) : Int), ((clampN f8.Num.toNat : Nat) : Int), ((clampN f9.Num.toNat : Nat) : Int), ((clampN f13.Num.toNat : Nat) : Int), ⟨f14.Bytes.toArray⟩, bad14, fs14, b8, _, _, _, rfl, hH110, hR14, hB30, hM15, hB31, (bytes_sz (hr3.mono (hH98.le m4))), (by omega)⟩)
  exact ⟨rfl, trivial⟩
  refine W.alloc rfl rfl rfl rfl Try.zr28 rfl hH38 (fun b9 zb32 w34 hH111 hB32 => ?_)
  refine W.nil (EX.wa ⟨hH111.sub _ m3, trivial⟩ (WA.one (i := 17) #[true, true, true, true, true, true, true, true, true, true, true, true, true, true, true, true, true, true, true, false, true, false, false, false, true, false] rfl (by kernel_rfl) rfl ?_))
  have hH113 := hH111.f2
  have hH114 := hH113.f2
  refine W.callV rfl rfl rfl rfl rfl rfl Try.func33 Try.nm33 Try.bd33 (canon_num _ _ _ _ hH114 hB15 hM9 m1 hB7) ?_
  rintro _ w35 ⟨f15, m15, bad15, zb33, zm16, hT15, rfl, hH112, hB33, hM16⟩
  obtain ⟨fs15, hm15, hR15⟩ := RelC.num (t := 9) hR8 (by omega) rfl hT15
  subst hm15
  replace hR15 : RelC (decFs b).1 10 fs15 ⟨[0, ((clampN f1.Num.toNat : Nat) : Int), ((clampN f2.Num.toNat : Nat) : Int), ((clampN f3.Num.toNat : Nat) : Int), ((clampN f4.Num.toNat : Nat) : Int), ((clampN f5.Num.toNat : Nat) : Int), ((clampN f6.Num.toNat : Nat) : Int), ((clampN f7.Num.toNat : Nat) : Int), ((clampN f8.Num.toNat : Nat) : Int), ((clampN f15.Num.toNat : Nat) : Int), 0], ⟨#[]⟩, [], false, true⟩ bad15 := hR15
  have hcl12 : clampN f15.Num.toNat ≤ 4611686018427387904 := by unfold clampN; omega
  refine W.nil (EX.wa ⟨hH112.sub _ m3, trivial⟩ (WA.one (i := 19) #[true, true, true, true, true, true, true, true, true, true, true, true, true, true, true, true, true, true, true, true, true, false, false, false, true, false] rfl (by kernel_rfl) rfl ?_))
  have hH116 := hH112.f1
  have hH117 := hH116.f1
  refine W.callV rfl rfl rfl rfl rfl rfl Try.func33 Try.nm33 Try.bd33 (canon_num _ _ _ _ hH117 hB33 hM16 m1 hB7) ?_
  rintro _ w36 ⟨f16, m16, bad16, zb34, zm17, hT16, rfl, hH115, hB34, hM17⟩
  obtain ⟨fs16, hm16, hR16⟩ := RelC.num (t := 10) hR15 (by omega) rfl hT16
  subst hm16
  replace hR16 : RelC (decFs b).1 11 fs16 ⟨[0, ((clampN f1.Num.toNat : Nat) : Int), ((clampN f2.Num.toNat : Nat) : Int), ((clampN f3.Num.toNat : Nat) : Int), ((clampN f4.Num.toNat : Nat) : Int), ((clampN f5.Num.toNat : Nat) : Int), ((clampN f6.Num.toNat : Nat) : Int), ((clampN f7.Num.toNat : Nat) : Int), ((clampN f8.Num.toNat : Nat) : Int), ((clampN f15.Num.toNat : Nat) : Int), ((clampN f16.Num.toNat : Nat) : Int)], ⟨#[]⟩, [], false, true⟩ bad16 := hR16
  have hcl13 : clampN f16.Num.toNat ≤ 4611686018427387904 := by unfold clampN; omega
  refine W.nil (EX.wa ⟨hH115.sub _ m3, trivial⟩ (WA.one (i := 21) #[true, true, true, true, true, true, true, true, true, true, true, true, true, true, true, true, true, true, true, true, true, true, false, false, true, false] rfl (by kernel_rfl) rfl ?_))
  have hH119 := hH115.f1
  have hH120 := hH119.f1
  refine W.call rfl rfl rfl rfl rfl Try.func36 Try.nm36 Try.bd36 (reader_Text _ _ _ _ hH120 hB34 hM17) ?_
  rintro _ w37 ⟨f17, m17, bad17, zb35, zm18, A4, c4, hT17, rfl, hl4, hr4, hH118, hB35, hM18⟩
  obtain ⟨fs17, hm17, hR17⟩ := RelC.who hR16 rfl hT17
  subst hm17
  replace hR17 : RelC (decFs b).1 12 fs17 ⟨[0, ((clampN f1.Num.toNat : Nat) : Int), ((clampN f2.Num.toNat : Nat) : Int), ((clampN f3.Num.toNat : Nat) : Int), ((clampN f4.Num.toNat : Nat) : Int), ((clampN f5.Num.toNat : Nat) : Int), ((clampN f6.Num.toNat : Nat) : Int), ((clampN f7.Num.toNat : Nat) : Int), ((clampN f8.Num.toNat : Nat) : Int), ((clampN f15.Num.toNat : Nat) : Int), ((clampN f16.Num.toNat : Nat) : Int)], ⟨f17.Bytes.toArray⟩, [], false, true⟩ bad17 := hR17
  refine W.nil (EX.wa ⟨hH118.sub _ m3, trivial⟩ (WA.one (i := 22) #[true, true, true, true, true, true, true, true, true, true, true, true, true, true, true, true, true, true, true, true, true, true, true, false, true, false] rfl (by kernel_rfl) rfl (W.val rfl rfl rfl (R.bytesStr rfl rfl Try.underlying22 Try.underlying5 Try.underlying9 (hr4.mono (hH118.le m4))) (W.nil (EX.wa ⟨hH118.sub _ m3, trivial⟩ (WA.one (i := 23) #[true, true, true, true, true, true, true, true, true, true, true, true, true, true, true, true, true, true, true, true, true, true, true, true, true, false] rfl (by kernel_rfl) rfl (W.val rfl rfl rfl (R.buildS 12 rfl rfl Try.zr28 rfl rfl (by rw [Try.underlying28]; rfl) Try.plc28 rfl) ?_)))))))
  refine W.re (d := 47) (v := .agg ([_, _, _, _, _, _, _, _, _, _, _, _] : List Value).toArray) rfl rfl (W.nil (EX.wa ⟨hH118.sub _ m3, trivial⟩ (WA.one (i := 25) #[true, true, true, true, true, true, true, true, true, true, true, true, true, true, true, true, true, true, true, true, true, true, true, true, true, true] rfl (by kernel_rfl) rfl ?_)))
  have hH121 := hH118.f2
  refine W.sg0 rfl rfl rfl rfl rfl Try.sz28 rfl (by rfl) hH121 hB32 (fun zb36 w38 hH122 hB36 => ?_)
  refine W.nil (EX.wa ⟨hH122.sub _ m3, trivial⟩ (WA.done (by kernel_rfl) ?_))
  have hH123 := hH122.f6
  have hH124 := hH123.f6
  have hH125 := hH124.f6
  have hH126 := hH125.f6
  have hH127 := hH126.f4
  have hH128 := hH127.f6
  have hH129 := hH128.f6
  have hH130 := hH129.upto7
  refine EX.mid _ rfl ?_ (by rw [hI1]; exact ⟨((clampN f1.Num.toNat : Nat) : Int), ((clampN f2.Num.toNat : Nat) : Int), ((clampN f3.Num.toNat : Nat) : Int), ((clampN f4.Num.toNat : Nat) : Int), ((clampN f5.Num.toNat : Nat) : Int), ((clampN f6.Num.toNat : Nat) : Int), ((clampN f7.Num.toNat : Nat) : Int), ((clampN f8.Num.toNat : Nat) : Int), ((clampN f15.Num.toNat : Nat) : Int), ((clampN f16.Num.toNat : Nat) : Int), ⟨f17.Bytes.toArray⟩, bad17, fs17, b9, _, _, _, rfl, hH130, hR17, hB35, hM18, hB36, (bytes_sz (hr4.mono (hH118.le m4))), (by omega)⟩)
  exact ⟨rfl, trivial⟩
  refine W.alloc rfl rfl rfl rfl Try.zr28 rfl hH35 (fun b10 zb37 w39 hH131 hB37 => ?_)
  refine W.nil (EX.wa ⟨hH131.sub _ m3, trivial⟩ (WA.one (i := 15) #[true, true, true, true, true, true, true, true, true, true, true, true, true, true, true, true, true, false, true, false, true, false, false, false, true, false] rfl (by kernel_rfl) rfl ?_))
  have hH133 := hH131.f2
  have hH134 := hH133.f2
  refine W.callV rfl rfl rfl rfl rfl rfl Try.func33 Try.nm33 Try.bd33 (canon_num _ _ _ _ hH134 hB14 hM8 m1 hB7) ?_
  rintro _ w40 ⟨f18, m18, bad18, zb38, zm19, hT18, rfl, hH132, hB38, hM19⟩
  obtain ⟨fs18, hm18, hR18⟩ := RelC.num (t := 8) hR7 (by omega) rfl hT18
  subst hm18
  replace hR18 : RelC (decFs b).1 9 fs18 ⟨[0, ((clampN f1.Num.toNat : Nat) : Int), ((clampN f2.Num.toNat : Nat) : Int), ((clampN f3.Num.toNat : Nat) : Int), ((clampN f4.Num.toNat : Nat) : Int), ((clampN f5.Num.toNat : Nat) : Int), ((clampN f6.Num.toNat : Nat) : Int), ((clampN f7.Num.toNat : Nat) : Int), ((clampN f18.Num.toNat : Nat) : Int), 0, 0], ⟨#[]⟩, [], false, true⟩ bad18 := hR18
  have hcl14 : clampN f18.Num.toNat ≤ 4611686018427387904 := by unfold clampN; omega
  refine W.nil (EX.wa ⟨hH132.sub _ m3, trivial⟩ (WA.one (i := 17) #[true, true, true, true, true, true, true, true, true, true, true, true, true, true, true, true, true, true, true, false, true, false, false, false, true, false] rfl (by kernel_rfl) rfl ?_))
  have hH136 := hH132.f1
  have hH137 := hH136.f1
  refine W.callV rfl rfl rfl rfl rfl rfl Try.func33 Try.nm33 Try.bd33 (canon_num _ _ _ _ hH137 hB38 hM19 m1 hB7) ?_
  rintro _ w41 ⟨f19, m19, bad19, zb39, zm20, hT19, rfl, hH135, hB39, hM20⟩
  obtain ⟨fs19, hm19, hR19⟩ := RelC.num (t := 9) hR18 (by omega) rfl hT19
  subst hm19
  replace hR19 : RelC (decFs b).1 10 fs19 ⟨[0, ((clampN f1.Num.toNat : Nat) : Int), ((clampN f2.Num.toNat : Nat) : Int), ((clampN f3.Num.toNat : Nat) : Int), ((clampN f4.Num.toNat : Nat) : Int), ((clampN f5.Num.toNat : Nat) : Int), ((clampN f6.Num.toNat : Nat) : Int), ((clampN f7.Num.toNat : Nat) : Int), ((clampN f18.Num.toNat : Nat) : Int), ((clampN f19.Num.toNat : Nat) : Int), 0], ⟨#[]⟩, [], false, true⟩ bad19 := hR19
  have hcl15 : clampN f19.Num.toNat ≤ 4611686018427387904 := by unfold clampN; omega
  refine W.nil (EX.wa ⟨hH135.sub _ m3, trivial⟩ (WA.one (i := 19) #[true, true, true, true, true, true, true, true, true, true, true, true, true, true, true, true, true, true, true, true, true, false, false, false, true, false] rfl (by kernel_rfl) rfl ?_))
  have hH139 := hH135.f1
  have hH140 := hH139.f1
  refine W.callV rfl rfl rfl rfl rfl rfl Try.func33 Try.nm33 Try.bd33 (canon_num _ _ _ _ hH140 hB39 hM20 m1 hB7) ?_
  rintro _ w42 ⟨f20, m20, bad20, zb40, zm21, hT20, rfl, hH138, hB40, hM21⟩
  obtain ⟨fs20, hm20, hR20⟩ := RelC.num (t := 10) hR19 (by omega) rfl hT20
  subst hm20
  replace hR20 : RelC (decFs b).1 11 fs20 ⟨[0, ((clampN f1.Num.toNat : Nat) : Int), ((clampN f2.Num.toNat : Nat) : Int), ((clampN f3.Num.toNat : Nat) : Int), ((clampN f4.Num.toNat : Nat) : Int), ((clampN f5.Num.toNat : Nat) : Int), ((clampN f6.Num.toNat : Nat) : Int), ((clampN f7.Num.toNat : Nat) : Int), ((clampN f18.Num.toNat : Nat) : Int), ((clampN f19.Num.toNat : Nat) : Int), ((clampN f20.Num.toNat : Nat) : Int)], ⟨#[]⟩, [], false, true⟩ bad20 := hR20
  have hcl16 : clampN f20.Num.toNat ≤ 4611686018427387904 := by unfold clampN; omega
  refine W.nil (EX.wa ⟨hH138.sub _ m3, trivial⟩ (WA.one (i := 21) #[true, true, true, true, true, true, true, true, true, true, true, true, true, true, true, true, true, true, true, true, true, true, false, false, true, false] rfl (by kernel_rfl) rfl ?_))
  have hH142 := hH138.f1
  have hH143 := hH142.f1
  refine W.call rfl rfl rfl rfl rfl Try.func36 Try.nm36 Try.bd36 (reader_Text _ _ _ _ hH143 hB40 hM21) ?_
  rintro _ w43 ⟨f21, m21, bad21, zb41, zm22, A5, c5, hT21, rfl, hl5, hr5, hH141, hB41, hM22⟩
  obtain ⟨fs21, hm21, hR21⟩ := RelC.who hR20 rfl hT21
  subst hm21
  replace hR21 : RelC (decFs b).1 12 fs21 ⟨[0, ((clampN f1.Num.toNat : Nat) : Int), ((clampN f2.Num.toNat : Nat) : Int), ((clampN f3.Num.toNat : Nat) : Int), ((clampN f4.Num.toNat : Nat) : Int), ((clampN f5.Num.toNat : Nat) : Int), ((clampN f6.Num.toNat : Nat) : Int), ((clampN f7.Num.toNat : Nat) : Int), ((clampN f18.Num.toNat : Nat) : Int), ((clampN f19.Num.toNat : Nat) : Int), ((clampN f20.Num.toNat : Nat) : Int)], ⟨f21.Bytes.toArray⟩, [], false, true⟩ bad21 := hR21
  refine W.nil (EX.wa ⟨hH141.sub _ m3, trivial⟩ (WA.one (i := 22) #[true, true, true, true, true, true, true, true, true, true, true, true, true, true, true, true, true, true, true, true, true, true, true, false, true, false] rfl (by kernel_rfl) rfl (W.val rfl rfl rfl (R.bytesStr rfl rfl Try.underlying22 Try.underlying5 Try.underlying9 (hr5.mono (hH141.le m4))) (W.nil (EX.wa ⟨hH141.sub _ m3, trivial⟩ (WA.one (i := 23) #[true, true, true, true, true, true, true, true, true, true, true, true, true, true, true, true, true, true, true, true, true, true, true, true, true, false] rfl (by kernel_rfl) rfl (W.val rfl rfl rfl (R.buildS 12 rfl rfl Try.zr28 rfl rfl (by rw [Try.underlying28]; rfl) Try.plc28 rfl) ?_)))))))
  refine W.re (d := 47) (v := .agg ([_, _, _, _, _, _, _, _, _, _, _, _] : List Value).toArray) rfl rfl (W.nil (EX.wa ⟨hH141.sub _ m3, trivial⟩ (WA.one (i := 25) #[true, true, true, true, true, true, true, true, true, true, true, true, true, true, true, true, true, true, true, true, true, true, true, true, true, true] rfl (by kernel_rfl) rfl ?_)))
  have hH144 := hH141.f2
  refine W.sg0 rfl rfl rfl rfl rfl Try.sz28 rfl (by rfl) hH144 hB37 (fun zb42 w44 hH145 hB42 => ?_)
  refine W.nil (EX.wa ⟨hH145.sub _ m3, trivial⟩ (WA.done (by kernel_rfl) ?_))
  have hH146 := hH145.f6
  have hH147 := hH146.f6
  have hH148 := hH147.f6
  have hH149 := hH148.f6
  have hH150 := hH149.f4
  have hH151 := hH150.f6
  have hH152 := hH151.f6
  have hH153 := hH152.upto7
  refine EX.mid _ rfl ?_ (by rw [hI1]; exact ⟨((clampN f1.Num.toNat : Nat) : Int), ((clampN f2.Num.toNat : Nat) : Int), ((clampN f3.Num.toNat : Nat) : Int), ((clampN f4.Num.toNat : Nat) : Int), ((clampN f5.Num.toNat : Nat) : Int), ((clampN f6.Num.toNat : Nat) : Int), ((clampN f7.Num.toNat : Nat) : Int), ((clampN f18.Num.toNat : Nat) : Int), ((clampN f19.Num.toNat : Nat) : Int), ((clampN f20.Num.toNat : Nat) : Int), ⟨f21.Bytes.toArray⟩, bad21, fs21, b10, _, _, _, rfl, hH153, hR21, hB41, hM22, hB42, (bytes_sz (hr5.mono (hH141.le m4))), (by omega)⟩)
  exact ⟨rfl, trivial⟩
  refine W.alloc rfl rfl rfl rfl Try.zr28 rfl hH32 (fun b11 zb43 w45 hH154 hB43 => ?_)
  refine W.nil (EX.wa ⟨hH154.sub _ m3, trivial⟩ (WA.one (i := 13) #[true, true, true, true, true, true, true, true, true, true, true, true, true, true, true, false, true, false, true, false, true, false, false, false, true, false] rfl (by kernel_rfl) rfl ?_))
  have hH156 := hH154.f2
  have hH157 := hH156.f2
  refine W.callV rfl rfl rfl rfl rfl rfl Try.func33 Try.nm33 Try.bd33 (canon_num _ _ _ _ hH157 hB13 hM7 m1 hB7) ?_
  rintro _ w46 ⟨f22, m22, bad22, zb44, zm23, hT22, rfl, hH155, hB44, hM23⟩
  obtain ⟨fs22, hm22, hR22⟩ := RelC.num (t := 7) hR6 (by omega) rfl hT22
  subst hm22
  replace hR22 : RelC (decFs b).1 8 fs22 ⟨[0, ((clampN f1.Num.toNat : Nat) : Int), ((clampN f2.Num.toNat : Nat) : Int), ((clampN f3.Num.toNat : Nat) : Int), ((clampN f4.Num.toNat : Nat) : Int), ((clampN f5.Num.toNat : Nat) : Int), ((clampN f6.Num.toNat : Nat) : Int), ((clampN f22.Num.toNat : Nat) : Int), 0, 0, 0], ⟨#[]⟩, [], false, true⟩ bad22 := hR22
  have hcl17 : clampN f22.Num.toNat ≤ 4611686018427387904 := by unfold clampN; omega
  refine W.nil (EX.wa ⟨hH155.sub _ m3, trivial⟩ (WA.one (i := 15) #[true, true, true, true, true, true, true, true, true, true, true, true, true, true, true, true, true, false, true, false, true, false, false, false, true, false] rfl (by kernel_rfl) rfl ?_))
  have hH159 := hH155.f1
  have hH160 := hH159.f1
  refine W.callV rfl rfl rfl rfl rfl rfl Try.func33 Try.nm33 Try.bd33 (canon_num _ _ _ _ hH160 hB44 hM23 m1 hB7) ?_
  rintro _ w47 ⟨f23, m23, bad23, zb45, zm24, hT23, rfl, hH158, hB45, hM24⟩
  obtain ⟨fs23, hm23, hR23⟩ := RelC.num (t := 8) hR22 (by omega) rfl hT23
  subst hm23
  replace hR23 : RelC (decFs b).1 9 fs23 ⟨[0, ((clampN f1.Num.toNat : Nat) : Int), ((clampN f2.Num.toNat : Nat) : Int), ((clampN f3.Num.toNat : Nat) : Int), ((clampN f4.Num.toNat : Nat) : Int), ((clampN f5.Num.toNat : Nat) : Int), ((clampN f6.Num.toNat : Nat) : Int), ((clampN f22.Num.toNat : Nat) : Int), ((clampN f23.Num.toNat : Nat) : Int), 0, 0], ⟨#[]⟩, [], false, true⟩ bad23 := hR23
  have hcl18 : clampN f23.Num.toNat ≤ 4611686018427387904 := by unfold clampN; omega
  refine W.nil (EX.wa ⟨hH158.sub _ m3, trivial⟩ (WA.one (i := 17) #[true, true, true, true, true, true, true, true, true, true, true, true, true, true, true, true, true, true, true, false, true, false, false, false, true, false] rfl (by kernel_rfl) rfl ?_))
  have hH162 := hH158.f1
  have hH163 := hH162.f1
  refine W.callV rfl rfl rfl rfl rfl rfl Try.func33 Try.nm33 Try.bd33 (canon_num _ _ _ _ hH163 hB45 hM24 m1 hB7) ?_
  rintro _ w48 ⟨f24, m24, bad24, zb46, zm25, hT24, rfl, hH161, hB46, hM25⟩
  obtain ⟨fs24, hm24, hR24⟩ := RelC.num (t := 9) hR23 (by omega) rfl hT24
  subst hm24
  replace hR24 : RelC (decFs b).1 10 fs24 ⟨[0, ((clampN f1.Num.toNat : Nat) : Int), ((clampN f2.Num.toNat : Nat) : Int), ((clampN f3.Num.toNat : Nat) : Int), ((clampN f4.Num.toNat : Nat) : Int), ((clampN f5.Num.toNat : Nat) : Int), ((clampN f6.Num.toNat : Nat) : Int), ((clampN f22.Num.toNat : Nat) : Int), ((clampN f23.Num.toNat : Nat) : Int), ((clampN f24.Num.toNat : Nat) : Int), 0], ⟨#[]⟩, [], false, true⟩ bad24 := hR24
  have hcl19 : clampN f24.Num.toNat ≤ 4611686018427387904 := by unfold clampN; omega
  refine W.nil (EX.wa ⟨hH161.sub _ m3, trivial⟩ (WA.one (i := 19) #[true, true, true, true, true, true, true, true, true, true, true, true, true, true, true, true, true, true, true, true, true, false, false, false, true, false] rfl (by kernel_rfl) rfl ?_))
  have hH165 := hH161.f1
  have hH166 := hH165.f1
  refine W.callV rfl rfl rfl rfl rfl rfl Try.func33 Try.nm33 Try.bd33 (canon_num _ _ _ _ hH166 hB46 hM25 m1 hB7) ?_
  rintro _ w49 ⟨f25, m25, bad25, zb47, zm26, hT25, rfl, hH164, hB47, hM26⟩
  obtain ⟨fs25, hm25, hR25⟩ := RelC.num (t := 10) hR24 (by omega) rfl hT25
  subst hm25
  replace hR25 : RelC (decFs b).1 11 fs25 ⟨[0, ((clampN f1.Num.toNat : Nat) : Int), ((clampN f2.Num.toNat : Nat) : Int), ((clampN f3.Num.toNat : Nat) : Int), ((clampN f4.Num.toNat : Nat) : Int), ((clampN f5.Num.toNat : Nat) : Int), ((clampN f6.Num.toNat : Nat) : Int), ((clampN f22.Num.toNat : Nat) : Int), ((clampN f23.Num.toNat : Nat) : Int), ((clampN f24.Num.toNat : Nat) : Int), ((clampN f25.Num.toNat : Nat) : Int)], ⟨#[]⟩, [], false, true⟩ bad25 := hR25
  have hcl20 : clampN f25.Num.toNat ≤ 4611686018427387904 := by unfold clampN; omega
  refine W.nil (EX.wa ⟨hH164.sub _ m3, trivial⟩ (WA.one (i := 21) #[true, true, true, true, true, true, true, true, true, true, true, true, true, true, true, true, true, true, true, true, true, true, false, false, true, false] rfl (by kernel_rfl) rfl ?_))
  have hH168 := hH164.f1
  have hH169 := hH168.f1
  refine W.call rfl rfl rfl rfl rfl Try.func36 Try.nm36 Try.bd36 (reader_Text _ _ _ _ hH169 hB47 hM26) ?_
  rintro _ w50 ⟨f26, m26, bad26, zb48, zm27, A6, c6, hT26, rfl, hl6, hr6, hH167, hB48, hM27⟩
  obtain ⟨fs26, hm26, hR26⟩ := RelC.who hR25 rfl hT26
  subst hm26
  replace hR26 : RelC (decFs b).1 12 fs26 ⟨[0, ((clampN f1.Num.toNat : Nat) : Int), ((clampN f2.Num.toNat : Nat) : Int), ((clampN f3.Num.toNat : Nat) : Int), ((clampN f4.Num.toNat : Nat) : Int), ((clampN f5.Num.toNat : Nat) : Int), ((clampN f6.Num.toNat : Nat) : Int), ((clampN f22.Num.toNat : Nat) : Int), ((clampN f23.Num.toNat : Nat) : Int), ((clampN f24.Num.toNat : Nat) : Int), ((clampN f25.Num.toNat : Nat) : Int)], ⟨f26.Bytes.toArray⟩, [], false, true⟩ bad26 := hR26
  refine W.nil (EX.wa ⟨hH167.sub _ m3, trivial⟩ (WA.one (i := 22) #[true, true, true, true, true, true, true, true, true, true, true, true, true, true, true, true, true, true, true, true, true, true, true, false, true, false] rfl (by kernel_rfl) rfl (W.val rfl rfl rfl (R.bytesStr rfl rfl Try.underlying22 Try.underlying5 Try.underlying9 (hr6.mono (hH167.le m4))) (W.nil (EX.wa ⟨hH167.sub _ m3, trivial⟩ (WA.one (i := 23) #[true, true, true, true, true, true, true, true, true, true, true, true, true, true, true, true, true, true, true, true, true, true, true, true, true, false] rfl (by kernel_rfl) rfl (W.val rfl rfl rfl (R.buildS 12 rfl rfl Try.zr28 rfl rfl (by rw [Try.underlying28]; rfl) Try.plc28 rfl) ?_)))))))
  refine W.re (d := 47) (v := .agg ([_, _, _, _, _, _, _, _, _, _, _, _] : List Value).toArray) rfl rfl (W.nil (EX.wa ⟨hH167.sub _ m3, trivial⟩ (WA.one (i := 25) #[true, true, true, true, true, true, true, true, true, true, true, true, true, true, true, true, true, true, true, true, true, true, true, true, true, true] rfl (by kernel_rfl) rfl ?_)))
  have hH170 := hH167.f2
  refine W.sg0 rfl rfl rfl rfl rfl Try.sz28 rfl (by rfl) hH170 hB43 (fun zb49 w51 hH171 hB49 => ?_)
  refine W.nil (EX.wa ⟨hH171.sub _ m3, trivial⟩ (WA.done (by kernel_rfl) ?_))
  have hH172 := hH171.f6
  have hH173 := hH172.f6
  have hH174 := hH173.f6
  have hH175 := hH174.f6
  have hH176 := hH175.f4
  have hH177 := hH176.f6
  have hH178 := hH177.f6
  have hH179 := hH178.upto7
  refine EX.mid _ rfl ?_ (by rw [hI1]; exact ⟨((clampN f1.Num.toNat : Nat) : Int), ((clampN f2.Num.toNat : Nat) : Int), ((clampN f3.Num.toNat : Nat) : Int), ((clampN f4.Num.toNat : Nat) : Int), ((clampN f5.Num.toNat : Nat) : Int), ((clampN f6.Num.toNat : Nat) : Int), ((clampN f22.Num.toNat : Nat) : Int), ((clampN f23.Num.toNat : Nat) : Int), ((clampN f24.Num.toNat : Nat) : Int), ((clampN f25.Num.toNat : Nat) : Int), ⟨f26.Bytes.toArray⟩, bad26, fs26, b11, _, _, _, rfl, hH179, hR26, hB48, hM27, hB49, (bytes_sz (hr6.mono (hH167.le m4))), (by omega)⟩)
  exact ⟨rfl, trivial⟩
  refine W.alloc rfl rfl rfl rfl Try.zr28 rfl hH29 (fun b12 zb50 w52 hH180 hB50 => ?_)
  refine W.nil (EX.wa ⟨hH180.sub _ m3, trivial⟩ (WA.one (i := 11) #[true, true, true, true, true, true, true, true, true, true, true, true, true, false, true, false, true, false, true, false, true, false, false, false, true, false] rfl (by kernel_rfl) rfl ?_))
  have hH182 := hH180.f2
  have hH183 := hH182.f2
  refine W.callV rfl rfl rfl rfl rfl rfl Try.func33 Try.nm33 Try.bd33 (canon_num _ _ _ _ hH183 hB12 hM6 m1 hB7) ?_
  rintro _ w53 ⟨f27, m27, bad27, zb51, zm28, hT27, rfl, hH181, hB51, hM28⟩
  obtain ⟨fs27, hm27, hR27⟩ := RelC.num (t := 6) hR5 (by omega) rfl hT27
  subst hm27
  replace hR27 : RelC (decFs b).1 7 fs27 ⟨[0, ((clampN f1.Num.toNat : Nat) : Int), ((clampN f2.Num.toNat : Nat) : Int), ((clampN f3.Num.toNat : Nat) : Int), ((clampN f4.Num.toNat : Nat) : Int), ((clampN f5.Num.toNat : Nat) : Int), ((clampN f27.Num.toNat : Nat) : Int), 0, 0, 0, 0], ⟨#[]⟩, [], false, true⟩ bad27 := hR27
  have hcl21 : clampN f27.Num.toNat ≤ 4611686018427387904 := by unfold clampN; omega
  refine W.nil (EX.wa ⟨hH181.sub _ m3, trivial⟩ (WA.one (i := 13) #[true, true, true, true, true, true, true, true, true, true, true, true, true, true, true, false, true, false, true, false, true, false, false, false, true, false] rfl (by kernel_rfl) rfl ?_))
  have hH185 := hH181.f1
  have hH186 := hH185.f1
  refine W.callV rfl rfl rfl rfl rfl rfl Try.func33 Try.nm33 Try.bd33 (canon_num _ _ _ _ hH186 hB51 hM28 m1 hB7) ?_
  rintro _ w54 ⟨f28, m28, bad28, zb52, zm29, hT28, rfl, hH184, hB52, hM29⟩
  obtain ⟨fs28, hm28, hR28⟩ := RelC.num (t := 7) hR27 (by omega) rfl hT28
  subst hm28
  replace hR28 : RelC (decFs b).1 8 fs28 ⟨[0, ((clampN f1.Num.toNat : Nat) : Int), ((clampN f2.Num.toNat : Nat) : Int), ((clampN f3.Num.toNat : Nat) : Int), ((clampN f4.Num.toNat : Nat) : Int), ((clampN f5.Num.toNat : Nat) : Int), ((clampN f27.Num.toNat : Nat) : Int), ((clampN f28.Num.toNat : Nat) : Int), 0, 0, 0], ⟨#[]⟩, [], false, true⟩ bad28 := hR28
  have hcl22 : clampN f28.Num.toNat ≤ 4611686018427387904 := by unfold clampN; omega
  refine W.nil (EX.wa ⟨hH184.sub _ m3, trivial⟩ (WA.one (i := 15) #[true, true, true, true, true, true, true, true, true, true, true, true, true, true, true, true, true, false, true, false, true, false, false, false, true, false] rfl (by kernel_rfl) rfl ?_))
  have hH188 := hH184.f1
  have hH189 := hH188.f1
  refine W.callV rfl rfl rfl rfl rfl rfl Try.func33 Try.nm33 Try.bd33 (canon_num _ _ _ _ hH189 hB52 hM29 m1 hB7) ?_
  rintro _ w55 ⟨f29, m29, bad29, zb53, zm30, hT29, rfl, hH187, hB53, hM30⟩
  obtain ⟨fs29, hm29, hR29⟩ := RelC.num (t := 8) hR28 (by omega) rfl hT29
  subst hm29
  replace hR29 : RelC (decFs b).1 9 fs29 ⟨[0, ((clampN f1.Num.toNat : Nat) : Int), ((clampN f2.Num.toNat : Nat) : Int), ((clampN f3.Num.toNat : Nat) : Int), ((clampN f4.Num.toNat : Nat) : Int), ((clampN f5.Num.toNat : Nat) : Int), ((clampN f27.Num.toNat : Nat) : Int), ((clampN f28.Num.toNat : Nat) : Int), ((clampN f29.Num.toNat : Nat) : Int), 0, 0], ⟨#[]⟩, [], false, true⟩ bad29 := hR29
  have hcl23 : clampN f29.Num.toNat ≤ 4611686018427387904 := by unfold clampN; omega
  refine W.nil (EX.wa ⟨hH187.sub _ m3, trivial⟩ (WA.one (i := 17) #[true, true, true, true, true, true, true, true, true, true, true, true, true, true, true, true, true, true, true, false, true, false, false, false, true, false] rfl (by kernel_rfl) rfl ?_))
  have hH191 := hH187.f1
  have hH192 := hH191.f1
  refine W.callV rfl rfl rfl rfl rfl rfl Try.func33 Try.nm33 Try.bd33 (canon_num _ _ _ _ hH192 hB53 hM30 m1 hB7) ?_
  rintro _ w56 ⟨f30, m30, bad30, zb54, zm31, hT30, rfl, hH190, hB54, hM31⟩
  obtain ⟨fs30, hm30, hR30⟩ := RelC.num (t := 9) hR29 (by omega) rfl hT30
  subst hm30
  replace hR30 : RelC (decFs b).1 10 fs30 ⟨[0, ((clampN f1.Num.toNat : Nat) : Int), ((clampN f2.Num.toNat : Nat) : Int), ((clampN f3.Num.toNat : Nat) : Int), ((clampN f4.Num.toNat : Nat) : Int), ((clampN f5.Num.toNat : Nat) : Int), ((clampN f27.Num.toNat : Nat) : Int), ((clampN f28.Num.toNat : Nat) : Int), ((clampN f29.Num.toNat : Nat) : Int), ((clampN f30.Num.toNat : Nat) : Int), 0], ⟨#[]⟩, [], false, true⟩ bad30 := hR30
  have hcl24 : clampN f30.Num.toNat ≤ 4611686018427387904 := by unfold clampN; omega
  refine W.nil (EX.wa ⟨hH190.sub _ m3, trivial⟩ (WA.one (i := 19) #[true, true, true, true, true, true, true, true, true, true, true, true, true, true, true, true, true, true, true, true, true, false, false, false, true, false] rfl (by kernel_rfl) rfl ?_))
  have hH194 := hH190.f1
  have hH195 := hH194.f1
  refine W.callV rfl rfl rfl rfl rfl rfl Try.func33 Try.nm33 Try.bd33 (canon_num _ _ _ _ hH195 hB54 hM31 m1 hB7) ?_
  rintro _ w57 ⟨f31, m31, bad31, zb55, zm32, hT31, rfl, hH193, hB55, hM32⟩
  obtain ⟨fs31, hm31, hR31⟩ := RelC.num (t := 10) hR30 (by omega) rfl hT31
  subst hm31
  replace hR31 : RelC (decFs b).1 11 fs31 ⟨[0, ((clampN f1.Num.toNat : Nat) : Int), ((clampN f2.Num.toNat : Nat) : Int), ((clampN f3.Num.toNat : Nat) : Int), ((clampN f4.Num.toNat : Nat) : Int), ((clampN f5.Num.toNat : Nat) : Int), ((clampN f27.Num.toNat : Nat) : Int), ((clampN f28.Num.toNat : Nat) : Int), ((clampN f29.Num.toNat : Nat) : Int), ((clampN f30.Num.toNat : Nat) : Int), ((clampN f31.Num.toNat : Nat) : Int)], ⟨#[]⟩, [], false, true⟩ bad31 := hR31
  have hcl25 : clampN f31.Num.toNat ≤ 4611686018427387904 := by unfold clampN; omega
  refine W.nil (EX.wa ⟨hH193.sub _ m3, trivial⟩ (WA.one (i := 21) #[true, true, true, true, true, true, true, true, true, true, true, true, true, true, true, true, true, true, true, true, true, true, false, false, true, false] rfl (by kernel_rfl) rfl ?_))
  have hH197 := hH193.f1
  have hH198 := hH197.f1
  refine W.call rfl rfl rfl rfl rfl Try.func36 Try.nm36 Try.bd36 (reader_Text _ _ _ _ hH198 hB55 hM32) ?_
  rintro _ w58 ⟨f32, m32, bad32, zb56, zm33, A7, c7, hT32, rfl, hl7, hr7, hH196, hB56, hM33⟩
  obtain ⟨fs32, hm32, hR32⟩ := RelC.who hR31 rfl hT32
  subst hm32
  replace hR32 : RelC (decFs b).1 12 fs32 ⟨[0, ((clampN f1.Num.toNat : Nat) : Int), ((clampN f2.Num.toNat : Nat) : Int), ((clampN f3.Num.toNat : Nat) : Int), ((clampN f4.Num.toNat : Nat) : Int), ((clampN f5.Num.toNat : Nat) : Int), ((clampN f27.Num.toNat : Nat) : Int), ((clampN f28.Num.toNat : Nat) : Int), ((clampN f29.Num.toNat : Nat) : Int), ((clampN f30.Num.toNat : Nat) : Int), ((clampN f31.Num.toNat : Nat) : Int)], ⟨f32.Bytes.toArray⟩, [], false, true⟩ bad32 := hR32
  refine W.nil (EX.wa ⟨hH196.sub _ m3, trivial⟩ (WA.one (i := 22) #[true, true, true, true, true, true, true, true, true, true, true, true, true, true, true, true, true, true, true, true, true, true, true, false, true, false] rfl (by kernel_rfl) rfl (W.val rfl rfl rfl (R.bytesStr rfl rfl Try.underlying22 Try.underlying5 Try.underlying9 (hr7.mono (hH196.le m4))) (W.nil (EX.wa ⟨hH196.sub _ m3, trivial⟩ (WA.one (i := 23) #[true, true, true, true, true, true, true, true, true, true, true, true, true, true, true, true, true, true, true, true, true, true, true, true, true, false] rfl (by kernel_rfl) rfl (W.val rfl rfl rfl (R.buildS 12 rfl rfl Try.zr28 rfl rfl (by rw [Try.underlying28]; rfl) Try.plc28 rfl) ?_)))))))
  refine W.re (d := 47) (v := .agg ([_, _, _, _, _, _, _, _, _, _, _, _] : List Value).toArray) rfl rfl (W.nil (EX.wa ⟨hH196.sub _ m3, trivial⟩ (WA.one (i := 25) #[true, true, true, true, true, true, true, true, true, true, true, true, true, true, true, true, true, true, true, true, true, true, true, true, true, true] rfl (by kernel_rfl) rfl ?_)))
  have hH199 := hH196.f2
  refine W.sg0 rfl rfl rfl rfl rfl Try.sz28 rfl (by rfl) hH199 hB50 (fun zb57 w59 hH200 hB57 => ?_)
  refine W.nil (EX.wa ⟨hH200.sub _ m3, trivial⟩ (WA.done (by kernel_rfl) ?_))
  have hH201 := hH200.f6
  have hH202 := hH201.f6
  have hH203 := hH202.f6
  have hH204 := hH203.f6
  have hH205 := hH204.f4
  have hH206 := hH205.f6
  have hH207 := hH206.f6
  have hH208 := hH207.upto7
  refine EX.mid _ rfl ?_ (by rw [hI1]; exact ⟨((clampN f1.Num.toNat : Nat) : Int), ((clampN f2.Num.toNat : Nat) : Int), ((clampN f3.Num.toNat : Nat) : Int), ((clampN f4.Num.toNat : Nat) : Int), ((clampN f5.Num.toNat : Nat) : Int), ((clampN f27.Num.toNat : Nat) : Int), ((clampN f28.Num.toNat : Nat) : Int), ((clampN f29.Num.toNat : Nat) : Int), ((clampN f30.Num.toNat : Nat) : Int), ((clampN f31.Num.toNat : Nat) : Int), ⟨f32.Bytes.toArray⟩, bad32, fs32, b12, _, _, _, rfl, hH208, hR32, hB56, hM33, hB57, (bytes_sz (hr7.mono (hH196.le m4))), (by omega)⟩)
  exact ⟨rfl, trivial⟩
  refine W.alloc rfl rfl rfl rfl Try.zr28 rfl hH26 (fun b13 zb58 w60 hH209 hB58 => ?_)
  refine W.nil (EX.wa ⟨hH209.sub _ m3, trivial⟩ (WA.one (i := 9) #[true, true, true, true, true, true, true, true, true, true, true, false, true, false, true, false, true, false, true, false, true, false, false, false, true, false] rfl (by kernel_rfl) rfl ?_))
  have hH211 := hH209.f2
  have hH212 := hH211.f2
  refine W.callV rfl rfl rfl rfl rfl rfl Try.func33 Try.nm33 Try.bd33 (canon_num _ _ _ _ hH212 hB11 hM5 m1 hB7) ?_
  rintro _ w61 ⟨f33, m33, bad33, zb59, zm34, hT33, rfl, hH210, hB59, hM34⟩
  obtain ⟨fs33, hm33, hR33⟩ := RelC.num (t := 5) hR4 (by omega) rfl hT33
  subst hm33
  replace hR33 : RelC (decFs b).1 6 fs33 ⟨[0, ((clampN f1.Num.toNat : Nat) : Int), ((clampN f2.Num.toNat : Nat) : Int), ((clampN f3.Num.toNat : Nat) : Int), ((clampN f4.Num.toNat : Nat) : Int), ((clampN f33.Num.toNat : Nat) : Int), 0, 0, 0, 0, 0], ⟨#[]⟩, [], false, true⟩ bad33 := hR33
  have hcl26 : clampN f33.Num.toNat ≤ 4611686018427387904 := by unfold clampN; omega
  refine W.nil (EX.wa ⟨hH210.sub _ m3, trivial⟩ (WA.one (i := 11) #[true, true, true, true, true, true, true, true, true, true, true, true, true, false, true, false, true, false, true, false, true, false, false, false, true, false] rfl (by kernel_rfl) rfl ?_))
  have hH214 := hH210.f1
  have hH215 := hH214.f1
  refine W.callV rfl rfl rfl rfl rfl rfl Try.func33 Try.nm33 Try.bd33 (canon_num _ _ _ _ hH215 hB59 hM34 m1 hB7) ?_
  rintro _ w62 ⟨f34, m34, bad34, zb60, zm35, hT34, rfl, hH213, hB60, hM35⟩
  obtain ⟨fs34, hm34, hR34⟩ := RelC.num (t := 6) hR33 (by omega) rfl hT34
  subst hm34
  replace hR34 : RelC (decFs b).1 7 fs34 ⟨[0, ((clampN f1.Num.toNat : Nat) : Int), ((clampN f2.Num.toNat : Nat) : Int), ((clampN f3.Num.toNat : Nat) : Int), ((clampN f4.Num.toNat : Nat) : Int), ((clampN f33.Num.toNat : Nat) : Int), ((clampN f34.Num.toNat : Nat) : Int), 0, 0, 0, 0], ⟨#[]⟩, [], false, true⟩ bad34 := hR34
  have hcl27 : clampN f34.Num.toNat ≤ 4611686018427387904 := by unfold clampN; omega
  refine W.nil (EX.wa ⟨hH213.sub _ m3, trivial⟩ (WA.one (i := 13) #[true, true, true, true, true, true, true, true, true, true, true, true, true, true, true, false, true, false, true, false, true, false, false, false, true, false] rfl (by kernel_rfl) rfl ?_))
  have hH217 := hH213.f1
  have hH218 := hH217.f1
  refine W.callV rfl rfl rfl rfl rfl rfl Try.func33 Try.nm33 Try.bd33 (canon_num _ _ _ _ hH218 hB60 hM35 m1 hB7) ?_
  rintro _ w63 ⟨f35, m35, bad35, zb61, zm36, hT35, rfl, hH216, hB61, hM36⟩
  obtain ⟨fs35, hm35, hR35⟩ := RelC.num (t := 7) hR34 (by omega) rfl hT35
  subst hm35
  replace hR35 : RelC (decFs b).1 8 fs35 ⟨[0, ((clampN f1.Num.toNat : Nat) : Int), ((clampN f2.Num.toNat : Nat) : Int), ((clampN f3.Num.toNat : Nat) : Int), ((clampN f4.Num.toNat : Nat) : Int), ((clampN f33.Num.toNat : Nat) : Int), ((clampN f34.Num.toNat : Nat) : Int), ((clampN f35.Num.toNat : Nat) : Int), 0, 0, 0], ⟨#[]⟩, [], false, true⟩ bad35 := hR35
  have hcl28 : clampN f35.Num.toNat ≤ 4611686018427387904 := by unfold clampN; omega
  refine W.nil (EX.wa ⟨hH216.sub _ m3, trivial⟩ (WA.one (i := 15) #[true, true, true, true, true, true, true, true, true, true, true, true, true, true, true, true, true, false, true, false, true, false, false, false, true, false] rfl (by kernel_rfl) rfl ?_))
  have hH220 := hH216.f1
  have hH221 := hH220.f1
  refine W.callV rfl rfl rfl rfl rfl rfl Try.func33 Try.nm33 Try.bd33 (canon_num _ _ _ _ hH221 hB61 hM36 m1 hB7) ?_
  rintro _ w64 ⟨f36, m36, bad36, zb62, zm37, hT36, rfl, hH219, hB62, hM37⟩
  obtain ⟨fs36, hm36, hR36⟩ := RelC.num (t := 8) hR35 (by omega) rfl hT36
  subst hm36
  replace hR36 : RelC (decFs b).1 9 fs36 ⟨[0, ((clampN f1.Num.toNat : Nat) : Int), ((clampN f2.Num.toNat : Nat) : Int), ((clampN f3.Num.toNat : Nat) : Int), ((clampN f4.Num.toNat : Nat) : Int), ((clampN f33.Num.toNat : Nat) : Int), ((clampN f34.Num.toNat : Nat) : Int), ((clampN f35.Num.toNat : Nat) : Int), ((clampN f36.Num.toNat : Nat) : Int), 0, 0], ⟨#[]⟩, [], false, true⟩ bad36 := hR36
  have hcl29 : clampN f36.Num.toNat ≤ 4611686018427387904 := by unfold clampN; omega
  refine W.nil (EX.wa ⟨hH219.sub _ m3, trivial⟩ (WA.one (i := 17) #[true, true, true, true, true, true, true, true, true, true, true, true, true, true, true, true, true, true, true, false, true, false, false, false, true, false] rfl (by kernel_rfl) rfl ?_))
  have hH223 := hH219.f1
  have hH224 := hH223.f1
  refine W.callV rfl rfl rfl rfl rfl rfl Try.func33 Try.nm33 Try.bd33 (canon_num _ _ _ _ hH224 hB62 hM37 m1 hB7) ?_
  rintro _ w65 ⟨f37, m37, bad37, zb63, zm38, hT37, rfl, hH222, hB63, hM38⟩
  obtain ⟨fs37, hm37, hR37⟩ := RelC.num (t := 9) hR36 (by omega) rfl hT37
  subst hm37
  replace hR37 : RelC (decFs b).1 10 fs37 ⟨[0, ((clampN f1.Num.toNat : Nat) : Int), ((clampN f2.Num.toNat : Nat) : Int), ((clampN f3.Num.toNat : Nat) : Int), ((clampN f4.Num.toNat : Nat) : Int), ((clampN f33.Num.toNat : Nat) : Int), ((clampN f34.Num.toNat : Nat) : Int), ((clampN f35.Num.toNat : Nat) : Int), ((clampN f36.Num.toNat : Nat) : Int), ((clampN f37.Num.toNat : Nat) : Int), 0], ⟨#[]⟩, [], false, true⟩ bad37 := hR37
  have hcl30 : clampN f37.Num.toNat ≤ 4611686018427387904 := by unfold clampN; omega
  refine W.nil (EX.wa ⟨hH222.sub _ m3, trivial⟩ (WA.one (i := 19) #[true, true, true, true, true, true, true, true, true, true, true, true, true, true, true, true, true, true, true, true, true, false, false, false, true, false] rfl (by kernel_rfl) rfl ?_))
  have hH226 := hH222.f1
  have hH227 := hH226.f1
  refine W.callV rfl rfl rfl rfl rfl rfl Try.func33 Try.nm33 Try.bd33 (canon_num _ _ _ _ hH227 hB63 hM38 m1 hB7) ?_
  rintro _ w66 ⟨f38, m38, bad38, zb64, zm39, hT38, rfl, hH225, hB64, hM39⟩
  obtain ⟨fs38, hm38, hR38⟩ := RelC.num (t := 10) hR37 (by omega) rfl hT38
  subst hm38
  replace hR38 : RelC (decFs b).1 11 fs38 ⟨[0, ((clampN f1.Num.toNat : Nat) : Int), ((clampN f2.Num.toNat : Nat) : Int), ((clampN f3.Num.toNat : Nat) : Int), ((clampN f4.Num.toNat : Nat) : Int), ((clampN f33.Num.toNat : Nat) : Int), ((clampN f34.Num.toNat : Nat) : Int), ((clampN f35.Num.toNat : Nat) : Int), ((clampN f36.Num.toNat : Nat) : Int), ((clampN f37.Num.toNat : Nat) : Int), ((clampN f38.Num.toNat : Nat) : Int)], ⟨#[]⟩, [], false, true⟩ bad38 := hR38
  have hcl31 : clampN f38.Num.toNat ≤ 4611686018427387904 := by unfold clampN; omega
  refine W.nil (EX.wa ⟨hH225.sub _ m3, trivial⟩ (WA.one (i := 21) #[true, true, true, true, true, true, true, true, true, true, true, true, true, true, true, true, true, true, true, true, true, true, false, false, true, false] rfl (by kernel_rfl) rfl ?_))
  have hH229 := hH225.f1
  have hH230 := hH229.f1
  refine W.call rfl rfl rfl rfl rfl Try.func36 Try.nm36 Try.bd36 (reader_Text _ _ _ _ hH230 hB64 hM39) ?_
  rintro _ w67 ⟨f39, m39, bad39, zb65, zm40, A8, c8, hT39, rfl, hl8, hr8, hH228, hB65, hM40⟩
  obtain ⟨fs39, hm39, hR39⟩ := RelC.who hR38 rfl hT39
  subst hm39
  replace hR39 : RelC (decFs b).1 12 fs39 ⟨[0, ((clampN f1.Num.toNat : Nat) : Int), ((clampN f2.Num.toNat : Nat) : Int), ((clampN f3.Num.toNat : Nat) : Int), ((clampN f4.Num.toNat : Nat) : Int), ((clampN f33.Num.toNat : Nat) : Int), ((clampN f34.Num.toNat : Nat) : Int), ((clampN f35.Num.toNat : Nat) : Int), ((clampN f36.Num.toNat : Nat) : Int), ((clampN f37.Num.toNat : Nat) : Int), ((clampN f38.Num.toNat : Nat) : Int)], ⟨f39.Bytes.toArray⟩, [], false, true⟩ bad39 := hR39
  refine W.nil (EX.wa ⟨hH228.sub _ m3, trivial⟩ (WA.one (i := 22) #[true, true, true, true, true, true, true, true, true, true, true, true, true, true, true, true, true, true, true, true, true, true, true, false, true, false] rfl (by kernel_rfl) rfl (W.val rfl rfl rfl (R.bytesStr rfl rfl Try.underlying22 Try.underlying5 Try.underlying9 (hr8.mono (hH228.le m4))) (W.nil (EX.wa ⟨hH228.sub _ m3, trivial⟩ (WA.one (i := 23) #[true, true, true, true, true, true, true, true, true, true, true, true, true, true, true, true, true, true, true, true, true, true, true, true, true, false] rfl (by kernel_rfl) rfl (W.val rfl rfl rfl (R.buildS 12 rfl rfl Try.zr28 rfl rfl (by rw [Try.underlying28]; rfl) Try.plc28 rfl) ?_)))))))
  refine W.re (d := 47) (v := .agg ([_, _, _, _, _, _, _, _, _, _, _, _] : List Value).toArray) rfl rfl (W.nil (EX.wa ⟨hH228.sub _ m3, trivial⟩ (WA.one (i := 25) #[true, true, true, true, true, true, true, true, true, true, true, true, true, true, true, true, true, true, true, true, true, true, true, true, true, true] rfl (by kernel_rfl) rfl ?_)))
  have hH231 := hH228.f2
  refine W.sg0 rfl rfl rfl rfl rfl Try.sz28 rfl (by rfl) hH231 hB58 (fun zb66 w68 hH232 hB66 => ?_)
  refine W.nil (EX.wa ⟨hH232.sub _ m3, trivial⟩ (WA.done (by kernel_rfl) ?_))
  have hH233 := hH232.f6
  have hH234 := hH233.f6
  have hH235 := hH234.f6
  have hH236 := hH235.f6
  have hH237 := hH236.f4
  have hH238 := hH237.f6
  have hH239 := hH238.f6
  have hH240 := hH239.upto7
  refine EX.mid _ rfl ?_ (by rw [hI1]; exact ⟨((clampN f1.Num.toNat : Nat) : Int), ((clampN f2.Num.toNat : Nat) : Int), ((clampN f3.Num.toNat : Nat) : Int), ((clampN f4.Num.toNat : Nat) : Int), ((clampN f33.Num.toNat : Nat) : Int), ((clampN f34.Num.toNat : Nat) : Int), ((clampN f35.Num.toNat : Nat) : Int), ((clampN f36.Num.toNat : Nat) : Int), ((clampN f37.Num.toNat : Nat) : Int), ((clampN f38.Num.toNat : Nat) : Int), ⟨f39.Bytes.toArray⟩, bad39, fs39, b13, _, _, _, rfl, hH240, hR39, hB65, hM40, hB66, (bytes_sz (hr8.mono (hH228.le m4))), (by omega)⟩)
  exact ⟨rfl, trivial⟩
  refine W.alloc rfl rfl rfl rfl Try.zr28 rfl hH23 (fun b14 zb67 w69 hH241 hB67 => ?_)
  refine W.nil (EX.wa ⟨hH241.sub _ m3, trivial⟩ (WA.one (i := 7) #[true, true, true, true, true, true, true, true, true, false, true, false, true, false, true, false, true, false, true, false, true, false, false, false, true, false] rfl (by kernel_rfl) rfl ?_))
  have hH243 := hH241.f2
  have hH244 := hH243.f2
  refine W.callV rfl rfl rfl rfl rfl rfl Try.func33 Try.nm33 Try.bd33 (canon_num _ _ _ _ hH244 hB10 hM4 m1 hB7) ?_
  rintro _ w70 ⟨f40, m40, bad40, zb68, zm41, hT40, rfl, hH242, hB68, hM41⟩
  obtain ⟨fs40, hm40, hR40⟩ := RelC.num (t := 4) hR3 (by omega) rfl hT40
  subst hm40
  replace hR40 : RelC (decFs b).1 5 fs40 ⟨[0, ((clampN f1.Num.toNat : Nat) : Int), ((clampN f2.Num.toNat : Nat) : Int), ((clampN f3.Num.toNat : Nat) : Int), ((clampN f40.Num.toNat : Nat) : Int), 0, 0, 0, 0, 0, 0], ⟨#[]⟩, [], false, true⟩ bad40 := hR40
  have hcl32 : clampN f40.Num.toNat ≤ 4611686018427387904 := by unfold clampN; omega
  refine W.nil (EX.wa ⟨hH242.sub _ m3, trivial⟩ (WA.one (i := 9) #[true, true, true, true, true, true, true, true, true, true, true, false, true, false, true, false, true, false, true, false, true, false, false, false, true, false] rfl (by kernel_rfl) rfl ?_))
  have hH246 := hH242.f1
  have hH247 := hH246.f1
  refine W.callV rfl rfl rfl rfl rfl rfl Try.func33 Try.nm33 Try.bd33 (canon_num _ _ _ _ hH247 hB68 hM41 m1 hB7) ?_
  rintro _ w71 ⟨f41, m41, bad41, zb69, zm42, hT41, rfl, hH245, hB69, hM42⟩
  obtain ⟨fs41, hm41, hR41⟩ := RelC.num (t := 5) hR40 (by omega) rfl hT41
  subst hm41
  replace hR41 : RelC (decFs b).1 6 fs41 ⟨[0, ((clampN f1.Num.toNat : Nat) : Int), ((clampN f2.Num.toNat : Nat) : Int), ((clampN f3.Num.toNat : Nat) : Int), ((clampN f40.Num.toNat : Nat) : Int), ((clampN f41.Num.toNat : Nat) : Int), 0, 0, 0, 0, 0], ⟨#[]⟩, [], false, true⟩ bad41 := hR41
  have hcl33 : clampN f41.Num.toNat ≤ 4611686018427387904 := by unfold clampN; omega
  refine W.nil (EX.wa ⟨hH245.sub _ m3, trivial⟩ (WA.one (i := 11) #[true, true, true, true, true, true, true, true, true, true, true, true, true, false, true, false, true, false, true, false, true, false, false, false, true, false] rfl (by kernel_rfl) rfl ?_))
  have hH249 := hH245.f1
  have hH250 := hH249.f1
  refine W.callV rfl rfl rfl rfl rfl rfl Try.func33 Try.nm33 Try.bd33 (canon_num _ _ _ _ hH250 hB69 hM42 m1 hB7) ?_
  rintro _ w72 ⟨f42, m42, bad42, zb70, zm43, hT42, rfl, hH248, hB70, hM43⟩
  obtain ⟨fs42, hm42, hR42⟩ := RelC.num (t := 6) hR41 (by omega) rfl hT42
  subst hm42
  replace hR42 : RelC (decFs b).1 7 fs42 ⟨[0, ((clampN f1.Num.toNat : Nat) : Int), ((clampN f2.Num.toNat : Nat) : Int), ((clampN f3.Num.toNat : Nat) : Int), ((clampN f40.Num.toNat : Nat) : Int), ((clampN f41.Num.toNat : Nat) : Int), ((clampN f42.Num.toNat : Nat) : Int), 0, 0, 0, 0], ⟨#[]⟩, [], false, true⟩ bad42 := hR42
  have hcl34 : clampN f42.Num.toNat ≤ 4611686018427387904 := by unfold clampN; omega
  refine W.nil (EX.wa ⟨hH248.sub _ m3, trivial⟩ (WA.one (i := 13) #[true, true, true, true, true, true, true, true, true, true, true, true, true, true, true, false, true, false, true, false, true, false, false, false, true, false] rfl (by kernel_rfl) rfl ?_))
  have hH252 := hH248.f1
  have hH253 := hH252.f1
  refine W.callV rfl rfl rfl rfl rfl rfl Try.func33 Try.nm33 Try.bd33 (canon_num _ _ _ _ hH253 hB70 hM43 m1 hB7) ?_
  rintro _ w73 ⟨f43, m43, bad43, zb71, zm44, hT43, rfl, hH251, hB71, hM44⟩
  obtain ⟨fs43, hm43, hR43⟩ := RelC.num (t := 7) hR42 (by omega) rfl hT43
  subst hm43
  replace hR43 : RelC (decFs b).1 8 fs43 ⟨[0, ((clampN f1.Num.toNat : Nat) : Int), ((clampN f2.Num.toNat : Nat) : Int), ((clampN f3.Num.toNat : Nat) : Int), ((clampN f40.Num.toNat : Nat) : Int), ((clampN f41.Num.toNat : Nat) : Int), ((clampN f42.Num.toNat : Nat) : Int), ((clampN f43.Num.toNat : Nat) : Int), 0, 0, 0], ⟨#[]⟩, [], false, true⟩ bad43 := hR43
  have hcl35 : clampN f43.Num.toNat ≤ 4611686018427387904 := by unfold clampN; omega
  refine W.nil (EX.wa ⟨hH251.sub _ m3, trivial⟩ (WA.one (i := 15) #[true, true, true, true, true, true, true, true, true, true, true, true, true, true, true, true, true, false, true, false, true, false, false, false, true, false] rfl (by kernel_rfl) rfl ?_))
  have hH255 := hH251.f1
  have hH256 := hH255.f1
  refine W.callV rfl rfl rfl rfl rfl rfl Try.func33 Try.nm33 Try.bd33 (canon_num _ _ _ _ hH256 hB71 hM44 m1 hB7) ?_
  rintro _ w74 ⟨f44, m44, bad44, zb72, zm45, hT44, rfl, hH254, hB72, hM45⟩
  obtain ⟨fs44, hm44, hR44⟩ := RelC.num (t := 8) hR43 (by omega) rfl hT44
  subst hm44
  replace hR44 : RelC (decFs b).1 9 fs44 ⟨[0, ((clampN f1.Num.toNat : Nat) : Int), ((clampN f2.Num.toNat : Nat) : Int), ((clampN f3.Num.toNat : Nat) : Int), ((clampN f40.Num.toNat : Nat) : Int), ((clampN f41.Num.toNat : Nat) : Int), ((clampN f42.Num.toNat : Nat) : Int), ((clampN f43.Num.toNat : Nat) : Int), ((clampN f44.Num.toNat : Nat) : Int), 0, 0], ⟨#[]⟩, [], false, true⟩ bad44 := hR44
  have hcl36 : clampN f44.Num.toNat ≤ 4611686018427387904 := by unfold clampN; omega
  refine W.nil (EX.wa ⟨hH254.sub _ m3, trivial⟩ (WA.one (i := 17) #[true, true, true, true, true, true, true, true, true, true, true, true, true, true, true, true, true, true, true, false, true, false, false, false, true, false] rfl (by kernel_rfl) rfl ?_))
  have hH258 := hH254.f1
  have hH259 := hH258.f1
  refine W.callV rfl rfl rfl rfl rfl rfl Try.func33 Try.nm33 Try.bd33 (canon_num _ _ _ _ hH259 hB72 hM45 m1 hB7) ?_
  rintro _ w75 ⟨f45, m45, bad45, zb73, zm46, hT45, rfl, hH257, hB73, hM46⟩
  obtain ⟨fs45, hm45, hR45⟩ := RelC.num (t := 9) hR44 (by omega) rfl hT45
  subst hm45
  replace hR45 : RelC (decFs b).1 10 fs45 ⟨[0, ((clampN f1.Num.toNat : Nat) : Int), ((clampN f2.Num.toNat : Nat) : Int), ((clampN f3.Num.toNat : Nat) : Int), ((clampN f40.Num.toNat : Nat) : Int), ((clampN f41.Num.toNat : Nat) : Int), ((clampN f42.Num.toNat : Nat) : Int), ((clampN f43.Num.toNat : Nat) : Int), ((clampN f44.Num.toNat : Nat) : Int), ((clampN f45.Num.toNat : Nat) : Int), 0], ⟨#[]⟩, [], false, true⟩ bad45 := hR45
  have hcl37 : clampN f45.Num.toNat ≤ 4611686018427387904 := by unfold clampN; omega
  refine W.nil (EX.wa ⟨hH257.sub _ m3, trivial⟩ (WA.one (i := 19) #[true, true, true, true, true, true, true, true, true, true, true, true, true, true, true, true, true, true, true, true, true, false, false, false, true, false] rfl (by kernel_rfl) rfl ?_))
  have hH261 := hH257.f1
  have hH262 := hH261.f1
  refine W.callV rfl rfl rfl rfl rfl rfl Try.func33 Try.nm33 Try.bd33 (canon_num _ _ _ _ hH262 hB73 hM46 m1 hB7) ?_
  rintro _ w76 ⟨f46, m46, bad46, zb74, zm47, hT46, rfl, hH260, hB74, hM47⟩
  obtain ⟨fs46, hm46, hR46⟩ := RelC.num (t := 10) hR45 (by omega) rfl hT46
  subst hm46
  replace hR46 : RelC (decFs b).1 11 fs46 ⟨[0, ((clampN f1.Num.toNat : Nat) : Int), ((clampN f2.Num.toNat : Nat) : Int), ((clampN f3.Num.toNat : Nat) : Int), ((clampN f40.Num.toNat : Nat) : Int), ((clampN f41.Num.toNat : Nat) : Int), ((clampN f42.Num.toNat : Nat) : Int), ((clampN f43.Num.toNat : Nat) : Int), ((clampN f44.Num.toNat : Nat) : Int), ((clampN f45.Num.toNat : Nat) : Int), ((clampN f46.Num.toNat : Nat) : Int)], ⟨#[]⟩, [], false, true⟩ bad46 := hR46
  have hcl38 : clampN f46.Num.toNat ≤ 4611686018427387904 := by unfold clampN; omega
  refine W.nil (EX.wa ⟨hH260.sub _ m3, trivial⟩ (WA.one (i := 21) #[true, true, true, true, true, true, true, true, true, true, true, true, true, true, true, true, true, true, true, true, true, true, false, false, true, false] rfl (by kernel_rfl) rfl ?_))
  have hH264 := hH260.f1
  have hH265 := hH264.f1
  refine W.call rfl rfl rfl rfl rfl Try.func36 Try.nm36 Try.bd36 (reader_Text _ _ _ _ hH265 hB74 hM47) ?_
  rintro _ w77 ⟨f47, m47, bad47, zb75, zm48, A9, c9, hT47, rfl, hl9, hr9, hH263, hB75, hM48⟩
  obtain ⟨fs47, hm47, hR47⟩ := RelC.who hR46 rfl hT47
  subst hm47
  replace hR47 : RelC (decFs b).1 12 fs47 ⟨[0, ((clampN f1.Num.toNat : Nat) : Int), ((clampN f2.Num.toNat : Nat) : Int), ((clampN f3.Num.toNat : Nat) : Int), ((clampN f40.Num.toNat : Nat) : Int), ((clampN f41.Num.toNat : Nat) : Int), ((clampN f42.Num.toNat : Nat) : Int), ((clampN f43.Num.toNat : Nat) : Int), ((clampN f44.Num.toNat : Nat) : Int), ((clampN f45.Num.toNat : Nat) : Int), ((clampN f46.Num.toNat : Nat) : Int)], ⟨f47.Bytes.toArray⟩, [], false, true⟩ bad47 := hR47
  refine W.nil (EX.wa ⟨hH263.sub _ m3, trivial⟩ (WA.one (i := 22) #[true, true, true, true, true, true, true, true, true, true, true, true, true, true, true, true, true, true, true, true, true, true, true, false, true, false] rfl (by kernel_rfl) rfl (W.val rfl rfl rfl (R.bytesStr rfl rfl Try.underlying22 Try.underlying5 Try.underlying9 (hr9.mono (hH263.le m4))) (W.nil (EX.wa ⟨hH263.sub _ m3, trivial⟩ (WA.one (i := 23) #[true, true, true, true, true, true, true, true, true, true, true, true, true, true, true, true, true, true, true, true, true, true, true, true, true, false] rfl (by kernel_rfl) rfl (W.val rfl rfl rfl (R.buildS 12 rfl rfl Try.zr28 rfl rfl (by rw [Try.underlying28]; rfl) Try.plc28 rfl) ?_)))))))
  refine W.re (d := 47) (v := .agg ([_, _, _, _, _, _, _, _, _, _, _, _] : List Value).toArray) rfl rfl (W.nil (EX.wa ⟨hH263.sub _ m3, trivial⟩ (WA.one (i := 25) #[true, true, true, true, true, true, true, true, true, true, true, true, true, true, true, true, true, true, true, true, true, true, true, true, true, true] rfl (by kernel_rfl) rfl ?_)))
  have hH266 := hH263.f2
  refine W.sg0 rfl rfl rfl rfl rfl Try.sz28 rfl (by rfl) hH266 hB67 (fun zb76 w78 hH267 hB76 => ?_)
  refine W.nil (EX.wa ⟨hH267.sub _ m3, trivial⟩ (WA.done (by kernel_rfl) ?_))
  have hH268 := hH267.f6
  have hH269 := hH268.f6
  have hH270 := hH269.f6
  have hH271 := hH270.f6
  have hH272 := hH271.f4
  have hH273 := hH272.f6
  have hH274 := hH273.f6
  have hH275 := hH274.upto7
  refine EX.mid _ rfl ?_ (by rw [hI1]; exact ⟨((clampN f1.Num.toNat : Nat) : Int), ((clampN f2.Num.toNat : Nat) : Int), ((clampN f3.Num.toNat : Nat) : Int), ((clampN f40.Num.toNat : Nat) : Int), ((clampN f41.Num.toNat : Nat) : Int), ((clampN f42.Num.toNat : Nat) : Int), ((clampN f43.Num.toNat : Nat) : Int), ((clampN f44.Num.toNat : Nat) : Int), ((clampN f45.Num.toNat : Nat) : Int), ((clampN f46.Num.toNat : Nat) : Int), ⟨f47.Bytes.toArray⟩, bad47, fs47, b14, _, _, _, rfl, hH275, hR47, hB75, hM48, hB76, (bytes_sz (hr9.mono (hH263.le m4))), (by omega)⟩)
  exact ⟨rfl, trivial⟩
  refine W.alloc rfl rfl rfl rfl Try.zr28 rfl hH20 (fun b15 zb77 w79 hH276 hB77 => ?_)
  refine W.nil (EX.wa ⟨hH276.sub _ m3, trivial⟩ (WA.one (i := 5) #[true, true, true, true, true, true, true, false, true, false, true, false, true, false, true, false, true, false, true, false, true, false, false, false, true, false] rfl (by kernel_rfl) rfl ?_))
  have hH278 := hH276.f2
  have hH279 := hH278.f2
  refine W.callV rfl rfl rfl rfl rfl rfl Try.func33 Try.nm33 Try.bd33 (canon_num _ _ _ _ hH279 hB9 hM3 m1 hB7) ?_
  rintro _ w80 ⟨f48, m48, bad48, zb78, zm49, hT48, rfl, hH277, hB78, hM49⟩
  obtain ⟨fs48, hm48, hR48⟩ := RelC.num (t := 3) hR2 (by omega) rfl hT48
  subst hm48
  replace hR48 : RelC (decFs b).1 4 fs48 ⟨[0, ((clampN f1.Num.toNat : Nat) : Int), ((clampN f2.Num.toNat : Nat) : Int), ((clampN f48.Num.toNat : Nat) : Int), 0, 0, 0, 0, 0, 0, 0], ⟨#[]⟩, [], false, true⟩ bad48 := hR48
  have hcl39 : clampN f48.Num.toNat ≤ 4611686018427387904 := by unfold clampN; omega
  refine W.nil (EX.wa ⟨hH277.sub _ m3, trivial⟩ (WA.one (i := 7) #[true, true, true, true, true, true, true, true, true, false, true, false, true, false, true, false, true, false, true, false, true, false, false, false, true, false] rfl (by kernel_rfl) rfl ?_))
  have hH281 := hH277.f1
  have hH282 := hH281.f1
  refine W.callV rfl rfl rfl rfl rfl rfl Try.func33 Try.nm33 Try.bd33 (canon_num _ _ _ _ hH282 hB78 hM49 m1 hB7) ?_
  rintro _ w81 ⟨f49, m49, bad49, zb79, zm50, hT49, rfl, hH280, hB79, hM50⟩
  obtain ⟨fs49, hm49, hR49⟩ := RelC.num (t := 4) hR48 (by omega) rfl hT49
  subst hm49
  replace hR49 : RelC (decFs b).1 5 fs49 ⟨[0, ((clampN f1.Num.toNat : Nat) : Int), ((clampN f2.Num.toNat : Nat) : Int), ((clampN f48.Num.toNat : Nat) : Int), ((clampN f49.Num.toNat : Nat) : Int), 0, 0, 0, 0, 0, 0], ⟨#[]⟩, [], false, true⟩ bad49 := hR49
  have hcl40 : clampN f49.Num.toNat ≤ 4611686018427387904 := by unfold clampN; omega
  refine W.nil (EX.wa ⟨hH280.sub _ m3, trivial⟩ (WA.one (i := 9) #[true, true, true, true, true, true, true, true, true, true, true, false, true, false, true, false, true, false, true, false, true, false, false, false, true, false] rfl (by kernel_rfl) rfl ?_))
  have hH284 := hH280.f1
  have hH285 := hH284.f1
  refine W.callV rfl rfl rfl rfl rfl rfl Try.func33 Try.nm33 Try.bd33 (canon_num _ _ _ _ hH285 hB79 hM50 m1 hB7) ?_
  rintro _ w82 ⟨f50, m50, bad50, zb80, zm51, hT50, rfl, hH283, hB80, hM51⟩
  obtain ⟨fs50, hm50, hR50⟩ := RelC.num (t := 5) hR49 (by omega) rfl hT50
  subst hm50
  replace hR50 : RelC (decFs b).1 6 fs50 ⟨[0, ((clampN f1.Num.toNat : Nat) : Int), ((clampN f2.Num.toNat : Nat) : Int), ((clampN f48.Num.toNat : Nat) : Int), ((clampN f49.Num.toNat : Nat) : Int), ((clampN f50.Num.toNat : Nat) : Int), 0, 0, 0, 0, 0], ⟨#[]⟩, [], false, true⟩ bad50 := hR50
  have hcl41 : clampN f50.Num.toNat ≤ 4611686018427387904 := by unfold clampN; omega
  refine W.nil (EX.wa ⟨hH283.sub _ m3, trivial⟩ (WA.one (i := 11) #[true, true, true, true, true, true, true, true, true, true, true, true, true, false, true, false, true, false, true, false, true, false, false, false, true, false] rfl (by kernel_rfl) rfl ?_))
  have hH287 := hH283.f1
  have hH288 := hH287.f1
  refine W.callV rfl rfl rfl rfl rfl rfl Try.func33 Try.nm33 Try.bd33 (canon_num _ _ _ _ hH288 hB80 hM51 m1 hB7) ?_
  rintro _ w83 ⟨f51, m51, bad51, zb81, zm52, hT51, rfl, hH286, hB81, hM52⟩
  obtain ⟨fs51, hm51, hR51⟩ := RelC.num (t := 6) hR50 (by omega) rfl hT51
  subst hm51
  replace hR51 : RelC (decFs b).1 7 fs51 ⟨[0, ((clampN f1.Num.toNat : Nat) : Int), ((clampN f2.Num.toNat : Nat) : Int), ((clampN f48.Num.toNat : Nat) : Int), ((clampN f49.Num.toNat : Nat) : Int), ((clampN f50.Num.toNat : Nat) : Int), ((clampN f51.Num.toNat : Nat) : Int), 0, 0, 0, 0], ⟨#[]⟩, [], false, true⟩ bad51 := hR51
  have hcl42 : clampN f51.Num.toNat ≤ 4611686018427387904 := by unfold clampN; omega
  refine W.nil (EX.wa ⟨hH286.sub _ m3, trivial⟩ (WA.one (i := 13) #[true, true, true, true, true, true, true, true, true, true, true, true, true, true, true, false, true, false, true, false, true, false, false, false, true, false] rfl (by kernel_rfl) rfl ?_))
  have hH290 := hH286.f1
  have hH291 := hH290.f1
  refine W.callV rfl rfl rfl rfl rfl rfl Try.func33 Try.nm33 Try.bd33 (canon_num _ _ _ _ hH291 hB81 hM52 m1 hB7) ?_
  rintro _ w84 ⟨f52, m52, bad52, zb82, zm53, hT52, rfl, hH289, hB82, hM53⟩
  obtain ⟨fs52, hm52, hR52⟩ := RelC.num (t := 7) hR51 (by omega) rfl hT52
  subst hm52
  replace hR52 : RelC (decFs b).1 8 fs52 ⟨[0, ((clampN f1.Num.toNat : Nat) : Int), ((clampN f2.Num.toNat : Nat) : Int), ((clampN f48.Num.toNat : Nat) : Int), ((clampN f49.Num.toNat : Nat) : Int), ((clampN f50.Num.toNat : Nat) : Int), ((clampN f51.Num.toNat : Nat) : Int), ((clampN f52.Num.toNat : Nat) : Int), 0, 0, 0], ⟨#[]⟩, [], false, true⟩ bad52 := hR52
  have hcl43 : clampN f52.Num.toNat ≤ 4611686018427387904 := by unfold clampN; omega
  refine W.nil (EX.wa ⟨hH289.sub _ m3, trivial⟩ (WA.one (i := 15) #[true, true, true, true, true, true, true, true, true, true, true, true, true, true, true, true, true, false, true, false, true, false, false, false, true, false] rfl (by kernel_rfl) rfl ?_))
  have hH293 := hH289.f1
  have hH294 := hH293.f1
  refine W.callV rfl rfl rfl rfl rfl rfl Try.func33 Try.nm33 Try.bd33 (canon_num _ _ _ _ hH294 hB82 hM53 m1 hB7) ?_
  rintro _ w85 ⟨f53, m53, bad53, zb83, zm54, hT53, rfl, hH292, hB83, hM54⟩
  obtain ⟨fs53, hm53, hR53⟩ := RelC.num (t := 8) hR52 (by omega) rfl hT53
  subst hm53
  replace hR53 : RelC (decFs b).1 9 fs53 ⟨[0, ((clampN f1.Num.toNat : Nat) : Int), ((clampN f2.Num.toNat : Nat) : Int), ((clampN f48.Num.toNat : Nat) : Int), ((clampN f49.Num.toNat : Nat) : Int), ((clampN f50.Num.toNat : Nat) : Int), ((clampN f51.Num.toNat : Nat) : Int), ((clampN f52.Num.toNat : Nat) : Int), ((clampN f53.Num.toNat : Nat) : Int), 0, 0], ⟨#[]⟩, [], false, true⟩ bad53 := hR53
  have hcl44 : clampN f53.Num.toNat ≤ 4611686018427387904 := by unfold clampN; omega
  refine W.nil (EX.wa ⟨hH292.sub _ m3, trivial⟩ (WA.one (i := 17) #[true, true, true, true, true, true, true, true, true, true, true, true, true, true, true, true, true, true, true, false, true, false, false, false, true, false] rfl (by kernel_rfl) rfl ?_))
  have hH296 := hH292.f1
  have hH297 := hH296.f1
  refine W.callV rfl rfl rfl rfl rfl rfl Try.func33 Try.nm33 Try.bd33 (canon_num _ _ _ _ hH297 hB83 hM54 m1 hB7) ?_
  rintro _ w86 ⟨f54, m54, bad54, zb84, zm55, hT54, rfl, hH295, hB84, hM55⟩
  obtain ⟨fs54, hm54, hR54⟩ := RelC.num (t := 9) hR53 (by omega) rfl hT54
  subst hm54
  replace hR54 : RelC (decFs b).1 10 fs54 ⟨[0, ((clampN f1.Num.toNat : Nat) : Int), ((clampN f2.Num.toNat : Nat) : Int), ((clampN f48.Num.toNat : Nat) : Int), ((clampN f49.Num.toNat : Nat) : Int), ((clampN f50.Num.toNat : Nat) : Int), ((clampN f51.Num.toNat : Nat) : Int), ((clampN f52.Num.toNat : Nat) : Int), ((clampN f53.Num.toNat : Nat) : Int), ((clampN f54.Num.toNat : Nat) : Int), 0], ⟨#[]⟩, [], false, true⟩ bad54 := hR54
  have hcl45 : clampN f54.Num.toNat ≤ 4611686018427387904 := by unfold clampN; omega
  refine W.nil (EX.wa ⟨hH295.sub _ m3, trivial⟩ (WA.one (i := 19) #[true, true, true, true, true, true, true, true, true, true, true, true, true, true, true, true, true, true, true, true, true, false, false, false, true, false] rfl (by kernel_rfl) rfl ?_))
  have hH299 := hH295.f1
  have hH300 := hH299.f1
  refine W.callV rfl rfl rfl rfl rfl rfl Try.func33 Try.nm33 Try.bd33 (canon_num _ _ _ _ hH300 hB84 hM55 m1 hB7) ?_
  rintro _ w87 ⟨f55, m55, bad55, zb85, zm56, hT55, rfl, hH298, hB85, hM56⟩
  obtain ⟨fs55, hm55, hR55⟩ := RelC.num (t := 10) hR54 (by omega) rfl hT55
  subst hm55
  replace hR55 : RelC (decFs b).1 11 fs55 ⟨[0, ((clampN f1.Num.toNat : Nat) : Int), ((clampN f2.Num.toNat : Nat) : Int), ((clampN f48.Num.toNat : Nat) : Int), ((clampN f49.Num.toNat : Nat) : Int), ((clampN f50.Num.toNat : Nat) : Int), ((clampN f51.Num.toNat : Nat) : Int), ((clampN f52.Num.toNat : Nat) : Int), ((clampN f53.Num.toNat : Nat) : Int), ((clampN f54.Num.toNat : Nat) : Int), ((clampN f55.Num.toNat : Nat) : Int)], ⟨#[]⟩, [], false, true⟩ bad55 := hR55
  have hcl46 : clampN f55.Num.toNat ≤ 4611686018427387904 := by unfold clampN; omega
  refine W.nil (EX.wa ⟨hH298.sub _ m3, trivial⟩ (WA.one (i := 21) #[true, true, true, true, true, true, true, true, true, true, true, true, true, true, true, true, true, true, true, true, true, true, false, false, true, false] rfl (by kernel_rfl) rfl ?_))
  have hH302 := hH298.f1
  have hH303 := hH302.f1
  refine W.call rfl rfl rfl rfl rfl Try.func36 Try.nm36 Try.bd36 (reader_Text _ _ _ _ hH303 hB85 hM56) ?_
  rintro _ w88 ⟨f56, m56, bad56, zb86, zm57, A10, c10, hT56, rfl, hl10, hr10, hH301, hB86, hM57⟩
  obtain ⟨fs56, hm56, hR56⟩ := RelC.who hR55 rfl hT56
  subst hm56
  replace hR56 : RelC (decFs b).1 12 fs56 ⟨[0, ((clampN f1.Num.toNat : Nat) : Int), ((clampN f2.Num.toNat : Nat) : Int), ((clampN f48.Num.toNat : Nat) : Int), ((clampN f49.Num.toNat : Nat) : Int), ((clampN f50.Num.toNat : Nat) : Int), ((clampN f51.Num.toNat : Nat) : Int), ((clampN f52.Num.toNat : Nat) : Int), ((clampN f53.Num.toNat : Nat) : Int), ((clampN f54.Num.toNat : Nat) : Int), ((clampN f55.Num.toNat : Nat) : Int)], ⟨f56.Bytes.toArray⟩, [], false, true⟩ bad56 := hR56
  refine W.nil (EX.wa ⟨hH301.sub _ m3, trivial⟩ (WA.one (i := 22) #[true, true, true, true, true, true, true, true, true, true, true, true, true, true, true, true, true, true, true, true, true, true, true, false, true, false] rfl (by kernel_rfl) rfl (W.val rfl rfl rfl (R.bytesStr rfl rfl Try.underlying22 Try.underlying5 Try.underlying9 (hr10.mono (hH301.le m4))) (W.nil (EX.wa ⟨hH301.sub _ m3, trivial⟩ (WA.one (i := 23) #[true, true, true, true, true, true, true, true, true, true, true, true, true, true, true, true, true, true, true, true, true, true, true, true, true, false] rfl (by kernel_rfl) rfl (W.val rfl rfl rfl (R.buildS 12 rfl rfl Try.zr28 rfl rfl (by rw [Try.underlying28]; rfl) Try.plc28 rfl) ?_)))))))
  refine W.re (d := 47) (v := .agg ([_, _, _, _, _, _, _, _, _, _, _, _] : List Value).toArray) rfl rfl (W.nil (EX.wa ⟨hH301.sub _ m3, trivial⟩ (WA.one (i := 25) #[true, true, true, true, true, true, true, true, true, true, true, true, true, true, true, true, true, true, true, true, true, true, true, true, true, true] rfl (by kernel_rfl) rfl ?_)))
  have hH304 := hH301.f2
  refine W.sg0 rfl rfl rfl rfl rfl Try.sz28 rfl (by rfl) hH304 hB77 (fun zb87 w89 hH305 hB87 => ?_)
  refine W.nil (EX.wa ⟨hH305.sub _ m3, trivial⟩ (WA.done (by kernel_rfl) ?_))
  have hH306 := hH305.f6
  have hH307 := hH306.f6
  have hH308 := hH307.f6
  have hH309 := hH308.f6
  have hH310 := hH309.f4
  have hH311 := hH310.f6
  have hH312 := hH311.f6
  have hH313 := hH312.upto7
  refine EX.mid _ rfl ?_ (by rw [hI1]; exact ⟨((clampN f1.Num.toNat : Nat) : Int), ((clampN f2.Num.toNat : Nat) : Int), ((clampN f48.Num.toNat : Nat) : Int), ((clampN f49.Num.toNat : Nat) : Int), ((clampN f50.Num.toNat : Nat) : Int), ((clampN f51.Num.toNat : Nat) : Int), ((clampN f52.Num.toNat : Nat) : Int), ((clampN f53.Num.toNat : Nat) : Int), ((clampN f54.Num.toNat : Nat) : Int), ((clampN f55.Num.toNat : Nat) : Int), ⟨f56.Bytes.toArray⟩, bad56, fs56, b15, _, _, _, rfl, hH313, hR56, hB86, hM57, hB87, (bytes_sz (hr10.mono (hH301.le m4))), (by omega)⟩)
  exact ⟨rfl, trivial⟩
  refine W.alloc rfl rfl rfl rfl Try.zr28 rfl hH17 (fun b16 zb88 w90 hH314 hB88 => ?_)
  refine W.nil (EX.wa ⟨hH314.sub _ m3, trivial⟩ (WA.one (i := 3) #[true, true, true, true, true, false, true, false, true, false, true, false, true, false, true, false, true, false, true, false, true, false, false, false, true, false] rfl (by kernel_rfl) rfl ?_))
  have hH316 := hH314.f2
  have hH317 := hH316.f2
  refine W.callV rfl rfl rfl rfl rfl rfl Try.func33 Try.nm33 Try.bd33 (canon_num _ _ _ _ hH317 hB8 hM2 m1 hB7) ?_
  rintro _ w91 ⟨f57, m57, bad57, zb89, zm58, hT57, rfl, hH315, hB89, hM58⟩
  obtain ⟨fs57, hm57, hR57⟩ := RelC.num (t := 2) hR1 (by omega) rfl hT57
  subst hm57
  replace hR57 : RelC (decFs b).1 3 fs57 ⟨[0, ((clampN f1.Num.toNat : Nat) : Int), ((clampN f57.Num.toNat : Nat) : Int), 0, 0, 0, 0, 0, 0, 0, 0], ⟨#[]⟩, [], false, true⟩ bad57 := hR57
  have hcl47 : clampN f57.Num.toNat ≤ 4611686018427387904 := by unfold clampN; omega
  refine W.nil (EX.wa ⟨hH315.sub _ m3, trivial⟩ (WA.one (i := 5) #[true, true, true, true, true, true, true, false, true, false, true, false, true, false, true, false, true, false, true, false, true, false, false, false, true, false] rfl (by kernel_rfl) rfl ?_))
  have hH319 := hH315.f1
  have hH320 := hH319.f1
  refine W.callV rfl rfl rfl rfl rfl rfl Try.func33 Try.nm33 Try.bd33 (canon_num _ _ _ _ hH320 hB89 hM58 m1 hB7) ?_
  rintro _ w92 ⟨f58, m58, bad58, zb90, zm59, hT58, rfl, hH318, hB90, hM59⟩
  obtain ⟨fs58, hm58, hR58⟩ := RelC.num (t := 3) hR57 (by omega) rfl hT58
  subst hm58
  replace hR58 : RelC (decFs b).1 4 fs58 ⟨[0, ((clampN f1.Num.toNat : Nat) : Int), ((clampN f57.Num.toNat : Nat) : Int), ((clampN f58.Num.toNat : Nat) : Int), 0, 0, 0, 0, 0, 0, 0], ⟨#[]⟩, [], false, true⟩ bad58 := hR58
  have hcl48 : clampN f58.Num.toNat ≤ 4611686018427387904 := by unfold clampN; omega
  refine W.nil (EX.wa ⟨hH318.sub _ m3, trivial⟩ (WA.one (i := 7) #[true, true, true, true, true, true, true, true, true, false, true, false, true, false, true, false, true, false, true, false, true, false, false, false, true, false] rfl (by kernel_rfl) rfl ?_))
  have hH322 := hH318.f1
  have hH323 := hH322.f1
  refine W.callV rfl rfl rfl rfl rfl rfl Try.func33 Try.nm33 Try.bd33 (canon_num _ _ _ _ hH323 hB90 hM59 m1 hB7) ?_
  rintro _ w93 ⟨f59, m59, bad59, zb91, zm60, hT59, rfl, hH321, hB91, hM60⟩
  obtain ⟨fs59, hm59, hR59⟩ := RelC.num (t := 4) hR58 (by omega) rfl hT59
  subst hm59
  replace hR59 : RelC (decFs b).1 5 fs59 ⟨[0, ((clampN f1.Num.toNat : Nat) : Int), ((clampN f57.Num.toNat : Nat) : Int), ((clampN f58.Num.toNat : Nat) : Int), ((clampN f59.Num.toNat : Nat) : Int), 0, 0, 0, 0, 0, 0], ⟨#[]⟩, [], false, true⟩ bad59 := hR59
  have hcl49 : clampN f59.Num.toNat ≤ 4611686018427387904 := by unfold clampN; omega
  refine W.nil (EX.wa ⟨hH321.sub _ m3, trivial⟩ (WA.one (i := 9) #[true, true, true, true, true, true, true, true, true, true, true, false, true, false, true, false, true, false, true, false, true, false, false, false, true, false] rfl (by kernel_rfl) rfl ?_))
  have hH325 := hH321.f1
  have hH326 := hH325.f1
  refine W.callV rfl rfl rfl rfl rfl rfl Try.func33 Try.nm33 Try.bd33 (canon_num _ _ _ _ hH326 hB91 hM60 m1 hB7) ?_
  rintro _ w94 ⟨f60, m60, bad60, zb92, zm61, hT60, rfl, hH324, hB92, hM61⟩
  obtain ⟨fs60, hm60, hR60⟩ := RelC.num (t := 5) hR59 (by omega) rfl hT60
  subst hm60
  replace hR60 : RelC (decFs b).1 6 fs60 ⟨[0, ((clampN f1.Num.toNat : Nat) : Int), ((clampN f57.Num.toNat : Nat) : Int), ((clampN f58.Num.toNat : Nat) : Int), ((clampN f59.Num.toNat : Nat) : Int), ((clampN f60.Num.toNat : Nat) : Int), 0, 0, 0, 0, 0], ⟨#[]⟩, [], false, true⟩ bad60 := hR60
  have hcl50 : clampN f60.Num.toNat ≤ 4611686018427387904 := by unfold clampN; omega
  refine W.nil (EX.wa ⟨hH324.sub _ m3, trivial⟩ (WA.one (i := 11) #[true, true, true, true, true, true, true, true, true, true, true, true, true, false, true, false, true, false, true, false, true, false, false, false, true, false] rfl (by kernel_rfl) rfl ?_))
  have hH328 := hH324.f1
  have hH329 := hH328.f1
  refine W.callV rfl rfl rfl rfl rfl rfl Try.func33 Try.nm33 Try.bd33 (canon_num _ _ _ _ hH329 hB92 hM61 m1 hB7) ?_
  rintro _ w95 ⟨f61, m61, bad61, zb93, zm62, hT61, rfl, hH327, hB93, hM62⟩
  obtain ⟨fs61, hm61, hR61⟩ := RelC.num (t := 6) hR60 (by omega) rfl hT61
  subst hm61
  replace hR61 : RelC (decFs b).1 7 fs61 ⟨[0, ((clampN f1.Num.toNat : Nat) : Int), ((clampN f57.Num.toNat : Nat) : Int), ((clampN f58.Num.toNat : Nat) : Int), ((clampN f59.Num.toNat : Nat) : Int), ((clampN f60.Num.toNat : Nat) : Int), ((clampN f61.Num.toNat : Nat) : Int), 0, 0, 0, 0], ⟨#[]⟩, [], false, true⟩ bad61 := hR61
  have hcl51 : clampN f61.Num.toNat ≤ 4611686018427387904 := by unfold clampN; omega
  refine W.nil (EX.wa ⟨hH327.sub _ m3, trivial⟩ (WA.one (i := 13) #[true, true, true, true, true, true, true, true, true, true, true, true, true, true, true, false, true, false, true, false, true, false, false, false, true, false] rfl (by kernel_rfl) rfl ?_))
  have hH331 := hH327.f1
  have hH332 := hH331.f1
  refine W.callV rfl rfl rfl rfl rfl rfl Try.func33 Try.nm33 Try.bd33 (canon_num _ _ _ _ hH332 hB93 hM62 m1 hB7) ?_
  rintro _ w96 ⟨f62, m62, bad62, zb94, zm63, hT62, rfl, hH330, hB94, hM63⟩
  obtain ⟨fs62, hm62, hR62⟩ := RelC.num (t := 7) hR61 (by omega) rfl hT62
  subst hm62
  replace hR62 : RelC (decFs b).1 8 fs62 ⟨[0, ((clampN f1.Num.toNat : Nat) : Int), ((clampN f57.Num.toNat : Nat) : Int), ((clampN f58.Num.toNat : Nat) : Int), ((clampN f59.Num.toNat : Nat) : Int), ((clampN f60.Num.toNat : Nat) : Int), ((clampN f61.Num.toNat : Nat) : Int), ((clampN f62.Num.toNat : Nat) : Int), 0, 0, 0], ⟨#[]⟩, [], false, true⟩ bad62 := hR62
  have hcl52 : clampN f62.Num.toNat ≤ 4611686018427387904 := by unfold clampN; omega
  refine W.nil (EX.wa ⟨hH330.sub _ m3, trivial⟩ (WA.one (i := 15) #[true, true, true, true, true, true, true, true, true, true, true, true, true, true, true, true, true, false, true, false, true, false, false, false, true, false] rfl (by kernel_rfl) rfl ?_))
  have hH334 := hH330.f1
  have hH335 := hH334.f1
  refine W.callV rfl rfl rfl rfl rfl rfl Try.func33 Try.nm33 Try.bd33 (canon_num _ _ _ _ hH335 hB94 hM63 m1 hB7) ?_
  rintro _ w97 ⟨f63, m63, bad63, zb95, zm64, hT63, rfl, hH333, hB95, hM64⟩
  obtain ⟨fs63, hm63, hR63⟩ := RelC.num (t := 8) hR62 (by omega) rfl hT63
  subst hm63
  replace hR63 : RelC (decFs b).1 9 fs63 ⟨[0, ((clampN f1.Num.toNat : Nat) : Int), ((clampN f57.Num.toNat : Nat) : Int), ((clampN f58.Num.toNat : Nat) : Int), ((clampN f59.Num.toNat : Nat) : Int), ((clampN f60.Num.toNat : Nat) : Int), ((clampN f61.Num.toNat : Nat) : Int), ((clampN f62.Num.toNat : Nat) : Int), ((clampN f63.Num.toNat : Nat) : Int), 0, 0], ⟨#[]⟩, [], false, true⟩ bad63 := hR63
  have hcl53 : clampN f63.Num.toNat ≤ 4611686018427387904 := by unfold clampN; omega
  refine W.nil (EX.wa ⟨hH333.sub _ m3, trivial⟩ (WA.one (i := 17) #[true, true, true, true, true, true, true, true, true, true, true, true, true, true, true, true, true, true, true, false, true, false, false, false, true, false] rfl (by kernel_rfl) rfl ?_))
  have hH337 := hH333.f1
  have hH338 := hH337.f1
  refine W.callV rfl rfl rfl rfl rfl rfl Try.func33 Try.nm33 Try.bd33 (canon_num _ _ _ _ hH338 hB95 hM64 m1 hB7) ?_
  rintro _ w98 ⟨f64, m64, bad64, zb96, zm65, hT64, rfl, hH336, hB96, hM65⟩
  obtain ⟨fs64, hm64, hR64⟩ := RelC.num (t := 9) hR63 (by omega) rfl hT64
  subst hm64
  replace hR64 : RelC (decFs b).1 10 fs64 ⟨[0, ((clampN f1.Num.toNat : Nat) : Int), ((clampN f57.Num.toNat : Nat) : Int), ((clampN f58.Num.toNat : Nat) : Int), ((clampN f59.Num.toNat : Nat) : Int), ((clampN f60.Num.toNat : Nat) : Int), ((clampN f61.Num.toNat : Nat) : Int), ((clampN f62.Num.toNat : Nat) : Int), ((clampN f63.Num.toNat : Nat) : Int), ((clampN f64.Num.toNat : Nat) : Int), 0], ⟨#[]⟩, [], false, true⟩ bad64 := hR64
  have hcl54 : clampN f64.Num.toNat ≤ 4611686018427387904 := by unfold clampN; omega
  refine W.nil (EX.wa ⟨hH336.sub _ m3, trivial⟩ (WA.one (i := 19) #[true, true, true, true, true, true, true, true, true, true, true, true, true, true, true, true, true, true, true, true, true, false, false, false, true, false] rfl (by kernel_rfl) rfl ?_))
  have hH340 := hH336.f1
  have hH341 := hH340.f1
  refine W.callV rfl rfl rfl rfl rfl rfl Try.func33 Try.nm33 Try.bd33 (canon_num _ _ _ _ hH341 hB96 hM65 m1 hB7) ?_
  rintro _ w99 ⟨f65, m65, bad65, zb97, zm66, hT65, rfl, hH339, hB97, hM66⟩
  obtain ⟨fs65, hm65, hR65⟩ := RelC.num (t := 10) hR64 (by omega) rfl hT65
  subst hm65
  replace hR65 : RelC (decFs b).1 11 fs65 ⟨[0, ((clampN f1.Num.toNat : Nat) : Int), ((clampN f57.Num.toNat : Nat) : Int), ((clampN f58.Num.toNat : Nat) : Int), ((clampN f59.Num.toNat : Nat) : Int), ((clampN f60.Num.toNat : Nat) : Int), ((clampN f61.Num.toNat : Nat) : Int), ((clampN f62.Num.toNat : Nat) : Int), ((clampN f63.Num.toNat : Nat) : Int), ((clampN f64.Num.toNat : Nat) : Int), ((clampN f65.Num.toNat : Nat) : Int)], ⟨#[]⟩, [], false, true⟩ bad65 := hR65
  have hcl55 : clampN f65.Num.toNat ≤ 4611686018427387904 := by unfold clampN; omega
  refine W.nil (EX.wa ⟨hH339.sub _ m3, trivial⟩ (WA.one (i := 21) #[true, true, true, true, true, true, true, true, true, true, true, true, true, true, true, true, true, true, true, true, true, true, false, false, true, false] rfl (by kernel_rfl) rfl ?_))
  have hH343 := hH339.f1
  have hH344 := hH343.f1
  refine W.call rfl rfl rfl rfl rfl Try.func36 Try.nm36 Try.bd36 (reader_Text _ _ _ _ hH344 hB97 hM66) ?_
  rintro _ w100 ⟨f66, m66, bad66, zb98, zm67, A11, c11, hT66, rfl, hl11, hr11, hH342, hB98, hM67⟩
  obtain ⟨fs66, hm66, hR66⟩ := RelC.who hR65 rfl hT66
  subst hm66
  replace hR66 : RelC (decFs b).1 12 fs66 ⟨[0, ((clampN f1.Num.toNat : Nat) : Int), ((clampN f57.Num.toNat : Nat) : Int), ((clampN f58.Num.toNat : Nat) : Int), ((clampN f59.Num.toNat : Nat) : Int), ((clampN f60.Num.toNat : Nat) : Int), ((clampN f61.Num.toNat : Nat) : Int), ((clampN f62.Num.toNat : Nat) : Int), ((clampN f63.Num.toNat : Nat) : Int), ((clampN f64.Num.toNat : Nat) : Int), ((clampN f65.Num.toNat : Nat) : Int)], ⟨f66.Bytes.toArray⟩, [], false, true⟩ bad66 := hR66
  refine W.nil (EX.wa ⟨hH342.sub _ m3, trivial⟩ (WA.one (i := 22) #[true, true, true, true, true, true, true, true, true, true, true, true, true, true, true, true, true, true, true, true, true, true, true, false, true, false] rfl (by kernel_rfl) rfl (W.val rfl rfl rfl (R.bytesStr rfl rfl Try.underlying22 Try.underlying5 Try.underlying9 (hr11.mono (hH342.le m4))) (W.nil (EX.wa ⟨hH342.sub _ m3, trivial⟩ (WA.one (i := 23) #[true, true, true, true, true, true, true, true, true, true, true, true, true, true, true, true, true, true, true, true, true, true, true, true, true, false] rfl (by kernel_rfl) rfl (W.val rfl rfl rfl (R.buildS 12 rfl rfl Try.zr28 rfl rfl (by rw [Try.underlying28]; rfl) Try.plc28 rfl) ?_)))))))
  refine W.re (d := 47) (v := .agg ([_, _, _, _, _, _, _, _, _, _, _, _] : List Value).toArray) rfl rfl (W.nil (EX.wa ⟨hH342.sub _ m3, trivial⟩ (WA.one (i := 25) #[true, true, true, true, true, true, true, true, true, true, true, true, true, true, true, true, true, true, true, true, true, true, true, true, true, true] rfl (by kernel_rfl) rfl ?_)))
  have hH345 := hH342.f2
  refine W.sg0 rfl rfl rfl rfl rfl Try.sz28 rfl (by rfl) hH345 hB88 (fun zb99 w101 hH346 hB99 => ?_)
  refine W.nil (EX.wa ⟨hH346.sub _ m3, trivial⟩ (WA.done (by kernel_rfl) ?_))
  have hH347 := hH346.f6
  have hH348 := hH347.f6
  have hH349 := hH348.f6
  have hH350 := hH349.f6
  have hH351 := hH350.f4
  have hH352 := hH351.f6
  have hH353 := hH352.f6
  have hH354 := hH353.upto7
  refine EX.mid _ rfl ?_ (by rw [hI1]; exact ⟨((clampN f1.Num.toNat : Nat) : Int), ((clampN f57.Num.toNat : Nat) : Int), ((clampN f58.Num.toNat : Nat) : Int), ((clampN f59.Num.toNat : Nat) : Int), ((clampN f60.Num.toNat : Nat) : Int), ((clampN f61.Num.toNat : Nat) : Int), ((clampN f62.Num.toNat : Nat) : Int), ((clampN f63.Num.toNat : Nat) : Int), ((clampN f64.Num.toNat : Nat) : Int), ((clampN f65.Num.toNat : Nat) : Int), ⟨f66.Bytes.toArray⟩, bad66, fs66, b16, _, _, _, rfl, hH354, hR66, hB98, hM67, hB99, (bytes_sz (hr11.mono (hH342.le m4))), (by omega)⟩)
  exact ⟨rfl, trivial⟩
  refine W.alloc rfl rfl rfl rfl Try.zr28 rfl hH16 (fun b17 zb100 w102 hH355 hB100 => ?_)
  refine W.nil (EX.wa ⟨hH355.sub _ m1, trivial⟩ (WA.one (i := 1) #[true, true, true, false, true, false, true, false, true, false, true, false, true, false, true, false, true, false, true, false, true, false, false, false, true, false] rfl (by kernel_rfl) rfl ?_))
  have hH357 := hH355.f3
  have hH358 := hH357.f3
  refine W.callV rfl rfl rfl rfl rfl rfl Try.func33 Try.nm33 Try.bd33 (canon_num _ _ _ _ hH358 hB2 hM1 m1 hB7) ?_
  rintro _ w103 ⟨f67, m67, bad67, zb101, zm68, hT67, rfl, hH356, hB101, hM68⟩
  obtain ⟨fs67, hm67, hR67⟩ := RelC.num (t := 1) hR0 (by omega) rfl hT67
  subst hm67
  replace hR67 : RelC (decFs b).1 2 fs67 ⟨[0, ((clampN f67.Num.toNat : Nat) : Int), 0, 0, 0, 0, 0, 0, 0, 0, 0], ⟨#[]⟩, [], false, true⟩ bad67 := hR67
  have hcl56 : clampN f67.Num.toNat ≤ 4611686018427387904 := by unfold clampN; omega
  refine W.nil (EX.wa ⟨hH356.sub _ m3, trivial⟩ (WA.one (i := 3) #[true, true, true, true, true, false, true, false, true, false, true, false, true, false, true, false, true, false, true, false, true, false, false, false, true, false] rfl (by kernel_rfl) rfl ?_))
  have hH360 := hH356.f1
  have hH361 := hH360.f1
  refine W.callV rfl rfl rfl rfl rfl rfl Try.func33 Try.nm33 Try.bd33 (canon_num _ _ _ _ hH361 hB101 hM68 m1 hB7) ?_
  rintro _ w104 ⟨f68, m68, bad68, zb102, zm69, hT68, rfl, hH359, hB102, hM69⟩
  obtain ⟨fs68, hm68, hR68⟩ := RelC.num (t := 2) hR67 (by omega) rfl hT68
  subst hm68
  replace hR68 : RelC (decFs b).1 3 fs68 ⟨[0, ((clampN f67.Num.toNat : Nat) : Int), ((clampN f68.Num.toNat : Nat) : Int), 0, 0, 0, 0, 0, 0, 0, 0], ⟨#[]⟩, [], false, true⟩ bad68 := hR68
  have hcl57 : clampN f68.Num.toNat ≤ 4611686018427387904 := by unfold clampN; omega
  refine W.nil (EX.wa ⟨hH359.sub _ m3, trivial⟩ (WA.one (i := 5) #[true, true, true, true, true, true, true, false, true, false, true, false, true, false, true, false, true, false, true, false, true, false, false, false, true, false] rfl (by kernel_rfl) rfl ?_))
  have hH363 := hH359.f1
  have hH364 := hH363.f1
  refine W.callV rfl rfl rfl rfl rfl rfl Try.func33 Try.nm33 Try.bd33 (canon_num _ _ _ _ hH364 hB102 hM69 m1 hB7) ?_
  rintro _ w105 ⟨f69, m69, bad69, zb103, zm70, hT69, rfl, hH362, hB103, hM70⟩
  obtain ⟨fs69, hm69, hR69⟩ := RelC.num (t := 3) hR68 (by omega) rfl hT69
  subst hm69
  replace hR69 : RelC (decFs b).1 4 fs69 ⟨[0, ((clampN f67.Num.toNat : Nat) : Int), ((clampN f68.Num.toNat : Nat) : Int), ((clampN f69.Num.toNat : Nat) : Int), 0, 0, 0, 0, 0, 0, 0], ⟨#[]⟩, [], false, true⟩ bad69 := hR69
  have hcl58 : clampN f69.Num.toNat ≤ 4611686018427387904 := by unfold clampN; omega
  refine W.nil (EX.wa ⟨hH362.sub _ m3, trivial⟩ (WA.one (i := 7) #[true, true, true, true, true, true, true, true, true, false, true, false, true, false, true, false, true, false, true, false, true, false, false, false, true, false] rfl (by kernel_rfl) rfl ?_))
  have hH366 := hH362.f1
  have hH367 := hH366.f1
  refine W.callV rfl rfl rfl rfl rfl rfl Try.func33 Try.nm33 Try.bd33 (canon_num _ _ _ _ hH367 hB103 hM70 m1 hB7) ?_
  rintro _ w106 ⟨f70, m70, bad70, zb104, zm71, hT70, rfl, hH365, hB104, hM71⟩
  obtain ⟨fs70, hm70, hR70⟩ := RelC.num (t := 4) hR69 (by omega) rfl hT70
  subst hm70
  replace hR70 : RelC (decFs b).1 5 fs70 ⟨[0, ((clampN f67.Num.toNat : Nat) : Int), ((clampN f68.Num.toNat : Nat) : Int), ((clampN f69.Num.toNat : Nat) : Int), ((clampN f70.Num.toNat : Nat) : Int), 0, 0, 0, 0, 0, 0], ⟨#[]⟩, [], false, true⟩ bad70 := hR70
  have hcl59 : clampN f70.Num.toNat ≤ 4611686018427387904 := by unfold clampN; omega
  refine W.nil (EX.wa ⟨hH365.sub _ m3, trivial⟩ (WA.one (i := 9) #[true, true, true, true, true, true, true, true, true, true, true, false, true, false, true, false, true, false, true, false, true, false, false, false, true, false] rfl (by kernel_rfl) rfl ?_))
  have hH369 := hH365.f1
  have hH370 := hH369.f1
  refine W.callV rfl rfl rfl rfl rfl rfl Try.func33 Try.nm33 Try.bd33 (canon_num _ _ _ _ hH370 hB104 hM71 m1 hB7) ?_
  rintro _ w107 ⟨f71, m71, bad71, zb105, zm72, hT71, rfl, hH368, hB105, hM72⟩
  obtain ⟨fs71, hm71, hR71⟩ := RelC.num (t := 5) hR70 (by omega) rfl hT71
  subst hm71
  replace hR71 : RelC (decFs b).1 6 fs71 ⟨[0, ((clampN f67.Num.toNat : Nat) : Int), ((clampN f68.Num.toNat : Nat) : Int), ((clampN f69.Num.toNat : Nat) : Int), ((clampN f70.Num.toNat : Nat) : Int), ((clampN f71.Num.toNat : Nat) : Int), 0, 0, 0, 0, 0], ⟨#[]⟩, [], false, true⟩ bad71 := hR71
  have hcl60 : clampN f71.Num.toNat ≤ 4611686018427387904 := by unfold clampN; omega
  refine W.nil (EX.wa ⟨hH368.sub _ m3, trivial⟩ (WA.one (i := 11) #[true, true, true, true, true, true, true, true, true, true, true, true, true, false, true, false, true, false, true, false, true, false, false, false, true, false] rfl (by kernel_rfl) rfl ?_))
  have hH372 := hH368.f1
  have hH373 := hH372.f1
  refine W.callV rfl rfl rfl rfl rfl rfl Try.func33 Try.nm33 Try.bd33 (canon_num _ _ _ _ hH373 hB105 hM72 m1 hB7) ?_
  rintro _ w108 ⟨f72, m72, bad72, zb106, zm73, hT72, rfl, hH371, hB106, hM73⟩
  obtain ⟨fs72, hm72, hR72⟩ := RelC.num (t := 6) hR71 (by omega) rfl hT72
  subst hm72
  replace hR72 : RelC (decFs b).1 7 fs72 ⟨[0, ((clampN f67.Num.toNat : Nat) : Int), ((clampN f68.Num.toNat : Nat) : Int), ((clampN f69.Num.toNat : Nat) : Int), ((clampN f70.Num.toNat : Nat) : Int), ((clampN f71.Num.toNat : Nat) : Int), ((clampN f72.Num.toNat : Nat) : Int), 0, 0, 0, 0], ⟨#[]⟩, [], false, true⟩ bad72 := hR72
  have hcl61 : clampN f72.Num.toNat ≤ 4611686018427387904 := by unfold clampN; omega
  refine W.nil (EX.wa ⟨hH371.sub _ m3, trivial⟩ (WA.one (i := 13) #[true, true, true, true, true, true, true, true, true, true, true, true, true, true, true, false, true, false, true, false, true, false, false, false, true, false] rfl (by kernel_rfl) rfl ?_))
  have hH375 := hH371.f1
  have hH376 := hH375.f1
  refine W.callV rfl rfl rfl rfl rfl rfl Try.func33 Try.nm33 Try.bd33 (canon_num _ _ _ _ hH376 hB106 hM73 m1 hB7) ?_
  rintro _ w109 ⟨f73, m73, bad73, zb107, zm74, hT73, rfl, hH374, hB107, hM74⟩
  obtain ⟨fs73, hm73, hR73⟩ := RelC.num (t := 7) hR72 (by omega) rfl hT73
  subst hm73
  replace hR73 : RelC (decFs b).1 8 fs73 ⟨[0, ((clampN f67.Num.toNat : Nat) : Int), ((clampN f68.Num.toNat : Nat) : Int), ((clampN f69.Num.toNat : Nat) : Int), ((clampN f70.Num.toNat : Nat) : Int), ((clampN f71.Num.toNat : Nat) : Int), ((clampN f72.Num.toNat : Nat) : Int), ((clampN f73.Num.toNat : Nat) : Int), 0, 0, 0], ⟨#[]⟩, [], false, true⟩ bad73 := hR73
  have hcl62 : clampN f73.Num.toNat ≤ 4611686018427387904 := by unfold clampN; omega
  refine W.nil (EX.wa ⟨hH374.sub _ m3, trivial⟩ (WA.one (i := 15) #[true, true, true, true, true, true, true, true, true, true, true, true, true, true, true, true, true, false, true, false, true, false, false, false, true, false] rfl (by kernel_rfl) rfl ?_))
  have hH378 := hH374.f1
  have hH379 := hH378.f1
  refine W.callV rfl rfl rfl rfl rfl rfl Try.func33 Try.nm33 Try.bd33 (canon_num _ _ _ _ hH379 hB107 hM74 m1 hB7) ?_
  rintro _ w110 ⟨f74, m74, bad74, zb108, zm75, hT74, rfl, hH377, hB108, hM75⟩
  obtain ⟨fs74, hm74, hR74⟩ := RelC.num (t := 8) hR73 (by omega) rfl hT74
  subst hm74
  replace hR74 : RelC (decFs b).1 9 fs74 ⟨[0, ((clampN f67.Num.toNat : Nat) : Int), ((clampN f68.Num.toNat : Nat) : Int), ((clampN f69.Num.toNat : Nat) : Int), ((clampN f70.Num.toNat : Nat) : Int), ((clampN f71.Num.toNat : Nat) : Int), ((clampN f72.Num.toNat : Nat) : Int), ((clampN f73.Num.toNat : Nat) : Int), ((clampN f74.Num.toNat : Nat) : Int), 0, 0], ⟨#[]⟩, [], false, true⟩ bad74 := hR74
  have hcl63 : clampN f74.Num.toNat ≤ 4611686018427387904 := by unfold clampN; omega
  refine W.nil (EX.wa ⟨hH377.sub _ m3, trivial⟩ (WA.one (i := 17) #[true, true, true, true, true, true, true, true, true, true, true, true, true, true, true, true, true, true, true, false, true, false, false, false, true, false] rfl (by kernel_rfl) rfl ?_))
  have hH381 := hH377.f1
  have hH382 := hH381.f1
  refine W.callV rfl rfl rfl rfl rfl rfl Try.func33 Try.nm33 Try.bd33 (canon_num _ _ _ _ hH382 hB108 hM75 m1 hB7) ?_
  rintro _ w111 ⟨f75, m75, bad75, zb109, zm76, hT75, rfl, hH380, hB109, hM76⟩
  obtain ⟨fs75, hm75, hR75⟩ := RelC.num (t := 9) hR74 (by omega) rfl hT75
  subst hm75
  replace hR75 : RelC (decFs b).1 10 fs75 ⟨[0, ((clampN f67.Num.toNat : Nat) : Int), ((clampN f68.Num.toNat : Nat) : Int), ((clampN f69.Num.toNat : Nat) : Int), ((clampN f70.Num.toNat : Nat) : Int), ((clampN f71.Num.toNat : Nat) : Int), ((clampN f72.Num.toNat : Nat) : Int), ((clampN f73.Num.toNat : Nat) : Int), ((clampN f74.Num.toNat : Nat) : Int), ((clampN f75.Num.toNat : Nat) : Int), 0], ⟨#[]⟩, [], false, true⟩ bad75 := hR75
  have hcl64 : clampN f75.Num.toNat ≤ 4611686018427387904 := by unfold clampN; omega
  refine W.nil (EX.wa ⟨hH380.sub _ m3, trivial⟩ (WA.one (i := 19) #[true, true, true, true, true, true, true, true, true, true, true, true, true, true, true, true, true, true, true, true, true, false, false, false, true, false] rfl (by kernel_rfl) rfl ?_))
  have hH384 := hH380.f1
  have hH385 := hH384.f1
  refine W.callV rfl rfl rfl rfl rfl rfl Try.func33 Try.nm33 Try.bd33 (canon_num _ _ _ _ hH385 hB109 hM76 m1 hB7) ?_
  rintro _ w112 ⟨f76, m76, bad76, zb110, zm77, hT76, rfl, hH383, hB110, hM77⟩
  obtain ⟨fs76, hm76, hR76⟩ := RelC.num (t := 10) hR75 (by omega) rfl hT76
  subst hm76
  replace hR76 : RelC (decFs b).1 11 fs76 ⟨[0, ((clampN f67.Num.toNat : Nat) : Int), ((clampN f68.Num.toNat : Nat) : Int), ((clampN f69.Num.toNat : Nat) : Int), ((clampN f70.Num.toNat : Nat) : Int), ((clampN f71.Num.toNat : Nat) : Int), ((clampN f72.Num.toNat : Nat) : Int), ((clampN f73.Num.toNat : Nat) : Int), ((clampN f74.Num.toNat : Nat) : Int), ((clampN f75.Num.toNat : Nat) : Int), ((clampN f76.Num.toNat : Nat) : Int)], ⟨#[]⟩, [], false, true⟩ bad76 := hR76
  have hcl65 : clampN f76.Num.toNat ≤ 4611686018427387904 := by unfold clampN; omega
  refine W.nil (EX.wa ⟨hH383.sub _ m3, trivial⟩ (WA.one (i := 21) #[true, true, true, true, true, true, true, true, true, true, true, true, true, true, true, true, true, true, true, true, true, true, false, false, true, false] rfl (by kernel_rfl) rfl ?_))
  have hH387 := hH383.f1
  have hH388 := hH387.f1
  refine W.call rfl rfl rfl rfl rfl Try.func36 Try.nm36 Try.bd36 (reader_Text _ _ _ _ hH388 hB110 hM77) ?_
  rintro _ w113 ⟨f77, m77, bad77, zb111, zm78, A12, c12, hT77, rfl, hl12, hr12, hH386, hB111, hM78⟩
  obtain ⟨fs77, hm77, hR77⟩ := RelC.who hR76 rfl hT77
  subst hm77
  replace hR77 : RelC (decFs b).1 12 fs77 ⟨[0, ((clampN f67.Num.toNat : Nat) : Int), ((clampN f68.Num.toNat : Nat) : Int), ((clampN f69.Num.toNat : Nat) : Int), ((clampN f70.Num.toNat : Nat) : Int), ((clampN f71.Num.toNat : Nat) : Int), ((clampN f72.Num.toNat : Nat) : Int), ((clampN f73.Num.toNat : Nat) : Int), ((clampN f74.Num.toNat : Nat) : Int), ((clampN f75.Num.toNat : Nat) : Int), ((clampN f76.Num.toNat : Nat) : Int)], ⟨f77.Bytes.toArray⟩, [], false, true⟩ bad77 := hR77
  refine W.nil (EX.wa ⟨hH386.sub _ m3, trivial⟩ (WA.one (i := 22) #[true, true, true, true, true, true, true, true, true, true, true, true, true, true, true, true, true, true, true, true, true, true, true, false, true, false] rfl (by kernel_rfl) rfl (W.val rfl rfl rfl (R.bytesStr rfl rfl Try.underlying22 Try.underlying5 Try.underlying9 (hr12.mono (hH386.le m4))) (W.nil (EX.wa ⟨hH386.sub _ m3, trivial⟩ (WA.one (i := 23) #[true, true, true, true, true, true, true, true, true, true, true, true, true, true, true, true, true, true, true, true, true, true, true, true, true, false] rfl (by kernel_rfl) rfl (W.val rfl rfl rfl (R.buildS 12 rfl rfl Try.zr28 rfl rfl (by rw [Try.underlying28]; rfl) Try.plc28 rfl) ?_)))))))
  refine W.re (d := 47) (v := .agg ([_, _, _, _, _, _, _, _, _, _, _, _] : List Value).toArray) rfl rfl (W.nil (EX.wa ⟨hH386.sub _ m3, trivial⟩ (WA.one (i := 25) #[true, true, true, true, true, true, true, true, true, true, true, true, true, true, true, true, true, true, true, true, true, true, true, true, true, true] rfl (by kernel_rfl) rfl ?_)))
  have hH389 := hH386.f2
  refine W.sg0 rfl rfl rfl rfl rfl Try.sz28 rfl (by rfl) hH389 hB100 (fun zb112 w114 hH390 hB112 => ?_)
  refine W.nil (EX.wa ⟨hH390.sub _ m3, trivial⟩ (WA.done (by kernel_rfl) ?_))
  have hH391 := hH390.f6
  have hH392 := hH391.f6
  have hH393 := hH392.f6
  have hH394 := hH393.f6
  have hH395 := hH394.f4
  have hH396 := hH395.f6
  have hH397 := hH396.f6
  have hH398 := hH397.upto7
  refine EX.mid _ rfl ?_ (by rw [hI1]; exact ⟨((clampN f67.Num.toNat : Nat) : Int), ((clampN f68.Num.toNat : Nat) : Int), ((clampN f69.Num.toNat : Nat) : Int), ((clampN f70.Num.toNat : Nat) : Int), ((clampN f71.Num.toNat : Nat) : Int), ((clampN f72.Num.toNat : Nat) : Int), ((clampN f73.Num.toNat : Nat) : Int), ((clampN f74.Num.toNat : Nat) : Int), ((clampN f75.Num.toNat : Nat) : Int), ((clampN f76.Num.toNat : Nat) : Int), ⟨f77.Bytes.toArray⟩, bad77, fs77, b17, _, _, _, rfl, hH398, hR77, hB111, hM78, hB112, (bytes_sz (hr12.mono (hH386.le m4))), (by omega)⟩)
  exact ⟨rfl, trivial⟩
  intro D w115 hn1
  rw [hI1] at hn1
  obtain ⟨n1, n2, n3, n4, n5, n6, n7, n8, n9, n10, who, bad, fsl, bS, zb, zm, zs, rfl, hH399, hR, hBr, hM, hBs, hwho, hn⟩ := hn1
  refine CW.seq (CW.region rfl (W.val rfl rfl rfl (R.assign rfl rfl) (W.nil (EX.then_n ?_))))
  obtain ⟨I2, hI2⟩ : ∃ I : List (Nat × Value) → World → Prop, I = (fun D_ w_ => ∃ (ls : List GLine) (ok : Bool) (mm : List (Int × GField)) (bad2 : Int) (Al : Option Addr) (cl : Nat) (zb2 : PH) (zm2 : PH) (zs2 : PH) (zl2 : PH), D_ = [(8, .bool ok)] ∧ Has w0 w_ [zb2, zm2, zs2, zl2, zb7, y1, zb1, (hp w0)] ∧ (EndC (decFs b).1 ⟨[0, n1, n2, n3, n4, n5, n6, n7, n8, n9, n10], who, ls, false, ok⟩ (errC bad2 mm)) ∧ (Blk zb2 br1 138 [.map (some rm1), .int .i64 bad2]) ∧ (Mp kvI (VS kField y1) zm2 rm1 mm) ∧ (Own kLine 37 emp zl2 Al cl ls) ∧ (Blk zs2 bS 28 [.int .i64 n1, .int .i64 n2, .int .i64 n3, .int .i64 n4, .int .i64 n5, .slice Al ls.length cl, .int .i64 n6, .int .i64 n7, .int .i64 n8, .int .i64 n9, .int .i64 n10, .string who]) ∧ (ls.length ≤ 16)) := ⟨_, rfl⟩
  refine CW.mid [8, 9, 10, 11, 12, 48, 49, 50, 51, 52, 53, 54, 55, 56, 57, 58, 59, 60, 61, 62, 63, 64, 65, 66, 67, 68, 69, 70, 71, 72, 73] I2 ?_ ?_
  refine CW.seq (CW.region rfl (W.val rfl rfl rfl (R.move rfl rfl) (W.nil (EX.then_n (CW.block ?_)))))
  have hH400 := hH399.emp
  have hH401 := hH400.f3
  have hH402 := hH401.f3
  have hH403 := hH402.f3
  have hH404 := hH403.f7
  have hH405 := hH404.f7
  have hH406 := hH405.f7
  have hH407 := hH406.f7
  have hH408 := hH407.f7
  have hH409 := hH408.f7
  have hH410 := hH409.f7
  have hH411 := hH410.f7
  obtain ⟨I3, hI3⟩ : ∃ I : Nat → List (Nat × Value) → World → Prop, I = (fun n_ D_ w_ => ∃ (k : Nat) (ls : List GLine) (ok : Bool) (fsl : List GField) (bad : Int) (Al : Option Addr) (cl : Nat) (zb : PH) (zm : PH) (zs : PH) (zl : PH), D_ = [(48, .int .i64 (k : Int)), (8, .bool ok)] ∧ n_ = 16 - k ∧ Has w0 w_ [zb, zm, zs, zl, zb7, y1, zb1, (hp w0)] ∧ (k ≤ 16) ∧ (ls.length = k) ∧ (RelC (decFs b).1 (12 + (k : Int)) fsl ⟨[0, n1, n2, n3, n4, n5, n6, n7, n8, n9, n10], who, ls, false, ok⟩ bad) ∧ (Blk zb br1 138 [.map (some rm1), .int .i64 bad]) ∧ (Mp kvI (VS kField y1) zm rm1 (byTag fsl)) ∧ (Own kLine 37 emp zl Al cl ls) ∧ (Blk zs bS 28 [.int .i64 n1, .int .i64 n2, .int .i64 n3, .int .i64 n4, .int .i64 n5, .slice Al ls.length cl, .int .i64 n6, .int .i64 n7, .int .i64 n8, .int .i64 n9, .int .i64 n10, .string who])) := ⟨_, rfl⟩
  refine CW.loop3 [8, 9, 10, 11, 12, 48, 49, 50, 51, 52, 53, 54, 55, 56, 57, 58, 59, 60, 61, 62, 63, 64, 65, 66, 67, 68, 69, 70, 71, 72, 73] I3 _ _ ?_ (by rw [hI3]; exact ⟨0, [], true, _, _, none, 0, _, _, _, _, rfl, rfl, hH411, by omega, rfl, hR, hBr, hM, Own.nil _ _ _, hBs⟩) ?_
  exact ⟨lk_int rfl (by first | rfl | omega), rfl, trivial⟩
  intro n1 D w116 hn2
  rw [hI3] at hn2
  obtain ⟨k, ls, ok, fsl, bad, Al, cl, zb, zm, zs, zl, rfl, hme1, hH412, hk, hlk, hR, hBr, hM, hOl, hBs⟩ := hn2
  refine CW.seq (CW.region rfl (W.val rfl rfl rfl (R.lss rfl rfl rfl) (W.nil (EX.then_n (CW.seq ?_)))))
  refine CW.cond rfl (fun hc3 => ?_) (fun hc3 => ?_)
  replace hc3 := of_decide_eq_true hc3
  refine CW.skip (EX.then_n (CW.seq (CW.block (CW.seq (CW.region rfl (W.val rfl rfl rfl (R.move rfl rfl) (W.val rfl rfl rfl (R.assign rfl rfl) ?_)))))))
  refine W.nil (EX.then_n (CW.seq (CW.region rfl (W.ld0 rfl rfl rfl rfl rfl Try.pl82 hH412 m4 hB7 rfl (W.val rfl rfl rfl (R.move rfl rfl) (W.val rfl rfl rfl (R.addx rfl rfl rfl (ok_i64 (by omega))) ?_))))))
  have hH414 := hH412.f1
  have hH415 := hH414.f1
  refine W.call rfl rfl rfl rfl rfl Try.func36 Try.nm36 Try.bd36 (reader_Text _ _ _ _ hH415 hBr hM) ?_
  rintro _ w117 ⟨f78, m78, bad78, zb113, zm79, A13, c13, hT78, rfl, hl13, hr13, hH413, hB113, hM79⟩
  refine W.val rfl rfl rfl (R.assign rfl rfl) (W.nil (EX.then_n (CW.seq (CW.seq (CW.region rfl (W.val rfl rfl rfl (R.move rfl rfl) (W.val rfl rfl rfl (R.len_slice rfl rfl Try.underlying22) ?_)))))))
  refine W.val rfl rfl rfl (R.eql rfl rfl rfl) (W.nil (EX.then_n ?_))
  refine CW.cond rfl (fun hc4 => ?_) (fun hc4 => ?_)
  replace hc4 := of_decide_eq_true hc4
  refine CW.exit (EX.then_exit (EX.blk_other rfl (EX.then_exit (EX.then_exit (EX.blk_here ?_)))))
  have hH416 := hH413.f7
  have hH417 := hH416.f7
  have hH418 := hH417.f7
  have hH419 := hH418.f7
  have hH420 := hH419.f7
  have hH421 := hH420.f7
  have hH422 := hH421.f7
  have hH423 := hH422.f7
  have hH424 := hH423.upto8
  refine EX.mid _ rfl ?_ (by rw [hI2]; exact ⟨ls, ok, _, _, _, _, _, _, _, _, rfl, hH424, (hR.stop (by dsimp only; omega) (by omega) hT78 (List.length_eq_zero_iff.1 (by omega))), hB113, hM79, hOl, hBs, (by omega)⟩)
  exact ⟨rfl, trivial⟩
  replace hc4 := of_decide_eq_false hc4
  have hc_len := hc4
  refine CW.skip (EX.then_n (CW.seq (CW.region rfl (W.val rfl rfl rfl (R.move rfl rfl) (W.call rfl rfl rfl rfl rfl Try.func37 Try.nm37 Try.bd37 (canon_unline _ _ _ w117 hl13 (hr13.mono (hH413.le m5))) ?_)))))
  rintro v79 w118 ⟨cs01, rfl, hH425, hK01⟩
  have hH426 := hH413.c0 hH425
  have hK1 := hK01
  obtain ⟨rfl, hb1, hb2, hb3, hb4, hb5, hb6, hb7, hb8⟩ := hK1
  refine W.val rfl rfl rfl (R.move rfl rfl) (W.val rfl rfl rfl (R.extract rfl rfl rfl) (W.val rfl rfl rfl (R.extract rfl rfl rfl) ?_))
  refine W.alloc rfl rfl rfl rfl Try.zr37 rfl hH426 (fun b18 zb114 w119 hH427 hB114 => ?_)
  refine W.sg0 rfl rfl rfl rfl rfl Try.sz37 rfl (by rfl) hH427 hB114 (fun zb115 w120 hH428 hB115 => ?_)
  refine W.val rfl rfl rfl (R.assign rfl rfl) (W.nil (EX.then_n (CW.seq (CW.region rfl (W.val rfl rfl rfl (R.move rfl rfl) (W.val rfl rfl rfl (R.move rfl rfl) ?_))))))
  refine W.split (d := 64) rfl (fun hc5 => ?_) (fun hc5 => ?_)
  try subst hc5
  refine W.val rfl rfl rfl (R.move rfl rfl) (W.val rfl rfl rfl (R.pick_t rfl rfl rfl) (W.val rfl rfl rfl (R.assign rfl rfl) (W.nil (EX.then_n (CW.region rfl (W.val rfl rfl rfl (R.fa0 5 rfl rfl Try.underlying28 rfl Try.sz26 rfl) (W.ldk rfl rfl rfl rfl rfl Try.pl26 hH428 m3 hBs rfl ?_)))))))
  refine W.lg0 rfl rfl rfl rfl rfl Try.pl37 (by rw [Try.underlying37]; rfl) (by exact Try.sz37) hH428 m0 hB115 ?_
  refine W.bs rfl rfl rfl rfl rfl Try.underlying26 Try.inf37 (by decide) rfl rfl hH428 (fun b19 zb116 w121 hH429 hB116 => ?_)
  have hH430 := hH429.f5
  refine W.app1 (_) rfl rfl rfl rfl rfl rfl rfl Try.underlying26 Try.inf37 rfl hH430 hB116 hOl (hK01.mono (emp_le _)) (by decide) (by omega) (fun A14 c14 z3 w122 hH431 hO1 => ?_)
  refine W.val rfl rfl rfl (R.fa0 5 rfl rfl Try.underlying28 rfl Try.sz26 rfl) ?_
  have hH432 := hH431.f4
  refine W.storeLoc rfl rfl rfl rfl rfl Try.sz26 rfl (Nat.le_of_ble_eq_true rfl) hH432 hBs (fun zb117 w123 hH433 hB117 => ?_)
  refine W.nil (EX.blk_n (EX.then_n (CW.region rfl (W.val rfl rfl rfl (R.addx rfl rfl rfl (ok_i64 (by omega))) (W.val rfl rfl rfl (R.move rfl rfl) (W.nil ?_))))))
  have hH434 := hH433.f8
  have hH435 := hH434.f8
  have hH436 := hH435.f8
  have hH437 := hH436.f8
  have hH438 := hH437.f5
  have hH439 := hH438.f5
  have hH440 := hH439.f8
  have hH441 := hH440.f8
  have hH442 := hH441.upto8
  obtain ⟨fsn, hmn, hRn⟩ := hR.line (by dsimp only; omega) (by omega) hT78 (fun hn => by rw [hn] at hc_len; simp at hc_len)
  subst hmn
  refine EX.back4 _ _ rfl ?_ (by rw [hI3]; exact ⟨k + 1, ls ++ [(lineS f78.Bytes).1], (lineS f78.Bytes).2, _, _, _, _, _, _, _, _, rfl, rfl, hH442, by omega, (by simp only [List.length_append, List.length_singleton]; omega), (by rw [show (12 : Int) + ((k + 1 : Nat) : Int) = 12 + (k : Int) + 1 by omega]; exact hRn), hB113, hM79, hO1, hB117⟩) ?_
  exact ⟨lk_int rfl (by first | rfl | omega), rfl, trivial⟩
  omega
  try subst hc5
  refine W.off rfl rfl rfl (W.val rfl rfl rfl (R.pick_f rfl rfl rfl) (W.val rfl rfl rfl (R.assign rfl rfl) (W.nil (EX.then_n (CW.region rfl (W.val rfl rfl rfl (R.fa0 5 rfl rfl Try.underlying28 rfl Try.sz26 rfl) (W.ldk rfl rfl rfl rfl rfl Try.pl26 hH428 m3 hBs rfl ?_)))))))
  refine W.lg0 rfl rfl rfl rfl rfl Try.pl37 (by rw [Try.underlying37]; rfl) (by exact Try.sz37) hH428 m0 hB115 ?_
  refine W.bs rfl rfl rfl rfl rfl Try.underlying26 Try.inf37 (by decide) rfl rfl hH428 (fun b20 zb118 w124 hH443 hB118 => ?_)
  have hH444 := hH443.f5
  refine W.app1 (_) rfl rfl rfl rfl rfl rfl rfl Try.underlying26 Try.inf37 rfl hH444 hB118 hOl (hK01.mono (emp_le _)) (by decide) (by omega) (fun A15 c15 z4 w125 hH445 hO2 => ?_)
  refine W.val rfl rfl rfl (R.fa0 5 rfl rfl Try.underlying28 rfl Try.sz26 rfl) ?_
  have hH446 := hH445.f4
  refine W.storeLoc rfl rfl rfl rfl rfl Try.sz26 rfl (Nat.le_of_ble_eq_true rfl) hH446 hBs (fun zb119 w126 hH447 hB119 => ?_)
  refine W.nil (EX.blk_n (EX.then_n (CW.region rfl (W.val rfl rfl rfl (R.addx rfl rfl rfl (ok_i64 (by omega))) (W.val rfl rfl rfl (R.move rfl rfl) (W.nil ?_))))))
  have hH448 := hH447.f8
  have hH449 := hH448.f8
  have hH450 := hH449.f8
  have hH451 := hH450.f8
  have hH452 := hH451.f5
  have hH453 := hH452.f5
  have hH454 := hH453.f8
  have hH455 := hH454.f8
  have hH456 := hH455.upto8
  obtain ⟨fsn, hmn, hRn⟩ := hR.line (by dsimp only; omega) (by omega) hT78 (fun hn => by rw [hn] at hc_len; simp at hc_len)
  subst hmn
  refine EX.back4 _ _ rfl ?_ (by rw [hI3]; exact ⟨k + 1, ls ++ [(lineS f78.Bytes).1], false, _, _, _, _, _, _, _, _, rfl, rfl, hH456, by omega, (by simp only [List.length_append, List.length_singleton]; omega), (by rw [show (12 : Int) + ((k + 1 : Nat) : Int) = 12 + (k : Int) + 1 by omega]; exact hRn), hB113, hM79, hO2, hB119⟩) ?_
  exact ⟨lk_int rfl (by first | rfl | omega), rfl, trivial⟩
  omega
  replace hc3 := of_decide_eq_false hc3
  refine CW.exit (EX.then_exit (EX.then_exit (EX.blk_here ?_)))
  have hH457 := hH412.f7
  have hH458 := hH457.f7
  have hH459 := hH458.f7
  have hH460 := hH459.f7
  have hH461 := hH460.f7
  have hH462 := hH461.f7
  have hH463 := hH462.f7
  have hH464 := hH463.f7
  have hH465 := hH464.upto8
  refine EX.mid _ rfl ?_ (by rw [hI2]; exact ⟨ls, ok, _, _, _, _, _, _, _, _, rfl, hH465, (hR.last (by omega) (.inl (by omega))), hBr, hM, hOl, hBs, (by omega)⟩)
  exact ⟨rfl, trivial⟩
  intro D w127 hn3
  rw [hI2] at hn3
  obtain ⟨ls, ok, mm, bad2, Al, cl, zb2, zm2, zs2, zl2, rfl, hH466, hE, hBr2, hM2, hOl2, hBs2, hll2⟩ := hn3
  refine CW.seq (CW.seq (CW.region rfl (W.ld0 rfl rfl rfl rfl rfl Try.pl82 hH466 m4 hB7 rfl ?_)))
  have hH468 := hH466.f1
  have hH469 := hH468.f1
  refine W.call rfl rfl rfl rfl rfl Try.func38 Try.nm38 Try.bd38 (reader_Err _ _ _ hH469 hBr2 hM2) ?_
  rintro _ w128 ⟨rfl, hH467⟩
  refine W.val rfl rfl rfl (R.assign rfl rfl) (W.nil (EX.then_n (CW.seq (CW.region rfl (W.val rfl rfl rfl (R.move rfl rfl) (W.val rfl rfl rfl (R.neq rfl rfl rfl) (W.nil ?_)))))))
  refine EX.then_n ?_
  refine CW.cond rfl (fun hc6 => ?_) (fun hc6 => ?_)
  replace hc6 := of_ndec_t hc6
  have hc_err := hc6
  refine CW.seq (CW.region rfl (W.val rfl rfl rfl (R.build rfl rfl Try.zr28 rfl (by rw [Try.underlying28]; rfl) Try.plc28 rfl) (W.val rfl rfl rfl (R.move rfl rfl) ?_)))
  have hH470 := hH467.f6
  refine W.sg0 rfl rfl rfl rfl rfl Try.sz28 rfl (by rfl) hH470 hB1 (fun zb120 w129 hH471 hB120 => ?_)
  refine W.val rfl rfl rfl (R.assign rfl rfl) (W.nil (EX.then_n (CW.ret (EX.then_ret (EX.retV Try.results10 (.cons (.agg rfl (fun w => run_isAgg_struct Try.underlying28 w) (by exact Try.sz28) (fun k u hk => hH471.cell m0 (hB120.at_ k u hk))) (.cons (.tmp rfl) RVs.nil)) ?_)))))
  have hH472 := hH471.emp
  have hH473 := hH472.f8
  have hH474 := hH473.f1
  have hH475 := hH474.upto2
  rw [decS_end (by omega) hE hc_err]
  refine ⟨_, _, _, ?_, hH475, (Own.nil _ _ _), ⟨⟨by first | omega | decide | (dsimp only; omega), by first | omega | decide | (dsimp only; omega)⟩, ⟨by first | omega | decide | (dsimp only; omega), by first | omega | decide | (dsimp only; omega)⟩, ⟨by first | omega | decide | (dsimp only; omega), by first | omega | decide | (dsimp only; omega)⟩, ⟨by first | omega | decide | (dsimp only; omega), by first | omega | decide | (dsimp only; omega)⟩, ⟨by first | omega | decide | (dsimp only; omega), by first | omega | decide | (dsimp only; omega)⟩, ⟨by first | omega | decide | (dsimp only; omega), by first | omega | decide | (dsimp only; omega)⟩, ⟨by first | omega | decide | (dsimp only; omega), by first | omega | decide | (dsimp only; omega)⟩, ⟨by first | omega | decide | (dsimp only; omega), by first | omega | decide | (dsimp only; omega)⟩, ⟨by first | omega | decide | (dsimp only; omega), by first | omega | decide | (dsimp only; omega)⟩, ⟨by first | omega | decide | (dsimp only; omega), by first | omega | decide | (dsimp only; omega)⟩, (Nat.le_of_ble_eq_true rfl)⟩⟩
  rfl
  replace hc6 := of_ndec_f hc6
  have hc_err := hc6
  refine CW.skip (EX.then_n (CW.seq (CW.seq (CW.region rfl (W.val rfl rfl rfl (R.move rfl rfl) (W.val rfl rfl rfl (R.not rfl rfl) (W.val rfl rfl rfl (R.move rfl rfl) ?_)))))))
  refine W.split (d := 82) rfl (fun hc7 => ?_) (fun hc7 => ?_)
  replace hc7 := of_not_t hc7
  try subst hc7
  refine W.off rfl rfl rfl (W.off rfl rfl rfl (W.off rfl rfl rfl (W.val rfl rfl rfl (R.pick_t rfl rfl rfl) (W.nil (EX.then_n (CW.cond_t rfl (CW.seq ?_)))))))
  refine CW.region rfl (W.val rfl rfl rfl (R.build rfl rfl Try.zr28 rfl (by rw [Try.underlying28]; rfl) Try.plc28 rfl) ?_)
  have hH476 := hH467.f6
  refine W.sg0 rfl rfl rfl rfl rfl Try.sz28 rfl (by rfl) hH476 hB1 (fun zb121 w130 hH477 hB121 => ?_)
  refine W.val rfl rfl rfl (R.assign rfl rfl) (W.nil (EX.then_n (CW.ret (EX.then_ret (EX.retV Try.results10 (.cons (.agg rfl (fun w => run_isAgg_struct Try.underlying28 w) (by exact Try.sz28) (fun k u hk => hH477.cell m0 (hB121.at_ k u hk))) (.cons (.tmp rfl) RVs.nil)) ?_)))))
  have hH478 := hH477.emp
  have hH479 := hH478.f8
  have hH480 := hH479.f1
  have hH481 := hH480.upto2
  have hd : decS b = (zeroS, 40) := decS_bad (by omega) (decS_good hE hc_err) rfl (by intro h; simp_all [stateD, nth])
  rw [hd]
  refine ⟨_, _, _, ?_, hH481, (Own.nil _ _ _), ⟨⟨by first | omega | decide | (dsimp only; omega), by first | omega | decide | (dsimp only; omega)⟩, ⟨by first | omega | decide | (dsimp only; omega), by first | omega | decide | (dsimp only; omega)⟩, ⟨by first | omega | decide | (dsimp only; omega), by first | omega | decide | (dsimp only; omega)⟩, ⟨by first | omega | decide | (dsimp only; omega), by first | omega | decide | (dsimp only; omega)⟩, ⟨by first | omega | decide | (dsimp only; omega), by first | omega | decide | (dsimp only; omega)⟩, ⟨by first | omega | decide | (dsimp only; omega), by first | omega | decide | (dsimp only; omega)⟩, ⟨by first | omega | decide | (dsimp only; omega), by first | omega | decide | (dsimp only; omega)⟩, ⟨by first | omega | decide | (dsimp only; omega), by first | omega | decide | (dsimp only; omega)⟩, ⟨by first | omega | decide | (dsimp only; omega), by first | omega | decide | (dsimp only; omega)⟩, ⟨by first | omega | decide | (dsimp only; omega), by first | omega | decide | (dsimp only; omega)⟩, (Nat.le_of_ble_eq_true rfl)⟩⟩
  rfl
  replace hc7 := of_not_f hc7
  try subst hc7
  refine W.lg0 rfl rfl rfl rfl rfl Try.pl28 (by rw [Try.underlying28]; rfl) (by exact Try.sz28) hH467 m2 hBs2 ?_
  refine W.call rfl rfl rfl rfl rfl Try.func39 Try.nm39 Try.bd39 (order_Valid (⟨_, _, _, _, _, _, _, _, _, _, _, _⟩ : GState) _ w128 ⟨_, _, rfl, (by first | omega | decide | (dsimp only [GField.none]; omega)), (by first | omega | decide | (dsimp only [GField.none]; omega)), (by first | omega | decide | (dsimp only [GField.none]; omega)), (by first | omega | decide | (dsimp only [GField.none]; omega)), (by first | omega | decide | (dsimp only [GField.none]; omega)), (by first | omega | decide | (dsimp only [GField.none]; omega)), (by first | omega | decide | (dsimp only [GField.none]; omega)), (by first | omega | decide | (dsimp only [GField.none]; omega)), (by first | omega | decide | (dsimp only [GField.none]; omega)), (by first | omega | decide | (dsimp only [GField.none]; omega)), (by first | omega | decide | (dsimp only [GField.none]; omega)), (by first | omega | decide | (dsimp only [GField.none]; omega)), (by first | omega | decide | (dsimp only [GField.none]; omega)), (by first | omega | decide | (dsimp only [GField.none]; omega)), (by first | omega | decide | (dsimp only [GField.none]; omega)), (by first | omega | decide | (dsimp only [GField.none]; omega)), (by first | omega | decide | (dsimp only [GField.none]; omega)), (by first | omega | decide | (dsimp only [GField.none]; omega)), (by first | omega | decide | (dsimp only [GField.none]; omega)), (by first | omega | decide | (dsimp only [GField.none]; omega)), hwho, hOl2.cap, (hOl2.row (hH467.le m3) (emp_le _))⟩) ?_
  rintro v81 w131 ⟨rfl, hH482⟩
  have hH483 := hH467.c0 hH482
  refine W.val rfl rfl rfl (R.not rfl rfl) (W.val rfl rfl rfl (R.pick_f rfl rfl rfl) (W.nil (EX.then_n ?_)))
  refine CW.cond rfl (fun hc8 => ?_) (fun hc8 => ?_)
  replace hc8 := of_not_t hc8
  try subst hc8
  refine CW.seq (CW.region rfl (W.val rfl rfl rfl (R.build rfl rfl Try.zr28 rfl (by rw [Try.underlying28]; rfl) Try.plc28 rfl) ?_))
  have hH484 := hH483.f6
  refine W.sg0 rfl rfl rfl rfl rfl Try.sz28 rfl (by rfl) hH484 hB1 (fun zb122 w132 hH485 hB122 => ?_)
  refine W.val rfl rfl rfl (R.assign rfl rfl) (W.nil (EX.then_n (CW.ret (EX.then_ret (EX.retV Try.results10 (.cons (.agg rfl (fun w => run_isAgg_struct Try.underlying28 w) (by exact Try.sz28) (fun k u hk => hH485.cell m0 (hB122.at_ k u hk))) (.cons (.tmp rfl) RVs.nil)) ?_)))))
  have hH486 := hH485.emp
  have hH487 := hH486.f8
  have hH488 := hH487.f1
  have hH489 := hH488.upto2
  have hd : decS b = (zeroS, 40) := decS_bad (by omega) (decS_good hE hc_err) rfl (by intro h; simp_all [stateD, nth])
  rw [hd]
  refine ⟨_, _, _, ?_, hH489, (Own.nil _ _ _), ⟨⟨by first | omega | decide | (dsimp only; omega), by first | omega | decide | (dsimp only; omega)⟩, ⟨by first | omega | decide | (dsimp only; omega), by first | omega | decide | (dsimp only; omega)⟩, ⟨by first | omega | decide | (dsimp only; omega), by first | omega | decide | (dsimp only; omega)⟩, ⟨by first | omega | decide | (dsimp only; omega), by first | omega | decide | (dsimp only; omega)⟩, ⟨by first | omega | decide | (dsimp only; omega), by first | omega | decide | (dsimp only; omega)⟩, ⟨by first | omega | decide | (dsimp only; omega), by first | omega | decide | (dsimp only; omega)⟩, ⟨by first | omega | decide | (dsimp only; omega), by first | omega | decide | (dsimp only; omega)⟩, ⟨by first | omega | decide | (dsimp only; omega), by first | omega | decide | (dsimp only; omega)⟩, ⟨by first | omega | decide | (dsimp only; omega), by first | omega | decide | (dsimp only; omega)⟩, ⟨by first | omega | decide | (dsimp only; omega), by first | omega | decide | (dsimp only; omega)⟩, (Nat.le_of_ble_eq_true rfl)⟩⟩
  rfl
  replace hc8 := of_not_f hc8
  try subst hc8
  refine CW.skip (EX.then_n (CW.seq (CW.region rfl (W.lg0 rfl rfl rfl rfl rfl Try.pl28 (by rw [Try.underlying28]; rfl) (by exact Try.sz28) hH483 m2 hBs2 ?_))))
  have hH490 := hH483.f6
  refine W.sg0 rfl rfl rfl rfl rfl Try.sz28 rfl (by rfl) hH490 hB1 (fun zb123 w133 hH491 hB123 => ?_)
  refine W.val rfl rfl rfl (R.assign rfl rfl) (W.nil (EX.then_n (CW.ret (EX.retV Try.results10 (.cons (.agg rfl (fun w => run_isAgg_struct Try.underlying28 w) (by exact Try.sz28) (fun k u hk => hH491.cell m0 (hB123.at_ k u hk))) (.cons (.tmp rfl) RVs.nil)) ?_))))
  have hH492 := hH491.f7
  have hH493 := hH492.f5
  have hH494 := hH493.upto2
  have hd : decS b = (⟨n1, n2, n3, n4, n5, ls, n6, n7, n8, n9, n10, who⟩, 0) := decS_ok (by omega) (decS_good hE hc_err) rfl ⟨by simp_all, by assumption⟩
  rw [hd]
  refine ⟨_, _, _, ?_, hH494, hOl2, ⟨⟨by first | omega | decide | (dsimp only; omega), by first | omega | decide | (dsimp only; omega)⟩, ⟨by first | omega | decide | (dsimp only; omega), by first | omega | decide | (dsimp only; omega)⟩, ⟨by first | omega | decide | (dsimp only; omega), by first | omega | decide | (dsimp only; omega)⟩, ⟨by first | omega | decide | (dsimp only; omega), by first | omega | decide | (dsimp only; omega)⟩, ⟨by first | omega | decide | (dsimp only; omega), by first | omega | decide | (dsimp only; omega)⟩, ⟨by first | omega | decide | (dsimp only; omega), by first | omega | decide | (dsimp only; omega)⟩, ⟨by first | omega | decide | (dsimp only; omega), by first | omega | decide | (dsimp only; omega)⟩, ⟨by first | omega | decide | (dsimp only; omega), by first | omega | decide | (dsimp only; omega)⟩, ⟨by first | omega | decide | (dsimp only; omega), by first | omega | decide | (dsimp only; omega)⟩, ⟨by first | omega | decide | (dsimp only; omega), by first | omega | decide | (dsimp only; omega)⟩, hwho⟩⟩
  rfl

end Go.Proofs.Gw
namespace Go.Proofs.Gw
open Go Go.Gw Go.Proofs Go.RowKit
set_option maxRecDepth 100000 in
set_option maxHeartbeats 1000000 in
theorem tlv_check (f : GField) (csf : List Value) (last : Int) (w0 : World) (hf : kField.K (hp w0) f csf) : Calls Try.prog 123 #[.agg csf.toArray, .int .i64 last] w0 (Ret fun v w' => v = .int .i64 (checkF f last) ∧ Has w0 w' [hp w0]) := by
  refine fnstart (N := 45) Try.func123 rfl Try.ntmps123 (Nat.le_of_ble_eq_true rfl) ?_
  have hH0 : Has w0 w0 [hp w0] := Has.refl w0
  have hK1 := hf
  obtain ⟨A1, c1, rfl, hb1, hb2, hb3, hb4, hl1, hr1⟩ := hK1
  have hlen1 := hr1.len
  refine CW.seq (CW.region rfl ?_)
  refine W.box rfl rfl rfl rfl rfl rfl hH0 (fun b1 zb1 w1 hH1 hB1 => ?_)
  refine W.val rfl rfl rfl (R.assign rfl rfl) (W.nil (EX.then_n (CW.seq (CW.block (CW.seq (CW.region rfl (W.val rfl rfl rfl (R.fa0 0 rfl rfl Try.underlying77 rfl Try.sz3 rfl) ?_)))))))
  refine W.ldk rfl rfl rfl rfl rfl Try.pl3 hH1 m0 hB1 rfl (W.val rfl rfl rfl (R.lss rfl rfl rfl) (W.val rfl rfl rfl (R.move rfl rfl) ?_))
  refine W.split (d := 9) rfl (fun hc1 => ?_) (fun hc1 => ?_)
  replace hc1 := of_decide_eq_true hc1
  refine W.off rfl rfl rfl (W.off rfl rfl rfl (W.off rfl rfl rfl (W.val rfl rfl rfl (R.pick_t rfl rfl rfl) (W.val rfl rfl rfl (R.assign rfl rfl) (W.nil (EX.then_n (CW.cond_t rfl ?_)))))))
  refine CW.seq (CW.region rfl (W.val rfl rfl rfl (R.assign rfl rfl) (W.nil (EX.then_n (CW.ret (EX.blk_ret (EX.then_ret ?_)))))))
  refine EX.ret1 Try.results123 rfl ?_
  have hH2 := hH1.f1
  have hH3 := hH2.upto1
  refine ⟨?_, hH3⟩
  refine vint ?_
  unfold checkF
  grind
  replace hc1 := of_decide_eq_false hc1
  refine W.val rfl rfl rfl (R.fa0 0 rfl rfl Try.underlying77 rfl Try.sz3 rfl) (W.ldk rfl rfl rfl rfl rfl Try.pl3 hH1 m0 hB1 rfl (W.val rfl rfl rfl (R.gtr rfl rfl rfl) (W.val rfl rfl rfl (R.pick_f rfl rfl rfl) (W.val rfl rfl rfl (R.assign rfl rfl) (W.nil (EX.then_n ?_))))))
  refine CW.cond rfl (fun hc2 => ?_) (fun hc2 => ?_)
  replace hc2 := of_decide_eq_true hc2
  refine CW.seq (CW.region rfl (W.val rfl rfl rfl (R.assign rfl rfl) (W.nil (EX.then_n (CW.ret (EX.blk_ret (EX.then_ret ?_)))))))
  refine EX.ret1 Try.results123 rfl ?_
  have hH4 := hH1.f1
  have hH5 := hH4.upto1
  refine ⟨?_, hH5⟩
  refine vint ?_
  unfold checkF
  grind
  replace hc2 := of_decide_eq_false hc2
  refine CW.seq (CW.region rfl (W.val rfl rfl rfl (R.fa0 0 rfl rfl Try.underlying77 rfl Try.sz3 rfl) (W.ldk rfl rfl rfl rfl rfl Try.pl3 hH1 m0 hB1 rfl (W.val rfl rfl rfl (R.move rfl rfl) (W.val rfl rfl rfl (R.leq rfl rfl rfl) (W.val rfl rfl rfl (R.assign rfl rfl) (W.nil ?_)))))))
  refine EX.then_n ?_
  refine CW.cond rfl (fun hc3 => ?_) (fun hc3 => ?_)
  replace hc3 := of_decide_eq_true hc3
  refine CW.seq (CW.region rfl (W.val rfl rfl rfl (R.assign rfl rfl) (W.nil (EX.then_n (CW.ret (EX.blk_ret (EX.then_ret ?_)))))))
  refine EX.ret1 Try.results123 rfl ?_
  have hH6 := hH1.f1
  have hH7 := hH6.upto1
  refine ⟨?_, hH7⟩
  refine vint ?_
  unfold checkF
  grind
  replace hc3 := of_decide_eq_false hc3
  refine CW.seq (CW.seq (CW.region rfl (W.val rfl rfl rfl (R.fa0 1 rfl rfl Try.underlying77 rfl Try.sz4 rfl) (W.ldk rfl rfl rfl rfl rfl Try.pl4 hH1 m0 hB1 rfl (W.val rfl rfl rfl (R.move rfl rfl) ?_)))))
  refine W.split (d := 22) rfl (fun hc4 => ?_) (fun hc4 => ?_)
  try subst hc4
  refine W.val rfl rfl rfl (R.fa0 3 rfl rfl Try.underlying77 rfl Try.sz22 rfl) (W.ldk rfl rfl rfl rfl rfl Try.pl22 hH1 m0 hB1 rfl (W.val rfl rfl rfl (R.len_slice rfl rfl Try.underlying22) (W.val rfl rfl rfl (R.eql rfl rfl rfl) (W.val rfl rfl rfl (R.pick_t rfl rfl rfl) (W.val rfl rfl rfl (R.assign rfl rfl) (W.nil (EX.then_n ?_)))))))
  refine CW.cond rfl (fun hc5 => ?_) (fun hc5 => ?_)
  replace hc5 := of_decide_eq_true hc5
  refine CW.skip (EX.then_n ?_)
  refine CW.cond rfl (fun hc6 => ?_) (fun hc6 => ?_)
  replace hc6 := of_decide_eq_true hc6
  refine CW.seq (CW.region rfl (W.val rfl rfl rfl (R.assign rfl rfl) (W.nil (EX.then_n (CW.ret (EX.blk_ret (EX.then_ret ?_)))))))
  refine EX.ret1 Try.results123 rfl ?_
  have hH8 := hH1.f1
  have hH9 := hH8.upto1
  refine ⟨?_, hH9⟩
  refine vint ?_
  unfold checkF
  grind
  replace hc6 := of_decide_eq_false hc6
  refine CW.seq (CW.region rfl (W.val rfl rfl rfl (R.fa0 1 rfl rfl Try.underlying77 rfl Try.sz4 rfl) (W.ldk rfl rfl rfl rfl rfl Try.pl4 hH1 m0 hB1 rfl (W.val rfl rfl rfl (R.move rfl rfl) ?_))))
  refine W.split (d := 39) rfl (fun hc7 => ?_) (fun hc7 => ?_)
  try subst hc7
  refine W.val rfl rfl rfl (R.fa0 3 rfl rfl Try.underlying77 rfl Try.sz22 rfl) (W.ldk rfl rfl rfl rfl rfl Try.pl22 hH1 m0 hB1 rfl (W.val rfl rfl rfl (R.len_slice rfl rfl Try.underlying22) (W.val rfl rfl rfl (R.gtr rfl rfl rfl) (W.val rfl rfl rfl (R.pick_t rfl rfl rfl) (W.val rfl rfl rfl (R.assign rfl rfl) (W.nil (EX.then_n ?_)))))))
  refine CW.cond rfl (fun hc8 => ?_) (fun hc8 => ?_)
  replace hc8 := of_decide_eq_true hc8
  refine CW.seq (CW.region rfl (W.val rfl rfl rfl (R.assign rfl rfl) (W.nil (EX.then_n (CW.ret (EX.blk_ret (EX.then_ret ?_)))))))
  refine EX.ret1 Try.results123 rfl ?_
  have hH10 := hH1.f1
  have hH11 := hH10.upto1
  refine ⟨?_, hH11⟩
  refine vint ?_
  unfold checkF
  grind
  replace hc8 := of_decide_eq_false hc8
  refine CW.skip (EX.blk_n (EX.then_n (CW.seq (CW.region rfl (W.val rfl rfl rfl (R.assign rfl rfl) (W.nil (EX.then_n ?_)))))))
  refine CW.ret (EX.ret1 Try.results123 rfl ?_)
  have hH12 := hH1.f1
  have hH13 := hH12.upto1
  refine ⟨?_, hH13⟩
  refine vint ?_
  unfold checkF
  grind
  try subst hc7
  refine W.off rfl rfl rfl (W.off rfl rfl rfl (W.off rfl rfl rfl (W.off rfl rfl rfl (W.val rfl rfl rfl (R.pick_f rfl rfl rfl) (W.val rfl rfl rfl (R.assign rfl rfl) (W.nil (EX.then_n ?_)))))))
  refine CW.cond_f rfl (CW.skip (EX.blk_n (EX.then_n (CW.seq (CW.region rfl (W.val rfl rfl rfl (R.assign rfl rfl) (W.nil ?_)))))))
  refine EX.then_n (CW.ret (EX.ret1 Try.results123 rfl ?_))
  have hH14 := hH1.f1
  have hH15 := hH14.upto1
  refine ⟨?_, hH15⟩
  refine vint ?_
  unfold checkF
  grind
  replace hc5 := of_decide_eq_false hc5
  refine CW.region rfl (W.val rfl rfl rfl (R.fa0 1 rfl rfl Try.underlying77 rfl Try.sz4 rfl) (W.ldk rfl rfl rfl rfl rfl Try.pl4 hH1 m0 hB1 rfl (W.val rfl rfl rfl (R.not rfl rfl) (W.val rfl rfl rfl (R.move rfl rfl) ?_))))
  refine W.split (d := 31) rfl (fun hc9 => ?_) (fun hc9 => ?_)
  replace hc9 := of_not_t hc9
  try subst hc9
  refine W.val rfl rfl rfl (R.fa0 2 rfl rfl Try.underlying77 rfl Try.sz75 rfl) (W.ldk rfl rfl rfl rfl rfl Try.pl75 hH1 m0 hB1 rfl (W.val rfl rfl rfl (R.eql rfl rfl rfl) (W.val rfl rfl rfl (R.pick_t rfl rfl rfl) (W.val rfl rfl rfl (R.assign rfl rfl) (W.nil (EX.then_n ?_))))))
  refine CW.cond rfl (fun hc10 => ?_) (fun hc10 => ?_)
  replace hc10 := of_decide_eq_true hc10
  refine CW.seq (CW.region rfl (W.val rfl rfl rfl (R.assign rfl rfl) (W.nil (EX.then_n (CW.ret (EX.blk_ret (EX.then_ret ?_)))))))
  refine EX.ret1 Try.results123 rfl ?_
  have hH16 := hH1.f1
  have hH17 := hH16.upto1
  refine ⟨?_, hH17⟩
  refine vint ?_
  unfold checkF
  grind
  replace hc10 := of_decide_eq_false hc10
  refine CW.seq (CW.region rfl (W.val rfl rfl rfl (R.fa0 1 rfl rfl Try.underlying77 rfl Try.sz4 rfl) (W.ldk rfl rfl rfl rfl rfl Try.pl4 hH1 m0 hB1 rfl (W.val rfl rfl rfl (R.move rfl rfl) ?_))))
  refine W.split (d := 39) rfl (fun hc11 => ?_) (fun hc11 => ?_)
  try subst hc11
  refine W.val rfl rfl rfl (R.fa0 3 rfl rfl Try.underlying77 rfl Try.sz22 rfl) (W.ldk rfl rfl rfl rfl rfl Try.pl22 hH1 m0 hB1 rfl (W.val rfl rfl rfl (R.len_slice rfl rfl Try.underlying22) (W.val rfl rfl rfl (R.gtr rfl rfl rfl) (W.val rfl rfl rfl (R.pick_t rfl rfl rfl) (W.val rfl rfl rfl (R.assign rfl rfl) (W.nil (EX.then_n ?_)))))))
  refine CW.cond rfl (fun hc12 => ?_) (fun hc12 => ?_)
  replace hc12 := of_decide_eq_true hc12
  refine CW.seq (CW.region rfl (W.val rfl rfl rfl (R.assign rfl rfl) (W.nil (EX.then_n (CW.ret (EX.blk_ret (EX.then_ret ?_)))))))
  refine EX.ret1 Try.results123 rfl ?_
  have hH18 := hH1.f1
  have hH19 := hH18.upto1
  refine ⟨?_, hH19⟩
  refine vint ?_
  unfold checkF
  grind
  replace hc12 := of_decide_eq_false hc12
  refine CW.skip (EX.blk_n (EX.then_n (CW.seq (CW.region rfl (W.val rfl rfl rfl (R.assign rfl rfl) (W.nil (EX.then_n ?_)))))))
  refine CW.ret (EX.ret1 Try.results123 rfl ?_)
  have hH20 := hH1.f1
  have hH21 := hH20.upto1
  refine ⟨?_, hH21⟩
  refine vint ?_
  unfold checkF
  grind
  try subst hc11
  refine W.off rfl rfl rfl (W.off rfl rfl rfl (W.off rfl rfl rfl (W.off rfl rfl rfl (W.val rfl rfl rfl (R.pick_f rfl rfl rfl) (W.val rfl rfl rfl (R.assign rfl rfl) (W.nil (EX.then_n ?_)))))))
  refine CW.cond_f rfl (CW.skip (EX.blk_n (EX.then_n (CW.seq (CW.region rfl (W.val rfl rfl rfl (R.assign rfl rfl) (W.nil ?_)))))))
  refine EX.then_n (CW.ret (EX.ret1 Try.results123 rfl ?_))
  have hH22 := hH1.f1
  have hH23 := hH22.upto1
  refine ⟨?_, hH23⟩
  refine vint ?_
  unfold checkF
  grind
  replace hc9 := of_not_f hc9
  try subst hc9
  refine W.off rfl rfl rfl (W.off rfl rfl rfl (W.off rfl rfl rfl (W.val rfl rfl rfl (R.pick_f rfl rfl rfl) (W.val rfl rfl rfl (R.assign rfl rfl) (W.nil (EX.then_n (CW.cond_f rfl ?_)))))))
  refine CW.seq (CW.region rfl (W.val rfl rfl rfl (R.fa0 1 rfl rfl Try.underlying77 rfl Try.sz4 rfl) (W.ldk rfl rfl rfl rfl rfl Try.pl4 hH1 m0 hB1 rfl (W.val rfl rfl rfl (R.move rfl rfl) ?_))))
  refine W.split (d := 39) rfl (fun hc13 => ?_) (fun hc13 => ?_)
  try subst hc13
  refine W.val rfl rfl rfl (R.fa0 3 rfl rfl Try.underlying77 rfl Try.sz22 rfl) (W.ldk rfl rfl rfl rfl rfl Try.pl22 hH1 m0 hB1 rfl (W.val rfl rfl rfl (R.len_slice rfl rfl Try.underlying22) (W.val rfl rfl rfl (R.gtr rfl rfl rfl) (W.val rfl rfl rfl (R.pick_t rfl rfl rfl) (W.val rfl rfl rfl (R.assign rfl rfl) (W.nil (EX.then_n ?_)))))))
  refine CW.cond rfl (fun hc14 => ?_) (fun hc14 => ?_)
  replace hc14 := of_decide_eq_true hc14
  refine CW.seq (CW.region rfl (W.val rfl rfl rfl (R.assign rfl rfl) (W.nil (EX.then_n (CW.ret (EX.blk_ret (EX.then_ret ?_)))))))
  refine EX.ret1 Try.results123 rfl ?_
  have hH24 := hH1.f1
  have hH25 := hH24.upto1
  refine ⟨?_, hH25⟩
  refine vint ?_
  unfold checkF
  grind
  replace hc14 := of_decide_eq_false hc14
  refine CW.skip (EX.blk_n (EX.then_n (CW.seq (CW.region rfl (W.val rfl rfl rfl (R.assign rfl rfl) (W.nil (EX.then_n ?_)))))))
  refine CW.ret (EX.ret1 Try.results123 rfl ?_)
  have hH26 := hH1.f1
  have hH27 := hH26.upto1
  refine ⟨?_, hH27⟩
  refine vint ?_
  unfold checkF
  grind
  try subst hc13
  refine W.off rfl rfl rfl (W.off rfl rfl rfl (W.off rfl rfl rfl (W.off rfl rfl rfl (W.val rfl rfl rfl (R.pick_f rfl rfl rfl) (W.val rfl rfl rfl (R.assign rfl rfl) (W.nil (EX.then_n ?_)))))))
  refine CW.cond_f rfl (CW.skip (EX.blk_n (EX.then_n (CW.seq (CW.region rfl (W.val rfl rfl rfl (R.assign rfl rfl) (W.nil ?_)))))))
  refine EX.then_n (CW.ret (EX.ret1 Try.results123 rfl ?_))
  have hH28 := hH1.f1
  have hH29 := hH28.upto1
  refine ⟨?_, hH29⟩
  refine vint ?_
  unfold checkF
  grind
  try subst hc4
  refine W.off rfl rfl rfl (W.off rfl rfl rfl (W.off rfl rfl rfl (W.off rfl rfl rfl (W.val rfl rfl rfl (R.pick_f rfl rfl rfl) (W.val rfl rfl rfl (R.assign rfl rfl) (W.nil (EX.then_n ?_)))))))
  refine CW.cond_f rfl (CW.region rfl (W.val rfl rfl rfl (R.fa0 1 rfl rfl Try.underlying77 rfl Try.sz4 rfl) (W.ldk rfl rfl rfl rfl rfl Try.pl4 hH1 m0 hB1 rfl (W.val rfl rfl rfl (R.not rfl rfl) (W.val rfl rfl rfl (R.move rfl rfl) ?_)))))
  refine W.split (d := 31) rfl (fun hc15 => ?_) (fun hc15 => ?_)
  replace hc15 := of_not_t hc15
  try subst hc15
  refine W.val rfl rfl rfl (R.fa0 2 rfl rfl Try.underlying77 rfl Try.sz75 rfl) (W.ldk rfl rfl rfl rfl rfl Try.pl75 hH1 m0 hB1 rfl (W.val rfl rfl rfl (R.eql rfl rfl rfl) (W.val rfl rfl rfl (R.pick_t rfl rfl rfl) (W.val rfl rfl rfl (R.assign rfl rfl) (W.nil (EX.then_n ?_))))))
  refine CW.cond rfl (fun hc16 => ?_) (fun hc16 => ?_)
  replace hc16 := of_decide_eq_true hc16
  refine CW.seq (CW.region rfl (W.val rfl rfl rfl (R.assign rfl rfl) (W.nil (EX.then_n (CW.ret (EX.blk_ret (EX.then_ret ?_)))))))
  refine EX.ret1 Try.results123 rfl ?_
  have hH30 := hH1.f1
  have hH31 := hH30.upto1
  refine ⟨?_, hH31⟩
  refine vint ?_
  unfold checkF
  grind
  replace hc16 := of_decide_eq_false hc16
  refine CW.seq (CW.region rfl (W.val rfl rfl rfl (R.fa0 1 rfl rfl Try.underlying77 rfl Try.sz4 rfl) (W.ldk rfl rfl rfl rfl rfl Try.pl4 hH1 m0 hB1 rfl (W.val rfl rfl rfl (R.move rfl rfl) ?_))))
  refine W.split (d := 39) rfl (fun hc17 => ?_) (fun hc17 => ?_)
  try subst hc17
  refine W.val rfl rfl rfl (R.fa0 3 rfl rfl Try.underlying77 rfl Try.sz22 rfl) (W.ldk rfl rfl rfl rfl rfl Try.pl22 hH1 m0 hB1 rfl (W.val rfl rfl rfl (R.len_slice rfl rfl Try.underlying22) (W.val rfl rfl rfl (R.gtr rfl rfl rfl) (W.val rfl rfl rfl (R.pick_t rfl rfl rfl) (W.val rfl rfl rfl (R.assign rfl rfl) (W.nil (EX.then_n ?_)))))))
  refine CW.cond rfl (fun hc18 => ?_) (fun hc18 => ?_)
  replace hc18 := of_decide_eq_true hc18
  refine CW.seq (CW.region rfl (W.val rfl rfl rfl (R.assign rfl rfl) (W.nil (EX.then_n (CW.ret (EX.blk_ret (EX.then_ret ?_)))))))
  refine EX.ret1 Try.results123 rfl ?_
  have hH32 := hH1.f1
  have hH33 := hH32.upto1
  refine ⟨?_, hH33⟩
  refine vint ?_
  unfold checkF
  grind
  replace hc18 := of_decide_eq_false hc18
  refine CW.skip (EX.blk_n (EX.then_n (CW.seq (CW.region rfl (W.val rfl rfl rfl (R.assign rfl rfl) (W.nil (EX.then_n ?_)))))))
  refine CW.ret (EX.ret1 Try.results123 rfl ?_)
  have hH34 := hH1.f1
  have hH35 := hH34.upto1
  refine ⟨?_, hH35⟩
  refine vint ?_
  unfold checkF
  grind
  try subst hc17
  refine W.off rfl rfl rfl (W.off rfl rfl rfl (W.off rfl rfl rfl (W.off rfl rfl rfl (W.val rfl rfl rfl (R.pick_f rfl rfl rfl) (W.val rfl rfl rfl (R.assign rfl rfl) (W.nil (EX.then_n ?_)))))))
  refine CW.cond_f rfl (CW.skip (EX.blk_n (EX.then_n (CW.seq (CW.region rfl (W.val rfl rfl rfl (R.assign rfl rfl) (W.nil ?_)))))))
  refine EX.then_n (CW.ret (EX.ret1 Try.results123 rfl ?_))
  have hH36 := hH1.f1
  have hH37 := hH36.upto1
  refine ⟨?_, hH37⟩
  refine vint ?_
  unfold checkF
  grind
  replace hc15 := of_not_f hc15
  try subst hc15
  refine W.off rfl rfl rfl (W.off rfl rfl rfl (W.off rfl rfl rfl (W.val rfl rfl rfl (R.pick_f rfl rfl rfl) (W.val rfl rfl rfl (R.assign rfl rfl) (W.nil (EX.then_n (CW.cond_f rfl ?_)))))))
  refine CW.seq (CW.region rfl (W.val rfl rfl rfl (R.fa0 1 rfl rfl Try.underlying77 rfl Try.sz4 rfl) (W.ldk rfl rfl rfl rfl rfl Try.pl4 hH1 m0 hB1 rfl (W.val rfl rfl rfl (R.move rfl rfl) ?_))))
  refine W.split (d := 39) rfl (fun hc19 => ?_) (fun hc19 => ?_)
  try subst hc19
  refine W.val rfl rfl rfl (R.fa0 3 rfl rfl Try.underlying77 rfl Try.sz22 rfl) (W.ldk rfl rfl rfl rfl rfl Try.pl22 hH1 m0 hB1 rfl (W.val rfl rfl rfl (R.len_slice rfl rfl Try.underlying22) (W.val rfl rfl rfl (R.gtr rfl rfl rfl) (W.val rfl rfl rfl (R.pick_t rfl rfl rfl) (W.val rfl rfl rfl (R.assign rfl rfl) (W.nil (EX.then_n ?_)))))))
  refine CW.cond rfl (fun hc20 => ?_) (fun hc20 => ?_)
  replace hc20 := of_decide_eq_true hc20
  refine CW.seq (CW.region rfl (W.val rfl rfl rfl (R.assign rfl rfl) (W.nil (EX.then_n (CW.ret (EX.blk_ret (EX.then_ret ?_)))))))
  refine EX.ret1 Try.results123 rfl ?_
  have hH38 := hH1.f1
  have hH39 := hH38.upto1
  refine ⟨?_, hH39⟩
  refine vint ?_
  unfold checkF
  grind
  replace hc20 := of_decide_eq_false hc20
  refine CW.skip (EX.blk_n (EX.then_n (CW.seq (CW.region rfl (W.val rfl rfl rfl (R.assign rfl rfl) (W.nil (EX.then_n ?_)))))))
  refine CW.ret (EX.ret1 Try.results123 rfl ?_)
  have hH40 := hH1.f1
  have hH41 := hH40.upto1
  refine ⟨?_, hH41⟩
  refine vint ?_
  unfold checkF
  grind
  try subst hc19
  refine W.off rfl rfl rfl (W.off rfl rfl rfl (W.off rfl rfl rfl (W.off rfl rfl rfl (W.val rfl rfl rfl (R.pick_f rfl rfl rfl) (W.val rfl rfl rfl (R.assign rfl rfl) (W.nil (EX.then_n ?_)))))))
  refine CW.cond_f rfl (CW.skip (EX.blk_n (EX.then_n (CW.seq (CW.region rfl (W.val rfl rfl rfl (R.assign rfl rfl) (W.nil ?_)))))))
  refine EX.then_n (CW.ret (EX.ret1 Try.results123 rfl ?_))
  have hH42 := hH1.f1
  have hH43 := hH42.upto1
  refine ⟨?_, hH43⟩
  refine vint ?_
  unfold checkF
  grind

end Go.Proofs.Gw
namespace Go.Proofs.Gw
open Go Go.Gw Go.Proofs Go.RowKit
set_option maxRecDepth 100000 in
set_option maxHeartbeats 1000000 in
theorem varint_Encode (u : Int) (w0 : World) (h0 : 0 ≤ u) (h1 : u ≤ 18446744073709551615) : Calls Try.prog 94 #[.int .u64 u] w0 (Ret fun v w' => ∃ (A0 : Option Addr) (c0 : Nat) (z0 : PH), v = .slice A0 (encv u.toNat).length c0 ∧ Has w0 w' [z0, hp w0] ∧ Own kU8 5 emp z0 A0 c0 (encv u.toNat)) := by
  refine fnstart (N := 20) Try.func94 rfl Try.ntmps94 (Nat.le_of_ble_eq_true rfl) ?_
  have hH0 : Has w0 w0 [hp w0] := Has.refl w0
  refine CW.seq (CW.region rfl (W.val rfl rfl rfl (R.assign rfl rfl) (W.nil (EX.then_n (CW.seq (CW.region rfl ?_))))))
  refine W.make0 (κ := kU8) rfl rfl rfl rfl rfl rfl Try.underlying22 Try.inf5 (by omega) (by decide) hH0 (fun A1 c1 z1 w1 hH1 hO1 => ?_)
  refine W.val rfl rfl rfl (R.assign rfl rfl) (W.nil (EX.then_n (CW.seq (CW.block ?_))))
  have hH2 := hH1.f1
  have hH3 := hH2.f1
  obtain ⟨I1, hI1⟩ : ∃ I : Nat → List (Nat × Value) → World → Prop, I = (fun n_ D_ w_ => ∃ (v : Nat) (bs : List UInt8) (A : Option Addr) (c : Nat) (z : PH), D_ = [(0, .int .u64 (v : Int)), (3, .slice A bs.length c)] ∧ n_ = v ∧ Has w0 w_ [z, (hp w0)] ∧ (v < 18446744073709551616) ∧ (encv u.toNat = bs ++ encv v) ∧ (Own kU8 5 emp z A c bs)) := ⟨_, rfl⟩
  refine CW.loop3 [0, 3, 5, 6, 7, 8, 9, 10, 11, 12, 13, 14] I1 _ _ ?_ (by rw [hI1]; exact ⟨u.toNat, [], _, _, _, rfl, rfl, hH3, by omega, rfl, hO1⟩) ?_
  exact ⟨lk_int rfl (by first | rfl | omega), rfl, trivial⟩
  intro n1 D w2 hn1
  rw [hI1] at hn1
  obtain ⟨v, bs, A, c, z, rfl, hme1, hH4, hv, hi, hO⟩ := hn1
  have hl : bs.length ≤ 10 := by
    have h1 := congrArg List.length hi
    have h2 := encv_len (u := u.toNat) (by omega)
    simp at h1
    omega
  refine CW.seq (CW.seq (CW.region rfl (W.val rfl rfl rfl (R.move rfl rfl) (W.val rfl rfl rfl (R.geq rfl rfl rfl) (W.nil (EX.then_n ?_))))))
  refine CW.cond rfl (fun hc1 => ?_) (fun hc1 => ?_)
  replace hc1 := of_decide_eq_true hc1
  refine CW.skip (EX.then_n (CW.block (CW.seq (CW.region rfl (W.val rfl rfl rfl (R.move rfl rfl) (W.val rfl rfl rfl (R.move rfl rfl) (W.val rfl rfl rfl (R.cu8 rfl rfl (by rw [Try.underlying75]; rfl) Try.underlying5) ?_)))))))
  refine W.bitsU (· ||| ·) rfl rfl rfl rfl rfl rfl rfl (ok_u8 (by omega)) (ok_u8 (by omega)) (.inr (.inl ⟨rfl, rfl⟩)) (fun r1 hr1 hr2 hr3 => ?_)
  replace hr3 : r1 ≤ 255 := hr3
  rw [show ((v : Int) % 256).toNat = v % 256 by omega, show Int.toNat 128 = 128 from rfl, or128 _ (by omega)] at hr1
  refine W.bs rfl rfl rfl rfl rfl Try.underlying22 Try.inf5 (by decide) rfl rfl hH4 (fun b1 zb1 w3 hH5 hB1 => ?_)
  have hH6 := hH5.f1
  refine W.app1 (UInt8.ofNat (Int.toNat _)) rfl rfl rfl rfl rfl rfl rfl Try.underlying22 Try.inf5 rfl hH6 hB1 hO (kU8_mk (by omega)) (by decide) (by omega) (fun A2 c2 z2 w4 hH7 hO2 => ?_)
  refine W.val rfl rfl rfl (R.assign rfl rfl) (W.nil (EX.then_n (CW.region rfl (W.val rfl rfl rfl (R.move rfl rfl) (W.val rfl rfl rfl (R.shrc 7 128 rfl rfl rfl (by decide) rfl) (W.val rfl rfl rfl (R.assign rfl rfl) (W.nil ?_)))))))
  refine EX.blk_n ?_
  have hH8 := hH7.f1
  have hH9 := hH8.f1
  have hH10 := hH9.upto2
  refine EX.back4 _ _ rfl ?_ (by rw [hI1]; exact ⟨v / 128, _, _, _, _, rfl, rfl, hH10, by omega, by rw [hi, encv_ge (by omega), List.append_assoc]; congr 1; rw [List.singleton_append]; congr 2; omega, hO2⟩) ?_
  exact ⟨lk_int rfl (by first | rfl | omega), rfl, trivial⟩
  omega
  replace hc1 := of_decide_eq_false hc1
  refine CW.exit (EX.then_exit (EX.then_exit (EX.blk_here (EX.then_n (CW.seq (CW.region rfl (W.val rfl rfl rfl (R.move rfl rfl) ?_)))))))
  refine W.val rfl rfl rfl (R.move rfl rfl) (W.val rfl rfl rfl (R.cu8 rfl rfl (by rw [Try.underlying75]; rfl) Try.underlying5) ?_)
  refine W.bs rfl rfl rfl rfl rfl Try.underlying22 Try.inf5 (by decide) rfl rfl hH4 (fun b2 zb2 w5 hH11 hB2 => ?_)
  have hH12 := hH11.f1
  refine W.app1 (UInt8.ofNat (Int.toNat _)) rfl rfl rfl rfl rfl rfl rfl Try.underlying22 Try.inf5 rfl hH12 hB2 hO (kU8_mk (by omega)) (by decide) (by omega) (fun A3 c3 z3 w6 hH13 hO3 => ?_)
  refine W.val rfl rfl rfl (R.assign rfl rfl) (W.nil (EX.then_n (CW.ret (EX.ret1 Try.results94 rfl ?_))))
  have hH14 := hH13.f1
  have hH15 := hH14.f1
  have hH16 := hH15.upto2
  have e : encv u.toNat = bs ++ [UInt8.ofNat ((v : Int) % 256).toNat] := by
    rw [hi, encv_lt (by omega), show ((v : Int) % 256).toNat = v by omega]
  rw [e]
  refine ⟨_, _, _, ?_, hH16, hO3⟩
  rfl

end Go.Proofs.Gw
namespace Go.Proofs.Gw
open Go Go.Gw Go.Proofs Go.RowKit
set_option maxRecDepth 100000 in
set_option maxHeartbeats 2000000 in
theorem tlv_put {A : Option Addr} {c : Nat} {bs : List UInt8} {zb zf : PH} (f : GField) (cs : List Value) (w0 w : World) (Z : List PH) (hH0 : Has w0 w (zb :: Z)) (hO : Own kU8 5 emp zb A c bs) (hmf : zf ∈ Z) (hKf : kField.K zf f cs) (hbn : bs.length ≤ 4294967296) (ht0 : 1 ≤ f.Tag) (ht1 : f.Tag ≤ 31) (hfb : f.Text = true → (f.Bytes.length : Int) ≤ 200) : Calls Try.prog 124 #[.slice A bs.length c, .agg cs.toArray] w (Ret fun v w' => ∃ A' c' z', v = .slice A' (bs ++ putF f).length c' ∧ Has w0 w' (z' :: Z) ∧ Own kU8 5 emp z' A' c' (bs ++ putF f)) := by
  refine fnstartP (N := 38) Try.func124 rfl Try.ntmps124 (Nat.le_of_ble_eq_true rfl) ?_
  have hK1 := hKf
  obtain ⟨A1, c1, rfl, hb1, hb2, hb3, hb4, hl1, hr1⟩ := hK1
  have hlen1 := hr1.len
  have hK2 : kField.K zf f _ := hKf
  have e1 := encv_len (u := (f.Tag * 2).toNat) (by omega)
  have e2 := encv_len (u := (f.Tag * 2 + 1).toNat) (by omega)
  have e3 := encv_len (u := f.Num.toNat) (by omega)
  have e4 := encv_len (u := ((f.Bytes.length : Int)).toNat) (by omega)
  refine CW.seq (CW.region rfl ?_)
  refine W.box rfl rfl rfl rfl rfl rfl hH0 (fun b1 zb1 w1 hH1 hB1 => ?_)
  refine W.val rfl rfl rfl (R.assign rfl rfl) (W.nil (EX.then_n (CW.seq (CW.region rfl (W.val rfl rfl rfl (R.fa0 0 rfl rfl Try.underlying77 rfl Try.sz3 rfl) (W.ldk rfl rfl rfl rfl rfl Try.pl3 hH1 m0 hB1 rfl (W.val rfl rfl rfl (R.convx rfl rfl (by rw [Try.underlying3]; rfl) Try.underlying75 (ok_u64 (by omega))) ?_)))))))
  refine W.val rfl rfl rfl (R.mulx rfl rfl rfl (ok_u64 (by omega))) (W.val rfl rfl rfl (R.assign rfl rfl) (W.nil (EX.then_n (CW.seq (CW.seq (CW.region rfl (W.val rfl rfl rfl (R.fa0 1 rfl rfl Try.underlying77 rfl Try.sz4 rfl) ?_)))))))
  refine W.ldk rfl rfl rfl rfl rfl Try.pl4 hH1 m0 hB1 rfl (W.val rfl rfl rfl (R.not rfl rfl) (W.nil (EX.then_n ?_)))
  refine CW.cond rfl (fun hc1 => ?_) (fun hc1 => ?_)
  replace hc1 := of_not_t hc1
  try subst hc1
  refine CW.seq (CW.region rfl (W.val rfl rfl rfl (R.move rfl rfl) (W.val rfl rfl rfl (R.move rfl rfl) (W.call rfl rfl rfl rfl rfl Try.func94 Try.nm94 Try.bd94 (varint_Encode _ w1 (by omega) (by omega)) ?_))))
  rintro v1 w2 ⟨A01, c01, z01, rfl, hH2, hO01⟩
  have hH3 := hH1.c1 hH2
  have hH4 := hH3.f2
  refine W.appR rfl rfl rfl rfl rfl rfl rfl rfl Try.underlying22 Try.inf5 rfl hH4 hO (hO01.row (hH4.le m1) (emp_le _)) (fun _ hr => Reps.flat (by intro _ _ h; exact h) hr) (by decide) (by first | omega | (simp only [List.length_nil, List.length_append]; omega)) (fun A2 c2 z1 w3 hH5 hO1 => ?_)
  refine W.val rfl rfl rfl (R.assign rfl rfl) (W.nil (EX.then_n (CW.seq (CW.region rfl (W.val rfl rfl rfl (R.move rfl rfl) (W.val rfl rfl rfl (R.fa0 2 rfl rfl Try.underlying77 rfl Try.sz75 rfl) (W.ldk rfl rfl rfl rfl rfl Try.pl75 hH5 m2 hB1 rfl ?_)))))))
  refine W.call rfl rfl rfl rfl rfl Try.func94 Try.nm94 Try.bd94 (varint_Encode _ w3 (by omega) (by omega)) ?_
  rintro v2 w4 ⟨A02, c02, z02, rfl, hH6, hO02⟩
  have hH7 := hH5.c1 hH6
  have hH8 := hH7.f1
  refine W.appR rfl rfl rfl rfl rfl rfl rfl rfl Try.underlying22 Try.inf5 rfl hH8 hO1 (hO02.row (hH8.le m1) (emp_le _)) (fun _ hr => Reps.flat (by intro _ _ h; exact h) hr) (by decide) (by first | omega | (simp only [List.length_nil, List.length_append]; omega)) (fun A3 c3 z2 w5 hH9 hO2 => ?_)
  refine W.val rfl rfl rfl (R.assign rfl rfl) (W.nil (EX.then_n (CW.ret (EX.then_ret (EX.retP Try.results124 (.cons (.tmp rfl) RVs.nil) ?_)))))
  have hH10 := hH9.f1
  have hH11 := hH10.drop
  have hH12 := hH11.f1
  have hH13 := hH12.drop
  have hH14 := hH13.f1
  have hH15 := hH14.drop
  rw [← putF_num (by simpa using hc1) (by omega)]
  exact ⟨_, _, _, rfl, hH15, hO2⟩
  replace hc1 := of_not_f hc1
  try subst hc1
  refine CW.skip (EX.then_n (CW.seq (CW.region rfl ?_)))
  have hfb2 := hfb (by simpa using hc1)
  refine W.val rfl rfl rfl (R.move rfl rfl) (W.val rfl rfl rfl (R.move rfl rfl) (W.val rfl rfl rfl (R.addx rfl rfl rfl (ok_u64 (by omega))) (W.call rfl rfl rfl rfl rfl Try.func94 Try.nm94 Try.bd94 (varint_Encode _ w1 (by omega) (by omega)) ?_)))
  rintro v3 w6 ⟨A03, c03, z03, rfl, hH16, hO03⟩
  have hH17 := hH1.c1 hH16
  have hH18 := hH17.f2
  refine W.appR rfl rfl rfl rfl rfl rfl rfl rfl Try.underlying22 Try.inf5 rfl hH18 hO (hO03.row (hH18.le m1) (emp_le _)) (fun _ hr => Reps.flat (by intro _ _ h; exact h) hr) (by decide) (by first | omega | (simp only [List.length_nil, List.length_append]; omega)) (fun A4 c4 z3 w7 hH19 hO3 => ?_)
  refine W.val rfl rfl rfl (R.assign rfl rfl) (W.nil (EX.then_n (CW.seq (CW.region rfl (W.val rfl rfl rfl (R.move rfl rfl) (W.val rfl rfl rfl (R.fa0 3 rfl rfl Try.underlying77 rfl Try.sz22 rfl) (W.ldk rfl rfl rfl rfl rfl Try.pl22 hH19 m2 hB1 rfl ?_)))))))
  refine W.val rfl rfl rfl (R.len_slice rfl rfl Try.underlying22) (W.val rfl rfl rfl (R.convx rfl rfl (by rw [Try.underlying3]; rfl) Try.underlying75 (ok_u64 (by omega))) (W.call rfl rfl rfl rfl rfl Try.func94 Try.nm94 Try.bd94 (varint_Encode _ w7 (by omega) (by omega)) ?_))
  rintro v4 w8 ⟨A04, c04, z04, rfl, hH20, hO04⟩
  have hH21 := hH19.c1 hH20
  have hH22 := hH21.f1
  refine W.appR rfl rfl rfl rfl rfl rfl rfl rfl Try.underlying22 Try.inf5 rfl hH22 hO3 (hO04.row (hH22.le m1) (emp_le _)) (fun _ hr => Reps.flat (by intro _ _ h; exact h) hr) (by decide) (by first | omega | (simp only [List.length_nil, List.length_append]; omega)) (fun A5 c5 z4 w9 hH23 hO4 => ?_)
  refine W.val rfl rfl rfl (R.assign rfl rfl) (W.nil (EX.then_n (CW.seq (CW.region rfl (W.val rfl rfl rfl (R.move rfl rfl) (W.val rfl rfl rfl (R.fa0 3 rfl rfl Try.underlying77 rfl Try.sz22 rfl) (W.ldk rfl rfl rfl rfl rfl Try.pl22 hH23 m3 hB1 rfl ?_)))))))
  refine W.appR rfl rfl rfl rfl rfl rfl rfl rfl Try.underlying22 Try.inf5 rfl hH23 hO4 (hr1.mono (hH23.le (List.mem_cons_of_mem _ (List.mem_cons_of_mem _ (List.mem_cons_of_mem _ (List.mem_cons_of_mem _ hmf)))))) (fun _ hr => Reps.flat (by intro _ _ h; exact h) hr) (by decide) (by first | omega | (simp only [List.length_nil, List.length_append]; omega)) (fun A6 c6 z5 w10 hH24 hO5 => ?_)
  refine W.val rfl rfl rfl (R.assign rfl rfl) (W.nil (EX.then_n (CW.ret (EX.retP Try.results124 (.cons (.tmp rfl) RVs.nil) ?_))))
  have hH25 := hH24.f1
  have hH26 := hH25.drop
  have hH27 := hH26.f1
  have hH28 := hH27.drop
  have hH29 := hH28.f1
  have hH30 := hH29.drop
  rw [← putF_text (by simpa using hc1) (by omega)]
  exact ⟨_, _, _, rfl, hH30, hO5⟩

end Go.Proofs.Gw
namespace Go.Proofs.Gw
open Go Go.Gw Go.Proofs Go.RowKit
set_option maxRecDepth 100000 in
set_option maxHeartbeats 1000000 in
theorem tlv_Encode (Afs : Option Addr) (cfs : Nat) (fs : List GField) (w0 : World) (lfs : fs.length ≤ cfs) (hfs : Row kField (hp w0) Afs fs) : Calls Try.prog 95 #[.slice Afs fs.length cfs] w0 (Ret fun v w' => ∃ (A0 : Option Addr) (c0 : Nat) (z0 : PH), v = .tuple #[.slice A0 ((encodeF fs).1).length c0, .int .i64 ((encodeF fs).2)] ∧ Has w0 w' [z0, hp w0] ∧ Own kU8 5 emp z0 A0 c0 ((encodeF fs).1)) := by
  refine fnstart (N := 31) Try.func95 rfl Try.ntmps95 (Nat.le_of_ble_eq_true rfl) ?_
  have hH0 : Has w0 w0 [hp w0] := Has.refl w0
  have hlfs := hfs.len
  refine CW.seq (CW.region rfl (W.val rfl rfl rfl (R.assign rfl rfl) (W.val rfl rfl rfl (R.assign rfl rfl) (W.nil (EX.then_n (CW.seq (CW.region rfl ?_)))))))
  refine W.val rfl rfl rfl (R.assign rfl rfl) (W.nil (EX.then_n (CW.seq (CW.region rfl (W.val rfl rfl rfl (R.assign rfl rfl) (W.nil (EX.then_n ?_)))))))
  refine CW.seq (CW.seq (CW.region rfl (W.val rfl rfl rfl (R.move rfl rfl) (W.val rfl rfl rfl (R.len_slice rfl rfl Try.underlying72) (W.val rfl rfl rfl (R.move rfl rfl) (W.nil (EX.then_n ?_)))))))
  refine CW.block ?_
  have hH1 := hH0.emp
  have hH2 := hH1.f1
  have hH3 := hH2.f1
  obtain ⟨I1, hI1⟩ : ∃ I : Nat → List (Nat × Value) → World → Prop, I = (fun n_ D_ w_ => ∃ (k : Nat) (last : Int) (A : Option Addr) (c : Nat) (acc : List UInt8) (z : PH), D_ = [(11, .int .i64 (k : Int)), (5, .int .i64 last), (4, .slice A acc.length c)] ∧ n_ = fs.length - k ∧ Has w0 w_ [z, (hp w0)] ∧ (k ≤ fs.length) ∧ (encFs fs 0 [] = encFs (fs.drop k) last acc) ∧ ((k : Int) ≤ last ∧ last ≤ 31) ∧ (acc.length ≤ 220 * k) ∧ (Own kU8 5 emp z A c acc)) := ⟨_, rfl⟩
  refine CW.loop3 [2, 3, 4, 5, 7, 8, 11, 12, 13, 14, 15, 16, 17, 18, 19, 20, 21, 22, 23, 24, 25, 26] I1 _ _ ?_ (by rw [hI1]; exact ⟨0, 0, none, 0, [], _, rfl, rfl, hH3, by omega, rfl, by omega, Nat.zero_le _, Own.nil _ _ _⟩) ?_
  exact ⟨lk_int rfl (by first | rfl | omega), lk_int rfl (by first | rfl | omega), rfl, trivial⟩
  intro n1 D w1 hn1
  rw [hI1] at hn1
  obtain ⟨k, last, A, c, acc, z, rfl, hme1, hH4, hk, he, hla, hac, hO⟩ := hn1
  refine CW.seq (CW.region rfl (W.val rfl rfl rfl (R.lss rfl rfl rfl) (W.nil (EX.then_n (CW.seq ?_)))))
  refine CW.cond rfl (fun hc1 => ?_) (fun hc1 => ?_)
  replace hc1 := of_decide_eq_true hc1
  refine CW.skip (EX.then_n (CW.seq (CW.block (CW.seq (CW.region rfl ?_)))))
  refine W.indexRow rfl rfl rfl rfl rfl rfl Try.underlying72 Try.sz77 hfs (by omega) (by omega) (fun q1 cs1 y1 hy1 hK1 hat1 => ?_)
  try simp only [Int.toNat_natCast, Int.reduceToNat] at hy1
  have hK2 := hK1
  obtain ⟨A1, c1, rfl, hb1, hb2, hb3, hb4, hl1, hr1⟩ := hK2
  have hlen1 := hr1.len
  refine W.lga rfl rfl rfl rfl rfl Try.pl77 (by rw [Try.underlying77]; rfl) (by exact Try.sz77) hH4 m1 hat1 ?_
  refine W.alloc rfl rfl rfl rfl Try.zr77 rfl hH4 (fun b1 zb1 w2 hH5 hB1 => ?_)
  refine W.sg0 rfl rfl rfl rfl rfl Try.sz77 rfl (by rfl) hH5 hB1 (fun zb2 w3 hH6 hB2 => ?_)
  refine W.nil (EX.then_n (CW.seq (CW.seq (CW.region rfl (W.lg0 rfl rfl rfl rfl rfl Try.pl77 (by rw [Try.underlying77]; rfl) (by exact Try.sz77) hH6 m0 hB2 (W.val rfl rfl rfl (R.move rfl rfl) (W.call rfl rfl rfl rfl rfl Try.func123 Try.nm123 Try.bd123 (tlv_check y1 _ _ w3 (hK1.mono (hH6.le m2))) ?_)))))))
  rintro v1 w4 ⟨rfl, hH7⟩
  have hH8 := hH6.c0 hH7
  refine W.val rfl rfl rfl (R.assign rfl rfl) (W.nil (EX.then_n (CW.seq (CW.region rfl (W.val rfl rfl rfl (R.move rfl rfl) (W.val rfl rfl rfl (R.neq rfl rfl rfl) (W.nil ?_)))))))
  refine EX.then_n ?_
  refine CW.cond rfl (fun hc2 => ?_) (fun hc2 => ?_)
  replace hc2 := of_ndec_t hc2
  refine CW.seq (CW.region rfl (W.val rfl rfl rfl (R.move rfl rfl) (W.val rfl rfl rfl (R.assign rfl rfl) (W.val rfl rfl rfl (R.assign rfl rfl) (W.nil (EX.then_n (CW.ret ?_)))))))
  refine EX.then_ret (EX.blk_ret (EX.then_ret (EX.then_ret (EX.blk_ret (EX.then_ret (EX.ret2 Try.results95 rfl rfl ?_))))))
  have hH9 := hH8.emp
  have hH10 := hH9.f3
  have hH11 := hH10.f1
  have hH12 := hH11.upto2
  have hd := he.trans (encFs_bad hy1 (by omega))
  have hq : encodeF fs = ([], checkF y1 last) := by unfold encodeF; rw [hd, if_pos (by simp only []; omega)]
  rw [hq]
  refine ⟨_, _, _, ?_, hH12, (Own.nil _ _ _)⟩
  rfl
  replace hc2 := of_ndec_f hc2
  refine CW.skip (EX.then_n (CW.seq (CW.region rfl ?_)))
  have hck := checkF_ok (show checkF y1 last = 0 by omega)
  have hpl := putF_len (f := y1) (by omega) (by omega) (fun h => (hck.2.2.2.1 h).1) (by omega)
  refine W.val rfl rfl rfl (R.fa0 0 rfl rfl Try.underlying77 rfl Try.sz3 rfl) (W.ldk rfl rfl rfl rfl rfl Try.pl3 hH8 m0 hB2 rfl (W.val rfl rfl rfl (R.assign rfl rfl) (W.nil (EX.then_n (CW.region rfl (W.val rfl rfl rfl (R.move rfl rfl) (W.lg0 rfl rfl rfl rfl rfl Try.pl77 (by rw [Try.underlying77]; rfl) (by exact Try.sz77) hH8 m0 hB2 ?_)))))))
  have hH14 := hH8.f1
  refine W.call rfl rfl rfl rfl rfl Try.func124 Try.nm124 Try.bd124 (tlv_put _ _ _ _ _ hH14 hO m1 hK1 (by omega) (by omega) (by omega) (fun h => (hck.2.2.2.1 h).1)) ?_
  rintro _ w5 ⟨A2, c2, z3, rfl, hH13, hO1⟩
  refine W.val rfl rfl rfl (R.assign rfl rfl) (W.nil (EX.blk_n (EX.then_n (CW.region rfl (W.val rfl rfl rfl (R.addx rfl rfl rfl (ok_i64 (by omega))) (W.val rfl rfl rfl (R.move rfl rfl) (W.nil ?_)))))))
  have hH15 := hH13.f2
  have hH16 := hH15.f1
  have hH17 := hH16.upto2
  refine EX.back4 _ _ rfl ?_ (by rw [hI1]; exact ⟨k + 1, y1.Tag, _, _, acc ++ putF y1, _, rfl, rfl, hH17, by omega, he.trans (encFs_go hy1 (by omega)), by omega, by rw [List.length_append]; omega, hO1⟩) ?_
  exact ⟨lk_int rfl (by first | rfl | omega), lk_int rfl (by first | rfl | omega), rfl, trivial⟩
  omega
  replace hc1 := of_decide_eq_false hc1
  refine CW.exit (EX.then_exit (EX.then_exit (EX.blk_here (EX.then_n (CW.seq (CW.seq (CW.region rfl ?_)))))))
  refine W.val rfl rfl rfl (R.move rfl rfl) (W.val rfl rfl rfl (R.len_slice rfl rfl Try.underlying22) (W.val rfl rfl rfl (R.gtr rfl rfl rfl) (W.nil (EX.then_n ?_))))
  refine CW.cond rfl (fun hc3 => ?_) (fun hc3 => ?_)
  replace hc3 := of_decide_eq_true hc3
  refine CW.seq (CW.region rfl (W.val rfl rfl rfl (R.assign rfl rfl) (W.val rfl rfl rfl (R.assign rfl rfl) (W.nil (EX.then_n (CW.ret (EX.then_ret ?_)))))))
  refine EX.ret2 Try.results95 rfl rfl ?_
  have hH18 := hH4.emp
  have hH19 := hH18.f2
  have hH20 := hH19.f1
  have hH21 := hH20.upto2
  obtain rfl : k = fs.length := by omega
  rw [List.drop_length, encFs] at he
  have hq : encodeF fs = ([], 24) := by unfold encodeF; rw [he, if_neg (by simp), if_pos (by simp only []; omega)]
  rw [hq]
  refine ⟨_, _, _, ?_, hH21, (Own.nil _ _ _)⟩
  rfl
  replace hc3 := of_decide_eq_false hc3
  refine CW.skip (EX.then_n (CW.seq (CW.region rfl (W.val rfl rfl rfl (R.move rfl rfl) (W.val rfl rfl rfl (R.assign rfl rfl) (W.val rfl rfl rfl (R.assign rfl rfl) (W.nil ?_)))))))
  refine EX.then_n (CW.ret (EX.ret2 Try.results95 rfl rfl ?_))
  have hH22 := hH4.f1
  have hH23 := hH22.f1
  have hH24 := hH23.upto2
  obtain rfl : k = fs.length := by omega
  rw [List.drop_length, encFs] at he
  have hq : encodeF fs = (acc, 0) := by unfold encodeF; rw [he, if_neg (by simp), if_neg (by simp only []; omega)]
  rw [hq]
  refine ⟨_, _, _, ?_, hH24, hO⟩
  rfl

end Go.Proofs.Gw
namespace Go.Proofs.Gw
open Go Go.Gw Go.Proofs Go.RowKit
set_option maxRecDepth 100000 in
set_option maxHeartbeats 1000000 in
theorem writer_Done {A : Option Addr} {c bw : Nat} {fs : List GField} {bad : Int} {zw z y : PH} (w0 w : World) (Z : List PH) (hH0 : Has w0 w (zw :: z :: y :: Z)) (hBw : Blk zw bw 156 [.slice A (fs).length c, .int .i64 (bad)]) (hO : Own kField 77 y z A c fs) (hfl : fs.length ≤ 1000000) : Calls Try.prog 72 #[.pointer (some ⟨bw, 0, none⟩)] w (Ret fun v w' => ∃ A' c' z', v = .tuple #[.slice A' (doneF (fs, bad)).1.length c', .int .i64 (doneF (fs, bad)).2] ∧ Has w0 w' (z' :: Z) ∧ Own kU8 5 emp z' A' c' (doneF (fs, bad)).1) := by
  refine fnstartP (N := 22) Try.func72 rfl Try.ntmps72 (Nat.le_of_ble_eq_true rfl) (CW.seq (CW.region rfl (W.val rfl rfl rfl (R.assign rfl rfl) (W.val rfl rfl rfl (R.assign rfl rfl) (W.nil (EX.then_n (CW.seq ?_)))))))
  refine CW.seq (CW.region rfl (W.val rfl rfl rfl (R.move rfl rfl) (W.val rfl rfl rfl (R.peql_r_some rfl rfl rfl Try.underlying121 rfl) (W.nil (EX.then_n (CW.cond_f rfl (CW.skip ?_)))))))
  refine EX.then_n (CW.seq (CW.seq (CW.region rfl (W.val rfl rfl rfl (R.move rfl rfl) (W.val rfl rfl rfl (R.nilCheck rfl rfl) (W.val rfl rfl rfl (R.fa0 1 rfl rfl Try.underlying156 rfl Try.sz31 rfl) (W.ldk rfl rfl rfl rfl rfl Try.pl31 hH0 m0 hBw rfl ?_)))))))
  refine W.val rfl rfl rfl (R.neq rfl rfl rfl) (W.nil (EX.then_n ?_))
  refine CW.cond rfl (fun hc1 => ?_) (fun hc1 => ?_)
  replace hc1 := of_ndec_t hc1
  refine CW.seq ?_
  have hH1 := hH0.drew
  refine CW.draw (fun w => Sub zw w ∧ True) [] #[false, false, false, false, false, false] Try.mixed rfl rfl ⟨hH1.sub _ m0, trivial⟩ (WA.pure (i := 0) #[true, false, false, false, false, false] (blind_then (blind_then (blind_body _ _))) rfl (by kernel_rfl) rfl rfl rfl (fun _ => R.move rfl rfl) (WA.pure (i := 1) #[true, true, false, false, false, false] (blind_then (blind_then (blind_body _ _))) rfl (by kernel_rfl) rfl rfl rfl (fun _ => R.nilCheck rfl rfl) (WA.pure (i := 2) #[true, true, true, false, false, false] (blind_then (blind_then (blind_body _ _))) rfl (by kernel_rfl) rfl rfl rfl (fun _ => R.fa0 1 rfl rfl Try.underlying156 rfl Try.sz31 rfl) (WA.take (i := 3) #[true, true, true, true, false, false] (blind_then (blind_then (blind_body _ _))) rfl (by kernel_rfl) rfl rfl rfl (fun _ hw => R.load rfl rfl Try.pl31 (cellz_le hw.1 (hBw.at_ 1 _ rfl))) ⟨hH1.sub _ m0, trivial⟩ (WA.pure (i := 4) #[true, true, true, true, true, false] (blind_then (blind_then (blind_body _ _))) rfl (by kernel_rfl) rfl rfl rfl (fun _ => R.assign rfl rfl) (WA.pure (i := 5) #[true, true, true, true, true, true] (blind_then (blind_then (blind_body _ _))) rfl (by kernel_rfl) rfl rfl rfl (fun _ => R.assign rfl rfl) (WA.done (by kernel_rfl) ?_)))))))
  refine EX.then_n (CW.ret (EX.then_ret (EX.retP Try.results72 (.cons (.tmp rfl) (.cons (.tmp rfl) RVs.nil)) ?_)))
  have hH2 := hH1.emp
  have hH3 := hH2.f1
  have hH4 := hH3.drop
  have hH5 := hH4.f1
  have hH6 := hH5.drop
  have hH7 := hH6.f1
  have hH8 := hH7.drop
  have hq : doneF (fs, bad) = ([], bad) := by unfold doneF; rw [if_pos (by simpa using hc1)]
  rw [hq]
  exact ⟨_, _, _, rfl, hH8, Own.nil _ _ _⟩
  replace hc1 := of_ndec_f hc1
  refine CW.skip (EX.then_n (CW.seq (CW.region rfl (W.val rfl rfl rfl (R.move rfl rfl) (W.val rfl rfl rfl (R.nilCheck rfl rfl) (W.val rfl rfl rfl (R.fa0 0 rfl rfl Try.underlying156 rfl Try.sz72 rfl) (W.ldk rfl rfl rfl rfl rfl Try.pl72 hH0 m0 hBw rfl ?_)))))))
  refine W.call rfl rfl rfl rfl rfl Try.func95 Try.nm95 Try.bd95 (tlv_Encode _ _ _ w hO.cap (hO.row (hH0.le m1) (hH0.le m2))) ?_
  rintro v1 w1 ⟨A01, c01, z01, rfl, hH9, hO01⟩
  have hH10 := hH0.c1 hH9
  refine W.val rfl rfl rfl (R.extract rfl rfl rfl) (W.val rfl rfl rfl (R.extract rfl rfl rfl) (W.val rfl rfl rfl (R.assign rfl rfl) (W.val rfl rfl rfl (R.assign rfl rfl) (W.nil (EX.then_n (CW.ret (EX.retP Try.results72 (.cons (.tmp rfl) (.cons (.tmp rfl) RVs.nil)) ?_)))))))
  have hH11 := hH10.f1
  have hH12 := hH11.drop
  have hH13 := hH12.f1
  have hH14 := hH13.drop
  have hH15 := hH14.f1
  have hH16 := hH15.drop
  have hq : doneF (fs, bad) = encodeF fs := by unfold doneF; rw [if_neg (by simpa using hc1)]
  rw [hq]
  exact ⟨_, _, _, rfl, hH16, hO01⟩

end Go.Proofs.Gw
