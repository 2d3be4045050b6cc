import Derived.Test.YthnpjdhdmdpapaaGreatT
set_option linter.unusedVariables false
set_option linter.unusedSimpArgs false
namespace Go.Proofs.Vai
open Go
set_option maxRecDepth 100000
/-- laws_szHead -/
def h0 : HFn := ⟨13, [], 2,
  (q3 (qr [qx 2 0, qk 4 z64])
(q3 (qr [qm 5 1, qf 6 0 2, ql 7 6, ql' 8 1 7, qb 9 .sub 5 8, qa 1 9])
(q3 (q3 (qr [qm 10 1, qB 11 .lss 10 .i64 0])
(.cond (.t 11)
(qR 4 (.i .i64 (-1)))
.skip))
(q3 (qr [qm 12 1, qa 4 12])
.ret)))),
  [(none, 4)], none⟩
theorem k0 : FnOk Tryz.prog ioF 127 h0.f := ⟨Tryz.f127, Tryz.func127, by kernel_rfl, by kernel_rfl, by kernel_rfl⟩
/-- laws_szHeadS -/
def h1 : HFn := ⟨27, [], 2,
  (q3 (qr [qk 4 z64])
(q3 (qr [qm 6 1, qm 7 0, ql' 8 0 7, qb 9 .sub 6 8, qa 1 9])
(q3 (q3 (qr [qm 10 1, qB 11 .lss 10 .i64 0])
(.cond (.t 11)
(qR 4 (.i .i64 (-1)))
.skip))
(q3 (q3 (qr [qk 5 z64])
(.block 0 (.loop [0, 1, 5] [(0, .inv), (1, li), (5, li)] [(.exit 0, [(1, li)]), (.ret, [(1, li), (4, li)])]
(q3 (q3 (qr [qm 12 5, qm 13 0, ql' 14 0 13, qb 15 .lss 12 14])
(.cond (.t 15)
.skip
(.exit 0)))
(q3 (.block 1 (q3 (qr [qm 18 0, qm 19 5, qi 20 5 18 19, qL 21 5 20, qm 22 1, qc 23 127 [21, 22], qa 1 23])
(q3 (qr [qm 24 1, qB 25 .lss 24 .i64 0])
(.cond (.t 25)
(qR 4 (.i .i64 (-1)))
.skip))))
(qr [qm 16 5, qB 17 .add 16 .i64 1, qa 5 17]))))))
(q3 (qr [qm 26 1, qa 4 26])
.ret))))),
  [(none, 4)], none⟩
theorem k1 : FnOk Tryz.prog ioF 99 h1.f := ⟨Tryz.f99, Tryz.func99, by kernel_rfl, by kernel_rfl, by kernel_rfl⟩
/-- laws_szLastS -/
def h2 : HFn := ⟨12, [], 2,
  (q3 (qr [qk 4 z64])
(q3 (qr [qm 5 1, qm 6 0, ql' 7 0 6, qb 8 .sub 5 7, qa 1 8])
(q3 (q3 (qr [qm 9 1, qB 10 .lss 9 .i64 0])
(.cond (.t 10)
(qR 4 (.i .i64 (-1)))
.skip))
(q3 (qr [qm 11 1, qa 4 11])
.ret)))),
  [(none, 4)], none⟩
theorem k2 : FnOk Tryz.prog ioF 100 h2.f := ⟨Tryz.f100, Tryz.func100, by kernel_rfl, by kernel_rfl, by kernel_rfl⟩
/-- laws_szEntry -/
def h3 : HFn := ⟨13, [], 2,
  (q3 (qr [qx 2 0, qk 4 z64])
(q3 (qr [qm 5 1, qf 6 4 2, ql 7 6, ql' 8 1 7, qb 9 .sub 5 8, qa 1 9])
(q3 (q3 (qr [qm 10 1, qB 11 .lss 10 .i64 0])
(.cond (.t 11)
(qR 4 (.i .i64 (-1)))
.skip))
(q3 (qr [qm 12 1, qa 4 12])
.ret)))),
  [(none, 4)], none⟩
theorem k3 : FnOk Tryz.prog ioF 58 h3.f := ⟨Tryz.f58, Tryz.func58, by kernel_rfl, by kernel_rfl, by kernel_rfl⟩
/-- laws_szEntryS -/
def h4 : HFn := ⟨27, [], 2,
  (q3 (qr [qk 4 z64])
(q3 (qr [qm 6 1, qm 7 0, ql' 8 0 7, qb 9 .sub 6 8, qa 1 9])
(q3 (q3 (qr [qm 10 1, qB 11 .lss 10 .i64 0])
(.cond (.t 11)
(qR 4 (.i .i64 (-1)))
.skip))
(q3 (q3 (qr [qk 5 z64])
(.block 0 (.loop [0, 1, 5] [(0, .inv), (1, li), (5, li)] [(.exit 0, [(1, li)]), (.ret, [(1, li), (4, li)])]
(q3 (q3 (qr [qm 12 5, qm 13 0, ql' 14 0 13, qb 15 .lss 12 14])
(.cond (.t 15)
.skip
(.exit 0)))
(q3 (.block 1 (q3 (qr [qm 18 0, qm 19 5, qi 20 10 18 19, qL 21 10 20, qm 22 1, qc 23 58 [21, 22], qa 1 23])
(q3 (qr [qm 24 1, qB 25 .lss 24 .i64 0])
(.cond (.t 25)
(qR 4 (.i .i64 (-1)))
.skip))))
(qr [qm 16 5, qB 17 .add 16 .i64 1, qa 5 17]))))))
(q3 (qr [qm 26 1, qa 4 26])
.ret))))),
  [(none, 4)], none⟩
theorem k4 : FnOk Tryz.prog ioF 101 h4.f := ⟨Tryz.f101, Tryz.func101, by kernel_rfl, by kernel_rfl, by kernel_rfl⟩
/-- laws_szChunk -/
def h5 : HFn := ⟨20, [], 2,
  (q3 (qr [qx 2 0, qk 4 z64])
(q3 (qr [qm 5 1, qf 6 0 2, ql 7 6, ql' 8 1 7, qb 9 .sub 5 8, qa 1 9])
(q3 (q3 (qr [qm 10 1, qB 11 .lss 10 .i64 0])
(.cond (.t 11)
(qR 4 (.i .i64 (-1)))
.skip))
(q3 (qr [qm 12 1, qf 13 5 2, ql 14 13, ql' 15 1 14, qb 16 .sub 12 15, qa 1 16])
(q3 (q3 (qr [qm 17 1, qB 18 .lss 17 .i64 0])
(.cond (.t 18)
(qR 4 (.i .i64 (-1)))
.skip))
(q3 (qr [qm 19 1, qa 4 19])
.ret)))))),
  [(none, 4)], none⟩
theorem k5 : FnOk Tryz.prog ioF 59 h5.f := ⟨Tryz.f59, Tryz.func59, by kernel_rfl, by kernel_rfl, by kernel_rfl⟩
/-- laws_szChunkS -/
def h6 : HFn := ⟨27, [], 2,
  (q3 (qr [qk 4 z64])
(q3 (qr [qm 6 1, qm 7 0, ql' 8 0 7, qb 9 .sub 6 8, qa 1 9])
(q3 (q3 (qr [qm 10 1, qB 11 .lss 10 .i64 0])
(.cond (.t 11)
(qR 4 (.i .i64 (-1)))
.skip))
(q3 (q3 (qr [qk 5 z64])
(.block 0 (.loop [0, 1, 5] [(0, .inv), (1, li), (5, li)] [(.exit 0, [(1, li)]), (.ret, [(1, li), (4, li)])]
(q3 (q3 (qr [qm 12 5, qm 13 0, ql' 14 0 13, qb 15 .lss 12 14])
(.cond (.t 15)
.skip
(.exit 0)))
(q3 (.block 1 (q3 (qr [qm 18 0, qm 19 5, qi 20 6 18 19, qL 21 6 20, qm 22 1, qc 23 59 [21, 22], qa 1 23])
(q3 (qr [qm 24 1, qB 25 .lss 24 .i64 0])
(.cond (.t 25)
(qR 4 (.i .i64 (-1)))
.skip))))
(qr [qm 16 5, qB 17 .add 16 .i64 1, qa 5 17]))))))
(q3 (qr [qm 26 1, qa 4 26])
.ret))))),
  [(none, 4)], none⟩
theorem k6 : FnOk Tryz.prog ioF 56 h6.f := ⟨Tryz.f56, Tryz.func56, by kernel_rfl, by kernel_rfl, by kernel_rfl⟩
/-- laws_szPgState -/
def h7 : HFn := ⟨30, [], 2,
  (q3 (qr [qx 2 0, qk 4 z64])
(q3 (qr [qf 5 6 2, ql 6 5, qm 7 1, qc 8 99 [6, 7], qa 1 8])
(q3 (q3 (qr [qm 9 1, qB 10 .lss 9 .i64 0])
(.cond (.t 10)
(qR 4 (.i .i64 (-1)))
.skip))
(q3 (qr [qf 11 7 2, ql 12 11, qm 13 1, qc 14 100 [12, 13], qa 1 14])
(q3 (q3 (qr [qm 15 1, qB 16 .lss 15 .i64 0])
(.cond (.t 16)
(qR 4 (.i .i64 (-1)))
.skip))
(q3 (qr [qf 17 8 2, ql 18 17, qm 19 1, qc 20 101 [18, 19], qa 1 20])
(q3 (q3 (qr [qm 21 1, qB 22 .lss 21 .i64 0])
(.cond (.t 22)
(qR 4 (.i .i64 (-1)))
.skip))
(q3 (qr [qf 23 11 2, ql 24 23, qm 25 1, qc 26 56 [24, 25], qa 1 26])
(q3 (q3 (qr [qm 27 1, qB 28 .lss 27 .i64 0])
(.cond (.t 28)
(qR 4 (.i .i64 (-1)))
.skip))
(q3 (qr [qm 29 1, qa 4 29])
.ret)))))))))),
  [(none, 4)], none⟩
theorem k7 : FnOk Tryz.prog ioF 51 h7.f := ⟨Tryz.f51, Tryz.func51, by kernel_rfl, by kernel_rfl, by kernel_rfl⟩
/-- laws_szPgStateS -/
def h8 : HFn := ⟨27, [], 2,
  (q3 (qr [qk 4 z64])
(q3 (qr [qm 6 1, qm 7 0, ql' 8 0 7, qb 9 .sub 6 8, qa 1 9])
(q3 (q3 (qr [qm 10 1, qB 11 .lss 10 .i64 0])
(.cond (.t 11)
(qR 4 (.i .i64 (-1)))
.skip))
(q3 (q3 (qr [qk 5 z64])
(.block 0 (.loop [0, 1, 5] [(0, .inv), (1, li), (5, li)] [(.exit 0, [(1, li)]), (.ret, [(1, li), (4, li)])]
(q3 (q3 (qr [qm 12 5, qm 13 0, ql' 14 0 13, qb 15 .lss 12 14])
(.cond (.t 15)
.skip
(.exit 0)))
(q3 (.block 1 (q3 (qr [qm 18 0, qm 19 5, qi 20 12 18 19, qL 21 12 20, qm 22 1, qc 23 51 [21, 22], qa 1 23])
(q3 (qr [qm 24 1, qB 25 .lss 24 .i64 0])
(.cond (.t 25)
(qR 4 (.i .i64 (-1)))
.skip))))
(qr [qm 16 5, qB 17 .add 16 .i64 1, qa 5 17]))))))
(q3 (qr [qm 26 1, qa 4 26])
.ret))))),
  [(none, 4)], none⟩
theorem k8 : FnOk Tryz.prog ioF 26 h8.f := ⟨Tryz.f26, Tryz.func26, by kernel_rfl, by kernel_rfl, by kernel_rfl⟩
/-- laws_szStore -/
def h9 : HFn := ⟨18, [], 2,
  (q3 (qr [qx 2 0, qk 4 z64])
(q3 (qr [qf 5 0 2, ql 6 5, qm 7 1, qc 8 26 [6, 7], qa 1 8])
(q3 (q3 (qr [qm 9 1, qB 10 .lss 9 .i64 0])
(.cond (.t 10)
(qR 4 (.i .i64 (-1)))
.skip))
(q3 (qr [qf 11 1 2, ql 12 11, qm 13 1, qc 14 26 [12, 13], qa 1 14])
(q3 (q3 (qr [qm 15 1, qB 16 .lss 15 .i64 0])
(.cond (.t 16)
(qR 4 (.i .i64 (-1)))
.skip))
(q3 (qr [qm 17 1, qa 4 17])
.ret)))))),
  [(none, 4)], none⟩
theorem k9 : FnOk Tryz.prog ioF 9 h9.f := ⟨Tryz.f9, Tryz.func9, by kernel_rfl, by kernel_rfl, by kernel_rfl⟩
/-- laws_szInt64S -/
def h10 : HFn := ⟨12, [], 2,
  (q3 (qr [qk 4 z64])
(q3 (qr [qm 5 1, qm 6 0, ql' 7 0 6, qb 8 .sub 5 7, qa 1 8])
(q3 (q3 (qr [qm 9 1, qB 10 .lss 9 .i64 0])
(.cond (.t 10)
(qR 4 (.i .i64 (-1)))
.skip))
(q3 (qr [qm 11 1, qa 4 11])
.ret)))),
  [(none, 4)], none⟩
theorem k10 : FnOk Tryz.prog ioF 52 h10.f := ⟨Tryz.f52, Tryz.func52, by kernel_rfl, by kernel_rfl, by kernel_rfl⟩
/-- laws_szInterval -/
def h11 : HFn := ⟨12, [], 2,
  (q3 (qr [qx 2 0, qk 4 z64])
(q3 (qr [qf 5 2 2, ql 6 5, qm 7 1, qc 8 52 [6, 7], qa 1 8])
(q3 (q3 (qr [qm 9 1, qB 10 .lss 9 .i64 0])
(.cond (.t 10)
(qR 4 (.i .i64 (-1)))
.skip))
(q3 (qr [qm 11 1, qa 4 11])
.ret)))),
  [(none, 4)], none⟩
theorem k11 : FnOk Tryz.prog ioF 102 h11.f := ⟨Tryz.f102, Tryz.func102, by kernel_rfl, by kernel_rfl, by kernel_rfl⟩
/-- laws_szIntervalS -/
def h12 : HFn := ⟨27, [], 2,
  (q3 (qr [qk 4 z64])
(q3 (qr [qm 6 1, qm 7 0, ql' 8 0 7, qb 9 .sub 6 8, qa 1 9])
(q3 (q3 (qr [qm 10 1, qB 11 .lss 10 .i64 0])
(.cond (.t 11)
(qR 4 (.i .i64 (-1)))
.skip))
(q3 (q3 (qr [qk 5 z64])
(.block 0 (.loop [0, 1, 5] [(0, .inv), (1, li), (5, li)] [(.exit 0, [(1, li)]), (.ret, [(1, li), (4, li)])]
(q3 (q3 (qr [qm 12 5, qm 13 0, ql' 14 0 13, qb 15 .lss 12 14])
(.cond (.t 15)
.skip
(.exit 0)))
(q3 (.block 1 (q3 (qr [qm 18 0, qm 19 5, qi 20 4 18 19, qL 21 4 20, qm 22 1, qc 23 102 [21, 22], qa 1 23])
(q3 (qr [qm 24 1, qB 25 .lss 24 .i64 0])
(.cond (.t 25)
(qR 4 (.i .i64 (-1)))
.skip))))
(qr [qm 16 5, qB 17 .add 16 .i64 1, qa 5 17]))))))
(q3 (qr [qm 26 1, qa 4 26])
.ret))))),
  [(none, 4)], none⟩
theorem k12 : FnOk Tryz.prog ioF 53 h12.f := ⟨Tryz.f53, Tryz.func53, by kernel_rfl, by kernel_rfl, by kernel_rfl⟩
/-- laws_szNotice -/
def h13 : HFn := ⟨12, [], 2,
  (q3 (qr [qx 2 0, qk 4 z64])
(q3 (qr [qf 5 1 2, qL 6 12 5, qm 7 1, qc 8 51 [6, 7], qa 1 8])
(q3 (q3 (qr [qm 9 1, qB 10 .lss 9 .i64 0])
(.cond (.t 10)
(qR 4 (.i .i64 (-1)))
.skip))
(q3 (qr [qm 11 1, qa 4 11])
.ret)))),
  [(none, 4)], none⟩
theorem k13 : FnOk Tryz.prog ioF 103 h13.f := ⟨Tryz.f103, Tryz.func103, by kernel_rfl, by kernel_rfl, by kernel_rfl⟩
/-- laws_szNoticeS -/
def h14 : HFn := ⟨27, [], 2,
  (q3 (qr [qk 4 z64])
(q3 (qr [qm 6 1, qm 7 0, ql' 8 0 7, qb 9 .sub 6 8, qa 1 9])
(q3 (q3 (qr [qm 10 1, qB 11 .lss 10 .i64 0])
(.cond (.t 11)
(qR 4 (.i .i64 (-1)))
.skip))
(q3 (q3 (qr [qk 5 z64])
(.block 0 (.loop [0, 1, 5] [(0, .inv), (1, li), (5, li)] [(.exit 0, [(1, li)]), (.ret, [(1, li), (4, li)])]
(q3 (q3 (qr [qm 12 5, qm 13 0, ql' 14 0 13, qb 15 .lss 12 14])
(.cond (.t 15)
.skip
(.exit 0)))
(q3 (.block 1 (q3 (qr [qm 18 0, qm 19 5, qi 20 13 18 19, qL 21 13 20, qm 22 1, qc 23 103 [21, 22], qa 1 23])
(q3 (qr [qm 24 1, qB 25 .lss 24 .i64 0])
(.cond (.t 25)
(qR 4 (.i .i64 (-1)))
.skip))))
(qr [qm 16 5, qB 17 .add 16 .i64 1, qa 5 17]))))))
(q3 (qr [qm 26 1, qa 4 26])
.ret))))),
  [(none, 4)], none⟩
theorem k14 : FnOk Tryz.prog ioF 54 h14.f := ⟨Tryz.f54, Tryz.func54, by kernel_rfl, by kernel_rfl, by kernel_rfl⟩
/-- laws_szFill -/
def h15 : HFn := ⟨12, [], 2,
  (q3 (qr [qx 2 0, qk 4 z64])
(q3 (qr [qf 5 2 2, qL 6 5 5, qm 7 1, qc 8 127 [6, 7], qa 1 8])
(q3 (q3 (qr [qm 9 1, qB 10 .lss 9 .i64 0])
(.cond (.t 10)
(qR 4 (.i .i64 (-1)))
.skip))
(q3 (qr [qm 11 1, qa 4 11])
.ret)))),
  [(none, 4)], none⟩
theorem k15 : FnOk Tryz.prog ioF 104 h15.f := ⟨Tryz.f104, Tryz.func104, by kernel_rfl, by kernel_rfl, by kernel_rfl⟩
/-- laws_szFillS -/
def h16 : HFn := ⟨27, [], 2,
  (q3 (qr [qk 4 z64])
(q3 (qr [qm 6 1, qm 7 0, ql' 8 0 7, qb 9 .sub 6 8, qa 1 9])
(q3 (q3 (qr [qm 10 1, qB 11 .lss 10 .i64 0])
(.cond (.t 11)
(qR 4 (.i .i64 (-1)))
.skip))
(q3 (q3 (qr [qk 5 z64])
(.block 0 (.loop [0, 1, 5] [(0, .inv), (1, li), (5, li)] [(.exit 0, [(1, li)]), (.ret, [(1, li), (4, li)])]
(q3 (q3 (qr [qm 12 5, qm 13 0, ql' 14 0 13, qb 15 .lss 12 14])
(.cond (.t 15)
.skip
(.exit 0)))
(q3 (.block 1 (q3 (qr [qm 18 0, qm 19 5, qi 20 7 18 19, qL 21 7 20, qm 22 1, qc 23 104 [21, 22], qa 1 23])
(q3 (qr [qm 24 1, qB 25 .lss 24 .i64 0])
(.cond (.t 25)
(qR 4 (.i .i64 (-1)))
.skip))))
(qr [qm 16 5, qB 17 .add 16 .i64 1, qa 5 17]))))))
(q3 (qr [qm 26 1, qa 4 26])
.ret))))),
  [(none, 4)], none⟩
theorem k16 : FnOk Tryz.prog ioF 55 h16.f := ⟨Tryz.f55, Tryz.func55, by kernel_rfl, by kernel_rfl, by kernel_rfl⟩
/-- laws_szWay -/
def h17 : HFn := ⟨19, [], 2,
  (q3 (qr [qx 2 0, qk 4 z64])
(q3 (qr [qf 5 0 2, qL 6 10 5, qm 7 1, qc 8 58 [6, 7], qa 1 8])
(q3 (q3 (qr [qm 9 1, qB 10 .lss 9 .i64 0])
(.cond (.t 10)
(qR 4 (.i .i64 (-1)))
.skip))
(q3 (qr [qm 11 1, qf 12 10 2, ql 13 12, ql' 14 1 13, qb 15 .sub 11 14, qa 1 15])
(q3 (q3 (qr [qm 16 1, qB 17 .lss 16 .i64 0])
(.cond (.t 17)
(qR 4 (.i .i64 (-1)))
.skip))
(q3 (qr [qm 18 1, qa 4 18])
.ret)))))),
  [(none, 4)], none⟩
theorem k17 : FnOk Tryz.prog ioF 128 h17.f := ⟨Tryz.f128, Tryz.func128, by kernel_rfl, by kernel_rfl, by kernel_rfl⟩
/-- laws_szWayS -/
def h18 : HFn := ⟨27, [], 2,
  (q3 (qr [qk 4 z64])
(q3 (qr [qm 6 1, qm 7 0, ql' 8 0 7, qb 9 .sub 6 8, qa 1 9])
(q3 (q3 (qr [qm 10 1, qB 11 .lss 10 .i64 0])
(.cond (.t 11)
(qR 4 (.i .i64 (-1)))
.skip))
(q3 (q3 (qr [qk 5 z64])
(.block 0 (.loop [0, 1, 5] [(0, .inv), (1, li), (5, li)] [(.exit 0, [(1, li)]), (.ret, [(1, li), (4, li)])]
(q3 (q3 (qr [qm 12 5, qm 13 0, ql' 14 0 13, qb 15 .lss 12 14])
(.cond (.t 15)
.skip
(.exit 0)))
(q3 (.block 1 (q3 (qr [qm 18 0, qm 19 5, qi 20 11 18 19, qL 21 11 20, qm 22 1, qc 23 128 [21, 22], qa 1 23])
(q3 (qr [qm 24 1, qB 25 .lss 24 .i64 0])
(.cond (.t 25)
(qR 4 (.i .i64 (-1)))
.skip))))
(qr [qm 16 5, qB 17 .add 16 .i64 1, qa 5 17]))))))
(q3 (qr [qm 26 1, qa 4 26])
.ret))))),
  [(none, 4)], none⟩
theorem k18 : FnOk Tryz.prog ioF 105 h18.f := ⟨Tryz.f105, Tryz.func105, by kernel_rfl, by kernel_rfl, by kernel_rfl⟩
/-- laws_szAckS -/
def h19 : HFn := ⟨12, [], 2,
  (q3 (qr [qk 4 z64])
(q3 (qr [qm 5 1, qm 6 0, ql' 7 0 6, qb 8 .sub 5 7, qa 1 8])
(q3 (q3 (qr [qm 9 1, qB 10 .lss 9 .i64 0])
(.cond (.t 10)
(qR 4 (.i .i64 (-1)))
.skip))
(q3 (qr [qm 11 1, qa 4 11])
.ret)))),
  [(none, 4)], none⟩
theorem k19 : FnOk Tryz.prog ioF 106 h19.f := ⟨Tryz.f106, Tryz.func106, by kernel_rfl, by kernel_rfl, by kernel_rfl⟩
/-- laws_szGot -/
def h20 : HFn := ⟨18, [], 2,
  (q3 (qr [qx 2 0, qk 4 z64])
(q3 (qr [qf 5 1 2, qL 6 10 5, qm 7 1, qc 8 58 [6, 7], qa 1 8])
(q3 (q3 (qr [qm 9 1, qB 10 .lss 9 .i64 0])
(.cond (.t 10)
(qR 4 (.i .i64 (-1)))
.skip))
(q3 (qr [qf 11 11 2, qL 12 6 11, qm 13 1, qc 14 59 [12, 13], qa 1 14])
(q3 (q3 (qr [qm 15 1, qB 16 .lss 15 .i64 0])
(.cond (.t 16)
(qR 4 (.i .i64 (-1)))
.skip))
(q3 (qr [qm 17 1, qa 4 17])
.ret)))))),
  [(none, 4)], none⟩
theorem k20 : FnOk Tryz.prog ioF 143 h20.f := ⟨Tryz.f143, Tryz.func143, by kernel_rfl, by kernel_rfl, by kernel_rfl⟩
/-- laws_szGotS -/
def h21 : HFn := ⟨27, [], 2,
  (q3 (qr [qk 4 z64])
(q3 (qr [qm 6 1, qm 7 0, ql' 8 0 7, qb 9 .sub 6 8, qa 1 9])
(q3 (q3 (qr [qm 10 1, qB 11 .lss 10 .i64 0])
(.cond (.t 11)
(qR 4 (.i .i64 (-1)))
.skip))
(q3 (q3 (qr [qk 5 z64])
(.block 0 (.loop [0, 1, 5] [(0, .inv), (1, li), (5, li)] [(.exit 0, [(1, li)]), (.ret, [(1, li), (4, li)])]
(q3 (q3 (qr [qm 12 5, qm 13 0, ql' 14 0 13, qb 15 .lss 12 14])
(.cond (.t 15)
.skip
(.exit 0)))
(q3 (.block 1 (q3 (qr [qm 18 0, qm 19 5, qi 20 17 18 19, qL 21 17 20, qm 22 1, qc 23 143 [21, 22], qa 1 23])
(q3 (qr [qm 24 1, qB 25 .lss 24 .i64 0])
(.cond (.t 25)
(qR 4 (.i .i64 (-1)))
.skip))))
(qr [qm 16 5, qB 17 .add 16 .i64 1, qa 5 17]))))))
(q3 (qr [qm 26 1, qa 4 26])
.ret))))),
  [(none, 4)], none⟩
theorem k21 : FnOk Tryz.prog ioF 140 h21.f := ⟨Tryz.f140, Tryz.func140, by kernel_rfl, by kernel_rfl, by kernel_rfl⟩
/-- laws_szWait -/
def h22 : HFn := ⟨19, [], 2,
  (q3 (qr [qx 2 0, qk 4 z64])
(q3 (qr [qm 5 1, qf 6 2 2, ql 7 6, ql' 8 1 7, qb 9 .sub 5 8, qa 1 9])
(q3 (q3 (qr [qm 10 1, qB 11 .lss 10 .i64 0])
(.cond (.t 11)
(qR 4 (.i .i64 (-1)))
.skip))
(q3 (qr [qf 12 5 2, ql 13 12, qm 14 1, qc 15 140 [13, 14], qa 1 15])
(q3 (q3 (qr [qm 16 1, qB 17 .lss 16 .i64 0])
(.cond (.t 17)
(qR 4 (.i .i64 (-1)))
.skip))
(q3 (qr [qm 18 1, qa 4 18])
.ret)))))),
  [(none, 4)], none⟩
theorem k22 : FnOk Tryz.prog ioF 129 h22.f := ⟨Tryz.f129, Tryz.func129, by kernel_rfl, by kernel_rfl, by kernel_rfl⟩
/-- laws_szWaitS -/
def h23 : HFn := ⟨27, [], 2,
  (q3 (qr [qk 4 z64])
(q3 (qr [qm 6 1, qm 7 0, ql' 8 0 7, qb 9 .sub 6 8, qa 1 9])
(q3 (q3 (qr [qm 10 1, qB 11 .lss 10 .i64 0])
(.cond (.t 11)
(qR 4 (.i .i64 (-1)))
.skip))
(q3 (q3 (qr [qk 5 z64])
(.block 0 (.loop [0, 1, 5] [(0, .inv), (1, li), (5, li)] [(.exit 0, [(1, li)]), (.ret, [(1, li), (4, li)])]
(q3 (q3 (qr [qm 12 5, qm 13 0, ql' 14 0 13, qb 15 .lss 12 14])
(.cond (.t 15)
.skip
(.exit 0)))
(q3 (.block 1 (q3 (qr [qm 18 0, qm 19 5, qi 20 6 18 19, qL 21 6 20, qm 22 1, qc 23 129 [21, 22], qa 1 23])
(q3 (qr [qm 24 1, qB 25 .lss 24 .i64 0])
(.cond (.t 25)
(qR 4 (.i .i64 (-1)))
.skip))))
(qr [qm 16 5, qB 17 .add 16 .i64 1, qa 5 17]))))))
(q3 (qr [qm 26 1, qa 4 26])
.ret))))),
  [(none, 4)], none⟩
theorem k23 : FnOk Tryz.prog ioF 107 h23.f := ⟨Tryz.f107, Tryz.func107, by kernel_rfl, by kernel_rfl, by kernel_rfl⟩
/-- laws_szLine -/
def h24 : HFn := ⟨36, [], 2,
  (q3 (qr [qx 2 0, qk 4 z64])
(q3 (qr [qf 5 3 2, ql 6 5, qm 7 1, qc 8 52 [6, 7], qa 1 8])
(q3 (q3 (qr [qm 9 1, qB 10 .lss 9 .i64 0])
(.cond (.t 10)
(qR 4 (.i .i64 (-1)))
.skip))
(q3 (qr [qf 11 4 2, qL 12 12 11, qm 13 1, qc 14 51 [12, 13], qa 1 14])
(q3 (q3 (qr [qm 15 1, qB 16 .lss 15 .i64 0])
(.cond (.t 16)
(qR 4 (.i .i64 (-1)))
.skip))
(q3 (qr [qf 17 16 2, ql 18 17, qm 19 1, qc 20 105 [18, 19], qa 1 20])
(q3 (q3 (qr [qm 21 1, qB 22 .lss 21 .i64 0])
(.cond (.t 22)
(qR 4 (.i .i64 (-1)))
.skip))
(q3 (qr [qf 23 17 2, ql 24 23, qm 25 1, qc 26 106 [24, 25], qa 1 26])
(q3 (q3 (qr [qm 27 1, qB 28 .lss 27 .i64 0])
(.cond (.t 28)
(qR 4 (.i .i64 (-1)))
.skip))
(q3 (qr [qf 29 18 2, ql 30 29, qm 31 1, qc 32 107 [30, 31], qa 1 32])
(q3 (q3 (qr [qm 33 1, qB 34 .lss 33 .i64 0])
(.cond (.t 34)
(qR 4 (.i .i64 (-1)))
.skip))
(q3 (qr [qm 35 1, qa 4 35])
.ret)))))))))))),
  [(none, 4)], none⟩
theorem k24 : FnOk Tryz.prog ioF 57 h24.f := ⟨Tryz.f57, Tryz.func57, by kernel_rfl, by kernel_rfl, by kernel_rfl⟩
/-- laws_szLead -/
def h25 : HFn := ⟨54, [], 2,
  (q3 (qr [qx 2 0, qk 4 z64])
(q3 (qr [qf 5 6 2, ql 6 5, qm 7 1, qc 8 52 [6, 7], qa 1 8])
(q3 (q3 (qr [qm 9 1, qB 10 .lss 9 .i64 0])
(.cond (.t 10)
(qR 4 (.i .i64 (-1)))
.skip))
(q3 (qr [qf 11 7 2, ql 12 11, qm 13 1, qc 14 53 [12, 13], qa 1 14])
(q3 (q3 (qr [qm 15 1, qB 16 .lss 15 .i64 0])
(.cond (.t 16)
(qR 4 (.i .i64 (-1)))
.skip))
(q3 (qr [qf 17 8 2, ql 18 17, qm 19 1, qc 20 54 [18, 19], qa 1 20])
(q3 (q3 (qr [qm 21 1, qB 22 .lss 21 .i64 0])
(.cond (.t 22)
(qR 4 (.i .i64 (-1)))
.skip))
(q3 (qr [qf 23 9 2, qL 24 12 23, qm 25 1, qc 26 51 [24, 25], qa 1 26])
(q3 (q3 (qr [qm 27 1, qB 28 .lss 27 .i64 0])
(.cond (.t 28)
(qR 4 (.i .i64 (-1)))
.skip))
(q3 (qr [qf 29 21 2, ql 30 29, qm 31 1, qc 32 55 [30, 31], qa 1 32])
(q3 (q3 (qr [qm 33 1, qB 34 .lss 33 .i64 0])
(.cond (.t 34)
(qR 4 (.i .i64 (-1)))
.skip))
(q3 (qr [qf 35 22 2, ql 36 35, qm 37 1, qc 38 56 [36, 37], qa 1 38])
(q3 (q3 (qr [qm 39 1, qB 40 .lss 39 .i64 0])
(.cond (.t 40)
(qR 4 (.i .i64 (-1)))
.skip))
(q3 (qr [qf 41 23 2, ql 42 41, qm 43 1, qc 44 52 [42, 43], qa 1 44])
(q3 (q3 (qr [qm 45 1, qB 46 .lss 45 .i64 0])
(.cond (.t 46)
(qR 4 (.i .i64 (-1)))
.skip))
(q3 (qr [qf 47 24 2, qL 48 19 47, qm 49 1, qc 50 57 [48, 49], qa 1 50])
(q3 (q3 (qr [qm 51 1, qB 52 .lss 51 .i64 0])
(.cond (.t 52)
(qR 4 (.i .i64 (-1)))
.skip))
(q3 (qr [qm 53 1, qa 4 53])
.ret)))))))))))))))))),
  [(none, 4)], none⟩
theorem k25 : FnOk Tryz.prog ioF 27 h25.f := ⟨Tryz.f27, Tryz.func27, by kernel_rfl, by kernel_rfl, by kernel_rfl⟩
/-- laws_szLeadS -/
def h26 : HFn := ⟨27, [], 2,
  (q3 (qr [qk 4 z64])
(q3 (qr [qm 6 1, qm 7 0, ql' 8 0 7, qb 9 .sub 6 8, qa 1 9])
(q3 (q3 (qr [qm 10 1, qB 11 .lss 10 .i64 0])
(.cond (.t 11)
(qR 4 (.i .i64 (-1)))
.skip))
(q3 (q3 (qr [qk 5 z64])
(.block 0 (.loop [0, 1, 5] [(0, .inv), (1, li), (5, li)] [(.exit 0, [(1, li)]), (.ret, [(1, li), (4, li)])]
(q3 (q3 (qr [qm 12 5, qm 13 0, ql' 14 0 13, qb 15 .lss 12 14])
(.cond (.t 15)
.skip
(.exit 0)))
(q3 (.block 1 (q3 (qr [qm 18 0, qm 19 5, qi 20 43 18 19, qL 21 43 20, qm 22 1, qc 23 27 [21, 22], qa 1 23])
(q3 (qr [qm 24 1, qB 25 .lss 24 .i64 0])
(.cond (.t 25)
(qR 4 (.i .i64 (-1)))
.skip))))
(qr [qm 16 5, qB 17 .add 16 .i64 1, qa 5 17]))))))
(q3 (qr [qm 26 1, qa 4 26])
.ret))))),
  [(none, 4)], none⟩
theorem k26 : FnOk Tryz.prog ioF 10 h26.f := ⟨Tryz.f10, Tryz.func10, by kernel_rfl, by kernel_rfl, by kernel_rfl⟩
/-- laws_szOp -/
def h27 : HFn := ⟨13, [], 2,
  (q3 (qr [qx 2 0, qk 4 z64])
(q3 (qr [qm 5 1, qf 6 2 2, ql 7 6, ql' 8 1 7, qb 9 .sub 5 8, qa 1 9])
(q3 (q3 (qr [qm 10 1, qB 11 .lss 10 .i64 0])
(.cond (.t 11)
(qR 4 (.i .i64 (-1)))
.skip))
(q3 (qr [qm 12 1, qa 4 12])
.ret)))),
  [(none, 4)], none⟩
theorem k27 : FnOk Tryz.prog ioF 60 h27.f := ⟨Tryz.f60, Tryz.func60, by kernel_rfl, by kernel_rfl, by kernel_rfl⟩
/-- laws_szMsg -/
def h28 : HFn := ⟨44, [], 2,
  (q3 (qr [qx 2 0, qk 4 z64])
(q3 (qr [qm 5 1, qf 6 6 2, ql 7 6, ql' 8 1 7, qb 9 .sub 5 8, qa 1 9])
(q3 (q3 (qr [qm 10 1, qB 11 .lss 10 .i64 0])
(.cond (.t 11)
(qR 4 (.i .i64 (-1)))
.skip))
(q3 (qr [qf 12 11 2, qL 13 12 12, qm 14 1, qc 15 51 [13, 14], qa 1 15])
(q3 (q3 (qr [qm 16 1, qB 17 .lss 16 .i64 0])
(.cond (.t 17)
(qR 4 (.i .i64 (-1)))
.skip))
(q3 (qr [qf 18 23 2, qL 19 10 18, qm 20 1, qc 21 58 [19, 20], qa 1 21])
(q3 (q3 (qr [qm 22 1, qB 23 .lss 22 .i64 0])
(.cond (.t 23)
(qR 4 (.i .i64 (-1)))
.skip))
(q3 (qr [qf 24 33 2, qL 25 6 24, qm 26 1, qc 27 59 [25, 26], qa 1 27])
(q3 (q3 (qr [qm 28 1, qB 29 .lss 28 .i64 0])
(.cond (.t 29)
(qR 4 (.i .i64 (-1)))
.skip))
(q3 (qr [qf 30 39 2, qL 31 3 30, qm 32 1, qc 33 60 [31, 32], qa 1 33])
(q3 (q3 (qr [qm 34 1, qB 35 .lss 34 .i64 0])
(.cond (.t 35)
(qR 4 (.i .i64 (-1)))
.skip))
(q3 (qr [qm 36 1, qf 37 45 2, ql 38 37, ql' 39 1 38, qb 40 .sub 36 39, qa 1 40])
(q3 (q3 (qr [qm 41 1, qB 42 .lss 41 .i64 0])
(.cond (.t 42)
(qR 4 (.i .i64 (-1)))
.skip))
(q3 (qr [qm 43 1, qa 4 43])
.ret)))))))))))))),
  [(none, 4)], none⟩
theorem k28 : FnOk Tryz.prog ioF 28 h28.f := ⟨Tryz.f28, Tryz.func28, by kernel_rfl, by kernel_rfl, by kernel_rfl⟩
/-- laws_szMsgS -/
def h29 : HFn := ⟨27, [], 2,
  (q3 (qr [qk 4 z64])
(q3 (qr [qm 6 1, qm 7 0, ql' 8 0 7, qb 9 .sub 6 8, qa 1 9])
(q3 (q3 (qr [qm 10 1, qB 11 .lss 10 .i64 0])
(.cond (.t 11)
(qR 4 (.i .i64 (-1)))
.skip))
(q3 (q3 (qr [qk 5 z64])
(.block 0 (.loop [0, 1, 5] [(0, .inv), (1, li), (5, li)] [(.exit 0, [(1, li)]), (.ret, [(1, li), (4, li)])]
(q3 (q3 (qr [qm 12 5, qm 13 0, ql' 14 0 13, qb 15 .lss 12 14])
(.cond (.t 15)
.skip
(.exit 0)))
(q3 (.block 1 (q3 (qr [qm 18 0, qm 19 5, qi 20 46 18 19, qL 21 46 20, qm 22 1, qc 23 28 [21, 22], qa 1 23])
(q3 (qr [qm 24 1, qB 25 .lss 24 .i64 0])
(.cond (.t 25)
(qR 4 (.i .i64 (-1)))
.skip))))
(qr [qm 16 5, qB 17 .add 16 .i64 1, qa 5 17]))))))
(q3 (qr [qm 26 1, qa 4 26])
.ret))))),
  [(none, 4)], none⟩
theorem k29 : FnOk Tryz.prog ioF 11 h29.f := ⟨Tryz.f11, Tryz.func11, by kernel_rfl, by kernel_rfl, by kernel_rfl⟩
/-- laws_szServer -/
def h30 : HFn := ⟨24, [], 2,
  (q3 (qr [qx 2 0, qk 4 z64])
(q3 (qr [qf 5 3 2, qL 6 2 5, qm 7 1, qc 8 9 [6, 7], qa 1 8])
(q3 (q3 (qr [qm 9 1, qB 10 .lss 9 .i64 0])
(.cond (.t 10)
(qR 4 (.i .i64 (-1)))
.skip))
(q3 (qr [qf 11 5 2, ql 12 11, qm 13 1, qc 14 10 [12, 13], qa 1 14])
(q3 (q3 (qr [qm 15 1, qB 16 .lss 15 .i64 0])
(.cond (.t 16)
(qR 4 (.i .i64 (-1)))
.skip))
(q3 (qr [qf 17 6 2, ql 18 17, qm 19 1, qc 20 11 [18, 19], qa 1 20])
(q3 (q3 (qr [qm 21 1, qB 22 .lss 21 .i64 0])
(.cond (.t 22)
(qR 4 (.i .i64 (-1)))
.skip))
(q3 (qr [qm 23 1, qa 4 23])
.ret)))))))),
  [(none, 4)], none⟩
theorem k30 : FnOk Tryz.prog ioF 4 h30.f := ⟨Tryz.f4, Tryz.func4, by kernel_rfl, by kernel_rfl, by kernel_rfl⟩
/-- laws_toPg -/
def h31 : HFn := ⟨11, [], 1,
  (q3 (qr [qx 1 0, qz 2 [z64, z64]])
(q3 (qr [qz 3 [z64, z64]])
(q3 (qr [qf 4 0 1, ql 5 4, qf 6 0 3, qs 1 6 5])
(q3 (qr [qf 7 1 1, ql 8 7, qf 9 1 3, qs 1 9 8])
(q3 (qr [qL 10 2 3, qs 2 2 10])
.ret))))),
  [((some (true, 2)), 2)], none⟩
theorem k31 : FnOk Tryz.prog ioF 64 h31.f := ⟨Tryz.f64, Tryz.func64, by kernel_rfl, by kernel_rfl, by kernel_rfl⟩
/-- laws_toVer -/
def h32 : HFn := ⟨11, [], 1,
  (q3 (qr [qx 1 0, qz 2 [z64, z64]])
(q3 (qr [qz 3 [z64, z64]])
(q3 (qr [qf 4 0 1, ql 5 4, qf 6 0 3, qs 1 6 5])
(q3 (qr [qf 7 1 1, ql 8 7, qf 9 1 3, qs 1 9 8])
(q3 (qr [qL 10 2 3, qs 2 2 10])
.ret))))),
  [((some (true, 2)), 2)], none⟩
theorem k32 : FnOk Tryz.prog ioF 72 h32.f := ⟨Tryz.f72, Tryz.func72, by kernel_rfl, by kernel_rfl, by kernel_rfl⟩
/-- laws_toHead -/
def h33 : HFn := ⟨18, [], 1,
  (q3 (qr [qx 1 0, qz 2 [zs, z64, z64, z64, z64]])
(q3 (qr [qz 3 [zs, z64, z64, z64, z64]])
(q3 (qr [qf 4 0 1, ql 5 4, qf 6 0 3, qs 1 6 5])
(q3 (qr [qf 7 1 1, qL 8 2 7, qc 9 72 [8], qf 10 1 3, qs 2 10 9])
(q3 (qr [qf 11 3 1, ql 12 11, qf 13 3 3, qs 1 13 12])
(q3 (qr [qf 14 4 1, ql 15 14, qf 16 4 3, qs 1 16 15])
(q3 (qr [qL 17 5 3, qs 5 2 17])
.ret))))))),
  [((some (true, 5)), 2)], none⟩
theorem k33 : FnOk Tryz.prog ioF 130 h33.f := ⟨Tryz.f130, Tryz.func130, by kernel_rfl, by kernel_rfl, by kernel_rfl⟩
/-- laws_toHeadS -/
def h34 : HFn := ⟨23, [], 1,
  (q3 (qr [qk 2 (zl 5)])
(q3 (qr [qm 5 0, ql' 6 0 5, (⟨(some 7), [], .mksl 5 [zs, z64, z64, z64, z64] (.t 6), none, [], []⟩, 5), qa 3 7])
(q3 (q3 (qr [qk 4 z64])
(.block 0 (.loop [0, 3, 4] [(0, .inv), (3, .leaf (.sl true 5 .v)), (4, li)] [(.exit 0, [(3, .leaf (.sl true 5 .v))])]
(q3 (q3 (qr [qm 8 4, qm 9 0, ql' 10 0 9, qb 11 .lss 8 10])
(.cond (.t 11)
.skip
(.exit 0)))
(q3 (.block 1 (qr [qm 14 3, qm 15 4, qm 16 0, qm 17 4, qi 18 5 16 17, qL 19 5 18, qc 20 130 [19], qi 21 5 14 15, qs 5 21 20]))
(qr [qm 12 4, qB 13 .add 12 .i64 1, qa 4 13]))))))
(q3 (qr [qm 22 3, qa 2 22])
.ret)))),
  [(none, 2)], none⟩
theorem k34 : FnOk Tryz.prog ioF 108 h34.f := ⟨Tryz.f108, Tryz.func108, by kernel_rfl, by kernel_rfl, by kernel_rfl⟩
/-- laws_toLast -/
def h35 : HFn := ⟨15, [], 1,
  (q3 (qr [qx 1 0, qz 2 [z64, z64, z64, z64]])
(q3 (qr [qz 3 [z64, z64, z64, z64]])
(q3 (qr [qf 4 0 1, ql 5 4, qf 6 0 3, qs 1 6 5])
(q3 (qr [qf 7 1 1, ql 8 7, qf 9 1 3, qs 1 9 8])
(q3 (qr [qf 10 2 1, qL 11 2 10, qc 12 72 [11], qf 13 2 3, qs 2 13 12])
(q3 (qr [qL 14 4 3, qs 4 2 14])
.ret)))))),
  [((some (true, 4)), 2)], none⟩
theorem k35 : FnOk Tryz.prog ioF 131 h35.f := ⟨Tryz.f131, Tryz.func131, by kernel_rfl, by kernel_rfl, by kernel_rfl⟩
/-- laws_toLastS -/
def h36 : HFn := ⟨23, [], 1,
  (q3 (qr [qk 2 (zl 4)])
(q3 (qr [qm 5 0, ql' 6 0 5, (⟨(some 7), [], .mksl 4 [z64, z64, z64, z64] (.t 6), none, [], []⟩, 6), qa 3 7])
(q3 (q3 (qr [qk 4 z64])
(.block 0 (.loop [0, 3, 4] [(0, .inv), (3, .leaf (.sl true 6 .v)), (4, li)] [(.exit 0, [(3, .leaf (.sl true 6 .v))])]
(q3 (q3 (qr [qm 8 4, qm 9 0, ql' 10 0 9, qb 11 .lss 8 10])
(.cond (.t 11)
.skip
(.exit 0)))
(q3 (.block 1 (qr [qm 14 3, qm 15 4, qm 16 0, qm 17 4, qi 18 4 16 17, qL 19 4 18, qc 20 131 [19], qi 21 4 14 15, qs 4 21 20]))
(qr [qm 12 4, qB 13 .add 12 .i64 1, qa 4 13]))))))
(q3 (qr [qm 22 3, qa 2 22])
.ret)))),
  [(none, 2)], none⟩
theorem k36 : FnOk Tryz.prog ioF 109 h36.f := ⟨Tryz.f109, Tryz.func109, by kernel_rfl, by kernel_rfl, by kernel_rfl⟩
/-- laws_toReq -/
def h37 : HFn := ⟨11, [], 1,
  (q3 (qr [qx 1 0, qz 2 [z64, z64]])
(q3 (qr [qz 3 [z64, z64]])
(q3 (qr [qf 4 0 1, ql 5 4, qf 6 0 3, qs 1 6 5])
(q3 (qr [qf 7 1 1, ql 8 7, qf 9 1 3, qs 1 9 8])
(q3 (qr [qL 10 2 3, qs 2 2 10])
.ret))))),
  [((some (true, 2)), 2)], none⟩
theorem k37 : FnOk Tryz.prog ioF 76 h37.f := ⟨Tryz.f76, Tryz.func76, by kernel_rfl, by kernel_rfl, by kernel_rfl⟩
/-- laws_toEntry -/
def h38 : HFn := ⟨29, [], 1,
  (q3 (qr [qx 1 0, qz 2 [z64, z64, z64, z64, zs, (.b false), z64, z64, z64, z64]])
(q3 (qr [qz 3 [z64, z64, z64, z64, zs, (.b false), z64, z64, z64, z64]])
(q3 (qr [qf 4 0 1, qL 5 2 4, qc 6 72 [5], qf 7 0 3, qs 2 7 6])
(q3 (qr [qf 8 2 1, qL 9 2 8, qc 10 72 [9], qf 11 2 3, qs 2 11 10])
(q3 (qr [qf 12 4 1, ql 13 12, qf 14 4 3, qs 1 14 13])
(q3 (qr [qf 15 5 1, ql 16 15, qf 17 5 3, qs 1 17 16])
(q3 (qr [qf 18 6 1, ql 19 18, qf 20 6 3, qs 1 20 19])
(q3 (qr [qf 21 7 1, ql 22 21, qf 23 7 3, qs 1 23 22])
(q3 (qr [qf 24 8 1, qL 25 2 24, qc 26 76 [25], qf 27 8 3, qs 2 27 26])
(q3 (qr [qL 28 10 3, qs 10 2 28])
.ret)))))))))),
  [((some (true, 10)), 2)], none⟩
theorem k38 : FnOk Tryz.prog ioF 73 h38.f := ⟨Tryz.f73, Tryz.func73, by kernel_rfl, by kernel_rfl, by kernel_rfl⟩
/-- laws_toEntryS -/
def h39 : HFn := ⟨23, [], 1,
  (q3 (qr [qk 2 (zl 10)])
(q3 (qr [qm 5 0, ql' 6 0 5, (⟨(some 7), [], .mksl 10 [z64, z64, z64, z64, zs, (.b false), z64, z64, z64, z64] (.t 6), none, [], []⟩, 8), qa 3 7])
(q3 (q3 (qr [qk 4 z64])
(.block 0 (.loop [0, 3, 4] [(0, .inv), (3, .leaf (.sl true 8 .v)), (4, li)] [(.exit 0, [(3, .leaf (.sl true 8 .v))])]
(q3 (q3 (qr [qm 8 4, qm 9 0, ql' 10 0 9, qb 11 .lss 8 10])
(.cond (.t 11)
.skip
(.exit 0)))
(q3 (.block 1 (qr [qm 14 3, qm 15 4, qm 16 0, qm 17 4, qi 18 10 16 17, qL 19 10 18, qc 20 73 [19], qi 21 10 14 15, qs 10 21 20]))
(qr [qm 12 4, qB 13 .add 12 .i64 1, qa 4 13]))))))
(q3 (qr [qm 22 3, qa 2 22])
.ret)))),
  [(none, 2)], none⟩
theorem k39 : FnOk Tryz.prog ioF 110 h39.f := ⟨Tryz.f110, Tryz.func110, by kernel_rfl, by kernel_rfl, by kernel_rfl⟩
/-- laws_toChunk -/
def h40 : HFn := ⟨21, [], 1,
  (q3 (qr [qx 1 0, qz 2 [zs, z64, z64, z64, z64, zs]])
(q3 (qr [qz 3 [zs, z64, z64, z64, z64, zs]])
(q3 (qr [qf 4 0 1, ql 5 4, qf 6 0 3, qs 1 6 5])
(q3 (qr [qf 7 1 1, qL 8 2 7, qc 9 72 [8], qf 10 1 3, qs 2 10 9])
(q3 (qr [qf 11 3 1, ql 12 11, qf 13 3 3, qs 1 13 12])
(q3 (qr [qf 14 4 1, ql 15 14, qf 16 4 3, qs 1 16 15])
(q3 (qr [qf 17 5 1, ql 18 17, qf 19 5 3, qs 1 19 18])
(q3 (qr [qL 20 6 3, qs 6 2 20])
.ret)))))))),
  [((some (true, 6)), 2)], none⟩
theorem k40 : FnOk Tryz.prog ioF 74 h40.f := ⟨Tryz.f74, Tryz.func74, by kernel_rfl, by kernel_rfl, by kernel_rfl⟩
/-- laws_toChunkS -/
def h41 : HFn := ⟨23, [], 1,
  (q3 (qr [qk 2 (zl 6)])
(q3 (qr [qm 5 0, ql' 6 0 5, (⟨(some 7), [], .mksl 6 [zs, z64, z64, z64, z64, zs] (.t 6), none, [], []⟩, 9), qa 3 7])
(q3 (q3 (qr [qk 4 z64])
(.block 0 (.loop [0, 3, 4] [(0, .inv), (3, .leaf (.sl true 9 .v)), (4, li)] [(.exit 0, [(3, .leaf (.sl true 9 .v))])]
(q3 (q3 (qr [qm 8 4, qm 9 0, ql' 10 0 9, qb 11 .lss 8 10])
(.cond (.t 11)
.skip
(.exit 0)))
(q3 (.block 1 (qr [qm 14 3, qm 15 4, qm 16 0, qm 17 4, qi 18 6 16 17, qL 19 6 18, qc 20 74 [19], qi 21 6 14 15, qs 6 21 20]))
(qr [qm 12 4, qB 13 .add 12 .i64 1, qa 4 13]))))))
(q3 (qr [qm 22 3, qa 2 22])
.ret)))),
  [(none, 2)], none⟩
theorem k41 : FnOk Tryz.prog ioF 70 h41.f := ⟨Tryz.f70, Tryz.func70, by kernel_rfl, by kernel_rfl, by kernel_rfl⟩
/-- laws_toPgState -/
def h42 : HFn := ⟨39, [], 1,
  (q3 (qr [qx 1 0, qz 2 [z64, z64, z64, z64, z64, z64, (zl 5), (zl 4), (zl 10), z64, z64, (zl 6)]])
(q3 (qr [qz 3 [z64, z64, z64, z64, z64, z64, (zl 5), (zl 4), (zl 10), z64, z64, (zl 6)]])
(q3 (qr [qf 4 0 1, qL 5 2 4, qc 6 64 [5], qf 7 0 3, qs 2 7 6])
(q3 (qr [qf 8 2 1, ql 9 8, qf 10 2 3, qs 1 10 9])
(q3 (qr [qf 11 3 1, ql 12 11, qf 13 3 3, qs 1 13 12])
(q3 (qr [qf 14 4 1, qL 15 2 14, qc 16 72 [15], qf 17 4 3, qs 2 17 16])
(q3 (qr [qf 18 6 1, ql 19 18, qc 20 108 [19], qf 21 6 3, qs 1 21 20])
(q3 (qr [qf 22 7 1, ql 23 22, qc 24 109 [23], qf 25 7 3, qs 1 25 24])
(q3 (qr [qf 26 8 1, ql 27 26, qc 28 110 [27], qf 29 8 3, qs 1 29 28])
(q3 (qr [qf 30 9 1, qL 31 2 30, qc 32 72 [31], qf 33 9 3, qs 2 33 32])
(q3 (qr [qf 34 11 1, ql 35 34, qc 36 70 [35], qf 37 11 3, qs 1 37 36])
(q3 (qr [qL 38 12 3, qs 12 2 38])
.ret)))))))))))),
  [((some (true, 12)), 2)], none⟩
theorem k42 : FnOk Tryz.prog ioF 63 h42.f := ⟨Tryz.f63, Tryz.func63, by kernel_rfl, by kernel_rfl, by kernel_rfl⟩
/-- laws_toPgStateS -/
def h43 : HFn := ⟨23, [], 1,
  (q3 (qr [qk 2 (zl 12)])
(q3 (qr [qm 5 0, ql' 6 0 5, (⟨(some 7), [], .mksl 12 [z64, z64, z64, z64, z64, z64, (zl 5), (zl 4), (zl 10), z64, z64, (zl 6)] (.t 6), none, [], []⟩, 11), qa 3 7])
(q3 (q3 (qr [qk 4 z64])
(.block 0 (.loop [0, 3, 4] [(0, .inv), (3, .leaf (.sl true 11 .o)), (4, li)] [(.exit 0, [(3, .leaf (.sl true 11 .o))])]
(q3 (q3 (qr [qm 8 4, qm 9 0, ql' 10 0 9, qb 11 .lss 8 10])
(.cond (.t 11)
.skip
(.exit 0)))
(q3 (.block 1 (qr [qm 14 3, qm 15 4, qm 16 0, qm 17 4, qi 18 12 16 17, qL 19 12 18, qc 20 63 [19], qi 21 12 14 15, qs 12 21 20]))
(qr [qm 12 4, qB 13 .add 12 .i64 1, qa 4 13]))))))
(q3 (qr [qm 22 3, qa 2 22])
.ret)))),
  [(none, 2)], none⟩
theorem k43 : FnOk Tryz.prog ioF 35 h43.f := ⟨Tryz.f35, Tryz.func35, by kernel_rfl, by kernel_rfl, by kernel_rfl⟩
/-- laws_toStore -/
def h44 : HFn := ⟨13, [], 1,
  (q3 (qr [qx 1 0, qz 2 [(zl 12), (zl 12)]])
(q3 (qr [qz 3 [(zl 12), (zl 12)]])
(q3 (qr [qf 4 0 1, ql 5 4, qc 6 35 [5], qf 7 0 3, qs 1 7 6])
(q3 (qr [qf 8 1 1, ql 9 8, qc 10 35 [9], qf 11 1 3, qs 1 11 10])
(q3 (qr [qL 12 2 3, qs 2 2 12])
.ret))))),
  [((some (true, 2)), 2)], none⟩
theorem k44 : FnOk Tryz.prog ioF 15 h44.f := ⟨Tryz.f15, Tryz.func15, by kernel_rfl, by kernel_rfl, by kernel_rfl⟩
/-- laws_toCode -/
def h45 : HFn := ⟨11, [], 1,
  (q3 (qr [qx 1 0, qz 2 [z64, z64]])
(q3 (qr [qz 3 [z64, z64]])
(q3 (qr [qf 4 0 1, ql 5 4, qf 6 0 3, qs 1 6 5])
(q3 (qr [qf 7 1 1, ql 8 7, qf 9 1 3, qs 1 9 8])
(q3 (qr [qL 10 2 3, qs 2 2 10])
.ret))))),
  [((some (true, 2)), 2)], none⟩
theorem k45 : FnOk Tryz.prog ioF 65 h45.f := ⟨Tryz.f65, Tryz.func65, by kernel_rfl, by kernel_rfl, by kernel_rfl⟩
/-- laws_toInt64S -/
def h46 : HFn := ⟨22, [], 1,
  (q3 (qr [qk 2 (zl 1)])
(q3 (qr [qm 5 0, ql' 6 0 5, (⟨(some 7), [], .mksl 1 [z64] (.t 6), none, [], []⟩, 14), qa 3 7])
(q3 (q3 (qr [qk 4 z64])
(.block 0 (.loop [0, 3, 4] [(0, lv 14), (3, .leaf (.sl true 14 .v)), (4, li)] [(.exit 0, [(3, .leaf (.sl true 14 .v))])]
(q3 (q3 (qr [qm 8 4, qm 9 0, ql' 10 0 9, qb 11 .lss 8 10])
(.cond (.t 11)
.skip
(.exit 0)))
(q3 (.block 1 (qr [qm 14 3, qm 15 4, qm 16 0, qm 17 4, qi 18 1 16 17, ql 19 18, qi 20 1 14 15, qs 1 20 19]))
(qr [qm 12 4, qB 13 .add 12 .i64 1, qa 4 13]))))))
(q3 (qr [qm 21 3, qa 2 21])
.ret)))),
  [(none, 2)], none⟩
theorem k46 : FnOk Tryz.prog ioF 66 h46.f := ⟨Tryz.f66, Tryz.func66, by kernel_rfl, by kernel_rfl, by kernel_rfl⟩
/-- laws_toInterval -/
def h47 : HFn := ⟨18, [], 1,
  (q3 (qr [qx 1 0, qz 2 [z64, z64, (zl 1), (.b false)]])
(q3 (qr [qz 3 [z64, z64, (zl 1), (.b false)]])
(q3 (qr [qf 4 0 1, ql 5 4, qf 6 0 3, qs 1 6 5])
(q3 (qr [qf 7 1 1, ql 8 7, qf 9 1 3, qs 1 9 8])
(q3 (qr [qf 10 2 1, ql 11 10, qc 12 66 [11], qf 13 2 3, qs 1 13 12])
(q3 (qr [qf 14 3 1, ql 15 14, qf 16 3 3, qs 1 16 15])
(q3 (qr [qL 17 4 3, qs 4 2 17])
.ret))))))),
  [((some (true, 4)), 2)], none⟩
theorem k47 : FnOk Tryz.prog ioF 111 h47.f := ⟨Tryz.f111, Tryz.func111, by kernel_rfl, by kernel_rfl, by kernel_rfl⟩
/-- laws_toIntervalS -/
def h48 : HFn := ⟨23, [], 1,
  (q3 (qr [qk 2 (zl 4)])
(q3 (qr [qm 5 0, ql' 6 0 5, (⟨(some 7), [], .mksl 4 [z64, z64, (zl 1), (.b false)] (.t 6), none, [], []⟩, 15), qa 3 7])
(q3 (q3 (qr [qk 4 z64])
(.block 0 (.loop [0, 3, 4] [(0, .inv), (3, .leaf (.sl true 15 .o)), (4, li)] [(.exit 0, [(3, .leaf (.sl true 15 .o))])]
(q3 (q3 (qr [qm 8 4, qm 9 0, ql' 10 0 9, qb 11 .lss 8 10])
(.cond (.t 11)
.skip
(.exit 0)))
(q3 (.block 1 (qr [qm 14 3, qm 15 4, qm 16 0, qm 17 4, qi 18 4 16 17, qL 19 4 18, qc 20 111 [19], qi 21 4 14 15, qs 4 21 20]))
(qr [qm 12 4, qB 13 .add 12 .i64 1, qa 4 13]))))))
(q3 (qr [qm 22 3, qa 2 22])
.ret)))),
  [(none, 2)], none⟩
theorem k48 : FnOk Tryz.prog ioF 67 h48.f := ⟨Tryz.f67, Tryz.func67, by kernel_rfl, by kernel_rfl, by kernel_rfl⟩
/-- laws_toNotice -/
def h49 : HFn := ⟨12, [], 1,
  (q3 (qr [qx 1 0, qz 2 [z64, z64, z64, z64, z64, z64, z64, (zl 5), (zl 4), (zl 10), z64, z64, (zl 6)]])
(q3 (qr [qz 3 [z64, z64, z64, z64, z64, z64, z64, (zl 5), (zl 4), (zl 10), z64, z64, (zl 6)]])
(q3 (qr [qf 4 0 1, ql 5 4, qf 6 0 3, qs 1 6 5])
(q3 (qr [qf 7 1 1, qL 8 12 7, qc 9 63 [8], qf 10 1 3, qs 12 10 9])
(q3 (qr [qL 11 13 3, qs 13 2 11])
.ret))))),
  [((some (true, 13)), 2)], none⟩
theorem k49 : FnOk Tryz.prog ioF 112 h49.f := ⟨Tryz.f112, Tryz.func112, by kernel_rfl, by kernel_rfl, by kernel_rfl⟩
/-- laws_toNoticeS -/
def h50 : HFn := ⟨23, [], 1,
  (q3 (qr [qk 2 (zl 13)])
(q3 (qr [qm 5 0, ql' 6 0 5, (⟨(some 7), [], .mksl 13 [z64, z64, z64, z64, z64, z64, z64, (zl 5), (zl 4), (zl 10), z64, z64, (zl 6)] (.t 6), none, [], []⟩, 16), qa 3 7])
(q3 (q3 (qr [qk 4 z64])
(.block 0 (.loop [0, 3, 4] [(0, .inv), (3, .leaf (.sl true 16 .o)), (4, li)] [(.exit 0, [(3, .leaf (.sl true 16 .o))])]
(q3 (q3 (qr [qm 8 4, qm 9 0, ql' 10 0 9, qb 11 .lss 8 10])
(.cond (.t 11)
.skip
(.exit 0)))
(q3 (.block 1 (qr [qm 14 3, qm 15 4, qm 16 0, qm 17 4, qi 18 13 16 17, qL 19 13 18, qc 20 112 [19], qi 21 13 14 15, qs 13 21 20]))
(qr [qm 12 4, qB 13 .add 12 .i64 1, qa 4 13]))))))
(q3 (qr [qm 22 3, qa 2 22])
.ret)))),
  [(none, 2)], none⟩
theorem k50 : FnOk Tryz.prog ioF 68 h50.f := ⟨Tryz.f68, Tryz.func68, by kernel_rfl, by kernel_rfl, by kernel_rfl⟩
/-- laws_toFill -/
def h51 : HFn := ⟨15, [], 1,
  (q3 (qr [qx 1 0, qz 2 [z64, z64, zs, z64, z64, z64, z64]])
(q3 (qr [qz 3 [z64, z64, zs, z64, z64, z64, z64]])
(q3 (qr [qf 4 0 1, ql 5 4, qf 6 0 3, qs 1 6 5])
(q3 (qr [qf 7 1 1, ql 8 7, qf 9 1 3, qs 1 9 8])
(q3 (qr [qf 10 2 1, qL 11 5 10, qc 12 130 [11], qf 13 2 3, qs 5 13 12])
(q3 (qr [qL 14 7 3, qs 7 2 14])
.ret)))))),
  [((some (true, 7)), 2)], none⟩
theorem k51 : FnOk Tryz.prog ioF 113 h51.f := ⟨Tryz.f113, Tryz.func113, by kernel_rfl, by kernel_rfl, by kernel_rfl⟩
/-- laws_toFillS -/
def h52 : HFn := ⟨23, [], 1,
  (q3 (qr [qk 2 (zl 7)])
(q3 (qr [qm 5 0, ql' 6 0 5, (⟨(some 7), [], .mksl 7 [z64, z64, zs, z64, z64, z64, z64] (.t 6), none, [], []⟩, 17), qa 3 7])
(q3 (q3 (qr [qk 4 z64])
(.block 0 (.loop [0, 3, 4] [(0, .inv), (3, .leaf (.sl true 17 .v)), (4, li)] [(.exit 0, [(3, .leaf (.sl true 17 .v))])]
(q3 (q3 (qr [qm 8 4, qm 9 0, ql' 10 0 9, qb 11 .lss 8 10])
(.cond (.t 11)
.skip
(.exit 0)))
(q3 (.block 1 (qr [qm 14 3, qm 15 4, qm 16 0, qm 17 4, qi 18 7 16 17, qL 19 7 18, qc 20 113 [19], qi 21 7 14 15, qs 7 21 20]))
(qr [qm 12 4, qB 13 .add 12 .i64 1, qa 4 13]))))))
(q3 (qr [qm 22 3, qa 2 22])
.ret)))),
  [(none, 2)], none⟩
theorem k52 : FnOk Tryz.prog ioF 69 h52.f := ⟨Tryz.f69, Tryz.func69, by kernel_rfl, by kernel_rfl, by kernel_rfl⟩
/-- laws_toWay -/
def h53 : HFn := ⟨12, [], 1,
  (q3 (qr [qx 1 0, qz 2 [z64, z64, z64, z64, zs, (.b false), z64, z64, z64, z64, zs]])
(q3 (qr [qz 3 [z64, z64, z64, z64, zs, (.b false), z64, z64, z64, z64, zs]])
(q3 (qr [qf 4 0 1, qL 5 10 4, qc 6 73 [5], qf 7 0 3, qs 10 7 6])
(q3 (qr [qf 8 10 1, ql 9 8, qf 10 10 3, qs 1 10 9])
(q3 (qr [qL 11 11 3, qs 11 2 11])
.ret))))),
  [((some (true, 11)), 2)], none⟩
theorem k53 : FnOk Tryz.prog ioF 132 h53.f := ⟨Tryz.f132, Tryz.func132, by kernel_rfl, by kernel_rfl, by kernel_rfl⟩
/-- laws_toWayS -/
def h54 : HFn := ⟨23, [], 1,
  (q3 (qr [qk 2 (zl 11)])
(q3 (qr [qm 5 0, ql' 6 0 5, (⟨(some 7), [], .mksl 11 [z64, z64, z64, z64, zs, (.b false), z64, z64, z64, z64, zs] (.t 6), none, [], []⟩, 18), qa 3 7])
(q3 (q3 (qr [qk 4 z64])
(.block 0 (.loop [0, 3, 4] [(0, .inv), (3, .leaf (.sl true 18 .v)), (4, li)] [(.exit 0, [(3, .leaf (.sl true 18 .v))])]
(q3 (q3 (qr [qm 8 4, qm 9 0, ql' 10 0 9, qb 11 .lss 8 10])
(.cond (.t 11)
.skip
(.exit 0)))
(q3 (.block 1 (qr [qm 14 3, qm 15 4, qm 16 0, qm 17 4, qi 18 11 16 17, qL 19 11 18, qc 20 132 [19], qi 21 11 14 15, qs 11 21 20]))
(qr [qm 12 4, qB 13 .add 12 .i64 1, qa 4 13]))))))
(q3 (qr [qm 22 3, qa 2 22])
.ret)))),
  [(none, 2)], none⟩
theorem k54 : FnOk Tryz.prog ioF 114 h54.f := ⟨Tryz.f114, Tryz.func114, by kernel_rfl, by kernel_rfl, by kernel_rfl⟩
/-- laws_toAck -/
def h55 : HFn := ⟨12, [], 1,
  (q3 (qr [qx 1 0, qz 2 [z64, z64, z64]])
(q3 (qr [qz 3 [z64, z64, z64]])
(q3 (qr [qf 4 0 1, ql 5 4, qf 6 0 3, qs 1 6 5])
(q3 (qr [qf 7 1 1, qL 8 2 7, qc 9 72 [8], qf 10 1 3, qs 2 10 9])
(q3 (qr [qL 11 3 3, qs 3 2 11])
.ret))))),
  [((some (true, 3)), 2)], none⟩
theorem k55 : FnOk Tryz.prog ioF 133 h55.f := ⟨Tryz.f133, Tryz.func133, by kernel_rfl, by kernel_rfl, by kernel_rfl⟩
/-- laws_toAckS -/
def h56 : HFn := ⟨23, [], 1,
  (q3 (qr [qk 2 (zl 3)])
(q3 (qr [qm 5 0, ql' 6 0 5, (⟨(some 7), [], .mksl 3 [z64, z64, z64] (.t 6), none, [], []⟩, 19), qa 3 7])
(q3 (q3 (qr [qk 4 z64])
(.block 0 (.loop [0, 3, 4] [(0, .inv), (3, .leaf (.sl true 19 .v)), (4, li)] [(.exit 0, [(3, .leaf (.sl true 19 .v))])]
(q3 (q3 (qr [qm 8 4, qm 9 0, ql' 10 0 9, qb 11 .lss 8 10])
(.cond (.t 11)
.skip
(.exit 0)))
(q3 (.block 1 (qr [qm 14 3, qm 15 4, qm 16 0, qm 17 4, qi 18 3 16 17, qL 19 3 18, qc 20 133 [19], qi 21 3 14 15, qs 3 21 20]))
(qr [qm 12 4, qB 13 .add 12 .i64 1, qa 4 13]))))))
(q3 (qr [qm 22 3, qa 2 22])
.ret)))),
  [(none, 2)], none⟩
theorem k56 : FnOk Tryz.prog ioF 115 h56.f := ⟨Tryz.f115, Tryz.func115, by kernel_rfl, by kernel_rfl, by kernel_rfl⟩
/-- laws_toGot -/
def h57 : HFn := ⟨16, [], 1,
  (q3 (qr [qx 1 0, qz 2 [z64, z64, z64, z64, z64, zs, (.b false), z64, z64, z64, z64, zs, z64, z64, z64, z64, zs]])
(q3 (qr [qz 3 [z64, z64, z64, z64, z64, zs, (.b false), z64, z64, z64, z64, zs, z64, z64, z64, z64, zs]])
(q3 (qr [qf 4 0 1, ql 5 4, qf 6 0 3, qs 1 6 5])
(q3 (qr [qf 7 1 1, qL 8 10 7, qc 9 73 [8], qf 10 1 3, qs 10 10 9])
(q3 (qr [qf 11 11 1, qL 12 6 11, qc 13 74 [12], qf 14 11 3, qs 6 14 13])
(q3 (qr [qL 15 17 3, qs 17 2 15])
.ret)))))),
  [((some (true, 17)), 2)], none⟩
theorem k57 : FnOk Tryz.prog ioF 144 h57.f := ⟨Tryz.f144, Tryz.func144, by kernel_rfl, by kernel_rfl, by kernel_rfl⟩
/-- laws_toGotS -/
def h58 : HFn := ⟨23, [], 1,
  (q3 (qr [qk 2 (zl 17)])
(q3 (qr [qm 5 0, ql' 6 0 5, (⟨(some 7), [], .mksl 17 [z64, z64, z64, z64, z64, zs, (.b false), z64, z64, z64, z64, zs, z64, z64, z64, z64, zs] (.t 6), none, [], []⟩, 20), qa 3 7])
(q3 (q3 (qr [qk 4 z64])
(.block 0 (.loop [0, 3, 4] [(0, .inv), (3, .leaf (.sl true 20 .v)), (4, li)] [(.exit 0, [(3, .leaf (.sl true 20 .v))])]
(q3 (q3 (qr [qm 8 4, qm 9 0, ql' 10 0 9, qb 11 .lss 8 10])
(.cond (.t 11)
.skip
(.exit 0)))
(q3 (.block 1 (qr [qm 14 3, qm 15 4, qm 16 0, qm 17 4, qi 18 17 16 17, qL 19 17 18, qc 20 144 [19], qi 21 17 14 15, qs 17 21 20]))
(qr [qm 12 4, qB 13 .add 12 .i64 1, qa 4 13]))))))
(q3 (qr [qm 22 3, qa 2 22])
.ret)))),
  [(none, 2)], none⟩
theorem k58 : FnOk Tryz.prog ioF 141 h58.f := ⟨Tryz.f141, Tryz.func141, by kernel_rfl, by kernel_rfl, by kernel_rfl⟩
/-- laws_toWait -/
def h59 : HFn := ⟨20, [], 1,
  (q3 (qr [qx 1 0, qz 2 [z64, z64, zs, z64, z64, (zl 17)]])
(q3 (qr [qz 3 [z64, z64, zs, z64, z64, (zl 17)]])
(q3 (qr [qf 4 0 1, qL 5 2 4, qc 6 76 [5], qf 7 0 3, qs 2 7 6])
(q3 (qr [qf 8 2 1, ql 9 8, qf 10 2 3, qs 1 10 9])
(q3 (qr [qf 11 3 1, qL 12 2 11, qc 13 72 [12], qf 14 3 3, qs 2 14 13])
(q3 (qr [qf 15 5 1, ql 16 15, qc 17 141 [16], qf 18 5 3, qs 1 18 17])
(q3 (qr [qL 19 6 3, qs 6 2 19])
.ret))))))),
  [((some (true, 6)), 2)], none⟩
theorem k59 : FnOk Tryz.prog ioF 134 h59.f := ⟨Tryz.f134, Tryz.func134, by kernel_rfl, by kernel_rfl, by kernel_rfl⟩
/-- laws_toWaitS -/
def h60 : HFn := ⟨23, [], 1,
  (q3 (qr [qk 2 (zl 6)])
(q3 (qr [qm 5 0, ql' 6 0 5, (⟨(some 7), [], .mksl 6 [z64, z64, zs, z64, z64, (zl 17)] (.t 6), none, [], []⟩, 21), qa 3 7])
(q3 (q3 (qr [qk 4 z64])
(.block 0 (.loop [0, 3, 4] [(0, .inv), (3, .leaf (.sl true 21 .o)), (4, li)] [(.exit 0, [(3, .leaf (.sl true 21 .o))])]
(q3 (q3 (qr [qm 8 4, qm 9 0, ql' 10 0 9, qb 11 .lss 8 10])
(.cond (.t 11)
.skip
(.exit 0)))
(q3 (.block 1 (qr [qm 14 3, qm 15 4, qm 16 0, qm 17 4, qi 18 6 16 17, qL 19 6 18, qc 20 134 [19], qi 21 6 14 15, qs 6 21 20]))
(qr [qm 12 4, qB 13 .add 12 .i64 1, qa 4 13]))))))
(q3 (qr [qm 22 3, qa 2 22])
.ret)))),
  [(none, 2)], none⟩
theorem k60 : FnOk Tryz.prog ioF 116 h60.f := ⟨Tryz.f116, Tryz.func116, by kernel_rfl, by kernel_rfl, by kernel_rfl⟩
/-- laws_toLine -/
def h61 : HFn := ⟨32, [], 1,
  (q3 (qr [qx 1 0, qz 2 [z64, z64, z64, (zl 1), z64, z64, z64, z64, z64, z64, (zl 5), (zl 4), (zl 10), z64, z64, (zl 6), (zl 11), (zl 3), (zl 6)]])
(q3 (qr [qz 3 [z64, z64, z64, (zl 1), z64, z64, z64, z64, z64, z64, (zl 5), (zl 4), (zl 10), z64, z64, (zl 6), (zl 11), (zl 3), (zl 6)]])
(q3 (qr [qf 4 0 1, ql 5 4, qf 6 0 3, qs 1 6 5])
(q3 (qr [qf 7 1 1, qL 8 2 7, qc 9 65 [8], qf 10 1 3, qs 2 10 9])
(q3 (qr [qf 11 3 1, ql 12 11, qc 13 66 [12], qf 14 3 3, qs 1 14 13])
(q3 (qr [qf 15 4 1, qL 16 12 15, qc 17 63 [16], qf 18 4 3, qs 12 18 17])
(q3 (qr [qf 19 16 1, ql 20 19, qc 21 114 [20], qf 22 16 3, qs 1 22 21])
(q3 (qr [qf 23 17 1, ql 24 23, qc 25 115 [24], qf 26 17 3, qs 1 26 25])
(q3 (qr [qf 27 18 1, ql 28 27, qc 29 116 [28], qf 30 18 3, qs 1 30 29])
(q3 (qr [qL 31 19 3, qs 19 2 31])
.ret)))))))))),
  [((some (true, 19)), 2)], none⟩
theorem k61 : FnOk Tryz.prog ioF 71 h61.f := ⟨Tryz.f71, Tryz.func71, by kernel_rfl, by kernel_rfl, by kernel_rfl⟩
/-- laws_toLead -/
def h62 : HFn := ⟨51, [], 1,
  (q3 (qr [qx 1 0, qz 2 [z64, z64, z64, z64, z64, z64, (zl 1), (zl 4), (zl 13), z64, z64, z64, z64, z64, z64, (zl 5), (zl 4), (zl 10), z64, z64, (zl 6), (zl 7), (zl 6), (zl 1), z64, z64, z64, (zl 1), z64, z64, z64, z64, z64, z64, (zl 5), (zl 4), (zl 10), z64, z64, (zl 6), (zl 11), (zl 3), (zl 6)]])
(q3 (qr [qz 3 [z64, z64, z64, z64, z64, z64, (zl 1), (zl 4), (zl 13), z64, z64, z64, z64, z64, z64, (zl 5), (zl 4), (zl 10), z64, z64, (zl 6), (zl 7), (zl 6), (zl 1), z64, z64, z64, (zl 1), z64, z64, z64, z64, z64, z64, (zl 5), (zl 4), (zl 10), z64, z64, (zl 6), (zl 11), (zl 3), (zl 6)]])
(q3 (qr [qf 4 0 1, qL 5 2 4, qc 6 64 [5], qf 7 0 3, qs 2 7 6])
(q3 (qr [qf 8 2 1, ql 9 8, qf 10 2 3, qs 1 10 9])
(q3 (qr [qf 11 3 1, ql 12 11, qf 13 3 3, qs 1 13 12])
(q3 (qr [qf 14 4 1, qL 15 2 14, qc 16 65 [15], qf 17 4 3, qs 2 17 16])
(q3 (qr [qf 18 6 1, ql 19 18, qc 20 66 [19], qf 21 6 3, qs 1 21 20])
(q3 (qr [qf 22 7 1, ql 23 22, qc 24 67 [23], qf 25 7 3, qs 1 25 24])
(q3 (qr [qf 26 8 1, ql 27 26, qc 28 68 [27], qf 29 8 3, qs 1 29 28])
(q3 (qr [qf 30 9 1, qL 31 12 30, qc 32 63 [31], qf 33 9 3, qs 12 33 32])
(q3 (qr [qf 34 21 1, ql 35 34, qc 36 69 [35], qf 37 21 3, qs 1 37 36])
(q3 (qr [qf 38 22 1, ql 39 38, qc 40 70 [39], qf 41 22 3, qs 1 41 40])
(q3 (qr [qf 42 23 1, ql 43 42, qc 44 66 [43], qf 45 23 3, qs 1 45 44])
(q3 (qr [qf 46 24 1, qL 47 19 46, qc 48 71 [47], qf 49 24 3, qs 19 49 48])
(q3 (qr [qL 50 43 3, qs 43 2 50])
.ret))))))))))))))),
  [((some (true, 43)), 2)], none⟩
theorem k62 : FnOk Tryz.prog ioF 36 h62.f := ⟨Tryz.f36, Tryz.func36, by kernel_rfl, by kernel_rfl, by kernel_rfl⟩
/-- laws_toLeadS -/
def h63 : HFn := ⟨23, [], 1,
  (q3 (qr [qk 2 (zl 43)])
(q3 (qr [qm 5 0, ql' 6 0 5, (⟨(some 7), [], .mksl 43 [z64, z64, z64, z64, z64, z64, (zl 1), (zl 4), (zl 13), z64, z64, z64, z64, z64, z64, (zl 5), (zl 4), (zl 10), z64, z64, (zl 6), (zl 7), (zl 6), (zl 1), z64, z64, z64, (zl 1), z64, z64, z64, z64, z64, z64, (zl 5), (zl 4), (zl 10), z64, z64, (zl 6), (zl 11), (zl 3), (zl 6)] (.t 6), none, [], []⟩, 24), qa 3 7])
(q3 (q3 (qr [qk 4 z64])
(.block 0 (.loop [0, 3, 4] [(0, .inv), (3, .leaf (.sl true 24 .o)), (4, li)] [(.exit 0, [(3, .leaf (.sl true 24 .o))])]
(q3 (q3 (qr [qm 8 4, qm 9 0, ql' 10 0 9, qb 11 .lss 8 10])
(.cond (.t 11)
.skip
(.exit 0)))
(q3 (.block 1 (qr [qm 14 3, qm 15 4, qm 16 0, qm 17 4, qi 18 43 16 17, qL 19 43 18, qc 20 36 [19], qi 21 43 14 15, qs 43 21 20]))
(qr [qm 12 4, qB 13 .add 12 .i64 1, qa 4 13]))))))
(q3 (qr [qm 22 3, qa 2 22])
.ret)))),
  [(none, 2)], none⟩
theorem k63 : FnOk Tryz.prog ioF 16 h63.f := ⟨Tryz.f16, Tryz.func16, by kernel_rfl, by kernel_rfl, by kernel_rfl⟩
/-- laws_toOp -/
def h64 : HFn := ⟨14, [], 1,
  (q3 (qr [qx 1 0, qz 2 [z64, z64, zs]])
(q3 (qr [qz 3 [z64, z64, zs]])
(q3 (qr [qf 4 0 1, ql 5 4, qf 6 0 3, qs 1 6 5])
(q3 (qr [qf 7 1 1, ql 8 7, qf 9 1 3, qs 1 9 8])
(q3 (qr [qf 10 2 1, ql 11 10, qf 12 2 3, qs 1 12 11])
(q3 (qr [qL 13 3 3, qs 3 2 13])
.ret)))))),
  [((some (true, 3)), 2)], none⟩
theorem k64 : FnOk Tryz.prog ioF 75 h64.f := ⟨Tryz.f75, Tryz.func75, by kernel_rfl, by kernel_rfl, by kernel_rfl⟩
/-- laws_toMsg -/
def h65 : HFn := ⟨58, [], 1,
  (q3 (qr [qx 1 0, qz 2 [z64, z64, z64, z64, z64, z64, zs, z64, z64, z64, z64, z64, z64, z64, z64, z64, z64, (zl 5), (zl 4), (zl 10), z64, z64, (zl 6), z64, z64, z64, z64, zs, (.b false), z64, z64, z64, z64, zs, z64, z64, z64, z64, zs, z64, z64, zs, z64, z64, z64, zs]])
(q3 (qr [qz 3 [z64, z64, z64, z64, z64, z64, zs, z64, z64, z64, z64, z64, z64, z64, z64, z64, z64, (zl 5), (zl 4), (zl 10), z64, z64, (zl 6), z64, z64, z64, z64, zs, (.b false), z64, z64, z64, z64, zs, z64, z64, z64, z64, zs, z64, z64, zs, z64, z64, z64, zs]])
(q3 (qr [qf 4 0 1, ql 5 4, qf 6 0 3, qs 1 6 5])
(q3 (qr [qf 7 1 1, ql 8 7, qf 9 1 3, qs 1 9 8])
(q3 (qr [qf 10 2 1, ql 11 10, qf 12 2 3, qs 1 12 11])
(q3 (qr [qf 13 3 1, qL 14 2 13, qc 15 64 [14], qf 16 3 3, qs 2 16 15])
(q3 (qr [qf 17 5 1, ql 18 17, qf 19 5 3, qs 1 19 18])
(q3 (qr [qf 20 6 1, ql 21 20, qf 22 6 3, qs 1 22 21])
(q3 (qr [qf 23 7 1, qL 24 2 23, qc 25 72 [24], qf 26 7 3, qs 2 26 25])
(q3 (qr [qf 27 9 1, qL 28 2 27, qc 29 72 [28], qf 30 9 3, qs 2 30 29])
(q3 (qr [qf 31 11 1, qL 32 12 31, qc 33 63 [32], qf 34 11 3, qs 12 34 33])
(q3 (qr [qf 35 23 1, qL 36 10 35, qc 37 73 [36], qf 38 23 3, qs 10 38 37])
(q3 (qr [qf 39 33 1, qL 40 6 39, qc 41 74 [40], qf 42 33 3, qs 6 42 41])
(q3 (qr [qf 43 39 1, qL 44 3 43, qc 45 75 [44], qf 46 39 3, qs 3 46 45])
(q3 (qr [qf 47 42 1, qL 48 2 47, qc 49 76 [48], qf 50 42 3, qs 2 50 49])
(q3 (qr [qf 51 44 1, ql 52 51, qf 53 44 3, qs 1 53 52])
(q3 (qr [qf 54 45 1, ql 55 54, qf 56 45 3, qs 1 56 55])
(q3 (qr [qL 57 46 3, qs 46 2 57])
.ret)))))))))))))))))),
  [((some (true, 46)), 2)], none⟩
theorem k65 : FnOk Tryz.prog ioF 37 h65.f := ⟨Tryz.f37, Tryz.func37, by kernel_rfl, by kernel_rfl, by kernel_rfl⟩
/-- laws_toMsgS -/
def h66 : HFn := ⟨23, [], 1,
  (q3 (qr [qk 2 (zl 46)])
(q3 (qr [qm 5 0, ql' 6 0 5, (⟨(some 7), [], .mksl 46 [z64, z64, z64, z64, z64, z64, zs, z64, z64, z64, z64, z64, z64, z64, z64, z64, z64, (zl 5), (zl 4), (zl 10), z64, z64, (zl 6), z64, z64, z64, z64, zs, (.b false), z64, z64, z64, z64, zs, z64, z64, z64, z64, zs, z64, z64, zs, z64, z64, z64, zs] (.t 6), none, [], []⟩, 26), qa 3 7])
(q3 (q3 (qr [qk 4 z64])
(.block 0 (.loop [0, 3, 4] [(0, .inv), (3, .leaf (.sl true 26 .o)), (4, li)] [(.exit 0, [(3, .leaf (.sl true 26 .o))])]
(q3 (q3 (qr [qm 8 4, qm 9 0, ql' 10 0 9, qb 11 .lss 8 10])
(.cond (.t 11)
.skip
(.exit 0)))
(q3 (.block 1 (qr [qm 14 3, qm 15 4, qm 16 0, qm 17 4, qi 18 46 16 17, qL 19 46 18, qc 20 37 [19], qi 21 46 14 15, qs 46 21 20]))
(qr [qm 12 4, qB 13 .add 12 .i64 1, qa 4 13]))))))
(q3 (qr [qm 22 3, qa 2 22])
.ret)))),
  [(none, 2)], none⟩
theorem k66 : FnOk Tryz.prog ioF 17 h66.f := ⟨Tryz.f17, Tryz.func17, by kernel_rfl, by kernel_rfl, by kernel_rfl⟩
/-- laws_toServer -/
def h67 : HFn := ⟨26, [], 1,
  (q3 (qr [qx 1 0, qz 2 [z64, z64, (.b false), (zl 12), (zl 12), (zl 43), (zl 46)]])
(q3 (qr [qz 3 [z64, z64, (.b false), (zl 12), (zl 12), (zl 43), (zl 46)]])
(q3 (qr [qf 4 0 1, ql 5 4, qf 6 0 3, qs 1 6 5])
(q3 (qr [qf 7 1 1, ql 8 7, qf 9 1 3, qs 1 9 8])
(q3 (qr [qf 10 2 1, ql 11 10, qf 12 2 3, qs 1 12 11])
(q3 (qr [qf 13 3 1, qL 14 2 13, qc 15 15 [14], qf 16 3 3, qs 2 16 15])
(q3 (qr [qf 17 5 1, ql 18 17, qc 19 16 [18], qf 20 5 3, qs 1 20 19])
(q3 (qr [qf 21 6 1, ql 22 21, qc 23 17 [22], qf 24 6 3, qs 1 24 23])
(q3 (qr [qL 25 7 3, qs 7 2 25])
.ret))))))))),
  [((some (true, 7)), 2)], none⟩
theorem k67 : FnOk Tryz.prog ioF 6 h67.f := ⟨Tryz.f6, Tryz.func6, by kernel_rfl, by kernel_rfl, by kernel_rfl⟩
/-- spec_l25SameState -/
def h68 : HFn := ⟨150, [], 2,
  (q3 (qr [qx 2 0, qx 3 1, qk 4 (.b false)])
(q3 (q3 (.jn [2, 3] [(.normal, [(2, .inv), (3, .inv), (77, .leaf .b)])]
(qr [qf 9 0 2, qL 10 2 9, qf 11 0 3, qL 12 2 11, qo 13 (.eqs true [1, 1] (.t 10) (.t 12)), qm 14 13, (⟨(some 15), [], .faddr 2 (.t 2), (some (14, false)), [], []⟩, 0), (⟨(some 16), [], .load false 1 (.t 15), (some (14, false)), [], []⟩, 0), (⟨(some 17), [], .faddr 2 (.t 3), (some (14, false)), [], []⟩, 0), (⟨(some 18), [], .load false 1 (.t 17), (some (14, false)), [], []⟩, 0), (⟨(some 19), [], .bin .neq (.t 16) (.t 18), (some (14, false)), [], []⟩, 0), qo 20 (.pick (.t 14) (.c (.leaf (.b true))) (.t 19)), qm 21 20, (⟨(some 22), [], .faddr 3 (.t 2), (some (21, false)), [], []⟩, 0), (⟨(some 23), [], .load false 1 (.t 22), (some (21, false)), [], []⟩, 0), (⟨(some 24), [], .faddr 3 (.t 3), (some (21, false)), [], []⟩, 0), (⟨(some 25), [], .load false 1 (.t 24), (some (21, false)), [], []⟩, 0), (⟨(some 26), [], .bin .neq (.t 23) (.t 25), (some (21, false)), [], []⟩, 0), qo 27 (.pick (.t 21) (.c (.leaf (.b true))) (.t 26)), qm 28 27, (⟨(some 29), [], .faddr 4 (.t 2), (some (28, false)), [], []⟩, 0), (⟨(some 30), [], .load true 2 (.t 29), (some (28, false)), [], []⟩, 0), (⟨(some 31), [], .faddr 4 (.t 3), (some (28, false)), [], []⟩, 0), (⟨(some 32), [], .load true 2 (.t 31), (some (28, false)), [], []⟩, 0), (⟨(some 33), [], .eqs true [1, 1] (.t 30) (.t 32), (some (28, false)), [], []⟩, 0), qo 34 (.pick (.t 28) (.c (.leaf (.b true))) (.t 33)), qm 35 34, (⟨(some 36), [], .faddr 9 (.t 2), (some (35, false)), [], []⟩, 0), (⟨(some 37), [], .load true 2 (.t 36), (some (35, false)), [], []⟩, 0), (⟨(some 38), [], .faddr 9 (.t 3), (some (35, false)), [], []⟩, 0), (⟨(some 39), [], .load true 2 (.t 38), (some (35, false)), [], []⟩, 0), (⟨(some 40), [], .eqs true [1, 1] (.t 37) (.t 39), (some (35, false)), [], []⟩, 0), qo 41 (.pick (.t 35) (.c (.leaf (.b true))) (.t 40)), qm 42 41, (⟨(some 43), [], .faddr 6 (.t 2), (some (42, false)), [], []⟩, 0), (⟨(some 44), [], .load false 1 (.t 43), (some (42, false)), [], []⟩, 0), (⟨(some 45), [], .len 0 (.t 44), (some (42, false)), [], []⟩, 0), (⟨(some 46), [], .faddr 6 (.t 3), (some (42, false)), [], []⟩, 0), (⟨(some 47), [], .load false 1 (.t 46), (some (42, false)), [], []⟩, 0), (⟨(some 48), [], .len 0 (.t 47), (some (42, false)), [], []⟩, 0), (⟨(some 49), [], .bin .neq (.t 45) (.t 48), (some (42, false)), [], []⟩, 0), qo 50 (.pick (.t 42) (.c (.leaf (.b true))) (.t 49)), qm 51 50, (⟨(some 52), [], .faddr 7 (.t 2), (some (51, false)), [], []⟩, 0), (⟨(some 53), [], .load false 1 (.t 52), (some (51, false)), [], []⟩, 0), (⟨(some 54), [], .len 0 (.t 53), (some (51, false)), [], []⟩, 0), (⟨(some 55), [], .faddr 7 (.t 3), (some (51, false)), [], []⟩, 0), (⟨(some 56), [], .load false 1 (.t 55), (some (51, false)), [], []⟩, 0), (⟨(some 57), [], .len 0 (.t 56), (some (51, false)), [], []⟩, 0), (⟨(some 58), [], .bin .neq (.t 54) (.t 57), (some (51, false)), [], []⟩, 0), qo 59 (.pick (.t 51) (.c (.leaf (.b true))) (.t 58)), qm 60 59, (⟨(some 61), [], .faddr 8 (.t 2), (some (60, false)), [], []⟩, 0), (⟨(some 62), [], .load false 1 (.t 61), (some (60, false)), [], []⟩, 0), (⟨(some 63), [], .len 0 (.t 62), (some (60, false)), [], []⟩, 0), (⟨(some 64), [], .faddr 8 (.t 3), (some (60, false)), [], []⟩, 0), (⟨(some 65), [], .load false 1 (.t 64), (some (60, false)), [], []⟩, 0), (⟨(some 66), [], .len 0 (.t 65), (some (60, false)), [], []⟩, 0), (⟨(some 67), [], .bin .neq (.t 63) (.t 66), (some (60, false)), [], []⟩, 0), qo 68 (.pick (.t 60) (.c (.leaf (.b true))) (.t 67)), qm 69 68, (⟨(some 70), [], .faddr 11 (.t 2), (some (69, false)), [], []⟩, 0), (⟨(some 71), [], .load false 1 (.t 70), (some (69, false)), [], []⟩, 0), (⟨(some 72), [], .len 0 (.t 71), (some (69, false)), [], []⟩, 0), (⟨(some 73), [], .faddr 11 (.t 3), (some (69, false)), [], []⟩, 0), (⟨(some 74), [], .load false 1 (.t 73), (some (69, false)), [], []⟩, 0), (⟨(some 75), [], .len 0 (.t 74), (some (69, false)), [], []⟩, 0), (⟨(some 76), [], .bin .neq (.t 72) (.t 75), (some (69, false)), [], []⟩, 0), qo 77 (.pick (.t 69) (.c (.leaf (.b true))) (.t 76))]))
(.cond (.t 77)
(qR 4 (.b false))
.skip))
(q3 (q3 (qr [qk 5 z64])
(.block 0 (.loop [2, 3, 5] [(2, .inv), (3, .inv), (5, li)] [(.exit 0, [(2, .inv), (3, .inv)]), (.ret, [(4, .leaf (.bk false))])]
(q3 (q3 (qr [qm 78 5, qf 79 6 2, ql 80 79, ql' 81 0 80, qb 82 .lss 78 81])
(.cond (.t 82)
.skip
(.exit 0)))
(q3 (.block 1 (q3 (.rgd [qd (qf 85 6 2) [2, 85] [85], qd (ql 86 85) [85, 2, 86] [86], qd (qm 87 5) [5, 87] [87], qd (qi 88 5 86 87) [86, 85, 2, 87, 5, 88] [88], qd (qL 89 5 88) [88, 86, 85, 2, 89] [89], qd (qf 90 6 3) [3, 90] [90], qd (ql 91 90) [90, 3, 91] [91], qd (qm 92 5) [5, 92] [92], qd (qi 93 5 91 92) [91, 90, 3, 92, 5, 93] [93], qd (qL 94 5 93) [93, 91, 90, 3, 94] [94], qd (qo 95 (.eqs true [2, 1, 1, 1, 1] (.t 89) (.t 94))) [89, 88, 86, 85, 2, 94, 93, 91, 90, 3, 95] [95]])
(.cond (.t 95)
(qR 4 (.b false))
.skip)))
(qr [qm 83 5, qB 84 .add 83 .i64 1, qa 5 84]))))))
(q3 (q3 (qr [qk 6 z64])
(.block 2 (.loop [2, 3, 6] [(2, .inv), (3, .inv), (6, li)] [(.exit 2, [(2, .inv), (3, .inv)]), (.ret, [(4, .leaf (.bk false))])]
(q3 (q3 (qr [qm 96 6, qf 97 7 2, ql 98 97, ql' 99 0 98, qb 100 .lss 96 99])
(.cond (.t 100)
.skip
(.exit 2)))
(q3 (.block 3 (q3 (.rgd [qd (qf 103 7 2) [2, 103] [103], qd (ql 104 103) [103, 2, 104] [104], qd (qm 105 6) [6, 105] [105], qd (qi 106 4 104 105) [104, 103, 2, 105, 6, 106] [106], qd (qL 107 4 106) [106, 104, 103, 2, 107] [107], qd (qf 108 7 3) [3, 108] [108], qd (ql 109 108) [108, 3, 109] [109], qd (qm 110 6) [6, 110] [110], qd (qi 111 4 109 110) [109, 108, 3, 110, 6, 111] [111], qd (qL 112 4 111) [111, 109, 108, 3, 112] [112], qd (qo 113 (.eqs true [1, 1, 1, 1] (.t 107) (.t 112))) [107, 106, 104, 103, 2, 112, 111, 109, 108, 3, 113] [113]])
(.cond (.t 113)
(qR 4 (.b false))
.skip)))
(qr [qm 101 6, qB 102 .add 101 .i64 1, qa 6 102]))))))
(q3 (q3 (qr [qk 7 z64])
(.block 4 (.loop [2, 3, 7] [(2, .inv), (3, .inv), (7, li)] [(.exit 4, [(2, .inv), (3, .inv)]), (.ret, [(4, .leaf (.bk false))])]
(q3 (q3 (qr [qm 114 7, qf 115 8 2, ql 116 115, ql' 117 0 116, qb 118 .lss 114 117])
(.cond (.t 118)
.skip
(.exit 4)))
(q3 (.block 5 (q3 (.rgd [qd (qf 121 8 2) [2, 121] [121], qd (ql 122 121) [121, 2, 122] [122], qd (qm 123 7) [7, 123] [123], qd (qi 124 10 122 123) [122, 121, 2, 123, 7, 124] [124], qd (qL 125 10 124) [124, 122, 121, 2, 125] [125], qd (qf 126 8 3) [3, 126] [126], qd (ql 127 126) [126, 3, 127] [127], qd (qm 128 7) [7, 128] [128], qd (qi 129 10 127 128) [127, 126, 3, 128, 7, 129] [129], qd (qL 130 10 129) [129, 127, 126, 3, 130] [130], qd (qo 131 (.eqs true [1, 1, 1, 1, 2, 0, 1, 1, 1, 1] (.t 125) (.t 130))) [125, 124, 122, 121, 2, 130, 129, 127, 126, 3, 131] [131]])
(.cond (.t 131)
(qR 4 (.b false))
.skip)))
(qr [qm 119 7, qB 120 .add 119 .i64 1, qa 7 120]))))))
(q3 (q3 (qr [qk 8 z64])
(.block 6 (.loop [2, 3, 8] [(2, .inv), (3, .inv), (8, li)] [(.exit 6, []), (.ret, [(4, .leaf (.bk false))])]
(q3 (q3 (qr [qm 132 8, qf 133 11 2, ql 134 133, ql' 135 0 134, qb 136 .lss 132 135])
(.cond (.t 136)
.skip
(.exit 6)))
(q3 (.block 7 (q3 (.rgd [qd (qf 139 11 2) [2, 139] [139], qd (ql 140 139) [139, 2, 140] [140], qd (qm 141 8) [8, 141] [141], qd (qi 142 6 140 141) [140, 139, 2, 141, 8, 142] [142], qd (qL 143 6 142) [142, 140, 139, 2, 143] [143], qd (qf 144 11 3) [3, 144] [144], qd (ql 145 144) [144, 3, 145] [145], qd (qm 146 8) [8, 146] [146], qd (qi 147 6 145 146) [145, 144, 3, 146, 8, 147] [147], qd (qL 148 6 147) [147, 145, 144, 3, 148] [148], qd (qo 149 (.eqs true [2, 1, 1, 1, 1, 2] (.t 143) (.t 148))) [143, 142, 140, 139, 2, 148, 147, 145, 144, 3, 149] [149]])
(.cond (.t 149)
(qR 4 (.b false))
.skip)))
(qr [qm 137 8, qB 138 .add 137 .i64 1, qa 8 138]))))))
(qR 4 (.b true)))))))),
  [(none, 4)], none⟩
theorem k68 : FnOk Tryz.prog ioF 29 h68.f := ⟨Tryz.f29, Tryz.func29, by kernel_rfl, by kernel_rfl, by kernel_rfl⟩
/-- spec_l30SameStates -/
def h69 : HFn := ⟨27, [], 2,
  (q3 (qr [qk 4 (.b false)])
(q3 (q3 (qr [qm 6 0, ql' 7 0 6, qm 8 1, ql' 9 0 8, qb 10 .neq 7 9])
(.cond (.t 10)
(qR 4 (.b false))
.skip))
(q3 (q3 (qr [qk 5 z64])
(.block 0 (.loop [0, 1, 5] [(0, .inv), (1, .inv), (5, li)] [(.exit 0, []), (.ret, [(4, .leaf (.bk false))])]
(q3 (q3 (qr [qm 11 5, qm 12 0, ql' 13 0 12, qb 14 .lss 11 13])
(.cond (.t 14)
.skip
(.exit 0)))
(q3 (.block 1 (q3 (.rgd [qd (qm 17 0) [0, 17] [17], qd (qm 18 5) [5, 18] [18], qd (qi 19 12 17 18) [17, 0, 18, 5, 19] [19], qd (qL 20 12 19) [19, 17, 0, 20] [20], qd (qm 21 1) [1, 21] [21], qd (qm 22 5) [5, 22] [22], qd (qi 23 12 21 22) [21, 1, 22, 5, 23] [23], qd (qL 24 12 23) [23, 21, 1, 24] [24], qd (qc 25 29 [20, 24]) [20, 19, 17, 0, 24, 23, 21, 1, 25] [25], qd (qo 26 (.un .not (.t 25))) [25, 26] [26]])
(.cond (.t 26)
(qR 4 (.b false))
.skip)))
(qr [qm 15 5, qB 16 .add 15 .i64 1, qa 5 16]))))))
(qR 4 (.b true))))),
  [(none, 4)], none⟩
theorem k69 : FnOk Tryz.prog ioF 12 h69.f := ⟨Tryz.f12, Tryz.func12, by kernel_rfl, by kernel_rfl, by kernel_rfl⟩
/-- spec_l00Same -/
def h70 : HFn := ⟨26, [], 2,
  (q3 (qr [qk 4 (.b false)])
(q3 (q3 (qr [qm 6 0, ql' 7 0 6, qm 8 1, ql' 9 0 8, qb 10 .neq 7 9])
(.cond (.t 10)
(qR 4 (.b false))
.skip))
(q3 (q3 (qr [qk 5 z64])
(.block 0 (.loop [0, 1, 5] [(0, .inv), (1, .inv), (5, li)] [(.exit 0, []), (.ret, [(4, .leaf (.bk false))])]
(q3 (q3 (qr [qm 11 5, qm 12 0, ql' 13 0 12, qb 14 .lss 11 13])
(.cond (.t 14)
.skip
(.exit 0)))
(q3 (.block 1 (q3 (.rgd [qd (qm 17 0) [0, 17] [17], qd (qm 18 5) [5, 18] [18], qd (qi 19 1 17 18) [17, 0, 18, 5, 19] [19], qd (ql 20 19) [19, 17, 0, 20] [20], qd (qm 21 1) [1, 21] [21], qd (qm 22 5) [5, 22] [22], qd (qi 23 1 21 22) [21, 1, 22, 5, 23] [23], qd (ql 24 23) [23, 21, 1, 24] [24], qd (qb 25 .neq 20 24) [20, 19, 17, 0, 24, 23, 21, 1, 25] [25]])
(.cond (.t 25)
(qR 4 (.b false))
.skip)))
(qr [qm 15 5, qB 16 .add 15 .i64 1, qa 5 16]))))))
(qR 4 (.b true))))),
  [(none, 4)], none⟩
theorem k70 : FnOk Tryz.prog ioF 30 h70.f := ⟨Tryz.f30, Tryz.func30, by kernel_rfl, by kernel_rfl, by kernel_rfl⟩
/-- spec_l27SameIvs -/
def h71 : HFn := ⟨68, [], 2,
  (q3 (qr [qk 4 (.b false)])
(q3 (q3 (qr [qm 6 0, ql' 7 0 6, qm 8 1, ql' 9 0 8, qb 10 .neq 7 9])
(.cond (.t 10)
(qR 4 (.b false))
.skip))
(q3 (q3 (qr [qk 5 z64])
(.block 0 (.loop [0, 1, 5] [(0, .inv), (1, .inv), (5, li)] [(.exit 0, []), (.ret, [(4, .leaf (.bk false))])]
(q3 (q3 (qr [qm 11 5, qm 12 0, ql' 13 0 12, qb 14 .lss 11 13])
(.cond (.t 14)
.skip
(.exit 0)))
(q3 (.block 1 (q3 (.jn [0, 1, 5] [(.normal, [(0, .inv), (1, .inv), (5, .inv), (67, .leaf .b)])]
(.rgd [qd (qm 17 0) [0, 17] [17], qd (qm 18 5) [5, 18] [18], qd (qi 19 4 17 18) [17, 0, 18, 5, 19] [19], qd (qf 20 0 19) [19, 17, 0, 20] [20], qd (ql 21 20) [20, 19, 17, 0, 21] [21], qd (qm 22 1) [1, 22] [22], qd (qm 23 5) [5, 23] [23], qd (qi 24 4 22 23) [22, 1, 23, 5, 24] [24], qd (qf 25 0 24) [24, 22, 1, 25] [25], qd (ql 26 25) [25, 24, 22, 1, 26] [26], qd (qb 27 .neq 21 26) [21, 20, 19, 17, 0, 26, 25, 24, 22, 1, 27] [27], qd (qm 28 27) [27, 28] [28], (⟨(some 29), [], .mv (.t 0), (some (28, false)), [0, 28, 29], [29]⟩, 0), (⟨(some 30), [], .mv (.t 5), (some (28, false)), [5, 28, 30], [30]⟩, 0), (⟨(some 31), [], .iaddr 4 (.t 29) (.t 30), (some (28, false)), [29, 0, 30, 5, 28, 31], [31]⟩, 0), (⟨(some 32), [], .faddr 1 (.t 31), (some (28, false)), [31, 29, 0, 28, 32], [32]⟩, 0), (⟨(some 33), [], .load false 1 (.t 32), (some (28, false)), [32, 31, 29, 0, 28, 33], [33]⟩, 0), (⟨(some 34), [], .mv (.t 1), (some (28, false)), [1, 28, 34], [34]⟩, 0), (⟨(some 35), [], .mv (.t 5), (some (28, false)), [5, 28, 35], [35]⟩, 0), (⟨(some 36), [], .iaddr 4 (.t 34) (.t 35), (some (28, false)), [34, 1, 35, 5, 28, 36], [36]⟩, 0), (⟨(some 37), [], .faddr 1 (.t 36), (some (28, false)), [36, 34, 1, 28, 37], [37]⟩, 0), (⟨(some 38), [], .load false 1 (.t 37), (some (28, false)), [37, 36, 34, 1, 28, 38], [38]⟩, 0), (⟨(some 39), [], .bin .neq (.t 33) (.t 38), (some (28, false)), [33, 32, 31, 29, 0, 38, 37, 36, 34, 1, 28, 39], [39]⟩, 0), qd (qo 40 (.pick (.t 28) (.c (.leaf (.b true))) (.t 39))) [28, 27, 39, 40] [40], qd (qm 41 40) [40, 39, 41] [41], (⟨(some 42), [], .mv (.t 0), (some (41, false)), [0, 41, 42], [42]⟩, 0), (⟨(some 43), [], .mv (.t 5), (some (41, false)), [5, 41, 43], [43]⟩, 0), (⟨(some 44), [], .iaddr 4 (.t 42) (.t 43), (some (41, false)), [42, 0, 43, 5, 41, 44], [44]⟩, 0), (⟨(some 45), [], .faddr 3 (.t 44), (some (41, false)), [44, 42, 0, 41, 45], [45]⟩, 0), (⟨(some 46), [], .load false 1 (.t 45), (some (41, false)), [45, 44, 42, 0, 41, 46], [46]⟩, 0), (⟨(some 47), [], .mv (.t 1), (some (41, false)), [1, 41, 47], [47]⟩, 0), (⟨(some 48), [], .mv (.t 5), (some (41, false)), [5, 41, 48], [48]⟩, 0), (⟨(some 49), [], .iaddr 4 (.t 47) (.t 48), (some (41, false)), [47, 1, 48, 5, 41, 49], [49]⟩, 0), (⟨(some 50), [], .faddr 3 (.t 49), (some (41, false)), [49, 47, 1, 41, 50], [50]⟩, 0), (⟨(some 51), [], .load false 1 (.t 50), (some (41, false)), [50, 49, 47, 1, 41, 51], [51]⟩, 0), (⟨(some 52), [], .eqc true 0 (.t 46) (.t 51), (some (41, false)), [46, 45, 44, 42, 0, 51, 50, 49, 47, 1, 41, 52], [52]⟩, 0), qd (qo 53 (.pick (.t 41) (.c (.leaf (.b true))) (.t 52))) [41, 40, 39, 52, 53] [53], qd (qm 54 53) [53, 52, 54] [54], (⟨(some 55), [], .mv (.t 0), (some (54, false)), [0, 54, 55], [55]⟩, 0), (⟨(some 56), [], .mv (.t 5), (some (54, false)), [5, 54, 56], [56]⟩, 0), (⟨(some 57), [], .iaddr 4 (.t 55) (.t 56), (some (54, false)), [55, 0, 56, 5, 54, 57], [57]⟩, 0), (⟨(some 58), [], .faddr 2 (.t 57), (some (54, false)), [57, 55, 0, 54, 58], [58]⟩, 0), (⟨(some 59), [], .load false 1 (.t 58), (some (54, false)), [58, 57, 55, 0, 54, 59], [59]⟩, 0), (⟨(some 60), [], .mv (.t 1), (some (54, false)), [1, 54, 60], [60]⟩, 0), (⟨(some 61), [], .mv (.t 5), (some (54, false)), [5, 54, 61], [61]⟩, 0), (⟨(some 62), [], .iaddr 4 (.t 60) (.t 61), (some (54, false)), [60, 1, 61, 5, 54, 62], [62]⟩, 0), (⟨(some 63), [], .faddr 2 (.t 62), (some (54, false)), [62, 60, 1, 54, 63], [63]⟩, 0), (⟨(some 64), [], .load false 1 (.t 63), (some (54, false)), [63, 62, 60, 1, 54, 64], [64]⟩, 0), (⟨(some 65), [], .call 30 none [(.t 59), (.t 64)], (some (54, false)), [59, 58, 57, 55, 0, 64, 63, 62, 60, 1, 54, 65], [65]⟩, 0), (⟨(some 66), [], .un .not (.t 65), (some (54, false)), [65, 54, 66], [66]⟩, 0), qd (qo 67 (.pick (.t 54) (.c (.leaf (.b true))) (.t 66))) [54, 53, 52, 66, 67] [67]]))
(.cond (.t 67)
(qR 4 (.b false))
.skip)))
(qr [qm 15 5, qB 16 .add 15 .i64 1, qa 5 16]))))))
(qR 4 (.b true))))),
  [(none, 4)], none⟩
theorem k71 : FnOk Tryz.prog ioF 31 h71.f := ⟨Tryz.f31, Tryz.func31, by kernel_rfl, by kernel_rfl, by kernel_rfl⟩
/-- spec_l27SameNotices -/
def h72 : HFn := ⟨42, [], 2,
  (q3 (qr [qk 4 (.b false)])
(q3 (q3 (qr [qm 6 0, ql' 7 0 6, qm 8 1, ql' 9 0 8, qb 10 .neq 7 9])
(.cond (.t 10)
(qR 4 (.b false))
.skip))
(q3 (q3 (qr [qk 5 z64])
(.block 0 (.loop [0, 1, 5] [(0, .inv), (1, .inv), (5, li)] [(.exit 0, []), (.ret, [(4, .leaf (.bk false))])]
(q3 (q3 (qr [qm 11 5, qm 12 0, ql' 13 0 12, qb 14 .lss 11 13])
(.cond (.t 14)
.skip
(.exit 0)))
(q3 (.block 1 (q3 (.jn [0, 1, 5] [(.normal, [(0, .inv), (1, .inv), (5, .inv), (41, .leaf .b)])]
(.rgd [qd (qm 17 0) [0, 17] [17], qd (qm 18 5) [5, 18] [18], qd (qi 19 13 17 18) [17, 0, 18, 5, 19] [19], qd (qf 20 0 19) [19, 17, 0, 20] [20], qd (ql 21 20) [20, 19, 17, 0, 21] [21], qd (qm 22 1) [1, 22] [22], qd (qm 23 5) [5, 23] [23], qd (qi 24 13 22 23) [22, 1, 23, 5, 24] [24], qd (qf 25 0 24) [24, 22, 1, 25] [25], qd (ql 26 25) [25, 24, 22, 1, 26] [26], qd (qb 27 .neq 21 26) [21, 20, 19, 17, 0, 26, 25, 24, 22, 1, 27] [27], qd (qm 28 27) [27, 28] [28], (⟨(some 29), [], .mv (.t 0), (some (28, false)), [0, 28, 29], [29]⟩, 0), (⟨(some 30), [], .mv (.t 5), (some (28, false)), [5, 28, 30], [30]⟩, 0), (⟨(some 31), [], .iaddr 13 (.t 29) (.t 30), (some (28, false)), [29, 0, 30, 5, 28, 31], [31]⟩, 0), (⟨(some 32), [], .faddr 1 (.t 31), (some (28, false)), [31, 29, 0, 28, 32], [32]⟩, 0), (⟨(some 33), [], .load true 12 (.t 32), (some (28, false)), [32, 31, 29, 0, 28, 33], [33]⟩, 0), (⟨(some 34), [], .mv (.t 1), (some (28, false)), [1, 28, 34], [34]⟩, 0), (⟨(some 35), [], .mv (.t 5), (some (28, false)), [5, 28, 35], [35]⟩, 0), (⟨(some 36), [], .iaddr 13 (.t 34) (.t 35), (some (28, false)), [34, 1, 35, 5, 28, 36], [36]⟩, 0), (⟨(some 37), [], .faddr 1 (.t 36), (some (28, false)), [36, 34, 1, 28, 37], [37]⟩, 0), (⟨(some 38), [], .load true 12 (.t 37), (some (28, false)), [37, 36, 34, 1, 28, 38], [38]⟩, 0), (⟨(some 39), [], .call 29 none [(.t 33), (.t 38)], (some (28, false)), [33, 32, 31, 29, 0, 38, 37, 36, 34, 1, 28, 39], [39]⟩, 0), (⟨(some 40), [], .un .not (.t 39), (some (28, false)), [39, 28, 40], [40]⟩, 0), qd (qo 41 (.pick (.t 28) (.c (.leaf (.b true))) (.t 40))) [28, 27, 40, 41] [41]]))
(.cond (.t 41)
(qR 4 (.b false))
.skip)))
(qr [qm 15 5, qB 16 .add 15 .i64 1, qa 5 16]))))))
(qR 4 (.b true))))),
  [(none, 4)], none⟩
theorem k72 : FnOk Tryz.prog ioF 32 h72.f := ⟨Tryz.f32, Tryz.func32, by kernel_rfl, by kernel_rfl, by kernel_rfl⟩
/-- spec_l25SameWait -/
def h73 : HFn := ⟨52, [], 2,
  (q3 (qr [qx 2 0, qx 3 1, qk 4 (.b false)])
(q3 (q3 (.jn [2, 3] [(.normal, [(2, .inv), (3, .inv), (33, .leaf .b)])]
(qr [qf 6 0 2, qL 7 2 6, qf 8 0 3, qL 9 2 8, qo 10 (.eqs true [1, 1] (.t 7) (.t 9)), qm 11 10, (⟨(some 12), [], .faddr 2 (.t 2), (some (11, false)), [], []⟩, 0), (⟨(some 13), [], .load false 1 (.t 12), (some (11, false)), [], []⟩, 0), (⟨(some 14), [], .faddr 2 (.t 3), (some (11, false)), [], []⟩, 0), (⟨(some 15), [], .load false 1 (.t 14), (some (11, false)), [], []⟩, 0), (⟨(some 16), [], .bin .neq (.t 13) (.t 15), (some (11, false)), [], []⟩, 0), qo 17 (.pick (.t 11) (.c (.leaf (.b true))) (.t 16)), qm 18 17, (⟨(some 19), [], .faddr 3 (.t 2), (some (18, false)), [], []⟩, 0), (⟨(some 20), [], .load true 2 (.t 19), (some (18, false)), [], []⟩, 0), (⟨(some 21), [], .faddr 3 (.t 3), (some (18, false)), [], []⟩, 0), (⟨(some 22), [], .load true 2 (.t 21), (some (18, false)), [], []⟩, 0), (⟨(some 23), [], .eqs true [1, 1] (.t 20) (.t 22), (some (18, false)), [], []⟩, 0), qo 24 (.pick (.t 18) (.c (.leaf (.b true))) (.t 23)), qm 25 24, (⟨(some 26), [], .faddr 5 (.t 2), (some (25, false)), [], []⟩, 0), (⟨(some 27), [], .load false 1 (.t 26), (some (25, false)), [], []⟩, 0), (⟨(some 28), [], .len 0 (.t 27), (some (25, false)), [], []⟩, 0), (⟨(some 29), [], .faddr 5 (.t 3), (some (25, false)), [], []⟩, 0), (⟨(some 30), [], .load false 1 (.t 29), (some (25, false)), [], []⟩, 0), (⟨(some 31), [], .len 0 (.t 30), (some (25, false)), [], []⟩, 0), (⟨(some 32), [], .bin .neq (.t 28) (.t 31), (some (25, false)), [], []⟩, 0), qo 33 (.pick (.t 25) (.c (.leaf (.b true))) (.t 32))]))
(.cond (.t 33)
(qR 4 (.b false))
.skip))
(q3 (q3 (qr [qk 5 z64])
(.block 0 (.loop [2, 3, 5] [(2, .inv), (3, .inv), (5, li)] [(.exit 0, []), (.ret, [(4, .leaf (.bk false))])]
(q3 (q3 (qr [qm 34 5, qf 35 5 2, ql 36 35, ql' 37 0 36, qb 38 .lss 34 37])
(.cond (.t 38)
.skip
(.exit 0)))
(q3 (.block 1 (q3 (.rgd [qd (qf 41 5 2) [2, 41] [41], qd (ql 42 41) [41, 2, 42] [42], qd (qm 43 5) [5, 43] [43], qd (qi 44 17 42 43) [42, 41, 2, 43, 5, 44] [44], qd (qL 45 17 44) [44, 42, 41, 2, 45] [45], qd (qf 46 5 3) [3, 46] [46], qd (ql 47 46) [46, 3, 47] [47], qd (qm 48 5) [5, 48] [48], qd (qi 49 17 47 48) [47, 46, 3, 48, 5, 49] [49], qd (qL 50 17 49) [49, 47, 46, 3, 50] [50], qd (qo 51 (.eqs true [1, 1, 1, 1, 1, 2, 0, 1, 1, 1, 1, 2, 1, 1, 1, 1, 2] (.t 45) (.t 50))) [45, 44, 42, 41, 2, 50, 49, 47, 46, 3, 51] [51]])
(.cond (.t 51)
(qR 4 (.b false))
.skip)))
(qr [qm 39 5, qB 40 .add 39 .i64 1, qa 5 40]))))))
(qR 4 (.b true))))),
  [(none, 4)], none⟩
theorem k73 : FnOk Tryz.prog ioF 61 h73.f := ⟨Tryz.f61, Tryz.func61, by kernel_rfl, by kernel_rfl, by kernel_rfl⟩
/-- spec_SameLine -/
def h74 : HFn := ⟨118, [], 2,
  (q3 (qr [qx 2 0, qx 3 1, qk 4 (.b false)])
(q3 (q3 (.jn [2, 3] [(.normal, [(2, .inv), (3, .inv), (62, .leaf .b)])]
(qr [qf 8 0 2, ql 9 8, qf 10 0 3, ql 11 10, qb 12 .neq 9 11, qm 13 12, (⟨(some 14), [], .faddr 1 (.t 2), (some (13, false)), [], []⟩, 0), (⟨(some 15), [], .load true 2 (.t 14), (some (13, false)), [], []⟩, 0), (⟨(some 16), [], .faddr 1 (.t 3), (some (13, false)), [], []⟩, 0), (⟨(some 17), [], .load true 2 (.t 16), (some (13, false)), [], []⟩, 0), (⟨(some 18), [], .eqs true [1, 1] (.t 15) (.t 17), (some (13, false)), [], []⟩, 0), qo 19 (.pick (.t 13) (.c (.leaf (.b true))) (.t 18)), qm 20 19, (⟨(some 21), [], .faddr 3 (.t 2), (some (20, false)), [], []⟩, 0), (⟨(some 22), [], .load false 1 (.t 21), (some (20, false)), [], []⟩, 0), (⟨(some 23), [], .faddr 3 (.t 3), (some (20, false)), [], []⟩, 0), (⟨(some 24), [], .load false 1 (.t 23), (some (20, false)), [], []⟩, 0), (⟨(some 25), [], .call 30 none [(.t 22), (.t 24)], (some (20, false)), [], []⟩, 0), (⟨(some 26), [], .un .not (.t 25), (some (20, false)), [], []⟩, 0), qo 27 (.pick (.t 20) (.c (.leaf (.b true))) (.t 26)), qm 28 27, (⟨(some 29), [], .faddr 4 (.t 2), (some (28, false)), [], []⟩, 0), (⟨(some 30), [], .load true 12 (.t 29), (some (28, false)), [], []⟩, 0), (⟨(some 31), [], .faddr 4 (.t 3), (some (28, false)), [], []⟩, 0), (⟨(some 32), [], .load true 12 (.t 31), (some (28, false)), [], []⟩, 0), (⟨(some 33), [], .call 29 none [(.t 30), (.t 32)], (some (28, false)), [], []⟩, 0), (⟨(some 34), [], .un .not (.t 33), (some (28, false)), [], []⟩, 0), qo 35 (.pick (.t 28) (.c (.leaf (.b true))) (.t 34)), qm 36 35, (⟨(some 37), [], .faddr 16 (.t 2), (some (36, false)), [], []⟩, 0), (⟨(some 38), [], .load false 1 (.t 37), (some (36, false)), [], []⟩, 0), (⟨(some 39), [], .len 0 (.t 38), (some (36, false)), [], []⟩, 0), (⟨(some 40), [], .faddr 16 (.t 3), (some (36, false)), [], []⟩, 0), (⟨(some 41), [], .load false 1 (.t 40), (some (36, false)), [], []⟩, 0), (⟨(some 42), [], .len 0 (.t 41), (some (36, false)), [], []⟩, 0), (⟨(some 43), [], .bin .neq (.t 39) (.t 42), (some (36, false)), [], []⟩, 0), qo 44 (.pick (.t 36) (.c (.leaf (.b true))) (.t 43)), qm 45 44, (⟨(some 46), [], .faddr 17 (.t 2), (some (45, false)), [], []⟩, 0), (⟨(some 47), [], .load false 1 (.t 46), (some (45, false)), [], []⟩, 0), (⟨(some 48), [], .len 0 (.t 47), (some (45, false)), [], []⟩, 0), (⟨(some 49), [], .faddr 17 (.t 3), (some (45, false)), [], []⟩, 0), (⟨(some 50), [], .load false 1 (.t 49), (some (45, false)), [], []⟩, 0), (⟨(some 51), [], .len 0 (.t 50), (some (45, false)), [], []⟩, 0), (⟨(some 52), [], .bin .neq (.t 48) (.t 51), (some (45, false)), [], []⟩, 0), qo 53 (.pick (.t 45) (.c (.leaf (.b true))) (.t 52)), qm 54 53, (⟨(some 55), [], .faddr 18 (.t 2), (some (54, false)), [], []⟩, 0), (⟨(some 56), [], .load false 1 (.t 55), (some (54, false)), [], []⟩, 0), (⟨(some 57), [], .len 0 (.t 56), (some (54, false)), [], []⟩, 0), (⟨(some 58), [], .faddr 18 (.t 3), (some (54, false)), [], []⟩, 0), (⟨(some 59), [], .load false 1 (.t 58), (some (54, false)), [], []⟩, 0), (⟨(some 60), [], .len 0 (.t 59), (some (54, false)), [], []⟩, 0), (⟨(some 61), [], .bin .neq (.t 57) (.t 60), (some (54, false)), [], []⟩, 0), qo 62 (.pick (.t 54) (.c (.leaf (.b true))) (.t 61))]))
(.cond (.t 62)
(qR 4 (.b false))
.skip))
(q3 (q3 (qr [qk 5 z64])
(.block 0 (.loop [2, 3, 5] [(2, .inv), (3, .inv), (5, li)] [(.exit 0, [(2, .inv), (3, .inv)]), (.ret, [(4, .leaf (.bk false))])]
(q3 (q3 (qr [qm 63 5, qf 64 16 2, ql 65 64, ql' 66 0 65, qb 67 .lss 63 66])
(.cond (.t 67)
.skip
(.exit 0)))
(q3 (.block 1 (q3 (.rgd [qd (qf 70 16 2) [2, 70] [70], qd (ql 71 70) [70, 2, 71] [71], qd (qm 72 5) [5, 72] [72], qd (qi 73 11 71 72) [71, 70, 2, 72, 5, 73] [73], qd (qL 74 11 73) [73, 71, 70, 2, 74] [74], qd (qf 75 16 3) [3, 75] [75], qd (ql 76 75) [75, 3, 76] [76], qd (qm 77 5) [5, 77] [77], qd (qi 78 11 76 77) [76, 75, 3, 77, 5, 78] [78], qd (qL 79 11 78) [78, 76, 75, 3, 79] [79], qd (qo 80 (.eqs true [1, 1, 1, 1, 2, 0, 1, 1, 1, 1, 2] (.t 74) (.t 79))) [74, 73, 71, 70, 2, 79, 78, 76, 75, 3, 80] [80]])
(.cond (.t 80)
(qR 4 (.b false))
.skip)))
(qr [qm 68 5, qB 69 .add 68 .i64 1, qa 5 69]))))))
(q3 (q3 (qr [qk 6 z64])
(.block 2 (.loop [2, 3, 6] [(2, .inv), (3, .inv), (6, li)] [(.exit 2, [(2, .inv), (3, .inv)]), (.ret, [(4, .leaf (.bk false))])]
(q3 (q3 (qr [qm 81 6, qf 82 17 2, ql 83 82, ql' 84 0 83, qb 85 .lss 81 84])
(.cond (.t 85)
.skip
(.exit 2)))
(q3 (.block 3 (q3 (.rgd [qd (qf 88 17 2) [2, 88] [88], qd (ql 89 88) [88, 2, 89] [89], qd (qm 90 6) [6, 90] [90], qd (qi 91 3 89 90) [89, 88, 2, 90, 6, 91] [91], qd (qL 92 3 91) [91, 89, 88, 2, 92] [92], qd (qf 93 17 3) [3, 93] [93], qd (ql 94 93) [93, 3, 94] [94], qd (qm 95 6) [6, 95] [95], qd (qi 96 3 94 95) [94, 93, 3, 95, 6, 96] [96], qd (qL 97 3 96) [96, 94, 93, 3, 97] [97], qd (qo 98 (.eqs true [1, 1, 1] (.t 92) (.t 97))) [92, 91, 89, 88, 2, 97, 96, 94, 93, 3, 98] [98]])
(.cond (.t 98)
(qR 4 (.b false))
.skip)))
(qr [qm 86 6, qB 87 .add 86 .i64 1, qa 6 87]))))))
(q3 (q3 (qr [qk 7 z64])
(.block 4 (.loop [2, 3, 7] [(2, .inv), (3, .inv), (7, li)] [(.exit 4, []), (.ret, [(4, .leaf (.bk false))])]
(q3 (q3 (qr [qm 99 7, qf 100 18 2, ql 101 100, ql' 102 0 101, qb 103 .lss 99 102])
(.cond (.t 103)
.skip
(.exit 4)))
(q3 (.block 5 (q3 (.rgd [qd (qf 106 18 2) [2, 106] [106], qd (ql 107 106) [106, 2, 107] [107], qd (qm 108 7) [7, 108] [108], qd (qi 109 6 107 108) [107, 106, 2, 108, 7, 109] [109], qd (qL 110 6 109) [109, 107, 106, 2, 110] [110], qd (qf 111 18 3) [3, 111] [111], qd (ql 112 111) [111, 3, 112] [112], qd (qm 113 7) [7, 113] [113], qd (qi 114 6 112 113) [112, 111, 3, 113, 7, 114] [114], qd (qL 115 6 114) [114, 112, 111, 3, 115] [115], qd (qc 116 61 [110, 115]) [110, 109, 107, 106, 2, 115, 114, 112, 111, 3, 116] [116], qd (qo 117 (.un .not (.t 116))) [116, 117] [117]])
(.cond (.t 117)
(qR 4 (.b false))
.skip)))
(qr [qm 104 7, qB 105 .add 104 .i64 1, qa 7 105]))))))
(qR 4 (.b true))))))),
  [(none, 4)], none⟩
theorem k74 : FnOk Tryz.prog ioF 33 h74.f := ⟨Tryz.f33, Tryz.func33, by kernel_rfl, by kernel_rfl, by kernel_rfl⟩
/-- spec_SameLead -/
def h75 : HFn := ⟨135, [], 2,
  (q3 (qr [qx 2 0, qx 3 1, qk 4 (.b false)])
(q3 (q3 (.jn [2, 3] [(.normal, [(2, .inv), (3, .inv), (98, .leaf .b)])]
(qr [qf 7 0 2, qL 8 2 7, qf 9 0 3, qL 10 2 9, qo 11 (.eqs true [1, 1] (.t 8) (.t 10)), qm 12 11, (⟨(some 13), [], .faddr 2 (.t 2), (some (12, false)), [], []⟩, 0), (⟨(some 14), [], .load false 1 (.t 13), (some (12, false)), [], []⟩, 0), (⟨(some 15), [], .faddr 2 (.t 3), (some (12, false)), [], []⟩, 0), (⟨(some 16), [], .load false 1 (.t 15), (some (12, false)), [], []⟩, 0), (⟨(some 17), [], .bin .neq (.t 14) (.t 16), (some (12, false)), [], []⟩, 0), qo 18 (.pick (.t 12) (.c (.leaf (.b true))) (.t 17)), qm 19 18, (⟨(some 20), [], .faddr 3 (.t 2), (some (19, false)), [], []⟩, 0), (⟨(some 21), [], .load false 1 (.t 20), (some (19, false)), [], []⟩, 0), (⟨(some 22), [], .faddr 3 (.t 3), (some (19, false)), [], []⟩, 0), (⟨(some 23), [], .load false 1 (.t 22), (some (19, false)), [], []⟩, 0), (⟨(some 24), [], .bin .neq (.t 21) (.t 23), (some (19, false)), [], []⟩, 0), qo 25 (.pick (.t 19) (.c (.leaf (.b true))) (.t 24)), qm 26 25, (⟨(some 27), [], .faddr 4 (.t 2), (some (26, false)), [], []⟩, 0), (⟨(some 28), [], .load true 2 (.t 27), (some (26, false)), [], []⟩, 0), (⟨(some 29), [], .faddr 4 (.t 3), (some (26, false)), [], []⟩, 0), (⟨(some 30), [], .load true 2 (.t 29), (some (26, false)), [], []⟩, 0), (⟨(some 31), [], .eqs true [1, 1] (.t 28) (.t 30), (some (26, false)), [], []⟩, 0), qo 32 (.pick (.t 26) (.c (.leaf (.b true))) (.t 31)), qm 33 32, (⟨(some 34), [], .faddr 6 (.t 2), (some (33, false)), [], []⟩, 0), (⟨(some 35), [], .load false 1 (.t 34), (some (33, false)), [], []⟩, 0), (⟨(some 36), [], .faddr 6 (.t 3), (some (33, false)), [], []⟩, 0), (⟨(some 37), [], .load false 1 (.t 36), (some (33, false)), [], []⟩, 0), (⟨(some 38), [], .call 30 none [(.t 35), (.t 37)], (some (33, false)), [], []⟩, 0), (⟨(some 39), [], .un .not (.t 38), (some (33, false)), [], []⟩, 0), qo 40 (.pick (.t 33) (.c (.leaf (.b true))) (.t 39)), qm 41 40, (⟨(some 42), [], .faddr 7 (.t 2), (some (41, false)), [], []⟩, 0), (⟨(some 43), [], .load false 1 (.t 42), (some (41, false)), [], []⟩, 0), (⟨(some 44), [], .faddr 7 (.t 3), (some (41, false)), [], []⟩, 0), (⟨(some 45), [], .load false 1 (.t 44), (some (41, false)), [], []⟩, 0), (⟨(some 46), [], .call 31 none [(.t 43), (.t 45)], (some (41, false)), [], []⟩, 0), (⟨(some 47), [], .un .not (.t 46), (some (41, false)), [], []⟩, 0), qo 48 (.pick (.t 41) (.c (.leaf (.b true))) (.t 47)), qm 49 48, (⟨(some 50), [], .faddr 8 (.t 2), (some (49, false)), [], []⟩, 0), (⟨(some 51), [], .load false 1 (.t 50), (some (49, false)), [], []⟩, 0), (⟨(some 52), [], .faddr 8 (.t 3), (some (49, false)), [], []⟩, 0), (⟨(some 53), [], .load false 1 (.t 52), (some (49, false)), [], []⟩, 0), (⟨(some 54), [], .call 32 none [(.t 51), (.t 53)], (some (49, false)), [], []⟩, 0), (⟨(some 55), [], .un .not (.t 54), (some (49, false)), [], []⟩, 0), qo 56 (.pick (.t 49) (.c (.leaf (.b true))) (.t 55)), qm 57 56, (⟨(some 58), [], .faddr 9 (.t 2), (some (57, false)), [], []⟩, 0), (⟨(some 59), [], .load true 12 (.t 58), (some (57, false)), [], []⟩, 0), (⟨(some 60), [], .faddr 9 (.t 3), (some (57, false)), [], []⟩, 0), (⟨(some 61), [], .load true 12 (.t 60), (some (57, false)), [], []⟩, 0), (⟨(some 62), [], .call 29 none [(.t 59), (.t 61)], (some (57, false)), [], []⟩, 0), (⟨(some 63), [], .un .not (.t 62), (some (57, false)), [], []⟩, 0), qo 64 (.pick (.t 57) (.c (.leaf (.b true))) (.t 63)), qm 65 64, (⟨(some 66), [], .faddr 21 (.t 2), (some (65, false)), [], []⟩, 0), (⟨(some 67), [], .load false 1 (.t 66), (some (65, false)), [], []⟩, 0), (⟨(some 68), [], .len 0 (.t 67), (some (65, false)), [], []⟩, 0), (⟨(some 69), [], .faddr 21 (.t 3), (some (65, false)), [], []⟩, 0), (⟨(some 70), [], .load false 1 (.t 69), (some (65, false)), [], []⟩, 0), (⟨(some 71), [], .len 0 (.t 70), (some (65, false)), [], []⟩, 0), (⟨(some 72), [], .bin .neq (.t 68) (.t 71), (some (65, false)), [], []⟩, 0), qo 73 (.pick (.t 65) (.c (.leaf (.b true))) (.t 72)), qm 74 73, (⟨(some 75), [], .faddr 22 (.t 2), (some (74, false)), [], []⟩, 0), (⟨(some 76), [], .load false 1 (.t 75), (some (74, false)), [], []⟩, 0), (⟨(some 77), [], .len 0 (.t 76), (some (74, false)), [], []⟩, 0), (⟨(some 78), [], .faddr 22 (.t 3), (some (74, false)), [], []⟩, 0), (⟨(some 79), [], .load false 1 (.t 78), (some (74, false)), [], []⟩, 0), (⟨(some 80), [], .len 0 (.t 79), (some (74, false)), [], []⟩, 0), (⟨(some 81), [], .bin .neq (.t 77) (.t 80), (some (74, false)), [], []⟩, 0), qo 82 (.pick (.t 74) (.c (.leaf (.b true))) (.t 81)), qm 83 82, (⟨(some 84), [], .faddr 23 (.t 2), (some (83, false)), [], []⟩, 0), (⟨(some 85), [], .load false 1 (.t 84), (some (83, false)), [], []⟩, 0), (⟨(some 86), [], .faddr 23 (.t 3), (some (83, false)), [], []⟩, 0), (⟨(some 87), [], .load false 1 (.t 86), (some (83, false)), [], []⟩, 0), (⟨(some 88), [], .call 30 none [(.t 85), (.t 87)], (some (83, false)), [], []⟩, 0), (⟨(some 89), [], .un .not (.t 88), (some (83, false)), [], []⟩, 0), qo 90 (.pick (.t 83) (.c (.leaf (.b true))) (.t 89)), qm 91 90, (⟨(some 92), [], .faddr 24 (.t 2), (some (91, false)), [], []⟩, 0), (⟨(some 93), [], .load true 19 (.t 92), (some (91, false)), [], []⟩, 0), (⟨(some 94), [], .faddr 24 (.t 3), (some (91, false)), [], []⟩, 0), (⟨(some 95), [], .load true 19 (.t 94), (some (91, false)), [], []⟩, 0), (⟨(some 96), [], .call 33 none [(.t 93), (.t 95)], (some (91, false)), [], []⟩, 0), (⟨(some 97), [], .un .not (.t 96), (some (91, false)), [], []⟩, 0), qo 98 (.pick (.t 91) (.c (.leaf (.b true))) (.t 97))]))
(.cond (.t 98)
(qR 4 (.b false))
.skip))
(q3 (q3 (qr [qk 5 z64])
(.block 0 (.loop [2, 3, 5] [(2, .inv), (3, .inv), (5, li)] [(.exit 0, [(2, .inv), (3, .inv)]), (.ret, [(4, .leaf (.bk false))])]
(q3 (q3 (qr [qm 99 5, qf 100 21 2, ql 101 100, ql' 102 0 101, qb 103 .lss 99 102])
(.cond (.t 103)
.skip
(.exit 0)))
(q3 (.block 1 (q3 (.rgd [qd (qf 106 21 2) [2, 106] [106], qd (ql 107 106) [106, 2, 107] [107], qd (qm 108 5) [5, 108] [108], qd (qi 109 7 107 108) [107, 106, 2, 108, 5, 109] [109], qd (qL 110 7 109) [109, 107, 106, 2, 110] [110], qd (qf 111 21 3) [3, 111] [111], qd (ql 112 111) [111, 3, 112] [112], qd (qm 113 5) [5, 113] [113], qd (qi 114 7 112 113) [112, 111, 3, 113, 5, 114] [114], qd (qL 115 7 114) [114, 112, 111, 3, 115] [115], qd (qo 116 (.eqs true [1, 1, 2, 1, 1, 1, 1] (.t 110) (.t 115))) [110, 109, 107, 106, 2, 115, 114, 112, 111, 3, 116] [116]])
(.cond (.t 116)
(qR 4 (.b false))
.skip)))
(qr [qm 104 5, qB 105 .add 104 .i64 1, qa 5 105]))))))
(q3 (q3 (qr [qk 6 z64])
(.block 2 (.loop [2, 3, 6] [(2, .inv), (3, .inv), (6, li)] [(.exit 2, []), (.ret, [(4, .leaf (.bk false))])]
(q3 (q3 (qr [qm 117 6, qf 118 22 2, ql 119 118, ql' 120 0 119, qb 121 .lss 117 120])
(.cond (.t 121)
.skip
(.exit 2)))
(q3 (.block 3 (q3 (.rgd [qd (qf 124 22 2) [2, 124] [124], qd (ql 125 124) [124, 2, 125] [125], qd (qm 126 6) [6, 126] [126], qd (qi 127 6 125 126) [125, 124, 2, 126, 6, 127] [127], qd (qL 128 6 127) [127, 125, 124, 2, 128] [128], qd (qf 129 22 3) [3, 129] [129], qd (ql 130 129) [129, 3, 130] [130], qd (qm 131 6) [6, 131] [131], qd (qi 132 6 130 131) [130, 129, 3, 131, 6, 132] [132], qd (qL 133 6 132) [132, 130, 129, 3, 133] [133], qd (qo 134 (.eqs true [2, 1, 1, 1, 1, 2] (.t 128) (.t 133))) [128, 127, 125, 124, 2, 133, 132, 130, 129, 3, 134] [134]])
(.cond (.t 134)
(qR 4 (.b false))
.skip)))
(qr [qm 122 6, qB 123 .add 122 .i64 1, qa 6 123]))))))
(qR 4 (.b true)))))),
  [(none, 4)], none⟩
theorem k75 : FnOk Tryz.prog ioF 13 h75.f := ⟨Tryz.f13, Tryz.func13, by kernel_rfl, by kernel_rfl, by kernel_rfl⟩
/-- spec_l17Same -/
def h76 : HFn := ⟨150, [], 2,
  (q3 (qr [qx 2 0, qx 3 1, qk 4 (.b false)])
(q3 (q3 (.jn [2, 3] [(.normal, [(2, .inv), (3, .inv), (77, .leaf .b)])]
(qr [qf 9 0 2, qL 10 2 9, qf 11 0 3, qL 12 2 11, qo 13 (.eqs true [1, 1] (.t 10) (.t 12)), qm 14 13, (⟨(some 15), [], .faddr 2 (.t 2), (some (14, false)), [], []⟩, 0), (⟨(some 16), [], .load false 1 (.t 15), (some (14, false)), [], []⟩, 0), (⟨(some 17), [], .faddr 2 (.t 3), (some (14, false)), [], []⟩, 0), (⟨(some 18), [], .load false 1 (.t 17), (some (14, false)), [], []⟩, 0), (⟨(some 19), [], .bin .neq (.t 16) (.t 18), (some (14, false)), [], []⟩, 0), qo 20 (.pick (.t 14) (.c (.leaf (.b true))) (.t 19)), qm 21 20, (⟨(some 22), [], .faddr 3 (.t 2), (some (21, false)), [], []⟩, 0), (⟨(some 23), [], .load false 1 (.t 22), (some (21, false)), [], []⟩, 0), (⟨(some 24), [], .faddr 3 (.t 3), (some (21, false)), [], []⟩, 0), (⟨(some 25), [], .load false 1 (.t 24), (some (21, false)), [], []⟩, 0), (⟨(some 26), [], .bin .neq (.t 23) (.t 25), (some (21, false)), [], []⟩, 0), qo 27 (.pick (.t 21) (.c (.leaf (.b true))) (.t 26)), qm 28 27, (⟨(some 29), [], .faddr 4 (.t 2), (some (28, false)), [], []⟩, 0), (⟨(some 30), [], .load true 2 (.t 29), (some (28, false)), [], []⟩, 0), (⟨(some 31), [], .faddr 4 (.t 3), (some (28, false)), [], []⟩, 0), (⟨(some 32), [], .load true 2 (.t 31), (some (28, false)), [], []⟩, 0), (⟨(some 33), [], .eqs true [1, 1] (.t 30) (.t 32), (some (28, false)), [], []⟩, 0), qo 34 (.pick (.t 28) (.c (.leaf (.b true))) (.t 33)), qm 35 34, (⟨(some 36), [], .faddr 9 (.t 2), (some (35, false)), [], []⟩, 0), (⟨(some 37), [], .load true 2 (.t 36), (some (35, false)), [], []⟩, 0), (⟨(some 38), [], .faddr 9 (.t 3), (some (35, false)), [], []⟩, 0), (⟨(some 39), [], .load true 2 (.t 38), (some (35, false)), [], []⟩, 0), (⟨(some 40), [], .eqs true [1, 1] (.t 37) (.t 39), (some (35, false)), [], []⟩, 0), qo 41 (.pick (.t 35) (.c (.leaf (.b true))) (.t 40)), qm 42 41, (⟨(some 43), [], .faddr 6 (.t 2), (some (42, false)), [], []⟩, 0), (⟨(some 44), [], .load false 1 (.t 43), (some (42, false)), [], []⟩, 0), (⟨(some 45), [], .len 0 (.t 44), (some (42, false)), [], []⟩, 0), (⟨(some 46), [], .faddr 6 (.t 3), (some (42, false)), [], []⟩, 0), (⟨(some 47), [], .load false 1 (.t 46), (some (42, false)), [], []⟩, 0), (⟨(some 48), [], .len 0 (.t 47), (some (42, false)), [], []⟩, 0), (⟨(some 49), [], .bin .neq (.t 45) (.t 48), (some (42, false)), [], []⟩, 0), qo 50 (.pick (.t 42) (.c (.leaf (.b true))) (.t 49)), qm 51 50, (⟨(some 52), [], .faddr 7 (.t 2), (some (51, false)), [], []⟩, 0), (⟨(some 53), [], .load false 1 (.t 52), (some (51, false)), [], []⟩, 0), (⟨(some 54), [], .len 0 (.t 53), (some (51, false)), [], []⟩, 0), (⟨(some 55), [], .faddr 7 (.t 3), (some (51, false)), [], []⟩, 0), (⟨(some 56), [], .load false 1 (.t 55), (some (51, false)), [], []⟩, 0), (⟨(some 57), [], .len 0 (.t 56), (some (51, false)), [], []⟩, 0), (⟨(some 58), [], .bin .neq (.t 54) (.t 57), (some (51, false)), [], []⟩, 0), qo 59 (.pick (.t 51) (.c (.leaf (.b true))) (.t 58)), qm 60 59, (⟨(some 61), [], .faddr 8 (.t 2), (some (60, false)), [], []⟩, 0), (⟨(some 62), [], .load false 1 (.t 61), (some (60, false)), [], []⟩, 0), (⟨(some 63), [], .len 0 (.t 62), (some (60, false)), [], []⟩, 0), (⟨(some 64), [], .faddr 8 (.t 3), (some (60, false)), [], []⟩, 0), (⟨(some 65), [], .load false 1 (.t 64), (some (60, false)), [], []⟩, 0), (⟨(some 66), [], .len 0 (.t 65), (some (60, false)), [], []⟩, 0), (⟨(some 67), [], .bin .neq (.t 63) (.t 66), (some (60, false)), [], []⟩, 0), qo 68 (.pick (.t 60) (.c (.leaf (.b true))) (.t 67)), qm 69 68, (⟨(some 70), [], .faddr 11 (.t 2), (some (69, false)), [], []⟩, 0), (⟨(some 71), [], .load false 1 (.t 70), (some (69, false)), [], []⟩, 0), (⟨(some 72), [], .len 0 (.t 71), (some (69, false)), [], []⟩, 0), (⟨(some 73), [], .faddr 11 (.t 3), (some (69, false)), [], []⟩, 0), (⟨(some 74), [], .load false 1 (.t 73), (some (69, false)), [], []⟩, 0), (⟨(some 75), [], .len 0 (.t 74), (some (69, false)), [], []⟩, 0), (⟨(some 76), [], .bin .neq (.t 72) (.t 75), (some (69, false)), [], []⟩, 0), qo 77 (.pick (.t 69) (.c (.leaf (.b true))) (.t 76))]))
(.cond (.t 77)
(qR 4 (.b false))
.skip))
(q3 (q3 (qr [qk 5 z64])
(.block 0 (.loop [2, 3, 5] [(2, .inv), (3, .inv), (5, li)] [(.exit 0, [(2, .inv), (3, .inv)]), (.ret, [(4, .leaf (.bk false))])]
(q3 (q3 (qr [qm 78 5, qf 79 6 2, ql 80 79, ql' 81 0 80, qb 82 .lss 78 81])
(.cond (.t 82)
.skip
(.exit 0)))
(q3 (.block 1 (q3 (.rgd [qd (qf 85 6 2) [2, 85] [85], qd (ql 86 85) [85, 2, 86] [86], qd (qm 87 5) [5, 87] [87], qd (qi 88 5 86 87) [86, 85, 2, 87, 5, 88] [88], qd (qL 89 5 88) [88, 86, 85, 2, 89] [89], qd (qf 90 6 3) [3, 90] [90], qd (ql 91 90) [90, 3, 91] [91], qd (qm 92 5) [5, 92] [92], qd (qi 93 5 91 92) [91, 90, 3, 92, 5, 93] [93], qd (qL 94 5 93) [93, 91, 90, 3, 94] [94], qd (qo 95 (.eqs true [2, 1, 1, 1, 1] (.t 89) (.t 94))) [89, 88, 86, 85, 2, 94, 93, 91, 90, 3, 95] [95]])
(.cond (.t 95)
(qR 4 (.b false))
.skip)))
(qr [qm 83 5, qB 84 .add 83 .i64 1, qa 5 84]))))))
(q3 (q3 (qr [qk 6 z64])
(.block 2 (.loop [2, 3, 6] [(2, .inv), (3, .inv), (6, li)] [(.exit 2, [(2, .inv), (3, .inv)]), (.ret, [(4, .leaf (.bk false))])]
(q3 (q3 (qr [qm 96 6, qf 97 7 2, ql 98 97, ql' 99 0 98, qb 100 .lss 96 99])
(.cond (.t 100)
.skip
(.exit 2)))
(q3 (.block 3 (q3 (.rgd [qd (qf 103 7 2) [2, 103] [103], qd (ql 104 103) [103, 2, 104] [104], qd (qm 105 6) [6, 105] [105], qd (qi 106 4 104 105) [104, 103, 2, 105, 6, 106] [106], qd (qL 107 4 106) [106, 104, 103, 2, 107] [107], qd (qf 108 7 3) [3, 108] [108], qd (ql 109 108) [108, 3, 109] [109], qd (qm 110 6) [6, 110] [110], qd (qi 111 4 109 110) [109, 108, 3, 110, 6, 111] [111], qd (qL 112 4 111) [111, 109, 108, 3, 112] [112], qd (qo 113 (.eqs true [1, 1, 1, 1] (.t 107) (.t 112))) [107, 106, 104, 103, 2, 112, 111, 109, 108, 3, 113] [113]])
(.cond (.t 113)
(qR 4 (.b false))
.skip)))
(qr [qm 101 6, qB 102 .add 101 .i64 1, qa 6 102]))))))
(q3 (q3 (qr [qk 7 z64])
(.block 4 (.loop [2, 3, 7] [(2, .inv), (3, .inv), (7, li)] [(.exit 4, [(2, .inv), (3, .inv)]), (.ret, [(4, .leaf (.bk false))])]
(q3 (q3 (qr [qm 114 7, qf 115 8 2, ql 116 115, ql' 117 0 116, qb 118 .lss 114 117])
(.cond (.t 118)
.skip
(.exit 4)))
(q3 (.block 5 (q3 (.rgd [qd (qf 121 8 2) [2, 121] [121], qd (ql 122 121) [121, 2, 122] [122], qd (qm 123 7) [7, 123] [123], qd (qi 124 10 122 123) [122, 121, 2, 123, 7, 124] [124], qd (qL 125 10 124) [124, 122, 121, 2, 125] [125], qd (qf 126 8 3) [3, 126] [126], qd (ql 127 126) [126, 3, 127] [127], qd (qm 128 7) [7, 128] [128], qd (qi 129 10 127 128) [127, 126, 3, 128, 7, 129] [129], qd (qL 130 10 129) [129, 127, 126, 3, 130] [130], qd (qo 131 (.eqs true [1, 1, 1, 1, 2, 0, 1, 1, 1, 1] (.t 125) (.t 130))) [125, 124, 122, 121, 2, 130, 129, 127, 126, 3, 131] [131]])
(.cond (.t 131)
(qR 4 (.b false))
.skip)))
(qr [qm 119 7, qB 120 .add 119 .i64 1, qa 7 120]))))))
(q3 (q3 (qr [qk 8 z64])
(.block 6 (.loop [2, 3, 8] [(2, .inv), (3, .inv), (8, li)] [(.exit 6, []), (.ret, [(4, .leaf (.bk false))])]
(q3 (q3 (qr [qm 132 8, qf 133 11 2, ql 134 133, ql' 135 0 134, qb 136 .lss 132 135])
(.cond (.t 136)
.skip
(.exit 6)))
(q3 (.block 7 (q3 (.rgd [qd (qf 139 11 2) [2, 139] [139], qd (ql 140 139) [139, 2, 140] [140], qd (qm 141 8) [8, 141] [141], qd (qi 142 6 140 141) [140, 139, 2, 141, 8, 142] [142], qd (qL 143 6 142) [142, 140, 139, 2, 143] [143], qd (qf 144 11 3) [3, 144] [144], qd (ql 145 144) [144, 3, 145] [145], qd (qm 146 8) [8, 146] [146], qd (qi 147 6 145 146) [145, 144, 3, 146, 8, 147] [147], qd (qL 148 6 147) [147, 145, 144, 3, 148] [148], qd (qo 149 (.eqs true [2, 1, 1, 1, 1, 2] (.t 143) (.t 148))) [143, 142, 140, 139, 2, 148, 147, 145, 144, 3, 149] [149]])
(.cond (.t 149)
(qR 4 (.b false))
.skip)))
(qr [qm 137 8, qB 138 .add 137 .i64 1, qa 8 138]))))))
(qR 4 (.b true)))))))),
  [(none, 4)], none⟩
theorem k76 : FnOk Tryz.prog ioF 62 h76.f := ⟨Tryz.f62, Tryz.func62, by kernel_rfl, by kernel_rfl, by kernel_rfl⟩
/-- spec_MsgSame -/
def h77 : HFn := ⟨106, [], 2,
  (q3 (qr [qx 2 0, qx 3 1, qk 4 (.b false)])
(q3 (q3 (.jn [2, 3] [(.normal, [(2, .inv), (3, .inv), (58, .leaf .b)])]
(qr [qf 5 0 2, ql 6 5, qf 7 0 3, ql 8 7, qb 9 .neq 6 8, qm 10 9, (⟨(some 11), [], .faddr 1 (.t 2), (some (10, false)), [], []⟩, 0), (⟨(some 12), [], .load false 1 (.t 11), (some (10, false)), [], []⟩, 0), (⟨(some 13), [], .faddr 1 (.t 3), (some (10, false)), [], []⟩, 0), (⟨(some 14), [], .load false 1 (.t 13), (some (10, false)), [], []⟩, 0), (⟨(some 15), [], .bin .neq (.t 12) (.t 14), (some (10, false)), [], []⟩, 0), qo 16 (.pick (.t 10) (.c (.leaf (.b true))) (.t 15)), qm 17 16, (⟨(some 18), [], .faddr 2 (.t 2), (some (17, false)), [], []⟩, 0), (⟨(some 19), [], .load false 1 (.t 18), (some (17, false)), [], []⟩, 0), (⟨(some 20), [], .faddr 2 (.t 3), (some (17, false)), [], []⟩, 0), (⟨(some 21), [], .load false 1 (.t 20), (some (17, false)), [], []⟩, 0), (⟨(some 22), [], .bin .neq (.t 19) (.t 21), (some (17, false)), [], []⟩, 0), qo 23 (.pick (.t 17) (.c (.leaf (.b true))) (.t 22)), qm 24 23, (⟨(some 25), [], .faddr 3 (.t 2), (some (24, false)), [], []⟩, 0), (⟨(some 26), [], .load true 2 (.t 25), (some (24, false)), [], []⟩, 0), (⟨(some 27), [], .faddr 3 (.t 3), (some (24, false)), [], []⟩, 0), (⟨(some 28), [], .load true 2 (.t 27), (some (24, false)), [], []⟩, 0), (⟨(some 29), [], .eqs true [1, 1] (.t 26) (.t 28), (some (24, false)), [], []⟩, 0), qo 30 (.pick (.t 24) (.c (.leaf (.b true))) (.t 29)), qm 31 30, (⟨(some 32), [], .faddr 5 (.t 2), (some (31, false)), [], []⟩, 0), (⟨(some 33), [], .load false 1 (.t 32), (some (31, false)), [], []⟩, 0), (⟨(some 34), [], .faddr 5 (.t 3), (some (31, false)), [], []⟩, 0), (⟨(some 35), [], .load false 1 (.t 34), (some (31, false)), [], []⟩, 0), (⟨(some 36), [], .bin .neq (.t 33) (.t 35), (some (31, false)), [], []⟩, 0), qo 37 (.pick (.t 31) (.c (.leaf (.b true))) (.t 36)), qm 38 37, (⟨(some 39), [], .faddr 6 (.t 2), (some (38, false)), [], []⟩, 0), (⟨(some 40), [], .load false 1 (.t 39), (some (38, false)), [], []⟩, 0), (⟨(some 41), [], .faddr 6 (.t 3), (some (38, false)), [], []⟩, 0), (⟨(some 42), [], .load false 1 (.t 41), (some (38, false)), [], []⟩, 0), (⟨(some 43), [], .bin .neq (.t 40) (.t 42), (some (38, false)), [], []⟩, 0), qo 44 (.pick (.t 38) (.c (.leaf (.b true))) (.t 43)), qm 45 44, (⟨(some 46), [], .faddr 7 (.t 2), (some (45, false)), [], []⟩, 0), (⟨(some 47), [], .load true 2 (.t 46), (some (45, false)), [], []⟩, 0), (⟨(some 48), [], .faddr 7 (.t 3), (some (45, false)), [], []⟩, 0), (⟨(some 49), [], .load true 2 (.t 48), (some (45, false)), [], []⟩, 0), (⟨(some 50), [], .eqs true [1, 1] (.t 47) (.t 49), (some (45, false)), [], []⟩, 0), qo 51 (.pick (.t 45) (.c (.leaf (.b true))) (.t 50)), qm 52 51, (⟨(some 53), [], .faddr 9 (.t 2), (some (52, false)), [], []⟩, 0), (⟨(some 54), [], .load true 2 (.t 53), (some (52, false)), [], []⟩, 0), (⟨(some 55), [], .faddr 9 (.t 3), (some (52, false)), [], []⟩, 0), (⟨(some 56), [], .load true 2 (.t 55), (some (52, false)), [], []⟩, 0), (⟨(some 57), [], .eqs true [1, 1] (.t 54) (.t 56), (some (52, false)), [], []⟩, 0), qo 58 (.pick (.t 52) (.c (.leaf (.b true))) (.t 57))]))
(.cond (.t 58)
(qR 4 (.b false))
.skip))
(q3 (qr [qf 59 23 2, qL 60 10 59, qf 61 23 3, qL 62 10 61, qo 63 (.eqs false [1, 1, 1, 1, 2, 0, 1, 1, 1, 1] (.t 60) (.t 62)), qm 64 63, (⟨(some 65), [], .faddr 33 (.t 2), (some (64, true)), [], []⟩, 0), (⟨(some 66), [], .load true 6 (.t 65), (some (64, true)), [], []⟩, 0), (⟨(some 67), [], .faddr 33 (.t 3), (some (64, true)), [], []⟩, 0), (⟨(some 68), [], .load true 6 (.t 67), (some (64, true)), [], []⟩, 0), (⟨(some 69), [], .eqs false [2, 1, 1, 1, 1, 2] (.t 66) (.t 68), (some (64, true)), [], []⟩, 0), qo 70 (.pick (.t 64) (.t 69) (.c (.leaf (.b false)))), qm 71 70, (⟨(some 72), [], .faddr 39 (.t 2), (some (71, true)), [], []⟩, 0), (⟨(some 73), [], .load true 3 (.t 72), (some (71, true)), [], []⟩, 0), (⟨(some 74), [], .faddr 39 (.t 3), (some (71, true)), [], []⟩, 0), (⟨(some 75), [], .load true 3 (.t 74), (some (71, true)), [], []⟩, 0), (⟨(some 76), [], .eqs false [1, 1, 2] (.t 73) (.t 75), (some (71, true)), [], []⟩, 0), qo 77 (.pick (.t 71) (.t 76) (.c (.leaf (.b false)))), qm 78 77, (⟨(some 79), [], .faddr 42 (.t 2), (some (78, true)), [], []⟩, 0), (⟨(some 80), [], .load true 2 (.t 79), (some (78, true)), [], []⟩, 0), (⟨(some 81), [], .faddr 42 (.t 3), (some (78, true)), [], []⟩, 0), (⟨(some 82), [], .load true 2 (.t 81), (some (78, true)), [], []⟩, 0), (⟨(some 83), [], .eqs false [1, 1] (.t 80) (.t 82), (some (78, true)), [], []⟩, 0), qo 84 (.pick (.t 78) (.t 83) (.c (.leaf (.b false)))), qm 85 84, (⟨(some 86), [], .faddr 44 (.t 2), (some (85, true)), [], []⟩, 0), (⟨(some 87), [], .load false 1 (.t 86), (some (85, true)), [], []⟩, 0), (⟨(some 88), [], .faddr 44 (.t 3), (some (85, true)), [], []⟩, 0), (⟨(some 89), [], .load false 1 (.t 88), (some (85, true)), [], []⟩, 0), (⟨(some 90), [], .bin .eql (.t 87) (.t 89), (some (85, true)), [], []⟩, 0), qo 91 (.pick (.t 85) (.t 90) (.c (.leaf (.b false)))), qm 92 91, (⟨(some 93), [], .faddr 45 (.t 2), (some (92, true)), [], []⟩, 0), (⟨(some 94), [], .load false 1 (.t 93), (some (92, true)), [], []⟩, 0), (⟨(some 95), [], .faddr 45 (.t 3), (some (92, true)), [], []⟩, 0), (⟨(some 96), [], .load false 1 (.t 95), (some (92, true)), [], []⟩, 0), (⟨(some 97), [], .bin .eql (.t 94) (.t 96), (some (92, true)), [], []⟩, 0), qo 98 (.pick (.t 92) (.t 97) (.c (.leaf (.b false)))), qm 99 98, (⟨(some 100), [], .faddr 11 (.t 2), (some (99, true)), [], []⟩, 0), (⟨(some 101), [], .load true 12 (.t 100), (some (99, true)), [], []⟩, 0), (⟨(some 102), [], .faddr 11 (.t 3), (some (99, true)), [], []⟩, 0), (⟨(some 103), [], .load true 12 (.t 102), (some (99, true)), [], []⟩, 0), (⟨(some 104), [], .call 62 none [(.t 101), (.t 103)], (some (99, true)), [], []⟩, 0), qo 105 (.pick (.t 99) (.t 104) (.c (.leaf (.b false)))), qa 4 105])
.ret))),
  [(none, 4)], none⟩
theorem k77 : FnOk Tryz.prog ioF 34 h77.f := ⟨Tryz.f34, Tryz.func34, by kernel_rfl, by kernel_rfl, by kernel_rfl⟩
/-- spec_l30SameMsgs -/
def h78 : HFn := ⟨27, [], 2,
  (q3 (qr [qk 4 (.b false)])
(q3 (q3 (qr [qm 6 0, ql' 7 0 6, qm 8 1, ql' 9 0 8, qb 10 .neq 7 9])
(.cond (.t 10)
(qR 4 (.b false))
.skip))
(q3 (q3 (qr [qk 5 z64])
(.block 0 (.loop [0, 1, 5] [(0, .inv), (1, .inv), (5, li)] [(.exit 0, []), (.ret, [(4, .leaf (.bk false))])]
(q3 (q3 (qr [qm 11 5, qm 12 0, ql' 13 0 12, qb 14 .lss 11 13])
(.cond (.t 14)
.skip
(.exit 0)))
(q3 (.block 1 (q3 (.rgd [qd (qm 17 0) [0, 17] [17], qd (qm 18 5) [5, 18] [18], qd (qi 19 46 17 18) [17, 0, 18, 5, 19] [19], qd (qL 20 46 19) [19, 17, 0, 20] [20], qd (qm 21 1) [1, 21] [21], qd (qm 22 5) [5, 22] [22], qd (qi 23 46 21 22) [21, 1, 22, 5, 23] [23], qd (qL 24 46 23) [23, 21, 1, 24] [24], qd (qc 25 34 [20, 24]) [20, 19, 17, 0, 24, 23, 21, 1, 25] [25], qd (qo 26 (.un .not (.t 25))) [25, 26] [26]])
(.cond (.t 26)
(qR 4 (.b false))
.skip)))
(qr [qm 15 5, qB 16 .add 15 .i64 1, qa 5 16]))))))
(qR 4 (.b true))))),
  [(none, 4)], none⟩
theorem k78 : FnOk Tryz.prog ioF 14 h78.f := ⟨Tryz.f14, Tryz.func14, by kernel_rfl, by kernel_rfl, by kernel_rfl⟩
/-- spec_SameServer -/
def h79 : HFn := ⟨78, [], 2,
  (q3 (qr [qx 2 0, qx 3 1, qk 4 (.b false)])
(q3 (q3 (.jn [2, 3] [(.normal, [(2, .inv), (3, .inv), (53, .leaf .b)])]
(qr [qf 6 0 2, ql 7 6, qf 8 0 3, ql 9 8, qb 10 .neq 7 9, qm 11 10, (⟨(some 12), [], .faddr 1 (.t 2), (some (11, false)), [], []⟩, 0), (⟨(some 13), [], .load false 1 (.t 12), (some (11, false)), [], []⟩, 0), (⟨(some 14), [], .faddr 1 (.t 3), (some (11, false)), [], []⟩, 0), (⟨(some 15), [], .load false 1 (.t 14), (some (11, false)), [], []⟩, 0), (⟨(some 16), [], .bin .neq (.t 13) (.t 15), (some (11, false)), [], []⟩, 0), qo 17 (.pick (.t 11) (.c (.leaf (.b true))) (.t 16)), qm 18 17, (⟨(some 19), [], .faddr 2 (.t 2), (some (18, false)), [], []⟩, 0), (⟨(some 20), [], .load false 1 (.t 19), (some (18, false)), [], []⟩, 0), (⟨(some 21), [], .faddr 2 (.t 3), (some (18, false)), [], []⟩, 0), (⟨(some 22), [], .load false 1 (.t 21), (some (18, false)), [], []⟩, 0), (⟨(some 23), [], .eqc true 0 (.t 20) (.t 22), (some (18, false)), [], []⟩, 0), qo 24 (.pick (.t 18) (.c (.leaf (.b true))) (.t 23)), qm 25 24, (⟨(some 26), [], .faddr 3 (.t 2), (some (25, false)), [], []⟩, 0), (⟨(some 27), [], .faddr 0 (.t 26), (some (25, false)), [], []⟩, 0), (⟨(some 28), [], .load false 1 (.t 27), (some (25, false)), [], []⟩, 0), (⟨(some 29), [], .faddr 3 (.t 3), (some (25, false)), [], []⟩, 0), (⟨(some 30), [], .faddr 0 (.t 29), (some (25, false)), [], []⟩, 0), (⟨(some 31), [], .load false 1 (.t 30), (some (25, false)), [], []⟩, 0), (⟨(some 32), [], .call 12 none [(.t 28), (.t 31)], (some (25, false)), [], []⟩, 0), (⟨(some 33), [], .un .not (.t 32), (some (25, false)), [], []⟩, 0), qo 34 (.pick (.t 25) (.c (.leaf (.b true))) (.t 33)), qm 35 34, (⟨(some 36), [], .faddr 3 (.t 2), (some (35, false)), [], []⟩, 0), (⟨(some 37), [], .faddr 1 (.t 36), (some (35, false)), [], []⟩, 0), (⟨(some 38), [], .load false 1 (.t 37), (some (35, false)), [], []⟩, 0), (⟨(some 39), [], .faddr 3 (.t 3), (some (35, false)), [], []⟩, 0), (⟨(some 40), [], .faddr 1 (.t 39), (some (35, false)), [], []⟩, 0), (⟨(some 41), [], .load false 1 (.t 40), (some (35, false)), [], []⟩, 0), (⟨(some 42), [], .call 12 none [(.t 38), (.t 41)], (some (35, false)), [], []⟩, 0), (⟨(some 43), [], .un .not (.t 42), (some (35, false)), [], []⟩, 0), qo 44 (.pick (.t 35) (.c (.leaf (.b true))) (.t 43)), qm 45 44, (⟨(some 46), [], .faddr 5 (.t 2), (some (45, false)), [], []⟩, 0), (⟨(some 47), [], .load false 1 (.t 46), (some (45, false)), [], []⟩, 0), (⟨(some 48), [], .len 0 (.t 47), (some (45, false)), [], []⟩, 0), (⟨(some 49), [], .faddr 5 (.t 3), (some (45, false)), [], []⟩, 0), (⟨(some 50), [], .load false 1 (.t 49), (some (45, false)), [], []⟩, 0), (⟨(some 51), [], .len 0 (.t 50), (some (45, false)), [], []⟩, 0), (⟨(some 52), [], .bin .neq (.t 48) (.t 51), (some (45, false)), [], []⟩, 0), qo 53 (.pick (.t 45) (.c (.leaf (.b true))) (.t 52))]))
(.cond (.t 53)
(qR 4 (.b false))
.skip))
(q3 (q3 (qr [qk 5 z64])
(.block 0 (.loop [2, 3, 5] [(2, .inv), (3, .inv), (5, li)] [(.exit 0, [(2, .inv), (3, .inv)]), (.ret, [(4, .leaf (.bk false))])]
(q3 (q3 (qr [qm 54 5, qf 55 5 2, ql 56 55, ql' 57 0 56, qb 58 .lss 54 57])
(.cond (.t 58)
.skip
(.exit 0)))
(q3 (.block 1 (q3 (.rgd [qd (qf 61 5 2) [2, 61] [61], qd (ql 62 61) [61, 2, 62] [62], qd (qm 63 5) [5, 63] [63], qd (qi 64 43 62 63) [62, 61, 2, 63, 5, 64] [64], qd (qL 65 43 64) [64, 62, 61, 2, 65] [65], qd (qf 66 5 3) [3, 66] [66], qd (ql 67 66) [66, 3, 67] [67], qd (qm 68 5) [5, 68] [68], qd (qi 69 43 67 68) [67, 66, 3, 68, 5, 69] [69], qd (qL 70 43 69) [69, 67, 66, 3, 70] [70], qd (qc 71 13 [65, 70]) [65, 64, 62, 61, 2, 70, 69, 67, 66, 3, 71] [71], qd (qo 72 (.un .not (.t 71))) [71, 72] [72]])
(.cond (.t 72)
(qR 4 (.b false))
.skip)))
(qr [qm 59 5, qB 60 .add 59 .i64 1, qa 5 60]))))))
(q3 (qr [qf 73 6 2, ql 74 73, qf 75 6 3, ql 76 75, qc 77 14 [74, 76], qa 4 77])
.ret)))),
  [(none, 4)], none⟩
theorem k79 : FnOk Tryz.prog ioF 5 h79.f := ⟨Tryz.f5, Tryz.func5, by kernel_rfl, by kernel_rfl, by kernel_rfl⟩
/-- impl_Head_ -/
def h80 : HFn := ⟨26, [], 2,
  (q3 (qr [qk 4 (.b false)])
(q3 (q3 (qr [qm 6 0, ql' 7 0 6, qm 8 1, ql' 9 0 8, qb 10 .neq 7 9])
(.cond (.t 10)
(qR 4 (.b false))
.skip))
(q3 (q3 (qr [qm 11 0, ql' 12 0 11, qo 13 (.mv (.c (.leaf z64)))])
(.block 0 (.loop [0, 1, 12, 13] [(0, .inv), (1, .inv), (12, .inv), (13, li)] [(.exit 0, []), (.ret, [(4, .leaf (.bk false))])]
(q3 (qr [qb 14 .lss 13 12])
(q3 (.cond (.t 14)
.skip
(.exit 0))
(q3 (.block 1 (q3 (qr [qm 15 13, qa 5 15])
(q3 (.rgd [qd (qm 16 0) [0, 16] [16], qd (qm 17 5) [5, 13, 25, 17] [17], qd (qi 18 5 16 17) [16, 0, 17, 5, 13, 25, 18] [18], qd (qL 19 5 18) [18, 16, 0, 19] [19], qd (qm 20 1) [1, 20] [20], qd (qm 21 5) [5, 13, 25, 21] [21], qd (qi 22 5 20 21) [20, 1, 21, 5, 13, 25, 22] [22], qd (qL 23 5 22) [22, 20, 1, 23] [23], qd (qo 24 (.eqs true [2, 1, 1, 1, 1] (.t 19) (.t 23))) [19, 18, 16, 0, 23, 22, 20, 1, 24] [24]])
(.cond (.t 24)
(qR 4 (.b false))
.skip))))
(qr [qB 25 .add 13 .i64 1, qm 13 25])))))))
(qR 4 (.b true))))),
  [(none, 4)], none⟩
theorem k80 : FnOk Tryz.prog ioF 78 h80.f := ⟨Tryz.f78, Tryz.func78, by kernel_rfl, by kernel_rfl, by kernel_rfl⟩
/-- impl_Last_ -/
def h81 : HFn := ⟨26, [], 2,
  (q3 (qr [qk 4 (.b false)])
(q3 (q3 (qr [qm 6 0, ql' 7 0 6, qm 8 1, ql' 9 0 8, qb 10 .neq 7 9])
(.cond (.t 10)
(qR 4 (.b false))
.skip))
(q3 (q3 (qr [qm 11 0, ql' 12 0 11, qo 13 (.mv (.c (.leaf z64)))])
(.block 0 (.loop [0, 1, 12, 13] [(0, .inv), (1, .inv), (12, .inv), (13, li)] [(.exit 0, []), (.ret, [(4, .leaf (.bk false))])]
(q3 (qr [qb 14 .lss 13 12])
(q3 (.cond (.t 14)
.skip
(.exit 0))
(q3 (.block 1 (q3 (qr [qm 15 13, qa 5 15])
(q3 (.rgd [qd (qm 16 0) [0, 16] [16], qd (qm 17 5) [5, 13, 25, 17] [17], qd (qi 18 4 16 17) [16, 0, 17, 5, 13, 25, 18] [18], qd (qL 19 4 18) [18, 16, 0, 19] [19], qd (qm 20 1) [1, 20] [20], qd (qm 21 5) [5, 13, 25, 21] [21], qd (qi 22 4 20 21) [20, 1, 21, 5, 13, 25, 22] [22], qd (qL 23 4 22) [22, 20, 1, 23] [23], qd (qo 24 (.eqs true [1, 1, 1, 1] (.t 19) (.t 23))) [19, 18, 16, 0, 23, 22, 20, 1, 24] [24]])
(.cond (.t 24)
(qR 4 (.b false))
.skip))))
(qr [qB 25 .add 13 .i64 1, qm 13 25])))))))
(qR 4 (.b true))))),
  [(none, 4)], none⟩
theorem k81 : FnOk Tryz.prog ioF 79 h81.f := ⟨Tryz.f79, Tryz.func79, by kernel_rfl, by kernel_rfl, by kernel_rfl⟩
/-- impl_Entry_ -/
def h82 : HFn := ⟨26, [], 2,
  (q3 (qr [qk 4 (.b false)])
(q3 (q3 (qr [qm 6 0, ql' 7 0 6, qm 8 1, ql' 9 0 8, qb 10 .neq 7 9])
(.cond (.t 10)
(qR 4 (.b false))
.skip))
(q3 (q3 (qr [qm 11 0, ql' 12 0 11, qo 13 (.mv (.c (.leaf z64)))])
(.block 0 (.loop [0, 1, 12, 13] [(0, .inv), (1, .inv), (12, .inv), (13, li)] [(.exit 0, []), (.ret, [(4, .leaf (.bk false))])]
(q3 (qr [qb 14 .lss 13 12])
(q3 (.cond (.t 14)
.skip
(.exit 0))
(q3 (.block 1 (q3 (qr [qm 15 13, qa 5 15])
(q3 (.rgd [qd (qm 16 0) [0, 16] [16], qd (qm 17 5) [5, 13, 25, 17] [17], qd (qi 18 10 16 17) [16, 0, 17, 5, 13, 25, 18] [18], qd (qL 19 10 18) [18, 16, 0, 19] [19], qd (qm 20 1) [1, 20] [20], qd (qm 21 5) [5, 13, 25, 21] [21], qd (qi 22 10 20 21) [20, 1, 21, 5, 13, 25, 22] [22], qd (qL 23 10 22) [22, 20, 1, 23] [23], qd (qo 24 (.eqs true [1, 1, 1, 1, 2, 0, 1, 1, 1, 1] (.t 19) (.t 23))) [19, 18, 16, 0, 23, 22, 20, 1, 24] [24]])
(.cond (.t 24)
(qR 4 (.b false))
.skip))))
(qr [qB 25 .add 13 .i64 1, qm 13 25])))))))
(qR 4 (.b true))))),
  [(none, 4)], none⟩
theorem k82 : FnOk Tryz.prog ioF 80 h82.f := ⟨Tryz.f80, Tryz.func80, by kernel_rfl, by kernel_rfl, by kernel_rfl⟩
/-- impl_Chunk_ -/
def h83 : HFn := ⟨26, [], 2,
  (q3 (qr [qk 4 (.b false)])
(q3 (q3 (qr [qm 6 0, ql' 7 0 6, qm 8 1, ql' 9 0 8, qb 10 .neq 7 9])
(.cond (.t 10)
(qR 4 (.b false))
.skip))
(q3 (q3 (qr [qm 11 0, ql' 12 0 11, qo 13 (.mv (.c (.leaf z64)))])
(.block 0 (.loop [0, 1, 12, 13] [(0, .inv), (1, .inv), (12, .inv), (13, li)] [(.exit 0, []), (.ret, [(4, .leaf (.bk false))])]
(q3 (qr [qb 14 .lss 13 12])
(q3 (.cond (.t 14)
.skip
(.exit 0))
(q3 (.block 1 (q3 (qr [qm 15 13, qa 5 15])
(q3 (.rgd [qd (qm 16 0) [0, 16] [16], qd (qm 17 5) [5, 13, 25, 17] [17], qd (qi 18 6 16 17) [16, 0, 17, 5, 13, 25, 18] [18], qd (qL 19 6 18) [18, 16, 0, 19] [19], qd (qm 20 1) [1, 20] [20], qd (qm 21 5) [5, 13, 25, 21] [21], qd (qi 22 6 20 21) [20, 1, 21, 5, 13, 25, 22] [22], qd (qL 23 6 22) [22, 20, 1, 23] [23], qd (qo 24 (.eqs true [2, 1, 1, 1, 1, 2] (.t 19) (.t 23))) [19, 18, 16, 0, 23, 22, 20, 1, 24] [24]])
(.cond (.t 24)
(qR 4 (.b false))
.skip))))
(qr [qB 25 .add 13 .i64 1, qm 13 25])))))))
(qR 4 (.b true))))),
  [(none, 4)], none⟩
theorem k83 : FnOk Tryz.prog ioF 46 h83.f := ⟨Tryz.f46, Tryz.func46, by kernel_rfl, by kernel_rfl, by kernel_rfl⟩
/-- impl_sameState -/
def h84 : HFn := ⟨66, [], 2,
  (q3 (qr [qx 2 0, qx 3 1, qk 4 (.b false)])
(q3 (qr [qf 5 0 2, qL 6 2 5, qf 7 0 3, qL 8 2 7, qo 9 (.eqs false [1, 1] (.t 6) (.t 8)), qm 10 9, (⟨(some 11), [], .faddr 2 (.t 2), (some (10, true)), [], []⟩, 0), (⟨(some 12), [], .load false 1 (.t 11), (some (10, true)), [], []⟩, 0), (⟨(some 13), [], .faddr 2 (.t 3), (some (10, true)), [], []⟩, 0), (⟨(some 14), [], .load false 1 (.t 13), (some (10, true)), [], []⟩, 0), (⟨(some 15), [], .bin .eql (.t 12) (.t 14), (some (10, true)), [], []⟩, 0), qo 16 (.pick (.t 10) (.t 15) (.c (.leaf (.b false)))), qm 17 16, (⟨(some 18), [], .faddr 3 (.t 2), (some (17, true)), [], []⟩, 0), (⟨(some 19), [], .load false 1 (.t 18), (some (17, true)), [], []⟩, 0), (⟨(some 20), [], .faddr 3 (.t 3), (some (17, true)), [], []⟩, 0), (⟨(some 21), [], .load false 1 (.t 20), (some (17, true)), [], []⟩, 0), (⟨(some 22), [], .bin .eql (.t 19) (.t 21), (some (17, true)), [], []⟩, 0), qo 23 (.pick (.t 17) (.t 22) (.c (.leaf (.b false)))), qm 24 23, (⟨(some 25), [], .faddr 4 (.t 2), (some (24, true)), [], []⟩, 0), (⟨(some 26), [], .load true 2 (.t 25), (some (24, true)), [], []⟩, 0), (⟨(some 27), [], .faddr 4 (.t 3), (some (24, true)), [], []⟩, 0), (⟨(some 28), [], .load true 2 (.t 27), (some (24, true)), [], []⟩, 0), (⟨(some 29), [], .eqs false [1, 1] (.t 26) (.t 28), (some (24, true)), [], []⟩, 0), qo 30 (.pick (.t 24) (.t 29) (.c (.leaf (.b false)))), qm 31 30, (⟨(some 32), [], .faddr 9 (.t 2), (some (31, true)), [], []⟩, 0), (⟨(some 33), [], .load true 2 (.t 32), (some (31, true)), [], []⟩, 0), (⟨(some 34), [], .faddr 9 (.t 3), (some (31, true)), [], []⟩, 0), (⟨(some 35), [], .load true 2 (.t 34), (some (31, true)), [], []⟩, 0), (⟨(some 36), [], .eqs false [1, 1] (.t 33) (.t 35), (some (31, true)), [], []⟩, 0), qo 37 (.pick (.t 31) (.t 36) (.c (.leaf (.b false)))), qm 38 37, (⟨(some 39), [], .faddr 6 (.t 2), (some (38, true)), [], []⟩, 0), (⟨(some 40), [], .load false 1 (.t 39), (some (38, true)), [], []⟩, 0), (⟨(some 41), [], .faddr 6 (.t 3), (some (38, true)), [], []⟩, 0), (⟨(some 42), [], .load false 1 (.t 41), (some (38, true)), [], []⟩, 0), (⟨(some 43), [], .call 78 none [(.t 40), (.t 42)], (some (38, true)), [], []⟩, 0), qo 44 (.pick (.t 38) (.t 43) (.c (.leaf (.b false)))), qm 45 44, (⟨(some 46), [], .faddr 7 (.t 2), (some (45, true)), [], []⟩, 0), (⟨(some 47), [], .load false 1 (.t 46), (some (45, true)), [], []⟩, 0), (⟨(some 48), [], .faddr 7 (.t 3), (some (45, true)), [], []⟩, 0), (⟨(some 49), [], .load false 1 (.t 48), (some (45, true)), [], []⟩, 0), (⟨(some 50), [], .call 79 none [(.t 47), (.t 49)], (some (45, true)), [], []⟩, 0), qo 51 (.pick (.t 45) (.t 50) (.c (.leaf (.b false)))), qm 52 51, (⟨(some 53), [], .faddr 8 (.t 2), (some (52, true)), [], []⟩, 0), (⟨(some 54), [], .load false 1 (.t 53), (some (52, true)), [], []⟩, 0), (⟨(some 55), [], .faddr 8 (.t 3), (some (52, true)), [], []⟩, 0), (⟨(some 56), [], .load false 1 (.t 55), (some (52, true)), [], []⟩, 0), (⟨(some 57), [], .call 80 none [(.t 54), (.t 56)], (some (52, true)), [], []⟩, 0), qo 58 (.pick (.t 52) (.t 57) (.c (.leaf (.b false)))), qm 59 58, (⟨(some 60), [], .faddr 11 (.t 2), (some (59, true)), [], []⟩, 0), (⟨(some 61), [], .load false 1 (.t 60), (some (59, true)), [], []⟩, 0), (⟨(some 62), [], .faddr 11 (.t 3), (some (59, true)), [], []⟩, 0), (⟨(some 63), [], .load false 1 (.t 62), (some (59, true)), [], []⟩, 0), (⟨(some 64), [], .call 46 none [(.t 61), (.t 63)], (some (59, true)), [], []⟩, 0), qo 65 (.pick (.t 59) (.t 64) (.c (.leaf (.b false)))), qa 4 65])
.ret)),
  [(none, 4)], none⟩
theorem k84 : FnOk Tryz.prog ioF 44 h84.f := ⟨Tryz.f44, Tryz.func44, by kernel_rfl, by kernel_rfl, by kernel_rfl⟩
/-- impl_PgState_ -/
def h85 : HFn := ⟨32, [], 3,
  (q3 (qr [qk 6 (.b false)])
(q3 (q3 (qr [qm 10 0, ql' 11 0 10, qm 12 1, ql' 13 0 12, qb 14 .neq 11 13])
(.cond (.t 14)
(qR 6 (.b false))
.skip))
(q3 (q3 (qr [qm 15 0, ql' 16 0 15, qo 17 (.mv (.c (.leaf z64)))])
(.block 0 (.loop [0, 1, 2, 15, 16, 17] [(0, lv 11), (1, lv 11), (2, .inv), (15, lv 11), (16, .inv), (17, li)] [(.exit 0, []), (.ret, [(6, .leaf (.bk false))])]
(q3 (qr [qb 18 .lss 17 16])
(q3 (.cond (.t 18)
.skip
(.exit 0))
(q3 (.block 1 (q3 (qr [qm 19 17, qi 20 12 15 17, qL 21 12 20, qz 8 [z64, z64, z64, z64, z64, z64, (zl 5), (zl 4), (zl 10), z64, z64, (zl 6)], qa 7 19, qs 12 8 21])
(q3 (qr [qm 22 1, qm 23 7, qi 24 12 22 23, qL 25 12 24, qz 9 [z64, z64, z64, z64, z64, z64, (zl 5), (zl 4), (zl 10), z64, z64, (zl 6)], qs 12 9 25])
(q3 (qr [qm 26 2, qL 27 12 8, qL 28 12 9, qo 29 (.callv (.t 26) [(.t 27), (.t 28)]), qo 30 (.un .not (.t 29))])
(.cond (.t 30)
(qR 6 (.b false))
.skip)))))
(qr [qB 31 .add 17 .i64 1, qm 17 31])))))))
(qR 6 (.b true))))),
  [(none, 6)], none⟩
theorem k85 : FnOk Tryz.prog ioF 77 h85.f := ⟨Tryz.f77, Tryz.func77, by kernel_rfl, by kernel_rfl, by kernel_rfl⟩
/-- impl_sameStates -/
def h86 : HFn := ⟨8, [], 2,
  (q3 (qr [qk 4 (.b false)])
(q3 (qr [qm 5 0, qm 6 1, qo 7 (.call 77 none [(.t 5), (.t 6), (.c (.leaf (.fn 44 [])))]), qa 4 7])
.ret)),
  [(none, 4)], none⟩
theorem k86 : FnOk Tryz.prog ioF 38 h86.f := ⟨Tryz.f38, Tryz.func38, by kernel_rfl, by kernel_rfl, by kernel_rfl⟩
/-- impl_SameStore -/
def h87 : HFn := ⟨17, [], 2,
  (q3 (qr [qx 2 0, qx 3 1, qk 4 (.b false)])
(q3 (qr [qf 5 0 2, ql 6 5, qf 7 0 3, ql 8 7, qc 9 38 [6, 8], qm 10 9, (⟨(some 11), [], .faddr 1 (.t 2), (some (10, true)), [], []⟩, 0), (⟨(some 12), [], .load false 1 (.t 11), (some (10, true)), [], []⟩, 0), (⟨(some 13), [], .faddr 1 (.t 3), (some (10, true)), [], []⟩, 0), (⟨(some 14), [], .load false 1 (.t 13), (some (10, true)), [], []⟩, 0), (⟨(some 15), [], .call 38 none [(.t 12), (.t 14)], (some (10, true)), [], []⟩, 0), qo 16 (.pick (.t 10) (.t 15) (.c (.leaf (.b false)))), qa 4 16])
.ret)),
  [(none, 4)], none⟩
theorem k87 : FnOk Tryz.prog ioF 18 h87.f := ⟨Tryz.f18, Tryz.func18, by kernel_rfl, by kernel_rfl, by kernel_rfl⟩
/-- slices_Equal___int64uint64u -/
def h88 : HFn := ⟨26, [], 2,
  (q3 (qr [qk 4 (.b false)])
(q3 (q3 (qr [qm 6 0, ql' 7 0 6, qm 8 1, ql' 9 0 8, qb 10 .neq 7 9])
(.cond (.t 10)
(qR 4 (.b false))
.skip))
(q3 (q3 (qr [qm 11 0, ql' 12 0 11, qo 13 (.mv (.c (.leaf z64)))])
(.block 0 (.loop [0, 1, 12, 13] [(0, .inv), (1, .inv), (12, .inv), (13, li)] [(.exit 0, []), (.ret, [(4, .leaf (.bk false))])]
(q3 (qr [qb 14 .lss 13 12])
(q3 (.cond (.t 14)
.skip
(.exit 0))
(q3 (.block 1 (q3 (qr [qm 15 13, qa 5 15])
(q3 (.rgd [qd (qm 16 0) [0, 16] [16], qd (qm 17 5) [5, 13, 25, 17] [17], qd (qi 18 1 16 17) [16, 0, 17, 5, 13, 25, 18] [18], qd (ql 19 18) [18, 16, 0, 19] [19], qd (qm 20 1) [1, 20] [20], qd (qm 21 5) [5, 13, 25, 21] [21], qd (qi 22 1 20 21) [20, 1, 21, 5, 13, 25, 22] [22], qd (ql 23 22) [22, 20, 1, 23] [23], qd (qb 24 .neq 19 23) [19, 18, 16, 0, 23, 22, 20, 1, 24] [24]])
(.cond (.t 24)
(qR 4 (.b false))
.skip))))
(qr [qB 25 .add 13 .i64 1, qm 13 25])))))))
(qR 4 (.b true))))),
  [(none, 4)], none⟩
theorem k88 : FnOk Tryz.prog ioF 39 h88.f := ⟨Tryz.f39, Tryz.func39, by kernel_rfl, by kernel_rfl, by kernel_rfl⟩
/-- impl_sameInterval -/
def h89 : HFn := ⟨31, [], 2,
  (q3 (qr [qx 2 0, qx 3 1, qk 4 (.b false)])
(q3 (qr [qf 5 0 2, ql 6 5, qf 7 0 3, ql 8 7, qb 9 .eql 6 8, qm 10 9, (⟨(some 11), [], .faddr 1 (.t 2), (some (10, true)), [], []⟩, 0), (⟨(some 12), [], .load false 1 (.t 11), (some (10, true)), [], []⟩, 0), (⟨(some 13), [], .faddr 1 (.t 3), (some (10, true)), [], []⟩, 0), (⟨(some 14), [], .load false 1 (.t 13), (some (10, true)), [], []⟩, 0), (⟨(some 15), [], .bin .eql (.t 12) (.t 14), (some (10, true)), [], []⟩, 0), qo 16 (.pick (.t 10) (.t 15) (.c (.leaf (.b false)))), qm 17 16, (⟨(some 18), [], .faddr 3 (.t 2), (some (17, true)), [], []⟩, 0), (⟨(some 19), [], .load false 1 (.t 18), (some (17, true)), [], []⟩, 0), (⟨(some 20), [], .faddr 3 (.t 3), (some (17, true)), [], []⟩, 0), (⟨(some 21), [], .load false 1 (.t 20), (some (17, true)), [], []⟩, 0), (⟨(some 22), [], .eqc false 0 (.t 19) (.t 21), (some (17, true)), [], []⟩, 0), qo 23 (.pick (.t 17) (.t 22) (.c (.leaf (.b false)))), qm 24 23, (⟨(some 25), [], .faddr 2 (.t 2), (some (24, true)), [], []⟩, 0), (⟨(some 26), [], .load false 1 (.t 25), (some (24, true)), [], []⟩, 0), (⟨(some 27), [], .faddr 2 (.t 3), (some (24, true)), [], []⟩, 0), (⟨(some 28), [], .load false 1 (.t 27), (some (24, true)), [], []⟩, 0), (⟨(some 29), [], .call 39 none [(.t 26), (.t 28)], (some (24, true)), [], []⟩, 0), qo 30 (.pick (.t 24) (.t 29) (.c (.leaf (.b false)))), qa 4 30])
.ret)),
  [(none, 4)], none⟩
theorem k89 : FnOk Tryz.prog ioF 41 h89.f := ⟨Tryz.f41, Tryz.func41, by kernel_rfl, by kernel_rfl, by kernel_rfl⟩
/-- impl_Interval_ -/
def h90 : HFn := ⟨32, [], 3,
  (q3 (qr [qk 6 (.b false)])
(q3 (q3 (qr [qm 10 0, ql' 11 0 10, qm 12 1, ql' 13 0 12, qb 14 .neq 11 13])
(.cond (.t 14)
(qR 6 (.b false))
.skip))
(q3 (q3 (qr [qm 15 0, ql' 16 0 15, qo 17 (.mv (.c (.leaf z64)))])
(.block 0 (.loop [0, 1, 2, 15, 16, 17] [(0, lv 15), (1, lv 15), (2, .inv), (15, lv 15), (16, .inv), (17, li)] [(.exit 0, []), (.ret, [(6, .leaf (.bk false))])]
(q3 (qr [qb 18 .lss 17 16])
(q3 (.cond (.t 18)
.skip
(.exit 0))
(q3 (.block 1 (q3 (qr [qm 19 17, qi 20 4 15 17, qL 21 4 20, qz 8 [z64, z64, (zl 1), (.b false)], qa 7 19, qs 4 8 21])
(q3 (qr [qm 22 1, qm 23 7, qi 24 4 22 23, qL 25 4 24, qz 9 [z64, z64, (zl 1), (.b false)], qs 4 9 25])
(q3 (qr [qm 26 2, qL 27 4 8, qL 28 4 9, qo 29 (.callv (.t 26) [(.t 27), (.t 28)]), qo 30 (.un .not (.t 29))])
(.cond (.t 30)
(qR 6 (.b false))
.skip)))))
(qr [qB 31 .add 17 .i64 1, qm 17 31])))))))
(qR 6 (.b true))))),
  [(none, 6)], none⟩
theorem k90 : FnOk Tryz.prog ioF 40 h90.f := ⟨Tryz.f40, Tryz.func40, by kernel_rfl, by kernel_rfl, by kernel_rfl⟩
/-- impl_sameNotice -/
def h91 : HFn := ⟨17, [], 2,
  (q3 (qr [qx 2 0, qx 3 1, qk 4 (.b false)])
(q3 (qr [qf 5 0 2, ql 6 5, qf 7 0 3, ql 8 7, qb 9 .eql 6 8, qm 10 9, (⟨(some 11), [], .faddr 1 (.t 2), (some (10, true)), [], []⟩, 0), (⟨(some 12), [], .load true 12 (.t 11), (some (10, true)), [], []⟩, 0), (⟨(some 13), [], .faddr 1 (.t 3), (some (10, true)), [], []⟩, 0), (⟨(some 14), [], .load true 12 (.t 13), (some (10, true)), [], []⟩, 0), (⟨(some 15), [], .call 44 none [(.t 12), (.t 14)], (some (10, true)), [], []⟩, 0), qo 16 (.pick (.t 10) (.t 15) (.c (.leaf (.b false)))), qa 4 16])
.ret)),
  [(none, 4)], none⟩
theorem k91 : FnOk Tryz.prog ioF 43 h91.f := ⟨Tryz.f43, Tryz.func43, by kernel_rfl, by kernel_rfl, by kernel_rfl⟩
/-- impl_Notice_ -/
def h92 : HFn := ⟨32, [], 3,
  (q3 (qr [qk 6 (.b false)])
(q3 (q3 (qr [qm 10 0, ql' 11 0 10, qm 12 1, ql' 13 0 12, qb 14 .neq 11 13])
(.cond (.t 14)
(qR 6 (.b false))
.skip))
(q3 (q3 (qr [qm 15 0, ql' 16 0 15, qo 17 (.mv (.c (.leaf z64)))])
(.block 0 (.loop [0, 1, 2, 15, 16, 17] [(0, lv 16), (1, lv 16), (2, .inv), (15, lv 16), (16, .inv), (17, li)] [(.exit 0, []), (.ret, [(6, .leaf (.bk false))])]
(q3 (qr [qb 18 .lss 17 16])
(q3 (.cond (.t 18)
.skip
(.exit 0))
(q3 (.block 1 (q3 (qr [qm 19 17, qi 20 13 15 17, qL 21 13 20, qz 8 [z64, z64, z64, z64, z64, z64, z64, (zl 5), (zl 4), (zl 10), z64, z64, (zl 6)], qa 7 19, qs 13 8 21])
(q3 (qr [qm 22 1, qm 23 7, qi 24 13 22 23, qL 25 13 24, qz 9 [z64, z64, z64, z64, z64, z64, z64, (zl 5), (zl 4), (zl 10), z64, z64, (zl 6)], qs 13 9 25])
(q3 (qr [qm 26 2, qL 27 13 8, qL 28 13 9, qo 29 (.callv (.t 26) [(.t 27), (.t 28)]), qo 30 (.un .not (.t 29))])
(.cond (.t 30)
(qR 6 (.b false))
.skip)))))
(qr [qB 31 .add 17 .i64 1, qm 17 31])))))))
(qR 6 (.b true))))),
  [(none, 6)], none⟩
theorem k92 : FnOk Tryz.prog ioF 42 h92.f := ⟨Tryz.f42, Tryz.func42, by kernel_rfl, by kernel_rfl, by kernel_rfl⟩
/-- impl_Fill_ -/
def h93 : HFn := ⟨26, [], 2,
  (q3 (qr [qk 4 (.b false)])
(q3 (q3 (qr [qm 6 0, ql' 7 0 6, qm 8 1, ql' 9 0 8, qb 10 .neq 7 9])
(.cond (.t 10)
(qR 4 (.b false))
.skip))
(q3 (q3 (qr [qm 11 0, ql' 12 0 11, qo 13 (.mv (.c (.leaf z64)))])
(.block 0 (.loop [0, 1, 12, 13] [(0, .inv), (1, .inv), (12, .inv), (13, li)] [(.exit 0, []), (.ret, [(4, .leaf (.bk false))])]
(q3 (qr [qb 14 .lss 13 12])
(q3 (.cond (.t 14)
.skip
(.exit 0))
(q3 (.block 1 (q3 (qr [qm 15 13, qa 5 15])
(q3 (.rgd [qd (qm 16 0) [0, 16] [16], qd (qm 17 5) [5, 13, 25, 17] [17], qd (qi 18 7 16 17) [16, 0, 17, 5, 13, 25, 18] [18], qd (qL 19 7 18) [18, 16, 0, 19] [19], qd (qm 20 1) [1, 20] [20], qd (qm 21 5) [5, 13, 25, 21] [21], qd (qi 22 7 20 21) [20, 1, 21, 5, 13, 25, 22] [22], qd (qL 23 7 22) [22, 20, 1, 23] [23], qd (qo 24 (.eqs true [1, 1, 2, 1, 1, 1, 1] (.t 19) (.t 23))) [19, 18, 16, 0, 23, 22, 20, 1, 24] [24]])
(.cond (.t 24)
(qR 4 (.b false))
.skip))))
(qr [qB 25 .add 13 .i64 1, qm 13 25])))))))
(qR 4 (.b true))))),
  [(none, 4)], none⟩
theorem k93 : FnOk Tryz.prog ioF 45 h93.f := ⟨Tryz.f45, Tryz.func45, by kernel_rfl, by kernel_rfl, by kernel_rfl⟩
/-- impl_Way_ -/
def h94 : HFn := ⟨26, [], 2,
  (q3 (qr [qk 4 (.b false)])
(q3 (q3 (qr [qm 6 0, ql' 7 0 6, qm 8 1, ql' 9 0 8, qb 10 .neq 7 9])
(.cond (.t 10)
(qR 4 (.b false))
.skip))
(q3 (q3 (qr [qm 11 0, ql' 12 0 11, qo 13 (.mv (.c (.leaf z64)))])
(.block 0 (.loop [0, 1, 12, 13] [(0, .inv), (1, .inv), (12, .inv), (13, li)] [(.exit 0, []), (.ret, [(4, .leaf (.bk false))])]
(q3 (qr [qb 14 .lss 13 12])
(q3 (.cond (.t 14)
.skip
(.exit 0))
(q3 (.block 1 (q3 (qr [qm 15 13, qa 5 15])
(q3 (.rgd [qd (qm 16 0) [0, 16] [16], qd (qm 17 5) [5, 13, 25, 17] [17], qd (qi 18 11 16 17) [16, 0, 17, 5, 13, 25, 18] [18], qd (qL 19 11 18) [18, 16, 0, 19] [19], qd (qm 20 1) [1, 20] [20], qd (qm 21 5) [5, 13, 25, 21] [21], qd (qi 22 11 20 21) [20, 1, 21, 5, 13, 25, 22] [22], qd (qL 23 11 22) [22, 20, 1, 23] [23], qd (qo 24 (.eqs true [1, 1, 1, 1, 2, 0, 1, 1, 1, 1, 2] (.t 19) (.t 23))) [19, 18, 16, 0, 23, 22, 20, 1, 24] [24]])
(.cond (.t 24)
(qR 4 (.b false))
.skip))))
(qr [qB 25 .add 13 .i64 1, qm 13 25])))))))
(qR 4 (.b true))))),
  [(none, 4)], none⟩
theorem k94 : FnOk Tryz.prog ioF 81 h94.f := ⟨Tryz.f81, Tryz.func81, by kernel_rfl, by kernel_rfl, by kernel_rfl⟩
/-- impl_Ack_ -/
def h95 : HFn := ⟨26, [], 2,
  (q3 (qr [qk 4 (.b false)])
(q3 (q3 (qr [qm 6 0, ql' 7 0 6, qm 8 1, ql' 9 0 8, qb 10 .neq 7 9])
(.cond (.t 10)
(qR 4 (.b false))
.skip))
(q3 (q3 (qr [qm 11 0, ql' 12 0 11, qo 13 (.mv (.c (.leaf z64)))])
(.block 0 (.loop [0, 1, 12, 13] [(0, .inv), (1, .inv), (12, .inv), (13, li)] [(.exit 0, []), (.ret, [(4, .leaf (.bk false))])]
(q3 (qr [qb 14 .lss 13 12])
(q3 (.cond (.t 14)
.skip
(.exit 0))
(q3 (.block 1 (q3 (qr [qm 15 13, qa 5 15])
(q3 (.rgd [qd (qm 16 0) [0, 16] [16], qd (qm 17 5) [5, 13, 25, 17] [17], qd (qi 18 3 16 17) [16, 0, 17, 5, 13, 25, 18] [18], qd (qL 19 3 18) [18, 16, 0, 19] [19], qd (qm 20 1) [1, 20] [20], qd (qm 21 5) [5, 13, 25, 21] [21], qd (qi 22 3 20 21) [20, 1, 21, 5, 13, 25, 22] [22], qd (qL 23 3 22) [22, 20, 1, 23] [23], qd (qo 24 (.eqs true [1, 1, 1] (.t 19) (.t 23))) [19, 18, 16, 0, 23, 22, 20, 1, 24] [24]])
(.cond (.t 24)
(qR 4 (.b false))
.skip))))
(qr [qB 25 .add 13 .i64 1, qm 13 25])))))))
(qR 4 (.b true))))),
  [(none, 4)], none⟩
theorem k95 : FnOk Tryz.prog ioF 82 h95.f := ⟨Tryz.f82, Tryz.func82, by kernel_rfl, by kernel_rfl, by kernel_rfl⟩
/-- impl_Got_ -/
def h96 : HFn := ⟨26, [], 2,
  (q3 (qr [qk 4 (.b false)])
(q3 (q3 (qr [qm 6 0, ql' 7 0 6, qm 8 1, ql' 9 0 8, qb 10 .neq 7 9])
(.cond (.t 10)
(qR 4 (.b false))
.skip))
(q3 (q3 (qr [qm 11 0, ql' 12 0 11, qo 13 (.mv (.c (.leaf z64)))])
(.block 0 (.loop [0, 1, 12, 13] [(0, .inv), (1, .inv), (12, .inv), (13, li)] [(.exit 0, []), (.ret, [(4, .leaf (.bk false))])]
(q3 (qr [qb 14 .lss 13 12])
(q3 (.cond (.t 14)
.skip
(.exit 0))
(q3 (.block 1 (q3 (qr [qm 15 13, qa 5 15])
(q3 (.rgd [qd (qm 16 0) [0, 16] [16], qd (qm 17 5) [5, 13, 25, 17] [17], qd (qi 18 17 16 17) [16, 0, 17, 5, 13, 25, 18] [18], qd (qL 19 17 18) [18, 16, 0, 19] [19], qd (qm 20 1) [1, 20] [20], qd (qm 21 5) [5, 13, 25, 21] [21], qd (qi 22 17 20 21) [20, 1, 21, 5, 13, 25, 22] [22], qd (qL 23 17 22) [22, 20, 1, 23] [23], qd (qo 24 (.eqs true [1, 1, 1, 1, 1, 2, 0, 1, 1, 1, 1, 2, 1, 1, 1, 1, 2] (.t 19) (.t 23))) [19, 18, 16, 0, 23, 22, 20, 1, 24] [24]])
(.cond (.t 24)
(qR 4 (.b false))
.skip))))
(qr [qB 25 .add 13 .i64 1, qm 13 25])))))))
(qR 4 (.b true))))),
  [(none, 4)], none⟩
theorem k96 : FnOk Tryz.prog ioF 117 h96.f := ⟨Tryz.f117, Tryz.func117, by kernel_rfl, by kernel_rfl, by kernel_rfl⟩
/-- impl_sameWait -/
def h97 : HFn := ⟨31, [], 2,
  (q3 (qr [qx 2 0, qx 3 1, qk 4 (.b false)])
(q3 (qr [qf 5 0 2, qL 6 2 5, qf 7 0 3, qL 8 2 7, qo 9 (.eqs false [1, 1] (.t 6) (.t 8)), qm 10 9, (⟨(some 11), [], .faddr 2 (.t 2), (some (10, true)), [], []⟩, 0), (⟨(some 12), [], .load false 1 (.t 11), (some (10, true)), [], []⟩, 0), (⟨(some 13), [], .faddr 2 (.t 3), (some (10, true)), [], []⟩, 0), (⟨(some 14), [], .load false 1 (.t 13), (some (10, true)), [], []⟩, 0), (⟨(some 15), [], .bin .eql (.t 12) (.t 14), (some (10, true)), [], []⟩, 0), qo 16 (.pick (.t 10) (.t 15) (.c (.leaf (.b false)))), qm 17 16, (⟨(some 18), [], .faddr 3 (.t 2), (some (17, true)), [], []⟩, 0), (⟨(some 19), [], .load true 2 (.t 18), (some (17, true)), [], []⟩, 0), (⟨(some 20), [], .faddr 3 (.t 3), (some (17, true)), [], []⟩, 0), (⟨(some 21), [], .load true 2 (.t 20), (some (17, true)), [], []⟩, 0), (⟨(some 22), [], .eqs false [1, 1] (.t 19) (.t 21), (some (17, true)), [], []⟩, 0), qo 23 (.pick (.t 17) (.t 22) (.c (.leaf (.b false)))), qm 24 23, (⟨(some 25), [], .faddr 5 (.t 2), (some (24, true)), [], []⟩, 0), (⟨(some 26), [], .load false 1 (.t 25), (some (24, true)), [], []⟩, 0), (⟨(some 27), [], .faddr 5 (.t 3), (some (24, true)), [], []⟩, 0), (⟨(some 28), [], .load false 1 (.t 27), (some (24, true)), [], []⟩, 0), (⟨(some 29), [], .call 117 none [(.t 26), (.t 28)], (some (24, true)), [], []⟩, 0), qo 30 (.pick (.t 24) (.t 29) (.c (.leaf (.b false)))), qa 4 30])
.ret)),
  [(none, 4)], none⟩
theorem k97 : FnOk Tryz.prog ioF 84 h97.f := ⟨Tryz.f84, Tryz.func84, by kernel_rfl, by kernel_rfl, by kernel_rfl⟩
/-- impl_Wait_ -/
def h98 : HFn := ⟨32, [], 3,
  (q3 (qr [qk 6 (.b false)])
(q3 (q3 (qr [qm 10 0, ql' 11 0 10, qm 12 1, ql' 13 0 12, qb 14 .neq 11 13])
(.cond (.t 14)
(qR 6 (.b false))
.skip))
(q3 (q3 (qr [qm 15 0, ql' 16 0 15, qo 17 (.mv (.c (.leaf z64)))])
(.block 0 (.loop [0, 1, 2, 15, 16, 17] [(0, lv 21), (1, lv 21), (2, .inv), (15, lv 21), (16, .inv), (17, li)] [(.exit 0, []), (.ret, [(6, .leaf (.bk false))])]
(q3 (qr [qb 18 .lss 17 16])
(q3 (.cond (.t 18)
.skip
(.exit 0))
(q3 (.block 1 (q3 (qr [qm 19 17, qi 20 6 15 17, qL 21 6 20, qz 8 [z64, z64, zs, z64, z64, (zl 17)], qa 7 19, qs 6 8 21])
(q3 (qr [qm 22 1, qm 23 7, qi 24 6 22 23, qL 25 6 24, qz 9 [z64, z64, zs, z64, z64, (zl 17)], qs 6 9 25])
(q3 (qr [qm 26 2, qL 27 6 8, qL 28 6 9, qo 29 (.callv (.t 26) [(.t 27), (.t 28)]), qo 30 (.un .not (.t 29))])
(.cond (.t 30)
(qR 6 (.b false))
.skip)))))
(qr [qB 31 .add 17 .i64 1, qm 17 31])))))))
(qR 6 (.b true))))),
  [(none, 6)], none⟩
theorem k98 : FnOk Tryz.prog ioF 83 h98.f := ⟨Tryz.f83, Tryz.func83, by kernel_rfl, by kernel_rfl, by kernel_rfl⟩
/-- impl_SameLine -/
def h99 : HFn := ⟨52, [], 2,
  (q3 (qr [qx 2 0, qx 3 1, qk 4 (.b false)])
(q3 (qr [qf 5 0 2, ql 6 5, qf 7 0 3, ql 8 7, qb 9 .eql 6 8, qm 10 9, (⟨(some 11), [], .faddr 1 (.t 2), (some (10, true)), [], []⟩, 0), (⟨(some 12), [], .load true 2 (.t 11), (some (10, true)), [], []⟩, 0), (⟨(some 13), [], .faddr 1 (.t 3), (some (10, true)), [], []⟩, 0), (⟨(some 14), [], .load true 2 (.t 13), (some (10, true)), [], []⟩, 0), (⟨(some 15), [], .eqs false [1, 1] (.t 12) (.t 14), (some (10, true)), [], []⟩, 0), qo 16 (.pick (.t 10) (.t 15) (.c (.leaf (.b false)))), qm 17 16, (⟨(some 18), [], .faddr 3 (.t 2), (some (17, true)), [], []⟩, 0), (⟨(some 19), [], .load false 1 (.t 18), (some (17, true)), [], []⟩, 0), (⟨(some 20), [], .faddr 3 (.t 3), (some (17, true)), [], []⟩, 0), (⟨(some 21), [], .load false 1 (.t 20), (some (17, true)), [], []⟩, 0), (⟨(some 22), [], .call 39 none [(.t 19), (.t 21)], (some (17, true)), [], []⟩, 0), qo 23 (.pick (.t 17) (.t 22) (.c (.leaf (.b false)))), qm 24 23, (⟨(some 25), [], .faddr 4 (.t 2), (some (24, true)), [], []⟩, 0), (⟨(some 26), [], .load true 12 (.t 25), (some (24, true)), [], []⟩, 0), (⟨(some 27), [], .faddr 4 (.t 3), (some (24, true)), [], []⟩, 0), (⟨(some 28), [], .load true 12 (.t 27), (some (24, true)), [], []⟩, 0), (⟨(some 29), [], .call 44 none [(.t 26), (.t 28)], (some (24, true)), [], []⟩, 0), qo 30 (.pick (.t 24) (.t 29) (.c (.leaf (.b false)))), qm 31 30, (⟨(some 32), [], .faddr 16 (.t 2), (some (31, true)), [], []⟩, 0), (⟨(some 33), [], .load false 1 (.t 32), (some (31, true)), [], []⟩, 0), (⟨(some 34), [], .faddr 16 (.t 3), (some (31, true)), [], []⟩, 0), (⟨(some 35), [], .load false 1 (.t 34), (some (31, true)), [], []⟩, 0), (⟨(some 36), [], .call 81 none [(.t 33), (.t 35)], (some (31, true)), [], []⟩, 0), qo 37 (.pick (.t 31) (.t 36) (.c (.leaf (.b false)))), qm 38 37, (⟨(some 39), [], .faddr 17 (.t 2), (some (38, true)), [], []⟩, 0), (⟨(some 40), [], .load false 1 (.t 39), (some (38, true)), [], []⟩, 0), (⟨(some 41), [], .faddr 17 (.t 3), (some (38, true)), [], []⟩, 0), (⟨(some 42), [], .load false 1 (.t 41), (some (38, true)), [], []⟩, 0), (⟨(some 43), [], .call 82 none [(.t 40), (.t 42)], (some (38, true)), [], []⟩, 0), qo 44 (.pick (.t 38) (.t 43) (.c (.leaf (.b false)))), qm 45 44, (⟨(some 46), [], .faddr 18 (.t 2), (some (45, true)), [], []⟩, 0), (⟨(some 47), [], .load false 1 (.t 46), (some (45, true)), [], []⟩, 0), (⟨(some 48), [], .faddr 18 (.t 3), (some (45, true)), [], []⟩, 0), (⟨(some 49), [], .load false 1 (.t 48), (some (45, true)), [], []⟩, 0), (⟨(some 50), [], .call 83 none [(.t 47), (.t 49), (.c (.leaf (.fn 84 [])))], (some (45, true)), [], []⟩, 0), qo 51 (.pick (.t 45) (.t 50) (.c (.leaf (.b false)))), qa 4 51])
.ret)),
  [(none, 4)], none⟩
theorem k99 : FnOk Tryz.prog ioF 47 h99.f := ⟨Tryz.f47, Tryz.func47, by kernel_rfl, by kernel_rfl, by kernel_rfl⟩
/-- impl_SameLead -/
def h100 : HFn := ⟨87, [], 2,
  (q3 (qr [qx 2 0, qx 3 1, qk 4 (.b false)])
(q3 (qr [qf 5 0 2, qL 6 2 5, qf 7 0 3, qL 8 2 7, qo 9 (.eqs false [1, 1] (.t 6) (.t 8)), qm 10 9, (⟨(some 11), [], .faddr 2 (.t 2), (some (10, true)), [], []⟩, 0), (⟨(some 12), [], .load false 1 (.t 11), (some (10, true)), [], []⟩, 0), (⟨(some 13), [], .faddr 2 (.t 3), (some (10, true)), [], []⟩, 0), (⟨(some 14), [], .load false 1 (.t 13), (some (10, true)), [], []⟩, 0), (⟨(some 15), [], .bin .eql (.t 12) (.t 14), (some (10, true)), [], []⟩, 0), qo 16 (.pick (.t 10) (.t 15) (.c (.leaf (.b false)))), qm 17 16, (⟨(some 18), [], .faddr 3 (.t 2), (some (17, true)), [], []⟩, 0), (⟨(some 19), [], .load false 1 (.t 18), (some (17, true)), [], []⟩, 0), (⟨(some 20), [], .faddr 3 (.t 3), (some (17, true)), [], []⟩, 0), (⟨(some 21), [], .load false 1 (.t 20), (some (17, true)), [], []⟩, 0), (⟨(some 22), [], .bin .eql (.t 19) (.t 21), (some (17, true)), [], []⟩, 0), qo 23 (.pick (.t 17) (.t 22) (.c (.leaf (.b false)))), qm 24 23, (⟨(some 25), [], .faddr 4 (.t 2), (some (24, true)), [], []⟩, 0), (⟨(some 26), [], .load true 2 (.t 25), (some (24, true)), [], []⟩, 0), (⟨(some 27), [], .faddr 4 (.t 3), (some (24, true)), [], []⟩, 0), (⟨(some 28), [], .load true 2 (.t 27), (some (24, true)), [], []⟩, 0), (⟨(some 29), [], .eqs false [1, 1] (.t 26) (.t 28), (some (24, true)), [], []⟩, 0), qo 30 (.pick (.t 24) (.t 29) (.c (.leaf (.b false)))), qm 31 30, (⟨(some 32), [], .faddr 6 (.t 2), (some (31, true)), [], []⟩, 0), (⟨(some 33), [], .load false 1 (.t 32), (some (31, true)), [], []⟩, 0), (⟨(some 34), [], .faddr 6 (.t 3), (some (31, true)), [], []⟩, 0), (⟨(some 35), [], .load false 1 (.t 34), (some (31, true)), [], []⟩, 0), (⟨(some 36), [], .call 39 none [(.t 33), (.t 35)], (some (31, true)), [], []⟩, 0), qo 37 (.pick (.t 31) (.t 36) (.c (.leaf (.b false)))), qm 38 37, (⟨(some 39), [], .faddr 7 (.t 2), (some (38, true)), [], []⟩, 0), (⟨(some 40), [], .load false 1 (.t 39), (some (38, true)), [], []⟩, 0), (⟨(some 41), [], .faddr 7 (.t 3), (some (38, true)), [], []⟩, 0), (⟨(some 42), [], .load false 1 (.t 41), (some (38, true)), [], []⟩, 0), (⟨(some 43), [], .call 40 none [(.t 40), (.t 42), (.c (.leaf (.fn 41 [])))], (some (38, true)), [], []⟩, 0), qo 44 (.pick (.t 38) (.t 43) (.c (.leaf (.b false)))), qm 45 44, (⟨(some 46), [], .faddr 8 (.t 2), (some (45, true)), [], []⟩, 0), (⟨(some 47), [], .load false 1 (.t 46), (some (45, true)), [], []⟩, 0), (⟨(some 48), [], .faddr 8 (.t 3), (some (45, true)), [], []⟩, 0), (⟨(some 49), [], .load false 1 (.t 48), (some (45, true)), [], []⟩, 0), (⟨(some 50), [], .call 42 none [(.t 47), (.t 49), (.c (.leaf (.fn 43 [])))], (some (45, true)), [], []⟩, 0), qo 51 (.pick (.t 45) (.t 50) (.c (.leaf (.b false)))), qm 52 51, (⟨(some 53), [], .faddr 9 (.t 2), (some (52, true)), [], []⟩, 0), (⟨(some 54), [], .load true 12 (.t 53), (some (52, true)), [], []⟩, 0), (⟨(some 55), [], .faddr 9 (.t 3), (some (52, true)), [], []⟩, 0), (⟨(some 56), [], .load true 12 (.t 55), (some (52, true)), [], []⟩, 0), (⟨(some 57), [], .call 44 none [(.t 54), (.t 56)], (some (52, true)), [], []⟩, 0), qo 58 (.pick (.t 52) (.t 57) (.c (.leaf (.b false)))), qm 59 58, (⟨(some 60), [], .faddr 21 (.t 2), (some (59, true)), [], []⟩, 0), (⟨(some 61), [], .load false 1 (.t 60), (some (59, true)), [], []⟩, 0), (⟨(some 62), [], .faddr 21 (.t 3), (some (59, true)), [], []⟩, 0), (⟨(some 63), [], .load false 1 (.t 62), (some (59, true)), [], []⟩, 0), (⟨(some 64), [], .call 45 none [(.t 61), (.t 63)], (some (59, true)), [], []⟩, 0), qo 65 (.pick (.t 59) (.t 64) (.c (.leaf (.b false)))), qm 66 65, (⟨(some 67), [], .faddr 22 (.t 2), (some (66, true)), [], []⟩, 0), (⟨(some 68), [], .load false 1 (.t 67), (some (66, true)), [], []⟩, 0), (⟨(some 69), [], .faddr 22 (.t 3), (some (66, true)), [], []⟩, 0), (⟨(some 70), [], .load false 1 (.t 69), (some (66, true)), [], []⟩, 0), (⟨(some 71), [], .call 46 none [(.t 68), (.t 70)], (some (66, true)), [], []⟩, 0), qo 72 (.pick (.t 66) (.t 71) (.c (.leaf (.b false)))), qm 73 72, (⟨(some 74), [], .faddr 23 (.t 2), (some (73, true)), [], []⟩, 0), (⟨(some 75), [], .load false 1 (.t 74), (some (73, true)), [], []⟩, 0), (⟨(some 76), [], .faddr 23 (.t 3), (some (73, true)), [], []⟩, 0), (⟨(some 77), [], .load false 1 (.t 76), (some (73, true)), [], []⟩, 0), (⟨(some 78), [], .call 39 none [(.t 75), (.t 77)], (some (73, true)), [], []⟩, 0), qo 79 (.pick (.t 73) (.t 78) (.c (.leaf (.b false)))), qm 80 79, (⟨(some 81), [], .faddr 24 (.t 2), (some (80, true)), [], []⟩, 0), (⟨(some 82), [], .load true 19 (.t 81), (some (80, true)), [], []⟩, 0), (⟨(some 83), [], .faddr 24 (.t 3), (some (80, true)), [], []⟩, 0), (⟨(some 84), [], .load true 19 (.t 83), (some (80, true)), [], []⟩, 0), (⟨(some 85), [], .call 47 none [(.t 82), (.t 84)], (some (80, true)), [], []⟩, 0), qo 86 (.pick (.t 80) (.t 85) (.c (.leaf (.b false)))), qa 4 86])
.ret)),
  [(none, 4)], none⟩
theorem k100 : FnOk Tryz.prog ioF 20 h100.f := ⟨Tryz.f20, Tryz.func20, by kernel_rfl, by kernel_rfl, by kernel_rfl⟩
/-- impl_Lead_ -/
def h101 : HFn := ⟨32, [], 3,
  (q3 (qr [qk 6 (.b false)])
(q3 (q3 (qr [qm 10 0, ql' 11 0 10, qm 12 1, ql' 13 0 12, qb 14 .neq 11 13])
(.cond (.t 14)
(qR 6 (.b false))
.skip))
(q3 (q3 (qr [qm 15 0, ql' 16 0 15, qo 17 (.mv (.c (.leaf z64)))])
(.block 0 (.loop [0, 1, 2, 15, 16, 17] [(0, lv 24), (1, lv 24), (2, .inv), (15, lv 24), (16, .inv), (17, li)] [(.exit 0, []), (.ret, [(6, .leaf (.bk false))])]
(q3 (qr [qb 18 .lss 17 16])
(q3 (.cond (.t 18)
.skip
(.exit 0))
(q3 (.block 1 (q3 (qr [qm 19 17, qi 20 43 15 17, qL 21 43 20, qz 8 [z64, z64, z64, z64, z64, z64, (zl 1), (zl 4), (zl 13), z64, z64, z64, z64, z64, z64, (zl 5), (zl 4), (zl 10), z64, z64, (zl 6), (zl 7), (zl 6), (zl 1), z64, z64, z64, (zl 1), z64, z64, z64, z64, z64, z64, (zl 5), (zl 4), (zl 10), z64, z64, (zl 6), (zl 11), (zl 3), (zl 6)], qa 7 19, qs 43 8 21])
(q3 (qr [qm 22 1, qm 23 7, qi 24 43 22 23, qL 25 43 24, qz 9 [z64, z64, z64, z64, z64, z64, (zl 1), (zl 4), (zl 13), z64, z64, z64, z64, z64, z64, (zl 5), (zl 4), (zl 10), z64, z64, (zl 6), (zl 7), (zl 6), (zl 1), z64, z64, z64, (zl 1), z64, z64, z64, z64, z64, z64, (zl 5), (zl 4), (zl 10), z64, z64, (zl 6), (zl 11), (zl 3), (zl 6)], qs 43 9 25])
(q3 (qr [qm 26 2, qL 27 43 8, qL 28 43 9, qo 29 (.callv (.t 26) [(.t 27), (.t 28)]), qo 30 (.un .not (.t 29))])
(.cond (.t 30)
(qR 6 (.b false))
.skip)))))
(qr [qB 31 .add 17 .i64 1, qm 17 31])))))))
(qR 6 (.b true))))),
  [(none, 6)], none⟩
theorem k101 : FnOk Tryz.prog ioF 19 h101.f := ⟨Tryz.f19, Tryz.func19, by kernel_rfl, by kernel_rfl, by kernel_rfl⟩
/-- impl_MsgSame -/
def h102 : HFn := ⟨108, [], 2,
  (q3 (qr [qx 2 0, qx 3 1, qk 4 (.b false)])
(q3 (qr [qf 5 0 2, ql 6 5, qf 7 0 3, ql 8 7, qb 9 .eql 6 8, qm 10 9, (⟨(some 11), [], .faddr 1 (.t 2), (some (10, true)), [], []⟩, 0), (⟨(some 12), [], .load false 1 (.t 11), (some (10, true)), [], []⟩, 0), (⟨(some 13), [], .faddr 1 (.t 3), (some (10, true)), [], []⟩, 0), (⟨(some 14), [], .load false 1 (.t 13), (some (10, true)), [], []⟩, 0), (⟨(some 15), [], .bin .eql (.t 12) (.t 14), (some (10, true)), [], []⟩, 0), qo 16 (.pick (.t 10) (.t 15) (.c (.leaf (.b false)))), qm 17 16, (⟨(some 18), [], .faddr 2 (.t 2), (some (17, true)), [], []⟩, 0), (⟨(some 19), [], .load false 1 (.t 18), (some (17, true)), [], []⟩, 0), (⟨(some 20), [], .faddr 2 (.t 3), (some (17, true)), [], []⟩, 0), (⟨(some 21), [], .load false 1 (.t 20), (some (17, true)), [], []⟩, 0), (⟨(some 22), [], .bin .eql (.t 19) (.t 21), (some (17, true)), [], []⟩, 0), qo 23 (.pick (.t 17) (.t 22) (.c (.leaf (.b false)))), qm 24 23, (⟨(some 25), [], .faddr 3 (.t 2), (some (24, true)), [], []⟩, 0), (⟨(some 26), [], .load true 2 (.t 25), (some (24, true)), [], []⟩, 0), (⟨(some 27), [], .faddr 3 (.t 3), (some (24, true)), [], []⟩, 0), (⟨(some 28), [], .load true 2 (.t 27), (some (24, true)), [], []⟩, 0), (⟨(some 29), [], .eqs false [1, 1] (.t 26) (.t 28), (some (24, true)), [], []⟩, 0), qo 30 (.pick (.t 24) (.t 29) (.c (.leaf (.b false)))), qm 31 30, (⟨(some 32), [], .faddr 5 (.t 2), (some (31, true)), [], []⟩, 0), (⟨(some 33), [], .load false 1 (.t 32), (some (31, true)), [], []⟩, 0), (⟨(some 34), [], .faddr 5 (.t 3), (some (31, true)), [], []⟩, 0), (⟨(some 35), [], .load false 1 (.t 34), (some (31, true)), [], []⟩, 0), (⟨(some 36), [], .bin .eql (.t 33) (.t 35), (some (31, true)), [], []⟩, 0), qo 37 (.pick (.t 31) (.t 36) (.c (.leaf (.b false)))), qm 38 37, (⟨(some 39), [], .faddr 6 (.t 2), (some (38, true)), [], []⟩, 0), (⟨(some 40), [], .load false 1 (.t 39), (some (38, true)), [], []⟩, 0), (⟨(some 41), [], .faddr 6 (.t 3), (some (38, true)), [], []⟩, 0), (⟨(some 42), [], .load false 1 (.t 41), (some (38, true)), [], []⟩, 0), (⟨(some 43), [], .bin .eql (.t 40) (.t 42), (some (38, true)), [], []⟩, 0), qo 44 (.pick (.t 38) (.t 43) (.c (.leaf (.b false)))), qm 45 44, (⟨(some 46), [], .faddr 7 (.t 2), (some (45, true)), [], []⟩, 0), (⟨(some 47), [], .load true 2 (.t 46), (some (45, true)), [], []⟩, 0), (⟨(some 48), [], .faddr 7 (.t 3), (some (45, true)), [], []⟩, 0), (⟨(some 49), [], .load true 2 (.t 48), (some (45, true)), [], []⟩, 0), (⟨(some 50), [], .eqs false [1, 1] (.t 47) (.t 49), (some (45, true)), [], []⟩, 0), qo 51 (.pick (.t 45) (.t 50) (.c (.leaf (.b false)))), qm 52 51, (⟨(some 53), [], .faddr 9 (.t 2), (some (52, true)), [], []⟩, 0), (⟨(some 54), [], .load true 2 (.t 53), (some (52, true)), [], []⟩, 0), (⟨(some 55), [], .faddr 9 (.t 3), (some (52, true)), [], []⟩, 0), (⟨(some 56), [], .load true 2 (.t 55), (some (52, true)), [], []⟩, 0), (⟨(some 57), [], .eqs false [1, 1] (.t 54) (.t 56), (some (52, true)), [], []⟩, 0), qo 58 (.pick (.t 52) (.t 57) (.c (.leaf (.b false)))), qm 59 58, (⟨(some 60), [], .faddr 11 (.t 2), (some (59, true)), [], []⟩, 0), (⟨(some 61), [], .load true 12 (.t 60), (some (59, true)), [], []⟩, 0), (⟨(some 62), [], .faddr 11 (.t 3), (some (59, true)), [], []⟩, 0), (⟨(some 63), [], .load true 12 (.t 62), (some (59, true)), [], []⟩, 0), (⟨(some 64), [], .call 44 none [(.t 61), (.t 63)], (some (59, true)), [], []⟩, 0), qo 65 (.pick (.t 59) (.t 64) (.c (.leaf (.b false)))), qm 66 65, (⟨(some 67), [], .faddr 23 (.t 2), (some (66, true)), [], []⟩, 0), (⟨(some 68), [], .load true 10 (.t 67), (some (66, true)), [], []⟩, 0), (⟨(some 69), [], .faddr 23 (.t 3), (some (66, true)), [], []⟩, 0), (⟨(some 70), [], .load true 10 (.t 69), (some (66, true)), [], []⟩, 0), (⟨(some 71), [], .eqs false [1, 1, 1, 1, 2, 0, 1, 1, 1, 1] (.t 68) (.t 70), (some (66, true)), [], []⟩, 0), qo 72 (.pick (.t 66) (.t 71) (.c (.leaf (.b false)))), qm 73 72, (⟨(some 74), [], .faddr 33 (.t 2), (some (73, true)), [], []⟩, 0), (⟨(some 75), [], .load true 6 (.t 74), (some (73, true)), [], []⟩, 0), (⟨(some 76), [], .faddr 33 (.t 3), (some (73, true)), [], []⟩, 0), (⟨(some 77), [], .load true 6 (.t 76), (some (73, true)), [], []⟩, 0), (⟨(some 78), [], .eqs false [2, 1, 1, 1, 1, 2] (.t 75) (.t 77), (some (73, true)), [], []⟩, 0), qo 79 (.pick (.t 73) (.t 78) (.c (.leaf (.b false)))), qm 80 79, (⟨(some 81), [], .faddr 39 (.t 2), (some (80, true)), [], []⟩, 0), (⟨(some 82), [], .load true 3 (.t 81), (some (80, true)), [], []⟩, 0), (⟨(some 83), [], .faddr 39 (.t 3), (some (80, true)), [], []⟩, 0), (⟨(some 84), [], .load true 3 (.t 83), (some (80, true)), [], []⟩, 0), (⟨(some 85), [], .eqs false [1, 1, 2] (.t 82) (.t 84), (some (80, true)), [], []⟩, 0), qo 86 (.pick (.t 80) (.t 85) (.c (.leaf (.b false)))), qm 87 86, (⟨(some 88), [], .faddr 42 (.t 2), (some (87, true)), [], []⟩, 0), (⟨(some 89), [], .load true 2 (.t 88), (some (87, true)), [], []⟩, 0), (⟨(some 90), [], .faddr 42 (.t 3), (some (87, true)), [], []⟩, 0), (⟨(some 91), [], .load true 2 (.t 90), (some (87, true)), [], []⟩, 0), (⟨(some 92), [], .eqs false [1, 1] (.t 89) (.t 91), (some (87, true)), [], []⟩, 0), qo 93 (.pick (.t 87) (.t 92) (.c (.leaf (.b false)))), qm 94 93, (⟨(some 95), [], .faddr 44 (.t 2), (some (94, true)), [], []⟩, 0), (⟨(some 96), [], .load false 1 (.t 95), (some (94, true)), [], []⟩, 0), (⟨(some 97), [], .faddr 44 (.t 3), (some (94, true)), [], []⟩, 0), (⟨(some 98), [], .load false 1 (.t 97), (some (94, true)), [], []⟩, 0), (⟨(some 99), [], .bin .eql (.t 96) (.t 98), (some (94, true)), [], []⟩, 0), qo 100 (.pick (.t 94) (.t 99) (.c (.leaf (.b false)))), qm 101 100, (⟨(some 102), [], .faddr 45 (.t 2), (some (101, true)), [], []⟩, 0), (⟨(some 103), [], .load false 1 (.t 102), (some (101, true)), [], []⟩, 0), (⟨(some 104), [], .faddr 45 (.t 3), (some (101, true)), [], []⟩, 0), (⟨(some 105), [], .load false 1 (.t 104), (some (101, true)), [], []⟩, 0), (⟨(some 106), [], .bin .eql (.t 103) (.t 105), (some (101, true)), [], []⟩, 0), qo 107 (.pick (.t 101) (.t 106) (.c (.leaf (.b false)))), qa 4 107])
.ret)),
  [(none, 4)], none⟩
theorem k102 : FnOk Tryz.prog ioF 22 h102.f := ⟨Tryz.f22, Tryz.func22, by kernel_rfl, by kernel_rfl, by kernel_rfl⟩
/-- impl_Msg_ -/
def h103 : HFn := ⟨32, [], 3,
  (q3 (qr [qk 6 (.b false)])
(q3 (q3 (qr [qm 10 0, ql' 11 0 10, qm 12 1, ql' 13 0 12, qb 14 .neq 11 13])
(.cond (.t 14)
(qR 6 (.b false))
.skip))
(q3 (q3 (qr [qm 15 0, ql' 16 0 15, qo 17 (.mv (.c (.leaf z64)))])
(.block 0 (.loop [0, 1, 2, 15, 16, 17] [(0, lv 26), (1, lv 26), (2, .inv), (15, lv 26), (16, .inv), (17, li)] [(.exit 0, []), (.ret, [(6, .leaf (.bk false))])]
(q3 (qr [qb 18 .lss 17 16])
(q3 (.cond (.t 18)
.skip
(.exit 0))
(q3 (.block 1 (q3 (qr [qm 19 17, qi 20 46 15 17, qL 21 46 20, qz 8 [z64, z64, z64, z64, z64, z64, zs, z64, z64, z64, z64, z64, z64, z64, z64, z64, z64, (zl 5), (zl 4), (zl 10), z64, z64, (zl 6), z64, z64, z64, z64, zs, (.b false), z64, z64, z64, z64, zs, z64, z64, z64, z64, zs, z64, z64, zs, z64, z64, z64, zs], qa 7 19, qs 46 8 21])
(q3 (qr [qm 22 1, qm 23 7, qi 24 46 22 23, qL 25 46 24, qz 9 [z64, z64, z64, z64, z64, z64, zs, z64, z64, z64, z64, z64, z64, z64, z64, z64, z64, (zl 5), (zl 4), (zl 10), z64, z64, (zl 6), z64, z64, z64, z64, zs, (.b false), z64, z64, z64, z64, zs, z64, z64, z64, z64, zs, z64, z64, zs, z64, z64, z64, zs], qs 46 9 25])
(q3 (qr [qm 26 2, qL 27 46 8, qL 28 46 9, qo 29 (.callv (.t 26) [(.t 27), (.t 28)]), qo 30 (.un .not (.t 29))])
(.cond (.t 30)
(qR 6 (.b false))
.skip)))))
(qr [qB 31 .add 17 .i64 1, qm 17 31])))))))
(qR 6 (.b true))))),
  [(none, 6)], none⟩
theorem k103 : FnOk Tryz.prog ioF 21 h103.f := ⟨Tryz.f21, Tryz.func21, by kernel_rfl, by kernel_rfl, by kernel_rfl⟩
/-- impl_SameServer -/
def h104 : HFn := ⟨45, [], 2,
  (q3 (qr [qx 2 0, qx 3 1, qk 4 (.b false)])
(q3 (qr [qf 5 0 2, ql 6 5, qf 7 0 3, ql 8 7, qb 9 .eql 6 8, qm 10 9, (⟨(some 11), [], .faddr 1 (.t 2), (some (10, true)), [], []⟩, 0), (⟨(some 12), [], .load false 1 (.t 11), (some (10, true)), [], []⟩, 0), (⟨(some 13), [], .faddr 1 (.t 3), (some (10, true)), [], []⟩, 0), (⟨(some 14), [], .load false 1 (.t 13), (some (10, true)), [], []⟩, 0), (⟨(some 15), [], .bin .eql (.t 12) (.t 14), (some (10, true)), [], []⟩, 0), qo 16 (.pick (.t 10) (.t 15) (.c (.leaf (.b false)))), qm 17 16, (⟨(some 18), [], .faddr 2 (.t 2), (some (17, true)), [], []⟩, 0), (⟨(some 19), [], .load false 1 (.t 18), (some (17, true)), [], []⟩, 0), (⟨(some 20), [], .faddr 2 (.t 3), (some (17, true)), [], []⟩, 0), (⟨(some 21), [], .load false 1 (.t 20), (some (17, true)), [], []⟩, 0), (⟨(some 22), [], .eqc false 0 (.t 19) (.t 21), (some (17, true)), [], []⟩, 0), qo 23 (.pick (.t 17) (.t 22) (.c (.leaf (.b false)))), qm 24 23, (⟨(some 25), [], .faddr 3 (.t 2), (some (24, true)), [], []⟩, 0), (⟨(some 26), [], .load true 2 (.t 25), (some (24, true)), [], []⟩, 0), (⟨(some 27), [], .faddr 3 (.t 3), (some (24, true)), [], []⟩, 0), (⟨(some 28), [], .load true 2 (.t 27), (some (24, true)), [], []⟩, 0), (⟨(some 29), [], .call 18 none [(.t 26), (.t 28)], (some (24, true)), [], []⟩, 0), qo 30 (.pick (.t 24) (.t 29) (.c (.leaf (.b false)))), qm 31 30, (⟨(some 32), [], .faddr 5 (.t 2), (some (31, true)), [], []⟩, 0), (⟨(some 33), [], .load false 1 (.t 32), (some (31, true)), [], []⟩, 0), (⟨(some 34), [], .faddr 5 (.t 3), (some (31, true)), [], []⟩, 0), (⟨(some 35), [], .load false 1 (.t 34), (some (31, true)), [], []⟩, 0), (⟨(some 36), [], .call 19 none [(.t 33), (.t 35), (.c (.leaf (.fn 20 [])))], (some (31, true)), [], []⟩, 0), qo 37 (.pick (.t 31) (.t 36) (.c (.leaf (.b false)))), qm 38 37, (⟨(some 39), [], .faddr 6 (.t 2), (some (38, true)), [], []⟩, 0), (⟨(some 40), [], .load false 1 (.t 39), (some (38, true)), [], []⟩, 0), (⟨(some 41), [], .faddr 6 (.t 3), (some (38, true)), [], []⟩, 0), (⟨(some 42), [], .load false 1 (.t 41), (some (38, true)), [], []⟩, 0), (⟨(some 43), [], .call 21 none [(.t 40), (.t 42), (.c (.leaf (.fn 22 [])))], (some (38, true)), [], []⟩, 0), qo 44 (.pick (.t 38) (.t 43) (.c (.leaf (.b false)))), qa 4 44])
.ret)),
  [(none, 4)], none⟩
theorem k104 : FnOk Tryz.prog ioF 7 h104.f := ⟨Tryz.f7, Tryz.func7, by kernel_rfl, by kernel_rfl, by kernel_rfl⟩
/-- laws_eqPg -/
def h105 : HFn := ⟨15, [], 2,
  (q3 (qr [qx 2 0, qx 3 1, qk 4 (.b false)])
(q3 (q3 (qr [qf 5 0 2, ql 6 5, qf 7 0 3, ql 8 7, qb 9 .neq 6 8])
(.cond (.t 9)
(qR 4 (.b false))
.skip))
(q3 (q3 (qr [qf 10 1 2, ql 11 10, qf 12 1 3, ql 13 12, qb 14 .neq 11 13])
(.cond (.t 14)
(qR 4 (.b false))
.skip))
(qR 4 (.b true))))),
  [(none, 4)], none⟩
theorem k105 : FnOk Tryz.prog ioF 86 h105.f := ⟨Tryz.f86, Tryz.func86, by kernel_rfl, by kernel_rfl, by kernel_rfl⟩
/-- laws_eqVer -/
def h106 : HFn := ⟨15, [], 2,
  (q3 (qr [qx 2 0, qx 3 1, qk 4 (.b false)])
(q3 (q3 (qr [qf 5 0 2, ql 6 5, qf 7 0 3, ql 8 7, qb 9 .neq 6 8])
(.cond (.t 9)
(qR 4 (.b false))
.skip))
(q3 (q3 (qr [qf 10 1 2, ql 11 10, qf 12 1 3, ql 13 12, qb 14 .neq 11 13])
(.cond (.t 14)
(qR 4 (.b false))
.skip))
(qR 4 (.b true))))),
  [(none, 4)], none⟩
theorem k106 : FnOk Tryz.prog ioF 94 h106.f := ⟨Tryz.f94, Tryz.func94, by kernel_rfl, by kernel_rfl, by kernel_rfl⟩
/-- laws_eqHead -/
def h107 : HFn := ⟨26, [], 2,
  (q3 (qr [qx 2 0, qx 3 1, qk 4 (.b false)])
(q3 (q3 (qr [qf 5 0 2, ql 6 5, qf 7 0 3, ql 8 7, qb 9 .neq 6 8])
(.cond (.t 9)
(qR 4 (.b false))
.skip))
(q3 (q3 (qr [qf 10 1 2, qL 11 2 10, qf 12 1 3, qL 13 2 12, qc 14 94 [11, 13], qo 15 (.un .not (.t 14))])
(.cond (.t 15)
(qR 4 (.b false))
.skip))
(q3 (q3 (qr [qf 16 3 2, ql 17 16, qf 18 3 3, ql 19 18, qb 20 .neq 17 19])
(.cond (.t 20)
(qR 4 (.b false))
.skip))
(q3 (q3 (qr [qf 21 4 2, ql 22 21, qf 23 4 3, ql 24 23, qb 25 .neq 22 24])
(.cond (.t 25)
(qR 4 (.b false))
.skip))
(qR 4 (.b true))))))),
  [(none, 4)], none⟩
theorem k107 : FnOk Tryz.prog ioF 135 h107.f := ⟨Tryz.f135, Tryz.func135, by kernel_rfl, by kernel_rfl, by kernel_rfl⟩
/-- laws_eqHeadS -/
def h108 : HFn := ⟨27, [], 2,
  (q3 (qr [qk 4 (.b false)])
(q3 (q3 (qr [qm 6 0, ql' 7 0 6, qm 8 1, ql' 9 0 8, qb 10 .neq 7 9])
(.cond (.t 10)
(qR 4 (.b false))
.skip))
(q3 (q3 (qr [qk 5 z64])
(.block 0 (.loop [0, 1, 5] [(0, .inv), (1, .inv), (5, li)] [(.exit 0, []), (.ret, [(4, .leaf (.bk false))])]
(q3 (q3 (qr [qm 11 5, qm 12 0, ql' 13 0 12, qb 14 .lss 11 13])
(.cond (.t 14)
.skip
(.exit 0)))
(q3 (.block 1 (q3 (.rgd [qd (qm 17 0) [0, 17] [17], qd (qm 18 5) [5, 18] [18], qd (qi 19 5 17 18) [17, 0, 18, 5, 19] [19], qd (qL 20 5 19) [19, 17, 0, 20] [20], qd (qm 21 1) [1, 21] [21], qd (qm 22 5) [5, 22] [22], qd (qi 23 5 21 22) [21, 1, 22, 5, 23] [23], qd (qL 24 5 23) [23, 21, 1, 24] [24], qd (qc 25 135 [20, 24]) [20, 19, 17, 0, 24, 23, 21, 1, 25] [25], qd (qo 26 (.un .not (.t 25))) [25, 26] [26]])
(.cond (.t 26)
(qR 4 (.b false))
.skip)))
(qr [qm 15 5, qB 16 .add 15 .i64 1, qa 5 16]))))))
(qR 4 (.b true))))),
  [(none, 4)], none⟩
theorem k108 : FnOk Tryz.prog ioF 118 h108.f := ⟨Tryz.f118, Tryz.func118, by kernel_rfl, by kernel_rfl, by kernel_rfl⟩
/-- laws_eqLast -/
def h109 : HFn := ⟨21, [], 2,
  (q3 (qr [qx 2 0, qx 3 1, qk 4 (.b false)])
(q3 (q3 (qr [qf 5 0 2, ql 6 5, qf 7 0 3, ql 8 7, qb 9 .neq 6 8])
(.cond (.t 9)
(qR 4 (.b false))
.skip))
(q3 (q3 (qr [qf 10 1 2, ql 11 10, qf 12 1 3, ql 13 12, qb 14 .neq 11 13])
(.cond (.t 14)
(qR 4 (.b false))
.skip))
(q3 (q3 (qr [qf 15 2 2, qL 16 2 15, qf 17 2 3, qL 18 2 17, qc 19 94 [16, 18], qo 20 (.un .not (.t 19))])
(.cond (.t 20)
(qR 4 (.b false))
.skip))
(qR 4 (.b true)))))),
  [(none, 4)], none⟩
theorem k109 : FnOk Tryz.prog ioF 136 h109.f := ⟨Tryz.f136, Tryz.func136, by kernel_rfl, by kernel_rfl, by kernel_rfl⟩
/-- laws_eqLastS -/
def h110 : HFn := ⟨27, [], 2,
  (q3 (qr [qk 4 (.b false)])
(q3 (q3 (qr [qm 6 0, ql' 7 0 6, qm 8 1, ql' 9 0 8, qb 10 .neq 7 9])
(.cond (.t 10)
(qR 4 (.b false))
.skip))
(q3 (q3 (qr [qk 5 z64])
(.block 0 (.loop [0, 1, 5] [(0, .inv), (1, .inv), (5, li)] [(.exit 0, []), (.ret, [(4, .leaf (.bk false))])]
(q3 (q3 (qr [qm 11 5, qm 12 0, ql' 13 0 12, qb 14 .lss 11 13])
(.cond (.t 14)
.skip
(.exit 0)))
(q3 (.block 1 (q3 (.rgd [qd (qm 17 0) [0, 17] [17], qd (qm 18 5) [5, 18] [18], qd (qi 19 4 17 18) [17, 0, 18, 5, 19] [19], qd (qL 20 4 19) [19, 17, 0, 20] [20], qd (qm 21 1) [1, 21] [21], qd (qm 22 5) [5, 22] [22], qd (qi 23 4 21 22) [21, 1, 22, 5, 23] [23], qd (qL 24 4 23) [23, 21, 1, 24] [24], qd (qc 25 136 [20, 24]) [20, 19, 17, 0, 24, 23, 21, 1, 25] [25], qd (qo 26 (.un .not (.t 25))) [25, 26] [26]])
(.cond (.t 26)
(qR 4 (.b false))
.skip)))
(qr [qm 15 5, qB 16 .add 15 .i64 1, qa 5 16]))))))
(qR 4 (.b true))))),
  [(none, 4)], none⟩
theorem k110 : FnOk Tryz.prog ioF 119 h110.f := ⟨Tryz.f119, Tryz.func119, by kernel_rfl, by kernel_rfl, by kernel_rfl⟩
/-- laws_eqReq -/
def h111 : HFn := ⟨15, [], 2,
  (q3 (qr [qx 2 0, qx 3 1, qk 4 (.b false)])
(q3 (q3 (qr [qf 5 0 2, ql 6 5, qf 7 0 3, ql 8 7, qb 9 .neq 6 8])
(.cond (.t 9)
(qR 4 (.b false))
.skip))
(q3 (q3 (qr [qf 10 1 2, ql 11 10, qf 12 1 3, ql 13 12, qb 14 .neq 11 13])
(.cond (.t 14)
(qR 4 (.b false))
.skip))
(qR 4 (.b true))))),
  [(none, 4)], none⟩
theorem k111 : FnOk Tryz.prog ioF 98 h111.f := ⟨Tryz.f98, Tryz.func98, by kernel_rfl, by kernel_rfl, by kernel_rfl⟩
/-- laws_eqEntry -/
def h112 : HFn := ⟨43, [], 2,
  (q3 (qr [qx 2 0, qx 3 1, qk 4 (.b false)])
(q3 (q3 (qr [qf 5 0 2, qL 6 2 5, qf 7 0 3, qL 8 2 7, qc 9 94 [6, 8], qo 10 (.un .not (.t 9))])
(.cond (.t 10)
(qR 4 (.b false))
.skip))
(q3 (q3 (qr [qf 11 2 2, qL 12 2 11, qf 13 2 3, qL 14 2 13, qc 15 94 [12, 14], qo 16 (.un .not (.t 15))])
(.cond (.t 16)
(qR 4 (.b false))
.skip))
(q3 (q3 (qr [qf 17 4 2, ql 18 17, qf 19 4 3, ql 20 19, qb 21 .neq 18 20])
(.cond (.t 21)
(qR 4 (.b false))
.skip))
(q3 (q3 (qr [qf 22 5 2, ql 23 22, qf 24 5 3, ql 25 24, qq 26 true 23 25])
(.cond (.t 26)
(qR 4 (.b false))
.skip))
(q3 (q3 (qr [qf 27 6 2, ql 28 27, qf 29 6 3, ql 30 29, qb 31 .neq 28 30])
(.cond (.t 31)
(qR 4 (.b false))
.skip))
(q3 (q3 (qr [qf 32 7 2, ql 33 32, qf 34 7 3, ql 35 34, qb 36 .neq 33 35])
(.cond (.t 36)
(qR 4 (.b false))
.skip))
(q3 (q3 (qr [qf 37 8 2, qL 38 2 37, qf 39 8 3, qL 40 2 39, qc 41 98 [38, 40], qo 42 (.un .not (.t 41))])
(.cond (.t 42)
(qR 4 (.b false))
.skip))
(qR 4 (.b true)))))))))),
  [(none, 4)], none⟩
theorem k112 : FnOk Tryz.prog ioF 95 h112.f := ⟨Tryz.f95, Tryz.func95, by kernel_rfl, by kernel_rfl, by kernel_rfl⟩
/-- laws_eqEntryS -/
def h113 : HFn := ⟨27, [], 2,
  (q3 (qr [qk 4 (.b false)])
(q3 (q3 (qr [qm 6 0, ql' 7 0 6, qm 8 1, ql' 9 0 8, qb 10 .neq 7 9])
(.cond (.t 10)
(qR 4 (.b false))
.skip))
(q3 (q3 (qr [qk 5 z64])
(.block 0 (.loop [0, 1, 5] [(0, .inv), (1, .inv), (5, li)] [(.exit 0, []), (.ret, [(4, .leaf (.bk false))])]
(q3 (q3 (qr [qm 11 5, qm 12 0, ql' 13 0 12, qb 14 .lss 11 13])
(.cond (.t 14)
.skip
(.exit 0)))
(q3 (.block 1 (q3 (.rgd [qd (qm 17 0) [0, 17] [17], qd (qm 18 5) [5, 18] [18], qd (qi 19 10 17 18) [17, 0, 18, 5, 19] [19], qd (qL 20 10 19) [19, 17, 0, 20] [20], qd (qm 21 1) [1, 21] [21], qd (qm 22 5) [5, 22] [22], qd (qi 23 10 21 22) [21, 1, 22, 5, 23] [23], qd (qL 24 10 23) [23, 21, 1, 24] [24], qd (qc 25 95 [20, 24]) [20, 19, 17, 0, 24, 23, 21, 1, 25] [25], qd (qo 26 (.un .not (.t 25))) [25, 26] [26]])
(.cond (.t 26)
(qR 4 (.b false))
.skip)))
(qr [qm 15 5, qB 16 .add 15 .i64 1, qa 5 16]))))))
(qR 4 (.b true))))),
  [(none, 4)], none⟩
theorem k113 : FnOk Tryz.prog ioF 120 h113.f := ⟨Tryz.f120, Tryz.func120, by kernel_rfl, by kernel_rfl, by kernel_rfl⟩
/-- laws_eqChunk -/
def h114 : HFn := ⟨31, [], 2,
  (q3 (qr [qx 2 0, qx 3 1, qk 4 (.b false)])
(q3 (q3 (qr [qf 5 0 2, ql 6 5, qf 7 0 3, ql 8 7, qb 9 .neq 6 8])
(.cond (.t 9)
(qR 4 (.b false))
.skip))
(q3 (q3 (qr [qf 10 1 2, qL 11 2 10, qf 12 1 3, qL 13 2 12, qc 14 94 [11, 13], qo 15 (.un .not (.t 14))])
(.cond (.t 15)
(qR 4 (.b false))
.skip))
(q3 (q3 (qr [qf 16 3 2, ql 17 16, qf 18 3 3, ql 19 18, qb 20 .neq 17 19])
(.cond (.t 20)
(qR 4 (.b false))
.skip))
(q3 (q3 (qr [qf 21 4 2, ql 22 21, qf 23 4 3, ql 24 23, qb 25 .neq 22 24])
(.cond (.t 25)
(qR 4 (.b false))
.skip))
(q3 (q3 (qr [qf 26 5 2, ql 27 26, qf 28 5 3, ql 29 28, qb 30 .neq 27 29])
(.cond (.t 30)
(qR 4 (.b false))
.skip))
(qR 4 (.b true)))))))),
  [(none, 4)], none⟩
theorem k114 : FnOk Tryz.prog ioF 96 h114.f := ⟨Tryz.f96, Tryz.func96, by kernel_rfl, by kernel_rfl, by kernel_rfl⟩
/-- laws_eqChunkS -/
def h115 : HFn := ⟨27, [], 2,
  (q3 (qr [qk 4 (.b false)])
(q3 (q3 (qr [qm 6 0, ql' 7 0 6, qm 8 1, ql' 9 0 8, qb 10 .neq 7 9])
(.cond (.t 10)
(qR 4 (.b false))
.skip))
(q3 (q3 (qr [qk 5 z64])
(.block 0 (.loop [0, 1, 5] [(0, .inv), (1, .inv), (5, li)] [(.exit 0, []), (.ret, [(4, .leaf (.bk false))])]
(q3 (q3 (qr [qm 11 5, qm 12 0, ql' 13 0 12, qb 14 .lss 11 13])
(.cond (.t 14)
.skip
(.exit 0)))
(q3 (.block 1 (q3 (.rgd [qd (qm 17 0) [0, 17] [17], qd (qm 18 5) [5, 18] [18], qd (qi 19 6 17 18) [17, 0, 18, 5, 19] [19], qd (qL 20 6 19) [19, 17, 0, 20] [20], qd (qm 21 1) [1, 21] [21], qd (qm 22 5) [5, 22] [22], qd (qi 23 6 21 22) [21, 1, 22, 5, 23] [23], qd (qL 24 6 23) [23, 21, 1, 24] [24], qd (qc 25 96 [20, 24]) [20, 19, 17, 0, 24, 23, 21, 1, 25] [25], qd (qo 26 (.un .not (.t 25))) [25, 26] [26]])
(.cond (.t 26)
(qR 4 (.b false))
.skip)))
(qr [qm 15 5, qB 16 .add 15 .i64 1, qa 5 16]))))))
(qR 4 (.b true))))),
  [(none, 4)], none⟩
theorem k115 : FnOk Tryz.prog ioF 92 h115.f := ⟨Tryz.f92, Tryz.func92, by kernel_rfl, by kernel_rfl, by kernel_rfl⟩
/-- laws_eqPgState -/
def h116 : HFn := ⟨57, [], 2,
  (q3 (qr [qx 2 0, qx 3 1, qk 4 (.b false)])
(q3 (q3 (qr [qf 5 0 2, qL 6 2 5, qf 7 0 3, qL 8 2 7, qc 9 86 [6, 8], qo 10 (.un .not (.t 9))])
(.cond (.t 10)
(qR 4 (.b false))
.skip))
(q3 (q3 (qr [qf 11 2 2, ql 12 11, qf 13 2 3, ql 14 13, qb 15 .neq 12 14])
(.cond (.t 15)
(qR 4 (.b false))
.skip))
(q3 (q3 (qr [qf 16 3 2, ql 17 16, qf 18 3 3, ql 19 18, qb 20 .neq 17 19])
(.cond (.t 20)
(qR 4 (.b false))
.skip))
(q3 (q3 (qr [qf 21 4 2, qL 22 2 21, qf 23 4 3, qL 24 2 23, qc 25 94 [22, 24], qo 26 (.un .not (.t 25))])
(.cond (.t 26)
(qR 4 (.b false))
.skip))
(q3 (q3 (qr [qf 27 6 2, ql 28 27, qf 29 6 3, ql 30 29, qc 31 118 [28, 30], qo 32 (.un .not (.t 31))])
(.cond (.t 32)
(qR 4 (.b false))
.skip))
(q3 (q3 (qr [qf 33 7 2, ql 34 33, qf 35 7 3, ql 36 35, qc 37 119 [34, 36], qo 38 (.un .not (.t 37))])
(.cond (.t 38)
(qR 4 (.b false))
.skip))
(q3 (q3 (qr [qf 39 8 2, ql 40 39, qf 41 8 3, ql 42 41, qc 43 120 [40, 42], qo 44 (.un .not (.t 43))])
(.cond (.t 44)
(qR 4 (.b false))
.skip))
(q3 (q3 (qr [qf 45 9 2, qL 46 2 45, qf 47 9 3, qL 48 2 47, qc 49 94 [46, 48], qo 50 (.un .not (.t 49))])
(.cond (.t 50)
(qR 4 (.b false))
.skip))
(q3 (q3 (qr [qf 51 11 2, ql 52 51, qf 53 11 3, ql 54 53, qc 55 92 [52, 54], qo 56 (.un .not (.t 55))])
(.cond (.t 56)
(qR 4 (.b false))
.skip))
(qR 4 (.b true)))))))))))),
  [(none, 4)], none⟩
theorem k116 : FnOk Tryz.prog ioF 85 h116.f := ⟨Tryz.f85, Tryz.func85, by kernel_rfl, by kernel_rfl, by kernel_rfl⟩
/-- laws_eqPgStateS -/
def h117 : HFn := ⟨27, [], 2,
  (q3 (qr [qk 4 (.b false)])
(q3 (q3 (qr [qm 6 0, ql' 7 0 6, qm 8 1, ql' 9 0 8, qb 10 .neq 7 9])
(.cond (.t 10)
(qR 4 (.b false))
.skip))
(q3 (q3 (qr [qk 5 z64])
(.block 0 (.loop [0, 1, 5] [(0, .inv), (1, .inv), (5, li)] [(.exit 0, []), (.ret, [(4, .leaf (.bk false))])]
(q3 (q3 (qr [qm 11 5, qm 12 0, ql' 13 0 12, qb 14 .lss 11 13])
(.cond (.t 14)
.skip
(.exit 0)))
(q3 (.block 1 (q3 (.rgd [qd (qm 17 0) [0, 17] [17], qd (qm 18 5) [5, 18] [18], qd (qi 19 12 17 18) [17, 0, 18, 5, 19] [19], qd (qL 20 12 19) [19, 17, 0, 20] [20], qd (qm 21 1) [1, 21] [21], qd (qm 22 5) [5, 22] [22], qd (qi 23 12 21 22) [21, 1, 22, 5, 23] [23], qd (qL 24 12 23) [23, 21, 1, 24] [24], qd (qc 25 85 [20, 24]) [20, 19, 17, 0, 24, 23, 21, 1, 25] [25], qd (qo 26 (.un .not (.t 25))) [25, 26] [26]])
(.cond (.t 26)
(qR 4 (.b false))
.skip)))
(qr [qm 15 5, qB 16 .add 15 .i64 1, qa 5 16]))))))
(qR 4 (.b true))))),
  [(none, 4)], none⟩
theorem k117 : FnOk Tryz.prog ioF 48 h117.f := ⟨Tryz.f48, Tryz.func48, by kernel_rfl, by kernel_rfl, by kernel_rfl⟩
/-- laws_eqStore -/
def h118 : HFn := ⟨17, [], 2,
  (q3 (qr [qx 2 0, qx 3 1, qk 4 (.b false)])
(q3 (q3 (qr [qf 5 0 2, ql 6 5, qf 7 0 3, ql 8 7, qc 9 48 [6, 8], qo 10 (.un .not (.t 9))])
(.cond (.t 10)
(qR 4 (.b false))
.skip))
(q3 (q3 (qr [qf 11 1 2, ql 12 11, qf 13 1 3, ql 14 13, qc 15 48 [12, 14], qo 16 (.un .not (.t 15))])
(.cond (.t 16)
(qR 4 (.b false))
.skip))
(qR 4 (.b true))))),
  [(none, 4)], none⟩
theorem k118 : FnOk Tryz.prog ioF 23 h118.f := ⟨Tryz.f23, Tryz.func23, by kernel_rfl, by kernel_rfl, by kernel_rfl⟩
/-- laws_eqCode -/
def h119 : HFn := ⟨15, [], 2,
  (q3 (qr [qx 2 0, qx 3 1, qk 4 (.b false)])
(q3 (q3 (qr [qf 5 0 2, ql 6 5, qf 7 0 3, ql 8 7, qb 9 .neq 6 8])
(.cond (.t 9)
(qR 4 (.b false))
.skip))
(q3 (q3 (qr [qf 10 1 2, ql 11 10, qf 12 1 3, ql 13 12, qb 14 .neq 11 13])
(.cond (.t 14)
(qR 4 (.b false))
.skip))
(qR 4 (.b true))))),
  [(none, 4)], none⟩
theorem k119 : FnOk Tryz.prog ioF 87 h119.f := ⟨Tryz.f87, Tryz.func87, by kernel_rfl, by kernel_rfl, by kernel_rfl⟩
/-- laws_eqInt64S -/
def h120 : HFn := ⟨26, [], 2,
  (q3 (qr [qk 4 (.b false)])
(q3 (q3 (qr [qm 6 0, ql' 7 0 6, qm 8 1, ql' 9 0 8, qb 10 .neq 7 9])
(.cond (.t 10)
(qR 4 (.b false))
.skip))
(q3 (q3 (qr [qk 5 z64])
(.block 0 (.loop [0, 1, 5] [(0, .inv), (1, .inv), (5, li)] [(.exit 0, []), (.ret, [(4, .leaf (.bk false))])]
(q3 (q3 (qr [qm 11 5, qm 12 0, ql' 13 0 12, qb 14 .lss 11 13])
(.cond (.t 14)
.skip
(.exit 0)))
(q3 (.block 1 (q3 (.rgd [qd (qm 17 0) [0, 17] [17], qd (qm 18 5) [5, 18] [18], qd (qi 19 1 17 18) [17, 0, 18, 5, 19] [19], qd (ql 20 19) [19, 17, 0, 20] [20], qd (qm 21 1) [1, 21] [21], qd (qm 22 5) [5, 22] [22], qd (qi 23 1 21 22) [21, 1, 22, 5, 23] [23], qd (ql 24 23) [23, 21, 1, 24] [24], qd (qb 25 .neq 20 24) [20, 19, 17, 0, 24, 23, 21, 1, 25] [25]])
(.cond (.t 25)
(qR 4 (.b false))
.skip)))
(qr [qm 15 5, qB 16 .add 15 .i64 1, qa 5 16]))))))
(qR 4 (.b true))))),
  [(none, 4)], none⟩
theorem k120 : FnOk Tryz.prog ioF 88 h120.f := ⟨Tryz.f88, Tryz.func88, by kernel_rfl, by kernel_rfl, by kernel_rfl⟩
/-- laws_eqInterval -/
def h121 : HFn := ⟨26, [], 2,
  (q3 (qr [qx 2 0, qx 3 1, qk 4 (.b false)])
(q3 (q3 (qr [qf 5 0 2, ql 6 5, qf 7 0 3, ql 8 7, qb 9 .neq 6 8])
(.cond (.t 9)
(qR 4 (.b false))
.skip))
(q3 (q3 (qr [qf 10 1 2, ql 11 10, qf 12 1 3, ql 13 12, qb 14 .neq 11 13])
(.cond (.t 14)
(qR 4 (.b false))
.skip))
(q3 (q3 (qr [qf 15 2 2, ql 16 15, qf 17 2 3, ql 18 17, qc 19 88 [16, 18], qo 20 (.un .not (.t 19))])
(.cond (.t 20)
(qR 4 (.b false))
.skip))
(q3 (q3 (qr [qf 21 3 2, ql 22 21, qf 23 3 3, ql 24 23, qq 25 true 22 24])
(.cond (.t 25)
(qR 4 (.b false))
.skip))
(qR 4 (.b true))))))),
  [(none, 4)], none⟩
theorem k121 : FnOk Tryz.prog ioF 121 h121.f := ⟨Tryz.f121, Tryz.func121, by kernel_rfl, by kernel_rfl, by kernel_rfl⟩
/-- laws_eqIntervalS -/
def h122 : HFn := ⟨27, [], 2,
  (q3 (qr [qk 4 (.b false)])
(q3 (q3 (qr [qm 6 0, ql' 7 0 6, qm 8 1, ql' 9 0 8, qb 10 .neq 7 9])
(.cond (.t 10)
(qR 4 (.b false))
.skip))
(q3 (q3 (qr [qk 5 z64])
(.block 0 (.loop [0, 1, 5] [(0, .inv), (1, .inv), (5, li)] [(.exit 0, []), (.ret, [(4, .leaf (.bk false))])]
(q3 (q3 (qr [qm 11 5, qm 12 0, ql' 13 0 12, qb 14 .lss 11 13])
(.cond (.t 14)
.skip
(.exit 0)))
(q3 (.block 1 (q3 (.rgd [qd (qm 17 0) [0, 17] [17], qd (qm 18 5) [5, 18] [18], qd (qi 19 4 17 18) [17, 0, 18, 5, 19] [19], qd (qL 20 4 19) [19, 17, 0, 20] [20], qd (qm 21 1) [1, 21] [21], qd (qm 22 5) [5, 22] [22], qd (qi 23 4 21 22) [21, 1, 22, 5, 23] [23], qd (qL 24 4 23) [23, 21, 1, 24] [24], qd (qc 25 121 [20, 24]) [20, 19, 17, 0, 24, 23, 21, 1, 25] [25], qd (qo 26 (.un .not (.t 25))) [25, 26] [26]])
(.cond (.t 26)
(qR 4 (.b false))
.skip)))
(qr [qm 15 5, qB 16 .add 15 .i64 1, qa 5 16]))))))
(qR 4 (.b true))))),
  [(none, 4)], none⟩
theorem k122 : FnOk Tryz.prog ioF 89 h122.f := ⟨Tryz.f89, Tryz.func89, by kernel_rfl, by kernel_rfl, by kernel_rfl⟩
/-- laws_eqNotice -/
def h123 : HFn := ⟨16, [], 2,
  (q3 (qr [qx 2 0, qx 3 1, qk 4 (.b false)])
(q3 (q3 (qr [qf 5 0 2, ql 6 5, qf 7 0 3, ql 8 7, qb 9 .neq 6 8])
(.cond (.t 9)
(qR 4 (.b false))
.skip))
(q3 (q3 (qr [qf 10 1 2, qL 11 12 10, qf 12 1 3, qL 13 12 12, qc 14 85 [11, 13], qo 15 (.un .not (.t 14))])
(.cond (.t 15)
(qR 4 (.b false))
.skip))
(qR 4 (.b true))))),
  [(none, 4)], none⟩
theorem k123 : FnOk Tryz.prog ioF 122 h123.f := ⟨Tryz.f122, Tryz.func122, by kernel_rfl, by kernel_rfl, by kernel_rfl⟩
/-- laws_eqNoticeS -/
def h124 : HFn := ⟨27, [], 2,
  (q3 (qr [qk 4 (.b false)])
(q3 (q3 (qr [qm 6 0, ql' 7 0 6, qm 8 1, ql' 9 0 8, qb 10 .neq 7 9])
(.cond (.t 10)
(qR 4 (.b false))
.skip))
(q3 (q3 (qr [qk 5 z64])
(.block 0 (.loop [0, 1, 5] [(0, .inv), (1, .inv), (5, li)] [(.exit 0, []), (.ret, [(4, .leaf (.bk false))])]
(q3 (q3 (qr [qm 11 5, qm 12 0, ql' 13 0 12, qb 14 .lss 11 13])
(.cond (.t 14)
.skip
(.exit 0)))
(q3 (.block 1 (q3 (.rgd [qd (qm 17 0) [0, 17] [17], qd (qm 18 5) [5, 18] [18], qd (qi 19 13 17 18) [17, 0, 18, 5, 19] [19], qd (qL 20 13 19) [19, 17, 0, 20] [20], qd (qm 21 1) [1, 21] [21], qd (qm 22 5) [5, 22] [22], qd (qi 23 13 21 22) [21, 1, 22, 5, 23] [23], qd (qL 24 13 23) [23, 21, 1, 24] [24], qd (qc 25 122 [20, 24]) [20, 19, 17, 0, 24, 23, 21, 1, 25] [25], qd (qo 26 (.un .not (.t 25))) [25, 26] [26]])
(.cond (.t 26)
(qR 4 (.b false))
.skip)))
(qr [qm 15 5, qB 16 .add 15 .i64 1, qa 5 16]))))))
(qR 4 (.b true))))),
  [(none, 4)], none⟩
theorem k124 : FnOk Tryz.prog ioF 90 h124.f := ⟨Tryz.f90, Tryz.func90, by kernel_rfl, by kernel_rfl, by kernel_rfl⟩
/-- laws_eqFill -/
def h125 : HFn := ⟨21, [], 2,
  (q3 (qr [qx 2 0, qx 3 1, qk 4 (.b false)])
(q3 (q3 (qr [qf 5 0 2, ql 6 5, qf 7 0 3, ql 8 7, qb 9 .neq 6 8])
(.cond (.t 9)
(qR 4 (.b false))
.skip))
(q3 (q3 (qr [qf 10 1 2, ql 11 10, qf 12 1 3, ql 13 12, qb 14 .neq 11 13])
(.cond (.t 14)
(qR 4 (.b false))
.skip))
(q3 (q3 (qr [qf 15 2 2, qL 16 5 15, qf 17 2 3, qL 18 5 17, qc 19 135 [16, 18], qo 20 (.un .not (.t 19))])
(.cond (.t 20)
(qR 4 (.b false))
.skip))
(qR 4 (.b true)))))),
  [(none, 4)], none⟩
theorem k125 : FnOk Tryz.prog ioF 123 h125.f := ⟨Tryz.f123, Tryz.func123, by kernel_rfl, by kernel_rfl, by kernel_rfl⟩
/-- laws_eqFillS -/
def h126 : HFn := ⟨27, [], 2,
  (q3 (qr [qk 4 (.b false)])
(q3 (q3 (qr [qm 6 0, ql' 7 0 6, qm 8 1, ql' 9 0 8, qb 10 .neq 7 9])
(.cond (.t 10)
(qR 4 (.b false))
.skip))
(q3 (q3 (qr [qk 5 z64])
(.block 0 (.loop [0, 1, 5] [(0, .inv), (1, .inv), (5, li)] [(.exit 0, []), (.ret, [(4, .leaf (.bk false))])]
(q3 (q3 (qr [qm 11 5, qm 12 0, ql' 13 0 12, qb 14 .lss 11 13])
(.cond (.t 14)
.skip
(.exit 0)))
(q3 (.block 1 (q3 (.rgd [qd (qm 17 0) [0, 17] [17], qd (qm 18 5) [5, 18] [18], qd (qi 19 7 17 18) [17, 0, 18, 5, 19] [19], qd (qL 20 7 19) [19, 17, 0, 20] [20], qd (qm 21 1) [1, 21] [21], qd (qm 22 5) [5, 22] [22], qd (qi 23 7 21 22) [21, 1, 22, 5, 23] [23], qd (qL 24 7 23) [23, 21, 1, 24] [24], qd (qc 25 123 [20, 24]) [20, 19, 17, 0, 24, 23, 21, 1, 25] [25], qd (qo 26 (.un .not (.t 25))) [25, 26] [26]])
(.cond (.t 26)
(qR 4 (.b false))
.skip)))
(qr [qm 15 5, qB 16 .add 15 .i64 1, qa 5 16]))))))
(qR 4 (.b true))))),
  [(none, 4)], none⟩
theorem k126 : FnOk Tryz.prog ioF 91 h126.f := ⟨Tryz.f91, Tryz.func91, by kernel_rfl, by kernel_rfl, by kernel_rfl⟩
/-- laws_eqWay -/
def h127 : HFn := ⟨16, [], 2,
  (q3 (qr [qx 2 0, qx 3 1, qk 4 (.b false)])
(q3 (q3 (qr [qf 5 0 2, qL 6 10 5, qf 7 0 3, qL 8 10 7, qc 9 95 [6, 8], qo 10 (.un .not (.t 9))])
(.cond (.t 10)
(qR 4 (.b false))
.skip))
(q3 (q3 (qr [qf 11 10 2, ql 12 11, qf 13 10 3, ql 14 13, qb 15 .neq 12 14])
(.cond (.t 15)
(qR 4 (.b false))
.skip))
(qR 4 (.b true))))),
  [(none, 4)], none⟩
theorem k127 : FnOk Tryz.prog ioF 137 h127.f := ⟨Tryz.f137, Tryz.func137, by kernel_rfl, by kernel_rfl, by kernel_rfl⟩
/-- laws_eqWayS -/
def h128 : HFn := ⟨27, [], 2,
  (q3 (qr [qk 4 (.b false)])
(q3 (q3 (qr [qm 6 0, ql' 7 0 6, qm 8 1, ql' 9 0 8, qb 10 .neq 7 9])
(.cond (.t 10)
(qR 4 (.b false))
.skip))
(q3 (q3 (qr [qk 5 z64])
(.block 0 (.loop [0, 1, 5] [(0, .inv), (1, .inv), (5, li)] [(.exit 0, []), (.ret, [(4, .leaf (.bk false))])]
(q3 (q3 (qr [qm 11 5, qm 12 0, ql' 13 0 12, qb 14 .lss 11 13])
(.cond (.t 14)
.skip
(.exit 0)))
(q3 (.block 1 (q3 (.rgd [qd (qm 17 0) [0, 17] [17], qd (qm 18 5) [5, 18] [18], qd (qi 19 11 17 18) [17, 0, 18, 5, 19] [19], qd (qL 20 11 19) [19, 17, 0, 20] [20], qd (qm 21 1) [1, 21] [21], qd (qm 22 5) [5, 22] [22], qd (qi 23 11 21 22) [21, 1, 22, 5, 23] [23], qd (qL 24 11 23) [23, 21, 1, 24] [24], qd (qc 25 137 [20, 24]) [20, 19, 17, 0, 24, 23, 21, 1, 25] [25], qd (qo 26 (.un .not (.t 25))) [25, 26] [26]])
(.cond (.t 26)
(qR 4 (.b false))
.skip)))
(qr [qm 15 5, qB 16 .add 15 .i64 1, qa 5 16]))))))
(qR 4 (.b true))))),
  [(none, 4)], none⟩
theorem k128 : FnOk Tryz.prog ioF 124 h128.f := ⟨Tryz.f124, Tryz.func124, by kernel_rfl, by kernel_rfl, by kernel_rfl⟩
/-- laws_eqAck -/
def h129 : HFn := ⟨16, [], 2,
  (q3 (qr [qx 2 0, qx 3 1, qk 4 (.b false)])
(q3 (q3 (qr [qf 5 0 2, ql 6 5, qf 7 0 3, ql 8 7, qb 9 .neq 6 8])
(.cond (.t 9)
(qR 4 (.b false))
.skip))
(q3 (q3 (qr [qf 10 1 2, qL 11 2 10, qf 12 1 3, qL 13 2 12, qc 14 94 [11, 13], qo 15 (.un .not (.t 14))])
(.cond (.t 15)
(qR 4 (.b false))
.skip))
(qR 4 (.b true))))),
  [(none, 4)], none⟩
theorem k129 : FnOk Tryz.prog ioF 138 h129.f := ⟨Tryz.f138, Tryz.func138, by kernel_rfl, by kernel_rfl, by kernel_rfl⟩
/-- laws_eqAckS -/
def h130 : HFn := ⟨27, [], 2,
  (q3 (qr [qk 4 (.b false)])
(q3 (q3 (qr [qm 6 0, ql' 7 0 6, qm 8 1, ql' 9 0 8, qb 10 .neq 7 9])
(.cond (.t 10)
(qR 4 (.b false))
.skip))
(q3 (q3 (qr [qk 5 z64])
(.block 0 (.loop [0, 1, 5] [(0, .inv), (1, .inv), (5, li)] [(.exit 0, []), (.ret, [(4, .leaf (.bk false))])]
(q3 (q3 (qr [qm 11 5, qm 12 0, ql' 13 0 12, qb 14 .lss 11 13])
(.cond (.t 14)
.skip
(.exit 0)))
(q3 (.block 1 (q3 (.rgd [qd (qm 17 0) [0, 17] [17], qd (qm 18 5) [5, 18] [18], qd (qi 19 3 17 18) [17, 0, 18, 5, 19] [19], qd (qL 20 3 19) [19, 17, 0, 20] [20], qd (qm 21 1) [1, 21] [21], qd (qm 22 5) [5, 22] [22], qd (qi 23 3 21 22) [21, 1, 22, 5, 23] [23], qd (qL 24 3 23) [23, 21, 1, 24] [24], qd (qc 25 138 [20, 24]) [20, 19, 17, 0, 24, 23, 21, 1, 25] [25], qd (qo 26 (.un .not (.t 25))) [25, 26] [26]])
(.cond (.t 26)
(qR 4 (.b false))
.skip)))
(qr [qm 15 5, qB 16 .add 15 .i64 1, qa 5 16]))))))
(qR 4 (.b true))))),
  [(none, 4)], none⟩
theorem k130 : FnOk Tryz.prog ioF 125 h130.f := ⟨Tryz.f125, Tryz.func125, by kernel_rfl, by kernel_rfl, by kernel_rfl⟩
/-- laws_eqGot -/
def h131 : HFn := ⟨22, [], 2,
  (q3 (qr [qx 2 0, qx 3 1, qk 4 (.b false)])
(q3 (q3 (qr [qf 5 0 2, ql 6 5, qf 7 0 3, ql 8 7, qb 9 .neq 6 8])
(.cond (.t 9)
(qR 4 (.b false))
.skip))
(q3 (q3 (qr [qf 10 1 2, qL 11 10 10, qf 12 1 3, qL 13 10 12, qc 14 95 [11, 13], qo 15 (.un .not (.t 14))])
(.cond (.t 15)
(qR 4 (.b false))
.skip))
(q3 (q3 (qr [qf 16 11 2, qL 17 6 16, qf 18 11 3, qL 19 6 18, qc 20 96 [17, 19], qo 21 (.un .not (.t 20))])
(.cond (.t 21)
(qR 4 (.b false))
.skip))
(qR 4 (.b true)))))),
  [(none, 4)], none⟩
theorem k131 : FnOk Tryz.prog ioF 145 h131.f := ⟨Tryz.f145, Tryz.func145, by kernel_rfl, by kernel_rfl, by kernel_rfl⟩
/-- laws_eqGotS -/
def h132 : HFn := ⟨27, [], 2,
  (q3 (qr [qk 4 (.b false)])
(q3 (q3 (qr [qm 6 0, ql' 7 0 6, qm 8 1, ql' 9 0 8, qb 10 .neq 7 9])
(.cond (.t 10)
(qR 4 (.b false))
.skip))
(q3 (q3 (qr [qk 5 z64])
(.block 0 (.loop [0, 1, 5] [(0, .inv), (1, .inv), (5, li)] [(.exit 0, []), (.ret, [(4, .leaf (.bk false))])]
(q3 (q3 (qr [qm 11 5, qm 12 0, ql' 13 0 12, qb 14 .lss 11 13])
(.cond (.t 14)
.skip
(.exit 0)))
(q3 (.block 1 (q3 (.rgd [qd (qm 17 0) [0, 17] [17], qd (qm 18 5) [5, 18] [18], qd (qi 19 17 17 18) [17, 0, 18, 5, 19] [19], qd (qL 20 17 19) [19, 17, 0, 20] [20], qd (qm 21 1) [1, 21] [21], qd (qm 22 5) [5, 22] [22], qd (qi 23 17 21 22) [21, 1, 22, 5, 23] [23], qd (qL 24 17 23) [23, 21, 1, 24] [24], qd (qc 25 145 [20, 24]) [20, 19, 17, 0, 24, 23, 21, 1, 25] [25], qd (qo 26 (.un .not (.t 25))) [25, 26] [26]])
(.cond (.t 26)
(qR 4 (.b false))
.skip)))
(qr [qm 15 5, qB 16 .add 15 .i64 1, qa 5 16]))))))
(qR 4 (.b true))))),
  [(none, 4)], none⟩
theorem k132 : FnOk Tryz.prog ioF 142 h132.f := ⟨Tryz.f142, Tryz.func142, by kernel_rfl, by kernel_rfl, by kernel_rfl⟩
/-- laws_eqWait -/
def h133 : HFn := ⟨28, [], 2,
  (q3 (qr [qx 2 0, qx 3 1, qk 4 (.b false)])
(q3 (q3 (qr [qf 5 0 2, qL 6 2 5, qf 7 0 3, qL 8 2 7, qc 9 98 [6, 8], qo 10 (.un .not (.t 9))])
(.cond (.t 10)
(qR 4 (.b false))
.skip))
(q3 (q3 (qr [qf 11 2 2, ql 12 11, qf 13 2 3, ql 14 13, qb 15 .neq 12 14])
(.cond (.t 15)
(qR 4 (.b false))
.skip))
(q3 (q3 (qr [qf 16 3 2, qL 17 2 16, qf 18 3 3, qL 19 2 18, qc 20 94 [17, 19], qo 21 (.un .not (.t 20))])
(.cond (.t 21)
(qR 4 (.b false))
.skip))
(q3 (q3 (qr [qf 22 5 2, ql 23 22, qf 24 5 3, ql 25 24, qc 26 142 [23, 25], qo 27 (.un .not (.t 26))])
(.cond (.t 27)
(qR 4 (.b false))
.skip))
(qR 4 (.b true))))))),
  [(none, 4)], none⟩
theorem k133 : FnOk Tryz.prog ioF 139 h133.f := ⟨Tryz.f139, Tryz.func139, by kernel_rfl, by kernel_rfl, by kernel_rfl⟩
/-- laws_eqWaitS -/
def h134 : HFn := ⟨27, [], 2,
  (q3 (qr [qk 4 (.b false)])
(q3 (q3 (qr [qm 6 0, ql' 7 0 6, qm 8 1, ql' 9 0 8, qb 10 .neq 7 9])
(.cond (.t 10)
(qR 4 (.b false))
.skip))
(q3 (q3 (qr [qk 5 z64])
(.block 0 (.loop [0, 1, 5] [(0, .inv), (1, .inv), (5, li)] [(.exit 0, []), (.ret, [(4, .leaf (.bk false))])]
(q3 (q3 (qr [qm 11 5, qm 12 0, ql' 13 0 12, qb 14 .lss 11 13])
(.cond (.t 14)
.skip
(.exit 0)))
(q3 (.block 1 (q3 (.rgd [qd (qm 17 0) [0, 17] [17], qd (qm 18 5) [5, 18] [18], qd (qi 19 6 17 18) [17, 0, 18, 5, 19] [19], qd (qL 20 6 19) [19, 17, 0, 20] [20], qd (qm 21 1) [1, 21] [21], qd (qm 22 5) [5, 22] [22], qd (qi 23 6 21 22) [21, 1, 22, 5, 23] [23], qd (qL 24 6 23) [23, 21, 1, 24] [24], qd (qc 25 139 [20, 24]) [20, 19, 17, 0, 24, 23, 21, 1, 25] [25], qd (qo 26 (.un .not (.t 25))) [25, 26] [26]])
(.cond (.t 26)
(qR 4 (.b false))
.skip)))
(qr [qm 15 5, qB 16 .add 15 .i64 1, qa 5 16]))))))
(qR 4 (.b true))))),
  [(none, 4)], none⟩
theorem k134 : FnOk Tryz.prog ioF 126 h134.f := ⟨Tryz.f126, Tryz.func126, by kernel_rfl, by kernel_rfl, by kernel_rfl⟩
/-- laws_eqLine -/
def h135 : HFn := ⟨46, [], 2,
  (q3 (qr [qx 2 0, qx 3 1, qk 4 (.b false)])
(q3 (q3 (qr [qf 5 0 2, ql 6 5, qf 7 0 3, ql 8 7, qb 9 .neq 6 8])
(.cond (.t 9)
(qR 4 (.b false))
.skip))
(q3 (q3 (qr [qf 10 1 2, qL 11 2 10, qf 12 1 3, qL 13 2 12, qc 14 87 [11, 13], qo 15 (.un .not (.t 14))])
(.cond (.t 15)
(qR 4 (.b false))
.skip))
(q3 (q3 (qr [qf 16 3 2, ql 17 16, qf 18 3 3, ql 19 18, qc 20 88 [17, 19], qo 21 (.un .not (.t 20))])
(.cond (.t 21)
(qR 4 (.b false))
.skip))
(q3 (q3 (qr [qf 22 4 2, qL 23 12 22, qf 24 4 3, qL 25 12 24, qc 26 85 [23, 25], qo 27 (.un .not (.t 26))])
(.cond (.t 27)
(qR 4 (.b false))
.skip))
(q3 (q3 (qr [qf 28 16 2, ql 29 28, qf 30 16 3, ql 31 30, qc 32 124 [29, 31], qo 33 (.un .not (.t 32))])
(.cond (.t 33)
(qR 4 (.b false))
.skip))
(q3 (q3 (qr [qf 34 17 2, ql 35 34, qf 36 17 3, ql 37 36, qc 38 125 [35, 37], qo 39 (.un .not (.t 38))])
(.cond (.t 39)
(qR 4 (.b false))
.skip))
(q3 (q3 (qr [qf 40 18 2, ql 41 40, qf 42 18 3, ql 43 42, qc 44 126 [41, 43], qo 45 (.un .not (.t 44))])
(.cond (.t 45)
(qR 4 (.b false))
.skip))
(qR 4 (.b true)))))))))),
  [(none, 4)], none⟩
theorem k135 : FnOk Tryz.prog ioF 93 h135.f := ⟨Tryz.f93, Tryz.func93, by kernel_rfl, by kernel_rfl, by kernel_rfl⟩
/-- laws_eqLead -/
def h136 : HFn := ⟨75, [], 2,
  (q3 (qr [qx 2 0, qx 3 1, qk 4 (.b false)])
(q3 (q3 (qr [qf 5 0 2, qL 6 2 5, qf 7 0 3, qL 8 2 7, qc 9 86 [6, 8], qo 10 (.un .not (.t 9))])
(.cond (.t 10)
(qR 4 (.b false))
.skip))
(q3 (q3 (qr [qf 11 2 2, ql 12 11, qf 13 2 3, ql 14 13, qb 15 .neq 12 14])
(.cond (.t 15)
(qR 4 (.b false))
.skip))
(q3 (q3 (qr [qf 16 3 2, ql 17 16, qf 18 3 3, ql 19 18, qb 20 .neq 17 19])
(.cond (.t 20)
(qR 4 (.b false))
.skip))
(q3 (q3 (qr [qf 21 4 2, qL 22 2 21, qf 23 4 3, qL 24 2 23, qc 25 87 [22, 24], qo 26 (.un .not (.t 25))])
(.cond (.t 26)
(qR 4 (.b false))
.skip))
(q3 (q3 (qr [qf 27 6 2, ql 28 27, qf 29 6 3, ql 30 29, qc 31 88 [28, 30], qo 32 (.un .not (.t 31))])
(.cond (.t 32)
(qR 4 (.b false))
.skip))
(q3 (q3 (qr [qf 33 7 2, ql 34 33, qf 35 7 3, ql 36 35, qc 37 89 [34, 36], qo 38 (.un .not (.t 37))])
(.cond (.t 38)
(qR 4 (.b false))
.skip))
(q3 (q3 (qr [qf 39 8 2, ql 40 39, qf 41 8 3, ql 42 41, qc 43 90 [40, 42], qo 44 (.un .not (.t 43))])
(.cond (.t 44)
(qR 4 (.b false))
.skip))
(q3 (q3 (qr [qf 45 9 2, qL 46 12 45, qf 47 9 3, qL 48 12 47, qc 49 85 [46, 48], qo 50 (.un .not (.t 49))])
(.cond (.t 50)
(qR 4 (.b false))
.skip))
(q3 (q3 (qr [qf 51 21 2, ql 52 51, qf 53 21 3, ql 54 53, qc 55 91 [52, 54], qo 56 (.un .not (.t 55))])
(.cond (.t 56)
(qR 4 (.b false))
.skip))
(q3 (q3 (qr [qf 57 22 2, ql 58 57, qf 59 22 3, ql 60 59, qc 61 92 [58, 60], qo 62 (.un .not (.t 61))])
(.cond (.t 62)
(qR 4 (.b false))
.skip))
(q3 (q3 (qr [qf 63 23 2, ql 64 63, qf 65 23 3, ql 66 65, qc 67 88 [64, 66], qo 68 (.un .not (.t 67))])
(.cond (.t 68)
(qR 4 (.b false))
.skip))
(q3 (q3 (qr [qf 69 24 2, qL 70 19 69, qf 71 24 3, qL 72 19 71, qc 73 93 [70, 72], qo 74 (.un .not (.t 73))])
(.cond (.t 74)
(qR 4 (.b false))
.skip))
(qR 4 (.b true))))))))))))))),
  [(none, 4)], none⟩
theorem k136 : FnOk Tryz.prog ioF 49 h136.f := ⟨Tryz.f49, Tryz.func49, by kernel_rfl, by kernel_rfl, by kernel_rfl⟩
/-- laws_eqLeadS -/
def h137 : HFn := ⟨27, [], 2,
  (q3 (qr [qk 4 (.b false)])
(q3 (q3 (qr [qm 6 0, ql' 7 0 6, qm 8 1, ql' 9 0 8, qb 10 .neq 7 9])
(.cond (.t 10)
(qR 4 (.b false))
.skip))
(q3 (q3 (qr [qk 5 z64])
(.block 0 (.loop [0, 1, 5] [(0, .inv), (1, .inv), (5, li)] [(.exit 0, []), (.ret, [(4, .leaf (.bk false))])]
(q3 (q3 (qr [qm 11 5, qm 12 0, ql' 13 0 12, qb 14 .lss 11 13])
(.cond (.t 14)
.skip
(.exit 0)))
(q3 (.block 1 (q3 (.rgd [qd (qm 17 0) [0, 17] [17], qd (qm 18 5) [5, 18] [18], qd (qi 19 43 17 18) [17, 0, 18, 5, 19] [19], qd (qL 20 43 19) [19, 17, 0, 20] [20], qd (qm 21 1) [1, 21] [21], qd (qm 22 5) [5, 22] [22], qd (qi 23 43 21 22) [21, 1, 22, 5, 23] [23], qd (qL 24 43 23) [23, 21, 1, 24] [24], qd (qc 25 49 [20, 24]) [20, 19, 17, 0, 24, 23, 21, 1, 25] [25], qd (qo 26 (.un .not (.t 25))) [25, 26] [26]])
(.cond (.t 26)
(qR 4 (.b false))
.skip)))
(qr [qm 15 5, qB 16 .add 15 .i64 1, qa 5 16]))))))
(qR 4 (.b true))))),
  [(none, 4)], none⟩
theorem k137 : FnOk Tryz.prog ioF 24 h137.f := ⟨Tryz.f24, Tryz.func24, by kernel_rfl, by kernel_rfl, by kernel_rfl⟩
/-- laws_eqOp -/
def h138 : HFn := ⟨20, [], 2,
  (q3 (qr [qx 2 0, qx 3 1, qk 4 (.b false)])
(q3 (q3 (qr [qf 5 0 2, ql 6 5, qf 7 0 3, ql 8 7, qb 9 .neq 6 8])
(.cond (.t 9)
(qR 4 (.b false))
.skip))
(q3 (q3 (qr [qf 10 1 2, ql 11 10, qf 12 1 3, ql 13 12, qb 14 .neq 11 13])
(.cond (.t 14)
(qR 4 (.b false))
.skip))
(q3 (q3 (qr [qf 15 2 2, ql 16 15, qf 17 2 3, ql 18 17, qb 19 .neq 16 18])
(.cond (.t 19)
(qR 4 (.b false))
.skip))
(qR 4 (.b true)))))),
  [(none, 4)], none⟩
theorem k138 : FnOk Tryz.prog ioF 97 h138.f := ⟨Tryz.f97, Tryz.func97, by kernel_rfl, by kernel_rfl, by kernel_rfl⟩
/-- laws_eqMsg -/
def h139 : HFn := ⟨88, [], 2,
  (q3 (qr [qx 2 0, qx 3 1, qk 4 (.b false)])
(q3 (q3 (qr [qf 5 0 2, ql 6 5, qf 7 0 3, ql 8 7, qb 9 .neq 6 8])
(.cond (.t 9)
(qR 4 (.b false))
.skip))
(q3 (q3 (qr [qf 10 1 2, ql 11 10, qf 12 1 3, ql 13 12, qb 14 .neq 11 13])
(.cond (.t 14)
(qR 4 (.b false))
.skip))
(q3 (q3 (qr [qf 15 2 2, ql 16 15, qf 17 2 3, ql 18 17, qb 19 .neq 16 18])
(.cond (.t 19)
(qR 4 (.b false))
.skip))
(q3 (q3 (qr [qf 20 3 2, qL 21 2 20, qf 22 3 3, qL 23 2 22, qc 24 86 [21, 23], qo 25 (.un .not (.t 24))])
(.cond (.t 25)
(qR 4 (.b false))
.skip))
(q3 (q3 (qr [qf 26 5 2, ql 27 26, qf 28 5 3, ql 29 28, qb 30 .neq 27 29])
(.cond (.t 30)
(qR 4 (.b false))
.skip))
(q3 (q3 (qr [qf 31 6 2, ql 32 31, qf 33 6 3, ql 34 33, qb 35 .neq 32 34])
(.cond (.t 35)
(qR 4 (.b false))
.skip))
(q3 (q3 (qr [qf 36 7 2, qL 37 2 36, qf 38 7 3, qL 39 2 38, qc 40 94 [37, 39], qo 41 (.un .not (.t 40))])
(.cond (.t 41)
(qR 4 (.b false))
.skip))
(q3 (q3 (qr [qf 42 9 2, qL 43 2 42, qf 44 9 3, qL 45 2 44, qc 46 94 [43, 45], qo 47 (.un .not (.t 46))])
(.cond (.t 47)
(qR 4 (.b false))
.skip))
(q3 (q3 (qr [qf 48 11 2, qL 49 12 48, qf 50 11 3, qL 51 12 50, qc 52 85 [49, 51], qo 53 (.un .not (.t 52))])
(.cond (.t 53)
(qR 4 (.b false))
.skip))
(q3 (q3 (qr [qf 54 23 2, qL 55 10 54, qf 56 23 3, qL 57 10 56, qc 58 95 [55, 57], qo 59 (.un .not (.t 58))])
(.cond (.t 59)
(qR 4 (.b false))
.skip))
(q3 (q3 (qr [qf 60 33 2, qL 61 6 60, qf 62 33 3, qL 63 6 62, qc 64 96 [61, 63], qo 65 (.un .not (.t 64))])
(.cond (.t 65)
(qR 4 (.b false))
.skip))
(q3 (q3 (qr [qf 66 39 2, qL 67 3 66, qf 68 39 3, qL 69 3 68, qc 70 97 [67, 69], qo 71 (.un .not (.t 70))])
(.cond (.t 71)
(qR 4 (.b false))
.skip))
(q3 (q3 (qr [qf 72 42 2, qL 73 2 72, qf 74 42 3, qL 75 2 74, qc 76 98 [73, 75], qo 77 (.un .not (.t 76))])
(.cond (.t 77)
(qR 4 (.b false))
.skip))
(q3 (q3 (qr [qf 78 44 2, ql 79 78, qf 80 44 3, ql 81 80, qb 82 .neq 79 81])
(.cond (.t 82)
(qR 4 (.b false))
.skip))
(q3 (q3 (qr [qf 83 45 2, ql 84 83, qf 85 45 3, ql 86 85, qb 87 .neq 84 86])
(.cond (.t 87)
(qR 4 (.b false))
.skip))
(qR 4 (.b true)))))))))))))))))),
  [(none, 4)], none⟩
theorem k139 : FnOk Tryz.prog ioF 50 h139.f := ⟨Tryz.f50, Tryz.func50, by kernel_rfl, by kernel_rfl, by kernel_rfl⟩
/-- laws_eqMsgS -/
def h140 : HFn := ⟨27, [], 2,
  (q3 (qr [qk 4 (.b false)])
(q3 (q3 (qr [qm 6 0, ql' 7 0 6, qm 8 1, ql' 9 0 8, qb 10 .neq 7 9])
(.cond (.t 10)
(qR 4 (.b false))
.skip))
(q3 (q3 (qr [qk 5 z64])
(.block 0 (.loop [0, 1, 5] [(0, .inv), (1, .inv), (5, li)] [(.exit 0, []), (.ret, [(4, .leaf (.bk false))])]
(q3 (q3 (qr [qm 11 5, qm 12 0, ql' 13 0 12, qb 14 .lss 11 13])
(.cond (.t 14)
.skip
(.exit 0)))
(q3 (.block 1 (q3 (.rgd [qd (qm 17 0) [0, 17] [17], qd (qm 18 5) [5, 18] [18], qd (qi 19 46 17 18) [17, 0, 18, 5, 19] [19], qd (qL 20 46 19) [19, 17, 0, 20] [20], qd (qm 21 1) [1, 21] [21], qd (qm 22 5) [5, 22] [22], qd (qi 23 46 21 22) [21, 1, 22, 5, 23] [23], qd (qL 24 46 23) [23, 21, 1, 24] [24], qd (qc 25 50 [20, 24]) [20, 19, 17, 0, 24, 23, 21, 1, 25] [25], qd (qo 26 (.un .not (.t 25))) [25, 26] [26]])
(.cond (.t 26)
(qR 4 (.b false))
.skip)))
(qr [qm 15 5, qB 16 .add 15 .i64 1, qa 5 16]))))))
(qR 4 (.b true))))),
  [(none, 4)], none⟩
theorem k140 : FnOk Tryz.prog ioF 25 h140.f := ⟨Tryz.f25, Tryz.func25, by kernel_rfl, by kernel_rfl, by kernel_rfl⟩
/-- laws_eqServer -/
def h141 : HFn := ⟨38, [], 2,
  (q3 (qr [qx 2 0, qx 3 1, qk 4 (.b false)])
(q3 (q3 (qr [qf 5 0 2, ql 6 5, qf 7 0 3, ql 8 7, qb 9 .neq 6 8])
(.cond (.t 9)
(qR 4 (.b false))
.skip))
(q3 (q3 (qr [qf 10 1 2, ql 11 10, qf 12 1 3, ql 13 12, qb 14 .neq 11 13])
(.cond (.t 14)
(qR 4 (.b false))
.skip))
(q3 (q3 (qr [qf 15 2 2, ql 16 15, qf 17 2 3, ql 18 17, qq 19 true 16 18])
(.cond (.t 19)
(qR 4 (.b false))
.skip))
(q3 (q3 (qr [qf 20 3 2, qL 21 2 20, qf 22 3 3, qL 23 2 22, qc 24 23 [21, 23], qo 25 (.un .not (.t 24))])
(.cond (.t 25)
(qR 4 (.b false))
.skip))
(q3 (q3 (qr [qf 26 5 2, ql 27 26, qf 28 5 3, ql 29 28, qc 30 24 [27, 29], qo 31 (.un .not (.t 30))])
(.cond (.t 31)
(qR 4 (.b false))
.skip))
(q3 (q3 (qr [qf 32 6 2, ql 33 32, qf 34 6 3, ql 35 34, qc 36 25 [33, 35], qo 37 (.un .not (.t 36))])
(.cond (.t 37)
(qR 4 (.b false))
.skip))
(qR 4 (.b true))))))))),
  [(none, 4)], none⟩
theorem k141 : FnOk Tryz.prog ioF 8 h141.f := ⟨Tryz.f8, Tryz.func8, by kernel_rfl, by kernel_rfl, by kernel_rfl⟩
/-- laws_FnExactSameServer -/
def h142 : HFn := ⟨45, [], 2,
  (q3 (qr [qx 2 0, qx 3 1, qk 4 (.b false)])
(q3 (qr [qk 5 (.i .i64 1048576)])
(q3 (qr [qL 10 7 2, qm 11 5, qc 12 4 [10, 11], qa 5 12])
(q3 (q3 (qr [qm 13 5, qB 14 .lss 13 .i64 0])
(.cond (.t 14)
(qR 4 (.b true))
.skip))
(q3 (qr [qL 15 7 3, qm 16 5, qc 17 4 [15, 16], qa 5 17])
(q3 (q3 (qr [qm 18 5, qB 19 .lss 18 .i64 0])
(.cond (.t 19)
(qR 4 (.b true))
.skip))
(q3 (.rgd [qd (qL 20 7 2) [2, 20] [20], qd (qc 21 6 [20]) [20, 2, 21] [21], qd (qL 22 7 3) [3, 22] [22], qd (qc 23 6 [22]) [22, 3, 23] [23], qd (qc 24 5 [21, 23]) [21, 23, 24] [24], qd (qa 6 24) [24, 6] [6, 24]])
(q3 (qr [qL 25 7 2, qc 26 6 [25], qz 7 [z64, z64, (.b false), (zl 12), (zl 12), (zl 43), (zl 46)], qs 7 7 26])
(q3 (qr [qL 27 7 3, qc 28 6 [27], qz 8 [z64, z64, (.b false), (zl 12), (zl 12), (zl 43), (zl 46)], qs 7 8 28])
(q3 (qr [qL 29 7 7, qL 30 7 8, qc 31 7 [29, 30], qa 9 31])
(q3 (q3 (qr [qm 32 9, qm 33 6, qq 34 true 32 33])
(.cond (.t 34)
(qR 4 (.b false))
.skip))
(q3 (q3 (.rgd [qd (qL 35 7 7) [7, 35] [35], qd (qL 36 7 2) [2, 36] [36], qd (qc 37 6 [36]) [36, 2, 37] [37], qd (qc 38 8 [35, 37]) [35, 7, 37, 38] [38], qd (qo 39 (.un .not (.t 38))) [38, 39] [39]])
(.cond (.t 39)
(qR 4 (.b false))
.skip))
(q3 (q3 (.rgd [qd (qL 40 7 8) [8, 40] [40], qd (qL 41 7 3) [3, 41] [41], qd (qc 42 6 [41]) [41, 3, 42] [42], qd (qc 43 8 [40, 42]) [40, 8, 42, 43] [43], qd (qo 44 (.un .not (.t 43))) [43, 44] [44]])
(.cond (.t 44)
(qR 4 (.b false))
.skip))
(qR 4 (.b true))))))))))))))),
  [(none, 4)], none⟩
theorem k142 : FnOk Tryz.prog ioF 3 h142.f := ⟨Tryz.f3, Tryz.func3, by kernel_rfl, by kernel_rfl, by kernel_rfl⟩
end Go.Proofs.Vai
