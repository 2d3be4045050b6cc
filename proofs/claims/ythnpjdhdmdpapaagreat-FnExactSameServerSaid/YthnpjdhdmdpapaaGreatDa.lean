import Derived.Test.YthnpjdhdmdpapaaGreatT
set_option linter.unusedVariables false
set_option linter.unusedSimpArgs false
namespace Go.Proofs.Vai
open Go
/-- 0: loop.example/g00849/laws.szHead -/
def laws_szHead (a0 : RHead) (a1 : Int) : Option Int :=
 (let x0 : Int := (IntKind.wrap .i64 (a1 - ((a0.Name).size : Int)))
 (bif (decide (x0 < 0)) then some (-1) else
 some x0))
/-- 1: loop.example/g00849/laws.szHeadS -/
def laws_szHeadS_l0 (a0 : (List RHead)) (s1 : (Int × Int)) : Option ((Int × Int) ⊕ (Int ⊕ (Int × Int))) :=
 (bif (decide (s1.2 < ((a0).length : Int))) then ((ix a0 s1.2).bind fun r2 =>
 ((laws_szHead r2 s1.1).bind fun v3 =>
 (bif (decide (v3 < 0)) then some (Sum.inr (Sum.inr (v3, (-1)))) else
 (let x4 : Int := (IntKind.wrap .i64 (s1.2 + 1))
 some (Sum.inl (v3, x4)))))) else
 some (Sum.inr (Sum.inl s1.1)))
def laws_szHeadS (a0 : (List RHead)) (a1 : Int) : Option Int :=
 (let x0 : Int := (IntKind.wrap .i64 (a1 - ((a0).length : Int)))
 (bif (decide (x0 < 0)) then some (-1) else
 ((iter (laws_szHeadS_l0 a0) LF (x0, 0)).bind fun x7 => match x7 with
 | .inl v5 => some v5
 | .inr (v6) => some v6.2)))
/-- 2: loop.example/g00849/laws.szLastS -/
def laws_szLastS (a0 : (List RLast)) (a1 : Int) : Option Int :=
 (let x0 : Int := (IntKind.wrap .i64 (a1 - ((a0).length : Int)))
 (bif (decide (x0 < 0)) then some (-1) else
 some x0))
/-- 3: loop.example/g00849/laws.szEntry -/
def laws_szEntry (a0 : REntry) (a1 : Int) : Option Int :=
 (let x0 : Int := (IntKind.wrap .i64 (a1 - ((a0.Name).size : Int)))
 (bif (decide (x0 < 0)) then some (-1) else
 some x0))
/-- 4: loop.example/g00849/laws.szEntryS -/
def laws_szEntryS_l0 (a0 : (List REntry)) (s1 : (Int × Int)) : Option ((Int × Int) ⊕ (Int ⊕ (Int × Int))) :=
 (bif (decide (s1.2 < ((a0).length : Int))) then ((ix a0 s1.2).bind fun r2 =>
 ((laws_szEntry r2 s1.1).bind fun v3 =>
 (bif (decide (v3 < 0)) then some (Sum.inr (Sum.inr (v3, (-1)))) else
 (let x4 : Int := (IntKind.wrap .i64 (s1.2 + 1))
 some (Sum.inl (v3, x4)))))) else
 some (Sum.inr (Sum.inl s1.1)))
def laws_szEntryS (a0 : (List REntry)) (a1 : Int) : Option Int :=
 (let x0 : Int := (IntKind.wrap .i64 (a1 - ((a0).length : Int)))
 (bif (decide (x0 < 0)) then some (-1) else
 ((iter (laws_szEntryS_l0 a0) LF (x0, 0)).bind fun x7 => match x7 with
 | .inl v5 => some v5
 | .inr (v6) => some v6.2)))
/-- 5: loop.example/g00849/laws.szChunk -/
def laws_szChunk (a0 : RChunk) (a1 : Int) : Option Int :=
 (let x0 : Int := (IntKind.wrap .i64 (a1 - ((a0.Name).size : Int)))
 (bif (decide (x0 < 0)) then some (-1) else
 (let x1 : Int := (IntKind.wrap .i64 (x0 - ((a0.Bytes).size : Int)))
 (bif (decide (x1 < 0)) then some (-1) else
 some x1))))
/-- 6: loop.example/g00849/laws.szChunkS -/
def laws_szChunkS_l0 (a0 : (List RChunk)) (s1 : (Int × Int)) : Option ((Int × Int) ⊕ (Int ⊕ (Int × Int))) :=
 (bif (decide (s1.2 < ((a0).length : Int))) then ((ix a0 s1.2).bind fun r2 =>
 ((laws_szChunk r2 s1.1).bind fun v3 =>
 (bif (decide (v3 < 0)) then some (Sum.inr (Sum.inr (v3, (-1)))) else
 (let x4 : Int := (IntKind.wrap .i64 (s1.2 + 1))
 some (Sum.inl (v3, x4)))))) else
 some (Sum.inr (Sum.inl s1.1)))
def laws_szChunkS (a0 : (List RChunk)) (a1 : Int) : Option Int :=
 (let x0 : Int := (IntKind.wrap .i64 (a1 - ((a0).length : Int)))
 (bif (decide (x0 < 0)) then some (-1) else
 ((iter (laws_szChunkS_l0 a0) LF (x0, 0)).bind fun x7 => match x7 with
 | .inl v5 => some v5
 | .inr (v6) => some v6.2)))
/-- 7: loop.example/g00849/laws.szPgState -/
def laws_szPgState (a0 : RPgState) (a1 : Int) : Option Int :=
 ((laws_szHeadS a0.Base a1).bind fun v0 =>
 (bif (decide (v0 < 0)) then some (-1) else
 ((laws_szLastS a0.Clients v0).bind fun v1 =>
 (bif (decide (v1 < 0)) then some (-1) else
 ((laws_szEntryS a0.Log v1).bind fun v2 =>
 (bif (decide (v2 < 0)) then some (-1) else
 ((laws_szChunkS a0.Chunks v2).bind fun v3 =>
 (bif (decide (v3 < 0)) then some (-1) else
 some v3))))))))
/-- 8: loop.example/g00849/laws.szPgStateS -/
def laws_szPgStateS_l0 (a0 : (List RPgState)) (s1 : (Int × Int)) : Option ((Int × Int) ⊕ (Int ⊕ (Int × Int))) :=
 (bif (decide (s1.2 < ((a0).length : Int))) then ((ix a0 s1.2).bind fun r2 =>
 ((laws_szPgState r2 s1.1).bind fun v3 =>
 (bif (decide (v3 < 0)) then some (Sum.inr (Sum.inr (v3, (-1)))) else
 (let x4 : Int := (IntKind.wrap .i64 (s1.2 + 1))
 some (Sum.inl (v3, x4)))))) else
 some (Sum.inr (Sum.inl s1.1)))
def laws_szPgStateS (a0 : (List RPgState)) (a1 : Int) : Option Int :=
 (let x0 : Int := (IntKind.wrap .i64 (a1 - ((a0).length : Int)))
 (bif (decide (x0 < 0)) then some (-1) else
 ((iter (laws_szPgStateS_l0 a0) LF (x0, 0)).bind fun x7 => match x7 with
 | .inl v5 => some v5
 | .inr (v6) => some v6.2)))
/-- 9: loop.example/g00849/laws.szStore -/
def laws_szStore (a0 : RStore) (a1 : Int) : Option Int :=
 ((laws_szPgStateS a0.Live a1).bind fun v0 =>
 (bif (decide (v0 < 0)) then some (-1) else
 ((laws_szPgStateS a0.Kept v0).bind fun v1 =>
 (bif (decide (v1 < 0)) then some (-1) else
 some v1))))
/-- 10: loop.example/g00849/laws.szInt64S -/
def laws_szInt64S (a0 : (List Int)) (a1 : Int) : Option Int :=
 (let x0 : Int := (IntKind.wrap .i64 (a1 - ((a0).length : Int)))
 (bif (decide (x0 < 0)) then some (-1) else
 some x0))
/-- 11: loop.example/g00849/laws.szInterval -/
def laws_szInterval (a0 : RInterval) (a1 : Int) : Option Int :=
 ((laws_szInt64S a0.Acting a1).bind fun v0 =>
 (bif (decide (v0 < 0)) then some (-1) else
 some v0))
/-- 12: loop.example/g00849/laws.szIntervalS -/
def laws_szIntervalS_l0 (a0 : (List RInterval)) (s1 : (Int × Int)) : Option ((Int × Int) ⊕ (Int ⊕ (Int × Int))) :=
 (bif (decide (s1.2 < ((a0).length : Int))) then ((ix a0 s1.2).bind fun r2 =>
 ((laws_szInterval r2 s1.1).bind fun v3 =>
 (bif (decide (v3 < 0)) then some (Sum.inr (Sum.inr (v3, (-1)))) else
 (let x4 : Int := (IntKind.wrap .i64 (s1.2 + 1))
 some (Sum.inl (v3, x4)))))) else
 some (Sum.inr (Sum.inl s1.1)))
def laws_szIntervalS (a0 : (List RInterval)) (a1 : Int) : Option Int :=
 (let x0 : Int := (IntKind.wrap .i64 (a1 - ((a0).length : Int)))
 (bif (decide (x0 < 0)) then some (-1) else
 ((iter (laws_szIntervalS_l0 a0) LF (x0, 0)).bind fun x7 => match x7 with
 | .inl v5 => some v5
 | .inr (v6) => some v6.2)))
/-- 13: loop.example/g00849/laws.szNotice -/
def laws_szNotice (a0 : RNotice) (a1 : Int) : Option Int :=
 ((laws_szPgState a0.State a1).bind fun v0 =>
 (bif (decide (v0 < 0)) then some (-1) else
 some v0))
/-- 14: loop.example/g00849/laws.szNoticeS -/
def laws_szNoticeS_l0 (a0 : (List RNotice)) (s1 : (Int × Int)) : Option ((Int × Int) ⊕ (Int ⊕ (Int × Int))) :=
 (bif (decide (s1.2 < ((a0).length : Int))) then ((ix a0 s1.2).bind fun r2 =>
 ((laws_szNotice r2 s1.1).bind fun v3 =>
 (bif (decide (v3 < 0)) then some (Sum.inr (Sum.inr (v3, (-1)))) else
 (let x4 : Int := (IntKind.wrap .i64 (s1.2 + 1))
 some (Sum.inl (v3, x4)))))) else
 some (Sum.inr (Sum.inl s1.1)))
def laws_szNoticeS (a0 : (List RNotice)) (a1 : Int) : Option Int :=
 (let x0 : Int := (IntKind.wrap .i64 (a1 - ((a0).length : Int)))
 (bif (decide (x0 < 0)) then some (-1) else
 ((iter (laws_szNoticeS_l0 a0) LF (x0, 0)).bind fun x7 => match x7 with
 | .inl v5 => some v5
 | .inr (v6) => some v6.2)))
/-- 15: loop.example/g00849/laws.szFill -/
def laws_szFill (a0 : RFill) (a1 : Int) : Option Int :=
 ((laws_szHead a0.Head a1).bind fun v0 =>
 (bif (decide (v0 < 0)) then some (-1) else
 some v0))
/-- 16: loop.example/g00849/laws.szFillS -/
def laws_szFillS_l0 (a0 : (List RFill)) (s1 : (Int × Int)) : Option ((Int × Int) ⊕ (Int ⊕ (Int × Int))) :=
 (bif (decide (s1.2 < ((a0).length : Int))) then ((ix a0 s1.2).bind fun r2 =>
 ((laws_szFill r2 s1.1).bind fun v3 =>
 (bif (decide (v3 < 0)) then some (Sum.inr (Sum.inr (v3, (-1)))) else
 (let x4 : Int := (IntKind.wrap .i64 (s1.2 + 1))
 some (Sum.inl (v3, x4)))))) else
 some (Sum.inr (Sum.inl s1.1)))
def laws_szFillS (a0 : (List RFill)) (a1 : Int) : Option Int :=
 (let x0 : Int := (IntKind.wrap .i64 (a1 - ((a0).length : Int)))
 (bif (decide (x0 < 0)) then some (-1) else
 ((iter (laws_szFillS_l0 a0) LF (x0, 0)).bind fun x7 => match x7 with
 | .inl v5 => some v5
 | .inr (v6) => some v6.2)))
/-- 17: loop.example/g00849/laws.szWay -/
def laws_szWay (a0 : RWay) (a1 : Int) : Option Int :=
 ((laws_szEntry a0.Entry a1).bind fun v0 =>
 (bif (decide (v0 < 0)) then some (-1) else
 (let x1 : Int := (IntKind.wrap .i64 (v0 - ((a0.Body).size : Int)))
 (bif (decide (x1 < 0)) then some (-1) else
 some x1))))
/-- 18: loop.example/g00849/laws.szWayS -/
def laws_szWayS_l0 (a0 : (List RWay)) (s1 : (Int × Int)) : Option ((Int × Int) ⊕ (Int ⊕ (Int × Int))) :=
 (bif (decide (s1.2 < ((a0).length : Int))) then ((ix a0 s1.2).bind fun r2 =>
 ((laws_szWay r2 s1.1).bind fun v3 =>
 (bif (decide (v3 < 0)) then some (Sum.inr (Sum.inr (v3, (-1)))) else
 (let x4 : Int := (IntKind.wrap .i64 (s1.2 + 1))
 some (Sum.inl (v3, x4)))))) else
 some (Sum.inr (Sum.inl s1.1)))
def laws_szWayS (a0 : (List RWay)) (a1 : Int) : Option Int :=
 (let x0 : Int := (IntKind.wrap .i64 (a1 - ((a0).length : Int)))
 (bif (decide (x0 < 0)) then some (-1) else
 ((iter (laws_szWayS_l0 a0) LF (x0, 0)).bind fun x7 => match x7 with
 | .inl v5 => some v5
 | .inr (v6) => some v6.2)))
/-- 19: loop.example/g00849/laws.szAckS -/
def laws_szAckS (a0 : (List RAck)) (a1 : Int) : Option Int :=
 (let x0 : Int := (IntKind.wrap .i64 (a1 - ((a0).length : Int)))
 (bif (decide (x0 < 0)) then some (-1) else
 some x0))
/-- 20: loop.example/g00849/laws.szGot -/
def laws_szGot (a0 : RGot) (a1 : Int) : Option Int :=
 ((laws_szEntry a0.Entry a1).bind fun v0 =>
 (bif (decide (v0 < 0)) then some (-1) else
 ((laws_szChunk a0.Chunk v0).bind fun v1 =>
 (bif (decide (v1 < 0)) then some (-1) else
 some v1))))
/-- 21: loop.example/g00849/laws.szGotS -/
def laws_szGotS_l0 (a0 : (List RGot)) (s1 : (Int × Int)) : Option ((Int × Int) ⊕ (Int ⊕ (Int × Int))) :=
 (bif (decide (s1.2 < ((a0).length : Int))) then ((ix a0 s1.2).bind fun r2 =>
 ((laws_szGot r2 s1.1).bind fun v3 =>
 (bif (decide (v3 < 0)) then some (Sum.inr (Sum.inr (v3, (-1)))) else
 (let x4 : Int := (IntKind.wrap .i64 (s1.2 + 1))
 some (Sum.inl (v3, x4)))))) else
 some (Sum.inr (Sum.inl s1.1)))
def laws_szGotS (a0 : (List RGot)) (a1 : Int) : Option Int :=
 (let x0 : Int := (IntKind.wrap .i64 (a1 - ((a0).length : Int)))
 (bif (decide (x0 < 0)) then some (-1) else
 ((iter (laws_szGotS_l0 a0) LF (x0, 0)).bind fun x7 => match x7 with
 | .inl v5 => some v5
 | .inr (v6) => some v6.2)))
/-- 22: loop.example/g00849/laws.szWait -/
def laws_szWait (a0 : RWait) (a1 : Int) : Option Int :=
 (let x0 : Int := (IntKind.wrap .i64 (a1 - ((a0.Name).size : Int)))
 (bif (decide (x0 < 0)) then some (-1) else
 ((laws_szGotS a0.Got x0).bind fun v1 =>
 (bif (decide (v1 < 0)) then some (-1) else
 some v1))))
/-- 23: loop.example/g00849/laws.szWaitS -/
def laws_szWaitS_l0 (a0 : (List RWait)) (s1 : (Int × Int)) : Option ((Int × Int) ⊕ (Int ⊕ (Int × Int))) :=
 (bif (decide (s1.2 < ((a0).length : Int))) then ((ix a0 s1.2).bind fun r2 =>
 ((laws_szWait r2 s1.1).bind fun v3 =>
 (bif (decide (v3 < 0)) then some (Sum.inr (Sum.inr (v3, (-1)))) else
 (let x4 : Int := (IntKind.wrap .i64 (s1.2 + 1))
 some (Sum.inl (v3, x4)))))) else
 some (Sum.inr (Sum.inl s1.1)))
def laws_szWaitS (a0 : (List RWait)) (a1 : Int) : Option Int :=
 (let x0 : Int := (IntKind.wrap .i64 (a1 - ((a0).length : Int)))
 (bif (decide (x0 < 0)) then some (-1) else
 ((iter (laws_szWaitS_l0 a0) LF (x0, 0)).bind fun x7 => match x7 with
 | .inl v5 => some v5
 | .inr (v6) => some v6.2)))
/-- 24: loop.example/g00849/laws.szLine -/
def laws_szLine (a0 : RLine) (a1 : Int) : Option Int :=
 ((laws_szInt64S a0.Acting a1).bind fun v0 =>
 (bif (decide (v0 < 0)) then some (-1) else
 ((laws_szPgState a0.State v0).bind fun v1 =>
 (bif (decide (v1 < 0)) then some (-1) else
 ((laws_szWayS a0.Way v1).bind fun v2 =>
 (bif (decide (v2 < 0)) then some (-1) else
 ((laws_szAckS a0.Acks v2).bind fun v3 =>
 (bif (decide (v3 < 0)) then some (-1) else
 ((laws_szWaitS a0.Waits v3).bind fun v4 =>
 (bif (decide (v4 < 0)) then some (-1) else
 some v4))))))))))
/-- 25: loop.example/g00849/laws.szLead -/
def laws_szLead (a0 : RLead) (a1 : Int) : Option Int :=
 ((laws_szInt64S a0.Acting a1).bind fun v0 =>
 (bif (decide (v0 < 0)) then some (-1) else
 ((laws_szIntervalS a0.Ivs v0).bind fun v1 =>
 (bif (decide (v1 < 0)) then some (-1) else
 ((laws_szNoticeS a0.Heard v1).bind fun v2 =>
 (bif (decide (v2 < 0)) then some (-1) else
 ((laws_szPgState a0.Pick v2).bind fun v3 =>
 (bif (decide (v3 < 0)) then some (-1) else
 ((laws_szFillS a0.Fills v3).bind fun v4 =>
 (bif (decide (v4 < 0)) then some (-1) else
 ((laws_szChunkS a0.Have v4).bind fun v5 =>
 (bif (decide (v5 < 0)) then some (-1) else
 ((laws_szInt64S a0.Ready v5).bind fun v6 =>
 (bif (decide (v6 < 0)) then some (-1) else
 ((laws_szLine a0.Line v6).bind fun v7 =>
 (bif (decide (v7 < 0)) then some (-1) else
 some v7))))))))))))))))
/-- 26: loop.example/g00849/laws.szLeadS -/
def laws_szLeadS_l0 (a0 : (List RLead)) (s1 : (Int × Int)) : Option ((Int × Int) ⊕ (Int ⊕ (Int × Int))) :=
 (bif (decide (s1.2 < ((a0).length : Int))) then ((ix a0 s1.2).bind fun r2 =>
 ((laws_szLead r2 s1.1).bind fun v3 =>
 (bif (decide (v3 < 0)) then some (Sum.inr (Sum.inr (v3, (-1)))) else
 (let x4 : Int := (IntKind.wrap .i64 (s1.2 + 1))
 some (Sum.inl (v3, x4)))))) else
 some (Sum.inr (Sum.inl s1.1)))
def laws_szLeadS (a0 : (List RLead)) (a1 : Int) : Option Int :=
 (let x0 : Int := (IntKind.wrap .i64 (a1 - ((a0).length : Int)))
 (bif (decide (x0 < 0)) then some (-1) else
 ((iter (laws_szLeadS_l0 a0) LF (x0, 0)).bind fun x7 => match x7 with
 | .inl v5 => some v5
 | .inr (v6) => some v6.2)))
/-- 27: loop.example/g00849/laws.szOp -/
def laws_szOp (a0 : ROp) (a1 : Int) : Option Int :=
 (let x0 : Int := (IntKind.wrap .i64 (a1 - ((a0.Bytes).size : Int)))
 (bif (decide (x0 < 0)) then some (-1) else
 some x0))
/-- 28: loop.example/g00849/laws.szMsg -/
def laws_szMsg (a0 : RMsg) (a1 : Int) : Option Int :=
 (let x0 : Int := (IntKind.wrap .i64 (a1 - ((a0.Name).size : Int)))
 (bif (decide (x0 < 0)) then some (-1) else
 ((laws_szPgState a0.State x0).bind fun v1 =>
 (bif (decide (v1 < 0)) then some (-1) else
 ((laws_szEntry a0.Entry v1).bind fun v2 =>
 (bif (decide (v2 < 0)) then some (-1) else
 ((laws_szChunk a0.Chunk v2).bind fun v3 =>
 (bif (decide (v3 < 0)) then some (-1) else
 ((laws_szOp a0.Op v3).bind fun v4 =>
 (bif (decide (v4 < 0)) then some (-1) else
 (let x5 : Int := (IntKind.wrap .i64 (v4 - ((a0.Body).size : Int)))
 (bif (decide (x5 < 0)) then some (-1) else
 some x5))))))))))))
/-- 29: loop.example/g00849/laws.szMsgS -/
def laws_szMsgS_l0 (a0 : (List RMsg)) (s1 : (Int × Int)) : Option ((Int × Int) ⊕ (Int ⊕ (Int × Int))) :=
 (bif (decide (s1.2 < ((a0).length : Int))) then ((ix a0 s1.2).bind fun r2 =>
 ((laws_szMsg r2 s1.1).bind fun v3 =>
 (bif (decide (v3 < 0)) then some (Sum.inr (Sum.inr (v3, (-1)))) else
 (let x4 : Int := (IntKind.wrap .i64 (s1.2 + 1))
 some (Sum.inl (v3, x4)))))) else
 some (Sum.inr (Sum.inl s1.1)))
def laws_szMsgS (a0 : (List RMsg)) (a1 : Int) : Option Int :=
 (let x0 : Int := (IntKind.wrap .i64 (a1 - ((a0).length : Int)))
 (bif (decide (x0 < 0)) then some (-1) else
 ((iter (laws_szMsgS_l0 a0) LF (x0, 0)).bind fun x7 => match x7 with
 | .inl v5 => some v5
 | .inr (v6) => some v6.2)))
/-- 30: loop.example/g00849/laws.szServer -/
def laws_szServer (a0 : RServer) (a1 : Int) : Option Int :=
 ((laws_szStore a0.Store a1).bind fun v0 =>
 (bif (decide (v0 < 0)) then some (-1) else
 ((laws_szLeadS a0.Leads v0).bind fun v1 =>
 (bif (decide (v1 < 0)) then some (-1) else
 ((laws_szMsgS a0.Out v1).bind fun v2 =>
 (bif (decide (v2 < 0)) then some (-1) else
 some v2))))))
/-- 31: loop.example/g00849/laws.toPg -/
def laws_toPg (a0 : RPg) : Option RPg :=
 some a0
/-- 32: loop.example/g00849/laws.toVer -/
def laws_toVer (a0 : RVer) : Option RVer :=
 some a0
/-- 33: loop.example/g00849/laws.toHead -/
def laws_toHead (a0 : RHead) : Option RHead :=
 ((laws_toVer a0.Ver).bind fun v0 =>
 some { a0 with Ver := v0 })
/-- 34: loop.example/g00849/laws.toHeadS -/
def laws_toHeadS_l0 (a0 : (List RHead)) (s0 : ((List RHead) × Int)) : Option (((List RHead) × Int) ⊕ (List RHead)) :=
 (bif (decide (s0.2 < ((a0).length : Int))) then ((ix a0 s0.2).bind fun r1 =>
 ((laws_toHead r1).bind fun v2 =>
 ((ix s0.1 s0.2).bind fun r3 =>
 ((ix s0.1 s0.2).bind fun r4 =>
 (let x5 : (List RHead) := (List.set s0.1 (Int.toNat s0.2) v2)
 (let x6 : Int := (IntKind.wrap .i64 (s0.2 + 1))
 some (Sum.inl (x5, x6)))))))) else
 some (Sum.inr s0.1))
def laws_toHeadS (a0 : (List RHead)) : Option (List RHead) :=
 (bif (decide (0 ≤ ((a0).length : Int))) then (bif (decide (((a0).length : Int) ≤ 4294967296)) then ((iter (laws_toHeadS_l0 a0) LF ((List.replicate (Int.toNat ((a0).length : Int)) (⟨⟨#[]⟩, (⟨0, 0⟩ : RVer), 0, 0⟩ : RHead)), 0)).bind fun v7 =>
 some v7) else
 none) else
 none)
/-- 35: loop.example/g00849/laws.toLast -/
def laws_toLast (a0 : RLast) : Option RLast :=
 ((laws_toVer a0.Ver).bind fun v0 =>
 some { a0 with Ver := v0 })
/-- 36: loop.example/g00849/laws.toLastS -/
def laws_toLastS_l0 (a0 : (List RLast)) (s0 : ((List RLast) × Int)) : Option (((List RLast) × Int) ⊕ (List RLast)) :=
 (bif (decide (s0.2 < ((a0).length : Int))) then ((ix a0 s0.2).bind fun r1 =>
 ((laws_toLast r1).bind fun v2 =>
 ((ix s0.1 s0.2).bind fun r3 =>
 ((ix s0.1 s0.2).bind fun r4 =>
 (let x5 : (List RLast) := (List.set s0.1 (Int.toNat s0.2) v2)
 (let x6 : Int := (IntKind.wrap .i64 (s0.2 + 1))
 some (Sum.inl (x5, x6)))))))) else
 some (Sum.inr s0.1))
def laws_toLastS (a0 : (List RLast)) : Option (List RLast) :=
 (bif (decide (0 ≤ ((a0).length : Int))) then (bif (decide (((a0).length : Int) ≤ 4294967296)) then ((iter (laws_toLastS_l0 a0) LF ((List.replicate (Int.toNat ((a0).length : Int)) (⟨0, 0, (⟨0, 0⟩ : RVer)⟩ : RLast)), 0)).bind fun v7 =>
 some v7) else
 none) else
 none)
/-- 37: loop.example/g00849/laws.toReq -/
def laws_toReq (a0 : RReq) : Option RReq :=
 some a0
/-- 38: loop.example/g00849/laws.toEntry -/
def laws_toEntry (a0 : REntry) : Option REntry :=
 ((laws_toVer a0.Ver).bind fun v0 =>
 ((laws_toVer a0.Prior).bind fun v1 =>
 ((laws_toReq a0.Req).bind fun v2 =>
 some { a0 with Ver := v0, Prior := v1, Req := v2 })))
/-- 39: loop.example/g00849/laws.toEntryS -/
def laws_toEntryS_l0 (a0 : (List REntry)) (s0 : ((List REntry) × Int)) : Option (((List REntry) × Int) ⊕ (List REntry)) :=
 (bif (decide (s0.2 < ((a0).length : Int))) then ((ix a0 s0.2).bind fun r1 =>
 ((laws_toEntry r1).bind fun v2 =>
 ((ix s0.1 s0.2).bind fun r3 =>
 ((ix s0.1 s0.2).bind fun r4 =>
 (let x5 : (List REntry) := (List.set s0.1 (Int.toNat s0.2) v2)
 (let x6 : Int := (IntKind.wrap .i64 (s0.2 + 1))
 some (Sum.inl (x5, x6)))))))) else
 some (Sum.inr s0.1))
def laws_toEntryS (a0 : (List REntry)) : Option (List REntry) :=
 (bif (decide (0 ≤ ((a0).length : Int))) then (bif (decide (((a0).length : Int) ≤ 4294967296)) then ((iter (laws_toEntryS_l0 a0) LF ((List.replicate (Int.toNat ((a0).length : Int)) (⟨(⟨0, 0⟩ : RVer), (⟨0, 0⟩ : RVer), ⟨#[]⟩, false, 0, 0, (⟨0, 0⟩ : RReq)⟩ : REntry)), 0)).bind fun v7 =>
 some v7) else
 none) else
 none)
/-- 40: loop.example/g00849/laws.toChunk -/
def laws_toChunk (a0 : RChunk) : Option RChunk :=
 ((laws_toVer a0.Ver).bind fun v0 =>
 some { a0 with Ver := v0 })
/-- 41: loop.example/g00849/laws.toChunkS -/
def laws_toChunkS_l0 (a0 : (List RChunk)) (s0 : ((List RChunk) × Int)) : Option (((List RChunk) × Int) ⊕ (List RChunk)) :=
 (bif (decide (s0.2 < ((a0).length : Int))) then ((ix a0 s0.2).bind fun r1 =>
 ((laws_toChunk r1).bind fun v2 =>
 ((ix s0.1 s0.2).bind fun r3 =>
 ((ix s0.1 s0.2).bind fun r4 =>
 (let x5 : (List RChunk) := (List.set s0.1 (Int.toNat s0.2) v2)
 (let x6 : Int := (IntKind.wrap .i64 (s0.2 + 1))
 some (Sum.inl (x5, x6)))))))) else
 some (Sum.inr s0.1))
def laws_toChunkS (a0 : (List RChunk)) : Option (List RChunk) :=
 (bif (decide (0 ≤ ((a0).length : Int))) then (bif (decide (((a0).length : Int) ≤ 4294967296)) then ((iter (laws_toChunkS_l0 a0) LF ((List.replicate (Int.toNat ((a0).length : Int)) (⟨⟨#[]⟩, (⟨0, 0⟩ : RVer), 0, 0, ⟨#[]⟩⟩ : RChunk)), 0)).bind fun v7 =>
 some v7) else
 none) else
 none)
/-- 42: loop.example/g00849/laws.toPgState -/
def laws_toPgState (a0 : RPgState) : Option RPgState :=
 ((laws_toPg a0.Pg).bind fun v0 =>
 ((laws_toVer a0.Tail).bind fun v1 =>
 ((laws_toHeadS a0.Base).bind fun v2 =>
 ((laws_toLastS a0.Clients).bind fun v3 =>
 ((laws_toEntryS a0.Log).bind fun v4 =>
 ((laws_toVer a0.Firm).bind fun v5 =>
 ((laws_toChunkS a0.Chunks).bind fun v6 =>
 some (⟨v0, a0.Seen, a0.Started, v1, v2, v3, v4, v5, v6⟩ : RPgState))))))))
/-- 43: loop.example/g00849/laws.toPgStateS -/
def laws_toPgStateS_l0 (a0 : (List RPgState)) (s0 : ((List RPgState) × Int)) : Option (((List RPgState) × Int) ⊕ (List RPgState)) :=
 (bif (decide (s0.2 < ((a0).length : Int))) then ((ix a0 s0.2).bind fun r1 =>
 ((laws_toPgState r1).bind fun v2 =>
 ((ix s0.1 s0.2).bind fun r3 =>
 ((ix s0.1 s0.2).bind fun r4 =>
 (let x5 : (List RPgState) := (List.set s0.1 (Int.toNat s0.2) v2)
 (let x6 : Int := (IntKind.wrap .i64 (s0.2 + 1))
 some (Sum.inl (x5, x6)))))))) else
 some (Sum.inr s0.1))
def laws_toPgStateS (a0 : (List RPgState)) : Option (List RPgState) :=
 (bif (decide (0 ≤ ((a0).length : Int))) then (bif (decide (((a0).length : Int) ≤ 4294967296)) then ((iter (laws_toPgStateS_l0 a0) LF ((List.replicate (Int.toNat ((a0).length : Int)) (⟨(⟨0, 0⟩ : RPg), 0, 0, (⟨0, 0⟩ : RVer), ([] : List RHead), ([] : List RLast), ([] : List REntry), (⟨0, 0⟩ : RVer), ([] : List RChunk)⟩ : RPgState)), 0)).bind fun v7 =>
 some v7) else
 none) else
 none)
/-- 44: loop.example/g00849/laws.toStore -/
def laws_toStore (a0 : RStore) : Option RStore :=
 ((laws_toPgStateS a0.Live).bind fun v0 =>
 ((laws_toPgStateS a0.Kept).bind fun v1 =>
 some (⟨v0, v1⟩ : RStore)))
/-- 45: loop.example/g00849/laws.toCode -/
def laws_toCode (a0 : RCode) : Option RCode :=
 some a0
/-- 46: loop.example/g00849/laws.toInt64S -/
def laws_toInt64S_l0 (s0 : ((List Int) × (List Int) × Int)) : Option (((List Int) × (List Int) × Int) ⊕ (List Int)) :=
 (bif (decide (s0.2.2 < ((s0.1).length : Int))) then ((ix s0.1 s0.2.2).bind fun r1 =>
 ((ix s0.2.1 s0.2.2).bind fun r2 =>
 ((ix s0.2.1 s0.2.2).bind fun r3 =>
 (let x4 : (List Int) := (List.set s0.2.1 (Int.toNat s0.2.2) r1)
 (let x5 : Int := (IntKind.wrap .i64 (s0.2.2 + 1))
 some (Sum.inl (s0.1, x4, x5))))))) else
 some (Sum.inr s0.2.1))
def laws_toInt64S (a0 : (List Int)) : Option (List Int) :=
 (bif (decide (0 ≤ ((a0).length : Int))) then (bif (decide (((a0).length : Int) ≤ 4294967296)) then ((iter laws_toInt64S_l0 LF (a0, (List.replicate (Int.toNat ((a0).length : Int)) 0), 0)).bind fun v6 =>
 some v6) else
 none) else
 none)
/-- 47: loop.example/g00849/laws.toInterval -/
def laws_toInterval (a0 : RInterval) : Option RInterval :=
 ((laws_toInt64S a0.Acting).bind fun v0 =>
 some { a0 with Acting := v0 })
/-- 48: loop.example/g00849/laws.toIntervalS -/
def laws_toIntervalS_l0 (a0 : (List RInterval)) (s0 : ((List RInterval) × Int)) : Option (((List RInterval) × Int) ⊕ (List RInterval)) :=
 (bif (decide (s0.2 < ((a0).length : Int))) then ((ix a0 s0.2).bind fun r1 =>
 ((laws_toInterval r1).bind fun v2 =>
 ((ix s0.1 s0.2).bind fun r3 =>
 ((ix s0.1 s0.2).bind fun r4 =>
 (let x5 : (List RInterval) := (List.set s0.1 (Int.toNat s0.2) v2)
 (let x6 : Int := (IntKind.wrap .i64 (s0.2 + 1))
 some (Sum.inl (x5, x6)))))))) else
 some (Sum.inr s0.1))
def laws_toIntervalS (a0 : (List RInterval)) : Option (List RInterval) :=
 (bif (decide (0 ≤ ((a0).length : Int))) then (bif (decide (((a0).length : Int) ≤ 4294967296)) then ((iter (laws_toIntervalS_l0 a0) LF ((List.replicate (Int.toNat ((a0).length : Int)) (⟨0, 0, ([] : List Int), false⟩ : RInterval)), 0)).bind fun v7 =>
 some v7) else
 none) else
 none)
/-- 49: loop.example/g00849/laws.toNotice -/
def laws_toNotice (a0 : RNotice) : Option RNotice :=
 ((laws_toPgState a0.State).bind fun v0 =>
 some { a0 with State := v0 })
/-- 50: loop.example/g00849/laws.toNoticeS -/
def laws_toNoticeS_l0 (a0 : (List RNotice)) (s0 : ((List RNotice) × Int)) : Option (((List RNotice) × Int) ⊕ (List RNotice)) :=
 (bif (decide (s0.2 < ((a0).length : Int))) then ((ix a0 s0.2).bind fun r1 =>
 ((laws_toNotice r1).bind fun v2 =>
 ((ix s0.1 s0.2).bind fun r3 =>
 ((ix s0.1 s0.2).bind fun r4 =>
 (let x5 : (List RNotice) := (List.set s0.1 (Int.toNat s0.2) v2)
 (let x6 : Int := (IntKind.wrap .i64 (s0.2 + 1))
 some (Sum.inl (x5, x6)))))))) else
 some (Sum.inr s0.1))
def laws_toNoticeS (a0 : (List RNotice)) : Option (List RNotice) :=
 (bif (decide (0 ≤ ((a0).length : Int))) then (bif (decide (((a0).length : Int) ≤ 4294967296)) then ((iter (laws_toNoticeS_l0 a0) LF ((List.replicate (Int.toNat ((a0).length : Int)) (⟨0, (⟨(⟨0, 0⟩ : RPg), 0, 0, (⟨0, 0⟩ : RVer), ([] : List RHead), ([] : List RLast), ([] : List REntry), (⟨0, 0⟩ : RVer), ([] : List RChunk)⟩ : RPgState)⟩ : RNotice)), 0)).bind fun v7 =>
 some v7) else
 none) else
 none)
/-- 51: loop.example/g00849/laws.toFill -/
def laws_toFill (a0 : RFill) : Option RFill :=
 ((laws_toHead a0.Head).bind fun v0 =>
 some { a0 with Head := v0 })
/-- 52: loop.example/g00849/laws.toFillS -/
def laws_toFillS_l0 (a0 : (List RFill)) (s0 : ((List RFill) × Int)) : Option (((List RFill) × Int) ⊕ (List RFill)) :=
 (bif (decide (s0.2 < ((a0).length : Int))) then ((ix a0 s0.2).bind fun r1 =>
 ((laws_toFill r1).bind fun v2 =>
 ((ix s0.1 s0.2).bind fun r3 =>
 ((ix s0.1 s0.2).bind fun r4 =>
 (let x5 : (List RFill) := (List.set s0.1 (Int.toNat s0.2) v2)
 (let x6 : Int := (IntKind.wrap .i64 (s0.2 + 1))
 some (Sum.inl (x5, x6)))))))) else
 some (Sum.inr s0.1))
def laws_toFillS (a0 : (List RFill)) : Option (List RFill) :=
 (bif (decide (0 ≤ ((a0).length : Int))) then (bif (decide (((a0).length : Int) ≤ 4294967296)) then ((iter (laws_toFillS_l0 a0) LF ((List.replicate (Int.toNat ((a0).length : Int)) (⟨0, 0, (⟨⟨#[]⟩, (⟨0, 0⟩ : RVer), 0, 0⟩ : RHead)⟩ : RFill)), 0)).bind fun v7 =>
 some v7) else
 none) else
 none)
/-- 53: loop.example/g00849/laws.toWay -/
def laws_toWay (a0 : RWay) : Option RWay :=
 ((laws_toEntry a0.Entry).bind fun v0 =>
 some { a0 with Entry := v0 })
/-- 54: loop.example/g00849/laws.toWayS -/
def laws_toWayS_l0 (a0 : (List RWay)) (s0 : ((List RWay) × Int)) : Option (((List RWay) × Int) ⊕ (List RWay)) :=
 (bif (decide (s0.2 < ((a0).length : Int))) then ((ix a0 s0.2).bind fun r1 =>
 ((laws_toWay r1).bind fun v2 =>
 ((ix s0.1 s0.2).bind fun r3 =>
 ((ix s0.1 s0.2).bind fun r4 =>
 (let x5 : (List RWay) := (List.set s0.1 (Int.toNat s0.2) v2)
 (let x6 : Int := (IntKind.wrap .i64 (s0.2 + 1))
 some (Sum.inl (x5, x6)))))))) else
 some (Sum.inr s0.1))
def laws_toWayS (a0 : (List RWay)) : Option (List RWay) :=
 (bif (decide (0 ≤ ((a0).length : Int))) then (bif (decide (((a0).length : Int) ≤ 4294967296)) then ((iter (laws_toWayS_l0 a0) LF ((List.replicate (Int.toNat ((a0).length : Int)) (⟨(⟨(⟨0, 0⟩ : RVer), (⟨0, 0⟩ : RVer), ⟨#[]⟩, false, 0, 0, (⟨0, 0⟩ : RReq)⟩ : REntry), ⟨#[]⟩⟩ : RWay)), 0)).bind fun v7 =>
 some v7) else
 none) else
 none)
/-- 55: loop.example/g00849/laws.toAck -/
def laws_toAck (a0 : RAck) : Option RAck :=
 ((laws_toVer a0.Ver).bind fun v0 =>
 some { a0 with Ver := v0 })
/-- 56: loop.example/g00849/laws.toAckS -/
def laws_toAckS_l0 (a0 : (List RAck)) (s0 : ((List RAck) × Int)) : Option (((List RAck) × Int) ⊕ (List RAck)) :=
 (bif (decide (s0.2 < ((a0).length : Int))) then ((ix a0 s0.2).bind fun r1 =>
 ((laws_toAck r1).bind fun v2 =>
 ((ix s0.1 s0.2).bind fun r3 =>
 ((ix s0.1 s0.2).bind fun r4 =>
 (let x5 : (List RAck) := (List.set s0.1 (Int.toNat s0.2) v2)
 (let x6 : Int := (IntKind.wrap .i64 (s0.2 + 1))
 some (Sum.inl (x5, x6)))))))) else
 some (Sum.inr s0.1))
def laws_toAckS (a0 : (List RAck)) : Option (List RAck) :=
 (bif (decide (0 ≤ ((a0).length : Int))) then (bif (decide (((a0).length : Int) ≤ 4294967296)) then ((iter (laws_toAckS_l0 a0) LF ((List.replicate (Int.toNat ((a0).length : Int)) (⟨0, (⟨0, 0⟩ : RVer)⟩ : RAck)), 0)).bind fun v7 =>
 some v7) else
 none) else
 none)
/-- 57: loop.example/g00849/laws.toGot -/
def laws_toGot (a0 : RGot) : Option RGot :=
 ((laws_toEntry a0.Entry).bind fun v0 =>
 ((laws_toChunk a0.Chunk).bind fun v1 =>
 some (⟨a0.Node, v0, v1⟩ : RGot)))
/-- 58: loop.example/g00849/laws.toGotS -/
def laws_toGotS_l0 (a0 : (List RGot)) (s0 : ((List RGot) × Int)) : Option (((List RGot) × Int) ⊕ (List RGot)) :=
 (bif (decide (s0.2 < ((a0).length : Int))) then ((ix a0 s0.2).bind fun r1 =>
 ((laws_toGot r1).bind fun v2 =>
 ((ix s0.1 s0.2).bind fun r3 =>
 ((ix s0.1 s0.2).bind fun r4 =>
 (let x5 : (List RGot) := (List.set s0.1 (Int.toNat s0.2) v2)
 (let x6 : Int := (IntKind.wrap .i64 (s0.2 + 1))
 some (Sum.inl (x5, x6)))))))) else
 some (Sum.inr s0.1))
def laws_toGotS (a0 : (List RGot)) : Option (List RGot) :=
 (bif (decide (0 ≤ ((a0).length : Int))) then (bif (decide (((a0).length : Int) ≤ 4294967296)) then ((iter (laws_toGotS_l0 a0) LF ((List.replicate (Int.toNat ((a0).length : Int)) (⟨0, (⟨(⟨0, 0⟩ : RVer), (⟨0, 0⟩ : RVer), ⟨#[]⟩, false, 0, 0, (⟨0, 0⟩ : RReq)⟩ : REntry), (⟨⟨#[]⟩, (⟨0, 0⟩ : RVer), 0, 0, ⟨#[]⟩⟩ : RChunk)⟩ : RGot)), 0)).bind fun v7 =>
 some v7) else
 none) else
 none)
/-- 59: loop.example/g00849/laws.toWait -/
def laws_toWait (a0 : RWait) : Option RWait :=
 ((laws_toReq a0.Req).bind fun v0 =>
 ((laws_toVer a0.Ver).bind fun v1 =>
 ((laws_toGotS a0.Got).bind fun v2 =>
 some (⟨v0, a0.Name, v1, v2⟩ : RWait))))
/-- 60: loop.example/g00849/laws.toWaitS -/
def laws_toWaitS_l0 (a0 : (List RWait)) (s0 : ((List RWait) × Int)) : Option (((List RWait) × Int) ⊕ (List RWait)) :=
 (bif (decide (s0.2 < ((a0).length : Int))) then ((ix a0 s0.2).bind fun r1 =>
 ((laws_toWait r1).bind fun v2 =>
 ((ix s0.1 s0.2).bind fun r3 =>
 ((ix s0.1 s0.2).bind fun r4 =>
 (let x5 : (List RWait) := (List.set s0.1 (Int.toNat s0.2) v2)
 (let x6 : Int := (IntKind.wrap .i64 (s0.2 + 1))
 some (Sum.inl (x5, x6)))))))) else
 some (Sum.inr s0.1))
def laws_toWaitS (a0 : (List RWait)) : Option (List RWait) :=
 (bif (decide (0 ≤ ((a0).length : Int))) then (bif (decide (((a0).length : Int) ≤ 4294967296)) then ((iter (laws_toWaitS_l0 a0) LF ((List.replicate (Int.toNat ((a0).length : Int)) (⟨(⟨0, 0⟩ : RReq), ⟨#[]⟩, (⟨0, 0⟩ : RVer), ([] : List RGot)⟩ : RWait)), 0)).bind fun v7 =>
 some v7) else
 none) else
 none)
/-- 61: loop.example/g00849/laws.toLine -/
def laws_toLine (a0 : RLine) : Option RLine :=
 ((laws_toCode a0.Code).bind fun v0 =>
 ((laws_toInt64S a0.Acting).bind fun v1 =>
 ((laws_toPgState a0.State).bind fun v2 =>
 ((laws_toWayS a0.Way).bind fun v3 =>
 ((laws_toAckS a0.Acks).bind fun v4 =>
 ((laws_toWaitS a0.Waits).bind fun v5 =>
 some (⟨a0.Epoch, v0, v1, v2, v3, v4, v5⟩ : RLine)))))))
/-- 62: loop.example/g00849/laws.toLead -/
def laws_toLead (a0 : RLead) : Option RLead :=
 ((laws_toPg a0.Pg).bind fun v0 =>
 ((laws_toCode a0.Code).bind fun v1 =>
 ((laws_toInt64S a0.Acting).bind fun v2 =>
 ((laws_toIntervalS a0.Ivs).bind fun v3 =>
 ((laws_toNoticeS a0.Heard).bind fun v4 =>
 ((laws_toPgState a0.Pick).bind fun v5 =>
 ((laws_toFillS a0.Fills).bind fun v6 =>
 ((laws_toChunkS a0.Have).bind fun v7 =>
 ((laws_toInt64S a0.Ready).bind fun v8 =>
 ((laws_toLine a0.Line).bind fun v9 =>
 some (⟨v0, a0.Epoch, a0.Phase, v1, v2, v3, v4, v5, v6, v7, v8, v9⟩ : RLead)))))))))))
/-- 63: loop.example/g00849/laws.toLeadS -/
def laws_toLeadS_l0 (a0 : (List RLead)) (s0 : ((List RLead) × Int)) : Option (((List RLead) × Int) ⊕ (List RLead)) :=
 (bif (decide (s0.2 < ((a0).length : Int))) then ((ix a0 s0.2).bind fun r1 =>
 ((laws_toLead r1).bind fun v2 =>
 ((ix s0.1 s0.2).bind fun r3 =>
 ((ix s0.1 s0.2).bind fun r4 =>
 (let x5 : (List RLead) := (List.set s0.1 (Int.toNat s0.2) v2)
 (let x6 : Int := (IntKind.wrap .i64 (s0.2 + 1))
 some (Sum.inl (x5, x6)))))))) else
 some (Sum.inr s0.1))
def laws_toLeadS (a0 : (List RLead)) : Option (List RLead) :=
 (bif (decide (0 ≤ ((a0).length : Int))) then (bif (decide (((a0).length : Int) ≤ 4294967296)) then ((iter (laws_toLeadS_l0 a0) LF ((List.replicate (Int.toNat ((a0).length : Int)) (⟨(⟨0, 0⟩ : RPg), 0, 0, (⟨0, 0⟩ : RCode), ([] : List Int), ([] : List RInterval), ([] : List RNotice), (⟨(⟨0, 0⟩ : RPg), 0, 0, (⟨0, 0⟩ : RVer), ([] : List RHead), ([] : List RLast), ([] : List REntry), (⟨0, 0⟩ : RVer), ([] : List RChunk)⟩ : RPgState), ([] : List RFill), ([] : List RChunk), ([] : List Int), (⟨0, (⟨0, 0⟩ : RCode), ([] : List Int), (⟨(⟨0, 0⟩ : RPg), 0, 0, (⟨0, 0⟩ : RVer), ([] : List RHead), ([] : List RLast), ([] : List REntry), (⟨0, 0⟩ : RVer), ([] : List RChunk)⟩ : RPgState), ([] : List RWay), ([] : List RAck), ([] : List RWait)⟩ : RLine)⟩ : RLead)), 0)).bind fun v7 =>
 some v7) else
 none) else
 none)
/-- 64: loop.example/g00849/laws.toOp -/
def laws_toOp (a0 : ROp) : Option ROp :=
 some a0
/-- 65: loop.example/g00849/laws.toMsg -/
def laws_toMsg (a0 : RMsg) : Option RMsg :=
 ((laws_toPg a0.Pg).bind fun v0 =>
 ((laws_toVer a0.Ver).bind fun v1 =>
 ((laws_toVer a0.Firm).bind fun v2 =>
 ((laws_toPgState a0.State).bind fun v3 =>
 ((laws_toEntry a0.Entry).bind fun v4 =>
 ((laws_toChunk a0.Chunk).bind fun v5 =>
 ((laws_toOp a0.Op).bind fun v6 =>
 ((laws_toReq a0.Req).bind fun v7 =>
 some (⟨a0.Kind, a0.From, a0.To, v0, a0.Epoch, a0.Name, v1, v2, v3, v4, v5, v6, v7, a0.Code, a0.Body⟩ : RMsg)))))))))
/-- 66: loop.example/g00849/laws.toMsgS -/
def laws_toMsgS_l0 (a0 : (List RMsg)) (s0 : ((List RMsg) × Int)) : Option (((List RMsg) × Int) ⊕ (List RMsg)) :=
 (bif (decide (s0.2 < ((a0).length : Int))) then ((ix a0 s0.2).bind fun r1 =>
 ((laws_toMsg r1).bind fun v2 =>
 ((ix s0.1 s0.2).bind fun r3 =>
 ((ix s0.1 s0.2).bind fun r4 =>
 (let x5 : (List RMsg) := (List.set s0.1 (Int.toNat s0.2) v2)
 (let x6 : Int := (IntKind.wrap .i64 (s0.2 + 1))
 some (Sum.inl (x5, x6)))))))) else
 some (Sum.inr s0.1))
def laws_toMsgS (a0 : (List RMsg)) : Option (List RMsg) :=
 (bif (decide (0 ≤ ((a0).length : Int))) then (bif (decide (((a0).length : Int) ≤ 4294967296)) then ((iter (laws_toMsgS_l0 a0) LF ((List.replicate (Int.toNat ((a0).length : Int)) (⟨0, 0, 0, (⟨0, 0⟩ : RPg), 0, ⟨#[]⟩, (⟨0, 0⟩ : RVer), (⟨0, 0⟩ : RVer), (⟨(⟨0, 0⟩ : RPg), 0, 0, (⟨0, 0⟩ : RVer), ([] : List RHead), ([] : List RLast), ([] : List REntry), (⟨0, 0⟩ : RVer), ([] : List RChunk)⟩ : RPgState), (⟨(⟨0, 0⟩ : RVer), (⟨0, 0⟩ : RVer), ⟨#[]⟩, false, 0, 0, (⟨0, 0⟩ : RReq)⟩ : REntry), (⟨⟨#[]⟩, (⟨0, 0⟩ : RVer), 0, 0, ⟨#[]⟩⟩ : RChunk), (⟨0, 0, ⟨#[]⟩⟩ : ROp), (⟨0, 0⟩ : RReq), 0, ⟨#[]⟩⟩ : RMsg)), 0)).bind fun v7 =>
 some v7) else
 none) else
 none)
/-- 67: loop.example/g00849/laws.toServer -/
def laws_toServer (a0 : RServer) : Option RServer :=
 ((laws_toStore a0.Store).bind fun v0 =>
 ((laws_toLeadS a0.Leads).bind fun v1 =>
 ((laws_toMsgS a0.Out).bind fun v2 =>
 some { a0 with Store := v0, Leads := v1, Out := v2 })))
/-- 68: loop.example/g00849/spec.l25SameState -/
def spec_l25SameState_l0 (a0 : RPgState) (a1 : RPgState) (s1 : Int) : Option (Int ⊕ (Unit ⊕ Unit)) :=
 (bif (decide (s1 < ((a0.Base).length : Int))) then ((ix a0.Base s1).bind fun r2 =>
 ((ix a1.Base s1).bind fun r3 =>
 (bif (!((decide (r2.Name = r3.Name)) && ((decide (r2.Ver.Epoch = r3.Ver.Epoch)) && ((decide (r2.Ver.Seq = r3.Ver.Seq)) && ((decide (r2.Size = r3.Size)) && (decide (r2.Sum = r3.Sum))))))) then some (Sum.inr (Sum.inr ())) else
 (let x4 : Int := (IntKind.wrap .i64 (s1 + 1))
 some (Sum.inl x4))))) else
 some (Sum.inr (Sum.inl ())))
def spec_l25SameState_l1 (a0 : RPgState) (a1 : RPgState) (s6 : Int) : Option (Int ⊕ (Unit ⊕ Unit)) :=
 (bif (decide (s6 < ((a0.Clients).length : Int))) then ((ix a0.Clients s6).bind fun r7 =>
 ((ix a1.Clients s6).bind fun r8 =>
 (bif (!((decide (r7.Client = r8.Client)) && ((decide (r7.No = r8.No)) && ((decide (r7.Ver.Epoch = r8.Ver.Epoch)) && (decide (r7.Ver.Seq = r8.Ver.Seq)))))) then some (Sum.inr (Sum.inr ())) else
 (let x9 : Int := (IntKind.wrap .i64 (s6 + 1))
 some (Sum.inl x9))))) else
 some (Sum.inr (Sum.inl ())))
def spec_l25SameState_l2 (a0 : RPgState) (a1 : RPgState) (s11 : Int) : Option (Int ⊕ (Unit ⊕ Unit)) :=
 (bif (decide (s11 < ((a0.Log).length : Int))) then ((ix a0.Log s11).bind fun r12 =>
 ((ix a1.Log s11).bind fun r13 =>
 (bif (!((decide (r12.Ver.Epoch = r13.Ver.Epoch)) && ((decide (r12.Ver.Seq = r13.Ver.Seq)) && ((decide (r12.Prior.Epoch = r13.Prior.Epoch)) && ((decide (r12.Prior.Seq = r13.Prior.Seq)) && ((decide (r12.Name = r13.Name)) && ((r12.Gone == r13.Gone) && ((decide (r12.Size = r13.Size)) && ((decide (r12.Sum = r13.Sum)) && ((decide (r12.Req.Client = r13.Req.Client)) && (decide (r12.Req.No = r13.Req.No)))))))))))) then some (Sum.inr (Sum.inr ())) else
 (let x14 : Int := (IntKind.wrap .i64 (s11 + 1))
 some (Sum.inl x14))))) else
 some (Sum.inr (Sum.inl ())))
def spec_l25SameState_l3 (a0 : RPgState) (a1 : RPgState) (s16 : Int) : Option (Int ⊕ (Unit ⊕ Unit)) :=
 (bif (decide (s16 < ((a0.Chunks).length : Int))) then ((ix a0.Chunks s16).bind fun r17 =>
 ((ix a1.Chunks s16).bind fun r18 =>
 (bif (!((decide (r17.Name = r18.Name)) && ((decide (r17.Ver.Epoch = r18.Ver.Epoch)) && ((decide (r17.Ver.Seq = r18.Ver.Seq)) && ((decide (r17.Pos = r18.Pos)) && ((decide (r17.Sum = r18.Sum)) && (decide (r17.Bytes = r18.Bytes)))))))) then some (Sum.inr (Sum.inr ())) else
 (let x19 : Int := (IntKind.wrap .i64 (s16 + 1))
 some (Sum.inl x19))))) else
 some (Sum.inr (Sum.inl ())))
def spec_l25SameState (a0 : RPgState) (a1 : RPgState) : Option Bool :=
 ((((bif (!((decide (a0.Pg.Pool = a1.Pg.Pool)) && (decide (a0.Pg.No = a1.Pg.No)))) then some true else
 (bif (decide (a0.Seen ≠ a1.Seen)) then some true else
 (bif (decide (a0.Started ≠ a1.Started)) then some true else
 (bif (!((decide (a0.Tail.Epoch = a1.Tail.Epoch)) && (decide (a0.Tail.Seq = a1.Tail.Seq)))) then some true else
 (bif (!((decide (a0.Firm.Epoch = a1.Firm.Epoch)) && (decide (a0.Firm.Seq = a1.Firm.Seq)))) then some true else
 (bif (decide (((a0.Base).length : Int) ≠ ((a1.Base).length : Int))) then some true else
 (bif (decide (((a0.Clients).length : Int) ≠ ((a1.Clients).length : Int))) then some true else
 (bif (decide (((a0.Log).length : Int) ≠ ((a1.Log).length : Int))) then some true else
 some (decide (((a0.Chunks).length : Int) ≠ ((a1.Chunks).length : Int))))))))))) : Option Bool)).bind fun v0 =>
 (bif v0 then some false else
 ((iter (spec_l25SameState_l0 a0 a1) LF 0).bind fun x28 => match x28 with
 | .inl v5 => ((iter (spec_l25SameState_l1 a0 a1) LF 0).bind fun x26 => match x26 with
 | .inl v10 => ((iter (spec_l25SameState_l2 a0 a1) LF 0).bind fun x24 => match x24 with
 | .inl v15 => ((iter (spec_l25SameState_l3 a0 a1) LF 0).bind fun x22 => match x22 with
 | .inl v20 => some true
 | .inr (v21) => some false)
 | .inr (v23) => some false)
 | .inr (v25) => some false)
 | .inr (v27) => some false)))
/-- 69: loop.example/g00849/spec.l30SameStates -/
def spec_l30SameStates_l0 (a0 : (List RPgState)) (a1 : (List RPgState)) (s0 : Int) : Option (Int ⊕ (Unit ⊕ Unit)) :=
 (bif (decide (s0 < ((a0).length : Int))) then ((ix a0 s0).bind fun r1 =>
 ((ix a1 s0).bind fun r2 =>
 ((spec_l25SameState r1 r2).bind fun v3 =>
 (bif (!v3) then some (Sum.inr (Sum.inr ())) else
 (let x4 : Int := (IntKind.wrap .i64 (s0 + 1))
 some (Sum.inl x4)))))) else
 some (Sum.inr (Sum.inl ())))
def spec_l30SameStates (a0 : (List RPgState)) (a1 : (List RPgState)) : Option Bool :=
 (bif (decide (((a0).length : Int) ≠ ((a1).length : Int))) then some false else
 ((iter (spec_l30SameStates_l0 a0 a1) LF 0).bind fun x7 => match x7 with
 | .inl v5 => some true
 | .inr (v6) => some false))
/-- 70: loop.example/g00849/spec.l00Same -/
def spec_l00Same_l0 (a0 : (List Int)) (a1 : (List Int)) (s0 : Int) : Option (Int ⊕ (Unit ⊕ Unit)) :=
 (bif (decide (s0 < ((a0).length : Int))) then ((ix a0 s0).bind fun r1 =>
 ((ix a1 s0).bind fun r2 =>
 (bif (decide (r1 ≠ r2)) then some (Sum.inr (Sum.inr ())) else
 (let x3 : Int := (IntKind.wrap .i64 (s0 + 1))
 some (Sum.inl x3))))) else
 some (Sum.inr (Sum.inl ())))
def spec_l00Same (a0 : (List Int)) (a1 : (List Int)) : Option Bool :=
 (bif (decide (((a0).length : Int) ≠ ((a1).length : Int))) then some false else
 ((iter (spec_l00Same_l0 a0 a1) LF 0).bind fun x6 => match x6 with
 | .inl v4 => some true
 | .inr (v5) => some false))
/-- 71: loop.example/g00849/spec.l27SameIvs -/
def spec_l27SameIvs_l0 (a0 : (List RInterval)) (a1 : (List RInterval)) (s0 : Int) : Option (Int ⊕ (Unit ⊕ Unit)) :=
 (bif (decide (s0 < ((a0).length : Int))) then (((((ix a0 s0).bind fun r1 =>
 ((ix a1 s0).bind fun r2 =>
 (bif (decide (r1.First ≠ r2.First)) then some true else
 ((ix a0 s0).bind fun r3 =>
 ((ix a1 s0).bind fun r4 =>
 (bif (decide (r3.Last ≠ r4.Last)) then some true else
 ((ix a0 s0).bind fun r5 =>
 ((ix a1 s0).bind fun r6 =>
 (bif (!(r5.May == r6.May)) then some true else
 ((ix a0 s0).bind fun r7 =>
 ((ix a1 s0).bind fun r8 =>
 ((spec_l00Same r7.Acting r8.Acting).bind fun v9 =>
 some (!v9))))))))))))) : Option Bool)).bind fun v10 =>
 (bif v10 then some (Sum.inr (Sum.inr ())) else
 (let x11 : Int := (IntKind.wrap .i64 (s0 + 1))
 some (Sum.inl x11)))) else
 some (Sum.inr (Sum.inl ())))
def spec_l27SameIvs (a0 : (List RInterval)) (a1 : (List RInterval)) : Option Bool :=
 (bif (decide (((a0).length : Int) ≠ ((a1).length : Int))) then some false else
 ((iter (spec_l27SameIvs_l0 a0 a1) LF 0).bind fun x14 => match x14 with
 | .inl v12 => some true
 | .inr (v13) => some false))
/-- 72: loop.example/g00849/spec.l27SameNotices -/
def spec_l27SameNotices_l0 (a0 : (List RNotice)) (a1 : (List RNotice)) (s0 : Int) : Option (Int ⊕ (Unit ⊕ Unit)) :=
 (bif (decide (s0 < ((a0).length : Int))) then (((((ix a0 s0).bind fun r1 =>
 ((ix a1 s0).bind fun r2 =>
 (bif (decide (r1.From ≠ r2.From)) then some true else
 ((ix a0 s0).bind fun r3 =>
 ((ix a1 s0).bind fun r4 =>
 ((spec_l25SameState r3.State r4.State).bind fun v5 =>
 some (!v5))))))) : Option Bool)).bind fun v6 =>
 (bif v6 then some (Sum.inr (Sum.inr ())) else
 (let x7 : Int := (IntKind.wrap .i64 (s0 + 1))
 some (Sum.inl x7)))) else
 some (Sum.inr (Sum.inl ())))
def spec_l27SameNotices (a0 : (List RNotice)) (a1 : (List RNotice)) : Option Bool :=
 (bif (decide (((a0).length : Int) ≠ ((a1).length : Int))) then some false else
 ((iter (spec_l27SameNotices_l0 a0 a1) LF 0).bind fun x10 => match x10 with
 | .inl v8 => some true
 | .inr (v9) => some false))
/-- 73: loop.example/g00849/spec.l25SameWait -/
def spec_l25SameWait_l0 (a0 : RWait) (a1 : RWait) (s1 : Int) : Option (Int ⊕ (Unit ⊕ Unit)) :=
 (bif (decide (s1 < ((a0.Got).length : Int))) then ((ix a0.Got s1).bind fun r2 =>
 ((ix a1.Got s1).bind fun r3 =>
 (bif (!((decide (r2.Node = r3.Node)) && ((decide (r2.Entry.Ver.Epoch = r3.Entry.Ver.Epoch)) && ((decide (r2.Entry.Ver.Seq = r3.Entry.Ver.Seq)) && ((decide (r2.Entry.Prior.Epoch = r3.Entry.Prior.Epoch)) && ((decide (r2.Entry.Prior.Seq = r3.Entry.Prior.Seq)) && ((decide (r2.Entry.Name = r3.Entry.Name)) && ((r2.Entry.Gone == r3.Entry.Gone) && ((decide (r2.Entry.Size = r3.Entry.Size)) && ((decide (r2.Entry.Sum = r3.Entry.Sum)) && ((decide (r2.Entry.Req.Client = r3.Entry.Req.Client)) && ((decide (r2.Entry.Req.No = r3.Entry.Req.No)) && ((decide (r2.Chunk.Name = r3.Chunk.Name)) && ((decide (r2.Chunk.Ver.Epoch = r3.Chunk.Ver.Epoch)) && ((decide (r2.Chunk.Ver.Seq = r3.Chunk.Ver.Seq)) && ((decide (r2.Chunk.Pos = r3.Chunk.Pos)) && ((decide (r2.Chunk.Sum = r3.Chunk.Sum)) && (decide (r2.Chunk.Bytes = r3.Chunk.Bytes))))))))))))))))))) then some (Sum.inr (Sum.inr ())) else
 (let x4 : Int := (IntKind.wrap .i64 (s1 + 1))
 some (Sum.inl x4))))) else
 some (Sum.inr (Sum.inl ())))
def spec_l25SameWait (a0 : RWait) (a1 : RWait) : Option Bool :=
 ((((bif (!((decide (a0.Req.Client = a1.Req.Client)) && (decide (a0.Req.No = a1.Req.No)))) then some true else
 (bif (decide (a0.Name ≠ a1.Name)) then some true else
 (bif (!((decide (a0.Ver.Epoch = a1.Ver.Epoch)) && (decide (a0.Ver.Seq = a1.Ver.Seq)))) then some true else
 some (decide (((a0.Got).length : Int) ≠ ((a1.Got).length : Int)))))) : Option Bool)).bind fun v0 =>
 (bif v0 then some false else
 ((iter (spec_l25SameWait_l0 a0 a1) LF 0).bind fun x7 => match x7 with
 | .inl v5 => some true
 | .inr (v6) => some false)))
/-- 74: loop.example/g00849/spec.SameLine -/
def spec_SameLine_l0 (a0 : RLine) (a1 : RLine) (s3 : Int) : Option (Int ⊕ (Unit ⊕ Unit)) :=
 (bif (decide (s3 < ((a0.Way).length : Int))) then ((ix a0.Way s3).bind fun r4 =>
 ((ix a1.Way s3).bind fun r5 =>
 (bif (!((decide (r4.Entry.Ver.Epoch = r5.Entry.Ver.Epoch)) && ((decide (r4.Entry.Ver.Seq = r5.Entry.Ver.Seq)) && ((decide (r4.Entry.Prior.Epoch = r5.Entry.Prior.Epoch)) && ((decide (r4.Entry.Prior.Seq = r5.Entry.Prior.Seq)) && ((decide (r4.Entry.Name = r5.Entry.Name)) && ((r4.Entry.Gone == r5.Entry.Gone) && ((decide (r4.Entry.Size = r5.Entry.Size)) && ((decide (r4.Entry.Sum = r5.Entry.Sum)) && ((decide (r4.Entry.Req.Client = r5.Entry.Req.Client)) && ((decide (r4.Entry.Req.No = r5.Entry.Req.No)) && (decide (r4.Body = r5.Body))))))))))))) then some (Sum.inr (Sum.inr ())) else
 (let x6 : Int := (IntKind.wrap .i64 (s3 + 1))
 some (Sum.inl x6))))) else
 some (Sum.inr (Sum.inl ())))
def spec_SameLine_l1 (a0 : RLine) (a1 : RLine) (s8 : Int) : Option (Int ⊕ (Unit ⊕ Unit)) :=
 (bif (decide (s8 < ((a0.Acks).length : Int))) then ((ix a0.Acks s8).bind fun r9 =>
 ((ix a1.Acks s8).bind fun r10 =>
 (bif (!((decide (r9.Node = r10.Node)) && ((decide (r9.Ver.Epoch = r10.Ver.Epoch)) && (decide (r9.Ver.Seq = r10.Ver.Seq))))) then some (Sum.inr (Sum.inr ())) else
 (let x11 : Int := (IntKind.wrap .i64 (s8 + 1))
 some (Sum.inl x11))))) else
 some (Sum.inr (Sum.inl ())))
def spec_SameLine_l2 (a0 : RLine) (a1 : RLine) (s13 : Int) : Option (Int ⊕ (Unit ⊕ Unit)) :=
 (bif (decide (s13 < ((a0.Waits).length : Int))) then ((ix a0.Waits s13).bind fun r14 =>
 ((ix a1.Waits s13).bind fun r15 =>
 ((spec_l25SameWait r14 r15).bind fun v16 =>
 (bif (!v16) then some (Sum.inr (Sum.inr ())) else
 (let x17 : Int := (IntKind.wrap .i64 (s13 + 1))
 some (Sum.inl x17)))))) else
 some (Sum.inr (Sum.inl ())))
def spec_SameLine (a0 : RLine) (a1 : RLine) : Option Bool :=
 ((((bif (decide (a0.Epoch ≠ a1.Epoch)) then some true else
 (bif (!((decide (a0.Code.K = a1.Code.K)) && (decide (a0.Code.M = a1.Code.M)))) then some true else
 ((spec_l00Same a0.Acting a1.Acting).bind fun v0 =>
 (bif (!v0) then some true else
 ((spec_l25SameState a0.State a1.State).bind fun v1 =>
 (bif (!v1) then some true else
 (bif (decide (((a0.Way).length : Int) ≠ ((a1.Way).length : Int))) then some true else
 (bif (decide (((a0.Acks).length : Int) ≠ ((a1.Acks).length : Int))) then some true else
 some (decide (((a0.Waits).length : Int) ≠ ((a1.Waits).length : Int))))))))))) : Option Bool)).bind fun v2 =>
 (bif v2 then some false else
 ((iter (spec_SameLine_l0 a0 a1) LF 0).bind fun x24 => match x24 with
 | .inl v7 => ((iter (spec_SameLine_l1 a0 a1) LF 0).bind fun x22 => match x22 with
 | .inl v12 => ((iter (spec_SameLine_l2 a0 a1) LF 0).bind fun x20 => match x20 with
 | .inl v18 => some true
 | .inr (v19) => some false)
 | .inr (v21) => some false)
 | .inr (v23) => some false)))
/-- 75: loop.example/g00849/spec.SameLead -/
def spec_SameLead_l0 (a0 : RLead) (a1 : RLead) (s7 : Int) : Option (Int ⊕ (Unit ⊕ Unit)) :=
 (bif (decide (s7 < ((a0.Fills).length : Int))) then ((ix a0.Fills s7).bind fun r8 =>
 ((ix a1.Fills s7).bind fun r9 =>
 (bif (!((decide (r8.Node = r9.Node)) && ((decide (r8.Pos = r9.Pos)) && ((decide (r8.Head.Name = r9.Head.Name)) && ((decide (r8.Head.Ver.Epoch = r9.Head.Ver.Epoch)) && ((decide (r8.Head.Ver.Seq = r9.Head.Ver.Seq)) && ((decide (r8.Head.Size = r9.Head.Size)) && (decide (r8.Head.Sum = r9.Head.Sum))))))))) then some (Sum.inr (Sum.inr ())) else
 (let x10 : Int := (IntKind.wrap .i64 (s7 + 1))
 some (Sum.inl x10))))) else
 some (Sum.inr (Sum.inl ())))
def spec_SameLead_l1 (a0 : RLead) (a1 : RLead) (s12 : Int) : Option (Int ⊕ (Unit ⊕ Unit)) :=
 (bif (decide (s12 < ((a0.Have).length : Int))) then ((ix a0.Have s12).bind fun r13 =>
 ((ix a1.Have s12).bind fun r14 =>
 (bif (!((decide (r13.Name = r14.Name)) && ((decide (r13.Ver.Epoch = r14.Ver.Epoch)) && ((decide (r13.Ver.Seq = r14.Ver.Seq)) && ((decide (r13.Pos = r14.Pos)) && ((decide (r13.Sum = r14.Sum)) && (decide (r13.Bytes = r14.Bytes)))))))) then some (Sum.inr (Sum.inr ())) else
 (let x15 : Int := (IntKind.wrap .i64 (s12 + 1))
 some (Sum.inl x15))))) else
 some (Sum.inr (Sum.inl ())))
def spec_SameLead (a0 : RLead) (a1 : RLead) : Option Bool :=
 ((((bif (!((decide (a0.Pg.Pool = a1.Pg.Pool)) && (decide (a0.Pg.No = a1.Pg.No)))) then some true else
 (bif (decide (a0.Epoch ≠ a1.Epoch)) then some true else
 (bif (decide (a0.Phase ≠ a1.Phase)) then some true else
 (bif (!((decide (a0.Code.K = a1.Code.K)) && (decide (a0.Code.M = a1.Code.M)))) then some true else
 ((spec_l00Same a0.Acting a1.Acting).bind fun v0 =>
 (bif (!v0) then some true else
 ((spec_l27SameIvs a0.Ivs a1.Ivs).bind fun v1 =>
 (bif (!v1) then some true else
 ((spec_l27SameNotices a0.Heard a1.Heard).bind fun v2 =>
 (bif (!v2) then some true else
 ((spec_l25SameState a0.Pick a1.Pick).bind fun v3 =>
 (bif (!v3) then some true else
 (bif (decide (((a0.Fills).length : Int) ≠ ((a1.Fills).length : Int))) then some true else
 (bif (decide (((a0.Have).length : Int) ≠ ((a1.Have).length : Int))) then some true else
 ((spec_l00Same a0.Ready a1.Ready).bind fun v4 =>
 (bif (!v4) then some true else
 ((spec_SameLine a0.Line a1.Line).bind fun v5 =>
 some (!v5)))))))))))))))))) : Option Bool)).bind fun v6 =>
 (bif v6 then some false else
 ((iter (spec_SameLead_l0 a0 a1) LF 0).bind fun x20 => match x20 with
 | .inl v11 => ((iter (spec_SameLead_l1 a0 a1) LF 0).bind fun x18 => match x18 with
 | .inl v16 => some true
 | .inr (v17) => some false)
 | .inr (v19) => some false)))
/-- 76: loop.example/g00849/spec.l17Same -/
def spec_l17Same_l0 (a0 : RPgState) (a1 : RPgState) (s1 : Int) : Option (Int ⊕ (Unit ⊕ Unit)) :=
 (bif (decide (s1 < ((a0.Base).length : Int))) then ((ix a0.Base s1).bind fun r2 =>
 ((ix a1.Base s1).bind fun r3 =>
 (bif (!((decide (r2.Name = r3.Name)) && ((decide (r2.Ver.Epoch = r3.Ver.Epoch)) && ((decide (r2.Ver.Seq = r3.Ver.Seq)) && ((decide (r2.Size = r3.Size)) && (decide (r2.Sum = r3.Sum))))))) then some (Sum.inr (Sum.inr ())) else
 (let x4 : Int := (IntKind.wrap .i64 (s1 + 1))
 some (Sum.inl x4))))) else
 some (Sum.inr (Sum.inl ())))
def spec_l17Same_l1 (a0 : RPgState) (a1 : RPgState) (s6 : Int) : Option (Int ⊕ (Unit ⊕ Unit)) :=
 (bif (decide (s6 < ((a0.Clients).length : Int))) then ((ix a0.Clients s6).bind fun r7 =>
 ((ix a1.Clients s6).bind fun r8 =>
 (bif (!((decide (r7.Client = r8.Client)) && ((decide (r7.No = r8.No)) && ((decide (r7.Ver.Epoch = r8.Ver.Epoch)) && (decide (r7.Ver.Seq = r8.Ver.Seq)))))) then some (Sum.inr (Sum.inr ())) else
 (let x9 : Int := (IntKind.wrap .i64 (s6 + 1))
 some (Sum.inl x9))))) else
 some (Sum.inr (Sum.inl ())))
def spec_l17Same_l2 (a0 : RPgState) (a1 : RPgState) (s11 : Int) : Option (Int ⊕ (Unit ⊕ Unit)) :=
 (bif (decide (s11 < ((a0.Log).length : Int))) then ((ix a0.Log s11).bind fun r12 =>
 ((ix a1.Log s11).bind fun r13 =>
 (bif (!((decide (r12.Ver.Epoch = r13.Ver.Epoch)) && ((decide (r12.Ver.Seq = r13.Ver.Seq)) && ((decide (r12.Prior.Epoch = r13.Prior.Epoch)) && ((decide (r12.Prior.Seq = r13.Prior.Seq)) && ((decide (r12.Name = r13.Name)) && ((r12.Gone == r13.Gone) && ((decide (r12.Size = r13.Size)) && ((decide (r12.Sum = r13.Sum)) && ((decide (r12.Req.Client = r13.Req.Client)) && (decide (r12.Req.No = r13.Req.No)))))))))))) then some (Sum.inr (Sum.inr ())) else
 (let x14 : Int := (IntKind.wrap .i64 (s11 + 1))
 some (Sum.inl x14))))) else
 some (Sum.inr (Sum.inl ())))
def spec_l17Same_l3 (a0 : RPgState) (a1 : RPgState) (s16 : Int) : Option (Int ⊕ (Unit ⊕ Unit)) :=
 (bif (decide (s16 < ((a0.Chunks).length : Int))) then ((ix a0.Chunks s16).bind fun r17 =>
 ((ix a1.Chunks s16).bind fun r18 =>
 (bif (!((decide (r17.Name = r18.Name)) && ((decide (r17.Ver.Epoch = r18.Ver.Epoch)) && ((decide (r17.Ver.Seq = r18.Ver.Seq)) && ((decide (r17.Pos = r18.Pos)) && ((decide (r17.Sum = r18.Sum)) && (decide (r17.Bytes = r18.Bytes)))))))) then some (Sum.inr (Sum.inr ())) else
 (let x19 : Int := (IntKind.wrap .i64 (s16 + 1))
 some (Sum.inl x19))))) else
 some (Sum.inr (Sum.inl ())))
def spec_l17Same (a0 : RPgState) (a1 : RPgState) : Option Bool :=
 ((((bif (!((decide (a0.Pg.Pool = a1.Pg.Pool)) && (decide (a0.Pg.No = a1.Pg.No)))) then some true else
 (bif (decide (a0.Seen ≠ a1.Seen)) then some true else
 (bif (decide (a0.Started ≠ a1.Started)) then some true else
 (bif (!((decide (a0.Tail.Epoch = a1.Tail.Epoch)) && (decide (a0.Tail.Seq = a1.Tail.Seq)))) then some true else
 (bif (!((decide (a0.Firm.Epoch = a1.Firm.Epoch)) && (decide (a0.Firm.Seq = a1.Firm.Seq)))) then some true else
 (bif (decide (((a0.Base).length : Int) ≠ ((a1.Base).length : Int))) then some true else
 (bif (decide (((a0.Clients).length : Int) ≠ ((a1.Clients).length : Int))) then some true else
 (bif (decide (((a0.Log).length : Int) ≠ ((a1.Log).length : Int))) then some true else
 some (decide (((a0.Chunks).length : Int) ≠ ((a1.Chunks).length : Int))))))))))) : Option Bool)).bind fun v0 =>
 (bif v0 then some false else
 ((iter (spec_l17Same_l0 a0 a1) LF 0).bind fun x28 => match x28 with
 | .inl v5 => ((iter (spec_l17Same_l1 a0 a1) LF 0).bind fun x26 => match x26 with
 | .inl v10 => ((iter (spec_l17Same_l2 a0 a1) LF 0).bind fun x24 => match x24 with
 | .inl v15 => ((iter (spec_l17Same_l3 a0 a1) LF 0).bind fun x22 => match x22 with
 | .inl v20 => some true
 | .inr (v21) => some false)
 | .inr (v23) => some false)
 | .inr (v25) => some false)
 | .inr (v27) => some false)))
/-- 77: loop.example/g00849/spec.MsgSame -/
def spec_MsgSame (a0 : RMsg) (a1 : RMsg) : Option Bool :=
 ((((bif (decide (a0.Kind ≠ a1.Kind)) then some true else
 (bif (decide (a0.From ≠ a1.From)) then some true else
 (bif (decide (a0.To ≠ a1.To)) then some true else
 (bif (!((decide (a0.Pg.Pool = a1.Pg.Pool)) && (decide (a0.Pg.No = a1.Pg.No)))) then some true else
 (bif (decide (a0.Epoch ≠ a1.Epoch)) then some true else
 (bif (decide (a0.Name ≠ a1.Name)) then some true else
 (bif (!((decide (a0.Ver.Epoch = a1.Ver.Epoch)) && (decide (a0.Ver.Seq = a1.Ver.Seq)))) then some true else
 some (!((decide (a0.Firm.Epoch = a1.Firm.Epoch)) && (decide (a0.Firm.Seq = a1.Firm.Seq))))))))))) : Option Bool)).bind fun v0 =>
 (bif v0 then some false else
 (bif ((decide (a0.Entry.Ver.Epoch = a1.Entry.Ver.Epoch)) && ((decide (a0.Entry.Ver.Seq = a1.Entry.Ver.Seq)) && ((decide (a0.Entry.Prior.Epoch = a1.Entry.Prior.Epoch)) && ((decide (a0.Entry.Prior.Seq = a1.Entry.Prior.Seq)) && ((decide (a0.Entry.Name = a1.Entry.Name)) && ((a0.Entry.Gone == a1.Entry.Gone) && ((decide (a0.Entry.Size = a1.Entry.Size)) && ((decide (a0.Entry.Sum = a1.Entry.Sum)) && ((decide (a0.Entry.Req.Client = a1.Entry.Req.Client)) && (decide (a0.Entry.Req.No = a1.Entry.Req.No))))))))))) then (bif ((decide (a0.Chunk.Name = a1.Chunk.Name)) && ((decide (a0.Chunk.Ver.Epoch = a1.Chunk.Ver.Epoch)) && ((decide (a0.Chunk.Ver.Seq = a1.Chunk.Ver.Seq)) && ((decide (a0.Chunk.Pos = a1.Chunk.Pos)) && ((decide (a0.Chunk.Sum = a1.Chunk.Sum)) && (decide (a0.Chunk.Bytes = a1.Chunk.Bytes))))))) then (bif ((decide (a0.Op.Kind = a1.Op.Kind)) && ((decide (a0.Op.At = a1.Op.At)) && (decide (a0.Op.Bytes = a1.Op.Bytes)))) then (bif ((decide (a0.Req.Client = a1.Req.Client)) && (decide (a0.Req.No = a1.Req.No))) then (bif (decide (a0.Code = a1.Code)) then (bif (decide (a0.Body = a1.Body)) then ((spec_l17Same a0.State a1.State).bind fun v1 =>
 some v1) else
 some false) else
 some false) else
 some false) else
 some false) else
 some false) else
 some false)))
/-- 78: loop.example/g00849/spec.l30SameMsgs -/
def spec_l30SameMsgs_l0 (a0 : (List RMsg)) (a1 : (List RMsg)) (s0 : Int) : Option (Int ⊕ (Unit ⊕ Unit)) :=
 (bif (decide (s0 < ((a0).length : Int))) then ((ix a0 s0).bind fun r1 =>
 ((ix a1 s0).bind fun r2 =>
 ((spec_MsgSame r1 r2).bind fun v3 =>
 (bif (!v3) then some (Sum.inr (Sum.inr ())) else
 (let x4 : Int := (IntKind.wrap .i64 (s0 + 1))
 some (Sum.inl x4)))))) else
 some (Sum.inr (Sum.inl ())))
def spec_l30SameMsgs (a0 : (List RMsg)) (a1 : (List RMsg)) : Option Bool :=
 (bif (decide (((a0).length : Int) ≠ ((a1).length : Int))) then some false else
 ((iter (spec_l30SameMsgs_l0 a0 a1) LF 0).bind fun x7 => match x7 with
 | .inl v5 => some true
 | .inr (v6) => some false))
/-- 79: loop.example/g00849/spec.SameServer -/
def spec_SameServer_l0 (a0 : RServer) (a1 : RServer) (s3 : Int) : Option (Int ⊕ (Unit ⊕ Unit)) :=
 (bif (decide (s3 < ((a0.Leads).length : Int))) then ((ix a0.Leads s3).bind fun r4 =>
 ((ix a1.Leads s3).bind fun r5 =>
 ((spec_SameLead r4 r5).bind fun v6 =>
 (bif (!v6) then some (Sum.inr (Sum.inr ())) else
 (let x7 : Int := (IntKind.wrap .i64 (s3 + 1))
 some (Sum.inl x7)))))) else
 some (Sum.inr (Sum.inl ())))
def spec_SameServer (a0 : RServer) (a1 : RServer) : Option Bool :=
 ((((bif (decide (a0.Id ≠ a1.Id)) then some true else
 (bif (decide (a0.Epoch ≠ a1.Epoch)) then some true else
 (bif (!(a0.Alive == a1.Alive)) then some true else
 ((spec_l30SameStates a0.Store.Live a1.Store.Live).bind fun v0 =>
 (bif (!v0) then some true else
 ((spec_l30SameStates a0.Store.Kept a1.Store.Kept).bind fun v1 =>
 (bif (!v1) then some true else
 some (decide (((a0.Leads).length : Int) ≠ ((a1.Leads).length : Int)))))))))) : Option Bool)).bind fun v2 =>
 (bif v2 then some false else
 ((iter (spec_SameServer_l0 a0 a1) LF 0).bind fun x11 => match x11 with
 | .inl v8 => ((spec_l30SameMsgs a0.Out a1.Out).bind fun v9 =>
 some v9)
 | .inr (v10) => some false)))
/-- 80: slices.Equal[[]loop.example/g00849/impl.Head,loop.example/g00849/impl.Head] -/
def impl_Head__l0 (a0 : (List RHead)) (a1 : (List RHead)) (s0 : Int) : Option (Int ⊕ (Unit ⊕ Unit)) :=
 (bif (decide (s0 < ((a0).length : Int))) then ((ix a0 s0).bind fun r1 =>
 ((ix a1 s0).bind fun r2 =>
 (bif (!((decide (r1.Name = r2.Name)) && ((decide (r1.Ver.Epoch = r2.Ver.Epoch)) && ((decide (r1.Ver.Seq = r2.Ver.Seq)) && ((decide (r1.Size = r2.Size)) && (decide (r1.Sum = r2.Sum))))))) then some (Sum.inr (Sum.inr ())) else
 (let x3 : Int := (IntKind.wrap .i64 (s0 + 1))
 some (Sum.inl x3))))) else
 some (Sum.inr (Sum.inl ())))
def impl_Head_ (a0 : (List RHead)) (a1 : (List RHead)) : Option Bool :=
 (bif (decide (((a0).length : Int) ≠ ((a1).length : Int))) then some false else
 ((iter (impl_Head__l0 a0 a1) LF 0).bind fun x6 => match x6 with
 | .inl v4 => some true
 | .inr (v5) => some false))
/-- 81: slices.Equal[[]loop.example/g00849/impl.Last,loop.example/g00849/impl.Last] -/
def impl_Last__l0 (a0 : (List RLast)) (a1 : (List RLast)) (s0 : Int) : Option (Int ⊕ (Unit ⊕ Unit)) :=
 (bif (decide (s0 < ((a0).length : Int))) then ((ix a0 s0).bind fun r1 =>
 ((ix a1 s0).bind fun r2 =>
 (bif (!((decide (r1.Client = r2.Client)) && ((decide (r1.No = r2.No)) && ((decide (r1.Ver.Epoch = r2.Ver.Epoch)) && (decide (r1.Ver.Seq = r2.Ver.Seq)))))) then some (Sum.inr (Sum.inr ())) else
 (let x3 : Int := (IntKind.wrap .i64 (s0 + 1))
 some (Sum.inl x3))))) else
 some (Sum.inr (Sum.inl ())))
def impl_Last_ (a0 : (List RLast)) (a1 : (List RLast)) : Option Bool :=
 (bif (decide (((a0).length : Int) ≠ ((a1).length : Int))) then some false else
 ((iter (impl_Last__l0 a0 a1) LF 0).bind fun x6 => match x6 with
 | .inl v4 => some true
 | .inr (v5) => some false))
/-- 82: slices.Equal[[]loop.example/g00849/impl.Entry,loop.example/g00849/impl.Entry] -/
def impl_Entry__l0 (a0 : (List REntry)) (a1 : (List REntry)) (s0 : Int) : Option (Int ⊕ (Unit ⊕ Unit)) :=
 (bif (decide (s0 < ((a0).length : Int))) then ((ix a0 s0).bind fun r1 =>
 ((ix a1 s0).bind fun r2 =>
 (bif (!((decide (r1.Ver.Epoch = r2.Ver.Epoch)) && ((decide (r1.Ver.Seq = r2.Ver.Seq)) && ((decide (r1.Prior.Epoch = r2.Prior.Epoch)) && ((decide (r1.Prior.Seq = r2.Prior.Seq)) && ((decide (r1.Name = r2.Name)) && ((r1.Gone == r2.Gone) && ((decide (r1.Size = r2.Size)) && ((decide (r1.Sum = r2.Sum)) && ((decide (r1.Req.Client = r2.Req.Client)) && (decide (r1.Req.No = r2.Req.No)))))))))))) then some (Sum.inr (Sum.inr ())) else
 (let x3 : Int := (IntKind.wrap .i64 (s0 + 1))
 some (Sum.inl x3))))) else
 some (Sum.inr (Sum.inl ())))
def impl_Entry_ (a0 : (List REntry)) (a1 : (List REntry)) : Option Bool :=
 (bif (decide (((a0).length : Int) ≠ ((a1).length : Int))) then some false else
 ((iter (impl_Entry__l0 a0 a1) LF 0).bind fun x6 => match x6 with
 | .inl v4 => some true
 | .inr (v5) => some false))
/-- 83: slices.Equal[[]loop.example/g00849/impl.Chunk,loop.example/g00849/impl.Chunk] -/
def impl_Chunk__l0 (a0 : (List RChunk)) (a1 : (List RChunk)) (s0 : Int) : Option (Int ⊕ (Unit ⊕ Unit)) :=
 (bif (decide (s0 < ((a0).length : Int))) then ((ix a0 s0).bind fun r1 =>
 ((ix a1 s0).bind fun r2 =>
 (bif (!((decide (r1.Name = r2.Name)) && ((decide (r1.Ver.Epoch = r2.Ver.Epoch)) && ((decide (r1.Ver.Seq = r2.Ver.Seq)) && ((decide (r1.Pos = r2.Pos)) && ((decide (r1.Sum = r2.Sum)) && (decide (r1.Bytes = r2.Bytes)))))))) then some (Sum.inr (Sum.inr ())) else
 (let x3 : Int := (IntKind.wrap .i64 (s0 + 1))
 some (Sum.inl x3))))) else
 some (Sum.inr (Sum.inl ())))
def impl_Chunk_ (a0 : (List RChunk)) (a1 : (List RChunk)) : Option Bool :=
 (bif (decide (((a0).length : Int) ≠ ((a1).length : Int))) then some false else
 ((iter (impl_Chunk__l0 a0 a1) LF 0).bind fun x6 => match x6 with
 | .inl v4 => some true
 | .inr (v5) => some false))
/-- 84: loop.example/g00849/impl.sameState -/
def impl_sameState (a0 : RPgState) (a1 : RPgState) : Option Bool :=
 (bif ((decide (a0.Pg.Pool = a1.Pg.Pool)) && (decide (a0.Pg.No = a1.Pg.No))) then (bif (decide (a0.Seen = a1.Seen)) then (bif (decide (a0.Started = a1.Started)) then (bif ((decide (a0.Tail.Epoch = a1.Tail.Epoch)) && (decide (a0.Tail.Seq = a1.Tail.Seq))) then (bif ((decide (a0.Firm.Epoch = a1.Firm.Epoch)) && (decide (a0.Firm.Seq = a1.Firm.Seq))) then ((impl_Head_ a0.Base a1.Base).bind fun v0 =>
 (bif v0 then ((impl_Last_ a0.Clients a1.Clients).bind fun v1 =>
 (bif v1 then ((impl_Entry_ a0.Log a1.Log).bind fun v2 =>
 (bif v2 then ((impl_Chunk_ a0.Chunks a1.Chunks).bind fun v3 =>
 some v3) else
 some false)) else
 some false)) else
 some false)) else
 some false) else
 some false) else
 some false) else
 some false) else
 some false)
/-- 85: slices.EqualFunc[[]loop.example/g00849/impl.PgState,[]loop.example/g00849/impl.PgState,loop.example/g00849/impl.PgState,loop.example/g00849/impl.PgState] -/
def impl_PgState__l0 (a0 : (List RPgState)) (s0 : ((List RPgState) × (List RPgState) × (List RPgState) × Int)) : Option (((List RPgState) × (List RPgState) × (List RPgState) × Int) ⊕ (Unit ⊕ Unit)) :=
 (bif (decide (s0.2.2.2 < ((a0).length : Int))) then ((ix s0.2.2.1 s0.2.2.2).bind fun r1 =>
 ((ix s0.2.1 s0.2.2.2).bind fun r2 =>
 ((impl_sameState r1 r2).bind fun v3 =>
 (bif (!v3) then some (Sum.inr (Sum.inr ())) else
 (let x4 : Int := (IntKind.wrap .i64 (s0.2.2.2 + 1))
 some (Sum.inl (s0.1, s0.2.1, s0.2.2.1, x4))))))) else
 some (Sum.inr (Sum.inl ())))
def impl_PgState_ (a0 : (List RPgState)) (a1 : (List RPgState)) : Option Bool :=
 (bif (decide (((a0).length : Int) ≠ ((a1).length : Int))) then some false else
 ((iter (impl_PgState__l0 a0) LF (a0, a1, a0, 0)).bind fun x7 => match x7 with
 | .inl v5 => some true
 | .inr (v6) => some false))
/-- 86: loop.example/g00849/impl.sameStates -/
def impl_sameStates (a0 : (List RPgState)) (a1 : (List RPgState)) : Option Bool :=
 ((impl_PgState_ a0 a1).bind fun v0 =>
 some v0)
/-- 87: loop.example/g00849/impl.SameStore -/
def impl_SameStore (a0 : RStore) (a1 : RStore) : Option Bool :=
 ((impl_sameStates a0.Live a1.Live).bind fun v0 =>
 (bif v0 then ((impl_sameStates a0.Kept a1.Kept).bind fun v1 =>
 some v1) else
 some false))
/-- 88: slices.Equal[[]int64,int64] -/
def slices_Equal___int64uint64u_l0 (a0 : (List Int)) (a1 : (List Int)) (s0 : Int) : Option (Int ⊕ (Unit ⊕ Unit)) :=
 (bif (decide (s0 < ((a0).length : Int))) then ((ix a0 s0).bind fun r1 =>
 ((ix a1 s0).bind fun r2 =>
 (bif (decide (r1 ≠ r2)) then some (Sum.inr (Sum.inr ())) else
 (let x3 : Int := (IntKind.wrap .i64 (s0 + 1))
 some (Sum.inl x3))))) else
 some (Sum.inr (Sum.inl ())))
def slices_Equal___int64uint64u (a0 : (List Int)) (a1 : (List Int)) : Option Bool :=
 (bif (decide (((a0).length : Int) ≠ ((a1).length : Int))) then some false else
 ((iter (slices_Equal___int64uint64u_l0 a0 a1) LF 0).bind fun x6 => match x6 with
 | .inl v4 => some true
 | .inr (v5) => some false))
/-- 89: loop.example/g00849/impl.sameInterval -/
def impl_sameInterval (a0 : RInterval) (a1 : RInterval) : Option Bool :=
 (bif (decide (a0.First = a1.First)) then (bif (decide (a0.Last = a1.Last)) then (bif (a0.May == a1.May) then ((slices_Equal___int64uint64u a0.Acting a1.Acting).bind fun v0 =>
 some v0) else
 some false) else
 some false) else
 some false)
/-- 90: slices.EqualFunc[[]loop.example/g00849/impl.Interval,[]loop.example/g00849/impl.Interval,loop.example/g00849/impl.Interval,loop.example/g00849/impl.Interval] -/
def impl_Interval__l0 (a0 : (List RInterval)) (s0 : ((List RInterval) × (List RInterval) × (List RInterval) × Int)) : Option (((List RInterval) × (List RInterval) × (List RInterval) × Int) ⊕ (Unit ⊕ Unit)) :=
 (bif (decide (s0.2.2.2 < ((a0).length : Int))) then ((ix s0.2.2.1 s0.2.2.2).bind fun r1 =>
 ((ix s0.2.1 s0.2.2.2).bind fun r2 =>
 ((impl_sameInterval r1 r2).bind fun v3 =>
 (bif (!v3) then some (Sum.inr (Sum.inr ())) else
 (let x4 : Int := (IntKind.wrap .i64 (s0.2.2.2 + 1))
 some (Sum.inl (s0.1, s0.2.1, s0.2.2.1, x4))))))) else
 some (Sum.inr (Sum.inl ())))
def impl_Interval_ (a0 : (List RInterval)) (a1 : (List RInterval)) : Option Bool :=
 (bif (decide (((a0).length : Int) ≠ ((a1).length : Int))) then some false else
 ((iter (impl_Interval__l0 a0) LF (a0, a1, a0, 0)).bind fun x7 => match x7 with
 | .inl v5 => some true
 | .inr (v6) => some false))
/-- 91: loop.example/g00849/impl.sameNotice -/
def impl_sameNotice (a0 : RNotice) (a1 : RNotice) : Option Bool :=
 (bif (decide (a0.From = a1.From)) then ((impl_sameState a0.State a1.State).bind fun v0 =>
 some v0) else
 some false)
/-- 92: slices.EqualFunc[[]loop.example/g00849/impl.Notice,[]loop.example/g00849/impl.Notice,loop.example/g00849/impl.Notice,loop.example/g00849/impl.Notice] -/
def impl_Notice__l0 (a0 : (List RNotice)) (s0 : ((List RNotice) × (List RNotice) × (List RNotice) × Int)) : Option (((List RNotice) × (List RNotice) × (List RNotice) × Int) ⊕ (Unit ⊕ Unit)) :=
 (bif (decide (s0.2.2.2 < ((a0).length : Int))) then ((ix s0.2.2.1 s0.2.2.2).bind fun r1 =>
 ((ix s0.2.1 s0.2.2.2).bind fun r2 =>
 ((impl_sameNotice r1 r2).bind fun v3 =>
 (bif (!v3) then some (Sum.inr (Sum.inr ())) else
 (let x4 : Int := (IntKind.wrap .i64 (s0.2.2.2 + 1))
 some (Sum.inl (s0.1, s0.2.1, s0.2.2.1, x4))))))) else
 some (Sum.inr (Sum.inl ())))
def impl_Notice_ (a0 : (List RNotice)) (a1 : (List RNotice)) : Option Bool :=
 (bif (decide (((a0).length : Int) ≠ ((a1).length : Int))) then some false else
 ((iter (impl_Notice__l0 a0) LF (a0, a1, a0, 0)).bind fun x7 => match x7 with
 | .inl v5 => some true
 | .inr (v6) => some false))
/-- 93: slices.Equal[[]loop.example/g00849/impl.Fill,loop.example/g00849/impl.Fill] -/
def impl_Fill__l0 (a0 : (List RFill)) (a1 : (List RFill)) (s0 : Int) : Option (Int ⊕ (Unit ⊕ Unit)) :=
 (bif (decide (s0 < ((a0).length : Int))) then ((ix a0 s0).bind fun r1 =>
 ((ix a1 s0).bind fun r2 =>
 (bif (!((decide (r1.Node = r2.Node)) && ((decide (r1.Pos = r2.Pos)) && ((decide (r1.Head.Name = r2.Head.Name)) && ((decide (r1.Head.Ver.Epoch = r2.Head.Ver.Epoch)) && ((decide (r1.Head.Ver.Seq = r2.Head.Ver.Seq)) && ((decide (r1.Head.Size = r2.Head.Size)) && (decide (r1.Head.Sum = r2.Head.Sum))))))))) then some (Sum.inr (Sum.inr ())) else
 (let x3 : Int := (IntKind.wrap .i64 (s0 + 1))
 some (Sum.inl x3))))) else
 some (Sum.inr (Sum.inl ())))
def impl_Fill_ (a0 : (List RFill)) (a1 : (List RFill)) : Option Bool :=
 (bif (decide (((a0).length : Int) ≠ ((a1).length : Int))) then some false else
 ((iter (impl_Fill__l0 a0 a1) LF 0).bind fun x6 => match x6 with
 | .inl v4 => some true
 | .inr (v5) => some false))
/-- 94: slices.Equal[[]loop.example/g00849/impl.Way,loop.example/g00849/impl.Way] -/
def impl_Way__l0 (a0 : (List RWay)) (a1 : (List RWay)) (s0 : Int) : Option (Int ⊕ (Unit ⊕ Unit)) :=
 (bif (decide (s0 < ((a0).length : Int))) then ((ix a0 s0).bind fun r1 =>
 ((ix a1 s0).bind fun r2 =>
 (bif (!((decide (r1.Entry.Ver.Epoch = r2.Entry.Ver.Epoch)) && ((decide (r1.Entry.Ver.Seq = r2.Entry.Ver.Seq)) && ((decide (r1.Entry.Prior.Epoch = r2.Entry.Prior.Epoch)) && ((decide (r1.Entry.Prior.Seq = r2.Entry.Prior.Seq)) && ((decide (r1.Entry.Name = r2.Entry.Name)) && ((r1.Entry.Gone == r2.Entry.Gone) && ((decide (r1.Entry.Size = r2.Entry.Size)) && ((decide (r1.Entry.Sum = r2.Entry.Sum)) && ((decide (r1.Entry.Req.Client = r2.Entry.Req.Client)) && ((decide (r1.Entry.Req.No = r2.Entry.Req.No)) && (decide (r1.Body = r2.Body))))))))))))) then some (Sum.inr (Sum.inr ())) else
 (let x3 : Int := (IntKind.wrap .i64 (s0 + 1))
 some (Sum.inl x3))))) else
 some (Sum.inr (Sum.inl ())))
def impl_Way_ (a0 : (List RWay)) (a1 : (List RWay)) : Option Bool :=
 (bif (decide (((a0).length : Int) ≠ ((a1).length : Int))) then some false else
 ((iter (impl_Way__l0 a0 a1) LF 0).bind fun x6 => match x6 with
 | .inl v4 => some true
 | .inr (v5) => some false))
/-- 95: slices.Equal[[]loop.example/g00849/impl.Ack,loop.example/g00849/impl.Ack] -/
def impl_Ack__l0 (a0 : (List RAck)) (a1 : (List RAck)) (s0 : Int) : Option (Int ⊕ (Unit ⊕ Unit)) :=
 (bif (decide (s0 < ((a0).length : Int))) then ((ix a0 s0).bind fun r1 =>
 ((ix a1 s0).bind fun r2 =>
 (bif (!((decide (r1.Node = r2.Node)) && ((decide (r1.Ver.Epoch = r2.Ver.Epoch)) && (decide (r1.Ver.Seq = r2.Ver.Seq))))) then some (Sum.inr (Sum.inr ())) else
 (let x3 : Int := (IntKind.wrap .i64 (s0 + 1))
 some (Sum.inl x3))))) else
 some (Sum.inr (Sum.inl ())))
def impl_Ack_ (a0 : (List RAck)) (a1 : (List RAck)) : Option Bool :=
 (bif (decide (((a0).length : Int) ≠ ((a1).length : Int))) then some false else
 ((iter (impl_Ack__l0 a0 a1) LF 0).bind fun x6 => match x6 with
 | .inl v4 => some true
 | .inr (v5) => some false))
/-- 96: slices.Equal[[]loop.example/g00849/impl.Got,loop.example/g00849/impl.Got] -/
def impl_Got__l0 (a0 : (List RGot)) (a1 : (List RGot)) (s0 : Int) : Option (Int ⊕ (Unit ⊕ Unit)) :=
 (bif (decide (s0 < ((a0).length : Int))) then ((ix a0 s0).bind fun r1 =>
 ((ix a1 s0).bind fun r2 =>
 (bif (!((decide (r1.Node = r2.Node)) && ((decide (r1.Entry.Ver.Epoch = r2.Entry.Ver.Epoch)) && ((decide (r1.Entry.Ver.Seq = r2.Entry.Ver.Seq)) && ((decide (r1.Entry.Prior.Epoch = r2.Entry.Prior.Epoch)) && ((decide (r1.Entry.Prior.Seq = r2.Entry.Prior.Seq)) && ((decide (r1.Entry.Name = r2.Entry.Name)) && ((r1.Entry.Gone == r2.Entry.Gone) && ((decide (r1.Entry.Size = r2.Entry.Size)) && ((decide (r1.Entry.Sum = r2.Entry.Sum)) && ((decide (r1.Entry.Req.Client = r2.Entry.Req.Client)) && ((decide (r1.Entry.Req.No = r2.Entry.Req.No)) && ((decide (r1.Chunk.Name = r2.Chunk.Name)) && ((decide (r1.Chunk.Ver.Epoch = r2.Chunk.Ver.Epoch)) && ((decide (r1.Chunk.Ver.Seq = r2.Chunk.Ver.Seq)) && ((decide (r1.Chunk.Pos = r2.Chunk.Pos)) && ((decide (r1.Chunk.Sum = r2.Chunk.Sum)) && (decide (r1.Chunk.Bytes = r2.Chunk.Bytes))))))))))))))))))) then some (Sum.inr (Sum.inr ())) else
 (let x3 : Int := (IntKind.wrap .i64 (s0 + 1))
 some (Sum.inl x3))))) else
 some (Sum.inr (Sum.inl ())))
def impl_Got_ (a0 : (List RGot)) (a1 : (List RGot)) : Option Bool :=
 (bif (decide (((a0).length : Int) ≠ ((a1).length : Int))) then some false else
 ((iter (impl_Got__l0 a0 a1) LF 0).bind fun x6 => match x6 with
 | .inl v4 => some true
 | .inr (v5) => some false))
/-- 97: loop.example/g00849/impl.sameWait -/
def impl_sameWait (a0 : RWait) (a1 : RWait) : Option Bool :=
 (bif ((decide (a0.Req.Client = a1.Req.Client)) && (decide (a0.Req.No = a1.Req.No))) then (bif (decide (a0.Name = a1.Name)) then (bif ((decide (a0.Ver.Epoch = a1.Ver.Epoch)) && (decide (a0.Ver.Seq = a1.Ver.Seq))) then ((impl_Got_ a0.Got a1.Got).bind fun v0 =>
 some v0) else
 some false) else
 some false) else
 some false)
/-- 98: slices.EqualFunc[[]loop.example/g00849/impl.Wait,[]loop.example/g00849/impl.Wait,loop.example/g00849/impl.Wait,loop.example/g00849/impl.Wait] -/
def impl_Wait__l0 (a0 : (List RWait)) (s0 : ((List RWait) × (List RWait) × (List RWait) × Int)) : Option (((List RWait) × (List RWait) × (List RWait) × Int) ⊕ (Unit ⊕ Unit)) :=
 (bif (decide (s0.2.2.2 < ((a0).length : Int))) then ((ix s0.2.2.1 s0.2.2.2).bind fun r1 =>
 ((ix s0.2.1 s0.2.2.2).bind fun r2 =>
 ((impl_sameWait r1 r2).bind fun v3 =>
 (bif (!v3) then some (Sum.inr (Sum.inr ())) else
 (let x4 : Int := (IntKind.wrap .i64 (s0.2.2.2 + 1))
 some (Sum.inl (s0.1, s0.2.1, s0.2.2.1, x4))))))) else
 some (Sum.inr (Sum.inl ())))
def impl_Wait_ (a0 : (List RWait)) (a1 : (List RWait)) : Option Bool :=
 (bif (decide (((a0).length : Int) ≠ ((a1).length : Int))) then some false else
 ((iter (impl_Wait__l0 a0) LF (a0, a1, a0, 0)).bind fun x7 => match x7 with
 | .inl v5 => some true
 | .inr (v6) => some false))
/-- 99: loop.example/g00849/impl.SameLine -/
def impl_SameLine (a0 : RLine) (a1 : RLine) : Option Bool :=
 (bif (decide (a0.Epoch = a1.Epoch)) then (bif ((decide (a0.Code.K = a1.Code.K)) && (decide (a0.Code.M = a1.Code.M))) then ((slices_Equal___int64uint64u a0.Acting a1.Acting).bind fun v0 =>
 (bif v0 then ((impl_sameState a0.State a1.State).bind fun v1 =>
 (bif v1 then ((impl_Way_ a0.Way a1.Way).bind fun v2 =>
 (bif v2 then ((impl_Ack_ a0.Acks a1.Acks).bind fun v3 =>
 (bif v3 then ((impl_Wait_ a0.Waits a1.Waits).bind fun v4 =>
 some v4) else
 some false)) else
 some false)) else
 some false)) else
 some false)) else
 some false) else
 some false)
/-- 100: loop.example/g00849/impl.SameLead -/
def impl_SameLead (a0 : RLead) (a1 : RLead) : Option Bool :=
 (bif ((decide (a0.Pg.Pool = a1.Pg.Pool)) && (decide (a0.Pg.No = a1.Pg.No))) then (bif (decide (a0.Epoch = a1.Epoch)) then (bif (decide (a0.Phase = a1.Phase)) then (bif ((decide (a0.Code.K = a1.Code.K)) && (decide (a0.Code.M = a1.Code.M))) then ((slices_Equal___int64uint64u a0.Acting a1.Acting).bind fun v0 =>
 (bif v0 then ((impl_Interval_ a0.Ivs a1.Ivs).bind fun v1 =>
 (bif v1 then ((impl_Notice_ a0.Heard a1.Heard).bind fun v2 =>
 (bif v2 then ((impl_sameState a0.Pick a1.Pick).bind fun v3 =>
 (bif v3 then ((impl_Fill_ a0.Fills a1.Fills).bind fun v4 =>
 (bif v4 then ((impl_Chunk_ a0.Have a1.Have).bind fun v5 =>
 (bif v5 then ((slices_Equal___int64uint64u a0.Ready a1.Ready).bind fun v6 =>
 (bif v6 then ((impl_SameLine a0.Line a1.Line).bind fun v7 =>
 some v7) else
 some false)) else
 some false)) else
 some false)) else
 some false)) else
 some false)) else
 some false)) else
 some false)) else
 some false) else
 some false) else
 some false) else
 some false)
/-- 101: slices.EqualFunc[[]loop.example/g00849/impl.Lead,[]loop.example/g00849/impl.Lead,loop.example/g00849/impl.Lead,loop.example/g00849/impl.Lead] -/
def impl_Lead__l0 (a0 : (List RLead)) (s0 : ((List RLead) × (List RLead) × (List RLead) × Int)) : Option (((List RLead) × (List RLead) × (List RLead) × Int) ⊕ (Unit ⊕ Unit)) :=
 (bif (decide (s0.2.2.2 < ((a0).length : Int))) then ((ix s0.2.2.1 s0.2.2.2).bind fun r1 =>
 ((ix s0.2.1 s0.2.2.2).bind fun r2 =>
 ((impl_SameLead r1 r2).bind fun v3 =>
 (bif (!v3) then some (Sum.inr (Sum.inr ())) else
 (let x4 : Int := (IntKind.wrap .i64 (s0.2.2.2 + 1))
 some (Sum.inl (s0.1, s0.2.1, s0.2.2.1, x4))))))) else
 some (Sum.inr (Sum.inl ())))
def impl_Lead_ (a0 : (List RLead)) (a1 : (List RLead)) : Option Bool :=
 (bif (decide (((a0).length : Int) ≠ ((a1).length : Int))) then some false else
 ((iter (impl_Lead__l0 a0) LF (a0, a1, a0, 0)).bind fun x7 => match x7 with
 | .inl v5 => some true
 | .inr (v6) => some false))
/-- 102: loop.example/g00849/impl.MsgSame -/
def impl_MsgSame (a0 : RMsg) (a1 : RMsg) : Option Bool :=
 (bif (decide (a0.Kind = a1.Kind)) then (bif (decide (a0.From = a1.From)) then (bif (decide (a0.To = a1.To)) then (bif ((decide (a0.Pg.Pool = a1.Pg.Pool)) && (decide (a0.Pg.No = a1.Pg.No))) then (bif (decide (a0.Epoch = a1.Epoch)) then (bif (decide (a0.Name = a1.Name)) then (bif ((decide (a0.Ver.Epoch = a1.Ver.Epoch)) && (decide (a0.Ver.Seq = a1.Ver.Seq))) then (bif ((decide (a0.Firm.Epoch = a1.Firm.Epoch)) && (decide (a0.Firm.Seq = a1.Firm.Seq))) then ((impl_sameState a0.State a1.State).bind fun v0 =>
 (bif v0 then (bif ((decide (a0.Entry.Ver.Epoch = a1.Entry.Ver.Epoch)) && ((decide (a0.Entry.Ver.Seq = a1.Entry.Ver.Seq)) && ((decide (a0.Entry.Prior.Epoch = a1.Entry.Prior.Epoch)) && ((decide (a0.Entry.Prior.Seq = a1.Entry.Prior.Seq)) && ((decide (a0.Entry.Name = a1.Entry.Name)) && ((a0.Entry.Gone == a1.Entry.Gone) && ((decide (a0.Entry.Size = a1.Entry.Size)) && ((decide (a0.Entry.Sum = a1.Entry.Sum)) && ((decide (a0.Entry.Req.Client = a1.Entry.Req.Client)) && (decide (a0.Entry.Req.No = a1.Entry.Req.No))))))))))) then (bif ((decide (a0.Chunk.Name = a1.Chunk.Name)) && ((decide (a0.Chunk.Ver.Epoch = a1.Chunk.Ver.Epoch)) && ((decide (a0.Chunk.Ver.Seq = a1.Chunk.Ver.Seq)) && ((decide (a0.Chunk.Pos = a1.Chunk.Pos)) && ((decide (a0.Chunk.Sum = a1.Chunk.Sum)) && (decide (a0.Chunk.Bytes = a1.Chunk.Bytes))))))) then (bif ((decide (a0.Op.Kind = a1.Op.Kind)) && ((decide (a0.Op.At = a1.Op.At)) && (decide (a0.Op.Bytes = a1.Op.Bytes)))) then (bif ((decide (a0.Req.Client = a1.Req.Client)) && (decide (a0.Req.No = a1.Req.No))) then (bif (decide (a0.Code = a1.Code)) then some (decide (a0.Body = a1.Body)) else
 some false) else
 some false) else
 some false) else
 some false) else
 some false) else
 some false)) else
 some false) else
 some false) else
 some false) else
 some false) else
 some false) else
 some false) else
 some false) else
 some false)
/-- 103: slices.EqualFunc[[]loop.example/g00849/impl.Msg,[]loop.example/g00849/impl.Msg,loop.example/g00849/impl.Msg,loop.example/g00849/impl.Msg] -/
def impl_Msg__l0 (a0 : (List RMsg)) (s0 : ((List RMsg) × (List RMsg) × (List RMsg) × Int)) : Option (((List RMsg) × (List RMsg) × (List RMsg) × Int) ⊕ (Unit ⊕ Unit)) :=
 (bif (decide (s0.2.2.2 < ((a0).length : Int))) then ((ix s0.2.2.1 s0.2.2.2).bind fun r1 =>
 ((ix s0.2.1 s0.2.2.2).bind fun r2 =>
 ((impl_MsgSame r1 r2).bind fun v3 =>
 (bif (!v3) then some (Sum.inr (Sum.inr ())) else
 (let x4 : Int := (IntKind.wrap .i64 (s0.2.2.2 + 1))
 some (Sum.inl (s0.1, s0.2.1, s0.2.2.1, x4))))))) else
 some (Sum.inr (Sum.inl ())))
def impl_Msg_ (a0 : (List RMsg)) (a1 : (List RMsg)) : Option Bool :=
 (bif (decide (((a0).length : Int) ≠ ((a1).length : Int))) then some false else
 ((iter (impl_Msg__l0 a0) LF (a0, a1, a0, 0)).bind fun x7 => match x7 with
 | .inl v5 => some true
 | .inr (v6) => some false))
/-- 104: loop.example/g00849/impl.SameServer -/
def impl_SameServer (a0 : RServer) (a1 : RServer) : Option Bool :=
 (bif (decide (a0.Id = a1.Id)) then (bif (decide (a0.Epoch = a1.Epoch)) then (bif (a0.Alive == a1.Alive) then ((impl_SameStore a0.Store a1.Store).bind fun v0 =>
 (bif v0 then ((impl_Lead_ a0.Leads a1.Leads).bind fun v1 =>
 (bif v1 then ((impl_Msg_ a0.Out a1.Out).bind fun v2 =>
 some v2) else
 some false)) else
 some false)) else
 some false) else
 some false) else
 some false)
/-- 105: loop.example/g00849/laws.eqPg -/
def laws_eqPg (a0 : RPg) (a1 : RPg) : Option Bool :=
 (bif (decide (a0.Pool ≠ a1.Pool)) then some false else
 (bif (decide (a0.No ≠ a1.No)) then some false else
 some true))
/-- 106: loop.example/g00849/laws.eqVer -/
def laws_eqVer (a0 : RVer) (a1 : RVer) : Option Bool :=
 (bif (decide (a0.Epoch ≠ a1.Epoch)) then some false else
 (bif (decide (a0.Seq ≠ a1.Seq)) then some false else
 some true))
/-- 107: loop.example/g00849/laws.eqHead -/
def laws_eqHead (a0 : RHead) (a1 : RHead) : Option Bool :=
 (bif (decide (a0.Name ≠ a1.Name)) then some false else
 ((laws_eqVer a0.Ver a1.Ver).bind fun v0 =>
 (bif (!v0) then some false else
 (bif (decide (a0.Size ≠ a1.Size)) then some false else
 (bif (decide (a0.Sum ≠ a1.Sum)) then some false else
 some true)))))
/-- 108: loop.example/g00849/laws.eqHeadS -/
def laws_eqHeadS_l0 (a0 : (List RHead)) (a1 : (List RHead)) (s0 : Int) : Option (Int ⊕ (Unit ⊕ Unit)) :=
 (bif (decide (s0 < ((a0).length : Int))) then ((ix a0 s0).bind fun r1 =>
 ((ix a1 s0).bind fun r2 =>
 ((laws_eqHead r1 r2).bind fun v3 =>
 (bif (!v3) then some (Sum.inr (Sum.inr ())) else
 (let x4 : Int := (IntKind.wrap .i64 (s0 + 1))
 some (Sum.inl x4)))))) else
 some (Sum.inr (Sum.inl ())))
def laws_eqHeadS (a0 : (List RHead)) (a1 : (List RHead)) : Option Bool :=
 (bif (decide (((a0).length : Int) ≠ ((a1).length : Int))) then some false else
 ((iter (laws_eqHeadS_l0 a0 a1) LF 0).bind fun x7 => match x7 with
 | .inl v5 => some true
 | .inr (v6) => some false))
/-- 109: loop.example/g00849/laws.eqLast -/
def laws_eqLast (a0 : RLast) (a1 : RLast) : Option Bool :=
 (bif (decide (a0.Client ≠ a1.Client)) then some false else
 (bif (decide (a0.No ≠ a1.No)) then some false else
 ((laws_eqVer a0.Ver a1.Ver).bind fun v0 =>
 (bif (!v0) then some false else
 some true))))
/-- 110: loop.example/g00849/laws.eqLastS -/
def laws_eqLastS_l0 (a0 : (List RLast)) (a1 : (List RLast)) (s0 : Int) : Option (Int ⊕ (Unit ⊕ Unit)) :=
 (bif (decide (s0 < ((a0).length : Int))) then ((ix a0 s0).bind fun r1 =>
 ((ix a1 s0).bind fun r2 =>
 ((laws_eqLast r1 r2).bind fun v3 =>
 (bif (!v3) then some (Sum.inr (Sum.inr ())) else
 (let x4 : Int := (IntKind.wrap .i64 (s0 + 1))
 some (Sum.inl x4)))))) else
 some (Sum.inr (Sum.inl ())))
def laws_eqLastS (a0 : (List RLast)) (a1 : (List RLast)) : Option Bool :=
 (bif (decide (((a0).length : Int) ≠ ((a1).length : Int))) then some false else
 ((iter (laws_eqLastS_l0 a0 a1) LF 0).bind fun x7 => match x7 with
 | .inl v5 => some true
 | .inr (v6) => some false))
/-- 111: loop.example/g00849/laws.eqReq -/
def laws_eqReq (a0 : RReq) (a1 : RReq) : Option Bool :=
 (bif (decide (a0.Client ≠ a1.Client)) then some false else
 (bif (decide (a0.No ≠ a1.No)) then some false else
 some true))
/-- 112: loop.example/g00849/laws.eqEntry -/
def laws_eqEntry (a0 : REntry) (a1 : REntry) : Option Bool :=
 ((laws_eqVer a0.Ver a1.Ver).bind fun v0 =>
 (bif (!v0) then some false else
 ((laws_eqVer a0.Prior a1.Prior).bind fun v1 =>
 (bif (!v1) then some false else
 (bif (decide (a0.Name ≠ a1.Name)) then some false else
 (bif (!(a0.Gone == a1.Gone)) then some false else
 (bif (decide (a0.Size ≠ a1.Size)) then some false else
 (bif (decide (a0.Sum ≠ a1.Sum)) then some false else
 ((laws_eqReq a0.Req a1.Req).bind fun v2 =>
 (bif (!v2) then some false else
 some true))))))))))
/-- 113: loop.example/g00849/laws.eqEntryS -/
def laws_eqEntryS_l0 (a0 : (List REntry)) (a1 : (List REntry)) (s0 : Int) : Option (Int ⊕ (Unit ⊕ Unit)) :=
 (bif (decide (s0 < ((a0).length : Int))) then ((ix a0 s0).bind fun r1 =>
 ((ix a1 s0).bind fun r2 =>
 ((laws_eqEntry r1 r2).bind fun v3 =>
 (bif (!v3) then some (Sum.inr (Sum.inr ())) else
 (let x4 : Int := (IntKind.wrap .i64 (s0 + 1))
 some (Sum.inl x4)))))) else
 some (Sum.inr (Sum.inl ())))
def laws_eqEntryS (a0 : (List REntry)) (a1 : (List REntry)) : Option Bool :=
 (bif (decide (((a0).length : Int) ≠ ((a1).length : Int))) then some false else
 ((iter (laws_eqEntryS_l0 a0 a1) LF 0).bind fun x7 => match x7 with
 | .inl v5 => some true
 | .inr (v6) => some false))
/-- 114: loop.example/g00849/laws.eqChunk -/
def laws_eqChunk (a0 : RChunk) (a1 : RChunk) : Option Bool :=
 (bif (decide (a0.Name ≠ a1.Name)) then some false else
 ((laws_eqVer a0.Ver a1.Ver).bind fun v0 =>
 (bif (!v0) then some false else
 (bif (decide (a0.Pos ≠ a1.Pos)) then some false else
 (bif (decide (a0.Sum ≠ a1.Sum)) then some false else
 (bif (decide (a0.Bytes ≠ a1.Bytes)) then some false else
 some true))))))
/-- 115: loop.example/g00849/laws.eqChunkS -/
def laws_eqChunkS_l0 (a0 : (List RChunk)) (a1 : (List RChunk)) (s0 : Int) : Option (Int ⊕ (Unit ⊕ Unit)) :=
 (bif (decide (s0 < ((a0).length : Int))) then ((ix a0 s0).bind fun r1 =>
 ((ix a1 s0).bind fun r2 =>
 ((laws_eqChunk r1 r2).bind fun v3 =>
 (bif (!v3) then some (Sum.inr (Sum.inr ())) else
 (let x4 : Int := (IntKind.wrap .i64 (s0 + 1))
 some (Sum.inl x4)))))) else
 some (Sum.inr (Sum.inl ())))
def laws_eqChunkS (a0 : (List RChunk)) (a1 : (List RChunk)) : Option Bool :=
 (bif (decide (((a0).length : Int) ≠ ((a1).length : Int))) then some false else
 ((iter (laws_eqChunkS_l0 a0 a1) LF 0).bind fun x7 => match x7 with
 | .inl v5 => some true
 | .inr (v6) => some false))
/-- 116: loop.example/g00849/laws.eqPgState -/
def laws_eqPgState (a0 : RPgState) (a1 : RPgState) : Option Bool :=
 ((laws_eqPg a0.Pg a1.Pg).bind fun v0 =>
 (bif (!v0) then some false else
 (bif (decide (a0.Seen ≠ a1.Seen)) then some false else
 (bif (decide (a0.Started ≠ a1.Started)) then some false else
 ((laws_eqVer a0.Tail a1.Tail).bind fun v1 =>
 (bif (!v1) then some false else
 ((laws_eqHeadS a0.Base a1.Base).bind fun v2 =>
 (bif (!v2) then some false else
 ((laws_eqLastS a0.Clients a1.Clients).bind fun v3 =>
 (bif (!v3) then some false else
 ((laws_eqEntryS a0.Log a1.Log).bind fun v4 =>
 (bif (!v4) then some false else
 ((laws_eqVer a0.Firm a1.Firm).bind fun v5 =>
 (bif (!v5) then some false else
 ((laws_eqChunkS a0.Chunks a1.Chunks).bind fun v6 =>
 (bif (!v6) then some false else
 some true))))))))))))))))
/-- 117: loop.example/g00849/laws.eqPgStateS -/
def laws_eqPgStateS_l0 (a0 : (List RPgState)) (a1 : (List RPgState)) (s0 : Int) : Option (Int ⊕ (Unit ⊕ Unit)) :=
 (bif (decide (s0 < ((a0).length : Int))) then ((ix a0 s0).bind fun r1 =>
 ((ix a1 s0).bind fun r2 =>
 ((laws_eqPgState r1 r2).bind fun v3 =>
 (bif (!v3) then some (Sum.inr (Sum.inr ())) else
 (let x4 : Int := (IntKind.wrap .i64 (s0 + 1))
 some (Sum.inl x4)))))) else
 some (Sum.inr (Sum.inl ())))
def laws_eqPgStateS (a0 : (List RPgState)) (a1 : (List RPgState)) : Option Bool :=
 (bif (decide (((a0).length : Int) ≠ ((a1).length : Int))) then some false else
 ((iter (laws_eqPgStateS_l0 a0 a1) LF 0).bind fun x7 => match x7 with
 | .inl v5 => some true
 | .inr (v6) => some false))
/-- 118: loop.example/g00849/laws.eqStore -/
def laws_eqStore (a0 : RStore) (a1 : RStore) : Option Bool :=
 ((laws_eqPgStateS a0.Live a1.Live).bind fun v0 =>
 (bif (!v0) then some false else
 ((laws_eqPgStateS a0.Kept a1.Kept).bind fun v1 =>
 (bif (!v1) then some false else
 some true))))
/-- 119: loop.example/g00849/laws.eqCode -/
def laws_eqCode (a0 : RCode) (a1 : RCode) : Option Bool :=
 (bif (decide (a0.K ≠ a1.K)) then some false else
 (bif (decide (a0.M ≠ a1.M)) then some false else
 some true))
/-- 120: loop.example/g00849/laws.eqInt64S -/
def laws_eqInt64S_l0 (a0 : (List Int)) (a1 : (List Int)) (s0 : Int) : Option (Int ⊕ (Unit ⊕ Unit)) :=
 (bif (decide (s0 < ((a0).length : Int))) then ((ix a0 s0).bind fun r1 =>
 ((ix a1 s0).bind fun r2 =>
 (bif (decide (r1 ≠ r2)) then some (Sum.inr (Sum.inr ())) else
 (let x3 : Int := (IntKind.wrap .i64 (s0 + 1))
 some (Sum.inl x3))))) else
 some (Sum.inr (Sum.inl ())))
def laws_eqInt64S (a0 : (List Int)) (a1 : (List Int)) : Option Bool :=
 (bif (decide (((a0).length : Int) ≠ ((a1).length : Int))) then some false else
 ((iter (laws_eqInt64S_l0 a0 a1) LF 0).bind fun x6 => match x6 with
 | .inl v4 => some true
 | .inr (v5) => some false))
/-- 121: loop.example/g00849/laws.eqInterval -/
def laws_eqInterval (a0 : RInterval) (a1 : RInterval) : Option Bool :=
 (bif (decide (a0.First ≠ a1.First)) then some false else
 (bif (decide (a0.Last ≠ a1.Last)) then some false else
 ((laws_eqInt64S a0.Acting a1.Acting).bind fun v0 =>
 (bif (!v0) then some false else
 (bif (!(a0.May == a1.May)) then some false else
 some true)))))
/-- 122: loop.example/g00849/laws.eqIntervalS -/
def laws_eqIntervalS_l0 (a0 : (List RInterval)) (a1 : (List RInterval)) (s0 : Int) : Option (Int ⊕ (Unit ⊕ Unit)) :=
 (bif (decide (s0 < ((a0).length : Int))) then ((ix a0 s0).bind fun r1 =>
 ((ix a1 s0).bind fun r2 =>
 ((laws_eqInterval r1 r2).bind fun v3 =>
 (bif (!v3) then some (Sum.inr (Sum.inr ())) else
 (let x4 : Int := (IntKind.wrap .i64 (s0 + 1))
 some (Sum.inl x4)))))) else
 some (Sum.inr (Sum.inl ())))
def laws_eqIntervalS (a0 : (List RInterval)) (a1 : (List RInterval)) : Option Bool :=
 (bif (decide (((a0).length : Int) ≠ ((a1).length : Int))) then some false else
 ((iter (laws_eqIntervalS_l0 a0 a1) LF 0).bind fun x7 => match x7 with
 | .inl v5 => some true
 | .inr (v6) => some false))
/-- 123: loop.example/g00849/laws.eqNotice -/
def laws_eqNotice (a0 : RNotice) (a1 : RNotice) : Option Bool :=
 (bif (decide (a0.From ≠ a1.From)) then some false else
 ((laws_eqPgState a0.State a1.State).bind fun v0 =>
 (bif (!v0) then some false else
 some true)))
/-- 124: loop.example/g00849/laws.eqNoticeS -/
def laws_eqNoticeS_l0 (a0 : (List RNotice)) (a1 : (List RNotice)) (s0 : Int) : Option (Int ⊕ (Unit ⊕ Unit)) :=
 (bif (decide (s0 < ((a0).length : Int))) then ((ix a0 s0).bind fun r1 =>
 ((ix a1 s0).bind fun r2 =>
 ((laws_eqNotice r1 r2).bind fun v3 =>
 (bif (!v3) then some (Sum.inr (Sum.inr ())) else
 (let x4 : Int := (IntKind.wrap .i64 (s0 + 1))
 some (Sum.inl x4)))))) else
 some (Sum.inr (Sum.inl ())))
def laws_eqNoticeS (a0 : (List RNotice)) (a1 : (List RNotice)) : Option Bool :=
 (bif (decide (((a0).length : Int) ≠ ((a1).length : Int))) then some false else
 ((iter (laws_eqNoticeS_l0 a0 a1) LF 0).bind fun x7 => match x7 with
 | .inl v5 => some true
 | .inr (v6) => some false))
/-- 125: loop.example/g00849/laws.eqFill -/
def laws_eqFill (a0 : RFill) (a1 : RFill) : Option Bool :=
 (bif (decide (a0.Node ≠ a1.Node)) then some false else
 (bif (decide (a0.Pos ≠ a1.Pos)) then some false else
 ((laws_eqHead a0.Head a1.Head).bind fun v0 =>
 (bif (!v0) then some false else
 some true))))
/-- 126: loop.example/g00849/laws.eqFillS -/
def laws_eqFillS_l0 (a0 : (List RFill)) (a1 : (List RFill)) (s0 : Int) : Option (Int ⊕ (Unit ⊕ Unit)) :=
 (bif (decide (s0 < ((a0).length : Int))) then ((ix a0 s0).bind fun r1 =>
 ((ix a1 s0).bind fun r2 =>
 ((laws_eqFill r1 r2).bind fun v3 =>
 (bif (!v3) then some (Sum.inr (Sum.inr ())) else
 (let x4 : Int := (IntKind.wrap .i64 (s0 + 1))
 some (Sum.inl x4)))))) else
 some (Sum.inr (Sum.inl ())))
def laws_eqFillS (a0 : (List RFill)) (a1 : (List RFill)) : Option Bool :=
 (bif (decide (((a0).length : Int) ≠ ((a1).length : Int))) then some false else
 ((iter (laws_eqFillS_l0 a0 a1) LF 0).bind fun x7 => match x7 with
 | .inl v5 => some true
 | .inr (v6) => some false))
/-- 127: loop.example/g00849/laws.eqWay -/
def laws_eqWay (a0 : RWay) (a1 : RWay) : Option Bool :=
 ((laws_eqEntry a0.Entry a1.Entry).bind fun v0 =>
 (bif (!v0) then some false else
 (bif (decide (a0.Body ≠ a1.Body)) then some false else
 some true)))
/-- 128: loop.example/g00849/laws.eqWayS -/
def laws_eqWayS_l0 (a0 : (List RWay)) (a1 : (List RWay)) (s0 : Int) : Option (Int ⊕ (Unit ⊕ Unit)) :=
 (bif (decide (s0 < ((a0).length : Int))) then ((ix a0 s0).bind fun r1 =>
 ((ix a1 s0).bind fun r2 =>
 ((laws_eqWay r1 r2).bind fun v3 =>
 (bif (!v3) then some (Sum.inr (Sum.inr ())) else
 (let x4 : Int := (IntKind.wrap .i64 (s0 + 1))
 some (Sum.inl x4)))))) else
 some (Sum.inr (Sum.inl ())))
def laws_eqWayS (a0 : (List RWay)) (a1 : (List RWay)) : Option Bool :=
 (bif (decide (((a0).length : Int) ≠ ((a1).length : Int))) then some false else
 ((iter (laws_eqWayS_l0 a0 a1) LF 0).bind fun x7 => match x7 with
 | .inl v5 => some true
 | .inr (v6) => some false))
/-- 129: loop.example/g00849/laws.eqAck -/
def laws_eqAck (a0 : RAck) (a1 : RAck) : Option Bool :=
 (bif (decide (a0.Node ≠ a1.Node)) then some false else
 ((laws_eqVer a0.Ver a1.Ver).bind fun v0 =>
 (bif (!v0) then some false else
 some true)))
/-- 130: loop.example/g00849/laws.eqAckS -/
def laws_eqAckS_l0 (a0 : (List RAck)) (a1 : (List RAck)) (s0 : Int) : Option (Int ⊕ (Unit ⊕ Unit)) :=
 (bif (decide (s0 < ((a0).length : Int))) then ((ix a0 s0).bind fun r1 =>
 ((ix a1 s0).bind fun r2 =>
 ((laws_eqAck r1 r2).bind fun v3 =>
 (bif (!v3) then some (Sum.inr (Sum.inr ())) else
 (let x4 : Int := (IntKind.wrap .i64 (s0 + 1))
 some (Sum.inl x4)))))) else
 some (Sum.inr (Sum.inl ())))
def laws_eqAckS (a0 : (List RAck)) (a1 : (List RAck)) : Option Bool :=
 (bif (decide (((a0).length : Int) ≠ ((a1).length : Int))) then some false else
 ((iter (laws_eqAckS_l0 a0 a1) LF 0).bind fun x7 => match x7 with
 | .inl v5 => some true
 | .inr (v6) => some false))
/-- 131: loop.example/g00849/laws.eqGot -/
def laws_eqGot (a0 : RGot) (a1 : RGot) : Option Bool :=
 (bif (decide (a0.Node ≠ a1.Node)) then some false else
 ((laws_eqEntry a0.Entry a1.Entry).bind fun v0 =>
 (bif (!v0) then some false else
 ((laws_eqChunk a0.Chunk a1.Chunk).bind fun v1 =>
 (bif (!v1) then some false else
 some true)))))
/-- 132: loop.example/g00849/laws.eqGotS -/
def laws_eqGotS_l0 (a0 : (List RGot)) (a1 : (List RGot)) (s0 : Int) : Option (Int ⊕ (Unit ⊕ Unit)) :=
 (bif (decide (s0 < ((a0).length : Int))) then ((ix a0 s0).bind fun r1 =>
 ((ix a1 s0).bind fun r2 =>
 ((laws_eqGot r1 r2).bind fun v3 =>
 (bif (!v3) then some (Sum.inr (Sum.inr ())) else
 (let x4 : Int := (IntKind.wrap .i64 (s0 + 1))
 some (Sum.inl x4)))))) else
 some (Sum.inr (Sum.inl ())))
def laws_eqGotS (a0 : (List RGot)) (a1 : (List RGot)) : Option Bool :=
 (bif (decide (((a0).length : Int) ≠ ((a1).length : Int))) then some false else
 ((iter (laws_eqGotS_l0 a0 a1) LF 0).bind fun x7 => match x7 with
 | .inl v5 => some true
 | .inr (v6) => some false))
/-- 133: loop.example/g00849/laws.eqWait -/
def laws_eqWait (a0 : RWait) (a1 : RWait) : Option Bool :=
 ((laws_eqReq a0.Req a1.Req).bind fun v0 =>
 (bif (!v0) then some false else
 (bif (decide (a0.Name ≠ a1.Name)) then some false else
 ((laws_eqVer a0.Ver a1.Ver).bind fun v1 =>
 (bif (!v1) then some false else
 ((laws_eqGotS a0.Got a1.Got).bind fun v2 =>
 (bif (!v2) then some false else
 some true)))))))
/-- 134: loop.example/g00849/laws.eqWaitS -/
def laws_eqWaitS_l0 (a0 : (List RWait)) (a1 : (List RWait)) (s0 : Int) : Option (Int ⊕ (Unit ⊕ Unit)) :=
 (bif (decide (s0 < ((a0).length : Int))) then ((ix a0 s0).bind fun r1 =>
 ((ix a1 s0).bind fun r2 =>
 ((laws_eqWait r1 r2).bind fun v3 =>
 (bif (!v3) then some (Sum.inr (Sum.inr ())) else
 (let x4 : Int := (IntKind.wrap .i64 (s0 + 1))
 some (Sum.inl x4)))))) else
 some (Sum.inr (Sum.inl ())))
def laws_eqWaitS (a0 : (List RWait)) (a1 : (List RWait)) : Option Bool :=
 (bif (decide (((a0).length : Int) ≠ ((a1).length : Int))) then some false else
 ((iter (laws_eqWaitS_l0 a0 a1) LF 0).bind fun x7 => match x7 with
 | .inl v5 => some true
 | .inr (v6) => some false))
/-- 135: loop.example/g00849/laws.eqLine -/
def laws_eqLine (a0 : RLine) (a1 : RLine) : Option Bool :=
 (bif (decide (a0.Epoch ≠ a1.Epoch)) then some false else
 ((laws_eqCode a0.Code a1.Code).bind fun v0 =>
 (bif (!v0) then some false else
 ((laws_eqInt64S a0.Acting a1.Acting).bind fun v1 =>
 (bif (!v1) then some false else
 ((laws_eqPgState a0.State a1.State).bind fun v2 =>
 (bif (!v2) then some false else
 ((laws_eqWayS a0.Way a1.Way).bind fun v3 =>
 (bif (!v3) then some false else
 ((laws_eqAckS a0.Acks a1.Acks).bind fun v4 =>
 (bif (!v4) then some false else
 ((laws_eqWaitS a0.Waits a1.Waits).bind fun v5 =>
 (bif (!v5) then some false else
 some true)))))))))))))
/-- 136: loop.example/g00849/laws.eqLead -/
def laws_eqLead (a0 : RLead) (a1 : RLead) : Option Bool :=
 ((laws_eqPg a0.Pg a1.Pg).bind fun v0 =>
 (bif (!v0) then some false else
 (bif (decide (a0.Epoch ≠ a1.Epoch)) then some false else
 (bif (decide (a0.Phase ≠ a1.Phase)) then some false else
 ((laws_eqCode a0.Code a1.Code).bind fun v1 =>
 (bif (!v1) then some false else
 ((laws_eqInt64S a0.Acting a1.Acting).bind fun v2 =>
 (bif (!v2) then some false else
 ((laws_eqIntervalS a0.Ivs a1.Ivs).bind fun v3 =>
 (bif (!v3) then some false else
 ((laws_eqNoticeS a0.Heard a1.Heard).bind fun v4 =>
 (bif (!v4) then some false else
 ((laws_eqPgState a0.Pick a1.Pick).bind fun v5 =>
 (bif (!v5) then some false else
 ((laws_eqFillS a0.Fills a1.Fills).bind fun v6 =>
 (bif (!v6) then some false else
 ((laws_eqChunkS a0.Have a1.Have).bind fun v7 =>
 (bif (!v7) then some false else
 ((laws_eqInt64S a0.Ready a1.Ready).bind fun v8 =>
 (bif (!v8) then some false else
 ((laws_eqLine a0.Line a1.Line).bind fun v9 =>
 (bif (!v9) then some false else
 some true))))))))))))))))))))))
/-- 137: loop.example/g00849/laws.eqLeadS -/
def laws_eqLeadS_l0 (a0 : (List RLead)) (a1 : (List RLead)) (s0 : Int) : Option (Int ⊕ (Unit ⊕ Unit)) :=
 (bif (decide (s0 < ((a0).length : Int))) then ((ix a0 s0).bind fun r1 =>
 ((ix a1 s0).bind fun r2 =>
 ((laws_eqLead r1 r2).bind fun v3 =>
 (bif (!v3) then some (Sum.inr (Sum.inr ())) else
 (let x4 : Int := (IntKind.wrap .i64 (s0 + 1))
 some (Sum.inl x4)))))) else
 some (Sum.inr (Sum.inl ())))
def laws_eqLeadS (a0 : (List RLead)) (a1 : (List RLead)) : Option Bool :=
 (bif (decide (((a0).length : Int) ≠ ((a1).length : Int))) then some false else
 ((iter (laws_eqLeadS_l0 a0 a1) LF 0).bind fun x7 => match x7 with
 | .inl v5 => some true
 | .inr (v6) => some false))
/-- 138: loop.example/g00849/laws.eqOp -/
def laws_eqOp (a0 : ROp) (a1 : ROp) : Option Bool :=
 (bif (decide (a0.Kind ≠ a1.Kind)) then some false else
 (bif (decide (a0.At ≠ a1.At)) then some false else
 (bif (decide (a0.Bytes ≠ a1.Bytes)) then some false else
 some true)))
/-- 139: loop.example/g00849/laws.eqMsg -/
def laws_eqMsg (a0 : RMsg) (a1 : RMsg) : Option Bool :=
 (bif (decide (a0.Kind ≠ a1.Kind)) then some false else
 (bif (decide (a0.From ≠ a1.From)) then some false else
 (bif (decide (a0.To ≠ a1.To)) then some false else
 ((laws_eqPg a0.Pg a1.Pg).bind fun v0 =>
 (bif (!v0) then some false else
 (bif (decide (a0.Epoch ≠ a1.Epoch)) then some false else
 (bif (decide (a0.Name ≠ a1.Name)) then some false else
 ((laws_eqVer a0.Ver a1.Ver).bind fun v1 =>
 (bif (!v1) then some false else
 ((laws_eqVer a0.Firm a1.Firm).bind fun v2 =>
 (bif (!v2) then some false else
 ((laws_eqPgState a0.State a1.State).bind fun v3 =>
 (bif (!v3) then some false else
 ((laws_eqEntry a0.Entry a1.Entry).bind fun v4 =>
 (bif (!v4) then some false else
 ((laws_eqChunk a0.Chunk a1.Chunk).bind fun v5 =>
 (bif (!v5) then some false else
 ((laws_eqOp a0.Op a1.Op).bind fun v6 =>
 (bif (!v6) then some false else
 ((laws_eqReq a0.Req a1.Req).bind fun v7 =>
 (bif (!v7) then some false else
 (bif (decide (a0.Code ≠ a1.Code)) then some false else
 (bif (decide (a0.Body ≠ a1.Body)) then some false else
 some true)))))))))))))))))))))))
/-- 140: loop.example/g00849/laws.eqMsgS -/
def laws_eqMsgS_l0 (a0 : (List RMsg)) (a1 : (List RMsg)) (s0 : Int) : Option (Int ⊕ (Unit ⊕ Unit)) :=
 (bif (decide (s0 < ((a0).length : Int))) then ((ix a0 s0).bind fun r1 =>
 ((ix a1 s0).bind fun r2 =>
 ((laws_eqMsg r1 r2).bind fun v3 =>
 (bif (!v3) then some (Sum.inr (Sum.inr ())) else
 (let x4 : Int := (IntKind.wrap .i64 (s0 + 1))
 some (Sum.inl x4)))))) else
 some (Sum.inr (Sum.inl ())))
def laws_eqMsgS (a0 : (List RMsg)) (a1 : (List RMsg)) : Option Bool :=
 (bif (decide (((a0).length : Int) ≠ ((a1).length : Int))) then some false else
 ((iter (laws_eqMsgS_l0 a0 a1) LF 0).bind fun x7 => match x7 with
 | .inl v5 => some true
 | .inr (v6) => some false))
/-- 141: loop.example/g00849/laws.eqServer -/
def laws_eqServer (a0 : RServer) (a1 : RServer) : Option Bool :=
 (bif (decide (a0.Id ≠ a1.Id)) then some false else
 (bif (decide (a0.Epoch ≠ a1.Epoch)) then some false else
 (bif (!(a0.Alive == a1.Alive)) then some false else
 ((laws_eqStore a0.Store a1.Store).bind fun v0 =>
 (bif (!v0) then some false else
 ((laws_eqLeadS a0.Leads a1.Leads).bind fun v1 =>
 (bif (!v1) then some false else
 ((laws_eqMsgS a0.Out a1.Out).bind fun v2 =>
 (bif (!v2) then some false else
 some true)))))))))
/-- 142: loop.example/g00849/laws.FnExactSameServer -/
def laws_FnExactSameServer (a0 : RServer) (a1 : RServer) : Option Bool :=
 ((laws_szServer a0 1048576).bind fun v0 =>
 (bif (decide (v0 < 0)) then some true else
 ((laws_szServer a1 v0).bind fun v1 =>
 (bif (decide (v1 < 0)) then some true else
 ((laws_toServer a0).bind fun v2 =>
 ((laws_toServer a1).bind fun v3 =>
 ((spec_SameServer v2 v3).bind fun v4 =>
 ((laws_toServer a0).bind fun v5 =>
 ((laws_toServer a1).bind fun v6 =>
 ((impl_SameServer v5 v6).bind fun v7 =>
 (bif (!(v7 == v4)) then some false else
 ((laws_toServer a0).bind fun v8 =>
 ((laws_eqServer v5 v8).bind fun v9 =>
 (bif (!v9) then some false else
 ((laws_toServer a1).bind fun v10 =>
 ((laws_eqServer v6 v10).bind fun v11 =>
 (bif (!v11) then some false else
 some true)))))))))))))))))
end Go.Proofs.Vai
