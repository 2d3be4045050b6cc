import Derived.Test.YthnpjdhdmdpapaaGreatVc
import Derived.Test.YthnpjdhdmdpapaaGreatProg
import Derived.KernelRfl
set_option linter.unusedVariables false
set_option linter.unusedSimpArgs false
namespace Go.Proofs.Vai
open Go
set_option maxRecDepth 100000
/-- Ver -/
structure RVer where
  Epoch : Int
  Seq : Int
deriving DecidableEq, Inhabited
/-- Head -/
structure RHead where
  Name : ByteArray
  Ver : RVer
  Size : Int
  Sum : Int
deriving DecidableEq, Inhabited
/-- Last -/
structure RLast where
  Client : Int
  No : Int
  Ver : RVer
deriving DecidableEq, Inhabited
/-- Req -/
structure RReq where
  Client : Int
  No : Int
deriving DecidableEq, Inhabited
/-- Entry -/
structure REntry where
  Ver : RVer
  Prior : RVer
  Name : ByteArray
  Gone : Bool
  Size : Int
  Sum : Int
  Req : RReq
deriving DecidableEq, Inhabited
/-- Chunk -/
structure RChunk where
  Name : ByteArray
  Ver : RVer
  Pos : Int
  Sum : Int
  Bytes : ByteArray
deriving DecidableEq, Inhabited
/-- Pg -/
structure RPg where
  Pool : Int
  No : Int
deriving DecidableEq, Inhabited
/-- PgState -/
structure RPgState where
  Pg : RPg
  Seen : Int
  Started : Int
  Tail : RVer
  Base : (List RHead)
  Clients : (List RLast)
  Log : (List REntry)
  Firm : RVer
  Chunks : (List RChunk)
deriving DecidableEq, Inhabited
/-- Store -/
structure RStore where
  Live : (List RPgState)
  Kept : (List RPgState)
deriving DecidableEq, Inhabited
/-- Interval -/
structure RInterval where
  First : Int
  Last : Int
  Acting : (List Int)
  May : Bool
deriving DecidableEq, Inhabited
/-- Notice -/
structure RNotice where
  From : Int
  State : RPgState
deriving DecidableEq, Inhabited
/-- Fill -/
structure RFill where
  Node : Int
  Pos : Int
  Head : RHead
deriving DecidableEq, Inhabited
/-- Way -/
structure RWay where
  Entry : REntry
  Body : ByteArray
deriving DecidableEq, Inhabited
/-- Ack -/
structure RAck where
  Node : Int
  Ver : RVer
deriving DecidableEq, Inhabited
/-- Got -/
structure RGot where
  Node : Int
  Entry : REntry
  Chunk : RChunk
deriving DecidableEq, Inhabited
/-- Wait -/
structure RWait where
  Req : RReq
  Name : ByteArray
  Ver : RVer
  Got : (List RGot)
deriving DecidableEq, Inhabited
/-- Code -/
structure RCode where
  K : Int
  M : Int
deriving DecidableEq, Inhabited
/-- Line -/
structure RLine where
  Epoch : Int
  Code : RCode
  Acting : (List Int)
  State : RPgState
  Way : (List RWay)
  Acks : (List RAck)
  Waits : (List RWait)
deriving DecidableEq, Inhabited
/-- Lead -/
structure RLead where
  Pg : RPg
  Epoch : Int
  Phase : Int
  Code : RCode
  Acting : (List Int)
  Ivs : (List RInterval)
  Heard : (List RNotice)
  Pick : RPgState
  Fills : (List RFill)
  Have : (List RChunk)
  Ready : (List Int)
  Line : RLine
deriving DecidableEq, Inhabited
/-- Op -/
structure ROp where
  Kind : Int
  At : Int
  Bytes : ByteArray
deriving DecidableEq, Inhabited
/-- Msg -/
structure RMsg where
  Kind : Int
  From : Int
  To : Int
  Pg : RPg
  Epoch : Int
  Name : ByteArray
  Ver : RVer
  Firm : RVer
  State : RPgState
  Entry : REntry
  Chunk : RChunk
  Op : ROp
  Req : RReq
  Code : Int
  Body : ByteArray
deriving DecidableEq, Inhabited
/-- Server -/
structure RServer where
  Id : Int
  Epoch : Int
  Alive : Bool
  Store : RStore
  Leads : (List RLead)
  Out : (List RMsg)
deriving DecidableEq, Inhabited
@[reducible] def tyW : Nat → Type
  | 4 => RVer
  | 5 => RHead
  | 6 => RLast
  | 7 => RReq
  | 8 => REntry
  | 9 => RChunk
  | 10 => RPg
  | 11 => RPgState
  | 13 => RStore
  | 14 => Int
  | 15 => RInterval
  | 16 => RNotice
  | 17 => RFill
  | 18 => RWay
  | 19 => RAck
  | 20 => RGot
  | 21 => RWait
  | 22 => RCode
  | 23 => RLine
  | 24 => RLead
  | 25 => ROp
  | 26 => RMsg
  | 28 => RServer
  | _ => Unit
@[reducible] def kindsW : Nat → List CK
  | 4 => [.i .i64, .i .i64]
  | 5 => [.s, .i .i64, .i .i64, .i .i64, .i .i64]
  | 6 => [.i .i64, .i .i64, .i .i64, .i .i64]
  | 7 => [.i .i64, .i .i64]
  | 8 => [.i .i64, .i .i64, .i .i64, .i .i64, .s, .b, .i .i64, .i .i64, .i .i64, .i .i64]
  | 9 => [.s, .i .i64, .i .i64, .i .i64, .i .i64, .s]
  | 10 => [.i .i64, .i .i64]
  | 11 => [.i .i64, .i .i64, .i .i64, .i .i64, .i .i64, .i .i64, .sl 5, .sl 6, .sl 8, .i .i64, .i .i64, .sl 9]
  | 13 => [.sl 11, .sl 11]
  | 14 => [.i .i64]
  | 15 => [.i .i64, .i .i64, .sl 14, .b]
  | 16 => [.i .i64, .i .i64, .i .i64, .i .i64, .i .i64, .i .i64, .i .i64, .sl 5, .sl 6, .sl 8, .i .i64, .i .i64, .sl 9]
  | 17 => [.i .i64, .i .i64, .s, .i .i64, .i .i64, .i .i64, .i .i64]
  | 18 => [.i .i64, .i .i64, .i .i64, .i .i64, .s, .b, .i .i64, .i .i64, .i .i64, .i .i64, .s]
  | 19 => [.i .i64, .i .i64, .i .i64]
  | 20 => [.i .i64, .i .i64, .i .i64, .i .i64, .i .i64, .s, .b, .i .i64, .i .i64, .i .i64, .i .i64, .s, .i .i64, .i .i64, .i .i64, .i .i64, .s]
  | 21 => [.i .i64, .i .i64, .s, .i .i64, .i .i64, .sl 20]
  | 22 => [.i .i64, .i .i64]
  | 23 => [.i .i64, .i .i64, .i .i64, .sl 14, .i .i64, .i .i64, .i .i64, .i .i64, .i .i64, .i .i64, .sl 5, .sl 6, .sl 8, .i .i64, .i .i64, .sl 9, .sl 18, .sl 19, .sl 21]
  | 24 => [.i .i64, .i .i64, .i .i64, .i .i64, .i .i64, .i .i64, .sl 14, .sl 15, .sl 16, .i .i64, .i .i64, .i .i64, .i .i64, .i .i64, .i .i64, .sl 5, .sl 6, .sl 8, .i .i64, .i .i64, .sl 9, .sl 17, .sl 9, .sl 14, .i .i64, .i .i64, .i .i64, .sl 14, .i .i64, .i .i64, .i .i64, .i .i64, .i .i64, .i .i64, .sl 5, .sl 6, .sl 8, .i .i64, .i .i64, .sl 9, .sl 18, .sl 19, .sl 21]
  | 25 => [.i .i64, .i .i64, .s]
  | 26 => [.i .i64, .i .i64, .i .i64, .i .i64, .i .i64, .i .i64, .s, .i .i64, .i .i64, .i .i64, .i .i64, .i .i64, .i .i64, .i .i64, .i .i64, .i .i64, .i .i64, .sl 5, .sl 6, .sl 8, .i .i64, .i .i64, .sl 9, .i .i64, .i .i64, .i .i64, .i .i64, .s, .b, .i .i64, .i .i64, .i .i64, .i .i64, .s, .i .i64, .i .i64, .i .i64, .i .i64, .s, .i .i64, .i .i64, .s, .i .i64, .i .i64, .i .i64, .s]
  | 28 => [.i .i64, .i .i64, .b, .sl 11, .sl 11, .sl 24, .sl 26]
  | _ => []
def unW : (b : Nat) → tyW b → Option (TT tyW ((kindsW b).map ckK))
  | 4, (x : RVer) => some ((x.Epoch, x.Seq) : (Int × Int))
  | 5, (x : RHead) => some ((x.Name, x.Ver.Epoch, x.Ver.Seq, x.Size, x.Sum) : (ByteArray × Int × Int × Int × Int))
  | 6, (x : RLast) => some ((x.Client, x.No, x.Ver.Epoch, x.Ver.Seq) : (Int × Int × Int × Int))
  | 7, (x : RReq) => some ((x.Client, x.No) : (Int × Int))
  | 8, (x : REntry) => some ((x.Ver.Epoch, x.Ver.Seq, x.Prior.Epoch, x.Prior.Seq, x.Name, x.Gone, x.Size, x.Sum, x.Req.Client, x.Req.No) : (Int × Int × Int × Int × ByteArray × Bool × Int × Int × Int × Int))
  | 9, (x : RChunk) => some ((x.Name, x.Ver.Epoch, x.Ver.Seq, x.Pos, x.Sum, x.Bytes) : (ByteArray × Int × Int × Int × Int × ByteArray))
  | 10, (x : RPg) => some ((x.Pool, x.No) : (Int × Int))
  | 11, (x : RPgState) => some ((x.Pg.Pool, x.Pg.No, x.Seen, x.Started, x.Tail.Epoch, x.Tail.Seq, x.Base, x.Clients, x.Log, x.Firm.Epoch, x.Firm.Seq, x.Chunks) : (Int × Int × Int × Int × Int × Int × (List RHead) × (List RLast) × (List REntry) × Int × Int × (List RChunk)))
  | 13, (x : RStore) => some ((x.Live, x.Kept) : ((List RPgState) × (List RPgState)))
  | 14, x => some x
  | 15, (x : RInterval) => some ((x.First, x.Last, x.Acting, x.May) : (Int × Int × (List Int) × Bool))
  | 16, (x : RNotice) => some ((x.From, x.State.Pg.Pool, x.State.Pg.No, x.State.Seen, x.State.Started, x.State.Tail.Epoch, x.State.Tail.Seq, x.State.Base, x.State.Clients, x.State.Log, x.State.Firm.Epoch, x.State.Firm.Seq, x.State.Chunks) : (Int × Int × Int × Int × Int × Int × Int × (List RHead) × (List RLast) × (List REntry) × Int × Int × (List RChunk)))
  | 17, (x : RFill) => some ((x.Node, x.Pos, x.Head.Name, x.Head.Ver.Epoch, x.Head.Ver.Seq, x.Head.Size, x.Head.Sum) : (Int × Int × ByteArray × Int × Int × Int × Int))
  | 18, (x : RWay) => some ((x.Entry.Ver.Epoch, x.Entry.Ver.Seq, x.Entry.Prior.Epoch, x.Entry.Prior.Seq, x.Entry.Name, x.Entry.Gone, x.Entry.Size, x.Entry.Sum, x.Entry.Req.Client, x.Entry.Req.No, x.Body) : (Int × Int × Int × Int × ByteArray × Bool × Int × Int × Int × Int × ByteArray))
  | 19, (x : RAck) => some ((x.Node, x.Ver.Epoch, x.Ver.Seq) : (Int × Int × Int))
  | 20, (x : RGot) => some ((x.Node, x.Entry.Ver.Epoch, x.Entry.Ver.Seq, x.Entry.Prior.Epoch, x.Entry.Prior.Seq, x.Entry.Name, x.Entry.Gone, x.Entry.Size, x.Entry.Sum, x.Entry.Req.Client, x.Entry.Req.No, x.Chunk.Name, x.Chunk.Ver.Epoch, x.Chunk.Ver.Seq, x.Chunk.Pos, x.Chunk.Sum, x.Chunk.Bytes) : (Int × Int × Int × Int × Int × ByteArray × Bool × Int × Int × Int × Int × ByteArray × Int × Int × Int × Int × ByteArray))
  | 21, (x : RWait) => some ((x.Req.Client, x.Req.No, x.Name, x.Ver.Epoch, x.Ver.Seq, x.Got) : (Int × Int × ByteArray × Int × Int × (List RGot)))
  | 22, (x : RCode) => some ((x.K, x.M) : (Int × Int))
  | 23, (x : RLine) => some ((x.Epoch, x.Code.K, x.Code.M, x.Acting, x.State.Pg.Pool, x.State.Pg.No, x.State.Seen, x.State.Started, x.State.Tail.Epoch, x.State.Tail.Seq, x.State.Base, x.State.Clients, x.State.Log, x.State.Firm.Epoch, x.State.Firm.Seq, x.State.Chunks, x.Way, x.Acks, x.Waits) : (Int × Int × Int × (List Int) × Int × Int × Int × Int × Int × Int × (List RHead) × (List RLast) × (List REntry) × Int × Int × (List RChunk) × (List RWay) × (List RAck) × (List RWait)))
  | 24, (x : RLead) => some ((x.Pg.Pool, x.Pg.No, x.Epoch, x.Phase, x.Code.K, x.Code.M, x.Acting, x.Ivs, x.Heard, x.Pick.Pg.Pool, x.Pick.Pg.No, x.Pick.Seen, x.Pick.Started, x.Pick.Tail.Epoch, x.Pick.Tail.Seq, x.Pick.Base, x.Pick.Clients, x.Pick.Log, x.Pick.Firm.Epoch, x.Pick.Firm.Seq, x.Pick.Chunks, x.Fills, x.Have, x.Ready, x.Line.Epoch, x.Line.Code.K, x.Line.Code.M, x.Line.Acting, x.Line.State.Pg.Pool, x.Line.State.Pg.No, x.Line.State.Seen, x.Line.State.Started, x.Line.State.Tail.Epoch, x.Line.State.Tail.Seq, x.Line.State.Base, x.Line.State.Clients, x.Line.State.Log, x.Line.State.Firm.Epoch, x.Line.State.Firm.Seq, x.Line.State.Chunks, x.Line.Way, x.Line.Acks, x.Line.Waits) : (Int × Int × Int × Int × Int × Int × (List Int) × (List RInterval) × (List RNotice) × Int × Int × Int × Int × Int × Int × (List RHead) × (List RLast) × (List REntry) × Int × Int × (List RChunk) × (List RFill) × (List RChunk) × (List Int) × Int × Int × Int × (List Int) × Int × Int × Int × Int × Int × Int × (List RHead) × (List RLast) × (List REntry) × Int × Int × (List RChunk) × (List RWay) × (List RAck) × (List RWait)))
  | 25, (x : ROp) => some ((x.Kind, x.At, x.Bytes) : (Int × Int × ByteArray))
  | 26, (x : RMsg) => some ((x.Kind, x.From, x.To, x.Pg.Pool, x.Pg.No, x.Epoch, x.Name, x.Ver.Epoch, x.Ver.Seq, x.Firm.Epoch, x.Firm.Seq, x.State.Pg.Pool, x.State.Pg.No, x.State.Seen, x.State.Started, x.State.Tail.Epoch, x.State.Tail.Seq, x.State.Base, x.State.Clients, x.State.Log, x.State.Firm.Epoch, x.State.Firm.Seq, x.State.Chunks, x.Entry.Ver.Epoch, x.Entry.Ver.Seq, x.Entry.Prior.Epoch, x.Entry.Prior.Seq, x.Entry.Name, x.Entry.Gone, x.Entry.Size, x.Entry.Sum, x.Entry.Req.Client, x.Entry.Req.No, x.Chunk.Name, x.Chunk.Ver.Epoch, x.Chunk.Ver.Seq, x.Chunk.Pos, x.Chunk.Sum, x.Chunk.Bytes, x.Op.Kind, x.Op.At, x.Op.Bytes, x.Req.Client, x.Req.No, x.Code, x.Body) : (Int × Int × Int × Int × Int × Int × ByteArray × Int × Int × Int × Int × Int × Int × Int × Int × Int × Int × (List RHead) × (List RLast) × (List REntry) × Int × Int × (List RChunk) × Int × Int × Int × Int × ByteArray × Bool × Int × Int × Int × Int × ByteArray × Int × Int × Int × Int × ByteArray × Int × Int × ByteArray × Int × Int × Int × ByteArray))
  | 28, (x : RServer) => some ((x.Id, x.Epoch, x.Alive, x.Store.Live, x.Store.Kept, x.Leads, x.Out) : (Int × Int × Bool × (List RPgState) × (List RPgState) × (List RLead) × (List RMsg)))
  | _, _ => none
def mkW : (b : Nat) → TT tyW ((kindsW b).map ckK) → Option (tyW b)
  | 4, (t : (Int × Int)) => some ((⟨t.1, t.2⟩ : RVer) : RVer)
  | 5, (t : (ByteArray × Int × Int × Int × Int)) => some ((⟨t.1, (⟨t.2.1, t.2.2.1⟩ : RVer), t.2.2.2.1, t.2.2.2.2⟩ : RHead) : RHead)
  | 6, (t : (Int × Int × Int × Int)) => some ((⟨t.1, t.2.1, (⟨t.2.2.1, t.2.2.2⟩ : RVer)⟩ : RLast) : RLast)
  | 7, (t : (Int × Int)) => some ((⟨t.1, t.2⟩ : RReq) : RReq)
  | 8, (t : (Int × Int × Int × Int × ByteArray × Bool × Int × Int × Int × Int)) => some ((⟨(⟨t.1, t.2.1⟩ : RVer), (⟨t.2.2.1, t.2.2.2.1⟩ : RVer), t.2.2.2.2.1, t.2.2.2.2.2.1, t.2.2.2.2.2.2.1, t.2.2.2.2.2.2.2.1, (⟨t.2.2.2.2.2.2.2.2.1, t.2.2.2.2.2.2.2.2.2⟩ : RReq)⟩ : REntry) : REntry)
  | 9, (t : (ByteArray × Int × Int × Int × Int × ByteArray)) => some ((⟨t.1, (⟨t.2.1, t.2.2.1⟩ : RVer), t.2.2.2.1, t.2.2.2.2.1, t.2.2.2.2.2⟩ : RChunk) : RChunk)
  | 10, (t : (Int × Int)) => some ((⟨t.1, t.2⟩ : RPg) : RPg)
  | 11, (t : (Int × Int × Int × Int × Int × Int × (List RHead) × (List RLast) × (List REntry) × Int × Int × (List RChunk))) => some ((⟨(⟨t.1, t.2.1⟩ : RPg), t.2.2.1, t.2.2.2.1, (⟨t.2.2.2.2.1, t.2.2.2.2.2.1⟩ : RVer), t.2.2.2.2.2.2.1, t.2.2.2.2.2.2.2.1, t.2.2.2.2.2.2.2.2.1, (⟨t.2.2.2.2.2.2.2.2.2.1, t.2.2.2.2.2.2.2.2.2.2.1⟩ : RVer), t.2.2.2.2.2.2.2.2.2.2.2⟩ : RPgState) : RPgState)
  | 13, (t : ((List RPgState) × (List RPgState))) => some ((⟨t.1, t.2⟩ : RStore) : RStore)
  | 14, x => some x
  | 15, (t : (Int × Int × (List Int) × Bool)) => some ((⟨t.1, t.2.1, t.2.2.1, t.2.2.2⟩ : RInterval) : RInterval)
  | 16, (t : (Int × Int × Int × Int × Int × Int × Int × (List RHead) × (List RLast) × (List REntry) × Int × Int × (List RChunk))) => some ((⟨t.1, (⟨(⟨t.2.1, t.2.2.1⟩ : RPg), t.2.2.2.1, t.2.2.2.2.1, (⟨t.2.2.2.2.2.1, t.2.2.2.2.2.2.1⟩ : RVer), t.2.2.2.2.2.2.2.1, t.2.2.2.2.2.2.2.2.1, t.2.2.2.2.2.2.2.2.2.1, (⟨t.2.2.2.2.2.2.2.2.2.2.1, t.2.2.2.2.2.2.2.2.2.2.2.1⟩ : RVer), t.2.2.2.2.2.2.2.2.2.2.2.2⟩ : RPgState)⟩ : RNotice) : RNotice)
  | 17, (t : (Int × Int × ByteArray × Int × Int × Int × Int)) => some ((⟨t.1, t.2.1, (⟨t.2.2.1, (⟨t.2.2.2.1, t.2.2.2.2.1⟩ : RVer), t.2.2.2.2.2.1, t.2.2.2.2.2.2⟩ : RHead)⟩ : RFill) : RFill)
  | 18, (t : (Int × Int × Int × Int × ByteArray × Bool × Int × Int × Int × Int × ByteArray)) => some ((⟨(⟨(⟨t.1, t.2.1⟩ : RVer), (⟨t.2.2.1, t.2.2.2.1⟩ : RVer), t.2.2.2.2.1, t.2.2.2.2.2.1, t.2.2.2.2.2.2.1, t.2.2.2.2.2.2.2.1, (⟨t.2.2.2.2.2.2.2.2.1, t.2.2.2.2.2.2.2.2.2.1⟩ : RReq)⟩ : REntry), t.2.2.2.2.2.2.2.2.2.2⟩ : RWay) : RWay)
  | 19, (t : (Int × Int × Int)) => some ((⟨t.1, (⟨t.2.1, t.2.2⟩ : RVer)⟩ : RAck) : RAck)
  | 20, (t : (Int × Int × Int × Int × Int × ByteArray × Bool × Int × Int × Int × Int × ByteArray × Int × Int × Int × Int × ByteArray)) => some ((⟨t.1, (⟨(⟨t.2.1, t.2.2.1⟩ : RVer), (⟨t.2.2.2.1, t.2.2.2.2.1⟩ : RVer), t.2.2.2.2.2.1, t.2.2.2.2.2.2.1, t.2.2.2.2.2.2.2.1, t.2.2.2.2.2.2.2.2.1, (⟨t.2.2.2.2.2.2.2.2.2.1, t.2.2.2.2.2.2.2.2.2.2.1⟩ : RReq)⟩ : REntry), (⟨t.2.2.2.2.2.2.2.2.2.2.2.1, (⟨t.2.2.2.2.2.2.2.2.2.2.2.2.1, t.2.2.2.2.2.2.2.2.2.2.2.2.2.1⟩ : RVer), t.2.2.2.2.2.2.2.2.2.2.2.2.2.2.1, t.2.2.2.2.2.2.2.2.2.2.2.2.2.2.2.1, t.2.2.2.2.2.2.2.2.2.2.2.2.2.2.2.2⟩ : RChunk)⟩ : RGot) : RGot)
  | 21, (t : (Int × Int × ByteArray × Int × Int × (List RGot))) => some ((⟨(⟨t.1, t.2.1⟩ : RReq), t.2.2.1, (⟨t.2.2.2.1, t.2.2.2.2.1⟩ : RVer), t.2.2.2.2.2⟩ : RWait) : RWait)
  | 22, (t : (Int × Int)) => some ((⟨t.1, t.2⟩ : RCode) : RCode)
  | 23, (t : (Int × Int × Int × (List Int) × Int × Int × Int × Int × Int × Int × (List RHead) × (List RLast) × (List REntry) × Int × Int × (List RChunk) × (List RWay) × (List RAck) × (List RWait))) => some ((⟨t.1, (⟨t.2.1, t.2.2.1⟩ : RCode), t.2.2.2.1, (⟨(⟨t.2.2.2.2.1, t.2.2.2.2.2.1⟩ : RPg), t.2.2.2.2.2.2.1, t.2.2.2.2.2.2.2.1, (⟨t.2.2.2.2.2.2.2.2.1, t.2.2.2.2.2.2.2.2.2.1⟩ : RVer), t.2.2.2.2.2.2.2.2.2.2.1, t.2.2.2.2.2.2.2.2.2.2.2.1, t.2.2.2.2.2.2.2.2.2.2.2.2.1, (⟨t.2.2.2.2.2.2.2.2.2.2.2.2.2.1, t.2.2.2.2.2.2.2.2.2.2.2.2.2.2.1⟩ : RVer), t.2.2.2.2.2.2.2.2.2.2.2.2.2.2.2.1⟩ : RPgState), t.2.2.2.2.2.2.2.2.2.2.2.2.2.2.2.2.1, t.2.2.2.2.2.2.2.2.2.2.2.2.2.2.2.2.2.1, t.2.2.2.2.2.2.2.2.2.2.2.2.2.2.2.2.2.2⟩ : RLine) : RLine)
  | 24, (t : (Int × Int × Int × Int × Int × Int × (List Int) × (List RInterval) × (List RNotice) × Int × Int × Int × Int × Int × Int × (List RHead) × (List RLast) × (List REntry) × Int × Int × (List RChunk) × (List RFill) × (List RChunk) × (List Int) × Int × Int × Int × (List Int) × Int × Int × Int × Int × Int × Int × (List RHead) × (List RLast) × (List REntry) × Int × Int × (List RChunk) × (List RWay) × (List RAck) × (List RWait))) => some ((⟨(⟨t.1, t.2.1⟩ : RPg), t.2.2.1, t.2.2.2.1, (⟨t.2.2.2.2.1, t.2.2.2.2.2.1⟩ : RCode), t.2.2.2.2.2.2.1, t.2.2.2.2.2.2.2.1, t.2.2.2.2.2.2.2.2.1, (⟨(⟨t.2.2.2.2.2.2.2.2.2.1, t.2.2.2.2.2.2.2.2.2.2.1⟩ : RPg), t.2.2.2.2.2.2.2.2.2.2.2.1, t.2.2.2.2.2.2.2.2.2.2.2.2.1, (⟨t.2.2.2.2.2.2.2.2.2.2.2.2.2.1, t.2.2.2.2.2.2.2.2.2.2.2.2.2.2.1⟩ : RVer), t.2.2.2.2.2.2.2.2.2.2.2.2.2.2.2.1, t.2.2.2.2.2.2.2.2.2.2.2.2.2.2.2.2.1, t.2.2.2.2.2.2.2.2.2.2.2.2.2.2.2.2.2.1, (⟨t.2.2.2.2.2.2.2.2.2.2.2.2.2.2.2.2.2.2.1, t.2.2.2.2.2.2.2.2.2.2.2.2.2.2.2.2.2.2.2.1⟩ : RVer), t.2.2.2.2.2.2.2.2.2.2.2.2.2.2.2.2.2.2.2.2.1⟩ : RPgState), t.2.2.2.2.2.2.2.2.2.2.2.2.2.2.2.2.2.2.2.2.2.1, t.2.2.2.2.2.2.2.2.2.2.2.2.2.2.2.2.2.2.2.2.2.2.1, t.2.2.2.2.2.2.2.2.2.2.2.2.2.2.2.2.2.2.2.2.2.2.2.1, (⟨t.2.2.2.2.2.2.2.2.2.2.2.2.2.2.2.2.2.2.2.2.2.2.2.2.1, (⟨t.2.2.2.2.2.2.2.2.2.2.2.2.2.2.2.2.2.2.2.2.2.2.2.2.2.1, t.2.2.2.2.2.2.2.2.2.2.2.2.2.2.2.2.2.2.2.2.2.2.2.2.2.2.1⟩ : RCode), t.2.2.2.2.2.2.2.2.2.2.2.2.2.2.2.2.2.2.2.2.2.2.2.2.2.2.2.1, (⟨(⟨t.2.2.2.2.2.2.2.2.2.2.2.2.2.2.2.2.2.2.2.2.2.2.2.2.2.2.2.2.1, t.2.2.2.2.2.2.2.2.2.2.2.2.2.2.2.2.2.2.2.2.2.2.2.2.2.2.2.2.2.1⟩ : RPg), t.2.2.2.2.2.2.2.2.2.2.2.2.2.2.2.2.2.2.2.2.2.2.2.2.2.2.2.2.2.2.1, t.2.2.2.2.2.2.2.2.2.2.2.2.2.2.2.2.2.2.2.2.2.2.2.2.2.2.2.2.2.2.2.1, (⟨t.2.2.2.2.2.2.2.2.2.2.2.2.2.2.2.2.2.2.2.2.2.2.2.2.2.2.2.2.2.2.2.2.1, t.2.2.2.2.2.2.2.2.2.2.2.2.2.2.2.2.2.2.2.2.2.2.2.2.2.2.2.2.2.2.2.2.2.1⟩ : RVer), t.2.2.2.2.2.2.2.2.2.2.2.2.2.2.2.2.2.2.2.2.2.2.2.2.2.2.2.2.2.2.2.2.2.2.1, t.2.2.2.2.2.2.2.2.2.2.2.2.2.2.2.2.2.2.2.2.2.2.2.2.2.2.2.2.2.2.2.2.2.2.2.1, t.2.2.2.2.2.2.2.2.2.2.2.2.2.2.2.2.2.2.2.2.2.2.2.2.2.2.2.2.2.2.2.2.2.2.2.2.1, (⟨t.2.2.2.2.2.2.2.2.2.2.2.2.2.2.2.2.2.2.2.2.2.2.2.2.2.2.2.2.2.2.2.2.2.2.2.2.2.1, t.2.2.2.2.2.2.2.2.2.2.2.2.2.2.2.2.2.2.2.2.2.2.2.2.2.2.2.2.2.2.2.2.2.2.2.2.2.2.1⟩ : RVer), t.2.2.2.2.2.2.2.2.2.2.2.2.2.2.2.2.2.2.2.2.2.2.2.2.2.2.2.2.2.2.2.2.2.2.2.2.2.2.2.1⟩ : RPgState), t.2.2.2.2.2.2.2.2.2.2.2.2.2.2.2.2.2.2.2.2.2.2.2.2.2.2.2.2.2.2.2.2.2.2.2.2.2.2.2.2.1, t.2.2.2.2.2.2.2.2.2.2.2.2.2.2.2.2.2.2.2.2.2.2.2.2.2.2.2.2.2.2.2.2.2.2.2.2.2.2.2.2.2.1, t.2.2.2.2.2.2.2.2.2.2.2.2.2.2.2.2.2.2.2.2.2.2.2.2.2.2.2.2.2.2.2.2.2.2.2.2.2.2.2.2.2.2⟩ : RLine)⟩ : RLead) : RLead)
  | 25, (t : (Int × Int × ByteArray)) => some ((⟨t.1, t.2.1, t.2.2⟩ : ROp) : ROp)
  | 26, (t : (Int × Int × Int × Int × Int × Int × ByteArray × Int × Int × Int × Int × Int × Int × Int × Int × Int × Int × (List RHead) × (List RLast) × (List REntry) × Int × Int × (List RChunk) × Int × Int × Int × Int × ByteArray × Bool × Int × Int × Int × Int × ByteArray × Int × Int × Int × Int × ByteArray × Int × Int × ByteArray × Int × Int × Int × ByteArray)) => some ((⟨t.1, t.2.1, t.2.2.1, (⟨t.2.2.2.1, t.2.2.2.2.1⟩ : RPg), t.2.2.2.2.2.1, t.2.2.2.2.2.2.1, (⟨t.2.2.2.2.2.2.2.1, t.2.2.2.2.2.2.2.2.1⟩ : RVer), (⟨t.2.2.2.2.2.2.2.2.2.1, t.2.2.2.2.2.2.2.2.2.2.1⟩ : RVer), (⟨(⟨t.2.2.2.2.2.2.2.2.2.2.2.1, t.2.2.2.2.2.2.2.2.2.2.2.2.1⟩ : RPg), t.2.2.2.2.2.2.2.2.2.2.2.2.2.1, t.2.2.2.2.2.2.2.2.2.2.2.2.2.2.1, (⟨t.2.2.2.2.2.2.2.2.2.2.2.2.2.2.2.1, t.2.2.2.2.2.2.2.2.2.2.2.2.2.2.2.2.1⟩ : RVer), t.2.2.2.2.2.2.2.2.2.2.2.2.2.2.2.2.2.1, t.2.2.2.2.2.2.2.2.2.2.2.2.2.2.2.2.2.2.1, t.2.2.2.2.2.2.2.2.2.2.2.2.2.2.2.2.2.2.2.1, (⟨t.2.2.2.2.2.2.2.2.2.2.2.2.2.2.2.2.2.2.2.2.1, t.2.2.2.2.2.2.2.2.2.2.2.2.2.2.2.2.2.2.2.2.2.1⟩ : RVer), t.2.2.2.2.2.2.2.2.2.2.2.2.2.2.2.2.2.2.2.2.2.2.1⟩ : RPgState), (⟨(⟨t.2.2.2.2.2.2.2.2.2.2.2.2.2.2.2.2.2.2.2.2.2.2.2.1, t.2.2.2.2.2.2.2.2.2.2.2.2.2.2.2.2.2.2.2.2.2.2.2.2.1⟩ : RVer), (⟨t.2.2.2.2.2.2.2.2.2.2.2.2.2.2.2.2.2.2.2.2.2.2.2.2.2.1, t.2.2.2.2.2.2.2.2.2.2.2.2.2.2.2.2.2.2.2.2.2.2.2.2.2.2.1⟩ : RVer), t.2.2.2.2.2.2.2.2.2.2.2.2.2.2.2.2.2.2.2.2.2.2.2.2.2.2.2.1, t.2.2.2.2.2.2.2.2.2.2.2.2.2.2.2.2.2.2.2.2.2.2.2.2.2.2.2.2.1, t.2.2.2.2.2.2.2.2.2.2.2.2.2.2.2.2.2.2.2.2.2.2.2.2.2.2.2.2.2.1, t.2.2.2.2.2.2.2.2.2.2.2.2.2.2.2.2.2.2.2.2.2.2.2.2.2.2.2.2.2.2.1, (⟨t.2.2.2.2.2.2.2.2.2.2.2.2.2.2.2.2.2.2.2.2.2.2.2.2.2.2.2.2.2.2.2.1, t.2.2.2.2.2.2.2.2.2.2.2.2.2.2.2.2.2.2.2.2.2.2.2.2.2.2.2.2.2.2.2.2.1⟩ : RReq)⟩ : REntry), (⟨t.2.2.2.2.2.2.2.2.2.2.2.2.2.2.2.2.2.2.2.2.2.2.2.2.2.2.2.2.2.2.2.2.2.1, (⟨t.2.2.2.2.2.2.2.2.2.2.2.2.2.2.2.2.2.2.2.2.2.2.2.2.2.2.2.2.2.2.2.2.2.2.1, t.2.2.2.2.2.2.2.2.2.2.2.2.2.2.2.2.2.2.2.2.2.2.2.2.2.2.2.2.2.2.2.2.2.2.2.1⟩ : RVer), t.2.2.2.2.2.2.2.2.2.2.2.2.2.2.2.2.2.2.2.2.2.2.2.2.2.2.2.2.2.2.2.2.2.2.2.2.1, t.2.2.2.2.2.2.2.2.2.2.2.2.2.2.2.2.2.2.2.2.2.2.2.2.2.2.2.2.2.2.2.2.2.2.2.2.2.1, t.2.2.2.2.2.2.2.2.2.2.2.2.2.2.2.2.2.2.2.2.2.2.2.2.2.2.2.2.2.2.2.2.2.2.2.2.2.2.1⟩ : RChunk), (⟨t.2.2.2.2.2.2.2.2.2.2.2.2.2.2.2.2.2.2.2.2.2.2.2.2.2.2.2.2.2.2.2.2.2.2.2.2.2.2.2.1, t.2.2.2.2.2.2.2.2.2.2.2.2.2.2.2.2.2.2.2.2.2.2.2.2.2.2.2.2.2.2.2.2.2.2.2.2.2.2.2.2.1, t.2.2.2.2.2.2.2.2.2.2.2.2.2.2.2.2.2.2.2.2.2.2.2.2.2.2.2.2.2.2.2.2.2.2.2.2.2.2.2.2.2.1⟩ : ROp), (⟨t.2.2.2.2.2.2.2.2.2.2.2.2.2.2.2.2.2.2.2.2.2.2.2.2.2.2.2.2.2.2.2.2.2.2.2.2.2.2.2.2.2.2.1, t.2.2.2.2.2.2.2.2.2.2.2.2.2.2.2.2.2.2.2.2.2.2.2.2.2.2.2.2.2.2.2.2.2.2.2.2.2.2.2.2.2.2.2.1⟩ : RReq), t.2.2.2.2.2.2.2.2.2.2.2.2.2.2.2.2.2.2.2.2.2.2.2.2.2.2.2.2.2.2.2.2.2.2.2.2.2.2.2.2.2.2.2.2.1, t.2.2.2.2.2.2.2.2.2.2.2.2.2.2.2.2.2.2.2.2.2.2.2.2.2.2.2.2.2.2.2.2.2.2.2.2.2.2.2.2.2.2.2.2.2⟩ : RMsg) : RMsg)
  | 28, (t : (Int × Int × Bool × (List RPgState) × (List RPgState) × (List RLead) × (List RMsg))) => some ((⟨t.1, t.2.1, t.2.2.1, (⟨t.2.2.2.1, t.2.2.2.2.1⟩ : RStore), t.2.2.2.2.2.1, t.2.2.2.2.2.2⟩ : RServer) : RServer)
  | _, _ => none
@[reducible] def TabW : Tab := ⟨tyW, kindsW, unW, mkW⟩
abbrev AW : Alg := AP TabW
theorem tab_lt : ∀ b b', CK.sl b' ∈ kindsW b → b' < b := by
  intro b b' h
  unfold kindsW at h
  split at h <;> simp at h <;> omega
theorem tab_un : ∀ b t x, mkW b t = some x → unW b x = some t := by
  intro b t x h
  unfold mkW at h
  split at h <;> first | (obtain rfl := Option.some.inj h; rfl) | cases h
theorem tab_mkt : ∀ b t, kindsW b ≠ [] → ∃ x, mkW b t = some x := by
  intro b t h
  unfold mkW
  split
  all_goals first | exact ⟨_, rfl⟩ | skip
  exfalso
  apply h
  unfold kindsW
  split <;> first | rfl | simp_all
theorem tabOK : TabOK TabW := ⟨tab_lt, tab_un, tab_mkt⟩
def tbW (t : TypeId) : Nat := (([(82, 25), (76, 7), (65, 23), (53, 4), (48, 22), (46, 10), (37, 28), (84, 26), (67, 24), (158, 21), (204, 20), (154, 19), (152, 18), (125, 17), (135, 16), (131, 15), (33, 13), (59, 11), (80, 9), (78, 8), (150, 6), (123, 5), (28, 28), (116, 26), (114, 25), (107, 24), (105, 23), (90, 22), (224, 21), (242, 20), (232, 19), (220, 18), (199, 17), (194, 16), (191, 15), (2, 14), (24, 13), (99, 11), (89, 10), (113, 9), (111, 8), (109, 7), (228, 6), (197, 5), (93, 4)] : List (Nat × Nat)).lookup t).getD 0
def ioF (f : Nat) : Option Nat := if ([] : List Nat).contains f then some 0 else none
end Go.Proofs.Vai
