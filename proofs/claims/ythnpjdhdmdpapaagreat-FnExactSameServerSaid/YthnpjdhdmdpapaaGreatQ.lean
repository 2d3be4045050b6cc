import Derived.Test.YthnpjdhdmdpapaaGreatDa
set_option linter.unusedVariables false
set_option linter.unusedSimpArgs false
namespace Go.Proofs.Vai
open Go
theorem wf5x_Name (x : RHead) (h : wfW TabW 5 x) : x.Name.size ≤ 9223372036854775807 := by
  have h := Eq.mp (wfW_eq tabOK 5 x) h
  exact h.1
theorem wf5x_Ver (x : RHead) (h : wfW TabW 5 x) : wfW TabW 4 x.Ver := by
  have h := Eq.mp (wfW_eq tabOK 5 x) h
  refine Eq.mpr (wfW_eq tabOK 4 x.Ver) ?_
  exact ⟨h.2.1, h.2.2.1, trivial⟩
theorem wf6x_Ver (x : RLast) (h : wfW TabW 6 x) : wfW TabW 4 x.Ver := by
  have h := Eq.mp (wfW_eq tabOK 6 x) h
  refine Eq.mpr (wfW_eq tabOK 4 x.Ver) ?_
  exact ⟨h.2.2.1, h.2.2.2.1, trivial⟩
theorem wf8x_Ver (x : REntry) (h : wfW TabW 8 x) : wfW TabW 4 x.Ver := by
  have h := Eq.mp (wfW_eq tabOK 8 x) h
  refine Eq.mpr (wfW_eq tabOK 4 x.Ver) ?_
  exact ⟨h.1, h.2.1, trivial⟩
theorem wf8x_Prior (x : REntry) (h : wfW TabW 8 x) : wfW TabW 4 x.Prior := by
  have h := Eq.mp (wfW_eq tabOK 8 x) h
  refine Eq.mpr (wfW_eq tabOK 4 x.Prior) ?_
  exact ⟨h.2.2.1, h.2.2.2.1, trivial⟩
theorem wf8x_Name (x : REntry) (h : wfW TabW 8 x) : x.Name.size ≤ 9223372036854775807 := by
  have h := Eq.mp (wfW_eq tabOK 8 x) h
  exact h.2.2.2.2.1
theorem wf8x_Req (x : REntry) (h : wfW TabW 8 x) : wfW TabW 7 x.Req := by
  have h := Eq.mp (wfW_eq tabOK 8 x) h
  refine Eq.mpr (wfW_eq tabOK 7 x.Req) ?_
  exact ⟨h.2.2.2.2.2.2.2.2.1, h.2.2.2.2.2.2.2.2.2.1, trivial⟩
theorem wf9x_Name (x : RChunk) (h : wfW TabW 9 x) : x.Name.size ≤ 9223372036854775807 := by
  have h := Eq.mp (wfW_eq tabOK 9 x) h
  exact h.1
theorem wf9x_Ver (x : RChunk) (h : wfW TabW 9 x) : wfW TabW 4 x.Ver := by
  have h := Eq.mp (wfW_eq tabOK 9 x) h
  refine Eq.mpr (wfW_eq tabOK 4 x.Ver) ?_
  exact ⟨h.2.1, h.2.2.1, trivial⟩
theorem wf9x_Bytes (x : RChunk) (h : wfW TabW 9 x) : x.Bytes.size ≤ 9223372036854775807 := by
  have h := Eq.mp (wfW_eq tabOK 9 x) h
  exact h.2.2.2.2.2.1
theorem wf11x_Pg (x : RPgState) (h : wfW TabW 11 x) : wfW TabW 10 x.Pg := by
  have h := Eq.mp (wfW_eq tabOK 11 x) h
  refine Eq.mpr (wfW_eq tabOK 10 x.Pg) ?_
  exact ⟨h.1, h.2.1, trivial⟩
theorem wf11x_Tail (x : RPgState) (h : wfW TabW 11 x) : wfW TabW 4 x.Tail := by
  have h := Eq.mp (wfW_eq tabOK 11 x) h
  refine Eq.mpr (wfW_eq tabOK 4 x.Tail) ?_
  exact ⟨h.2.2.2.2.1, h.2.2.2.2.2.1, trivial⟩
theorem wf11x_Base (x : RPgState) (h : wfW TabW 11 x) : x.Base.length ≤ 9223372036854775807 ∧ ∀ y ∈ x.Base, wfW TabW 5 y := by
  have h := Eq.mp (wfW_eq tabOK 11 x) h
  exact h.2.2.2.2.2.2.1
theorem wf11x_Clients (x : RPgState) (h : wfW TabW 11 x) : x.Clients.length ≤ 9223372036854775807 ∧ ∀ y ∈ x.Clients, wfW TabW 6 y := by
  have h := Eq.mp (wfW_eq tabOK 11 x) h
  exact h.2.2.2.2.2.2.2.1
theorem wf11x_Log (x : RPgState) (h : wfW TabW 11 x) : x.Log.length ≤ 9223372036854775807 ∧ ∀ y ∈ x.Log, wfW TabW 8 y := by
  have h := Eq.mp (wfW_eq tabOK 11 x) h
  exact h.2.2.2.2.2.2.2.2.1
theorem wf11x_Firm (x : RPgState) (h : wfW TabW 11 x) : wfW TabW 4 x.Firm := by
  have h := Eq.mp (wfW_eq tabOK 11 x) h
  refine Eq.mpr (wfW_eq tabOK 4 x.Firm) ?_
  exact ⟨h.2.2.2.2.2.2.2.2.2.1, h.2.2.2.2.2.2.2.2.2.2.1, trivial⟩
theorem wf11x_Chunks (x : RPgState) (h : wfW TabW 11 x) : x.Chunks.length ≤ 9223372036854775807 ∧ ∀ y ∈ x.Chunks, wfW TabW 9 y := by
  have h := Eq.mp (wfW_eq tabOK 11 x) h
  exact h.2.2.2.2.2.2.2.2.2.2.2.1
theorem wf13x_Live (x : RStore) (h : wfW TabW 13 x) : x.Live.length ≤ 9223372036854775807 ∧ ∀ y ∈ x.Live, wfW TabW 11 y := by
  have h := Eq.mp (wfW_eq tabOK 13 x) h
  exact h.1
theorem wf13x_Kept (x : RStore) (h : wfW TabW 13 x) : x.Kept.length ≤ 9223372036854775807 ∧ ∀ y ∈ x.Kept, wfW TabW 11 y := by
  have h := Eq.mp (wfW_eq tabOK 13 x) h
  exact h.2.1
theorem wf15x_Acting (x : RInterval) (h : wfW TabW 15 x) : x.Acting.length ≤ 9223372036854775807 ∧ ∀ y ∈ x.Acting, wfW TabW 14 y := by
  have h := Eq.mp (wfW_eq tabOK 15 x) h
  exact h.2.2.1
theorem wf16x_State (x : RNotice) (h : wfW TabW 16 x) : wfW TabW 11 x.State := by
  have h := Eq.mp (wfW_eq tabOK 16 x) h
  refine Eq.mpr (wfW_eq tabOK 11 x.State) ?_
  exact ⟨h.2.1, h.2.2.1, h.2.2.2.1, h.2.2.2.2.1, h.2.2.2.2.2.1, h.2.2.2.2.2.2.1, h.2.2.2.2.2.2.2.1, h.2.2.2.2.2.2.2.2.1, h.2.2.2.2.2.2.2.2.2.1, h.2.2.2.2.2.2.2.2.2.2.1, h.2.2.2.2.2.2.2.2.2.2.2.1, h.2.2.2.2.2.2.2.2.2.2.2.2.1, trivial⟩
theorem wf16x_State_Pg (x : RNotice) (h : wfW TabW 16 x) : wfW TabW 10 x.State.Pg := by
  have h := Eq.mp (wfW_eq tabOK 16 x) h
  refine Eq.mpr (wfW_eq tabOK 10 x.State.Pg) ?_
  exact ⟨h.2.1, h.2.2.1, trivial⟩
theorem wf16x_State_Tail (x : RNotice) (h : wfW TabW 16 x) : wfW TabW 4 x.State.Tail := by
  have h := Eq.mp (wfW_eq tabOK 16 x) h
  refine Eq.mpr (wfW_eq tabOK 4 x.State.Tail) ?_
  exact ⟨h.2.2.2.2.2.1, h.2.2.2.2.2.2.1, trivial⟩
theorem wf16x_State_Base (x : RNotice) (h : wfW TabW 16 x) : x.State.Base.length ≤ 9223372036854775807 ∧ ∀ y ∈ x.State.Base, wfW TabW 5 y := by
  have h := Eq.mp (wfW_eq tabOK 16 x) h
  exact h.2.2.2.2.2.2.2.1
theorem wf16x_State_Clients (x : RNotice) (h : wfW TabW 16 x) : x.State.Clients.length ≤ 9223372036854775807 ∧ ∀ y ∈ x.State.Clients, wfW TabW 6 y := by
  have h := Eq.mp (wfW_eq tabOK 16 x) h
  exact h.2.2.2.2.2.2.2.2.1
theorem wf16x_State_Log (x : RNotice) (h : wfW TabW 16 x) : x.State.Log.length ≤ 9223372036854775807 ∧ ∀ y ∈ x.State.Log, wfW TabW 8 y := by
  have h := Eq.mp (wfW_eq tabOK 16 x) h
  exact h.2.2.2.2.2.2.2.2.2.1
theorem wf16x_State_Firm (x : RNotice) (h : wfW TabW 16 x) : wfW TabW 4 x.State.Firm := by
  have h := Eq.mp (wfW_eq tabOK 16 x) h
  refine Eq.mpr (wfW_eq tabOK 4 x.State.Firm) ?_
  exact ⟨h.2.2.2.2.2.2.2.2.2.2.1, h.2.2.2.2.2.2.2.2.2.2.2.1, trivial⟩
theorem wf16x_State_Chunks (x : RNotice) (h : wfW TabW 16 x) : x.State.Chunks.length ≤ 9223372036854775807 ∧ ∀ y ∈ x.State.Chunks, wfW TabW 9 y := by
  have h := Eq.mp (wfW_eq tabOK 16 x) h
  exact h.2.2.2.2.2.2.2.2.2.2.2.2.1
theorem wf17x_Head (x : RFill) (h : wfW TabW 17 x) : wfW TabW 5 x.Head := by
  have h := Eq.mp (wfW_eq tabOK 17 x) h
  refine Eq.mpr (wfW_eq tabOK 5 x.Head) ?_
  exact ⟨h.2.2.1, h.2.2.2.1, h.2.2.2.2.1, h.2.2.2.2.2.1, h.2.2.2.2.2.2.1, trivial⟩
theorem wf17x_Head_Name (x : RFill) (h : wfW TabW 17 x) : x.Head.Name.size ≤ 9223372036854775807 := by
  have h := Eq.mp (wfW_eq tabOK 17 x) h
  exact h.2.2.1
theorem wf17x_Head_Ver (x : RFill) (h : wfW TabW 17 x) : wfW TabW 4 x.Head.Ver := by
  have h := Eq.mp (wfW_eq tabOK 17 x) h
  refine Eq.mpr (wfW_eq tabOK 4 x.Head.Ver) ?_
  exact ⟨h.2.2.2.1, h.2.2.2.2.1, trivial⟩
theorem wf18x_Entry (x : RWay) (h : wfW TabW 18 x) : wfW TabW 8 x.Entry := by
  have h := Eq.mp (wfW_eq tabOK 18 x) h
  refine Eq.mpr (wfW_eq tabOK 8 x.Entry) ?_
  exact ⟨h.1, h.2.1, h.2.2.1, h.2.2.2.1, h.2.2.2.2.1, h.2.2.2.2.2.1, h.2.2.2.2.2.2.1, h.2.2.2.2.2.2.2.1, h.2.2.2.2.2.2.2.2.1, h.2.2.2.2.2.2.2.2.2.1, trivial⟩
theorem wf18x_Entry_Ver (x : RWay) (h : wfW TabW 18 x) : wfW TabW 4 x.Entry.Ver := by
  have h := Eq.mp (wfW_eq tabOK 18 x) h
  refine Eq.mpr (wfW_eq tabOK 4 x.Entry.Ver) ?_
  exact ⟨h.1, h.2.1, trivial⟩
theorem wf18x_Entry_Prior (x : RWay) (h : wfW TabW 18 x) : wfW TabW 4 x.Entry.Prior := by
  have h := Eq.mp (wfW_eq tabOK 18 x) h
  refine Eq.mpr (wfW_eq tabOK 4 x.Entry.Prior) ?_
  exact ⟨h.2.2.1, h.2.2.2.1, trivial⟩
theorem wf18x_Entry_Name (x : RWay) (h : wfW TabW 18 x) : x.Entry.Name.size ≤ 9223372036854775807 := by
  have h := Eq.mp (wfW_eq tabOK 18 x) h
  exact h.2.2.2.2.1
theorem wf18x_Entry_Req (x : RWay) (h : wfW TabW 18 x) : wfW TabW 7 x.Entry.Req := by
  have h := Eq.mp (wfW_eq tabOK 18 x) h
  refine Eq.mpr (wfW_eq tabOK 7 x.Entry.Req) ?_
  exact ⟨h.2.2.2.2.2.2.2.2.1, h.2.2.2.2.2.2.2.2.2.1, trivial⟩
theorem wf18x_Body (x : RWay) (h : wfW TabW 18 x) : x.Body.size ≤ 9223372036854775807 := by
  have h := Eq.mp (wfW_eq tabOK 18 x) h
  exact h.2.2.2.2.2.2.2.2.2.2.1
theorem wf19x_Ver (x : RAck) (h : wfW TabW 19 x) : wfW TabW 4 x.Ver := by
  have h := Eq.mp (wfW_eq tabOK 19 x) h
  refine Eq.mpr (wfW_eq tabOK 4 x.Ver) ?_
  exact ⟨h.2.1, h.2.2.1, trivial⟩
theorem wf20x_Entry (x : RGot) (h : wfW TabW 20 x) : wfW TabW 8 x.Entry := by
  have h := Eq.mp (wfW_eq tabOK 20 x) h
  refine Eq.mpr (wfW_eq tabOK 8 x.Entry) ?_
  exact ⟨h.2.1, h.2.2.1, h.2.2.2.1, h.2.2.2.2.1, h.2.2.2.2.2.1, h.2.2.2.2.2.2.1, h.2.2.2.2.2.2.2.1, h.2.2.2.2.2.2.2.2.1, h.2.2.2.2.2.2.2.2.2.1, h.2.2.2.2.2.2.2.2.2.2.1, trivial⟩
theorem wf20x_Entry_Ver (x : RGot) (h : wfW TabW 20 x) : wfW TabW 4 x.Entry.Ver := by
  have h := Eq.mp (wfW_eq tabOK 20 x) h
  refine Eq.mpr (wfW_eq tabOK 4 x.Entry.Ver) ?_
  exact ⟨h.2.1, h.2.2.1, trivial⟩
theorem wf20x_Entry_Prior (x : RGot) (h : wfW TabW 20 x) : wfW TabW 4 x.Entry.Prior := by
  have h := Eq.mp (wfW_eq tabOK 20 x) h
  refine Eq.mpr (wfW_eq tabOK 4 x.Entry.Prior) ?_
  exact ⟨h.2.2.2.1, h.2.2.2.2.1, trivial⟩
theorem wf20x_Entry_Name (x : RGot) (h : wfW TabW 20 x) : x.Entry.Name.size ≤ 9223372036854775807 := by
  have h := Eq.mp (wfW_eq tabOK 20 x) h
  exact h.2.2.2.2.2.1
theorem wf20x_Entry_Req (x : RGot) (h : wfW TabW 20 x) : wfW TabW 7 x.Entry.Req := by
  have h := Eq.mp (wfW_eq tabOK 20 x) h
  refine Eq.mpr (wfW_eq tabOK 7 x.Entry.Req) ?_
  exact ⟨h.2.2.2.2.2.2.2.2.2.1, h.2.2.2.2.2.2.2.2.2.2.1, trivial⟩
theorem wf20x_Chunk (x : RGot) (h : wfW TabW 20 x) : wfW TabW 9 x.Chunk := by
  have h := Eq.mp (wfW_eq tabOK 20 x) h
  refine Eq.mpr (wfW_eq tabOK 9 x.Chunk) ?_
  exact ⟨h.2.2.2.2.2.2.2.2.2.2.2.1, h.2.2.2.2.2.2.2.2.2.2.2.2.1, h.2.2.2.2.2.2.2.2.2.2.2.2.2.1, h.2.2.2.2.2.2.2.2.2.2.2.2.2.2.1, h.2.2.2.2.2.2.2.2.2.2.2.2.2.2.2.1, h.2.2.2.2.2.2.2.2.2.2.2.2.2.2.2.2.1, trivial⟩
theorem wf20x_Chunk_Name (x : RGot) (h : wfW TabW 20 x) : x.Chunk.Name.size ≤ 9223372036854775807 := by
  have h := Eq.mp (wfW_eq tabOK 20 x) h
  exact h.2.2.2.2.2.2.2.2.2.2.2.1
theorem wf20x_Chunk_Ver (x : RGot) (h : wfW TabW 20 x) : wfW TabW 4 x.Chunk.Ver := by
  have h := Eq.mp (wfW_eq tabOK 20 x) h
  refine Eq.mpr (wfW_eq tabOK 4 x.Chunk.Ver) ?_
  exact ⟨h.2.2.2.2.2.2.2.2.2.2.2.2.1, h.2.2.2.2.2.2.2.2.2.2.2.2.2.1, trivial⟩
theorem wf20x_Chunk_Bytes (x : RGot) (h : wfW TabW 20 x) : x.Chunk.Bytes.size ≤ 9223372036854775807 := by
  have h := Eq.mp (wfW_eq tabOK 20 x) h
  exact h.2.2.2.2.2.2.2.2.2.2.2.2.2.2.2.2.1
theorem wf21x_Req (x : RWait) (h : wfW TabW 21 x) : wfW TabW 7 x.Req := by
  have h := Eq.mp (wfW_eq tabOK 21 x) h
  refine Eq.mpr (wfW_eq tabOK 7 x.Req) ?_
  exact ⟨h.1, h.2.1, trivial⟩
theorem wf21x_Name (x : RWait) (h : wfW TabW 21 x) : x.Name.size ≤ 9223372036854775807 := by
  have h := Eq.mp (wfW_eq tabOK 21 x) h
  exact h.2.2.1
theorem wf21x_Ver (x : RWait) (h : wfW TabW 21 x) : wfW TabW 4 x.Ver := by
  have h := Eq.mp (wfW_eq tabOK 21 x) h
  refine Eq.mpr (wfW_eq tabOK 4 x.Ver) ?_
  exact ⟨h.2.2.2.1, h.2.2.2.2.1, trivial⟩
theorem wf21x_Got (x : RWait) (h : wfW TabW 21 x) : x.Got.length ≤ 9223372036854775807 ∧ ∀ y ∈ x.Got, wfW TabW 20 y := by
  have h := Eq.mp (wfW_eq tabOK 21 x) h
  exact h.2.2.2.2.2.1
theorem wf23x_Code (x : RLine) (h : wfW TabW 23 x) : wfW TabW 22 x.Code := by
  have h := Eq.mp (wfW_eq tabOK 23 x) h
  refine Eq.mpr (wfW_eq tabOK 22 x.Code) ?_
  exact ⟨h.2.1, h.2.2.1, trivial⟩
theorem wf23x_Acting (x : RLine) (h : wfW TabW 23 x) : x.Acting.length ≤ 9223372036854775807 ∧ ∀ y ∈ x.Acting, wfW TabW 14 y := by
  have h := Eq.mp (wfW_eq tabOK 23 x) h
  exact h.2.2.2.1
theorem wf23x_State (x : RLine) (h : wfW TabW 23 x) : wfW TabW 11 x.State := by
  have h := Eq.mp (wfW_eq tabOK 23 x) h
  refine Eq.mpr (wfW_eq tabOK 11 x.State) ?_
  exact ⟨h.2.2.2.2.1, h.2.2.2.2.2.1, h.2.2.2.2.2.2.1, h.2.2.2.2.2.2.2.1, h.2.2.2.2.2.2.2.2.1, h.2.2.2.2.2.2.2.2.2.1, h.2.2.2.2.2.2.2.2.2.2.1, h.2.2.2.2.2.2.2.2.2.2.2.1, h.2.2.2.2.2.2.2.2.2.2.2.2.1, h.2.2.2.2.2.2.2.2.2.2.2.2.2.1, h.2.2.2.2.2.2.2.2.2.2.2.2.2.2.1, h.2.2.2.2.2.2.2.2.2.2.2.2.2.2.2.1, trivial⟩
theorem wf23x_State_Pg (x : RLine) (h : wfW TabW 23 x) : wfW TabW 10 x.State.Pg := by
  have h := Eq.mp (wfW_eq tabOK 23 x) h
  refine Eq.mpr (wfW_eq tabOK 10 x.State.Pg) ?_
  exact ⟨h.2.2.2.2.1, h.2.2.2.2.2.1, trivial⟩
theorem wf23x_State_Tail (x : RLine) (h : wfW TabW 23 x) : wfW TabW 4 x.State.Tail := by
  have h := Eq.mp (wfW_eq tabOK 23 x) h
  refine Eq.mpr (wfW_eq tabOK 4 x.State.Tail) ?_
  exact ⟨h.2.2.2.2.2.2.2.2.1, h.2.2.2.2.2.2.2.2.2.1, trivial⟩
theorem wf23x_State_Base (x : RLine) (h : wfW TabW 23 x) : x.State.Base.length ≤ 9223372036854775807 ∧ ∀ y ∈ x.State.Base, wfW TabW 5 y := by
  have h := Eq.mp (wfW_eq tabOK 23 x) h
  exact h.2.2.2.2.2.2.2.2.2.2.1
theorem wf23x_State_Clients (x : RLine) (h : wfW TabW 23 x) : x.State.Clients.length ≤ 9223372036854775807 ∧ ∀ y ∈ x.State.Clients, wfW TabW 6 y := by
  have h := Eq.mp (wfW_eq tabOK 23 x) h
  exact h.2.2.2.2.2.2.2.2.2.2.2.1
theorem wf23x_State_Log (x : RLine) (h : wfW TabW 23 x) : x.State.Log.length ≤ 9223372036854775807 ∧ ∀ y ∈ x.State.Log, wfW TabW 8 y := by
  have h := Eq.mp (wfW_eq tabOK 23 x) h
  exact h.2.2.2.2.2.2.2.2.2.2.2.2.1
theorem wf23x_State_Firm (x : RLine) (h : wfW TabW 23 x) : wfW TabW 4 x.State.Firm := by
  have h := Eq.mp (wfW_eq tabOK 23 x) h
  refine Eq.mpr (wfW_eq tabOK 4 x.State.Firm) ?_
  exact ⟨h.2.2.2.2.2.2.2.2.2.2.2.2.2.1, h.2.2.2.2.2.2.2.2.2.2.2.2.2.2.1, trivial⟩
theorem wf23x_State_Chunks (x : RLine) (h : wfW TabW 23 x) : x.State.Chunks.length ≤ 9223372036854775807 ∧ ∀ y ∈ x.State.Chunks, wfW TabW 9 y := by
  have h := Eq.mp (wfW_eq tabOK 23 x) h
  exact h.2.2.2.2.2.2.2.2.2.2.2.2.2.2.2.1
theorem wf23x_Way (x : RLine) (h : wfW TabW 23 x) : x.Way.length ≤ 9223372036854775807 ∧ ∀ y ∈ x.Way, wfW TabW 18 y := by
  have h := Eq.mp (wfW_eq tabOK 23 x) h
  exact h.2.2.2.2.2.2.2.2.2.2.2.2.2.2.2.2.1
theorem wf23x_Acks (x : RLine) (h : wfW TabW 23 x) : x.Acks.length ≤ 9223372036854775807 ∧ ∀ y ∈ x.Acks, wfW TabW 19 y := by
  have h := Eq.mp (wfW_eq tabOK 23 x) h
  exact h.2.2.2.2.2.2.2.2.2.2.2.2.2.2.2.2.2.1
theorem wf23x_Waits (x : RLine) (h : wfW TabW 23 x) : x.Waits.length ≤ 9223372036854775807 ∧ ∀ y ∈ x.Waits, wfW TabW 21 y := by
  have h := Eq.mp (wfW_eq tabOK 23 x) h
  exact h.2.2.2.2.2.2.2.2.2.2.2.2.2.2.2.2.2.2.1
theorem wf24x_Pg (x : RLead) (h : wfW TabW 24 x) : wfW TabW 10 x.Pg := by
  have h := Eq.mp (wfW_eq tabOK 24 x) h
  refine Eq.mpr (wfW_eq tabOK 10 x.Pg) ?_
  exact ⟨h.1, h.2.1, trivial⟩
theorem wf24x_Code (x : RLead) (h : wfW TabW 24 x) : wfW TabW 22 x.Code := by
  have h := Eq.mp (wfW_eq tabOK 24 x) h
  refine Eq.mpr (wfW_eq tabOK 22 x.Code) ?_
  exact ⟨h.2.2.2.2.1, h.2.2.2.2.2.1, trivial⟩
theorem wf24x_Acting (x : RLead) (h : wfW TabW 24 x) : x.Acting.length ≤ 9223372036854775807 ∧ ∀ y ∈ x.Acting, wfW TabW 14 y := by
  have h := Eq.mp (wfW_eq tabOK 24 x) h
  exact h.2.2.2.2.2.2.1
theorem wf24x_Ivs (x : RLead) (h : wfW TabW 24 x) : x.Ivs.length ≤ 9223372036854775807 ∧ ∀ y ∈ x.Ivs, wfW TabW 15 y := by
  have h := Eq.mp (wfW_eq tabOK 24 x) h
  exact h.2.2.2.2.2.2.2.1
theorem wf24x_Heard (x : RLead) (h : wfW TabW 24 x) : x.Heard.length ≤ 9223372036854775807 ∧ ∀ y ∈ x.Heard, wfW TabW 16 y := by
  have h := Eq.mp (wfW_eq tabOK 24 x) h
  exact h.2.2.2.2.2.2.2.2.1
theorem wf24x_Pick (x : RLead) (h : wfW TabW 24 x) : wfW TabW 11 x.Pick := by
  have h := Eq.mp (wfW_eq tabOK 24 x) h
  refine Eq.mpr (wfW_eq tabOK 11 x.Pick) ?_
  exact ⟨h.2.2.2.2.2.2.2.2.2.1, h.2.2.2.2.2.2.2.2.2.2.1, h.2.2.2.2.2.2.2.2.2.2.2.1, h.2.2.2.2.2.2.2.2.2.2.2.2.1, h.2.2.2.2.2.2.2.2.2.2.2.2.2.1, h.2.2.2.2.2.2.2.2.2.2.2.2.2.2.1, h.2.2.2.2.2.2.2.2.2.2.2.2.2.2.2.1, h.2.2.2.2.2.2.2.2.2.2.2.2.2.2.2.2.1, h.2.2.2.2.2.2.2.2.2.2.2.2.2.2.2.2.2.1, h.2.2.2.2.2.2.2.2.2.2.2.2.2.2.2.2.2.2.1, h.2.2.2.2.2.2.2.2.2.2.2.2.2.2.2.2.2.2.2.1, h.2.2.2.2.2.2.2.2.2.2.2.2.2.2.2.2.2.2.2.2.1, trivial⟩
theorem wf24x_Pick_Pg (x : RLead) (h : wfW TabW 24 x) : wfW TabW 10 x.Pick.Pg := by
  have h := Eq.mp (wfW_eq tabOK 24 x) h
  refine Eq.mpr (wfW_eq tabOK 10 x.Pick.Pg) ?_
  exact ⟨h.2.2.2.2.2.2.2.2.2.1, h.2.2.2.2.2.2.2.2.2.2.1, trivial⟩
theorem wf24x_Pick_Tail (x : RLead) (h : wfW TabW 24 x) : wfW TabW 4 x.Pick.Tail := by
  have h := Eq.mp (wfW_eq tabOK 24 x) h
  refine Eq.mpr (wfW_eq tabOK 4 x.Pick.Tail) ?_
  exact ⟨h.2.2.2.2.2.2.2.2.2.2.2.2.2.1, h.2.2.2.2.2.2.2.2.2.2.2.2.2.2.1, trivial⟩
theorem wf24x_Pick_Base (x : RLead) (h : wfW TabW 24 x) : x.Pick.Base.length ≤ 9223372036854775807 ∧ ∀ y ∈ x.Pick.Base, wfW TabW 5 y := by
  have h := Eq.mp (wfW_eq tabOK 24 x) h
  exact h.2.2.2.2.2.2.2.2.2.2.2.2.2.2.2.1
theorem wf24x_Pick_Clients (x : RLead) (h : wfW TabW 24 x) : x.Pick.Clients.length ≤ 9223372036854775807 ∧ ∀ y ∈ x.Pick.Clients, wfW TabW 6 y := by
  have h := Eq.mp (wfW_eq tabOK 24 x) h
  exact h.2.2.2.2.2.2.2.2.2.2.2.2.2.2.2.2.1
theorem wf24x_Pick_Log (x : RLead) (h : wfW TabW 24 x) : x.Pick.Log.length ≤ 9223372036854775807 ∧ ∀ y ∈ x.Pick.Log, wfW TabW 8 y := by
  have h := Eq.mp (wfW_eq tabOK 24 x) h
  exact h.2.2.2.2.2.2.2.2.2.2.2.2.2.2.2.2.2.1
theorem wf24x_Pick_Firm (x : RLead) (h : wfW TabW 24 x) : wfW TabW 4 x.Pick.Firm := by
  have h := Eq.mp (wfW_eq tabOK 24 x) h
  refine Eq.mpr (wfW_eq tabOK 4 x.Pick.Firm) ?_
  exact ⟨h.2.2.2.2.2.2.2.2.2.2.2.2.2.2.2.2.2.2.1, h.2.2.2.2.2.2.2.2.2.2.2.2.2.2.2.2.2.2.2.1, trivial⟩
theorem wf24x_Pick_Chunks (x : RLead) (h : wfW TabW 24 x) : x.Pick.Chunks.length ≤ 9223372036854775807 ∧ ∀ y ∈ x.Pick.Chunks, wfW TabW 9 y := by
  have h := Eq.mp (wfW_eq tabOK 24 x) h
  exact h.2.2.2.2.2.2.2.2.2.2.2.2.2.2.2.2.2.2.2.2.1
theorem wf24x_Fills (x : RLead) (h : wfW TabW 24 x) : x.Fills.length ≤ 9223372036854775807 ∧ ∀ y ∈ x.Fills, wfW TabW 17 y := by
  have h := Eq.mp (wfW_eq tabOK 24 x) h
  exact h.2.2.2.2.2.2.2.2.2.2.2.2.2.2.2.2.2.2.2.2.2.1
theorem wf24x_Have (x : RLead) (h : wfW TabW 24 x) : x.Have.length ≤ 9223372036854775807 ∧ ∀ y ∈ x.Have, wfW TabW 9 y := by
  have h := Eq.mp (wfW_eq tabOK 24 x) h
  exact h.2.2.2.2.2.2.2.2.2.2.2.2.2.2.2.2.2.2.2.2.2.2.1
theorem wf24x_Ready (x : RLead) (h : wfW TabW 24 x) : x.Ready.length ≤ 9223372036854775807 ∧ ∀ y ∈ x.Ready, wfW TabW 14 y := by
  have h := Eq.mp (wfW_eq tabOK 24 x) h
  exact h.2.2.2.2.2.2.2.2.2.2.2.2.2.2.2.2.2.2.2.2.2.2.2.1
theorem wf24x_Line (x : RLead) (h : wfW TabW 24 x) : wfW TabW 23 x.Line := by
  have h := Eq.mp (wfW_eq tabOK 24 x) h
  refine Eq.mpr (wfW_eq tabOK 23 x.Line) ?_
  exact ⟨h.2.2.2.2.2.2.2.2.2.2.2.2.2.2.2.2.2.2.2.2.2.2.2.2.1, h.2.2.2.2.2.2.2.2.2.2.2.2.2.2.2.2.2.2.2.2.2.2.2.2.2.1, h.2.2.2.2.2.2.2.2.2.2.2.2.2.2.2.2.2.2.2.2.2.2.2.2.2.2.1, h.2.2.2.2.2.2.2.2.2.2.2.2.2.2.2.2.2.2.2.2.2.2.2.2.2.2.2.1, h.2.2.2.2.2.2.2.2.2.2.2.2.2.2.2.2.2.2.2.2.2.2.2.2.2.2.2.2.1, h.2.2.2.2.2.2.2.2.2.2.2.2.2.2.2.2.2.2.2.2.2.2.2.2.2.2.2.2.2.1, h.2.2.2.2.2.2.2.2.2.2.2.2.2.2.2.2.2.2.2.2.2.2.2.2.2.2.2.2.2.2.1, h.2.2.2.2.2.2.2.2.2.2.2.2.2.2.2.2.2.2.2.2.2.2.2.2.2.2.2.2.2.2.2.1, h.2.2.2.2.2.2.2.2.2.2.2.2.2.2.2.2.2.2.2.2.2.2.2.2.2.2.2.2.2.2.2.2.1, h.2.2.2.2.2.2.2.2.2.2.2.2.2.2.2.2.2.2.2.2.2.2.2.2.2.2.2.2.2.2.2.2.2.1, h.2.2.2.2.2.2.2.2.2.2.2.2.2.2.2.2.2.2.2.2.2.2.2.2.2.2.2.2.2.2.2.2.2.2.1, h.2.2.2.2.2.2.2.2.2.2.2.2.2.2.2.2.2.2.2.2.2.2.2.2.2.2.2.2.2.2.2.2.2.2.2.1, h.2.2.2.2.2.2.2.2.2.2.2.2.2.2.2.2.2.2.2.2.2.2.2.2.2.2.2.2.2.2.2.2.2.2.2.2.1, h.2.2.2.2.2.2.2.2.2.2.2.2.2.2.2.2.2.2.2.2.2.2.2.2.2.2.2.2.2.2.2.2.2.2.2.2.2.1, h.2.2.2.2.2.2.2.2.2.2.2.2.2.2.2.2.2.2.2.2.2.2.2.2.2.2.2.2.2.2.2.2.2.2.2.2.2.2.1, h.2.2.2.2.2.2.2.2.2.2.2.2.2.2.2.2.2.2.2.2.2.2.2.2.2.2.2.2.2.2.2.2.2.2.2.2.2.2.2.1, h.2.2.2.2.2.2.2.2.2.2.2.2.2.2.2.2.2.2.2.2.2.2.2.2.2.2.2.2.2.2.2.2.2.2.2.2.2.2.2.2.1, h.2.2.2.2.2.2.2.2.2.2.2.2.2.2.2.2.2.2.2.2.2.2.2.2.2.2.2.2.2.2.2.2.2.2.2.2.2.2.2.2.2.1, h.2.2.2.2.2.2.2.2.2.2.2.2.2.2.2.2.2.2.2.2.2.2.2.2.2.2.2.2.2.2.2.2.2.2.2.2.2.2.2.2.2.2.1, trivial⟩
theorem wf24x_Line_Code (x : RLead) (h : wfW TabW 24 x) : wfW TabW 22 x.Line.Code := by
  have h := Eq.mp (wfW_eq tabOK 24 x) h
  refine Eq.mpr (wfW_eq tabOK 22 x.Line.Code) ?_
  exact ⟨h.2.2.2.2.2.2.2.2.2.2.2.2.2.2.2.2.2.2.2.2.2.2.2.2.2.1, h.2.2.2.2.2.2.2.2.2.2.2.2.2.2.2.2.2.2.2.2.2.2.2.2.2.2.1, trivial⟩
theorem wf24x_Line_Acting (x : RLead) (h : wfW TabW 24 x) : x.Line.Acting.length ≤ 9223372036854775807 ∧ ∀ y ∈ x.Line.Acting, wfW TabW 14 y := by
  have h := Eq.mp (wfW_eq tabOK 24 x) h
  exact h.2.2.2.2.2.2.2.2.2.2.2.2.2.2.2.2.2.2.2.2.2.2.2.2.2.2.2.1
theorem wf24x_Line_State (x : RLead) (h : wfW TabW 24 x) : wfW TabW 11 x.Line.State := by
  have h := Eq.mp (wfW_eq tabOK 24 x) h
  refine Eq.mpr (wfW_eq tabOK 11 x.Line.State) ?_
  exact ⟨h.2.2.2.2.2.2.2.2.2.2.2.2.2.2.2.2.2.2.2.2.2.2.2.2.2.2.2.2.1, h.2.2.2.2.2.2.2.2.2.2.2.2.2.2.2.2.2.2.2.2.2.2.2.2.2.2.2.2.2.1, h.2.2.2.2.2.2.2.2.2.2.2.2.2.2.2.2.2.2.2.2.2.2.2.2.2.2.2.2.2.2.1, h.2.2.2.2.2.2.2.2.2.2.2.2.2.2.2.2.2.2.2.2.2.2.2.2.2.2.2.2.2.2.2.1, h.2.2.2.2.2.2.2.2.2.2.2.2.2.2.2.2.2.2.2.2.2.2.2.2.2.2.2.2.2.2.2.2.1, h.2.2.2.2.2.2.2.2.2.2.2.2.2.2.2.2.2.2.2.2.2.2.2.2.2.2.2.2.2.2.2.2.2.1, h.2.2.2.2.2.2.2.2.2.2.2.2.2.2.2.2.2.2.2.2.2.2.2.2.2.2.2.2.2.2.2.2.2.2.1, h.2.2.2.2.2.2.2.2.2.2.2.2.2.2.2.2.2.2.2.2.2.2.2.2.2.2.2.2.2.2.2.2.2.2.2.1, h.2.2.2.2.2.2.2.2.2.2.2.2.2.2.2.2.2.2.2.2.2.2.2.2.2.2.2.2.2.2.2.2.2.2.2.2.1, h.2.2.2.2.2.2.2.2.2.2.2.2.2.2.2.2.2.2.2.2.2.2.2.2.2.2.2.2.2.2.2.2.2.2.2.2.2.1, h.2.2.2.2.2.2.2.2.2.2.2.2.2.2.2.2.2.2.2.2.2.2.2.2.2.2.2.2.2.2.2.2.2.2.2.2.2.2.1, h.2.2.2.2.2.2.2.2.2.2.2.2.2.2.2.2.2.2.2.2.2.2.2.2.2.2.2.2.2.2.2.2.2.2.2.2.2.2.2.1, trivial⟩
theorem wf24x_Line_State_Pg (x : RLead) (h : wfW TabW 24 x) : wfW TabW 10 x.Line.State.Pg := by
  have h := Eq.mp (wfW_eq tabOK 24 x) h
  refine Eq.mpr (wfW_eq tabOK 10 x.Line.State.Pg) ?_
  exact ⟨h.2.2.2.2.2.2.2.2.2.2.2.2.2.2.2.2.2.2.2.2.2.2.2.2.2.2.2.2.1, h.2.2.2.2.2.2.2.2.2.2.2.2.2.2.2.2.2.2.2.2.2.2.2.2.2.2.2.2.2.1, trivial⟩
theorem wf24x_Line_State_Tail (x : RLead) (h : wfW TabW 24 x) : wfW TabW 4 x.Line.State.Tail := by
  have h := Eq.mp (wfW_eq tabOK 24 x) h
  refine Eq.mpr (wfW_eq tabOK 4 x.Line.State.Tail) ?_
  exact ⟨h.2.2.2.2.2.2.2.2.2.2.2.2.2.2.2.2.2.2.2.2.2.2.2.2.2.2.2.2.2.2.2.2.1, h.2.2.2.2.2.2.2.2.2.2.2.2.2.2.2.2.2.2.2.2.2.2.2.2.2.2.2.2.2.2.2.2.2.1, trivial⟩
theorem wf24x_Line_State_Base (x : RLead) (h : wfW TabW 24 x) : x.Line.State.Base.length ≤ 9223372036854775807 ∧ ∀ y ∈ x.Line.State.Base, wfW TabW 5 y := by
  have h := Eq.mp (wfW_eq tabOK 24 x) h
  exact h.2.2.2.2.2.2.2.2.2.2.2.2.2.2.2.2.2.2.2.2.2.2.2.2.2.2.2.2.2.2.2.2.2.2.1
theorem wf24x_Line_State_Clients (x : RLead) (h : wfW TabW 24 x) : x.Line.State.Clients.length ≤ 9223372036854775807 ∧ ∀ y ∈ x.Line.State.Clients, wfW TabW 6 y := by
  have h := Eq.mp (wfW_eq tabOK 24 x) h
  exact h.2.2.2.2.2.2.2.2.2.2.2.2.2.2.2.2.2.2.2.2.2.2.2.2.2.2.2.2.2.2.2.2.2.2.2.1
theorem wf24x_Line_State_Log (x : RLead) (h : wfW TabW 24 x) : x.Line.State.Log.length ≤ 9223372036854775807 ∧ ∀ y ∈ x.Line.State.Log, wfW TabW 8 y := by
  have h := Eq.mp (wfW_eq tabOK 24 x) h
  exact h.2.2.2.2.2.2.2.2.2.2.2.2.2.2.2.2.2.2.2.2.2.2.2.2.2.2.2.2.2.2.2.2.2.2.2.2.1
theorem wf24x_Line_State_Firm (x : RLead) (h : wfW TabW 24 x) : wfW TabW 4 x.Line.State.Firm := by
  have h := Eq.mp (wfW_eq tabOK 24 x) h
  refine Eq.mpr (wfW_eq tabOK 4 x.Line.State.Firm) ?_
  exact ⟨h.2.2.2.2.2.2.2.2.2.2.2.2.2.2.2.2.2.2.2.2.2.2.2.2.2.2.2.2.2.2.2.2.2.2.2.2.2.1, h.2.2.2.2.2.2.2.2.2.2.2.2.2.2.2.2.2.2.2.2.2.2.2.2.2.2.2.2.2.2.2.2.2.2.2.2.2.2.1, trivial⟩
theorem wf24x_Line_State_Chunks (x : RLead) (h : wfW TabW 24 x) : x.Line.State.Chunks.length ≤ 9223372036854775807 ∧ ∀ y ∈ x.Line.State.Chunks, wfW TabW 9 y := by
  have h := Eq.mp (wfW_eq tabOK 24 x) h
  exact h.2.2.2.2.2.2.2.2.2.2.2.2.2.2.2.2.2.2.2.2.2.2.2.2.2.2.2.2.2.2.2.2.2.2.2.2.2.2.2.1
theorem wf24x_Line_Way (x : RLead) (h : wfW TabW 24 x) : x.Line.Way.length ≤ 9223372036854775807 ∧ ∀ y ∈ x.Line.Way, wfW TabW 18 y := by
  have h := Eq.mp (wfW_eq tabOK 24 x) h
  exact h.2.2.2.2.2.2.2.2.2.2.2.2.2.2.2.2.2.2.2.2.2.2.2.2.2.2.2.2.2.2.2.2.2.2.2.2.2.2.2.2.1
theorem wf24x_Line_Acks (x : RLead) (h : wfW TabW 24 x) : x.Line.Acks.length ≤ 9223372036854775807 ∧ ∀ y ∈ x.Line.Acks, wfW TabW 19 y := by
  have h := Eq.mp (wfW_eq tabOK 24 x) h
  exact h.2.2.2.2.2.2.2.2.2.2.2.2.2.2.2.2.2.2.2.2.2.2.2.2.2.2.2.2.2.2.2.2.2.2.2.2.2.2.2.2.2.1
theorem wf24x_Line_Waits (x : RLead) (h : wfW TabW 24 x) : x.Line.Waits.length ≤ 9223372036854775807 ∧ ∀ y ∈ x.Line.Waits, wfW TabW 21 y := by
  have h := Eq.mp (wfW_eq tabOK 24 x) h
  exact h.2.2.2.2.2.2.2.2.2.2.2.2.2.2.2.2.2.2.2.2.2.2.2.2.2.2.2.2.2.2.2.2.2.2.2.2.2.2.2.2.2.2.1
theorem wf25x_Bytes (x : ROp) (h : wfW TabW 25 x) : x.Bytes.size ≤ 9223372036854775807 := by
  have h := Eq.mp (wfW_eq tabOK 25 x) h
  exact h.2.2.1
theorem wf26x_Pg (x : RMsg) (h : wfW TabW 26 x) : wfW TabW 10 x.Pg := by
  have h := Eq.mp (wfW_eq tabOK 26 x) h
  refine Eq.mpr (wfW_eq tabOK 10 x.Pg) ?_
  exact ⟨h.2.2.2.1, h.2.2.2.2.1, trivial⟩
theorem wf26x_Name (x : RMsg) (h : wfW TabW 26 x) : x.Name.size ≤ 9223372036854775807 := by
  have h := Eq.mp (wfW_eq tabOK 26 x) h
  exact h.2.2.2.2.2.2.1
theorem wf26x_Ver (x : RMsg) (h : wfW TabW 26 x) : wfW TabW 4 x.Ver := by
  have h := Eq.mp (wfW_eq tabOK 26 x) h
  refine Eq.mpr (wfW_eq tabOK 4 x.Ver) ?_
  exact ⟨h.2.2.2.2.2.2.2.1, h.2.2.2.2.2.2.2.2.1, trivial⟩
theorem wf26x_Firm (x : RMsg) (h : wfW TabW 26 x) : wfW TabW 4 x.Firm := by
  have h := Eq.mp (wfW_eq tabOK 26 x) h
  refine Eq.mpr (wfW_eq tabOK 4 x.Firm) ?_
  exact ⟨h.2.2.2.2.2.2.2.2.2.1, h.2.2.2.2.2.2.2.2.2.2.1, trivial⟩
theorem wf26x_State (x : RMsg) (h : wfW TabW 26 x) : wfW TabW 11 x.State := by
  have h := Eq.mp (wfW_eq tabOK 26 x) h
  refine Eq.mpr (wfW_eq tabOK 11 x.State) ?_
  exact ⟨h.2.2.2.2.2.2.2.2.2.2.2.1, h.2.2.2.2.2.2.2.2.2.2.2.2.1, h.2.2.2.2.2.2.2.2.2.2.2.2.2.1, h.2.2.2.2.2.2.2.2.2.2.2.2.2.2.1, h.2.2.2.2.2.2.2.2.2.2.2.2.2.2.2.1, h.2.2.2.2.2.2.2.2.2.2.2.2.2.2.2.2.1, h.2.2.2.2.2.2.2.2.2.2.2.2.2.2.2.2.2.1, h.2.2.2.2.2.2.2.2.2.2.2.2.2.2.2.2.2.2.1, h.2.2.2.2.2.2.2.2.2.2.2.2.2.2.2.2.2.2.2.1, h.2.2.2.2.2.2.2.2.2.2.2.2.2.2.2.2.2.2.2.2.1, h.2.2.2.2.2.2.2.2.2.2.2.2.2.2.2.2.2.2.2.2.2.1, h.2.2.2.2.2.2.2.2.2.2.2.2.2.2.2.2.2.2.2.2.2.2.1, trivial⟩
theorem wf26x_State_Pg (x : RMsg) (h : wfW TabW 26 x) : wfW TabW 10 x.State.Pg := by
  have h := Eq.mp (wfW_eq tabOK 26 x) h
  refine Eq.mpr (wfW_eq tabOK 10 x.State.Pg) ?_
  exact ⟨h.2.2.2.2.2.2.2.2.2.2.2.1, h.2.2.2.2.2.2.2.2.2.2.2.2.1, trivial⟩
theorem wf26x_State_Tail (x : RMsg) (h : wfW TabW 26 x) : wfW TabW 4 x.State.Tail := by
  have h := Eq.mp (wfW_eq tabOK 26 x) h
  refine Eq.mpr (wfW_eq tabOK 4 x.State.Tail) ?_
  exact ⟨h.2.2.2.2.2.2.2.2.2.2.2.2.2.2.2.1, h.2.2.2.2.2.2.2.2.2.2.2.2.2.2.2.2.1, trivial⟩
theorem wf26x_State_Base (x : RMsg) (h : wfW TabW 26 x) : x.State.Base.length ≤ 9223372036854775807 ∧ ∀ y ∈ x.State.Base, wfW TabW 5 y := by
  have h := Eq.mp (wfW_eq tabOK 26 x) h
  exact h.2.2.2.2.2.2.2.2.2.2.2.2.2.2.2.2.2.1
theorem wf26x_State_Clients (x : RMsg) (h : wfW TabW 26 x) : x.State.Clients.length ≤ 9223372036854775807 ∧ ∀ y ∈ x.State.Clients, wfW TabW 6 y := by
  have h := Eq.mp (wfW_eq tabOK 26 x) h
  exact h.2.2.2.2.2.2.2.2.2.2.2.2.2.2.2.2.2.2.1
theorem wf26x_State_Log (x : RMsg) (h : wfW TabW 26 x) : x.State.Log.length ≤ 9223372036854775807 ∧ ∀ y ∈ x.State.Log, wfW TabW 8 y := by
  have h := Eq.mp (wfW_eq tabOK 26 x) h
  exact h.2.2.2.2.2.2.2.2.2.2.2.2.2.2.2.2.2.2.2.1
theorem wf26x_State_Firm (x : RMsg) (h : wfW TabW 26 x) : wfW TabW 4 x.State.Firm := by
  have h := Eq.mp (wfW_eq tabOK 26 x) h
  refine Eq.mpr (wfW_eq tabOK 4 x.State.Firm) ?_
  exact ⟨h.2.2.2.2.2.2.2.2.2.2.2.2.2.2.2.2.2.2.2.2.1, h.2.2.2.2.2.2.2.2.2.2.2.2.2.2.2.2.2.2.2.2.2.1, trivial⟩
theorem wf26x_State_Chunks (x : RMsg) (h : wfW TabW 26 x) : x.State.Chunks.length ≤ 9223372036854775807 ∧ ∀ y ∈ x.State.Chunks, wfW TabW 9 y := by
  have h := Eq.mp (wfW_eq tabOK 26 x) h
  exact h.2.2.2.2.2.2.2.2.2.2.2.2.2.2.2.2.2.2.2.2.2.2.1
theorem wf26x_Entry (x : RMsg) (h : wfW TabW 26 x) : wfW TabW 8 x.Entry := by
  have h := Eq.mp (wfW_eq tabOK 26 x) h
  refine Eq.mpr (wfW_eq tabOK 8 x.Entry) ?_
  exact ⟨h.2.2.2.2.2.2.2.2.2.2.2.2.2.2.2.2.2.2.2.2.2.2.2.1, h.2.2.2.2.2.2.2.2.2.2.2.2.2.2.2.2.2.2.2.2.2.2.2.2.1, h.2.2.2.2.2.2.2.2.2.2.2.2.2.2.2.2.2.2.2.2.2.2.2.2.2.1, h.2.2.2.2.2.2.2.2.2.2.2.2.2.2.2.2.2.2.2.2.2.2.2.2.2.2.1, h.2.2.2.2.2.2.2.2.2.2.2.2.2.2.2.2.2.2.2.2.2.2.2.2.2.2.2.1, h.2.2.2.2.2.2.2.2.2.2.2.2.2.2.2.2.2.2.2.2.2.2.2.2.2.2.2.2.1, h.2.2.2.2.2.2.2.2.2.2.2.2.2.2.2.2.2.2.2.2.2.2.2.2.2.2.2.2.2.1, h.2.2.2.2.2.2.2.2.2.2.2.2.2.2.2.2.2.2.2.2.2.2.2.2.2.2.2.2.2.2.1, h.2.2.2.2.2.2.2.2.2.2.2.2.2.2.2.2.2.2.2.2.2.2.2.2.2.2.2.2.2.2.2.1, h.2.2.2.2.2.2.2.2.2.2.2.2.2.2.2.2.2.2.2.2.2.2.2.2.2.2.2.2.2.2.2.2.1, trivial⟩
theorem wf26x_Entry_Ver (x : RMsg) (h : wfW TabW 26 x) : wfW TabW 4 x.Entry.Ver := by
  have h := Eq.mp (wfW_eq tabOK 26 x) h
  refine Eq.mpr (wfW_eq tabOK 4 x.Entry.Ver) ?_
  exact ⟨h.2.2.2.2.2.2.2.2.2.2.2.2.2.2.2.2.2.2.2.2.2.2.2.1, h.2.2.2.2.2.2.2.2.2.2.2.2.2.2.2.2.2.2.2.2.2.2.2.2.1, trivial⟩
theorem wf26x_Entry_Prior (x : RMsg) (h : wfW TabW 26 x) : wfW TabW 4 x.Entry.Prior := by
  have h := Eq.mp (wfW_eq tabOK 26 x) h
  refine Eq.mpr (wfW_eq tabOK 4 x.Entry.Prior) ?_
  exact ⟨h.2.2.2.2.2.2.2.2.2.2.2.2.2.2.2.2.2.2.2.2.2.2.2.2.2.1, h.2.2.2.2.2.2.2.2.2.2.2.2.2.2.2.2.2.2.2.2.2.2.2.2.2.2.1, trivial⟩
theorem wf26x_Entry_Name (x : RMsg) (h : wfW TabW 26 x) : x.Entry.Name.size ≤ 9223372036854775807 := by
  have h := Eq.mp (wfW_eq tabOK 26 x) h
  exact h.2.2.2.2.2.2.2.2.2.2.2.2.2.2.2.2.2.2.2.2.2.2.2.2.2.2.2.1
theorem wf26x_Entry_Req (x : RMsg) (h : wfW TabW 26 x) : wfW TabW 7 x.Entry.Req := by
  have h := Eq.mp (wfW_eq tabOK 26 x) h
  refine Eq.mpr (wfW_eq tabOK 7 x.Entry.Req) ?_
  exact ⟨h.2.2.2.2.2.2.2.2.2.2.2.2.2.2.2.2.2.2.2.2.2.2.2.2.2.2.2.2.2.2.2.1, h.2.2.2.2.2.2.2.2.2.2.2.2.2.2.2.2.2.2.2.2.2.2.2.2.2.2.2.2.2.2.2.2.1, trivial⟩
theorem wf26x_Chunk (x : RMsg) (h : wfW TabW 26 x) : wfW TabW 9 x.Chunk := by
  have h := Eq.mp (wfW_eq tabOK 26 x) h
  refine Eq.mpr (wfW_eq tabOK 9 x.Chunk) ?_
  exact ⟨h.2.2.2.2.2.2.2.2.2.2.2.2.2.2.2.2.2.2.2.2.2.2.2.2.2.2.2.2.2.2.2.2.2.1, h.2.2.2.2.2.2.2.2.2.2.2.2.2.2.2.2.2.2.2.2.2.2.2.2.2.2.2.2.2.2.2.2.2.2.1, h.2.2.2.2.2.2.2.2.2.2.2.2.2.2.2.2.2.2.2.2.2.2.2.2.2.2.2.2.2.2.2.2.2.2.2.1, h.2.2.2.2.2.2.2.2.2.2.2.2.2.2.2.2.2.2.2.2.2.2.2.2.2.2.2.2.2.2.2.2.2.2.2.2.1, h.2.2.2.2.2.2.2.2.2.2.2.2.2.2.2.2.2.2.2.2.2.2.2.2.2.2.2.2.2.2.2.2.2.2.2.2.2.1, h.2.2.2.2.2.2.2.2.2.2.2.2.2.2.2.2.2.2.2.2.2.2.2.2.2.2.2.2.2.2.2.2.2.2.2.2.2.2.1, trivial⟩
theorem wf26x_Chunk_Name (x : RMsg) (h : wfW TabW 26 x) : x.Chunk.Name.size ≤ 9223372036854775807 := by
  have h := Eq.mp (wfW_eq tabOK 26 x) h
  exact h.2.2.2.2.2.2.2.2.2.2.2.2.2.2.2.2.2.2.2.2.2.2.2.2.2.2.2.2.2.2.2.2.2.1
theorem wf26x_Chunk_Ver (x : RMsg) (h : wfW TabW 26 x) : wfW TabW 4 x.Chunk.Ver := by
  have h := Eq.mp (wfW_eq tabOK 26 x) h
  refine Eq.mpr (wfW_eq tabOK 4 x.Chunk.Ver) ?_
  exact ⟨h.2.2.2.2.2.2.2.2.2.2.2.2.2.2.2.2.2.2.2.2.2.2.2.2.2.2.2.2.2.2.2.2.2.2.1, h.2.2.2.2.2.2.2.2.2.2.2.2.2.2.2.2.2.2.2.2.2.2.2.2.2.2.2.2.2.2.2.2.2.2.2.1, trivial⟩
theorem wf26x_Chunk_Bytes (x : RMsg) (h : wfW TabW 26 x) : x.Chunk.Bytes.size ≤ 9223372036854775807 := by
  have h := Eq.mp (wfW_eq tabOK 26 x) h
  exact h.2.2.2.2.2.2.2.2.2.2.2.2.2.2.2.2.2.2.2.2.2.2.2.2.2.2.2.2.2.2.2.2.2.2.2.2.2.2.1
theorem wf26x_Op (x : RMsg) (h : wfW TabW 26 x) : wfW TabW 25 x.Op := by
  have h := Eq.mp (wfW_eq tabOK 26 x) h
  refine Eq.mpr (wfW_eq tabOK 25 x.Op) ?_
  exact ⟨h.2.2.2.2.2.2.2.2.2.2.2.2.2.2.2.2.2.2.2.2.2.2.2.2.2.2.2.2.2.2.2.2.2.2.2.2.2.2.2.1, h.2.2.2.2.2.2.2.2.2.2.2.2.2.2.2.2.2.2.2.2.2.2.2.2.2.2.2.2.2.2.2.2.2.2.2.2.2.2.2.2.1, h.2.2.2.2.2.2.2.2.2.2.2.2.2.2.2.2.2.2.2.2.2.2.2.2.2.2.2.2.2.2.2.2.2.2.2.2.2.2.2.2.2.1, trivial⟩
theorem wf26x_Op_Bytes (x : RMsg) (h : wfW TabW 26 x) : x.Op.Bytes.size ≤ 9223372036854775807 := by
  have h := Eq.mp (wfW_eq tabOK 26 x) h
  exact h.2.2.2.2.2.2.2.2.2.2.2.2.2.2.2.2.2.2.2.2.2.2.2.2.2.2.2.2.2.2.2.2.2.2.2.2.2.2.2.2.2.1
theorem wf26x_Req (x : RMsg) (h : wfW TabW 26 x) : wfW TabW 7 x.Req := by
  have h := Eq.mp (wfW_eq tabOK 26 x) h
  refine Eq.mpr (wfW_eq tabOK 7 x.Req) ?_
  exact ⟨h.2.2.2.2.2.2.2.2.2.2.2.2.2.2.2.2.2.2.2.2.2.2.2.2.2.2.2.2.2.2.2.2.2.2.2.2.2.2.2.2.2.2.1, h.2.2.2.2.2.2.2.2.2.2.2.2.2.2.2.2.2.2.2.2.2.2.2.2.2.2.2.2.2.2.2.2.2.2.2.2.2.2.2.2.2.2.2.1, trivial⟩
theorem wf26x_Body (x : RMsg) (h : wfW TabW 26 x) : x.Body.size ≤ 9223372036854775807 := by
  have h := Eq.mp (wfW_eq tabOK 26 x) h
  exact h.2.2.2.2.2.2.2.2.2.2.2.2.2.2.2.2.2.2.2.2.2.2.2.2.2.2.2.2.2.2.2.2.2.2.2.2.2.2.2.2.2.2.2.2.2.1
theorem wf28x_Store (x : RServer) (h : wfW TabW 28 x) : wfW TabW 13 x.Store := by
  have h := Eq.mp (wfW_eq tabOK 28 x) h
  refine Eq.mpr (wfW_eq tabOK 13 x.Store) ?_
  exact ⟨h.2.2.2.1, h.2.2.2.2.1, trivial⟩
theorem wf28x_Store_Live (x : RServer) (h : wfW TabW 28 x) : x.Store.Live.length ≤ 9223372036854775807 ∧ ∀ y ∈ x.Store.Live, wfW TabW 11 y := by
  have h := Eq.mp (wfW_eq tabOK 28 x) h
  exact h.2.2.2.1
theorem wf28x_Store_Kept (x : RServer) (h : wfW TabW 28 x) : x.Store.Kept.length ≤ 9223372036854775807 ∧ ∀ y ∈ x.Store.Kept, wfW TabW 11 y := by
  have h := Eq.mp (wfW_eq tabOK 28 x) h
  exact h.2.2.2.2.1
theorem wf28x_Leads (x : RServer) (h : wfW TabW 28 x) : x.Leads.length ≤ 9223372036854775807 ∧ ∀ y ∈ x.Leads, wfW TabW 24 y := by
  have h := Eq.mp (wfW_eq tabOK 28 x) h
  exact h.2.2.2.2.2.1
theorem wf28x_Out (x : RServer) (h : wfW TabW 28 x) : x.Out.length ≤ 9223372036854775807 ∧ ∀ y ∈ x.Out, wfW TabW 26 y := by
  have h := Eq.mp (wfW_eq tabOK 28 x) h
  exact h.2.2.2.2.2.2.1
def cnt_szHead (x : RHead) : Nat := x.Name.size + (0)
theorem szHead_eq (x : RHead) (w : wfW TabW 5 x) (left : Int) (h0 : 0 ≤ left) (h1 : left ≤ 1048576) : laws_szHead x left = some (if left < (cnt_szHead x : Int) then -1 else left - (cnt_szHead x : Int)) := by
  unfold laws_szHead cnt_szHead
  refine sz_let (K := fun x0 =>
  some x0) _ (0) (wf5x_Name x w) h0 h1 (fun v h0 h1 => ?_)
  exact sz_ret v h0
def cnt_szHeadS (x : (List RHead)) : Nat := cntL cnt_szHead x
theorem szHeadS_eq (x : (List RHead)) (w : x.length ≤ 9223372036854775807) (w2 : ∀ y ∈ x, wfW TabW 5 y) (left : Int) (h0 : 0 ≤ left) (h1 : left ≤ 1048576) : laws_szHeadS x left = some (if left < (cnt_szHeadS x : Int) then -1 else left - (cnt_szHeadS x : Int)) := by
  unfold laws_szHeadS
  refine szL x cnt_szHead h0 h1 w (xt := fun v => .inl v) (xf := .inr (-1, -1)) (fun i h v v0 v1 => ?_) (fun v => ?_) (fun v => rfl) rfl
  · unfold laws_szHeadS_l0
    have hb : (i : Int) < (x.length : Int) := by omega
    rw [show decide (((v, (i : Int)) : Int × Int).2 < (x.length : Int)) = true from decide_eq_true hb, cond_true, ix_nat, List.getElem?_eq_getElem h, Option.bind_some, szHead_eq _ (w2 _ (List.getElem_mem h)) _ v0 v1, Option.bind_some]
    by_cases hv : v < (cnt_szHead x[i] : Int)
    · rw [if_pos hv, if_pos hv]; rfl
    · have hi : i < 9223372036854775807 := by omega
      rw [if_neg hv, if_neg hv, show decide (v - (cnt_szHead x[i] : Int) < 0) = false from decide_eq_false (by omega), wrap_succ i hi]; rfl
  · unfold laws_szHeadS_l0
    rw [show decide (((v, (x.length : Int)) : Int × Int).2 < (x.length : Int)) = false from decide_eq_false (by simp), cond_false]
def cnt_szLastS (x : (List RLast)) : Nat := x.length + 0
theorem szLastS_eq (x : (List RLast)) (w : x.length ≤ 9223372036854775807) (_w2 : ∀ y ∈ x, wfW TabW 6 y) (left : Int) (h0 : 0 ≤ left) (h1 : left ≤ 1048576) : laws_szLastS x left = some (if left < (cnt_szLastS x : Int) then -1 else left - (cnt_szLastS x : Int)) := by
  unfold laws_szLastS
  exact sz_let _ 0 w h0 h1 (fun v v0 v1 => sz_ret v v0)
def cnt_szEntry (x : REntry) : Nat := x.Name.size + (0)
theorem szEntry_eq (x : REntry) (w : wfW TabW 8 x) (left : Int) (h0 : 0 ≤ left) (h1 : left ≤ 1048576) : laws_szEntry x left = some (if left < (cnt_szEntry x : Int) then -1 else left - (cnt_szEntry x : Int)) := by
  unfold laws_szEntry cnt_szEntry
  refine sz_let (K := fun x0 =>
  some x0) _ (0) (wf8x_Name x w) h0 h1 (fun v h0 h1 => ?_)
  exact sz_ret v h0
def cnt_szEntryS (x : (List REntry)) : Nat := cntL cnt_szEntry x
theorem szEntryS_eq (x : (List REntry)) (w : x.length ≤ 9223372036854775807) (w2 : ∀ y ∈ x, wfW TabW 8 y) (left : Int) (h0 : 0 ≤ left) (h1 : left ≤ 1048576) : laws_szEntryS x left = some (if left < (cnt_szEntryS x : Int) then -1 else left - (cnt_szEntryS x : Int)) := by
  unfold laws_szEntryS
  refine szL x cnt_szEntry h0 h1 w (xt := fun v => .inl v) (xf := .inr (-1, -1)) (fun i h v v0 v1 => ?_) (fun v => ?_) (fun v => rfl) rfl
  · unfold laws_szEntryS_l0
    have hb : (i : Int) < (x.length : Int) := by omega
    rw [show decide (((v, (i : Int)) : Int × Int).2 < (x.length : Int)) = true from decide_eq_true hb, cond_true, ix_nat, List.getElem?_eq_getElem h, Option.bind_some, szEntry_eq _ (w2 _ (List.getElem_mem h)) _ v0 v1, Option.bind_some]
    by_cases hv : v < (cnt_szEntry x[i] : Int)
    · rw [if_pos hv, if_pos hv]; rfl
    · have hi : i < 9223372036854775807 := by omega
      rw [if_neg hv, if_neg hv, show decide (v - (cnt_szEntry x[i] : Int) < 0) = false from decide_eq_false (by omega), wrap_succ i hi]; rfl
  · unfold laws_szEntryS_l0
    rw [show decide (((v, (x.length : Int)) : Int × Int).2 < (x.length : Int)) = false from decide_eq_false (by simp), cond_false]
def cnt_szChunk (x : RChunk) : Nat := x.Name.size + (x.Bytes.size + (0))
theorem szChunk_eq (x : RChunk) (w : wfW TabW 9 x) (left : Int) (h0 : 0 ≤ left) (h1 : left ≤ 1048576) : laws_szChunk x left = some (if left < (cnt_szChunk x : Int) then -1 else left - (cnt_szChunk x : Int)) := by
  unfold laws_szChunk cnt_szChunk
  refine sz_let (K := fun x0 =>
  (let x1 : Int := (IntKind.wrap .i64 (x0 - ((x.Bytes).size : Int)))
 (bif (decide (x1 < 0)) then some (-1) else
 some x1))) _ (x.Bytes.size + (0)) (wf9x_Name x w) h0 h1 (fun v h0 h1 => ?_)
  refine sz_let (K := fun x1 =>
  some x1) _ (0) (wf9x_Bytes x w) h0 h1 (fun v h0 h1 => ?_)
  exact sz_ret v h0
def cnt_szChunkS (x : (List RChunk)) : Nat := cntL cnt_szChunk x
theorem szChunkS_eq (x : (List RChunk)) (w : x.length ≤ 9223372036854775807) (w2 : ∀ y ∈ x, wfW TabW 9 y) (left : Int) (h0 : 0 ≤ left) (h1 : left ≤ 1048576) : laws_szChunkS x left = some (if left < (cnt_szChunkS x : Int) then -1 else left - (cnt_szChunkS x : Int)) := by
  unfold laws_szChunkS
  refine szL x cnt_szChunk h0 h1 w (xt := fun v => .inl v) (xf := .inr (-1, -1)) (fun i h v v0 v1 => ?_) (fun v => ?_) (fun v => rfl) rfl
  · unfold laws_szChunkS_l0
    have hb : (i : Int) < (x.length : Int) := by omega
    rw [show decide (((v, (i : Int)) : Int × Int).2 < (x.length : Int)) = true from decide_eq_true hb, cond_true, ix_nat, List.getElem?_eq_getElem h, Option.bind_some, szChunk_eq _ (w2 _ (List.getElem_mem h)) _ v0 v1, Option.bind_some]
    by_cases hv : v < (cnt_szChunk x[i] : Int)
    · rw [if_pos hv, if_pos hv]; rfl
    · have hi : i < 9223372036854775807 := by omega
      rw [if_neg hv, if_neg hv, show decide (v - (cnt_szChunk x[i] : Int) < 0) = false from decide_eq_false (by omega), wrap_succ i hi]; rfl
  · unfold laws_szChunkS_l0
    rw [show decide (((v, (x.length : Int)) : Int × Int).2 < (x.length : Int)) = false from decide_eq_false (by simp), cond_false]
def cnt_szPgState (x : RPgState) : Nat := cnt_szHeadS x.Base + (cnt_szLastS x.Clients + (cnt_szEntryS x.Log + (cnt_szChunkS x.Chunks + (0))))
theorem szPgState_eq (x : RPgState) (w : wfW TabW 11 x) (left : Int) (h0 : 0 ≤ left) (h1 : left ≤ 1048576) : laws_szPgState x left = some (if left < (cnt_szPgState x : Int) then -1 else left - (cnt_szPgState x : Int)) := by
  unfold laws_szPgState cnt_szPgState
  rw [szHeadS_eq _ (wf11x_Base x w).1 (wf11x_Base x w).2 _ h0 h1]
  refine sz_bind _ (cnt_szLastS x.Clients + (cnt_szEntryS x.Log + (cnt_szChunkS x.Chunks + (0)))) h0 h1 (fun v h0 h1 => ?_)
  rw [szLastS_eq _ (wf11x_Clients x w).1 (wf11x_Clients x w).2 _ h0 h1]
  refine sz_bind _ (cnt_szEntryS x.Log + (cnt_szChunkS x.Chunks + (0))) h0 h1 (fun v h0 h1 => ?_)
  rw [szEntryS_eq _ (wf11x_Log x w).1 (wf11x_Log x w).2 _ h0 h1]
  refine sz_bind _ (cnt_szChunkS x.Chunks + (0)) h0 h1 (fun v h0 h1 => ?_)
  rw [szChunkS_eq _ (wf11x_Chunks x w).1 (wf11x_Chunks x w).2 _ h0 h1]
  refine sz_bind _ (0) h0 h1 (fun v h0 h1 => ?_)
  exact sz_ret v h0
def cnt_szPgStateS (x : (List RPgState)) : Nat := cntL cnt_szPgState x
theorem szPgStateS_eq (x : (List RPgState)) (w : x.length ≤ 9223372036854775807) (w2 : ∀ y ∈ x, wfW TabW 11 y) (left : Int) (h0 : 0 ≤ left) (h1 : left ≤ 1048576) : laws_szPgStateS x left = some (if left < (cnt_szPgStateS x : Int) then -1 else left - (cnt_szPgStateS x : Int)) := by
  unfold laws_szPgStateS
  refine szL x cnt_szPgState h0 h1 w (xt := fun v => .inl v) (xf := .inr (-1, -1)) (fun i h v v0 v1 => ?_) (fun v => ?_) (fun v => rfl) rfl
  · unfold laws_szPgStateS_l0
    have hb : (i : Int) < (x.length : Int) := by omega
    rw [show decide (((v, (i : Int)) : Int × Int).2 < (x.length : Int)) = true from decide_eq_true hb, cond_true, ix_nat, List.getElem?_eq_getElem h, Option.bind_some, szPgState_eq _ (w2 _ (List.getElem_mem h)) _ v0 v1, Option.bind_some]
    by_cases hv : v < (cnt_szPgState x[i] : Int)
    · rw [if_pos hv, if_pos hv]; rfl
    · have hi : i < 9223372036854775807 := by omega
      rw [if_neg hv, if_neg hv, show decide (v - (cnt_szPgState x[i] : Int) < 0) = false from decide_eq_false (by omega), wrap_succ i hi]; rfl
  · unfold laws_szPgStateS_l0
    rw [show decide (((v, (x.length : Int)) : Int × Int).2 < (x.length : Int)) = false from decide_eq_false (by simp), cond_false]
def cnt_szStore (x : RStore) : Nat := cnt_szPgStateS x.Live + (cnt_szPgStateS x.Kept + (0))
theorem szStore_eq (x : RStore) (w : wfW TabW 13 x) (left : Int) (h0 : 0 ≤ left) (h1 : left ≤ 1048576) : laws_szStore x left = some (if left < (cnt_szStore x : Int) then -1 else left - (cnt_szStore x : Int)) := by
  unfold laws_szStore cnt_szStore
  rw [szPgStateS_eq _ (wf13x_Live x w).1 (wf13x_Live x w).2 _ h0 h1]
  refine sz_bind _ (cnt_szPgStateS x.Kept + (0)) h0 h1 (fun v h0 h1 => ?_)
  rw [szPgStateS_eq _ (wf13x_Kept x w).1 (wf13x_Kept x w).2 _ h0 h1]
  refine sz_bind _ (0) h0 h1 (fun v h0 h1 => ?_)
  exact sz_ret v h0
def cnt_szInt64S (x : (List Int)) : Nat := x.length + 0
theorem szInt64S_eq (x : (List Int)) (w : x.length ≤ 9223372036854775807) (_w2 : ∀ y ∈ x, wfW TabW 14 y) (left : Int) (h0 : 0 ≤ left) (h1 : left ≤ 1048576) : laws_szInt64S x left = some (if left < (cnt_szInt64S x : Int) then -1 else left - (cnt_szInt64S x : Int)) := by
  unfold laws_szInt64S
  exact sz_let _ 0 w h0 h1 (fun v v0 v1 => sz_ret v v0)
def cnt_szInterval (x : RInterval) : Nat := cnt_szInt64S x.Acting + (0)
theorem szInterval_eq (x : RInterval) (w : wfW TabW 15 x) (left : Int) (h0 : 0 ≤ left) (h1 : left ≤ 1048576) : laws_szInterval x left = some (if left < (cnt_szInterval x : Int) then -1 else left - (cnt_szInterval x : Int)) := by
  unfold laws_szInterval cnt_szInterval
  rw [szInt64S_eq _ (wf15x_Acting x w).1 (wf15x_Acting x w).2 _ h0 h1]
  refine sz_bind _ (0) h0 h1 (fun v h0 h1 => ?_)
  exact sz_ret v h0
def cnt_szIntervalS (x : (List RInterval)) : Nat := cntL cnt_szInterval x
theorem szIntervalS_eq (x : (List RInterval)) (w : x.length ≤ 9223372036854775807) (w2 : ∀ y ∈ x, wfW TabW 15 y) (left : Int) (h0 : 0 ≤ left) (h1 : left ≤ 1048576) : laws_szIntervalS x left = some (if left < (cnt_szIntervalS x : Int) then -1 else left - (cnt_szIntervalS x : Int)) := by
  unfold laws_szIntervalS
  refine szL x cnt_szInterval h0 h1 w (xt := fun v => .inl v) (xf := .inr (-1, -1)) (fun i h v v0 v1 => ?_) (fun v => ?_) (fun v => rfl) rfl
  · unfold laws_szIntervalS_l0
    have hb : (i : Int) < (x.length : Int) := by omega
    rw [show decide (((v, (i : Int)) : Int × Int).2 < (x.length : Int)) = true from decide_eq_true hb, cond_true, ix_nat, List.getElem?_eq_getElem h, Option.bind_some, szInterval_eq _ (w2 _ (List.getElem_mem h)) _ v0 v1, Option.bind_some]
    by_cases hv : v < (cnt_szInterval x[i] : Int)
    · rw [if_pos hv, if_pos hv]; rfl
    · have hi : i < 9223372036854775807 := by omega
      rw [if_neg hv, if_neg hv, show decide (v - (cnt_szInterval x[i] : Int) < 0) = false from decide_eq_false (by omega), wrap_succ i hi]; rfl
  · unfold laws_szIntervalS_l0
    rw [show decide (((v, (x.length : Int)) : Int × Int).2 < (x.length : Int)) = false from decide_eq_false (by simp), cond_false]
def cnt_szNotice (x : RNotice) : Nat := cnt_szPgState x.State + (0)
theorem szNotice_eq (x : RNotice) (w : wfW TabW 16 x) (left : Int) (h0 : 0 ≤ left) (h1 : left ≤ 1048576) : laws_szNotice x left = some (if left < (cnt_szNotice x : Int) then -1 else left - (cnt_szNotice x : Int)) := by
  unfold laws_szNotice cnt_szNotice
  rw [szPgState_eq _ (wf16x_State x w) _ h0 h1]
  refine sz_bind _ (0) h0 h1 (fun v h0 h1 => ?_)
  exact sz_ret v h0
def cnt_szNoticeS (x : (List RNotice)) : Nat := cntL cnt_szNotice x
theorem szNoticeS_eq (x : (List RNotice)) (w : x.length ≤ 9223372036854775807) (w2 : ∀ y ∈ x, wfW TabW 16 y) (left : Int) (h0 : 0 ≤ left) (h1 : left ≤ 1048576) : laws_szNoticeS x left = some (if left < (cnt_szNoticeS x : Int) then -1 else left - (cnt_szNoticeS x : Int)) := by
  unfold laws_szNoticeS
  refine szL x cnt_szNotice h0 h1 w (xt := fun v => .inl v) (xf := .inr (-1, -1)) (fun i h v v0 v1 => ?_) (fun v => ?_) (fun v => rfl) rfl
  · unfold laws_szNoticeS_l0
    have hb : (i : Int) < (x.length : Int) := by omega
    rw [show decide (((v, (i : Int)) : Int × Int).2 < (x.length : Int)) = true from decide_eq_true hb, cond_true, ix_nat, List.getElem?_eq_getElem h, Option.bind_some, szNotice_eq _ (w2 _ (List.getElem_mem h)) _ v0 v1, Option.bind_some]
    by_cases hv : v < (cnt_szNotice x[i] : Int)
    · rw [if_pos hv, if_pos hv]; rfl
    · have hi : i < 9223372036854775807 := by omega
      rw [if_neg hv, if_neg hv, show decide (v - (cnt_szNotice x[i] : Int) < 0) = false from decide_eq_false (by omega), wrap_succ i hi]; rfl
  · unfold laws_szNoticeS_l0
    rw [show decide (((v, (x.length : Int)) : Int × Int).2 < (x.length : Int)) = false from decide_eq_false (by simp), cond_false]
def cnt_szFill (x : RFill) : Nat := cnt_szHead x.Head + (0)
theorem szFill_eq (x : RFill) (w : wfW TabW 17 x) (left : Int) (h0 : 0 ≤ left) (h1 : left ≤ 1048576) : laws_szFill x left = some (if left < (cnt_szFill x : Int) then -1 else left - (cnt_szFill x : Int)) := by
  unfold laws_szFill cnt_szFill
  rw [szHead_eq _ (wf17x_Head x w) _ h0 h1]
  refine sz_bind _ (0) h0 h1 (fun v h0 h1 => ?_)
  exact sz_ret v h0
def cnt_szFillS (x : (List RFill)) : Nat := cntL cnt_szFill x
theorem szFillS_eq (x : (List RFill)) (w : x.length ≤ 9223372036854775807) (w2 : ∀ y ∈ x, wfW TabW 17 y) (left : Int) (h0 : 0 ≤ left) (h1 : left ≤ 1048576) : laws_szFillS x left = some (if left < (cnt_szFillS x : Int) then -1 else left - (cnt_szFillS x : Int)) := by
  unfold laws_szFillS
  refine szL x cnt_szFill h0 h1 w (xt := fun v => .inl v) (xf := .inr (-1, -1)) (fun i h v v0 v1 => ?_) (fun v => ?_) (fun v => rfl) rfl
  · unfold laws_szFillS_l0
    have hb : (i : Int) < (x.length : Int) := by omega
    rw [show decide (((v, (i : Int)) : Int × Int).2 < (x.length : Int)) = true from decide_eq_true hb, cond_true, ix_nat, List.getElem?_eq_getElem h, Option.bind_some, szFill_eq _ (w2 _ (List.getElem_mem h)) _ v0 v1, Option.bind_some]
    by_cases hv : v < (cnt_szFill x[i] : Int)
    · rw [if_pos hv, if_pos hv]; rfl
    · have hi : i < 9223372036854775807 := by omega
      rw [if_neg hv, if_neg hv, show decide (v - (cnt_szFill x[i] : Int) < 0) = false from decide_eq_false (by omega), wrap_succ i hi]; rfl
  · unfold laws_szFillS_l0
    rw [show decide (((v, (x.length : Int)) : Int × Int).2 < (x.length : Int)) = false from decide_eq_false (by simp), cond_false]
def cnt_szWay (x : RWay) : Nat := cnt_szEntry x.Entry + (x.Body.size + (0))
theorem szWay_eq (x : RWay) (w : wfW TabW 18 x) (left : Int) (h0 : 0 ≤ left) (h1 : left ≤ 1048576) : laws_szWay x left = some (if left < (cnt_szWay x : Int) then -1 else left - (cnt_szWay x : Int)) := by
  unfold laws_szWay cnt_szWay
  rw [szEntry_eq _ (wf18x_Entry x w) _ h0 h1]
  refine sz_bind _ (x.Body.size + (0)) h0 h1 (fun v h0 h1 => ?_)
  refine sz_let (K := fun x1 =>
  some x1) _ (0) (wf18x_Body x w) h0 h1 (fun v h0 h1 => ?_)
  exact sz_ret v h0
def cnt_szWayS (x : (List RWay)) : Nat := cntL cnt_szWay x
theorem szWayS_eq (x : (List RWay)) (w : x.length ≤ 9223372036854775807) (w2 : ∀ y ∈ x, wfW TabW 18 y) (left : Int) (h0 : 0 ≤ left) (h1 : left ≤ 1048576) : laws_szWayS x left = some (if left < (cnt_szWayS x : Int) then -1 else left - (cnt_szWayS x : Int)) := by
  unfold laws_szWayS
  refine szL x cnt_szWay h0 h1 w (xt := fun v => .inl v) (xf := .inr (-1, -1)) (fun i h v v0 v1 => ?_) (fun v => ?_) (fun v => rfl) rfl
  · unfold laws_szWayS_l0
    have hb : (i : Int) < (x.length : Int) := by omega
    rw [show decide (((v, (i : Int)) : Int × Int).2 < (x.length : Int)) = true from decide_eq_true hb, cond_true, ix_nat, List.getElem?_eq_getElem h, Option.bind_some, szWay_eq _ (w2 _ (List.getElem_mem h)) _ v0 v1, Option.bind_some]
    by_cases hv : v < (cnt_szWay x[i] : Int)
    · rw [if_pos hv, if_pos hv]; rfl
    · have hi : i < 9223372036854775807 := by omega
      rw [if_neg hv, if_neg hv, show decide (v - (cnt_szWay x[i] : Int) < 0) = false from decide_eq_false (by omega), wrap_succ i hi]; rfl
  · unfold laws_szWayS_l0
    rw [show decide (((v, (x.length : Int)) : Int × Int).2 < (x.length : Int)) = false from decide_eq_false (by simp), cond_false]
def cnt_szAckS (x : (List RAck)) : Nat := x.length + 0
theorem szAckS_eq (x : (List RAck)) (w : x.length ≤ 9223372036854775807) (_w2 : ∀ y ∈ x, wfW TabW 19 y) (left : Int) (h0 : 0 ≤ left) (h1 : left ≤ 1048576) : laws_szAckS x left = some (if left < (cnt_szAckS x : Int) then -1 else left - (cnt_szAckS x : Int)) := by
  unfold laws_szAckS
  exact sz_let _ 0 w h0 h1 (fun v v0 v1 => sz_ret v v0)
def cnt_szGot (x : RGot) : Nat := cnt_szEntry x.Entry + (cnt_szChunk x.Chunk + (0))
theorem szGot_eq (x : RGot) (w : wfW TabW 20 x) (left : Int) (h0 : 0 ≤ left) (h1 : left ≤ 1048576) : laws_szGot x left = some (if left < (cnt_szGot x : Int) then -1 else left - (cnt_szGot x : Int)) := by
  unfold laws_szGot cnt_szGot
  rw [szEntry_eq _ (wf20x_Entry x w) _ h0 h1]
  refine sz_bind _ (cnt_szChunk x.Chunk + (0)) h0 h1 (fun v h0 h1 => ?_)
  rw [szChunk_eq _ (wf20x_Chunk x w) _ h0 h1]
  refine sz_bind _ (0) h0 h1 (fun v h0 h1 => ?_)
  exact sz_ret v h0
def cnt_szGotS (x : (List RGot)) : Nat := cntL cnt_szGot x
theorem szGotS_eq (x : (List RGot)) (w : x.length ≤ 9223372036854775807) (w2 : ∀ y ∈ x, wfW TabW 20 y) (left : Int) (h0 : 0 ≤ left) (h1 : left ≤ 1048576) : laws_szGotS x left = some (if left < (cnt_szGotS x : Int) then -1 else left - (cnt_szGotS x : Int)) := by
  unfold laws_szGotS
  refine szL x cnt_szGot h0 h1 w (xt := fun v => .inl v) (xf := .inr (-1, -1)) (fun i h v v0 v1 => ?_) (fun v => ?_) (fun v => rfl) rfl
  · unfold laws_szGotS_l0
    have hb : (i : Int) < (x.length : Int) := by omega
    rw [show decide (((v, (i : Int)) : Int × Int).2 < (x.length : Int)) = true from decide_eq_true hb, cond_true, ix_nat, List.getElem?_eq_getElem h, Option.bind_some, szGot_eq _ (w2 _ (List.getElem_mem h)) _ v0 v1, Option.bind_some]
    by_cases hv : v < (cnt_szGot x[i] : Int)
    · rw [if_pos hv, if_pos hv]; rfl
    · have hi : i < 9223372036854775807 := by omega
      rw [if_neg hv, if_neg hv, show decide (v - (cnt_szGot x[i] : Int) < 0) = false from decide_eq_false (by omega), wrap_succ i hi]; rfl
  · unfold laws_szGotS_l0
    rw [show decide (((v, (x.length : Int)) : Int × Int).2 < (x.length : Int)) = false from decide_eq_false (by simp), cond_false]
def cnt_szWait (x : RWait) : Nat := x.Name.size + (cnt_szGotS x.Got + (0))
theorem szWait_eq (x : RWait) (w : wfW TabW 21 x) (left : Int) (h0 : 0 ≤ left) (h1 : left ≤ 1048576) : laws_szWait x left = some (if left < (cnt_szWait x : Int) then -1 else left - (cnt_szWait x : Int)) := by
  unfold laws_szWait cnt_szWait
  refine sz_let (K := fun x0 =>
  ((laws_szGotS x.Got x0).bind fun v1 =>
 (bif (decide (v1 < 0)) then some (-1) else
 some v1))) _ (cnt_szGotS x.Got + (0)) (wf21x_Name x w) h0 h1 (fun v h0 h1 => ?_)
  rw [szGotS_eq _ (wf21x_Got x w).1 (wf21x_Got x w).2 _ h0 h1]
  refine sz_bind _ (0) h0 h1 (fun v h0 h1 => ?_)
  exact sz_ret v h0
def cnt_szWaitS (x : (List RWait)) : Nat := cntL cnt_szWait x
theorem szWaitS_eq (x : (List RWait)) (w : x.length ≤ 9223372036854775807) (w2 : ∀ y ∈ x, wfW TabW 21 y) (left : Int) (h0 : 0 ≤ left) (h1 : left ≤ 1048576) : laws_szWaitS x left = some (if left < (cnt_szWaitS x : Int) then -1 else left - (cnt_szWaitS x : Int)) := by
  unfold laws_szWaitS
  refine szL x cnt_szWait h0 h1 w (xt := fun v => .inl v) (xf := .inr (-1, -1)) (fun i h v v0 v1 => ?_) (fun v => ?_) (fun v => rfl) rfl
  · unfold laws_szWaitS_l0
    have hb : (i : Int) < (x.length : Int) := by omega
    rw [show decide (((v, (i : Int)) : Int × Int).2 < (x.length : Int)) = true from decide_eq_true hb, cond_true, ix_nat, List.getElem?_eq_getElem h, Option.bind_some, szWait_eq _ (w2 _ (List.getElem_mem h)) _ v0 v1, Option.bind_some]
    by_cases hv : v < (cnt_szWait x[i] : Int)
    · rw [if_pos hv, if_pos hv]; rfl
    · have hi : i < 9223372036854775807 := by omega
      rw [if_neg hv, if_neg hv, show decide (v - (cnt_szWait x[i] : Int) < 0) = false from decide_eq_false (by omega), wrap_succ i hi]; rfl
  · unfold laws_szWaitS_l0
    rw [show decide (((v, (x.length : Int)) : Int × Int).2 < (x.length : Int)) = false from decide_eq_false (by simp), cond_false]
def cnt_szLine (x : RLine) : Nat := cnt_szInt64S x.Acting + (cnt_szPgState x.State + (cnt_szWayS x.Way + (cnt_szAckS x.Acks + (cnt_szWaitS x.Waits + (0)))))
theorem szLine_eq (x : RLine) (w : wfW TabW 23 x) (left : Int) (h0 : 0 ≤ left) (h1 : left ≤ 1048576) : laws_szLine x left = some (if left < (cnt_szLine x : Int) then -1 else left - (cnt_szLine x : Int)) := by
  unfold laws_szLine cnt_szLine
  rw [szInt64S_eq _ (wf23x_Acting x w).1 (wf23x_Acting x w).2 _ h0 h1]
  refine sz_bind _ (cnt_szPgState x.State + (cnt_szWayS x.Way + (cnt_szAckS x.Acks + (cnt_szWaitS x.Waits + (0))))) h0 h1 (fun v h0 h1 => ?_)
  rw [szPgState_eq _ (wf23x_State x w) _ h0 h1]
  refine sz_bind _ (cnt_szWayS x.Way + (cnt_szAckS x.Acks + (cnt_szWaitS x.Waits + (0)))) h0 h1 (fun v h0 h1 => ?_)
  rw [szWayS_eq _ (wf23x_Way x w).1 (wf23x_Way x w).2 _ h0 h1]
  refine sz_bind _ (cnt_szAckS x.Acks + (cnt_szWaitS x.Waits + (0))) h0 h1 (fun v h0 h1 => ?_)
  rw [szAckS_eq _ (wf23x_Acks x w).1 (wf23x_Acks x w).2 _ h0 h1]
  refine sz_bind _ (cnt_szWaitS x.Waits + (0)) h0 h1 (fun v h0 h1 => ?_)
  rw [szWaitS_eq _ (wf23x_Waits x w).1 (wf23x_Waits x w).2 _ h0 h1]
  refine sz_bind _ (0) h0 h1 (fun v h0 h1 => ?_)
  exact sz_ret v h0
def cnt_szLead (x : RLead) : Nat := cnt_szInt64S x.Acting + (cnt_szIntervalS x.Ivs + (cnt_szNoticeS x.Heard + (cnt_szPgState x.Pick + (cnt_szFillS x.Fills + (cnt_szChunkS x.Have + (cnt_szInt64S x.Ready + (cnt_szLine x.Line + (0))))))))
theorem szLead_eq (x : RLead) (w : wfW TabW 24 x) (left : Int) (h0 : 0 ≤ left) (h1 : left ≤ 1048576) : laws_szLead x left = some (if left < (cnt_szLead x : Int) then -1 else left - (cnt_szLead x : Int)) := by
  unfold laws_szLead cnt_szLead
  rw [szInt64S_eq _ (wf24x_Acting x w).1 (wf24x_Acting x w).2 _ h0 h1]
  refine sz_bind _ (cnt_szIntervalS x.Ivs + (cnt_szNoticeS x.Heard + (cnt_szPgState x.Pick + (cnt_szFillS x.Fills + (cnt_szChunkS x.Have + (cnt_szInt64S x.Ready + (cnt_szLine x.Line + (0)))))))) h0 h1 (fun v h0 h1 => ?_)
  rw [szIntervalS_eq _ (wf24x_Ivs x w).1 (wf24x_Ivs x w).2 _ h0 h1]
  refine sz_bind _ (cnt_szNoticeS x.Heard + (cnt_szPgState x.Pick + (cnt_szFillS x.Fills + (cnt_szChunkS x.Have + (cnt_szInt64S x.Ready + (cnt_szLine x.Line + (0))))))) h0 h1 (fun v h0 h1 => ?_)
  rw [szNoticeS_eq _ (wf24x_Heard x w).1 (wf24x_Heard x w).2 _ h0 h1]
  refine sz_bind _ (cnt_szPgState x.Pick + (cnt_szFillS x.Fills + (cnt_szChunkS x.Have + (cnt_szInt64S x.Ready + (cnt_szLine x.Line + (0)))))) h0 h1 (fun v h0 h1 => ?_)
  rw [szPgState_eq _ (wf24x_Pick x w) _ h0 h1]
  refine sz_bind _ (cnt_szFillS x.Fills + (cnt_szChunkS x.Have + (cnt_szInt64S x.Ready + (cnt_szLine x.Line + (0))))) h0 h1 (fun v h0 h1 => ?_)
  rw [szFillS_eq _ (wf24x_Fills x w).1 (wf24x_Fills x w).2 _ h0 h1]
  refine sz_bind _ (cnt_szChunkS x.Have + (cnt_szInt64S x.Ready + (cnt_szLine x.Line + (0)))) h0 h1 (fun v h0 h1 => ?_)
  rw [szChunkS_eq _ (wf24x_Have x w).1 (wf24x_Have x w).2 _ h0 h1]
  refine sz_bind _ (cnt_szInt64S x.Ready + (cnt_szLine x.Line + (0))) h0 h1 (fun v h0 h1 => ?_)
  rw [szInt64S_eq _ (wf24x_Ready x w).1 (wf24x_Ready x w).2 _ h0 h1]
  refine sz_bind _ (cnt_szLine x.Line + (0)) h0 h1 (fun v h0 h1 => ?_)
  rw [szLine_eq _ (wf24x_Line x w) _ h0 h1]
  refine sz_bind _ (0) h0 h1 (fun v h0 h1 => ?_)
  exact sz_ret v h0
def cnt_szLeadS (x : (List RLead)) : Nat := cntL cnt_szLead x
theorem szLeadS_eq (x : (List RLead)) (w : x.length ≤ 9223372036854775807) (w2 : ∀ y ∈ x, wfW TabW 24 y) (left : Int) (h0 : 0 ≤ left) (h1 : left ≤ 1048576) : laws_szLeadS x left = some (if left < (cnt_szLeadS x : Int) then -1 else left - (cnt_szLeadS x : Int)) := by
  unfold laws_szLeadS
  refine szL x cnt_szLead h0 h1 w (xt := fun v => .inl v) (xf := .inr (-1, -1)) (fun i h v v0 v1 => ?_) (fun v => ?_) (fun v => rfl) rfl
  · unfold laws_szLeadS_l0
    have hb : (i : Int) < (x.length : Int) := by omega
    rw [show decide (((v, (i : Int)) : Int × Int).2 < (x.length : Int)) = true from decide_eq_true hb, cond_true, ix_nat, List.getElem?_eq_getElem h, Option.bind_some, szLead_eq _ (w2 _ (List.getElem_mem h)) _ v0 v1, Option.bind_some]
    by_cases hv : v < (cnt_szLead x[i] : Int)
    · rw [if_pos hv, if_pos hv]; rfl
    · have hi : i < 9223372036854775807 := by omega
      rw [if_neg hv, if_neg hv, show decide (v - (cnt_szLead x[i] : Int) < 0) = false from decide_eq_false (by omega), wrap_succ i hi]; rfl
  · unfold laws_szLeadS_l0
    rw [show decide (((v, (x.length : Int)) : Int × Int).2 < (x.length : Int)) = false from decide_eq_false (by simp), cond_false]
def cnt_szOp (x : ROp) : Nat := x.Bytes.size + (0)
theorem szOp_eq (x : ROp) (w : wfW TabW 25 x) (left : Int) (h0 : 0 ≤ left) (h1 : left ≤ 1048576) : laws_szOp x left = some (if left < (cnt_szOp x : Int) then -1 else left - (cnt_szOp x : Int)) := by
  unfold laws_szOp cnt_szOp
  refine sz_let (K := fun x0 =>
  some x0) _ (0) (wf25x_Bytes x w) h0 h1 (fun v h0 h1 => ?_)
  exact sz_ret v h0
def cnt_szMsg (x : RMsg) : Nat := x.Name.size + (cnt_szPgState x.State + (cnt_szEntry x.Entry + (cnt_szChunk x.Chunk + (cnt_szOp x.Op + (x.Body.size + (0))))))
theorem szMsg_eq (x : RMsg) (w : wfW TabW 26 x) (left : Int) (h0 : 0 ≤ left) (h1 : left ≤ 1048576) : laws_szMsg x left = some (if left < (cnt_szMsg x : Int) then -1 else left - (cnt_szMsg x : Int)) := by
  unfold laws_szMsg cnt_szMsg
  refine sz_let (K := fun x0 =>
  ((laws_szPgState x.State x0).bind fun v1 =>
 (bif (decide (v1 < 0)) then some (-1) else
 ((laws_szEntry x.Entry v1).bind fun v2 =>
 (bif (decide (v2 < 0)) then some (-1) else
 ((laws_szChunk x.Chunk v2).bind fun v3 =>
 (bif (decide (v3 < 0)) then some (-1) else
 ((laws_szOp x.Op v3).bind fun v4 =>
 (bif (decide (v4 < 0)) then some (-1) else
 (let x5 : Int := (IntKind.wrap .i64 (v4 - ((x.Body).size : Int)))
 (bif (decide (x5 < 0)) then some (-1) else
 some x5))))))))))) _ (cnt_szPgState x.State + (cnt_szEntry x.Entry + (cnt_szChunk x.Chunk + (cnt_szOp x.Op + (x.Body.size + (0)))))) (wf26x_Name x w) h0 h1 (fun v h0 h1 => ?_)
  rw [szPgState_eq _ (wf26x_State x w) _ h0 h1]
  refine sz_bind _ (cnt_szEntry x.Entry + (cnt_szChunk x.Chunk + (cnt_szOp x.Op + (x.Body.size + (0))))) h0 h1 (fun v h0 h1 => ?_)
  rw [szEntry_eq _ (wf26x_Entry x w) _ h0 h1]
  refine sz_bind _ (cnt_szChunk x.Chunk + (cnt_szOp x.Op + (x.Body.size + (0)))) h0 h1 (fun v h0 h1 => ?_)
  rw [szChunk_eq _ (wf26x_Chunk x w) _ h0 h1]
  refine sz_bind _ (cnt_szOp x.Op + (x.Body.size + (0))) h0 h1 (fun v h0 h1 => ?_)
  rw [szOp_eq _ (wf26x_Op x w) _ h0 h1]
  refine sz_bind _ (x.Body.size + (0)) h0 h1 (fun v h0 h1 => ?_)
  refine sz_let (K := fun x5 =>
  some x5) _ (0) (wf26x_Body x w) h0 h1 (fun v h0 h1 => ?_)
  exact sz_ret v h0
def cnt_szMsgS (x : (List RMsg)) : Nat := cntL cnt_szMsg x
theorem szMsgS_eq (x : (List RMsg)) (w : x.length ≤ 9223372036854775807) (w2 : ∀ y ∈ x, wfW TabW 26 y) (left : Int) (h0 : 0 ≤ left) (h1 : left ≤ 1048576) : laws_szMsgS x left = some (if left < (cnt_szMsgS x : Int) then -1 else left - (cnt_szMsgS x : Int)) := by
  unfold laws_szMsgS
  refine szL x cnt_szMsg h0 h1 w (xt := fun v => .inl v) (xf := .inr (-1, -1)) (fun i h v v0 v1 => ?_) (fun v => ?_) (fun v => rfl) rfl
  · unfold laws_szMsgS_l0
    have hb : (i : Int) < (x.length : Int) := by omega
    rw [show decide (((v, (i : Int)) : Int × Int).2 < (x.length : Int)) = true from decide_eq_true hb, cond_true, ix_nat, List.getElem?_eq_getElem h, Option.bind_some, szMsg_eq _ (w2 _ (List.getElem_mem h)) _ v0 v1, Option.bind_some]
    by_cases hv : v < (cnt_szMsg x[i] : Int)
    · rw [if_pos hv, if_pos hv]; rfl
    · have hi : i < 9223372036854775807 := by omega
      rw [if_neg hv, if_neg hv, show decide (v - (cnt_szMsg x[i] : Int) < 0) = false from decide_eq_false (by omega), wrap_succ i hi]; rfl
  · unfold laws_szMsgS_l0
    rw [show decide (((v, (x.length : Int)) : Int × Int).2 < (x.length : Int)) = false from decide_eq_false (by simp), cond_false]
def cnt_szServer (x : RServer) : Nat := cnt_szStore x.Store + (cnt_szLeadS x.Leads + (cnt_szMsgS x.Out + (0)))
theorem szServer_eq (x : RServer) (w : wfW TabW 28 x) (left : Int) (h0 : 0 ≤ left) (h1 : left ≤ 1048576) : laws_szServer x left = some (if left < (cnt_szServer x : Int) then -1 else left - (cnt_szServer x : Int)) := by
  unfold laws_szServer cnt_szServer
  rw [szStore_eq _ (wf28x_Store x w) _ h0 h1]
  refine sz_bind _ (cnt_szLeadS x.Leads + (cnt_szMsgS x.Out + (0))) h0 h1 (fun v h0 h1 => ?_)
  rw [szLeadS_eq _ (wf28x_Leads x w).1 (wf28x_Leads x w).2 _ h0 h1]
  refine sz_bind _ (cnt_szMsgS x.Out + (0)) h0 h1 (fun v h0 h1 => ?_)
  rw [szMsgS_eq _ (wf28x_Out x w).1 (wf28x_Out x w).2 _ h0 h1]
  refine sz_bind _ (0) h0 h1 (fun v h0 h1 => ?_)
  exact sz_ret v h0
theorem toPg_eq (x : RPg) : laws_toPg x = some x := by
  unfold laws_toPg
  rfl
theorem toVer_eq (x : RVer) : laws_toVer x = some x := by
  unfold laws_toVer
  rfl
theorem toHead_eq (x : RHead) (h : cnt_szHead x ≤ 1048576) : laws_toHead x = some x := by
  unfold cnt_szHead at h
  unfold laws_toHead
  rw [toVer_eq x.Ver]
  rfl
theorem toHeadS_eq (x : (List RHead)) (h : cnt_szHeadS x ≤ 1048576) : laws_toHeadS x = some x := by
  have hl : x.length ≤ 1048576 := by unfold cnt_szHeadS at h; first | (unfold cntL at h; omega) | omega
  have key : ∀ z, iter (laws_toHeadS_l0 x) LF (List.replicate x.length z, 0) = some x := fun z => iter_build x z hl (fun i hi acc ha => by
    have hc : cnt_szHead x[i] ≤ 1048576 := by
      have := cnt_mem (cnt := cnt_szHead) hi
      unfold cnt_szHeadS cntL at h
      omega
    unfold laws_toHeadS_l0
    rw [show decide (((acc, (i : Int)) : List RHead × Int).2 < (x.length : Int)) = true from decide_eq_true (by simp only; omega), cond_true]
    simp only [ix_nat]
    rw [List.getElem?_eq_getElem hi, List.getElem?_eq_getElem (by omega : i < acc.length), wrap_succ i (by omega)]
    simp only [Option.bind_some, Int.toNat_natCast, toHead_eq _ hc]) (by
    unfold laws_toHeadS_l0
    rw [show decide (((x, (x.length : Int)) : List RHead × Int).2 < (x.length : Int)) = false from decide_eq_false (by simp), cond_false])
  unfold laws_toHeadS
  rw [show decide ((0 : Int) ≤ (x.length : Int)) = true from decide_eq_true (by omega), cond_true, show decide ((x.length : Int) ≤ 4294967296) = true from decide_eq_true (by omega), cond_true, Int.toNat_natCast, key]
  rfl
theorem toLast_eq (x : RLast) : laws_toLast x = some x := by
  unfold laws_toLast
  rw [toVer_eq x.Ver]
  rfl
theorem toLastS_eq (x : (List RLast)) (h : cnt_szLastS x ≤ 1048576) : laws_toLastS x = some x := by
  have hl : x.length ≤ 1048576 := by unfold cnt_szLastS at h; first | (unfold cntL at h; omega) | omega
  have key : ∀ z, iter (laws_toLastS_l0 x) LF (List.replicate x.length z, 0) = some x := fun z => iter_build x z hl (fun i hi acc ha => by
    unfold laws_toLastS_l0
    rw [show decide (((acc, (i : Int)) : List RLast × Int).2 < (x.length : Int)) = true from decide_eq_true (by simp only; omega), cond_true]
    simp only [ix_nat]
    rw [List.getElem?_eq_getElem hi, List.getElem?_eq_getElem (by omega : i < acc.length), wrap_succ i (by omega)]
    simp only [Option.bind_some, Int.toNat_natCast, toLast_eq _]) (by
    unfold laws_toLastS_l0
    rw [show decide (((x, (x.length : Int)) : List RLast × Int).2 < (x.length : Int)) = false from decide_eq_false (by simp), cond_false])
  unfold laws_toLastS
  rw [show decide ((0 : Int) ≤ (x.length : Int)) = true from decide_eq_true (by omega), cond_true, show decide ((x.length : Int) ≤ 4294967296) = true from decide_eq_true (by omega), cond_true, Int.toNat_natCast, key]
  rfl
theorem toReq_eq (x : RReq) : laws_toReq x = some x := by
  unfold laws_toReq
  rfl
theorem toEntry_eq (x : REntry) (h : cnt_szEntry x ≤ 1048576) : laws_toEntry x = some x := by
  unfold cnt_szEntry at h
  unfold laws_toEntry
  rw [toVer_eq x.Ver, toVer_eq x.Prior, toReq_eq x.Req]
  rfl
theorem toEntryS_eq (x : (List REntry)) (h : cnt_szEntryS x ≤ 1048576) : laws_toEntryS x = some x := by
  have hl : x.length ≤ 1048576 := by unfold cnt_szEntryS at h; first | (unfold cntL at h; omega) | omega
  have key : ∀ z, iter (laws_toEntryS_l0 x) LF (List.replicate x.length z, 0) = some x := fun z => iter_build x z hl (fun i hi acc ha => by
    have hc : cnt_szEntry x[i] ≤ 1048576 := by
      have := cnt_mem (cnt := cnt_szEntry) hi
      unfold cnt_szEntryS cntL at h
      omega
    unfold laws_toEntryS_l0
    rw [show decide (((acc, (i : Int)) : List REntry × Int).2 < (x.length : Int)) = true from decide_eq_true (by simp only; omega), cond_true]
    simp only [ix_nat]
    rw [List.getElem?_eq_getElem hi, List.getElem?_eq_getElem (by omega : i < acc.length), wrap_succ i (by omega)]
    simp only [Option.bind_some, Int.toNat_natCast, toEntry_eq _ hc]) (by
    unfold laws_toEntryS_l0
    rw [show decide (((x, (x.length : Int)) : List REntry × Int).2 < (x.length : Int)) = false from decide_eq_false (by simp), cond_false])
  unfold laws_toEntryS
  rw [show decide ((0 : Int) ≤ (x.length : Int)) = true from decide_eq_true (by omega), cond_true, show decide ((x.length : Int) ≤ 4294967296) = true from decide_eq_true (by omega), cond_true, Int.toNat_natCast, key]
  rfl
theorem toChunk_eq (x : RChunk) (h : cnt_szChunk x ≤ 1048576) : laws_toChunk x = some x := by
  unfold cnt_szChunk at h
  unfold laws_toChunk
  rw [toVer_eq x.Ver]
  rfl
theorem toChunkS_eq (x : (List RChunk)) (h : cnt_szChunkS x ≤ 1048576) : laws_toChunkS x = some x := by
  have hl : x.length ≤ 1048576 := by unfold cnt_szChunkS at h; first | (unfold cntL at h; omega) | omega
  have key : ∀ z, iter (laws_toChunkS_l0 x) LF (List.replicate x.length z, 0) = some x := fun z => iter_build x z hl (fun i hi acc ha => by
    have hc : cnt_szChunk x[i] ≤ 1048576 := by
      have := cnt_mem (cnt := cnt_szChunk) hi
      unfold cnt_szChunkS cntL at h
      omega
    unfold laws_toChunkS_l0
    rw [show decide (((acc, (i : Int)) : List RChunk × Int).2 < (x.length : Int)) = true from decide_eq_true (by simp only; omega), cond_true]
    simp only [ix_nat]
    rw [List.getElem?_eq_getElem hi, List.getElem?_eq_getElem (by omega : i < acc.length), wrap_succ i (by omega)]
    simp only [Option.bind_some, Int.toNat_natCast, toChunk_eq _ hc]) (by
    unfold laws_toChunkS_l0
    rw [show decide (((x, (x.length : Int)) : List RChunk × Int).2 < (x.length : Int)) = false from decide_eq_false (by simp), cond_false])
  unfold laws_toChunkS
  rw [show decide ((0 : Int) ≤ (x.length : Int)) = true from decide_eq_true (by omega), cond_true, show decide ((x.length : Int) ≤ 4294967296) = true from decide_eq_true (by omega), cond_true, Int.toNat_natCast, key]
  rfl
theorem toPgState_eq (x : RPgState) (h : cnt_szPgState x ≤ 1048576) : laws_toPgState x = some x := by
  unfold cnt_szPgState at h
  unfold laws_toPgState
  rw [toPg_eq x.Pg, toVer_eq x.Tail, toHeadS_eq x.Base (by omega), toLastS_eq x.Clients (by omega), toEntryS_eq x.Log (by omega), toVer_eq x.Firm, toChunkS_eq x.Chunks (by omega)]
  rfl
theorem toPgStateS_eq (x : (List RPgState)) (h : cnt_szPgStateS x ≤ 1048576) : laws_toPgStateS x = some x := by
  have hl : x.length ≤ 1048576 := by unfold cnt_szPgStateS at h; first | (unfold cntL at h; omega) | omega
  have key : ∀ z, iter (laws_toPgStateS_l0 x) LF (List.replicate x.length z, 0) = some x := fun z => iter_build x z hl (fun i hi acc ha => by
    have hc : cnt_szPgState x[i] ≤ 1048576 := by
      have := cnt_mem (cnt := cnt_szPgState) hi
      unfold cnt_szPgStateS cntL at h
      omega
    unfold laws_toPgStateS_l0
    rw [show decide (((acc, (i : Int)) : List RPgState × Int).2 < (x.length : Int)) = true from decide_eq_true (by simp only; omega), cond_true]
    simp only [ix_nat]
    rw [List.getElem?_eq_getElem hi, List.getElem?_eq_getElem (by omega : i < acc.length), wrap_succ i (by omega)]
    simp only [Option.bind_some, Int.toNat_natCast, toPgState_eq _ hc]) (by
    unfold laws_toPgStateS_l0
    rw [show decide (((x, (x.length : Int)) : List RPgState × Int).2 < (x.length : Int)) = false from decide_eq_false (by simp), cond_false])
  unfold laws_toPgStateS
  rw [show decide ((0 : Int) ≤ (x.length : Int)) = true from decide_eq_true (by omega), cond_true, show decide ((x.length : Int) ≤ 4294967296) = true from decide_eq_true (by omega), cond_true, Int.toNat_natCast, key]
  rfl
theorem toStore_eq (x : RStore) (h : cnt_szStore x ≤ 1048576) : laws_toStore x = some x := by
  unfold cnt_szStore at h
  unfold laws_toStore
  rw [toPgStateS_eq x.Live (by omega), toPgStateS_eq x.Kept (by omega)]
  rfl
theorem toCode_eq (x : RCode) : laws_toCode x = some x := by
  unfold laws_toCode
  rfl
theorem toInt64S_eq (x : (List Int)) (h : cnt_szInt64S x ≤ 1048576) : laws_toInt64S x = some x := by
  have hl : x.length ≤ 1048576 := by unfold cnt_szInt64S at h; omega
  have key := iter_for (f := laws_toInt64S_l0) x.length (fun i => (x, x.take i ++ List.replicate (x.length - i) 0, (i : Int))) (x := x) hl (fun i hi => by
    unfold laws_toInt64S_l0
    simp only [ix_nat]
    rw [show decide ((i : Int) < (x.length : Int)) = true from decide_eq_true (by omega), cond_true, List.getElem?_eq_getElem hi, wrap_succ i (by omega)]
    simp only [Option.bind_some, Int.toNat_natCast]
    rw [List.getElem?_eq_getElem (by simp; omega)]
    simp only [Option.bind_some]
    rw [List.set_append_right _ _ (by simp; omega)]
    have h1 : i - (x.take i).length = 0 := by simp; omega
    rw [h1, show x.length - i = (x.length - (i + 1)) + 1 by omega, List.replicate_succ, List.set_cons_zero, List.take_succ_eq_append_getElem hi, List.append_assoc]
    simp) (by
    unfold laws_toInt64S_l0
    simp)
  unfold laws_toInt64S
  rw [show decide ((0 : Int) ≤ (x.length : Int)) = true from decide_eq_true (by omega), cond_true, show decide ((x.length : Int) ≤ 4294967296) = true from decide_eq_true (by omega), cond_true, Int.toNat_natCast]
  have key2 : iter laws_toInt64S_l0 LF (x, List.replicate x.length 0, 0) = some x := by simpa using key
  rw [key2]
  rfl
theorem toInterval_eq (x : RInterval) (h : cnt_szInterval x ≤ 1048576) : laws_toInterval x = some x := by
  unfold cnt_szInterval at h
  unfold laws_toInterval
  rw [toInt64S_eq x.Acting (by omega)]
  rfl
theorem toIntervalS_eq (x : (List RInterval)) (h : cnt_szIntervalS x ≤ 1048576) : laws_toIntervalS x = some x := by
  have hl : x.length ≤ 1048576 := by unfold cnt_szIntervalS at h; first | (unfold cntL at h; omega) | omega
  have key : ∀ z, iter (laws_toIntervalS_l0 x) LF (List.replicate x.length z, 0) = some x := fun z => iter_build x z hl (fun i hi acc ha => by
    have hc : cnt_szInterval x[i] ≤ 1048576 := by
      have := cnt_mem (cnt := cnt_szInterval) hi
      unfold cnt_szIntervalS cntL at h
      omega
    unfold laws_toIntervalS_l0
    rw [show decide (((acc, (i : Int)) : List RInterval × Int).2 < (x.length : Int)) = true from decide_eq_true (by simp only; omega), cond_true]
    simp only [ix_nat]
    rw [List.getElem?_eq_getElem hi, List.getElem?_eq_getElem (by omega : i < acc.length), wrap_succ i (by omega)]
    simp only [Option.bind_some, Int.toNat_natCast, toInterval_eq _ hc]) (by
    unfold laws_toIntervalS_l0
    rw [show decide (((x, (x.length : Int)) : List RInterval × Int).2 < (x.length : Int)) = false from decide_eq_false (by simp), cond_false])
  unfold laws_toIntervalS
  rw [show decide ((0 : Int) ≤ (x.length : Int)) = true from decide_eq_true (by omega), cond_true, show decide ((x.length : Int) ≤ 4294967296) = true from decide_eq_true (by omega), cond_true, Int.toNat_natCast, key]
  rfl
theorem toNotice_eq (x : RNotice) (h : cnt_szNotice x ≤ 1048576) : laws_toNotice x = some x := by
  unfold cnt_szNotice at h
  unfold laws_toNotice
  rw [toPgState_eq x.State (by omega)]
  rfl
theorem toNoticeS_eq (x : (List RNotice)) (h : cnt_szNoticeS x ≤ 1048576) : laws_toNoticeS x = some x := by
  have hl : x.length ≤ 1048576 := by unfold cnt_szNoticeS at h; first | (unfold cntL at h; omega) | omega
  have key : ∀ z, iter (laws_toNoticeS_l0 x) LF (List.replicate x.length z, 0) = some x := fun z => iter_build x z hl (fun i hi acc ha => by
    have hc : cnt_szNotice x[i] ≤ 1048576 := by
      have := cnt_mem (cnt := cnt_szNotice) hi
      unfold cnt_szNoticeS cntL at h
      omega
    unfold laws_toNoticeS_l0
    rw [show decide (((acc, (i : Int)) : List RNotice × Int).2 < (x.length : Int)) = true from decide_eq_true (by simp only; omega), cond_true]
    simp only [ix_nat]
    rw [List.getElem?_eq_getElem hi, List.getElem?_eq_getElem (by omega : i < acc.length), wrap_succ i (by omega)]
    simp only [Option.bind_some, Int.toNat_natCast, toNotice_eq _ hc]) (by
    unfold laws_toNoticeS_l0
    rw [show decide (((x, (x.length : Int)) : List RNotice × Int).2 < (x.length : Int)) = false from decide_eq_false (by simp), cond_false])
  unfold laws_toNoticeS
  rw [show decide ((0 : Int) ≤ (x.length : Int)) = true from decide_eq_true (by omega), cond_true, show decide ((x.length : Int) ≤ 4294967296) = true from decide_eq_true (by omega), cond_true, Int.toNat_natCast, key]
  rfl
theorem toFill_eq (x : RFill) (h : cnt_szFill x ≤ 1048576) : laws_toFill x = some x := by
  unfold cnt_szFill at h
  unfold laws_toFill
  rw [toHead_eq x.Head (by omega)]
  rfl
theorem toFillS_eq (x : (List RFill)) (h : cnt_szFillS x ≤ 1048576) : laws_toFillS x = some x := by
  have hl : x.length ≤ 1048576 := by unfold cnt_szFillS at h; first | (unfold cntL at h; omega) | omega
  have key : ∀ z, iter (laws_toFillS_l0 x) LF (List.replicate x.length z, 0) = some x := fun z => iter_build x z hl (fun i hi acc ha => by
    have hc : cnt_szFill x[i] ≤ 1048576 := by
      have := cnt_mem (cnt := cnt_szFill) hi
      unfold cnt_szFillS cntL at h
      omega
    unfold laws_toFillS_l0
    rw [show decide (((acc, (i : Int)) : List RFill × Int).2 < (x.length : Int)) = true from decide_eq_true (by simp only; omega), cond_true]
    simp only [ix_nat]
    rw [List.getElem?_eq_getElem hi, List.getElem?_eq_getElem (by omega : i < acc.length), wrap_succ i (by omega)]
    simp only [Option.bind_some, Int.toNat_natCast, toFill_eq _ hc]) (by
    unfold laws_toFillS_l0
    rw [show decide (((x, (x.length : Int)) : List RFill × Int).2 < (x.length : Int)) = false from decide_eq_false (by simp), cond_false])
  unfold laws_toFillS
  rw [show decide ((0 : Int) ≤ (x.length : Int)) = true from decide_eq_true (by omega), cond_true, show decide ((x.length : Int) ≤ 4294967296) = true from decide_eq_true (by omega), cond_true, Int.toNat_natCast, key]
  rfl
theorem toWay_eq (x : RWay) (h : cnt_szWay x ≤ 1048576) : laws_toWay x = some x := by
  unfold cnt_szWay at h
  unfold laws_toWay
  rw [toEntry_eq x.Entry (by omega)]
  rfl
theorem toWayS_eq (x : (List RWay)) (h : cnt_szWayS x ≤ 1048576) : laws_toWayS x = some x := by
  have hl : x.length ≤ 1048576 := by unfold cnt_szWayS at h; first | (unfold cntL at h; omega) | omega
  have key : ∀ z, iter (laws_toWayS_l0 x) LF (List.replicate x.length z, 0) = some x := fun z => iter_build x z hl (fun i hi acc ha => by
    have hc : cnt_szWay x[i] ≤ 1048576 := by
      have := cnt_mem (cnt := cnt_szWay) hi
      unfold cnt_szWayS cntL at h
      omega
    unfold laws_toWayS_l0
    rw [show decide (((acc, (i : Int)) : List RWay × Int).2 < (x.length : Int)) = true from decide_eq_true (by simp only; omega), cond_true]
    simp only [ix_nat]
    rw [List.getElem?_eq_getElem hi, List.getElem?_eq_getElem (by omega : i < acc.length), wrap_succ i (by omega)]
    simp only [Option.bind_some, Int.toNat_natCast, toWay_eq _ hc]) (by
    unfold laws_toWayS_l0
    rw [show decide (((x, (x.length : Int)) : List RWay × Int).2 < (x.length : Int)) = false from decide_eq_false (by simp), cond_false])
  unfold laws_toWayS
  rw [show decide ((0 : Int) ≤ (x.length : Int)) = true from decide_eq_true (by omega), cond_true, show decide ((x.length : Int) ≤ 4294967296) = true from decide_eq_true (by omega), cond_true, Int.toNat_natCast, key]
  rfl
theorem toAck_eq (x : RAck) : laws_toAck x = some x := by
  unfold laws_toAck
  rw [toVer_eq x.Ver]
  rfl
theorem toAckS_eq (x : (List RAck)) (h : cnt_szAckS x ≤ 1048576) : laws_toAckS x = some x := by
  have hl : x.length ≤ 1048576 := by unfold cnt_szAckS at h; first | (unfold cntL at h; omega) | omega
  have key : ∀ z, iter (laws_toAckS_l0 x) LF (List.replicate x.length z, 0) = some x := fun z => iter_build x z hl (fun i hi acc ha => by
    unfold laws_toAckS_l0
    rw [show decide (((acc, (i : Int)) : List RAck × Int).2 < (x.length : Int)) = true from decide_eq_true (by simp only; omega), cond_true]
    simp only [ix_nat]
    rw [List.getElem?_eq_getElem hi, List.getElem?_eq_getElem (by omega : i < acc.length), wrap_succ i (by omega)]
    simp only [Option.bind_some, Int.toNat_natCast, toAck_eq _]) (by
    unfold laws_toAckS_l0
    rw [show decide (((x, (x.length : Int)) : List RAck × Int).2 < (x.length : Int)) = false from decide_eq_false (by simp), cond_false])
  unfold laws_toAckS
  rw [show decide ((0 : Int) ≤ (x.length : Int)) = true from decide_eq_true (by omega), cond_true, show decide ((x.length : Int) ≤ 4294967296) = true from decide_eq_true (by omega), cond_true, Int.toNat_natCast, key]
  rfl
theorem toGot_eq (x : RGot) (h : cnt_szGot x ≤ 1048576) : laws_toGot x = some x := by
  unfold cnt_szGot at h
  unfold laws_toGot
  rw [toEntry_eq x.Entry (by omega), toChunk_eq x.Chunk (by omega)]
  rfl
theorem toGotS_eq (x : (List RGot)) (h : cnt_szGotS x ≤ 1048576) : laws_toGotS x = some x := by
  have hl : x.length ≤ 1048576 := by unfold cnt_szGotS at h; first | (unfold cntL at h; omega) | omega
  have key : ∀ z, iter (laws_toGotS_l0 x) LF (List.replicate x.length z, 0) = some x := fun z => iter_build x z hl (fun i hi acc ha => by
    have hc : cnt_szGot x[i] ≤ 1048576 := by
      have := cnt_mem (cnt := cnt_szGot) hi
      unfold cnt_szGotS cntL at h
      omega
    unfold laws_toGotS_l0
    rw [show decide (((acc, (i : Int)) : List RGot × Int).2 < (x.length : Int)) = true from decide_eq_true (by simp only; omega), cond_true]
    simp only [ix_nat]
    rw [List.getElem?_eq_getElem hi, List.getElem?_eq_getElem (by omega : i < acc.length), wrap_succ i (by omega)]
    simp only [Option.bind_some, Int.toNat_natCast, toGot_eq _ hc]) (by
    unfold laws_toGotS_l0
    rw [show decide (((x, (x.length : Int)) : List RGot × Int).2 < (x.length : Int)) = false from decide_eq_false (by simp), cond_false])
  unfold laws_toGotS
  rw [show decide ((0 : Int) ≤ (x.length : Int)) = true from decide_eq_true (by omega), cond_true, show decide ((x.length : Int) ≤ 4294967296) = true from decide_eq_true (by omega), cond_true, Int.toNat_natCast, key]
  rfl
theorem toWait_eq (x : RWait) (h : cnt_szWait x ≤ 1048576) : laws_toWait x = some x := by
  unfold cnt_szWait at h
  unfold laws_toWait
  rw [toReq_eq x.Req, toVer_eq x.Ver, toGotS_eq x.Got (by omega)]
  rfl
theorem toWaitS_eq (x : (List RWait)) (h : cnt_szWaitS x ≤ 1048576) : laws_toWaitS x = some x := by
  have hl : x.length ≤ 1048576 := by unfold cnt_szWaitS at h; first | (unfold cntL at h; omega) | omega
  have key : ∀ z, iter (laws_toWaitS_l0 x) LF (List.replicate x.length z, 0) = some x := fun z => iter_build x z hl (fun i hi acc ha => by
    have hc : cnt_szWait x[i] ≤ 1048576 := by
      have := cnt_mem (cnt := cnt_szWait) hi
      unfold cnt_szWaitS cntL at h
      omega
    unfold laws_toWaitS_l0
    rw [show decide (((acc, (i : Int)) : List RWait × Int).2 < (x.length : Int)) = true from decide_eq_true (by simp only; omega), cond_true]
    simp only [ix_nat]
    rw [List.getElem?_eq_getElem hi, List.getElem?_eq_getElem (by omega : i < acc.length), wrap_succ i (by omega)]
    simp only [Option.bind_some, Int.toNat_natCast, toWait_eq _ hc]) (by
    unfold laws_toWaitS_l0
    rw [show decide (((x, (x.length : Int)) : List RWait × Int).2 < (x.length : Int)) = false from decide_eq_false (by simp), cond_false])
  unfold laws_toWaitS
  rw [show decide ((0 : Int) ≤ (x.length : Int)) = true from decide_eq_true (by omega), cond_true, show decide ((x.length : Int) ≤ 4294967296) = true from decide_eq_true (by omega), cond_true, Int.toNat_natCast, key]
  rfl
theorem toLine_eq (x : RLine) (h : cnt_szLine x ≤ 1048576) : laws_toLine x = some x := by
  unfold cnt_szLine at h
  unfold laws_toLine
  rw [toCode_eq x.Code, toInt64S_eq x.Acting (by omega), toPgState_eq x.State (by omega), toWayS_eq x.Way (by omega), toAckS_eq x.Acks (by omega), toWaitS_eq x.Waits (by omega)]
  rfl
theorem toLead_eq (x : RLead) (h : cnt_szLead x ≤ 1048576) : laws_toLead x = some x := by
  unfold cnt_szLead at h
  unfold laws_toLead
  rw [toPg_eq x.Pg, toCode_eq x.Code, toInt64S_eq x.Acting (by omega), toIntervalS_eq x.Ivs (by omega), toNoticeS_eq x.Heard (by omega), toPgState_eq x.Pick (by omega), toFillS_eq x.Fills (by omega), toChunkS_eq x.Have (by omega), toInt64S_eq x.Ready (by omega), toLine_eq x.Line (by omega)]
  rfl
theorem toLeadS_eq (x : (List RLead)) (h : cnt_szLeadS x ≤ 1048576) : laws_toLeadS x = some x := by
  have hl : x.length ≤ 1048576 := by unfold cnt_szLeadS at h; first | (unfold cntL at h; omega) | omega
  have key : ∀ z, iter (laws_toLeadS_l0 x) LF (List.replicate x.length z, 0) = some x := fun z => iter_build x z hl (fun i hi acc ha => by
    have hc : cnt_szLead x[i] ≤ 1048576 := by
      have := cnt_mem (cnt := cnt_szLead) hi
      unfold cnt_szLeadS cntL at h
      omega
    unfold laws_toLeadS_l0
    rw [show decide (((acc, (i : Int)) : List RLead × Int).2 < (x.length : Int)) = true from decide_eq_true (by simp only; omega), cond_true]
    simp only [ix_nat]
    rw [List.getElem?_eq_getElem hi, List.getElem?_eq_getElem (by omega : i < acc.length), wrap_succ i (by omega)]
    simp only [Option.bind_some, Int.toNat_natCast, toLead_eq _ hc]) (by
    unfold laws_toLeadS_l0
    rw [show decide (((x, (x.length : Int)) : List RLead × Int).2 < (x.length : Int)) = false from decide_eq_false (by simp), cond_false])
  unfold laws_toLeadS
  rw [show decide ((0 : Int) ≤ (x.length : Int)) = true from decide_eq_true (by omega), cond_true, show decide ((x.length : Int) ≤ 4294967296) = true from decide_eq_true (by omega), cond_true, Int.toNat_natCast, key]
  rfl
theorem toOp_eq (x : ROp) (h : cnt_szOp x ≤ 1048576) : laws_toOp x = some x := by
  unfold cnt_szOp at h
  unfold laws_toOp
  rfl
theorem toMsg_eq (x : RMsg) (h : cnt_szMsg x ≤ 1048576) : laws_toMsg x = some x := by
  unfold cnt_szMsg at h
  unfold laws_toMsg
  rw [toPg_eq x.Pg, toVer_eq x.Ver, toVer_eq x.Firm, toPgState_eq x.State (by omega), toEntry_eq x.Entry (by omega), toChunk_eq x.Chunk (by omega), toOp_eq x.Op (by omega), toReq_eq x.Req]
  rfl
theorem toMsgS_eq (x : (List RMsg)) (h : cnt_szMsgS x ≤ 1048576) : laws_toMsgS x = some x := by
  have hl : x.length ≤ 1048576 := by unfold cnt_szMsgS at h; first | (unfold cntL at h; omega) | omega
  have key : ∀ z, iter (laws_toMsgS_l0 x) LF (List.replicate x.length z, 0) = some x := fun z => iter_build x z hl (fun i hi acc ha => by
    have hc : cnt_szMsg x[i] ≤ 1048576 := by
      have := cnt_mem (cnt := cnt_szMsg) hi
      unfold cnt_szMsgS cntL at h
      omega
    unfold laws_toMsgS_l0
    rw [show decide (((acc, (i : Int)) : List RMsg × Int).2 < (x.length : Int)) = true from decide_eq_true (by simp only; omega), cond_true]
    simp only [ix_nat]
    rw [List.getElem?_eq_getElem hi, List.getElem?_eq_getElem (by omega : i < acc.length), wrap_succ i (by omega)]
    simp only [Option.bind_some, Int.toNat_natCast, toMsg_eq _ hc]) (by
    unfold laws_toMsgS_l0
    rw [show decide (((x, (x.length : Int)) : List RMsg × Int).2 < (x.length : Int)) = false from decide_eq_false (by simp), cond_false])
  unfold laws_toMsgS
  rw [show decide ((0 : Int) ≤ (x.length : Int)) = true from decide_eq_true (by omega), cond_true, show decide ((x.length : Int) ≤ 4294967296) = true from decide_eq_true (by omega), cond_true, Int.toNat_natCast, key]
  rfl
theorem toServer_eq (x : RServer) (h : cnt_szServer x ≤ 1048576) : laws_toServer x = some x := by
  unfold cnt_szServer at h
  unfold laws_toServer
  rw [toStore_eq x.Store (by omega), toLeadS_eq x.Leads (by omega), toMsgS_eq x.Out (by omega)]
  rfl
theorem eqPg_eq (x : RPg) : laws_eqPg x x = some true := by
  unfold laws_eqPg
  simp
theorem eqVer_eq (x : RVer) : laws_eqVer x x = some true := by
  unfold laws_eqVer
  simp
theorem eqHead_eq (x : RHead) (h : cnt_szHead x ≤ 1048576) : laws_eqHead x x = some true := by
  unfold cnt_szHead at h
  unfold laws_eqHead
  rw [eqVer_eq x.Ver]
  simp
theorem eqHeadS_eq (x : (List RHead)) (h : cnt_szHeadS x ≤ 1048576) : laws_eqHeadS x x = some true := by
  have hl : x.length ≤ 1048576 := by unfold cnt_szHeadS at h; first | (unfold cntL at h; omega) | omega
  have key : iter (laws_eqHeadS_l0 x x) LF 0 = some (.inl ()) := iter_for (f := laws_eqHeadS_l0 x x) x.length (fun i => (i : Int)) hl (fun i hi => by
    have hc : cnt_szHead x[i] ≤ 1048576 := by
      have := cnt_mem (cnt := cnt_szHead) hi
      unfold cnt_szHeadS cntL at h
      omega
    unfold laws_eqHeadS_l0
    rw [show decide ((i : Int) < (x.length : Int)) = true from decide_eq_true (by omega), cond_true, ix_nat, List.getElem?_eq_getElem hi, wrap_succ i (by omega)]
    simp [eqHead_eq _ hc]) (by
    unfold laws_eqHeadS_l0
    rw [show decide ((x.length : Int) < (x.length : Int)) = false from decide_eq_false (by omega), cond_false])
  unfold laws_eqHeadS
  rw [show decide ((x.length : Int) ≠ (x.length : Int)) = false from decide_eq_false (by simp), cond_false, key]
  rfl
theorem eqLast_eq (x : RLast) : laws_eqLast x x = some true := by
  unfold laws_eqLast
  rw [eqVer_eq x.Ver]
  simp
theorem eqLastS_eq (x : (List RLast)) (h : cnt_szLastS x ≤ 1048576) : laws_eqLastS x x = some true := by
  have hl : x.length ≤ 1048576 := by unfold cnt_szLastS at h; first | (unfold cntL at h; omega) | omega
  have key : iter (laws_eqLastS_l0 x x) LF 0 = some (.inl ()) := iter_for (f := laws_eqLastS_l0 x x) x.length (fun i => (i : Int)) hl (fun i hi => by
    unfold laws_eqLastS_l0
    rw [show decide ((i : Int) < (x.length : Int)) = true from decide_eq_true (by omega), cond_true, ix_nat, List.getElem?_eq_getElem hi, wrap_succ i (by omega)]
    simp [eqLast_eq _]) (by
    unfold laws_eqLastS_l0
    rw [show decide ((x.length : Int) < (x.length : Int)) = false from decide_eq_false (by omega), cond_false])
  unfold laws_eqLastS
  rw [show decide ((x.length : Int) ≠ (x.length : Int)) = false from decide_eq_false (by simp), cond_false, key]
  rfl
theorem eqReq_eq (x : RReq) : laws_eqReq x x = some true := by
  unfold laws_eqReq
  simp
theorem eqEntry_eq (x : REntry) (h : cnt_szEntry x ≤ 1048576) : laws_eqEntry x x = some true := by
  unfold cnt_szEntry at h
  unfold laws_eqEntry
  rw [eqVer_eq x.Ver, eqVer_eq x.Prior, eqReq_eq x.Req]
  simp
theorem eqEntryS_eq (x : (List REntry)) (h : cnt_szEntryS x ≤ 1048576) : laws_eqEntryS x x = some true := by
  have hl : x.length ≤ 1048576 := by unfold cnt_szEntryS at h; first | (unfold cntL at h; omega) | omega
  have key : iter (laws_eqEntryS_l0 x x) LF 0 = some (.inl ()) := iter_for (f := laws_eqEntryS_l0 x x) x.length (fun i => (i : Int)) hl (fun i hi => by
    have hc : cnt_szEntry x[i] ≤ 1048576 := by
      have := cnt_mem (cnt := cnt_szEntry) hi
      unfold cnt_szEntryS cntL at h
      omega
    unfold laws_eqEntryS_l0
    rw [show decide ((i : Int) < (x.length : Int)) = true from decide_eq_true (by omega), cond_true, ix_nat, List.getElem?_eq_getElem hi, wrap_succ i (by omega)]
    simp [eqEntry_eq _ hc]) (by
    unfold laws_eqEntryS_l0
    rw [show decide ((x.length : Int) < (x.length : Int)) = false from decide_eq_false (by omega), cond_false])
  unfold laws_eqEntryS
  rw [show decide ((x.length : Int) ≠ (x.length : Int)) = false from decide_eq_false (by simp), cond_false, key]
  rfl
theorem eqChunk_eq (x : RChunk) (h : cnt_szChunk x ≤ 1048576) : laws_eqChunk x x = some true := by
  unfold cnt_szChunk at h
  unfold laws_eqChunk
  rw [eqVer_eq x.Ver]
  simp
theorem eqChunkS_eq (x : (List RChunk)) (h : cnt_szChunkS x ≤ 1048576) : laws_eqChunkS x x = some true := by
  have hl : x.length ≤ 1048576 := by unfold cnt_szChunkS at h; first | (unfold cntL at h; omega) | omega
  have key : iter (laws_eqChunkS_l0 x x) LF 0 = some (.inl ()) := iter_for (f := laws_eqChunkS_l0 x x) x.length (fun i => (i : Int)) hl (fun i hi => by
    have hc : cnt_szChunk x[i] ≤ 1048576 := by
      have := cnt_mem (cnt := cnt_szChunk) hi
      unfold cnt_szChunkS cntL at h
      omega
    unfold laws_eqChunkS_l0
    rw [show decide ((i : Int) < (x.length : Int)) = true from decide_eq_true (by omega), cond_true, ix_nat, List.getElem?_eq_getElem hi, wrap_succ i (by omega)]
    simp [eqChunk_eq _ hc]) (by
    unfold laws_eqChunkS_l0
    rw [show decide ((x.length : Int) < (x.length : Int)) = false from decide_eq_false (by omega), cond_false])
  unfold laws_eqChunkS
  rw [show decide ((x.length : Int) ≠ (x.length : Int)) = false from decide_eq_false (by simp), cond_false, key]
  rfl
theorem eqPgState_eq (x : RPgState) (h : cnt_szPgState x ≤ 1048576) : laws_eqPgState x x = some true := by
  unfold cnt_szPgState at h
  unfold laws_eqPgState
  rw [eqPg_eq x.Pg, eqVer_eq x.Tail, eqHeadS_eq x.Base (by omega), eqLastS_eq x.Clients (by omega), eqEntryS_eq x.Log (by omega), eqVer_eq x.Firm, eqChunkS_eq x.Chunks (by omega)]
  simp
theorem eqPgStateS_eq (x : (List RPgState)) (h : cnt_szPgStateS x ≤ 1048576) : laws_eqPgStateS x x = some true := by
  have hl : x.length ≤ 1048576 := by unfold cnt_szPgStateS at h; first | (unfold cntL at h; omega) | omega
  have key : iter (laws_eqPgStateS_l0 x x) LF 0 = some (.inl ()) := iter_for (f := laws_eqPgStateS_l0 x x) x.length (fun i => (i : Int)) hl (fun i hi => by
    have hc : cnt_szPgState x[i] ≤ 1048576 := by
      have := cnt_mem (cnt := cnt_szPgState) hi
      unfold cnt_szPgStateS cntL at h
      omega
    unfold laws_eqPgStateS_l0
    rw [show decide ((i : Int) < (x.length : Int)) = true from decide_eq_true (by omega), cond_true, ix_nat, List.getElem?_eq_getElem hi, wrap_succ i (by omega)]
    simp [eqPgState_eq _ hc]) (by
    unfold laws_eqPgStateS_l0
    rw [show decide ((x.length : Int) < (x.length : Int)) = false from decide_eq_false (by omega), cond_false])
  unfold laws_eqPgStateS
  rw [show decide ((x.length : Int) ≠ (x.length : Int)) = false from decide_eq_false (by simp), cond_false, key]
  rfl
theorem eqStore_eq (x : RStore) (h : cnt_szStore x ≤ 1048576) : laws_eqStore x x = some true := by
  unfold cnt_szStore at h
  unfold laws_eqStore
  rw [eqPgStateS_eq x.Live (by omega), eqPgStateS_eq x.Kept (by omega)]
  simp
theorem eqCode_eq (x : RCode) : laws_eqCode x x = some true := by
  unfold laws_eqCode
  simp
theorem eqInt64S_eq (x : (List Int)) (h : cnt_szInt64S x ≤ 1048576) : laws_eqInt64S x x = some true := by
  have hl : x.length ≤ 1048576 := by unfold cnt_szInt64S at h; first | (unfold cntL at h; omega) | omega
  have key : iter (laws_eqInt64S_l0 x x) LF 0 = some (.inl ()) := iter_for (f := laws_eqInt64S_l0 x x) x.length (fun i => (i : Int)) hl (fun i hi => by
    unfold laws_eqInt64S_l0
    rw [show decide ((i : Int) < (x.length : Int)) = true from decide_eq_true (by omega), cond_true, ix_nat, List.getElem?_eq_getElem hi, wrap_succ i (by omega)]
    simp []) (by
    unfold laws_eqInt64S_l0
    rw [show decide ((x.length : Int) < (x.length : Int)) = false from decide_eq_false (by omega), cond_false])
  unfold laws_eqInt64S
  rw [show decide ((x.length : Int) ≠ (x.length : Int)) = false from decide_eq_false (by simp), cond_false, key]
  rfl
theorem eqInterval_eq (x : RInterval) (h : cnt_szInterval x ≤ 1048576) : laws_eqInterval x x = some true := by
  unfold cnt_szInterval at h
  unfold laws_eqInterval
  rw [eqInt64S_eq x.Acting (by omega)]
  simp
theorem eqIntervalS_eq (x : (List RInterval)) (h : cnt_szIntervalS x ≤ 1048576) : laws_eqIntervalS x x = some true := by
  have hl : x.length ≤ 1048576 := by unfold cnt_szIntervalS at h; first | (unfold cntL at h; omega) | omega
  have key : iter (laws_eqIntervalS_l0 x x) LF 0 = some (.inl ()) := iter_for (f := laws_eqIntervalS_l0 x x) x.length (fun i => (i : Int)) hl (fun i hi => by
    have hc : cnt_szInterval x[i] ≤ 1048576 := by
      have := cnt_mem (cnt := cnt_szInterval) hi
      unfold cnt_szIntervalS cntL at h
      omega
    unfold laws_eqIntervalS_l0
    rw [show decide ((i : Int) < (x.length : Int)) = true from decide_eq_true (by omega), cond_true, ix_nat, List.getElem?_eq_getElem hi, wrap_succ i (by omega)]
    simp [eqInterval_eq _ hc]) (by
    unfold laws_eqIntervalS_l0
    rw [show decide ((x.length : Int) < (x.length : Int)) = false from decide_eq_false (by omega), cond_false])
  unfold laws_eqIntervalS
  rw [show decide ((x.length : Int) ≠ (x.length : Int)) = false from decide_eq_false (by simp), cond_false, key]
  rfl
theorem eqNotice_eq (x : RNotice) (h : cnt_szNotice x ≤ 1048576) : laws_eqNotice x x = some true := by
  unfold cnt_szNotice at h
  unfold laws_eqNotice
  rw [eqPgState_eq x.State (by omega)]
  simp
theorem eqNoticeS_eq (x : (List RNotice)) (h : cnt_szNoticeS x ≤ 1048576) : laws_eqNoticeS x x = some true := by
  have hl : x.length ≤ 1048576 := by unfold cnt_szNoticeS at h; first | (unfold cntL at h; omega) | omega
  have key : iter (laws_eqNoticeS_l0 x x) LF 0 = some (.inl ()) := iter_for (f := laws_eqNoticeS_l0 x x) x.length (fun i => (i : Int)) hl (fun i hi => by
    have hc : cnt_szNotice x[i] ≤ 1048576 := by
      have := cnt_mem (cnt := cnt_szNotice) hi
      unfold cnt_szNoticeS cntL at h
      omega
    unfold laws_eqNoticeS_l0
    rw [show decide ((i : Int) < (x.length : Int)) = true from decide_eq_true (by omega), cond_true, ix_nat, List.getElem?_eq_getElem hi, wrap_succ i (by omega)]
    simp [eqNotice_eq _ hc]) (by
    unfold laws_eqNoticeS_l0
    rw [show decide ((x.length : Int) < (x.length : Int)) = false from decide_eq_false (by omega), cond_false])
  unfold laws_eqNoticeS
  rw [show decide ((x.length : Int) ≠ (x.length : Int)) = false from decide_eq_false (by simp), cond_false, key]
  rfl
theorem eqFill_eq (x : RFill) (h : cnt_szFill x ≤ 1048576) : laws_eqFill x x = some true := by
  unfold cnt_szFill at h
  unfold laws_eqFill
  rw [eqHead_eq x.Head (by omega)]
  simp
theorem eqFillS_eq (x : (List RFill)) (h : cnt_szFillS x ≤ 1048576) : laws_eqFillS x x = some true := by
  have hl : x.length ≤ 1048576 := by unfold cnt_szFillS at h; first | (unfold cntL at h; omega) | omega
  have key : iter (laws_eqFillS_l0 x x) LF 0 = some (.inl ()) := iter_for (f := laws_eqFillS_l0 x x) x.length (fun i => (i : Int)) hl (fun i hi => by
    have hc : cnt_szFill x[i] ≤ 1048576 := by
      have := cnt_mem (cnt := cnt_szFill) hi
      unfold cnt_szFillS cntL at h
      omega
    unfold laws_eqFillS_l0
    rw [show decide ((i : Int) < (x.length : Int)) = true from decide_eq_true (by omega), cond_true, ix_nat, List.getElem?_eq_getElem hi, wrap_succ i (by omega)]
    simp [eqFill_eq _ hc]) (by
    unfold laws_eqFillS_l0
    rw [show decide ((x.length : Int) < (x.length : Int)) = false from decide_eq_false (by omega), cond_false])
  unfold laws_eqFillS
  rw [show decide ((x.length : Int) ≠ (x.length : Int)) = false from decide_eq_false (by simp), cond_false, key]
  rfl
theorem eqWay_eq (x : RWay) (h : cnt_szWay x ≤ 1048576) : laws_eqWay x x = some true := by
  unfold cnt_szWay at h
  unfold laws_eqWay
  rw [eqEntry_eq x.Entry (by omega)]
  simp
theorem eqWayS_eq (x : (List RWay)) (h : cnt_szWayS x ≤ 1048576) : laws_eqWayS x x = some true := by
  have hl : x.length ≤ 1048576 := by unfold cnt_szWayS at h; first | (unfold cntL at h; omega) | omega
  have key : iter (laws_eqWayS_l0 x x) LF 0 = some (.inl ()) := iter_for (f := laws_eqWayS_l0 x x) x.length (fun i => (i : Int)) hl (fun i hi => by
    have hc : cnt_szWay x[i] ≤ 1048576 := by
      have := cnt_mem (cnt := cnt_szWay) hi
      unfold cnt_szWayS cntL at h
      omega
    unfold laws_eqWayS_l0
    rw [show decide ((i : Int) < (x.length : Int)) = true from decide_eq_true (by omega), cond_true, ix_nat, List.getElem?_eq_getElem hi, wrap_succ i (by omega)]
    simp [eqWay_eq _ hc]) (by
    unfold laws_eqWayS_l0
    rw [show decide ((x.length : Int) < (x.length : Int)) = false from decide_eq_false (by omega), cond_false])
  unfold laws_eqWayS
  rw [show decide ((x.length : Int) ≠ (x.length : Int)) = false from decide_eq_false (by simp), cond_false, key]
  rfl
theorem eqAck_eq (x : RAck) : laws_eqAck x x = some true := by
  unfold laws_eqAck
  rw [eqVer_eq x.Ver]
  simp
theorem eqAckS_eq (x : (List RAck)) (h : cnt_szAckS x ≤ 1048576) : laws_eqAckS x x = some true := by
  have hl : x.length ≤ 1048576 := by unfold cnt_szAckS at h; first | (unfold cntL at h; omega) | omega
  have key : iter (laws_eqAckS_l0 x x) LF 0 = some (.inl ()) := iter_for (f := laws_eqAckS_l0 x x) x.length (fun i => (i : Int)) hl (fun i hi => by
    unfold laws_eqAckS_l0
    rw [show decide ((i : Int) < (x.length : Int)) = true from decide_eq_true (by omega), cond_true, ix_nat, List.getElem?_eq_getElem hi, wrap_succ i (by omega)]
    simp [eqAck_eq _]) (by
    unfold laws_eqAckS_l0
    rw [show decide ((x.length : Int) < (x.length : Int)) = false from decide_eq_false (by omega), cond_false])
  unfold laws_eqAckS
  rw [show decide ((x.length : Int) ≠ (x.length : Int)) = false from decide_eq_false (by simp), cond_false, key]
  rfl
theorem eqGot_eq (x : RGot) (h : cnt_szGot x ≤ 1048576) : laws_eqGot x x = some true := by
  unfold cnt_szGot at h
  unfold laws_eqGot
  rw [eqEntry_eq x.Entry (by omega), eqChunk_eq x.Chunk (by omega)]
  simp
theorem eqGotS_eq (x : (List RGot)) (h : cnt_szGotS x ≤ 1048576) : laws_eqGotS x x = some true := by
  have hl : x.length ≤ 1048576 := by unfold cnt_szGotS at h; first | (unfold cntL at h; omega) | omega
  have key : iter (laws_eqGotS_l0 x x) LF 0 = some (.inl ()) := iter_for (f := laws_eqGotS_l0 x x) x.length (fun i => (i : Int)) hl (fun i hi => by
    have hc : cnt_szGot x[i] ≤ 1048576 := by
      have := cnt_mem (cnt := cnt_szGot) hi
      unfold cnt_szGotS cntL at h
      omega
    unfold laws_eqGotS_l0
    rw [show decide ((i : Int) < (x.length : Int)) = true from decide_eq_true (by omega), cond_true, ix_nat, List.getElem?_eq_getElem hi, wrap_succ i (by omega)]
    simp [eqGot_eq _ hc]) (by
    unfold laws_eqGotS_l0
    rw [show decide ((x.length : Int) < (x.length : Int)) = false from decide_eq_false (by omega), cond_false])
  unfold laws_eqGotS
  rw [show decide ((x.length : Int) ≠ (x.length : Int)) = false from decide_eq_false (by simp), cond_false, key]
  rfl
theorem eqWait_eq (x : RWait) (h : cnt_szWait x ≤ 1048576) : laws_eqWait x x = some true := by
  unfold cnt_szWait at h
  unfold laws_eqWait
  rw [eqReq_eq x.Req, eqVer_eq x.Ver, eqGotS_eq x.Got (by omega)]
  simp
theorem eqWaitS_eq (x : (List RWait)) (h : cnt_szWaitS x ≤ 1048576) : laws_eqWaitS x x = some true := by
  have hl : x.length ≤ 1048576 := by unfold cnt_szWaitS at h; first | (unfold cntL at h; omega) | omega
  have key : iter (laws_eqWaitS_l0 x x) LF 0 = some (.inl ()) := iter_for (f := laws_eqWaitS_l0 x x) x.length (fun i => (i : Int)) hl (fun i hi => by
    have hc : cnt_szWait x[i] ≤ 1048576 := by
      have := cnt_mem (cnt := cnt_szWait) hi
      unfold cnt_szWaitS cntL at h
      omega
    unfold laws_eqWaitS_l0
    rw [show decide ((i : Int) < (x.length : Int)) = true from decide_eq_true (by omega), cond_true, ix_nat, List.getElem?_eq_getElem hi, wrap_succ i (by omega)]
    simp [eqWait_eq _ hc]) (by
    unfold laws_eqWaitS_l0
    rw [show decide ((x.length : Int) < (x.length : Int)) = false from decide_eq_false (by omega), cond_false])
  unfold laws_eqWaitS
  rw [show decide ((x.length : Int) ≠ (x.length : Int)) = false from decide_eq_false (by simp), cond_false, key]
  rfl
theorem eqLine_eq (x : RLine) (h : cnt_szLine x ≤ 1048576) : laws_eqLine x x = some true := by
  unfold cnt_szLine at h
  unfold laws_eqLine
  rw [eqCode_eq x.Code, eqInt64S_eq x.Acting (by omega), eqPgState_eq x.State (by omega), eqWayS_eq x.Way (by omega), eqAckS_eq x.Acks (by omega), eqWaitS_eq x.Waits (by omega)]
  simp
theorem eqLead_eq (x : RLead) (h : cnt_szLead x ≤ 1048576) : laws_eqLead x x = some true := by
  unfold cnt_szLead at h
  unfold laws_eqLead
  rw [eqPg_eq x.Pg, eqCode_eq x.Code, eqInt64S_eq x.Acting (by omega), eqIntervalS_eq x.Ivs (by omega), eqNoticeS_eq x.Heard (by omega), eqPgState_eq x.Pick (by omega), eqFillS_eq x.Fills (by omega), eqChunkS_eq x.Have (by omega), eqInt64S_eq x.Ready (by omega), eqLine_eq x.Line (by omega)]
  simp
theorem eqLeadS_eq (x : (List RLead)) (h : cnt_szLeadS x ≤ 1048576) : laws_eqLeadS x x = some true := by
  have hl : x.length ≤ 1048576 := by unfold cnt_szLeadS at h; first | (unfold cntL at h; omega) | omega
  have key : iter (laws_eqLeadS_l0 x x) LF 0 = some (.inl ()) := iter_for (f := laws_eqLeadS_l0 x x) x.length (fun i => (i : Int)) hl (fun i hi => by
    have hc : cnt_szLead x[i] ≤ 1048576 := by
      have := cnt_mem (cnt := cnt_szLead) hi
      unfold cnt_szLeadS cntL at h
      omega
    unfold laws_eqLeadS_l0
    rw [show decide ((i : Int) < (x.length : Int)) = true from decide_eq_true (by omega), cond_true, ix_nat, List.getElem?_eq_getElem hi, wrap_succ i (by omega)]
    simp [eqLead_eq _ hc]) (by
    unfold laws_eqLeadS_l0
    rw [show decide ((x.length : Int) < (x.length : Int)) = false from decide_eq_false (by omega), cond_false])
  unfold laws_eqLeadS
  rw [show decide ((x.length : Int) ≠ (x.length : Int)) = false from decide_eq_false (by simp), cond_false, key]
  rfl
theorem eqOp_eq (x : ROp) (h : cnt_szOp x ≤ 1048576) : laws_eqOp x x = some true := by
  unfold cnt_szOp at h
  unfold laws_eqOp
  simp
theorem eqMsg_eq (x : RMsg) (h : cnt_szMsg x ≤ 1048576) : laws_eqMsg x x = some true := by
  unfold cnt_szMsg at h
  unfold laws_eqMsg
  rw [eqPg_eq x.Pg, eqVer_eq x.Ver, eqVer_eq x.Firm, eqPgState_eq x.State (by omega), eqEntry_eq x.Entry (by omega), eqChunk_eq x.Chunk (by omega), eqOp_eq x.Op (by omega), eqReq_eq x.Req]
  simp
theorem eqMsgS_eq (x : (List RMsg)) (h : cnt_szMsgS x ≤ 1048576) : laws_eqMsgS x x = some true := by
  have hl : x.length ≤ 1048576 := by unfold cnt_szMsgS at h; first | (unfold cntL at h; omega) | omega
  have key : iter (laws_eqMsgS_l0 x x) LF 0 = some (.inl ()) := iter_for (f := laws_eqMsgS_l0 x x) x.length (fun i => (i : Int)) hl (fun i hi => by
    have hc : cnt_szMsg x[i] ≤ 1048576 := by
      have := cnt_mem (cnt := cnt_szMsg) hi
      unfold cnt_szMsgS cntL at h
      omega
    unfold laws_eqMsgS_l0
    rw [show decide ((i : Int) < (x.length : Int)) = true from decide_eq_true (by omega), cond_true, ix_nat, List.getElem?_eq_getElem hi, wrap_succ i (by omega)]
    simp [eqMsg_eq _ hc]) (by
    unfold laws_eqMsgS_l0
    rw [show decide ((x.length : Int) < (x.length : Int)) = false from decide_eq_false (by omega), cond_false])
  unfold laws_eqMsgS
  rw [show decide ((x.length : Int) ≠ (x.length : Int)) = false from decide_eq_false (by simp), cond_false, key]
  rfl
theorem eqServer_eq (x : RServer) (h : cnt_szServer x ≤ 1048576) : laws_eqServer x x = some true := by
  unfold cnt_szServer at h
  unfold laws_eqServer
  rw [eqStore_eq x.Store (by omega), eqLeadS_eq x.Leads (by omega), eqMsgS_eq x.Out (by omega)]
  simp
theorem cmp_RVer (x y : RVer) : (decide (x.Epoch = y.Epoch) && decide (x.Seq = y.Seq)) = decide (x = y) := by
  obtain ⟨aEpoch, aSeq⟩ := x
  obtain ⟨bEpoch, bSeq⟩ := y
  rw [Bool.eq_iff_iff]
  simp [and_assoc]
theorem ext_RVer (x y : RVer) : decide (x = y) = (decide (x.Epoch = y.Epoch) && decide (x.Seq = y.Seq)) := by
  cases x
  cases y
  rw [Bool.eq_iff_iff]
  simp
theorem cmp_RHead (x y : RHead) : (decide (x.Name = y.Name) && (decide (x.Ver.Epoch = y.Ver.Epoch) && (decide (x.Ver.Seq = y.Ver.Seq) && (decide (x.Size = y.Size) && decide (x.Sum = y.Sum))))) = decide (x = y) := by
  obtain ⟨aName, ⟨aVerEpoch, aVerSeq⟩, aSize, aSum⟩ := x
  obtain ⟨bName, ⟨bVerEpoch, bVerSeq⟩, bSize, bSum⟩ := y
  rw [Bool.eq_iff_iff]
  simp [and_assoc]
theorem ext_RHead (x y : RHead) : decide (x = y) = (decide (x.Name = y.Name) && (decide (x.Ver = y.Ver) && (decide (x.Size = y.Size) && decide (x.Sum = y.Sum)))) := by
  cases x
  cases y
  rw [Bool.eq_iff_iff]
  simp
theorem cmp_RLast (x y : RLast) : (decide (x.Client = y.Client) && (decide (x.No = y.No) && (decide (x.Ver.Epoch = y.Ver.Epoch) && decide (x.Ver.Seq = y.Ver.Seq)))) = decide (x = y) := by
  obtain ⟨aClient, aNo, ⟨aVerEpoch, aVerSeq⟩⟩ := x
  obtain ⟨bClient, bNo, ⟨bVerEpoch, bVerSeq⟩⟩ := y
  rw [Bool.eq_iff_iff]
  simp [and_assoc]
theorem ext_RLast (x y : RLast) : decide (x = y) = (decide (x.Client = y.Client) && (decide (x.No = y.No) && decide (x.Ver = y.Ver))) := by
  cases x
  cases y
  rw [Bool.eq_iff_iff]
  simp
theorem cmp_RReq (x y : RReq) : (decide (x.Client = y.Client) && decide (x.No = y.No)) = decide (x = y) := by
  obtain ⟨aClient, aNo⟩ := x
  obtain ⟨bClient, bNo⟩ := y
  rw [Bool.eq_iff_iff]
  simp [and_assoc]
theorem ext_RReq (x y : RReq) : decide (x = y) = (decide (x.Client = y.Client) && decide (x.No = y.No)) := by
  cases x
  cases y
  rw [Bool.eq_iff_iff]
  simp
theorem cmp_REntry (x y : REntry) : (decide (x.Ver.Epoch = y.Ver.Epoch) && (decide (x.Ver.Seq = y.Ver.Seq) && (decide (x.Prior.Epoch = y.Prior.Epoch) && (decide (x.Prior.Seq = y.Prior.Seq) && (decide (x.Name = y.Name) && ((x.Gone == y.Gone) && (decide (x.Size = y.Size) && (decide (x.Sum = y.Sum) && (decide (x.Req.Client = y.Req.Client) && decide (x.Req.No = y.Req.No)))))))))) = decide (x = y) := by
  obtain ⟨⟨aVerEpoch, aVerSeq⟩, ⟨aPriorEpoch, aPriorSeq⟩, aName, aGone, aSize, aSum, ⟨aReqClient, aReqNo⟩⟩ := x
  obtain ⟨⟨bVerEpoch, bVerSeq⟩, ⟨bPriorEpoch, bPriorSeq⟩, bName, bGone, bSize, bSum, ⟨bReqClient, bReqNo⟩⟩ := y
  rw [Bool.eq_iff_iff]
  simp [and_assoc]
theorem ext_REntry (x y : REntry) : decide (x = y) = (decide (x.Ver = y.Ver) && (decide (x.Prior = y.Prior) && (decide (x.Name = y.Name) && (decide (x.Gone = y.Gone) && (decide (x.Size = y.Size) && (decide (x.Sum = y.Sum) && decide (x.Req = y.Req))))))) := by
  cases x
  cases y
  rw [Bool.eq_iff_iff]
  simp
theorem cmp_RChunk (x y : RChunk) : (decide (x.Name = y.Name) && (decide (x.Ver.Epoch = y.Ver.Epoch) && (decide (x.Ver.Seq = y.Ver.Seq) && (decide (x.Pos = y.Pos) && (decide (x.Sum = y.Sum) && decide (x.Bytes = y.Bytes)))))) = decide (x = y) := by
  obtain ⟨aName, ⟨aVerEpoch, aVerSeq⟩, aPos, aSum, aBytes⟩ := x
  obtain ⟨bName, ⟨bVerEpoch, bVerSeq⟩, bPos, bSum, bBytes⟩ := y
  rw [Bool.eq_iff_iff]
  simp [and_assoc]
theorem ext_RChunk (x y : RChunk) : decide (x = y) = (decide (x.Name = y.Name) && (decide (x.Ver = y.Ver) && (decide (x.Pos = y.Pos) && (decide (x.Sum = y.Sum) && decide (x.Bytes = y.Bytes))))) := by
  cases x
  cases y
  rw [Bool.eq_iff_iff]
  simp
theorem cmp_RPg (x y : RPg) : (decide (x.Pool = y.Pool) && decide (x.No = y.No)) = decide (x = y) := by
  obtain ⟨aPool, aNo⟩ := x
  obtain ⟨bPool, bNo⟩ := y
  rw [Bool.eq_iff_iff]
  simp [and_assoc]
theorem ext_RPg (x y : RPg) : decide (x = y) = (decide (x.Pool = y.Pool) && decide (x.No = y.No)) := by
  cases x
  cases y
  rw [Bool.eq_iff_iff]
  simp
theorem ext_RPgState (x y : RPgState) : decide (x = y) = (decide (x.Pg = y.Pg) && (decide (x.Seen = y.Seen) && (decide (x.Started = y.Started) && (decide (x.Tail = y.Tail) && (decide (x.Base = y.Base) && (decide (x.Clients = y.Clients) && (decide (x.Log = y.Log) && (decide (x.Firm = y.Firm) && decide (x.Chunks = y.Chunks))))))))) := by
  cases x
  cases y
  rw [Bool.eq_iff_iff]
  simp
theorem ext_RStore (x y : RStore) : decide (x = y) = (decide (x.Live = y.Live) && decide (x.Kept = y.Kept)) := by
  cases x
  cases y
  rw [Bool.eq_iff_iff]
  simp
theorem ext_RInterval (x y : RInterval) : decide (x = y) = (decide (x.First = y.First) && (decide (x.Last = y.Last) && (decide (x.Acting = y.Acting) && decide (x.May = y.May)))) := by
  cases x
  cases y
  rw [Bool.eq_iff_iff]
  simp
theorem ext_RNotice (x y : RNotice) : decide (x = y) = (decide (x.From = y.From) && decide (x.State = y.State)) := by
  cases x
  cases y
  rw [Bool.eq_iff_iff]
  simp
theorem cmp_RFill (x y : RFill) : (decide (x.Node = y.Node) && (decide (x.Pos = y.Pos) && (decide (x.Head.Name = y.Head.Name) && (decide (x.Head.Ver.Epoch = y.Head.Ver.Epoch) && (decide (x.Head.Ver.Seq = y.Head.Ver.Seq) && (decide (x.Head.Size = y.Head.Size) && decide (x.Head.Sum = y.Head.Sum))))))) = decide (x = y) := by
  obtain ⟨aNode, aPos, ⟨aHeadName, ⟨aHeadVerEpoch, aHeadVerSeq⟩, aHeadSize, aHeadSum⟩⟩ := x
  obtain ⟨bNode, bPos, ⟨bHeadName, ⟨bHeadVerEpoch, bHeadVerSeq⟩, bHeadSize, bHeadSum⟩⟩ := y
  rw [Bool.eq_iff_iff]
  simp [and_assoc]
theorem ext_RFill (x y : RFill) : decide (x = y) = (decide (x.Node = y.Node) && (decide (x.Pos = y.Pos) && decide (x.Head = y.Head))) := by
  cases x
  cases y
  rw [Bool.eq_iff_iff]
  simp
theorem cmp_RWay (x y : RWay) : (decide (x.Entry.Ver.Epoch = y.Entry.Ver.Epoch) && (decide (x.Entry.Ver.Seq = y.Entry.Ver.Seq) && (decide (x.Entry.Prior.Epoch = y.Entry.Prior.Epoch) && (decide (x.Entry.Prior.Seq = y.Entry.Prior.Seq) && (decide (x.Entry.Name = y.Entry.Name) && ((x.Entry.Gone == y.Entry.Gone) && (decide (x.Entry.Size = y.Entry.Size) && (decide (x.Entry.Sum = y.Entry.Sum) && (decide (x.Entry.Req.Client = y.Entry.Req.Client) && (decide (x.Entry.Req.No = y.Entry.Req.No) && decide (x.Body = y.Body))))))))))) = decide (x = y) := by
  obtain ⟨⟨⟨aEntryVerEpoch, aEntryVerSeq⟩, ⟨aEntryPriorEpoch, aEntryPriorSeq⟩, aEntryName, aEntryGone, aEntrySize, aEntrySum, ⟨aEntryReqClient, aEntryReqNo⟩⟩, aBody⟩ := x
  obtain ⟨⟨⟨bEntryVerEpoch, bEntryVerSeq⟩, ⟨bEntryPriorEpoch, bEntryPriorSeq⟩, bEntryName, bEntryGone, bEntrySize, bEntrySum, ⟨bEntryReqClient, bEntryReqNo⟩⟩, bBody⟩ := y
  rw [Bool.eq_iff_iff]
  simp [and_assoc]
theorem ext_RWay (x y : RWay) : decide (x = y) = (decide (x.Entry = y.Entry) && decide (x.Body = y.Body)) := by
  cases x
  cases y
  rw [Bool.eq_iff_iff]
  simp
theorem cmp_RAck (x y : RAck) : (decide (x.Node = y.Node) && (decide (x.Ver.Epoch = y.Ver.Epoch) && decide (x.Ver.Seq = y.Ver.Seq))) = decide (x = y) := by
  obtain ⟨aNode, ⟨aVerEpoch, aVerSeq⟩⟩ := x
  obtain ⟨bNode, ⟨bVerEpoch, bVerSeq⟩⟩ := y
  rw [Bool.eq_iff_iff]
  simp [and_assoc]
theorem ext_RAck (x y : RAck) : decide (x = y) = (decide (x.Node = y.Node) && decide (x.Ver = y.Ver)) := by
  cases x
  cases y
  rw [Bool.eq_iff_iff]
  simp
theorem cmp_RGot (x y : RGot) : (decide (x.Node = y.Node) && (decide (x.Entry.Ver.Epoch = y.Entry.Ver.Epoch) && (decide (x.Entry.Ver.Seq = y.Entry.Ver.Seq) && (decide (x.Entry.Prior.Epoch = y.Entry.Prior.Epoch) && (decide (x.Entry.Prior.Seq = y.Entry.Prior.Seq) && (decide (x.Entry.Name = y.Entry.Name) && ((x.Entry.Gone == y.Entry.Gone) && (decide (x.Entry.Size = y.Entry.Size) && (decide (x.Entry.Sum = y.Entry.Sum) && (decide (x.Entry.Req.Client = y.Entry.Req.Client) && (decide (x.Entry.Req.No = y.Entry.Req.No) && (decide (x.Chunk.Name = y.Chunk.Name) && (decide (x.Chunk.Ver.Epoch = y.Chunk.Ver.Epoch) && (decide (x.Chunk.Ver.Seq = y.Chunk.Ver.Seq) && (decide (x.Chunk.Pos = y.Chunk.Pos) && (decide (x.Chunk.Sum = y.Chunk.Sum) && decide (x.Chunk.Bytes = y.Chunk.Bytes))))))))))))))))) = decide (x = y) := by
  obtain ⟨aNode, ⟨⟨aEntryVerEpoch, aEntryVerSeq⟩, ⟨aEntryPriorEpoch, aEntryPriorSeq⟩, aEntryName, aEntryGone, aEntrySize, aEntrySum, ⟨aEntryReqClient, aEntryReqNo⟩⟩, ⟨aChunkName, ⟨aChunkVerEpoch, aChunkVerSeq⟩, aChunkPos, aChunkSum, aChunkBytes⟩⟩ := x
  obtain ⟨bNode, ⟨⟨bEntryVerEpoch, bEntryVerSeq⟩, ⟨bEntryPriorEpoch, bEntryPriorSeq⟩, bEntryName, bEntryGone, bEntrySize, bEntrySum, ⟨bEntryReqClient, bEntryReqNo⟩⟩, ⟨bChunkName, ⟨bChunkVerEpoch, bChunkVerSeq⟩, bChunkPos, bChunkSum, bChunkBytes⟩⟩ := y
  rw [Bool.eq_iff_iff]
  simp [and_assoc]
theorem ext_RGot (x y : RGot) : decide (x = y) = (decide (x.Node = y.Node) && (decide (x.Entry = y.Entry) && decide (x.Chunk = y.Chunk))) := by
  cases x
  cases y
  rw [Bool.eq_iff_iff]
  simp
theorem ext_RWait (x y : RWait) : decide (x = y) = (decide (x.Req = y.Req) && (decide (x.Name = y.Name) && (decide (x.Ver = y.Ver) && decide (x.Got = y.Got)))) := by
  cases x
  cases y
  rw [Bool.eq_iff_iff]
  simp
theorem cmp_RCode (x y : RCode) : (decide (x.K = y.K) && decide (x.M = y.M)) = decide (x = y) := by
  obtain ⟨aK, aM⟩ := x
  obtain ⟨bK, bM⟩ := y
  rw [Bool.eq_iff_iff]
  simp [and_assoc]
theorem ext_RCode (x y : RCode) : decide (x = y) = (decide (x.K = y.K) && decide (x.M = y.M)) := by
  cases x
  cases y
  rw [Bool.eq_iff_iff]
  simp
theorem ext_RLine (x y : RLine) : decide (x = y) = (decide (x.Epoch = y.Epoch) && (decide (x.Code = y.Code) && (decide (x.Acting = y.Acting) && (decide (x.State = y.State) && (decide (x.Way = y.Way) && (decide (x.Acks = y.Acks) && decide (x.Waits = y.Waits))))))) := by
  cases x
  cases y
  rw [Bool.eq_iff_iff]
  simp
theorem ext_RLead (x y : RLead) : decide (x = y) = (decide (x.Pg = y.Pg) && (decide (x.Epoch = y.Epoch) && (decide (x.Phase = y.Phase) && (decide (x.Code = y.Code) && (decide (x.Acting = y.Acting) && (decide (x.Ivs = y.Ivs) && (decide (x.Heard = y.Heard) && (decide (x.Pick = y.Pick) && (decide (x.Fills = y.Fills) && (decide (x.Have = y.Have) && (decide (x.Ready = y.Ready) && decide (x.Line = y.Line)))))))))))) := by
  cases x
  cases y
  rw [Bool.eq_iff_iff]
  simp
theorem cmp_ROp (x y : ROp) : (decide (x.Kind = y.Kind) && (decide (x.At = y.At) && decide (x.Bytes = y.Bytes))) = decide (x = y) := by
  obtain ⟨aKind, aAt, aBytes⟩ := x
  obtain ⟨bKind, bAt, bBytes⟩ := y
  rw [Bool.eq_iff_iff]
  simp [and_assoc]
theorem ext_ROp (x y : ROp) : decide (x = y) = (decide (x.Kind = y.Kind) && (decide (x.At = y.At) && decide (x.Bytes = y.Bytes))) := by
  cases x
  cases y
  rw [Bool.eq_iff_iff]
  simp
theorem ext_RMsg (x y : RMsg) : decide (x = y) = (decide (x.Kind = y.Kind) && (decide (x.From = y.From) && (decide (x.To = y.To) && (decide (x.Pg = y.Pg) && (decide (x.Epoch = y.Epoch) && (decide (x.Name = y.Name) && (decide (x.Ver = y.Ver) && (decide (x.Firm = y.Firm) && (decide (x.State = y.State) && (decide (x.Entry = y.Entry) && (decide (x.Chunk = y.Chunk) && (decide (x.Op = y.Op) && (decide (x.Req = y.Req) && (decide (x.Code = y.Code) && decide (x.Body = y.Body))))))))))))))) := by
  cases x
  cases y
  rw [Bool.eq_iff_iff]
  simp
theorem ext_RServer (x y : RServer) : decide (x = y) = (decide (x.Id = y.Id) && (decide (x.Epoch = y.Epoch) && (decide (x.Alive = y.Alive) && (decide (x.Store = y.Store) && (decide (x.Leads = y.Leads) && decide (x.Out = y.Out)))))) := by
  cases x
  cases y
  rw [Bool.eq_iff_iff]
  simp
theorem beqB (a b : Bool) : (a == b) = decide (a = b) := by cases a <;> cases b <;> rfl
theorem dne {α : Type} [DecidableEq α] (a b : α) : decide (a ≠ b) = !decide (a = b) := by simp
theorem spec_l25SameState_l0eq (a0 a1 : RPgState) (h : cnt_szHeadS a0.Base ≤ 1048576) (hl : a0.Base.length = a1.Base.length) : iter (spec_l25SameState_l0 a0 a1) LF 0 = some (bif decide (a0.Base = a1.Base) then .inl () else .inr ()) := by
  have hb : a0.Base.length ≤ 1048576 := by unfold cnt_szHeadS at h; first | (unfold cntL at h; omega) | omega
  have key := iter_all (f := spec_l25SameState_l0 a0 a1) a0.Base.length (fun i => (i : Int)) (fun i => decide (a0.Base[i]? = a1.Base[i]?)) (xt := .inl ()) (xf := .inr ()) hb (fun i hi => by
    have hc : cnt_szHead a0.Base[i] ≤ 1048576 := by
      have := cnt_mem (cnt := cnt_szHead) hi
      unfold cnt_szHeadS cntL at h
      omega
    have hj : i < a1.Base.length := by omega
    unfold spec_l25SameState_l0
    simp only [ix_nat]
    rw [show decide ((i : Int) < (a0.Base.length : Int)) = true from decide_eq_true (by omega), cond_true, List.getElem?_eq_getElem hi, List.getElem?_eq_getElem hj, wrap_succ i (by omega)]
    simp only [Option.bind_some, Option.some.injEq]
    revert hc
    generalize a0.Base[i] = x
    generalize a1.Base[i] = y
    intro hc
    try simp only [cmp_RGot]
    try simp only [cmp_RWay]
    try simp only [cmp_REntry]
    try simp only [cmp_RFill]
    try simp only [cmp_RChunk]
    try simp only [cmp_RHead]
    try simp only [cmp_RLast]
    try simp only [cmp_RAck]
    try simp only [cmp_ROp]
    try simp only [cmp_RVer]
    try simp only [cmp_RReq]
    try simp only [cmp_RPg]
    try simp only [cmp_RCode]
    by_cases e : x = y <;> simp [e]
    ) (by
    unfold spec_l25SameState_l0
    simp only
    rw [show decide ((a0.Base.length : Int) < (a0.Base.length : Int)) = false from decide_eq_false (by omega), cond_false])
  rw [all_eq a0.Base a1.Base hl] at key
  exact key
theorem spec_l25SameState_l1eq (a0 a1 : RPgState) (h : cnt_szLastS a0.Clients ≤ 1048576) (hl : a0.Clients.length = a1.Clients.length) : iter (spec_l25SameState_l1 a0 a1) LF 0 = some (bif decide (a0.Clients = a1.Clients) then .inl () else .inr ()) := by
  have hb : a0.Clients.length ≤ 1048576 := by unfold cnt_szLastS at h; first | (unfold cntL at h; omega) | omega
  have key := iter_all (f := spec_l25SameState_l1 a0 a1) a0.Clients.length (fun i => (i : Int)) (fun i => decide (a0.Clients[i]? = a1.Clients[i]?)) (xt := .inl ()) (xf := .inr ()) hb (fun i hi => by
    have hj : i < a1.Clients.length := by omega
    unfold spec_l25SameState_l1
    simp only [ix_nat]
    rw [show decide ((i : Int) < (a0.Clients.length : Int)) = true from decide_eq_true (by omega), cond_true, List.getElem?_eq_getElem hi, List.getElem?_eq_getElem hj, wrap_succ i (by omega)]
    simp only [Option.bind_some, Option.some.injEq]
    generalize a0.Clients[i] = x at *
    generalize a1.Clients[i] = y
    try simp only [cmp_RGot]
    try simp only [cmp_RWay]
    try simp only [cmp_REntry]
    try simp only [cmp_RFill]
    try simp only [cmp_RChunk]
    try simp only [cmp_RHead]
    try simp only [cmp_RLast]
    try simp only [cmp_RAck]
    try simp only [cmp_ROp]
    try simp only [cmp_RVer]
    try simp only [cmp_RReq]
    try simp only [cmp_RPg]
    try simp only [cmp_RCode]
    by_cases e : x = y <;> simp [e]
    ) (by
    unfold spec_l25SameState_l1
    simp only
    rw [show decide ((a0.Clients.length : Int) < (a0.Clients.length : Int)) = false from decide_eq_false (by omega), cond_false])
  rw [all_eq a0.Clients a1.Clients hl] at key
  exact key
theorem spec_l25SameState_l2eq (a0 a1 : RPgState) (h : cnt_szEntryS a0.Log ≤ 1048576) (hl : a0.Log.length = a1.Log.length) : iter (spec_l25SameState_l2 a0 a1) LF 0 = some (bif decide (a0.Log = a1.Log) then .inl () else .inr ()) := by
  have hb : a0.Log.length ≤ 1048576 := by unfold cnt_szEntryS at h; first | (unfold cntL at h; omega) | omega
  have key := iter_all (f := spec_l25SameState_l2 a0 a1) a0.Log.length (fun i => (i : Int)) (fun i => decide (a0.Log[i]? = a1.Log[i]?)) (xt := .inl ()) (xf := .inr ()) hb (fun i hi => by
    have hc : cnt_szEntry a0.Log[i] ≤ 1048576 := by
      have := cnt_mem (cnt := cnt_szEntry) hi
      unfold cnt_szEntryS cntL at h
      omega
    have hj : i < a1.Log.length := by omega
    unfold spec_l25SameState_l2
    simp only [ix_nat]
    rw [show decide ((i : Int) < (a0.Log.length : Int)) = true from decide_eq_true (by omega), cond_true, List.getElem?_eq_getElem hi, List.getElem?_eq_getElem hj, wrap_succ i (by omega)]
    simp only [Option.bind_some, Option.some.injEq]
    revert hc
    generalize a0.Log[i] = x
    generalize a1.Log[i] = y
    intro hc
    try simp only [cmp_RGot]
    try simp only [cmp_RWay]
    try simp only [cmp_REntry]
    try simp only [cmp_RFill]
    try simp only [cmp_RChunk]
    try simp only [cmp_RHead]
    try simp only [cmp_RLast]
    try simp only [cmp_RAck]
    try simp only [cmp_ROp]
    try simp only [cmp_RVer]
    try simp only [cmp_RReq]
    try simp only [cmp_RPg]
    try simp only [cmp_RCode]
    by_cases e : x = y <;> simp [e]
    ) (by
    unfold spec_l25SameState_l2
    simp only
    rw [show decide ((a0.Log.length : Int) < (a0.Log.length : Int)) = false from decide_eq_false (by omega), cond_false])
  rw [all_eq a0.Log a1.Log hl] at key
  exact key
theorem spec_l25SameState_l3eq (a0 a1 : RPgState) (h : cnt_szChunkS a0.Chunks ≤ 1048576) (hl : a0.Chunks.length = a1.Chunks.length) : iter (spec_l25SameState_l3 a0 a1) LF 0 = some (bif decide (a0.Chunks = a1.Chunks) then .inl () else .inr ()) := by
  have hb : a0.Chunks.length ≤ 1048576 := by unfold cnt_szChunkS at h; first | (unfold cntL at h; omega) | omega
  have key := iter_all (f := spec_l25SameState_l3 a0 a1) a0.Chunks.length (fun i => (i : Int)) (fun i => decide (a0.Chunks[i]? = a1.Chunks[i]?)) (xt := .inl ()) (xf := .inr ()) hb (fun i hi => by
    have hc : cnt_szChunk a0.Chunks[i] ≤ 1048576 := by
      have := cnt_mem (cnt := cnt_szChunk) hi
      unfold cnt_szChunkS cntL at h
      omega
    have hj : i < a1.Chunks.length := by omega
    unfold spec_l25SameState_l3
    simp only [ix_nat]
    rw [show decide ((i : Int) < (a0.Chunks.length : Int)) = true from decide_eq_true (by omega), cond_true, List.getElem?_eq_getElem hi, List.getElem?_eq_getElem hj, wrap_succ i (by omega)]
    simp only [Option.bind_some, Option.some.injEq]
    revert hc
    generalize a0.Chunks[i] = x
    generalize a1.Chunks[i] = y
    intro hc
    try simp only [cmp_RGot]
    try simp only [cmp_RWay]
    try simp only [cmp_REntry]
    try simp only [cmp_RFill]
    try simp only [cmp_RChunk]
    try simp only [cmp_RHead]
    try simp only [cmp_RLast]
    try simp only [cmp_RAck]
    try simp only [cmp_ROp]
    try simp only [cmp_RVer]
    try simp only [cmp_RReq]
    try simp only [cmp_RPg]
    try simp only [cmp_RCode]
    by_cases e : x = y <;> simp [e]
    ) (by
    unfold spec_l25SameState_l3
    simp only
    rw [show decide ((a0.Chunks.length : Int) < (a0.Chunks.length : Int)) = false from decide_eq_false (by omega), cond_false])
  rw [all_eq a0.Chunks a1.Chunks hl] at key
  exact key
theorem spec_l25SameState_eq (a0 a1 : RPgState) (h : cnt_szPgState a0 ≤ 1048576) : spec_l25SameState a0 a1 = some (decide (a0 = a1)) := by
  unfold cnt_szPgState at h
  unfold spec_l25SameState
  try simp only [cmp_RGot]
  try simp only [cmp_RWay]
  try simp only [cmp_REntry]
  try simp only [cmp_RFill]
  try simp only [cmp_RChunk]
  try simp only [cmp_RHead]
  try simp only [cmp_RLast]
  try simp only [cmp_RAck]
  try simp only [cmp_ROp]
  try simp only [cmp_RVer]
  try simp only [cmp_RReq]
  try simp only [cmp_RPg]
  try simp only [cmp_RCode]
  rw [ext_RPgState]
  simp only [beqB, dne, Option.bind_some]
  by_cases hlBase : a0.Base.length = a1.Base.length
  case neg =>
    rw [show decide ((a0.Base.length : Int) = (a1.Base.length : Int)) = false from decide_eq_false (by omega), show decide (a0.Base = a1.Base) = false from decide_eq_false (fun e => hlBase (by rw [e]))]
    simp
  rw [show decide ((a0.Base.length : Int) = (a1.Base.length : Int)) = true from decide_eq_true (by omega)]
  by_cases hlClients : a0.Clients.length = a1.Clients.length
  case neg =>
    rw [show decide ((a0.Clients.length : Int) = (a1.Clients.length : Int)) = false from decide_eq_false (by omega), show decide (a0.Clients = a1.Clients) = false from decide_eq_false (fun e => hlClients (by rw [e]))]
    simp
  rw [show decide ((a0.Clients.length : Int) = (a1.Clients.length : Int)) = true from decide_eq_true (by omega)]
  by_cases hlLog : a0.Log.length = a1.Log.length
  case neg =>
    rw [show decide ((a0.Log.length : Int) = (a1.Log.length : Int)) = false from decide_eq_false (by omega), show decide (a0.Log = a1.Log) = false from decide_eq_false (fun e => hlLog (by rw [e]))]
    simp
  rw [show decide ((a0.Log.length : Int) = (a1.Log.length : Int)) = true from decide_eq_true (by omega)]
  by_cases hlChunks : a0.Chunks.length = a1.Chunks.length
  case neg =>
    rw [show decide ((a0.Chunks.length : Int) = (a1.Chunks.length : Int)) = false from decide_eq_false (by omega), show decide (a0.Chunks = a1.Chunks) = false from decide_eq_false (fun e => hlChunks (by rw [e]))]
    simp
  rw [show decide ((a0.Chunks.length : Int) = (a1.Chunks.length : Int)) = true from decide_eq_true (by omega)]
  rw [spec_l25SameState_l0eq a0 a1 (by omega) hlBase]
  rw [spec_l25SameState_l1eq a0 a1 (by omega) hlClients]
  rw [spec_l25SameState_l2eq a0 a1 (by omega) hlLog]
  rw [spec_l25SameState_l3eq a0 a1 (by omega) hlChunks]
  try simp only [Option.bind_some]
  generalize decide (a0.Pg = a1.Pg) = bPg
  generalize decide (a0.Seen = a1.Seen) = bSeen
  generalize decide (a0.Started = a1.Started) = bStarted
  generalize decide (a0.Tail = a1.Tail) = bTail
  generalize decide (a0.Base = a1.Base) = bBase
  generalize decide (a0.Clients = a1.Clients) = bClients
  generalize decide (a0.Log = a1.Log) = bLog
  generalize decide (a0.Firm = a1.Firm) = bFirm
  generalize decide (a0.Chunks = a1.Chunks) = bChunks
  cases bPg
  · first | (simp; done) | (revert bSeen bStarted bTail bBase bClients bLog bFirm bChunks; decide)
  cases bSeen
  · first | (simp; done) | (revert bStarted bTail bBase bClients bLog bFirm bChunks; decide)
  cases bStarted
  · first | (simp; done) | (revert bTail bBase bClients bLog bFirm bChunks; decide)
  cases bTail
  · first | (simp; done) | (revert bBase bClients bLog bFirm bChunks; decide)
  cases bBase
  · first | (simp; done) | (revert bClients bLog bFirm bChunks; decide)
  cases bClients
  · first | (simp; done) | (revert bLog bFirm bChunks; decide)
  cases bLog
  · first | (simp; done) | (revert bFirm bChunks; decide)
  cases bFirm
  · first | (simp; done) | (revert bChunks; decide)
  cases bChunks
  · first | (simp; done)
  all_goals first | rfl | simp
theorem spec_l30SameStates_l0eq (a0 a1 : (List RPgState)) (h : cnt_szPgStateS a0 ≤ 1048576) (hl : a0.length = a1.length) : iter (spec_l30SameStates_l0 a0 a1) LF 0 = some (bif decide (a0 = a1) then .inl () else .inr ()) := by
  have hb : a0.length ≤ 1048576 := by unfold cnt_szPgStateS at h; first | (unfold cntL at h; omega) | omega
  have key := iter_all (f := spec_l30SameStates_l0 a0 a1) a0.length (fun i => (i : Int)) (fun i => decide (a0[i]? = a1[i]?)) (xt := .inl ()) (xf := .inr ()) hb (fun i hi => by
    have hc : cnt_szPgState a0[i] ≤ 1048576 := by
      have := cnt_mem (cnt := cnt_szPgState) hi
      unfold cnt_szPgStateS cntL at h
      omega
    have hj : i < a1.length := by omega
    unfold spec_l30SameStates_l0
    simp only [ix_nat]
    rw [show decide ((i : Int) < (a0.length : Int)) = true from decide_eq_true (by omega), cond_true, List.getElem?_eq_getElem hi, List.getElem?_eq_getElem hj, wrap_succ i (by omega)]
    simp only [Option.bind_some, Option.some.injEq]
    revert hc
    generalize a0[i] = x
    generalize a1[i] = y
    intro hc
    rw [spec_l25SameState_eq _ _ hc]
    by_cases e : x = y <;> simp [e]
    ) (by
    unfold spec_l30SameStates_l0
    simp only
    rw [show decide ((a0.length : Int) < (a0.length : Int)) = false from decide_eq_false (by omega), cond_false])
  rw [all_eq a0 a1 hl] at key
  exact key
theorem spec_l30SameStates_eq (a0 a1 : (List RPgState)) (h : cnt_szPgStateS a0 ≤ 1048576) : spec_l30SameStates a0 a1 = some (decide (a0 = a1)) := by
  unfold spec_l30SameStates
  by_cases hl : a0.length = a1.length
  · rw [show decide ((a0.length : Int) ≠ (a1.length : Int)) = false from decide_eq_false (by omega), cond_false, spec_l30SameStates_l0eq a0 a1 h hl]
    by_cases e : a0 = a1 <;> simp [e]
  · rw [show decide ((a0.length : Int) ≠ (a1.length : Int)) = true from decide_eq_true (by omega), cond_true, show decide (a0 = a1) = false from decide_eq_false (fun e => hl (by rw [e]))]
theorem spec_l00Same_l0eq (a0 a1 : (List Int)) (h : cnt_szInt64S a0 ≤ 1048576) (hl : a0.length = a1.length) : iter (spec_l00Same_l0 a0 a1) LF 0 = some (bif decide (a0 = a1) then .inl () else .inr ()) := by
  have hb : a0.length ≤ 1048576 := by unfold cnt_szInt64S at h; first | (unfold cntL at h; omega) | omega
  have key := iter_all (f := spec_l00Same_l0 a0 a1) a0.length (fun i => (i : Int)) (fun i => decide (a0[i]? = a1[i]?)) (xt := .inl ()) (xf := .inr ()) hb (fun i hi => by
    have hj : i < a1.length := by omega
    unfold spec_l00Same_l0
    simp only [ix_nat]
    rw [show decide ((i : Int) < (a0.length : Int)) = true from decide_eq_true (by omega), cond_true, List.getElem?_eq_getElem hi, List.getElem?_eq_getElem hj, wrap_succ i (by omega)]
    simp only [Option.bind_some, Option.some.injEq]
    generalize a0[i] = x at *
    generalize a1[i] = y
    by_cases e : x = y <;> simp [e]
    ) (by
    unfold spec_l00Same_l0
    simp only
    rw [show decide ((a0.length : Int) < (a0.length : Int)) = false from decide_eq_false (by omega), cond_false])
  rw [all_eq a0 a1 hl] at key
  exact key
theorem spec_l00Same_eq (a0 a1 : (List Int)) (h : cnt_szInt64S a0 ≤ 1048576) : spec_l00Same a0 a1 = some (decide (a0 = a1)) := by
  unfold spec_l00Same
  by_cases hl : a0.length = a1.length
  · rw [show decide ((a0.length : Int) ≠ (a1.length : Int)) = false from decide_eq_false (by omega), cond_false, spec_l00Same_l0eq a0 a1 h hl]
    by_cases e : a0 = a1 <;> simp [e]
  · rw [show decide ((a0.length : Int) ≠ (a1.length : Int)) = true from decide_eq_true (by omega), cond_true, show decide (a0 = a1) = false from decide_eq_false (fun e => hl (by rw [e]))]
theorem spec_l27SameIvs_l0eq (a0 a1 : (List RInterval)) (h : cnt_szIntervalS a0 ≤ 1048576) (hl : a0.length = a1.length) : iter (spec_l27SameIvs_l0 a0 a1) LF 0 = some (bif decide (a0 = a1) then .inl () else .inr ()) := by
  have hb : a0.length ≤ 1048576 := by unfold cnt_szIntervalS at h; first | (unfold cntL at h; omega) | omega
  have key := iter_all (f := spec_l27SameIvs_l0 a0 a1) a0.length (fun i => (i : Int)) (fun i => decide (a0[i]? = a1[i]?)) (xt := .inl ()) (xf := .inr ()) hb (fun i hi => by
    have hc : cnt_szInterval a0[i] ≤ 1048576 := by
      have := cnt_mem (cnt := cnt_szInterval) hi
      unfold cnt_szIntervalS cntL at h
      omega
    have hj : i < a1.length := by omega
    unfold spec_l27SameIvs_l0
    simp only [ix_nat]
    rw [show decide ((i : Int) < (a0.length : Int)) = true from decide_eq_true (by omega), cond_true, List.getElem?_eq_getElem hi, List.getElem?_eq_getElem hj, wrap_succ i (by omega)]
    simp only [Option.bind_some, Option.some.injEq]
    revert hc
    generalize a0[i] = x
    generalize a1[i] = y
    intro hc
    unfold cnt_szInterval at hc
    rw [spec_l00Same_eq x.Acting y.Acting (by omega)]
    try simp only [cmp_RGot]
    try simp only [cmp_RWay]
    try simp only [cmp_REntry]
    try simp only [cmp_RFill]
    try simp only [cmp_RChunk]
    try simp only [cmp_RHead]
    try simp only [cmp_RLast]
    try simp only [cmp_RAck]
    try simp only [cmp_ROp]
    try simp only [cmp_RVer]
    try simp only [cmp_RReq]
    try simp only [cmp_RPg]
    try simp only [cmp_RCode]
    rw [ext_RInterval]
    simp only [beqB, dne, Option.bind_some]
    generalize decide (x.First = y.First) = bFirst
    generalize decide (x.Last = y.Last) = bLast
    generalize decide (x.Acting = y.Acting) = bActing
    generalize decide (x.May = y.May) = bMay
    cases bFirst
    · simp
    cases bLast
    · simp
    cases bActing
    · simp
    cases bMay
    · simp
    simp
    ) (by
    unfold spec_l27SameIvs_l0
    simp only
    rw [show decide ((a0.length : Int) < (a0.length : Int)) = false from decide_eq_false (by omega), cond_false])
  rw [all_eq a0 a1 hl] at key
  exact key
theorem spec_l27SameIvs_eq (a0 a1 : (List RInterval)) (h : cnt_szIntervalS a0 ≤ 1048576) : spec_l27SameIvs a0 a1 = some (decide (a0 = a1)) := by
  unfold spec_l27SameIvs
  by_cases hl : a0.length = a1.length
  · rw [show decide ((a0.length : Int) ≠ (a1.length : Int)) = false from decide_eq_false (by omega), cond_false, spec_l27SameIvs_l0eq a0 a1 h hl]
    by_cases e : a0 = a1 <;> simp [e]
  · rw [show decide ((a0.length : Int) ≠ (a1.length : Int)) = true from decide_eq_true (by omega), cond_true, show decide (a0 = a1) = false from decide_eq_false (fun e => hl (by rw [e]))]
theorem spec_l27SameNotices_l0eq (a0 a1 : (List RNotice)) (h : cnt_szNoticeS a0 ≤ 1048576) (hl : a0.length = a1.length) : iter (spec_l27SameNotices_l0 a0 a1) LF 0 = some (bif decide (a0 = a1) then .inl () else .inr ()) := by
  have hb : a0.length ≤ 1048576 := by unfold cnt_szNoticeS at h; first | (unfold cntL at h; omega) | omega
  have key := iter_all (f := spec_l27SameNotices_l0 a0 a1) a0.length (fun i => (i : Int)) (fun i => decide (a0[i]? = a1[i]?)) (xt := .inl ()) (xf := .inr ()) hb (fun i hi => by
    have hc : cnt_szNotice a0[i] ≤ 1048576 := by
      have := cnt_mem (cnt := cnt_szNotice) hi
      unfold cnt_szNoticeS cntL at h
      omega
    have hj : i < a1.length := by omega
    unfold spec_l27SameNotices_l0
    simp only [ix_nat]
    rw [show decide ((i : Int) < (a0.length : Int)) = true from decide_eq_true (by omega), cond_true, List.getElem?_eq_getElem hi, List.getElem?_eq_getElem hj, wrap_succ i (by omega)]
    simp only [Option.bind_some, Option.some.injEq]
    revert hc
    generalize a0[i] = x
    generalize a1[i] = y
    intro hc
    unfold cnt_szNotice at hc
    rw [spec_l25SameState_eq x.State y.State (by omega)]
    try simp only [cmp_RGot]
    try simp only [cmp_RWay]
    try simp only [cmp_REntry]
    try simp only [cmp_RFill]
    try simp only [cmp_RChunk]
    try simp only [cmp_RHead]
    try simp only [cmp_RLast]
    try simp only [cmp_RAck]
    try simp only [cmp_ROp]
    try simp only [cmp_RVer]
    try simp only [cmp_RReq]
    try simp only [cmp_RPg]
    try simp only [cmp_RCode]
    rw [ext_RNotice]
    simp only [beqB, dne, Option.bind_some]
    generalize decide (x.From = y.From) = bFrom
    generalize decide (x.State = y.State) = bState
    cases bFrom
    · simp
    cases bState
    · simp
    simp
    ) (by
    unfold spec_l27SameNotices_l0
    simp only
    rw [show decide ((a0.length : Int) < (a0.length : Int)) = false from decide_eq_false (by omega), cond_false])
  rw [all_eq a0 a1 hl] at key
  exact key
theorem spec_l27SameNotices_eq (a0 a1 : (List RNotice)) (h : cnt_szNoticeS a0 ≤ 1048576) : spec_l27SameNotices a0 a1 = some (decide (a0 = a1)) := by
  unfold spec_l27SameNotices
  by_cases hl : a0.length = a1.length
  · rw [show decide ((a0.length : Int) ≠ (a1.length : Int)) = false from decide_eq_false (by omega), cond_false, spec_l27SameNotices_l0eq a0 a1 h hl]
    by_cases e : a0 = a1 <;> simp [e]
  · rw [show decide ((a0.length : Int) ≠ (a1.length : Int)) = true from decide_eq_true (by omega), cond_true, show decide (a0 = a1) = false from decide_eq_false (fun e => hl (by rw [e]))]
theorem spec_l25SameWait_l0eq (a0 a1 : RWait) (h : cnt_szGotS a0.Got ≤ 1048576) (hl : a0.Got.length = a1.Got.length) : iter (spec_l25SameWait_l0 a0 a1) LF 0 = some (bif decide (a0.Got = a1.Got) then .inl () else .inr ()) := by
  have hb : a0.Got.length ≤ 1048576 := by unfold cnt_szGotS at h; first | (unfold cntL at h; omega) | omega
  have key := iter_all (f := spec_l25SameWait_l0 a0 a1) a0.Got.length (fun i => (i : Int)) (fun i => decide (a0.Got[i]? = a1.Got[i]?)) (xt := .inl ()) (xf := .inr ()) hb (fun i hi => by
    have hc : cnt_szGot a0.Got[i] ≤ 1048576 := by
      have := cnt_mem (cnt := cnt_szGot) hi
      unfold cnt_szGotS cntL at h
      omega
    have hj : i < a1.Got.length := by omega
    unfold spec_l25SameWait_l0
    simp only [ix_nat]
    rw [show decide ((i : Int) < (a0.Got.length : Int)) = true from decide_eq_true (by omega), cond_true, List.getElem?_eq_getElem hi, List.getElem?_eq_getElem hj, wrap_succ i (by omega)]
    simp only [Option.bind_some, Option.some.injEq]
    revert hc
    generalize a0.Got[i] = x
    generalize a1.Got[i] = y
    intro hc
    try simp only [cmp_RGot]
    try simp only [cmp_RWay]
    try simp only [cmp_REntry]
    try simp only [cmp_RFill]
    try simp only [cmp_RChunk]
    try simp only [cmp_RHead]
    try simp only [cmp_RLast]
    try simp only [cmp_RAck]
    try simp only [cmp_ROp]
    try simp only [cmp_RVer]
    try simp only [cmp_RReq]
    try simp only [cmp_RPg]
    try simp only [cmp_RCode]
    by_cases e : x = y <;> simp [e]
    ) (by
    unfold spec_l25SameWait_l0
    simp only
    rw [show decide ((a0.Got.length : Int) < (a0.Got.length : Int)) = false from decide_eq_false (by omega), cond_false])
  rw [all_eq a0.Got a1.Got hl] at key
  exact key
theorem spec_l25SameWait_eq (a0 a1 : RWait) (h : cnt_szWait a0 ≤ 1048576) : spec_l25SameWait a0 a1 = some (decide (a0 = a1)) := by
  unfold cnt_szWait at h
  unfold spec_l25SameWait
  try simp only [cmp_RGot]
  try simp only [cmp_RWay]
  try simp only [cmp_REntry]
  try simp only [cmp_RFill]
  try simp only [cmp_RChunk]
  try simp only [cmp_RHead]
  try simp only [cmp_RLast]
  try simp only [cmp_RAck]
  try simp only [cmp_ROp]
  try simp only [cmp_RVer]
  try simp only [cmp_RReq]
  try simp only [cmp_RPg]
  try simp only [cmp_RCode]
  rw [ext_RWait]
  simp only [beqB, dne, Option.bind_some]
  by_cases hlGot : a0.Got.length = a1.Got.length
  case neg =>
    rw [show decide ((a0.Got.length : Int) = (a1.Got.length : Int)) = false from decide_eq_false (by omega), show decide (a0.Got = a1.Got) = false from decide_eq_false (fun e => hlGot (by rw [e]))]
    simp
  rw [show decide ((a0.Got.length : Int) = (a1.Got.length : Int)) = true from decide_eq_true (by omega)]
  rw [spec_l25SameWait_l0eq a0 a1 (by omega) hlGot]
  try simp only [Option.bind_some]
  generalize decide (a0.Req = a1.Req) = bReq
  generalize decide (a0.Name = a1.Name) = bName
  generalize decide (a0.Ver = a1.Ver) = bVer
  generalize decide (a0.Got = a1.Got) = bGot
  cases bReq
  · first | (simp; done) | (revert bName bVer bGot; decide)
  cases bName
  · first | (simp; done) | (revert bVer bGot; decide)
  cases bVer
  · first | (simp; done) | (revert bGot; decide)
  cases bGot
  · first | (simp; done)
  all_goals first | rfl | simp
theorem spec_SameLine_l0eq (a0 a1 : RLine) (h : cnt_szWayS a0.Way ≤ 1048576) (hl : a0.Way.length = a1.Way.length) : iter (spec_SameLine_l0 a0 a1) LF 0 = some (bif decide (a0.Way = a1.Way) then .inl () else .inr ()) := by
  have hb : a0.Way.length ≤ 1048576 := by unfold cnt_szWayS at h; first | (unfold cntL at h; omega) | omega
  have key := iter_all (f := spec_SameLine_l0 a0 a1) a0.Way.length (fun i => (i : Int)) (fun i => decide (a0.Way[i]? = a1.Way[i]?)) (xt := .inl ()) (xf := .inr ()) hb (fun i hi => by
    have hc : cnt_szWay a0.Way[i] ≤ 1048576 := by
      have := cnt_mem (cnt := cnt_szWay) hi
      unfold cnt_szWayS cntL at h
      omega
    have hj : i < a1.Way.length := by omega
    unfold spec_SameLine_l0
    simp only [ix_nat]
    rw [show decide ((i : Int) < (a0.Way.length : Int)) = true from decide_eq_true (by omega), cond_true, List.getElem?_eq_getElem hi, List.getElem?_eq_getElem hj, wrap_succ i (by omega)]
    simp only [Option.bind_some, Option.some.injEq]
    revert hc
    generalize a0.Way[i] = x
    generalize a1.Way[i] = y
    intro hc
    try simp only [cmp_RGot]
    try simp only [cmp_RWay]
    try simp only [cmp_REntry]
    try simp only [cmp_RFill]
    try simp only [cmp_RChunk]
    try simp only [cmp_RHead]
    try simp only [cmp_RLast]
    try simp only [cmp_RAck]
    try simp only [cmp_ROp]
    try simp only [cmp_RVer]
    try simp only [cmp_RReq]
    try simp only [cmp_RPg]
    try simp only [cmp_RCode]
    by_cases e : x = y <;> simp [e]
    ) (by
    unfold spec_SameLine_l0
    simp only
    rw [show decide ((a0.Way.length : Int) < (a0.Way.length : Int)) = false from decide_eq_false (by omega), cond_false])
  rw [all_eq a0.Way a1.Way hl] at key
  exact key
theorem spec_SameLine_l1eq (a0 a1 : RLine) (h : cnt_szAckS a0.Acks ≤ 1048576) (hl : a0.Acks.length = a1.Acks.length) : iter (spec_SameLine_l1 a0 a1) LF 0 = some (bif decide (a0.Acks = a1.Acks) then .inl () else .inr ()) := by
  have hb : a0.Acks.length ≤ 1048576 := by unfold cnt_szAckS at h; first | (unfold cntL at h; omega) | omega
  have key := iter_all (f := spec_SameLine_l1 a0 a1) a0.Acks.length (fun i => (i : Int)) (fun i => decide (a0.Acks[i]? = a1.Acks[i]?)) (xt := .inl ()) (xf := .inr ()) hb (fun i hi => by
    have hj : i < a1.Acks.length := by omega
    unfold spec_SameLine_l1
    simp only [ix_nat]
    rw [show decide ((i : Int) < (a0.Acks.length : Int)) = true from decide_eq_true (by omega), cond_true, List.getElem?_eq_getElem hi, List.getElem?_eq_getElem hj, wrap_succ i (by omega)]
    simp only [Option.bind_some, Option.some.injEq]
    generalize a0.Acks[i] = x at *
    generalize a1.Acks[i] = y
    try simp only [cmp_RGot]
    try simp only [cmp_RWay]
    try simp only [cmp_REntry]
    try simp only [cmp_RFill]
    try simp only [cmp_RChunk]
    try simp only [cmp_RHead]
    try simp only [cmp_RLast]
    try simp only [cmp_RAck]
    try simp only [cmp_ROp]
    try simp only [cmp_RVer]
    try simp only [cmp_RReq]
    try simp only [cmp_RPg]
    try simp only [cmp_RCode]
    by_cases e : x = y <;> simp [e]
    ) (by
    unfold spec_SameLine_l1
    simp only
    rw [show decide ((a0.Acks.length : Int) < (a0.Acks.length : Int)) = false from decide_eq_false (by omega), cond_false])
  rw [all_eq a0.Acks a1.Acks hl] at key
  exact key
theorem spec_SameLine_l2eq (a0 a1 : RLine) (h : cnt_szWaitS a0.Waits ≤ 1048576) (hl : a0.Waits.length = a1.Waits.length) : iter (spec_SameLine_l2 a0 a1) LF 0 = some (bif decide (a0.Waits = a1.Waits) then .inl () else .inr ()) := by
  have hb : a0.Waits.length ≤ 1048576 := by unfold cnt_szWaitS at h; first | (unfold cntL at h; omega) | omega
  have key := iter_all (f := spec_SameLine_l2 a0 a1) a0.Waits.length (fun i => (i : Int)) (fun i => decide (a0.Waits[i]? = a1.Waits[i]?)) (xt := .inl ()) (xf := .inr ()) hb (fun i hi => by
    have hc : cnt_szWait a0.Waits[i] ≤ 1048576 := by
      have := cnt_mem (cnt := cnt_szWait) hi
      unfold cnt_szWaitS cntL at h
      omega
    have hj : i < a1.Waits.length := by omega
    unfold spec_SameLine_l2
    simp only [ix_nat]
    rw [show decide ((i : Int) < (a0.Waits.length : Int)) = true from decide_eq_true (by omega), cond_true, List.getElem?_eq_getElem hi, List.getElem?_eq_getElem hj, wrap_succ i (by omega)]
    simp only [Option.bind_some, Option.some.injEq]
    revert hc
    generalize a0.Waits[i] = x
    generalize a1.Waits[i] = y
    intro hc
    rw [spec_l25SameWait_eq _ _ hc]
    by_cases e : x = y <;> simp [e]
    ) (by
    unfold spec_SameLine_l2
    simp only
    rw [show decide ((a0.Waits.length : Int) < (a0.Waits.length : Int)) = false from decide_eq_false (by omega), cond_false])
  rw [all_eq a0.Waits a1.Waits hl] at key
  exact key
theorem spec_SameLine_eq (a0 a1 : RLine) (h : cnt_szLine a0 ≤ 1048576) : spec_SameLine a0 a1 = some (decide (a0 = a1)) := by
  unfold cnt_szLine at h
  unfold spec_SameLine
  rw [spec_l00Same_eq a0.Acting a1.Acting (by omega)]
  rw [spec_l25SameState_eq a0.State a1.State (by omega)]
  try simp only [cmp_RGot]
  try simp only [cmp_RWay]
  try simp only [cmp_REntry]
  try simp only [cmp_RFill]
  try simp only [cmp_RChunk]
  try simp only [cmp_RHead]
  try simp only [cmp_RLast]
  try simp only [cmp_RAck]
  try simp only [cmp_ROp]
  try simp only [cmp_RVer]
  try simp only [cmp_RReq]
  try simp only [cmp_RPg]
  try simp only [cmp_RCode]
  rw [ext_RLine]
  simp only [beqB, dne, Option.bind_some]
  by_cases hlWay : a0.Way.length = a1.Way.length
  case neg =>
    rw [show decide ((a0.Way.length : Int) = (a1.Way.length : Int)) = false from decide_eq_false (by omega), show decide (a0.Way = a1.Way) = false from decide_eq_false (fun e => hlWay (by rw [e]))]
    simp
  rw [show decide ((a0.Way.length : Int) = (a1.Way.length : Int)) = true from decide_eq_true (by omega)]
  by_cases hlAcks : a0.Acks.length = a1.Acks.length
  case neg =>
    rw [show decide ((a0.Acks.length : Int) = (a1.Acks.length : Int)) = false from decide_eq_false (by omega), show decide (a0.Acks = a1.Acks) = false from decide_eq_false (fun e => hlAcks (by rw [e]))]
    simp
  rw [show decide ((a0.Acks.length : Int) = (a1.Acks.length : Int)) = true from decide_eq_true (by omega)]
  by_cases hlWaits : a0.Waits.length = a1.Waits.length
  case neg =>
    rw [show decide ((a0.Waits.length : Int) = (a1.Waits.length : Int)) = false from decide_eq_false (by omega), show decide (a0.Waits = a1.Waits) = false from decide_eq_false (fun e => hlWaits (by rw [e]))]
    simp
  rw [show decide ((a0.Waits.length : Int) = (a1.Waits.length : Int)) = true from decide_eq_true (by omega)]
  rw [spec_SameLine_l0eq a0 a1 (by omega) hlWay]
  rw [spec_SameLine_l1eq a0 a1 (by omega) hlAcks]
  rw [spec_SameLine_l2eq a0 a1 (by omega) hlWaits]
  try simp only [Option.bind_some]
  generalize decide (a0.Epoch = a1.Epoch) = bEpoch
  generalize decide (a0.Code = a1.Code) = bCode
  generalize decide (a0.Acting = a1.Acting) = bActing
  generalize decide (a0.State = a1.State) = bState
  generalize decide (a0.Way = a1.Way) = bWay
  generalize decide (a0.Acks = a1.Acks) = bAcks
  generalize decide (a0.Waits = a1.Waits) = bWaits
  cases bEpoch
  · first | (simp; done) | (revert bCode bActing bState bWay bAcks bWaits; decide)
  cases bCode
  · first | (simp; done) | (revert bActing bState bWay bAcks bWaits; decide)
  cases bActing
  · first | (simp; done) | (revert bState bWay bAcks bWaits; decide)
  cases bState
  · first | (simp; done) | (revert bWay bAcks bWaits; decide)
  cases bWay
  · first | (simp; done) | (revert bAcks bWaits; decide)
  cases bAcks
  · first | (simp; done) | (revert bWaits; decide)
  cases bWaits
  · first | (simp; done)
  all_goals first | rfl | simp
theorem spec_SameLead_l0eq (a0 a1 : RLead) (h : cnt_szFillS a0.Fills ≤ 1048576) (hl : a0.Fills.length = a1.Fills.length) : iter (spec_SameLead_l0 a0 a1) LF 0 = some (bif decide (a0.Fills = a1.Fills) then .inl () else .inr ()) := by
  have hb : a0.Fills.length ≤ 1048576 := by unfold cnt_szFillS at h; first | (unfold cntL at h; omega) | omega
  have key := iter_all (f := spec_SameLead_l0 a0 a1) a0.Fills.length (fun i => (i : Int)) (fun i => decide (a0.Fills[i]? = a1.Fills[i]?)) (xt := .inl ()) (xf := .inr ()) hb (fun i hi => by
    have hc : cnt_szFill a0.Fills[i] ≤ 1048576 := by
      have := cnt_mem (cnt := cnt_szFill) hi
      unfold cnt_szFillS cntL at h
      omega
    have hj : i < a1.Fills.length := by omega
    unfold spec_SameLead_l0
    simp only [ix_nat]
    rw [show decide ((i : Int) < (a0.Fills.length : Int)) = true from decide_eq_true (by omega), cond_true, List.getElem?_eq_getElem hi, List.getElem?_eq_getElem hj, wrap_succ i (by omega)]
    simp only [Option.bind_some, Option.some.injEq]
    revert hc
    generalize a0.Fills[i] = x
    generalize a1.Fills[i] = y
    intro hc
    try simp only [cmp_RGot]
    try simp only [cmp_RWay]
    try simp only [cmp_REntry]
    try simp only [cmp_RFill]
    try simp only [cmp_RChunk]
    try simp only [cmp_RHead]
    try simp only [cmp_RLast]
    try simp only [cmp_RAck]
    try simp only [cmp_ROp]
    try simp only [cmp_RVer]
    try simp only [cmp_RReq]
    try simp only [cmp_RPg]
    try simp only [cmp_RCode]
    by_cases e : x = y <;> simp [e]
    ) (by
    unfold spec_SameLead_l0
    simp only
    rw [show decide ((a0.Fills.length : Int) < (a0.Fills.length : Int)) = false from decide_eq_false (by omega), cond_false])
  rw [all_eq a0.Fills a1.Fills hl] at key
  exact key
theorem spec_SameLead_l1eq (a0 a1 : RLead) (h : cnt_szChunkS a0.Have ≤ 1048576) (hl : a0.Have.length = a1.Have.length) : iter (spec_SameLead_l1 a0 a1) LF 0 = some (bif decide (a0.Have = a1.Have) then .inl () else .inr ()) := by
  have hb : a0.Have.length ≤ 1048576 := by unfold cnt_szChunkS at h; first | (unfold cntL at h; omega) | omega
  have key := iter_all (f := spec_SameLead_l1 a0 a1) a0.Have.length (fun i => (i : Int)) (fun i => decide (a0.Have[i]? = a1.Have[i]?)) (xt := .inl ()) (xf := .inr ()) hb (fun i hi => by
    have hc : cnt_szChunk a0.Have[i] ≤ 1048576 := by
      have := cnt_mem (cnt := cnt_szChunk) hi
      unfold cnt_szChunkS cntL at h
      omega
    have hj : i < a1.Have.length := by omega
    unfold spec_SameLead_l1
    simp only [ix_nat]
    rw [show decide ((i : Int) < (a0.Have.length : Int)) = true from decide_eq_true (by omega), cond_true, List.getElem?_eq_getElem hi, List.getElem?_eq_getElem hj, wrap_succ i (by omega)]
    simp only [Option.bind_some, Option.some.injEq]
    revert hc
    generalize a0.Have[i] = x
    generalize a1.Have[i] = y
    intro hc
    try simp only [cmp_RGot]
    try simp only [cmp_RWay]
    try simp only [cmp_REntry]
    try simp only [cmp_RFill]
    try simp only [cmp_RChunk]
    try simp only [cmp_RHead]
    try simp only [cmp_RLast]
    try simp only [cmp_RAck]
    try simp only [cmp_ROp]
    try simp only [cmp_RVer]
    try simp only [cmp_RReq]
    try simp only [cmp_RPg]
    try simp only [cmp_RCode]
    by_cases e : x = y <;> simp [e]
    ) (by
    unfold spec_SameLead_l1
    simp only
    rw [show decide ((a0.Have.length : Int) < (a0.Have.length : Int)) = false from decide_eq_false (by omega), cond_false])
  rw [all_eq a0.Have a1.Have hl] at key
  exact key
theorem spec_SameLead_eq (a0 a1 : RLead) (h : cnt_szLead a0 ≤ 1048576) : spec_SameLead a0 a1 = some (decide (a0 = a1)) := by
  unfold cnt_szLead at h
  unfold spec_SameLead
  rw [spec_l00Same_eq a0.Acting a1.Acting (by omega)]
  rw [spec_l27SameIvs_eq a0.Ivs a1.Ivs (by omega)]
  rw [spec_l27SameNotices_eq a0.Heard a1.Heard (by omega)]
  rw [spec_l25SameState_eq a0.Pick a1.Pick (by omega)]
  rw [spec_l00Same_eq a0.Ready a1.Ready (by omega)]
  rw [spec_SameLine_eq a0.Line a1.Line (by omega)]
  try simp only [cmp_RGot]
  try simp only [cmp_RWay]
  try simp only [cmp_REntry]
  try simp only [cmp_RFill]
  try simp only [cmp_RChunk]
  try simp only [cmp_RHead]
  try simp only [cmp_RLast]
  try simp only [cmp_RAck]
  try simp only [cmp_ROp]
  try simp only [cmp_RVer]
  try simp only [cmp_RReq]
  try simp only [cmp_RPg]
  try simp only [cmp_RCode]
  rw [ext_RLead]
  simp only [beqB, dne, Option.bind_some]
  by_cases hlFills : a0.Fills.length = a1.Fills.length
  case neg =>
    rw [show decide ((a0.Fills.length : Int) = (a1.Fills.length : Int)) = false from decide_eq_false (by omega), show decide (a0.Fills = a1.Fills) = false from decide_eq_false (fun e => hlFills (by rw [e]))]
    simp
  rw [show decide ((a0.Fills.length : Int) = (a1.Fills.length : Int)) = true from decide_eq_true (by omega)]
  by_cases hlHave : a0.Have.length = a1.Have.length
  case neg =>
    rw [show decide ((a0.Have.length : Int) = (a1.Have.length : Int)) = false from decide_eq_false (by omega), show decide (a0.Have = a1.Have) = false from decide_eq_false (fun e => hlHave (by rw [e]))]
    simp
  rw [show decide ((a0.Have.length : Int) = (a1.Have.length : Int)) = true from decide_eq_true (by omega)]
  rw [spec_SameLead_l0eq a0 a1 (by omega) hlFills]
  rw [spec_SameLead_l1eq a0 a1 (by omega) hlHave]
  try simp only [Option.bind_some]
  generalize decide (a0.Pg = a1.Pg) = bPg
  generalize decide (a0.Epoch = a1.Epoch) = bEpoch
  generalize decide (a0.Phase = a1.Phase) = bPhase
  generalize decide (a0.Code = a1.Code) = bCode
  generalize decide (a0.Acting = a1.Acting) = bActing
  generalize decide (a0.Ivs = a1.Ivs) = bIvs
  generalize decide (a0.Heard = a1.Heard) = bHeard
  generalize decide (a0.Pick = a1.Pick) = bPick
  generalize decide (a0.Fills = a1.Fills) = bFills
  generalize decide (a0.Have = a1.Have) = bHave
  generalize decide (a0.Ready = a1.Ready) = bReady
  generalize decide (a0.Line = a1.Line) = bLine
  cases bPg
  · first | (simp; done) | (revert bEpoch bPhase bCode bActing bIvs bHeard bPick bFills bHave bReady bLine; decide)
  cases bEpoch
  · first | (simp; done) | (revert bPhase bCode bActing bIvs bHeard bPick bFills bHave bReady bLine; decide)
  cases bPhase
  · first | (simp; done) | (revert bCode bActing bIvs bHeard bPick bFills bHave bReady bLine; decide)
  cases bCode
  · first | (simp; done) | (revert bActing bIvs bHeard bPick bFills bHave bReady bLine; decide)
  cases bActing
  · first | (simp; done) | (revert bIvs bHeard bPick bFills bHave bReady bLine; decide)
  cases bIvs
  · first | (simp; done) | (revert bHeard bPick bFills bHave bReady bLine; decide)
  cases bHeard
  · first | (simp; done) | (revert bPick bFills bHave bReady bLine; decide)
  cases bPick
  · first | (simp; done) | (revert bFills bHave bReady bLine; decide)
  cases bFills
  · first | (simp; done) | (revert bHave bReady bLine; decide)
  cases bHave
  · first | (simp; done) | (revert bReady bLine; decide)
  cases bReady
  · first | (simp; done) | (revert bLine; decide)
  cases bLine
  · first | (simp; done)
  all_goals first | rfl | simp
theorem spec_l17Same_l0eq (a0 a1 : RPgState) (h : cnt_szHeadS a0.Base ≤ 1048576) (hl : a0.Base.length = a1.Base.length) : iter (spec_l17Same_l0 a0 a1) LF 0 = some (bif decide (a0.Base = a1.Base) then .inl () else .inr ()) := by
  have hb : a0.Base.length ≤ 1048576 := by unfold cnt_szHeadS at h; first | (unfold cntL at h; omega) | omega
  have key := iter_all (f := spec_l17Same_l0 a0 a1) a0.Base.length (fun i => (i : Int)) (fun i => decide (a0.Base[i]? = a1.Base[i]?)) (xt := .inl ()) (xf := .inr ()) hb (fun i hi => by
    have hc : cnt_szHead a0.Base[i] ≤ 1048576 := by
      have := cnt_mem (cnt := cnt_szHead) hi
      unfold cnt_szHeadS cntL at h
      omega
    have hj : i < a1.Base.length := by omega
    unfold spec_l17Same_l0
    simp only [ix_nat]
    rw [show decide ((i : Int) < (a0.Base.length : Int)) = true from decide_eq_true (by omega), cond_true, List.getElem?_eq_getElem hi, List.getElem?_eq_getElem hj, wrap_succ i (by omega)]
    simp only [Option.bind_some, Option.some.injEq]
    revert hc
    generalize a0.Base[i] = x
    generalize a1.Base[i] = y
    intro hc
    try simp only [cmp_RGot]
    try simp only [cmp_RWay]
    try simp only [cmp_REntry]
    try simp only [cmp_RFill]
    try simp only [cmp_RChunk]
    try simp only [cmp_RHead]
    try simp only [cmp_RLast]
    try simp only [cmp_RAck]
    try simp only [cmp_ROp]
    try simp only [cmp_RVer]
    try simp only [cmp_RReq]
    try simp only [cmp_RPg]
    try simp only [cmp_RCode]
    by_cases e : x = y <;> simp [e]
    ) (by
    unfold spec_l17Same_l0
    simp only
    rw [show decide ((a0.Base.length : Int) < (a0.Base.length : Int)) = false from decide_eq_false (by omega), cond_false])
  rw [all_eq a0.Base a1.Base hl] at key
  exact key
theorem spec_l17Same_l1eq (a0 a1 : RPgState) (h : cnt_szLastS a0.Clients ≤ 1048576) (hl : a0.Clients.length = a1.Clients.length) : iter (spec_l17Same_l1 a0 a1) LF 0 = some (bif decide (a0.Clients = a1.Clients) then .inl () else .inr ()) := by
  have hb : a0.Clients.length ≤ 1048576 := by unfold cnt_szLastS at h; first | (unfold cntL at h; omega) | omega
  have key := iter_all (f := spec_l17Same_l1 a0 a1) a0.Clients.length (fun i => (i : Int)) (fun i => decide (a0.Clients[i]? = a1.Clients[i]?)) (xt := .inl ()) (xf := .inr ()) hb (fun i hi => by
    have hj : i < a1.Clients.length := by omega
    unfold spec_l17Same_l1
    simp only [ix_nat]
    rw [show decide ((i : Int) < (a0.Clients.length : Int)) = true from decide_eq_true (by omega), cond_true, List.getElem?_eq_getElem hi, List.getElem?_eq_getElem hj, wrap_succ i (by omega)]
    simp only [Option.bind_some, Option.some.injEq]
    generalize a0.Clients[i] = x at *
    generalize a1.Clients[i] = y
    try simp only [cmp_RGot]
    try simp only [cmp_RWay]
    try simp only [cmp_REntry]
    try simp only [cmp_RFill]
    try simp only [cmp_RChunk]
    try simp only [cmp_RHead]
    try simp only [cmp_RLast]
    try simp only [cmp_RAck]
    try simp only [cmp_ROp]
    try simp only [cmp_RVer]
    try simp only [cmp_RReq]
    try simp only [cmp_RPg]
    try simp only [cmp_RCode]
    by_cases e : x = y <;> simp [e]
    ) (by
    unfold spec_l17Same_l1
    simp only
    rw [show decide ((a0.Clients.length : Int) < (a0.Clients.length : Int)) = false from decide_eq_false (by omega), cond_false])
  rw [all_eq a0.Clients a1.Clients hl] at key
  exact key
theorem spec_l17Same_l2eq (a0 a1 : RPgState) (h : cnt_szEntryS a0.Log ≤ 1048576) (hl : a0.Log.length = a1.Log.length) : iter (spec_l17Same_l2 a0 a1) LF 0 = some (bif decide (a0.Log = a1.Log) then .inl () else .inr ()) := by
  have hb : a0.Log.length ≤ 1048576 := by unfold cnt_szEntryS at h; first | (unfold cntL at h; omega) | omega
  have key := iter_all (f := spec_l17Same_l2 a0 a1) a0.Log.length (fun i => (i : Int)) (fun i => decide (a0.Log[i]? = a1.Log[i]?)) (xt := .inl ()) (xf := .inr ()) hb (fun i hi => by
    have hc : cnt_szEntry a0.Log[i] ≤ 1048576 := by
      have := cnt_mem (cnt := cnt_szEntry) hi
      unfold cnt_szEntryS cntL at h
      omega
    have hj : i < a1.Log.length := by omega
    unfold spec_l17Same_l2
    simp only [ix_nat]
    rw [show decide ((i : Int) < (a0.Log.length : Int)) = true from decide_eq_true (by omega), cond_true, List.getElem?_eq_getElem hi, List.getElem?_eq_getElem hj, wrap_succ i (by omega)]
    simp only [Option.bind_some, Option.some.injEq]
    revert hc
    generalize a0.Log[i] = x
    generalize a1.Log[i] = y
    intro hc
    try simp only [cmp_RGot]
    try simp only [cmp_RWay]
    try simp only [cmp_REntry]
    try simp only [cmp_RFill]
    try simp only [cmp_RChunk]
    try simp only [cmp_RHead]
    try simp only [cmp_RLast]
    try simp only [cmp_RAck]
    try simp only [cmp_ROp]
    try simp only [cmp_RVer]
    try simp only [cmp_RReq]
    try simp only [cmp_RPg]
    try simp only [cmp_RCode]
    by_cases e : x = y <;> simp [e]
    ) (by
    unfold spec_l17Same_l2
    simp only
    rw [show decide ((a0.Log.length : Int) < (a0.Log.length : Int)) = false from decide_eq_false (by omega), cond_false])
  rw [all_eq a0.Log a1.Log hl] at key
  exact key
theorem spec_l17Same_l3eq (a0 a1 : RPgState) (h : cnt_szChunkS a0.Chunks ≤ 1048576) (hl : a0.Chunks.length = a1.Chunks.length) : iter (spec_l17Same_l3 a0 a1) LF 0 = some (bif decide (a0.Chunks = a1.Chunks) then .inl () else .inr ()) := by
  have hb : a0.Chunks.length ≤ 1048576 := by unfold cnt_szChunkS at h; first | (unfold cntL at h; omega) | omega
  have key := iter_all (f := spec_l17Same_l3 a0 a1) a0.Chunks.length (fun i => (i : Int)) (fun i => decide (a0.Chunks[i]? = a1.Chunks[i]?)) (xt := .inl ()) (xf := .inr ()) hb (fun i hi => by
    have hc : cnt_szChunk a0.Chunks[i] ≤ 1048576 := by
      have := cnt_mem (cnt := cnt_szChunk) hi
      unfold cnt_szChunkS cntL at h
      omega
    have hj : i < a1.Chunks.length := by omega
    unfold spec_l17Same_l3
    simp only [ix_nat]
    rw [show decide ((i : Int) < (a0.Chunks.length : Int)) = true from decide_eq_true (by omega), cond_true, List.getElem?_eq_getElem hi, List.getElem?_eq_getElem hj, wrap_succ i (by omega)]
    simp only [Option.bind_some, Option.some.injEq]
    revert hc
    generalize a0.Chunks[i] = x
    generalize a1.Chunks[i] = y
    intro hc
    try simp only [cmp_RGot]
    try simp only [cmp_RWay]
    try simp only [cmp_REntry]
    try simp only [cmp_RFill]
    try simp only [cmp_RChunk]
    try simp only [cmp_RHead]
    try simp only [cmp_RLast]
    try simp only [cmp_RAck]
    try simp only [cmp_ROp]
    try simp only [cmp_RVer]
    try simp only [cmp_RReq]
    try simp only [cmp_RPg]
    try simp only [cmp_RCode]
    by_cases e : x = y <;> simp [e]
    ) (by
    unfold spec_l17Same_l3
    simp only
    rw [show decide ((a0.Chunks.length : Int) < (a0.Chunks.length : Int)) = false from decide_eq_false (by omega), cond_false])
  rw [all_eq a0.Chunks a1.Chunks hl] at key
  exact key
theorem spec_l17Same_eq (a0 a1 : RPgState) (h : cnt_szPgState a0 ≤ 1048576) : spec_l17Same a0 a1 = some (decide (a0 = a1)) := by
  unfold cnt_szPgState at h
  unfold spec_l17Same
  try simp only [cmp_RGot]
  try simp only [cmp_RWay]
  try simp only [cmp_REntry]
  try simp only [cmp_RFill]
  try simp only [cmp_RChunk]
  try simp only [cmp_RHead]
  try simp only [cmp_RLast]
  try simp only [cmp_RAck]
  try simp only [cmp_ROp]
  try simp only [cmp_RVer]
  try simp only [cmp_RReq]
  try simp only [cmp_RPg]
  try simp only [cmp_RCode]
  rw [ext_RPgState]
  simp only [beqB, dne, Option.bind_some]
  by_cases hlBase : a0.Base.length = a1.Base.length
  case neg =>
    rw [show decide ((a0.Base.length : Int) = (a1.Base.length : Int)) = false from decide_eq_false (by omega), show decide (a0.Base = a1.Base) = false from decide_eq_false (fun e => hlBase (by rw [e]))]
    simp
  rw [show decide ((a0.Base.length : Int) = (a1.Base.length : Int)) = true from decide_eq_true (by omega)]
  by_cases hlClients : a0.Clients.length = a1.Clients.length
  case neg =>
    rw [show decide ((a0.Clients.length : Int) = (a1.Clients.length : Int)) = false from decide_eq_false (by omega), show decide (a0.Clients = a1.Clients) = false from decide_eq_false (fun e => hlClients (by rw [e]))]
    simp
  rw [show decide ((a0.Clients.length : Int) = (a1.Clients.length : Int)) = true from decide_eq_true (by omega)]
  by_cases hlLog : a0.Log.length = a1.Log.length
  case neg =>
    rw [show decide ((a0.Log.length : Int) = (a1.Log.length : Int)) = false from decide_eq_false (by omega), show decide (a0.Log = a1.Log) = false from decide_eq_false (fun e => hlLog (by rw [e]))]
    simp
  rw [show decide ((a0.Log.length : Int) = (a1.Log.length : Int)) = true from decide_eq_true (by omega)]
  by_cases hlChunks : a0.Chunks.length = a1.Chunks.length
  case neg =>
    rw [show decide ((a0.Chunks.length : Int) = (a1.Chunks.length : Int)) = false from decide_eq_false (by omega), show decide (a0.Chunks = a1.Chunks) = false from decide_eq_false (fun e => hlChunks (by rw [e]))]
    simp
  rw [show decide ((a0.Chunks.length : Int) = (a1.Chunks.length : Int)) = true from decide_eq_true (by omega)]
  rw [spec_l17Same_l0eq a0 a1 (by omega) hlBase]
  rw [spec_l17Same_l1eq a0 a1 (by omega) hlClients]
  rw [spec_l17Same_l2eq a0 a1 (by omega) hlLog]
  rw [spec_l17Same_l3eq a0 a1 (by omega) hlChunks]
  try simp only [Option.bind_some]
  generalize decide (a0.Pg = a1.Pg) = bPg
  generalize decide (a0.Seen = a1.Seen) = bSeen
  generalize decide (a0.Started = a1.Started) = bStarted
  generalize decide (a0.Tail = a1.Tail) = bTail
  generalize decide (a0.Base = a1.Base) = bBase
  generalize decide (a0.Clients = a1.Clients) = bClients
  generalize decide (a0.Log = a1.Log) = bLog
  generalize decide (a0.Firm = a1.Firm) = bFirm
  generalize decide (a0.Chunks = a1.Chunks) = bChunks
  cases bPg
  · first | (simp; done) | (revert bSeen bStarted bTail bBase bClients bLog bFirm bChunks; decide)
  cases bSeen
  · first | (simp; done) | (revert bStarted bTail bBase bClients bLog bFirm bChunks; decide)
  cases bStarted
  · first | (simp; done) | (revert bTail bBase bClients bLog bFirm bChunks; decide)
  cases bTail
  · first | (simp; done) | (revert bBase bClients bLog bFirm bChunks; decide)
  cases bBase
  · first | (simp; done) | (revert bClients bLog bFirm bChunks; decide)
  cases bClients
  · first | (simp; done) | (revert bLog bFirm bChunks; decide)
  cases bLog
  · first | (simp; done) | (revert bFirm bChunks; decide)
  cases bFirm
  · first | (simp; done) | (revert bChunks; decide)
  cases bChunks
  · first | (simp; done)
  all_goals first | rfl | simp
theorem spec_MsgSame_eq (a0 a1 : RMsg) (h : cnt_szMsg a0 ≤ 1048576) : spec_MsgSame a0 a1 = some (decide (a0 = a1)) := by
  unfold cnt_szMsg at h
  unfold spec_MsgSame
  rw [spec_l17Same_eq a0.State a1.State (by omega)]
  try simp only [cmp_RGot]
  try simp only [cmp_RWay]
  try simp only [cmp_REntry]
  try simp only [cmp_RFill]
  try simp only [cmp_RChunk]
  try simp only [cmp_RHead]
  try simp only [cmp_RLast]
  try simp only [cmp_RAck]
  try simp only [cmp_ROp]
  try simp only [cmp_RVer]
  try simp only [cmp_RReq]
  try simp only [cmp_RPg]
  try simp only [cmp_RCode]
  rw [ext_RMsg]
  simp only [beqB, dne, Option.bind_some]
  try simp only [Option.bind_some]
  generalize decide (a0.Kind = a1.Kind) = bKind
  generalize decide (a0.From = a1.From) = bFrom
  generalize decide (a0.To = a1.To) = bTo
  generalize decide (a0.Pg = a1.Pg) = bPg
  generalize decide (a0.Epoch = a1.Epoch) = bEpoch
  generalize decide (a0.Name = a1.Name) = bName
  generalize decide (a0.Ver = a1.Ver) = bVer
  generalize decide (a0.Firm = a1.Firm) = bFirm
  generalize decide (a0.State = a1.State) = bState
  generalize decide (a0.Entry = a1.Entry) = bEntry
  generalize decide (a0.Chunk = a1.Chunk) = bChunk
  generalize decide (a0.Op = a1.Op) = bOp
  generalize decide (a0.Req = a1.Req) = bReq
  generalize decide (a0.Code = a1.Code) = bCode
  generalize decide (a0.Body = a1.Body) = bBody
  cases bKind
  · first | (simp; done) | (revert bFrom bTo bPg bEpoch bName bVer bFirm bState bEntry bChunk bOp bReq bCode bBody; decide)
  cases bFrom
  · first | (simp; done) | (revert bTo bPg bEpoch bName bVer bFirm bState bEntry bChunk bOp bReq bCode bBody; decide)
  cases bTo
  · first | (simp; done) | (revert bPg bEpoch bName bVer bFirm bState bEntry bChunk bOp bReq bCode bBody; decide)
  cases bPg
  · first | (simp; done) | (revert bEpoch bName bVer bFirm bState bEntry bChunk bOp bReq bCode bBody; decide)
  cases bEpoch
  · first | (simp; done) | (revert bName bVer bFirm bState bEntry bChunk bOp bReq bCode bBody; decide)
  cases bName
  · first | (simp; done) | (revert bVer bFirm bState bEntry bChunk bOp bReq bCode bBody; decide)
  cases bVer
  · first | (simp; done) | (revert bFirm bState bEntry bChunk bOp bReq bCode bBody; decide)
  cases bFirm
  · first | (simp; done) | (revert bState bEntry bChunk bOp bReq bCode bBody; decide)
  cases bState
  · first | (simp; done) | (revert bEntry bChunk bOp bReq bCode bBody; decide)
  cases bEntry
  · first | (simp; done) | (revert bChunk bOp bReq bCode bBody; decide)
  cases bChunk
  · first | (simp; done) | (revert bOp bReq bCode bBody; decide)
  cases bOp
  · first | (simp; done) | (revert bReq bCode bBody; decide)
  cases bReq
  · first | (simp; done) | (revert bCode bBody; decide)
  cases bCode
  · first | (simp; done) | (revert bBody; decide)
  cases bBody
  · first | (simp; done)
  all_goals first | rfl | simp
theorem spec_l30SameMsgs_l0eq (a0 a1 : (List RMsg)) (h : cnt_szMsgS a0 ≤ 1048576) (hl : a0.length = a1.length) : iter (spec_l30SameMsgs_l0 a0 a1) LF 0 = some (bif decide (a0 = a1) then .inl () else .inr ()) := by
  have hb : a0.length ≤ 1048576 := by unfold cnt_szMsgS at h; first | (unfold cntL at h; omega) | omega
  have key := iter_all (f := spec_l30SameMsgs_l0 a0 a1) a0.length (fun i => (i : Int)) (fun i => decide (a0[i]? = a1[i]?)) (xt := .inl ()) (xf := .inr ()) hb (fun i hi => by
    have hc : cnt_szMsg a0[i] ≤ 1048576 := by
      have := cnt_mem (cnt := cnt_szMsg) hi
      unfold cnt_szMsgS cntL at h
      omega
    have hj : i < a1.length := by omega
    unfold spec_l30SameMsgs_l0
    simp only [ix_nat]
    rw [show decide ((i : Int) < (a0.length : Int)) = true from decide_eq_true (by omega), cond_true, List.getElem?_eq_getElem hi, List.getElem?_eq_getElem hj, wrap_succ i (by omega)]
    simp only [Option.bind_some, Option.some.injEq]
    revert hc
    generalize a0[i] = x
    generalize a1[i] = y
    intro hc
    rw [spec_MsgSame_eq _ _ hc]
    by_cases e : x = y <;> simp [e]
    ) (by
    unfold spec_l30SameMsgs_l0
    simp only
    rw [show decide ((a0.length : Int) < (a0.length : Int)) = false from decide_eq_false (by omega), cond_false])
  rw [all_eq a0 a1 hl] at key
  exact key
theorem spec_l30SameMsgs_eq (a0 a1 : (List RMsg)) (h : cnt_szMsgS a0 ≤ 1048576) : spec_l30SameMsgs a0 a1 = some (decide (a0 = a1)) := by
  unfold spec_l30SameMsgs
  by_cases hl : a0.length = a1.length
  · rw [show decide ((a0.length : Int) ≠ (a1.length : Int)) = false from decide_eq_false (by omega), cond_false, spec_l30SameMsgs_l0eq a0 a1 h hl]
    by_cases e : a0 = a1 <;> simp [e]
  · rw [show decide ((a0.length : Int) ≠ (a1.length : Int)) = true from decide_eq_true (by omega), cond_true, show decide (a0 = a1) = false from decide_eq_false (fun e => hl (by rw [e]))]
theorem spec_SameServer_l0eq (a0 a1 : RServer) (h : cnt_szLeadS a0.Leads ≤ 1048576) (hl : a0.Leads.length = a1.Leads.length) : iter (spec_SameServer_l0 a0 a1) LF 0 = some (bif decide (a0.Leads = a1.Leads) then .inl () else .inr ()) := by
  have hb : a0.Leads.length ≤ 1048576 := by unfold cnt_szLeadS at h; first | (unfold cntL at h; omega) | omega
  have key := iter_all (f := spec_SameServer_l0 a0 a1) a0.Leads.length (fun i => (i : Int)) (fun i => decide (a0.Leads[i]? = a1.Leads[i]?)) (xt := .inl ()) (xf := .inr ()) hb (fun i hi => by
    have hc : cnt_szLead a0.Leads[i] ≤ 1048576 := by
      have := cnt_mem (cnt := cnt_szLead) hi
      unfold cnt_szLeadS cntL at h
      omega
    have hj : i < a1.Leads.length := by omega
    unfold spec_SameServer_l0
    simp only [ix_nat]
    rw [show decide ((i : Int) < (a0.Leads.length : Int)) = true from decide_eq_true (by omega), cond_true, List.getElem?_eq_getElem hi, List.getElem?_eq_getElem hj, wrap_succ i (by omega)]
    simp only [Option.bind_some, Option.some.injEq]
    revert hc
    generalize a0.Leads[i] = x
    generalize a1.Leads[i] = y
    intro hc
    rw [spec_SameLead_eq _ _ hc]
    by_cases e : x = y <;> simp [e]
    ) (by
    unfold spec_SameServer_l0
    simp only
    rw [show decide ((a0.Leads.length : Int) < (a0.Leads.length : Int)) = false from decide_eq_false (by omega), cond_false])
  rw [all_eq a0.Leads a1.Leads hl] at key
  exact key
theorem spec_SameServer_eq (a0 a1 : RServer) (h : cnt_szServer a0 ≤ 1048576) : spec_SameServer a0 a1 = some (decide (a0 = a1)) := by
  unfold cnt_szServer at h
  unfold cnt_szStore at h
  unfold spec_SameServer
  rw [spec_l30SameStates_eq a0.Store.Live a1.Store.Live (by omega)]
  rw [spec_l30SameStates_eq a0.Store.Kept a1.Store.Kept (by omega)]
  rw [spec_l30SameMsgs_eq a0.Out a1.Out (by omega)]
  try simp only [cmp_RGot]
  try simp only [cmp_RWay]
  try simp only [cmp_REntry]
  try simp only [cmp_RFill]
  try simp only [cmp_RChunk]
  try simp only [cmp_RHead]
  try simp only [cmp_RLast]
  try simp only [cmp_RAck]
  try simp only [cmp_ROp]
  try simp only [cmp_RVer]
  try simp only [cmp_RReq]
  try simp only [cmp_RPg]
  try simp only [cmp_RCode]
  rw [ext_RServer]
  rw [ext_RStore]
  simp only [beqB, dne, Option.bind_some]
  by_cases hlLeads : a0.Leads.length = a1.Leads.length
  case neg =>
    rw [show decide ((a0.Leads.length : Int) = (a1.Leads.length : Int)) = false from decide_eq_false (by omega), show decide (a0.Leads = a1.Leads) = false from decide_eq_false (fun e => hlLeads (by rw [e]))]
    simp
  rw [show decide ((a0.Leads.length : Int) = (a1.Leads.length : Int)) = true from decide_eq_true (by omega)]
  rw [spec_SameServer_l0eq a0 a1 (by omega) hlLeads]
  try simp only [Option.bind_some]
  generalize decide (a0.Id = a1.Id) = bId
  generalize decide (a0.Epoch = a1.Epoch) = bEpoch
  generalize decide (a0.Alive = a1.Alive) = bAlive
  generalize decide (a0.Store.Live = a1.Store.Live) = bStore_Live
  generalize decide (a0.Store.Kept = a1.Store.Kept) = bStore_Kept
  generalize decide (a0.Leads = a1.Leads) = bLeads
  generalize decide (a0.Out = a1.Out) = bOut
  cases bId
  · first | (simp; done) | (revert bEpoch bAlive bStore_Live bStore_Kept bLeads bOut; decide)
  cases bEpoch
  · first | (simp; done) | (revert bAlive bStore_Live bStore_Kept bLeads bOut; decide)
  cases bAlive
  · first | (simp; done) | (revert bStore_Live bStore_Kept bLeads bOut; decide)
  cases bStore_Live
  · first | (simp; done) | (revert bStore_Kept bLeads bOut; decide)
  cases bStore_Kept
  · first | (simp; done) | (revert bLeads bOut; decide)
  cases bLeads
  · first | (simp; done) | (revert bOut; decide)
  cases bOut
  · first | (simp; done)
  all_goals first | rfl | simp
theorem impl_Head__l0eq (a0 a1 : (List RHead)) (h : cnt_szHeadS a0 ≤ 1048576) (hl : a0.length = a1.length) : iter (impl_Head__l0 a0 a1) LF 0 = some (bif decide (a0 = a1) then .inl () else .inr ()) := by
  have hb : a0.length ≤ 1048576 := by unfold cnt_szHeadS at h; first | (unfold cntL at h; omega) | omega
  have key := iter_all (f := impl_Head__l0 a0 a1) a0.length (fun i => (i : Int)) (fun i => decide (a0[i]? = a1[i]?)) (xt := .inl ()) (xf := .inr ()) hb (fun i hi => by
    have hc : cnt_szHead a0[i] ≤ 1048576 := by
      have := cnt_mem (cnt := cnt_szHead) hi
      unfold cnt_szHeadS cntL at h
      omega
    have hj : i < a1.length := by omega
    unfold impl_Head__l0
    simp only [ix_nat]
    rw [show decide ((i : Int) < (a0.length : Int)) = true from decide_eq_true (by omega), cond_true, List.getElem?_eq_getElem hi, List.getElem?_eq_getElem hj, wrap_succ i (by omega)]
    simp only [Option.bind_some, Option.some.injEq]
    revert hc
    generalize a0[i] = x
    generalize a1[i] = y
    intro hc
    try simp only [cmp_RGot]
    try simp only [cmp_RWay]
    try simp only [cmp_REntry]
    try simp only [cmp_RFill]
    try simp only [cmp_RChunk]
    try simp only [cmp_RHead]
    try simp only [cmp_RLast]
    try simp only [cmp_RAck]
    try simp only [cmp_ROp]
    try simp only [cmp_RVer]
    try simp only [cmp_RReq]
    try simp only [cmp_RPg]
    try simp only [cmp_RCode]
    by_cases e : x = y <;> simp [e]
    ) (by
    unfold impl_Head__l0
    simp only
    rw [show decide ((a0.length : Int) < (a0.length : Int)) = false from decide_eq_false (by omega), cond_false])
  rw [all_eq a0 a1 hl] at key
  exact key
theorem impl_Head__eq (a0 a1 : (List RHead)) (h : cnt_szHeadS a0 ≤ 1048576) : impl_Head_ a0 a1 = some (decide (a0 = a1)) := by
  unfold impl_Head_
  by_cases hl : a0.length = a1.length
  · rw [show decide ((a0.length : Int) ≠ (a1.length : Int)) = false from decide_eq_false (by omega), cond_false, impl_Head__l0eq a0 a1 h hl]
    by_cases e : a0 = a1 <;> simp [e]
  · rw [show decide ((a0.length : Int) ≠ (a1.length : Int)) = true from decide_eq_true (by omega), cond_true, show decide (a0 = a1) = false from decide_eq_false (fun e => hl (by rw [e]))]
theorem impl_Last__l0eq (a0 a1 : (List RLast)) (h : cnt_szLastS a0 ≤ 1048576) (hl : a0.length = a1.length) : iter (impl_Last__l0 a0 a1) LF 0 = some (bif decide (a0 = a1) then .inl () else .inr ()) := by
  have hb : a0.length ≤ 1048576 := by unfold cnt_szLastS at h; first | (unfold cntL at h; omega) | omega
  have key := iter_all (f := impl_Last__l0 a0 a1) a0.length (fun i => (i : Int)) (fun i => decide (a0[i]? = a1[i]?)) (xt := .inl ()) (xf := .inr ()) hb (fun i hi => by
    have hj : i < a1.length := by omega
    unfold impl_Last__l0
    simp only [ix_nat]
    rw [show decide ((i : Int) < (a0.length : Int)) = true from decide_eq_true (by omega), cond_true, List.getElem?_eq_getElem hi, List.getElem?_eq_getElem hj, wrap_succ i (by omega)]
    simp only [Option.bind_some, Option.some.injEq]
    generalize a0[i] = x at *
    generalize a1[i] = y
    try simp only [cmp_RGot]
    try simp only [cmp_RWay]
    try simp only [cmp_REntry]
    try simp only [cmp_RFill]
    try simp only [cmp_RChunk]
    try simp only [cmp_RHead]
    try simp only [cmp_RLast]
    try simp only [cmp_RAck]
    try simp only [cmp_ROp]
    try simp only [cmp_RVer]
    try simp only [cmp_RReq]
    try simp only [cmp_RPg]
    try simp only [cmp_RCode]
    by_cases e : x = y <;> simp [e]
    ) (by
    unfold impl_Last__l0
    simp only
    rw [show decide ((a0.length : Int) < (a0.length : Int)) = false from decide_eq_false (by omega), cond_false])
  rw [all_eq a0 a1 hl] at key
  exact key
theorem impl_Last__eq (a0 a1 : (List RLast)) (h : cnt_szLastS a0 ≤ 1048576) : impl_Last_ a0 a1 = some (decide (a0 = a1)) := by
  unfold impl_Last_
  by_cases hl : a0.length = a1.length
  · rw [show decide ((a0.length : Int) ≠ (a1.length : Int)) = false from decide_eq_false (by omega), cond_false, impl_Last__l0eq a0 a1 h hl]
    by_cases e : a0 = a1 <;> simp [e]
  · rw [show decide ((a0.length : Int) ≠ (a1.length : Int)) = true from decide_eq_true (by omega), cond_true, show decide (a0 = a1) = false from decide_eq_false (fun e => hl (by rw [e]))]
theorem impl_Entry__l0eq (a0 a1 : (List REntry)) (h : cnt_szEntryS a0 ≤ 1048576) (hl : a0.length = a1.length) : iter (impl_Entry__l0 a0 a1) LF 0 = some (bif decide (a0 = a1) then .inl () else .inr ()) := by
  have hb : a0.length ≤ 1048576 := by unfold cnt_szEntryS at h; first | (unfold cntL at h; omega) | omega
  have key := iter_all (f := impl_Entry__l0 a0 a1) a0.length (fun i => (i : Int)) (fun i => decide (a0[i]? = a1[i]?)) (xt := .inl ()) (xf := .inr ()) hb (fun i hi => by
    have hc : cnt_szEntry a0[i] ≤ 1048576 := by
      have := cnt_mem (cnt := cnt_szEntry) hi
      unfold cnt_szEntryS cntL at h
      omega
    have hj : i < a1.length := by omega
    unfold impl_Entry__l0
    simp only [ix_nat]
    rw [show decide ((i : Int) < (a0.length : Int)) = true from decide_eq_true (by omega), cond_true, List.getElem?_eq_getElem hi, List.getElem?_eq_getElem hj, wrap_succ i (by omega)]
    simp only [Option.bind_some, Option.some.injEq]
    revert hc
    generalize a0[i] = x
    generalize a1[i] = y
    intro hc
    try simp only [cmp_RGot]
    try simp only [cmp_RWay]
    try simp only [cmp_REntry]
    try simp only [cmp_RFill]
    try simp only [cmp_RChunk]
    try simp only [cmp_RHead]
    try simp only [cmp_RLast]
    try simp only [cmp_RAck]
    try simp only [cmp_ROp]
    try simp only [cmp_RVer]
    try simp only [cmp_RReq]
    try simp only [cmp_RPg]
    try simp only [cmp_RCode]
    by_cases e : x = y <;> simp [e]
    ) (by
    unfold impl_Entry__l0
    simp only
    rw [show decide ((a0.length : Int) < (a0.length : Int)) = false from decide_eq_false (by omega), cond_false])
  rw [all_eq a0 a1 hl] at key
  exact key
theorem impl_Entry__eq (a0 a1 : (List REntry)) (h : cnt_szEntryS a0 ≤ 1048576) : impl_Entry_ a0 a1 = some (decide (a0 = a1)) := by
  unfold impl_Entry_
  by_cases hl : a0.length = a1.length
  · rw [show decide ((a0.length : Int) ≠ (a1.length : Int)) = false from decide_eq_false (by omega), cond_false, impl_Entry__l0eq a0 a1 h hl]
    by_cases e : a0 = a1 <;> simp [e]
  · rw [show decide ((a0.length : Int) ≠ (a1.length : Int)) = true from decide_eq_true (by omega), cond_true, show decide (a0 = a1) = false from decide_eq_false (fun e => hl (by rw [e]))]
theorem impl_Chunk__l0eq (a0 a1 : (List RChunk)) (h : cnt_szChunkS a0 ≤ 1048576) (hl : a0.length = a1.length) : iter (impl_Chunk__l0 a0 a1) LF 0 = some (bif decide (a0 = a1) then .inl () else .inr ()) := by
  have hb : a0.length ≤ 1048576 := by unfold cnt_szChunkS at h; first | (unfold cntL at h; omega) | omega
  have key := iter_all (f := impl_Chunk__l0 a0 a1) a0.length (fun i => (i : Int)) (fun i => decide (a0[i]? = a1[i]?)) (xt := .inl ()) (xf := .inr ()) hb (fun i hi => by
    have hc : cnt_szChunk a0[i] ≤ 1048576 := by
      have := cnt_mem (cnt := cnt_szChunk) hi
      unfold cnt_szChunkS cntL at h
      omega
    have hj : i < a1.length := by omega
    unfold impl_Chunk__l0
    simp only [ix_nat]
    rw [show decide ((i : Int) < (a0.length : Int)) = true from decide_eq_true (by omega), cond_true, List.getElem?_eq_getElem hi, List.getElem?_eq_getElem hj, wrap_succ i (by omega)]
    simp only [Option.bind_some, Option.some.injEq]
    revert hc
    generalize a0[i] = x
    generalize a1[i] = y
    intro hc
    try simp only [cmp_RGot]
    try simp only [cmp_RWay]
    try simp only [cmp_REntry]
    try simp only [cmp_RFill]
    try simp only [cmp_RChunk]
    try simp only [cmp_RHead]
    try simp only [cmp_RLast]
    try simp only [cmp_RAck]
    try simp only [cmp_ROp]
    try simp only [cmp_RVer]
    try simp only [cmp_RReq]
    try simp only [cmp_RPg]
    try simp only [cmp_RCode]
    by_cases e : x = y <;> simp [e]
    ) (by
    unfold impl_Chunk__l0
    simp only
    rw [show decide ((a0.length : Int) < (a0.length : Int)) = false from decide_eq_false (by omega), cond_false])
  rw [all_eq a0 a1 hl] at key
  exact key
theorem impl_Chunk__eq (a0 a1 : (List RChunk)) (h : cnt_szChunkS a0 ≤ 1048576) : impl_Chunk_ a0 a1 = some (decide (a0 = a1)) := by
  unfold impl_Chunk_
  by_cases hl : a0.length = a1.length
  · rw [show decide ((a0.length : Int) ≠ (a1.length : Int)) = false from decide_eq_false (by omega), cond_false, impl_Chunk__l0eq a0 a1 h hl]
    by_cases e : a0 = a1 <;> simp [e]
  · rw [show decide ((a0.length : Int) ≠ (a1.length : Int)) = true from decide_eq_true (by omega), cond_true, show decide (a0 = a1) = false from decide_eq_false (fun e => hl (by rw [e]))]
theorem impl_sameState_eq (a0 a1 : RPgState) (h : cnt_szPgState a0 ≤ 1048576) : impl_sameState a0 a1 = some (decide (a0 = a1)) := by
  unfold cnt_szPgState at h
  unfold impl_sameState
  rw [impl_Head__eq a0.Base a1.Base (by omega)]
  rw [impl_Last__eq a0.Clients a1.Clients (by omega)]
  rw [impl_Entry__eq a0.Log a1.Log (by omega)]
  rw [impl_Chunk__eq a0.Chunks a1.Chunks (by omega)]
  try simp only [cmp_RGot]
  try simp only [cmp_RWay]
  try simp only [cmp_REntry]
  try simp only [cmp_RFill]
  try simp only [cmp_RChunk]
  try simp only [cmp_RHead]
  try simp only [cmp_RLast]
  try simp only [cmp_RAck]
  try simp only [cmp_ROp]
  try simp only [cmp_RVer]
  try simp only [cmp_RReq]
  try simp only [cmp_RPg]
  try simp only [cmp_RCode]
  rw [ext_RPgState]
  simp only [beqB, dne, Option.bind_some]
  try simp only [Option.bind_some]
  generalize decide (a0.Pg = a1.Pg) = bPg
  generalize decide (a0.Seen = a1.Seen) = bSeen
  generalize decide (a0.Started = a1.Started) = bStarted
  generalize decide (a0.Tail = a1.Tail) = bTail
  generalize decide (a0.Base = a1.Base) = bBase
  generalize decide (a0.Clients = a1.Clients) = bClients
  generalize decide (a0.Log = a1.Log) = bLog
  generalize decide (a0.Firm = a1.Firm) = bFirm
  generalize decide (a0.Chunks = a1.Chunks) = bChunks
  cases bPg
  · first | (simp; done) | (revert bSeen bStarted bTail bBase bClients bLog bFirm bChunks; decide)
  cases bSeen
  · first | (simp; done) | (revert bStarted bTail bBase bClients bLog bFirm bChunks; decide)
  cases bStarted
  · first | (simp; done) | (revert bTail bBase bClients bLog bFirm bChunks; decide)
  cases bTail
  · first | (simp; done) | (revert bBase bClients bLog bFirm bChunks; decide)
  cases bBase
  · first | (simp; done) | (revert bClients bLog bFirm bChunks; decide)
  cases bClients
  · first | (simp; done) | (revert bLog bFirm bChunks; decide)
  cases bLog
  · first | (simp; done) | (revert bFirm bChunks; decide)
  cases bFirm
  · first | (simp; done) | (revert bChunks; decide)
  cases bChunks
  · first | (simp; done)
  all_goals first | rfl | simp
theorem impl_PgState__l0eq (a0 a1 : (List RPgState)) (h : cnt_szPgStateS a0 ≤ 1048576) (hl : a0.length = a1.length) : iter (impl_PgState__l0 a0) LF (a0, a1, a0, 0) = some (bif decide (a0 = a1) then .inl () else .inr ()) := by
  have hb : a0.length ≤ 1048576 := by unfold cnt_szPgStateS at h; first | (unfold cntL at h; omega) | omega
  have key := iter_all (f := impl_PgState__l0 a0) a0.length (fun i => (a0, a1, a0, (i : Int))) (fun i => decide (a0[i]? = a1[i]?)) (xt := .inl ()) (xf := .inr ()) hb (fun i hi => by
    have hc : cnt_szPgState a0[i] ≤ 1048576 := by
      have := cnt_mem (cnt := cnt_szPgState) hi
      unfold cnt_szPgStateS cntL at h
      omega
    have hj : i < a1.length := by omega
    unfold impl_PgState__l0
    simp only [ix_nat]
    rw [show decide ((i : Int) < (a0.length : Int)) = true from decide_eq_true (by omega), cond_true, List.getElem?_eq_getElem hi, List.getElem?_eq_getElem hj, wrap_succ i (by omega)]
    simp only [Option.bind_some, Option.some.injEq]
    revert hc
    generalize a0[i] = x
    generalize a1[i] = y
    intro hc
    rw [impl_sameState_eq _ _ hc]
    by_cases e : x = y <;> simp [e]
    ) (by
    unfold impl_PgState__l0
    simp only
    rw [show decide ((a0.length : Int) < (a0.length : Int)) = false from decide_eq_false (by omega), cond_false])
  rw [all_eq a0 a1 hl] at key
  exact key
theorem impl_PgState__eq (a0 a1 : (List RPgState)) (h : cnt_szPgStateS a0 ≤ 1048576) : impl_PgState_ a0 a1 = some (decide (a0 = a1)) := by
  unfold impl_PgState_
  by_cases hl : a0.length = a1.length
  · rw [show decide ((a0.length : Int) ≠ (a1.length : Int)) = false from decide_eq_false (by omega), cond_false, impl_PgState__l0eq a0 a1 h hl]
    by_cases e : a0 = a1 <;> simp [e]
  · rw [show decide ((a0.length : Int) ≠ (a1.length : Int)) = true from decide_eq_true (by omega), cond_true, show decide (a0 = a1) = false from decide_eq_false (fun e => hl (by rw [e]))]
theorem impl_sameStates_eq (a0 a1 : (List RPgState)) (h : cnt_szPgStateS a0 ≤ 1048576) : impl_sameStates a0 a1 = some (decide (a0 = a1)) := by
  unfold impl_sameStates
  rw [impl_PgState__eq a0 a1 h]
  rfl
theorem impl_SameStore_eq (a0 a1 : RStore) (h : cnt_szStore a0 ≤ 1048576) : impl_SameStore a0 a1 = some (decide (a0 = a1)) := by
  unfold cnt_szStore at h
  unfold impl_SameStore
  rw [impl_sameStates_eq a0.Live a1.Live (by omega)]
  rw [impl_sameStates_eq a0.Kept a1.Kept (by omega)]
  try simp only [cmp_RGot]
  try simp only [cmp_RWay]
  try simp only [cmp_REntry]
  try simp only [cmp_RFill]
  try simp only [cmp_RChunk]
  try simp only [cmp_RHead]
  try simp only [cmp_RLast]
  try simp only [cmp_RAck]
  try simp only [cmp_ROp]
  try simp only [cmp_RVer]
  try simp only [cmp_RReq]
  try simp only [cmp_RPg]
  try simp only [cmp_RCode]
  rw [ext_RStore]
  simp only [beqB, dne, Option.bind_some]
  try simp only [Option.bind_some]
  generalize decide (a0.Live = a1.Live) = bLive
  generalize decide (a0.Kept = a1.Kept) = bKept
  cases bLive
  · first | (simp; done) | (revert bKept; decide)
  cases bKept
  · first | (simp; done)
  all_goals first | rfl | simp
theorem slices_Equal___int64uint64u_l0eq (a0 a1 : (List Int)) (h : cnt_szInt64S a0 ≤ 1048576) (hl : a0.length = a1.length) : iter (slices_Equal___int64uint64u_l0 a0 a1) LF 0 = some (bif decide (a0 = a1) then .inl () else .inr ()) := by
  have hb : a0.length ≤ 1048576 := by unfold cnt_szInt64S at h; first | (unfold cntL at h; omega) | omega
  have key := iter_all (f := slices_Equal___int64uint64u_l0 a0 a1) a0.length (fun i => (i : Int)) (fun i => decide (a0[i]? = a1[i]?)) (xt := .inl ()) (xf := .inr ()) hb (fun i hi => by
    have hj : i < a1.length := by omega
    unfold slices_Equal___int64uint64u_l0
    simp only [ix_nat]
    rw [show decide ((i : Int) < (a0.length : Int)) = true from decide_eq_true (by omega), cond_true, List.getElem?_eq_getElem hi, List.getElem?_eq_getElem hj, wrap_succ i (by omega)]
    simp only [Option.bind_some, Option.some.injEq]
    generalize a0[i] = x at *
    generalize a1[i] = y
    by_cases e : x = y <;> simp [e]
    ) (by
    unfold slices_Equal___int64uint64u_l0
    simp only
    rw [show decide ((a0.length : Int) < (a0.length : Int)) = false from decide_eq_false (by omega), cond_false])
  rw [all_eq a0 a1 hl] at key
  exact key
theorem slices_Equal___int64uint64u_eq (a0 a1 : (List Int)) (h : cnt_szInt64S a0 ≤ 1048576) : slices_Equal___int64uint64u a0 a1 = some (decide (a0 = a1)) := by
  unfold slices_Equal___int64uint64u
  by_cases hl : a0.length = a1.length
  · rw [show decide ((a0.length : Int) ≠ (a1.length : Int)) = false from decide_eq_false (by omega), cond_false, slices_Equal___int64uint64u_l0eq a0 a1 h hl]
    by_cases e : a0 = a1 <;> simp [e]
  · rw [show decide ((a0.length : Int) ≠ (a1.length : Int)) = true from decide_eq_true (by omega), cond_true, show decide (a0 = a1) = false from decide_eq_false (fun e => hl (by rw [e]))]
theorem impl_sameInterval_eq (a0 a1 : RInterval) (h : cnt_szInterval a0 ≤ 1048576) : impl_sameInterval a0 a1 = some (decide (a0 = a1)) := by
  unfold cnt_szInterval at h
  unfold impl_sameInterval
  rw [slices_Equal___int64uint64u_eq a0.Acting a1.Acting (by omega)]
  try simp only [cmp_RGot]
  try simp only [cmp_RWay]
  try simp only [cmp_REntry]
  try simp only [cmp_RFill]
  try simp only [cmp_RChunk]
  try simp only [cmp_RHead]
  try simp only [cmp_RLast]
  try simp only [cmp_RAck]
  try simp only [cmp_ROp]
  try simp only [cmp_RVer]
  try simp only [cmp_RReq]
  try simp only [cmp_RPg]
  try simp only [cmp_RCode]
  rw [ext_RInterval]
  simp only [beqB, dne, Option.bind_some]
  try simp only [Option.bind_some]
  generalize decide (a0.First = a1.First) = bFirst
  generalize decide (a0.Last = a1.Last) = bLast
  generalize decide (a0.Acting = a1.Acting) = bActing
  generalize decide (a0.May = a1.May) = bMay
  cases bFirst
  · first | (simp; done) | (revert bLast bActing bMay; decide)
  cases bLast
  · first | (simp; done) | (revert bActing bMay; decide)
  cases bActing
  · first | (simp; done) | (revert bMay; decide)
  cases bMay
  · first | (simp; done)
  all_goals first | rfl | simp
theorem impl_Interval__l0eq (a0 a1 : (List RInterval)) (h : cnt_szIntervalS a0 ≤ 1048576) (hl : a0.length = a1.length) : iter (impl_Interval__l0 a0) LF (a0, a1, a0, 0) = some (bif decide (a0 = a1) then .inl () else .inr ()) := by
  have hb : a0.length ≤ 1048576 := by unfold cnt_szIntervalS at h; first | (unfold cntL at h; omega) | omega
  have key := iter_all (f := impl_Interval__l0 a0) a0.length (fun i => (a0, a1, a0, (i : Int))) (fun i => decide (a0[i]? = a1[i]?)) (xt := .inl ()) (xf := .inr ()) hb (fun i hi => by
    have hc : cnt_szInterval a0[i] ≤ 1048576 := by
      have := cnt_mem (cnt := cnt_szInterval) hi
      unfold cnt_szIntervalS cntL at h
      omega
    have hj : i < a1.length := by omega
    unfold impl_Interval__l0
    simp only [ix_nat]
    rw [show decide ((i : Int) < (a0.length : Int)) = true from decide_eq_true (by omega), cond_true, List.getElem?_eq_getElem hi, List.getElem?_eq_getElem hj, wrap_succ i (by omega)]
    simp only [Option.bind_some, Option.some.injEq]
    revert hc
    generalize a0[i] = x
    generalize a1[i] = y
    intro hc
    rw [impl_sameInterval_eq _ _ hc]
    by_cases e : x = y <;> simp [e]
    ) (by
    unfold impl_Interval__l0
    simp only
    rw [show decide ((a0.length : Int) < (a0.length : Int)) = false from decide_eq_false (by omega), cond_false])
  rw [all_eq a0 a1 hl] at key
  exact key
theorem impl_Interval__eq (a0 a1 : (List RInterval)) (h : cnt_szIntervalS a0 ≤ 1048576) : impl_Interval_ a0 a1 = some (decide (a0 = a1)) := by
  unfold impl_Interval_
  by_cases hl : a0.length = a1.length
  · rw [show decide ((a0.length : Int) ≠ (a1.length : Int)) = false from decide_eq_false (by omega), cond_false, impl_Interval__l0eq a0 a1 h hl]
    by_cases e : a0 = a1 <;> simp [e]
  · rw [show decide ((a0.length : Int) ≠ (a1.length : Int)) = true from decide_eq_true (by omega), cond_true, show decide (a0 = a1) = false from decide_eq_false (fun e => hl (by rw [e]))]
theorem impl_sameNotice_eq (a0 a1 : RNotice) (h : cnt_szNotice a0 ≤ 1048576) : impl_sameNotice a0 a1 = some (decide (a0 = a1)) := by
  unfold cnt_szNotice at h
  unfold impl_sameNotice
  rw [impl_sameState_eq a0.State a1.State (by omega)]
  try simp only [cmp_RGot]
  try simp only [cmp_RWay]
  try simp only [cmp_REntry]
  try simp only [cmp_RFill]
  try simp only [cmp_RChunk]
  try simp only [cmp_RHead]
  try simp only [cmp_RLast]
  try simp only [cmp_RAck]
  try simp only [cmp_ROp]
  try simp only [cmp_RVer]
  try simp only [cmp_RReq]
  try simp only [cmp_RPg]
  try simp only [cmp_RCode]
  rw [ext_RNotice]
  simp only [beqB, dne, Option.bind_some]
  try simp only [Option.bind_some]
  generalize decide (a0.From = a1.From) = bFrom
  generalize decide (a0.State = a1.State) = bState
  cases bFrom
  · first | (simp; done) | (revert bState; decide)
  cases bState
  · first | (simp; done)
  all_goals first | rfl | simp
theorem impl_Notice__l0eq (a0 a1 : (List RNotice)) (h : cnt_szNoticeS a0 ≤ 1048576) (hl : a0.length = a1.length) : iter (impl_Notice__l0 a0) LF (a0, a1, a0, 0) = some (bif decide (a0 = a1) then .inl () else .inr ()) := by
  have hb : a0.length ≤ 1048576 := by unfold cnt_szNoticeS at h; first | (unfold cntL at h; omega) | omega
  have key := iter_all (f := impl_Notice__l0 a0) a0.length (fun i => (a0, a1, a0, (i : Int))) (fun i => decide (a0[i]? = a1[i]?)) (xt := .inl ()) (xf := .inr ()) hb (fun i hi => by
    have hc : cnt_szNotice a0[i] ≤ 1048576 := by
      have := cnt_mem (cnt := cnt_szNotice) hi
      unfold cnt_szNoticeS cntL at h
      omega
    have hj : i < a1.length := by omega
    unfold impl_Notice__l0
    simp only [ix_nat]
    rw [show decide ((i : Int) < (a0.length : Int)) = true from decide_eq_true (by omega), cond_true, List.getElem?_eq_getElem hi, List.getElem?_eq_getElem hj, wrap_succ i (by omega)]
    simp only [Option.bind_some, Option.some.injEq]
    revert hc
    generalize a0[i] = x
    generalize a1[i] = y
    intro hc
    rw [impl_sameNotice_eq _ _ hc]
    by_cases e : x = y <;> simp [e]
    ) (by
    unfold impl_Notice__l0
    simp only
    rw [show decide ((a0.length : Int) < (a0.length : Int)) = false from decide_eq_false (by omega), cond_false])
  rw [all_eq a0 a1 hl] at key
  exact key
theorem impl_Notice__eq (a0 a1 : (List RNotice)) (h : cnt_szNoticeS a0 ≤ 1048576) : impl_Notice_ a0 a1 = some (decide (a0 = a1)) := by
  unfold impl_Notice_
  by_cases hl : a0.length = a1.length
  · rw [show decide ((a0.length : Int) ≠ (a1.length : Int)) = false from decide_eq_false (by omega), cond_false, impl_Notice__l0eq a0 a1 h hl]
    by_cases e : a0 = a1 <;> simp [e]
  · rw [show decide ((a0.length : Int) ≠ (a1.length : Int)) = true from decide_eq_true (by omega), cond_true, show decide (a0 = a1) = false from decide_eq_false (fun e => hl (by rw [e]))]
theorem impl_Fill__l0eq (a0 a1 : (List RFill)) (h : cnt_szFillS a0 ≤ 1048576) (hl : a0.length = a1.length) : iter (impl_Fill__l0 a0 a1) LF 0 = some (bif decide (a0 = a1) then .inl () else .inr ()) := by
  have hb : a0.length ≤ 1048576 := by unfold cnt_szFillS at h; first | (unfold cntL at h; omega) | omega
  have key := iter_all (f := impl_Fill__l0 a0 a1) a0.length (fun i => (i : Int)) (fun i => decide (a0[i]? = a1[i]?)) (xt := .inl ()) (xf := .inr ()) hb (fun i hi => by
    have hc : cnt_szFill a0[i] ≤ 1048576 := by
      have := cnt_mem (cnt := cnt_szFill) hi
      unfold cnt_szFillS cntL at h
      omega
    have hj : i < a1.length := by omega
    unfold impl_Fill__l0
    simp only [ix_nat]
    rw [show decide ((i : Int) < (a0.length : Int)) = true from decide_eq_true (by omega), cond_true, List.getElem?_eq_getElem hi, List.getElem?_eq_getElem hj, wrap_succ i (by omega)]
    simp only [Option.bind_some, Option.some.injEq]
    revert hc
    generalize a0[i] = x
    generalize a1[i] = y
    intro hc
    try simp only [cmp_RGot]
    try simp only [cmp_RWay]
    try simp only [cmp_REntry]
    try simp only [cmp_RFill]
    try simp only [cmp_RChunk]
    try simp only [cmp_RHead]
    try simp only [cmp_RLast]
    try simp only [cmp_RAck]
    try simp only [cmp_ROp]
    try simp only [cmp_RVer]
    try simp only [cmp_RReq]
    try simp only [cmp_RPg]
    try simp only [cmp_RCode]
    by_cases e : x = y <;> simp [e]
    ) (by
    unfold impl_Fill__l0
    simp only
    rw [show decide ((a0.length : Int) < (a0.length : Int)) = false from decide_eq_false (by omega), cond_false])
  rw [all_eq a0 a1 hl] at key
  exact key
theorem impl_Fill__eq (a0 a1 : (List RFill)) (h : cnt_szFillS a0 ≤ 1048576) : impl_Fill_ a0 a1 = some (decide (a0 = a1)) := by
  unfold impl_Fill_
  by_cases hl : a0.length = a1.length
  · rw [show decide ((a0.length : Int) ≠ (a1.length : Int)) = false from decide_eq_false (by omega), cond_false, impl_Fill__l0eq a0 a1 h hl]
    by_cases e : a0 = a1 <;> simp [e]
  · rw [show decide ((a0.length : Int) ≠ (a1.length : Int)) = true from decide_eq_true (by omega), cond_true, show decide (a0 = a1) = false from decide_eq_false (fun e => hl (by rw [e]))]
theorem impl_Way__l0eq (a0 a1 : (List RWay)) (h : cnt_szWayS a0 ≤ 1048576) (hl : a0.length = a1.length) : iter (impl_Way__l0 a0 a1) LF 0 = some (bif decide (a0 = a1) then .inl () else .inr ()) := by
  have hb : a0.length ≤ 1048576 := by unfold cnt_szWayS at h; first | (unfold cntL at h; omega) | omega
  have key := iter_all (f := impl_Way__l0 a0 a1) a0.length (fun i => (i : Int)) (fun i => decide (a0[i]? = a1[i]?)) (xt := .inl ()) (xf := .inr ()) hb (fun i hi => by
    have hc : cnt_szWay a0[i] ≤ 1048576 := by
      have := cnt_mem (cnt := cnt_szWay) hi
      unfold cnt_szWayS cntL at h
      omega
    have hj : i < a1.length := by omega
    unfold impl_Way__l0
    simp only [ix_nat]
    rw [show decide ((i : Int) < (a0.length : Int)) = true from decide_eq_true (by omega), cond_true, List.getElem?_eq_getElem hi, List.getElem?_eq_getElem hj, wrap_succ i (by omega)]
    simp only [Option.bind_some, Option.some.injEq]
    revert hc
    generalize a0[i] = x
    generalize a1[i] = y
    intro hc
    try simp only [cmp_RGot]
    try simp only [cmp_RWay]
    try simp only [cmp_REntry]
    try simp only [cmp_RFill]
    try simp only [cmp_RChunk]
    try simp only [cmp_RHead]
    try simp only [cmp_RLast]
    try simp only [cmp_RAck]
    try simp only [cmp_ROp]
    try simp only [cmp_RVer]
    try simp only [cmp_RReq]
    try simp only [cmp_RPg]
    try simp only [cmp_RCode]
    by_cases e : x = y <;> simp [e]
    ) (by
    unfold impl_Way__l0
    simp only
    rw [show decide ((a0.length : Int) < (a0.length : Int)) = false from decide_eq_false (by omega), cond_false])
  rw [all_eq a0 a1 hl] at key
  exact key
theorem impl_Way__eq (a0 a1 : (List RWay)) (h : cnt_szWayS a0 ≤ 1048576) : impl_Way_ a0 a1 = some (decide (a0 = a1)) := by
  unfold impl_Way_
  by_cases hl : a0.length = a1.length
  · rw [show decide ((a0.length : Int) ≠ (a1.length : Int)) = false from decide_eq_false (by omega), cond_false, impl_Way__l0eq a0 a1 h hl]
    by_cases e : a0 = a1 <;> simp [e]
  · rw [show decide ((a0.length : Int) ≠ (a1.length : Int)) = true from decide_eq_true (by omega), cond_true, show decide (a0 = a1) = false from decide_eq_false (fun e => hl (by rw [e]))]
theorem impl_Ack__l0eq (a0 a1 : (List RAck)) (h : cnt_szAckS a0 ≤ 1048576) (hl : a0.length = a1.length) : iter (impl_Ack__l0 a0 a1) LF 0 = some (bif decide (a0 = a1) then .inl () else .inr ()) := by
  have hb : a0.length ≤ 1048576 := by unfold cnt_szAckS at h; first | (unfold cntL at h; omega) | omega
  have key := iter_all (f := impl_Ack__l0 a0 a1) a0.length (fun i => (i : Int)) (fun i => decide (a0[i]? = a1[i]?)) (xt := .inl ()) (xf := .inr ()) hb (fun i hi => by
    have hj : i < a1.length := by omega
    unfold impl_Ack__l0
    simp only [ix_nat]
    rw [show decide ((i : Int) < (a0.length : Int)) = true from decide_eq_true (by omega), cond_true, List.getElem?_eq_getElem hi, List.getElem?_eq_getElem hj, wrap_succ i (by omega)]
    simp only [Option.bind_some, Option.some.injEq]
    generalize a0[i] = x at *
    generalize a1[i] = y
    try simp only [cmp_RGot]
    try simp only [cmp_RWay]
    try simp only [cmp_REntry]
    try simp only [cmp_RFill]
    try simp only [cmp_RChunk]
    try simp only [cmp_RHead]
    try simp only [cmp_RLast]
    try simp only [cmp_RAck]
    try simp only [cmp_ROp]
    try simp only [cmp_RVer]
    try simp only [cmp_RReq]
    try simp only [cmp_RPg]
    try simp only [cmp_RCode]
    by_cases e : x = y <;> simp [e]
    ) (by
    unfold impl_Ack__l0
    simp only
    rw [show decide ((a0.length : Int) < (a0.length : Int)) = false from decide_eq_false (by omega), cond_false])
  rw [all_eq a0 a1 hl] at key
  exact key
theorem impl_Ack__eq (a0 a1 : (List RAck)) (h : cnt_szAckS a0 ≤ 1048576) : impl_Ack_ a0 a1 = some (decide (a0 = a1)) := by
  unfold impl_Ack_
  by_cases hl : a0.length = a1.length
  · rw [show decide ((a0.length : Int) ≠ (a1.length : Int)) = false from decide_eq_false (by omega), cond_false, impl_Ack__l0eq a0 a1 h hl]
    by_cases e : a0 = a1 <;> simp [e]
  · rw [show decide ((a0.length : Int) ≠ (a1.length : Int)) = true from decide_eq_true (by omega), cond_true, show decide (a0 = a1) = false from decide_eq_false (fun e => hl (by rw [e]))]
theorem impl_Got__l0eq (a0 a1 : (List RGot)) (h : cnt_szGotS a0 ≤ 1048576) (hl : a0.length = a1.length) : iter (impl_Got__l0 a0 a1) LF 0 = some (bif decide (a0 = a1) then .inl () else .inr ()) := by
  have hb : a0.length ≤ 1048576 := by unfold cnt_szGotS at h; first | (unfold cntL at h; omega) | omega
  have key := iter_all (f := impl_Got__l0 a0 a1) a0.length (fun i => (i : Int)) (fun i => decide (a0[i]? = a1[i]?)) (xt := .inl ()) (xf := .inr ()) hb (fun i hi => by
    have hc : cnt_szGot a0[i] ≤ 1048576 := by
      have := cnt_mem (cnt := cnt_szGot) hi
      unfold cnt_szGotS cntL at h
      omega
    have hj : i < a1.length := by omega
    unfold impl_Got__l0
    simp only [ix_nat]
    rw [show decide ((i : Int) < (a0.length : Int)) = true from decide_eq_true (by omega), cond_true, List.getElem?_eq_getElem hi, List.getElem?_eq_getElem hj, wrap_succ i (by omega)]
    simp only [Option.bind_some, Option.some.injEq]
    revert hc
    generalize a0[i] = x
    generalize a1[i] = y
    intro hc
    try simp only [cmp_RGot]
    try simp only [cmp_RWay]
    try simp only [cmp_REntry]
    try simp only [cmp_RFill]
    try simp only [cmp_RChunk]
    try simp only [cmp_RHead]
    try simp only [cmp_RLast]
    try simp only [cmp_RAck]
    try simp only [cmp_ROp]
    try simp only [cmp_RVer]
    try simp only [cmp_RReq]
    try simp only [cmp_RPg]
    try simp only [cmp_RCode]
    by_cases e : x = y <;> simp [e]
    ) (by
    unfold impl_Got__l0
    simp only
    rw [show decide ((a0.length : Int) < (a0.length : Int)) = false from decide_eq_false (by omega), cond_false])
  rw [all_eq a0 a1 hl] at key
  exact key
theorem impl_Got__eq (a0 a1 : (List RGot)) (h : cnt_szGotS a0 ≤ 1048576) : impl_Got_ a0 a1 = some (decide (a0 = a1)) := by
  unfold impl_Got_
  by_cases hl : a0.length = a1.length
  · rw [show decide ((a0.length : Int) ≠ (a1.length : Int)) = false from decide_eq_false (by omega), cond_false, impl_Got__l0eq a0 a1 h hl]
    by_cases e : a0 = a1 <;> simp [e]
  · rw [show decide ((a0.length : Int) ≠ (a1.length : Int)) = true from decide_eq_true (by omega), cond_true, show decide (a0 = a1) = false from decide_eq_false (fun e => hl (by rw [e]))]
theorem impl_sameWait_eq (a0 a1 : RWait) (h : cnt_szWait a0 ≤ 1048576) : impl_sameWait a0 a1 = some (decide (a0 = a1)) := by
  unfold cnt_szWait at h
  unfold impl_sameWait
  rw [impl_Got__eq a0.Got a1.Got (by omega)]
  try simp only [cmp_RGot]
  try simp only [cmp_RWay]
  try simp only [cmp_REntry]
  try simp only [cmp_RFill]
  try simp only [cmp_RChunk]
  try simp only [cmp_RHead]
  try simp only [cmp_RLast]
  try simp only [cmp_RAck]
  try simp only [cmp_ROp]
  try simp only [cmp_RVer]
  try simp only [cmp_RReq]
  try simp only [cmp_RPg]
  try simp only [cmp_RCode]
  rw [ext_RWait]
  simp only [beqB, dne, Option.bind_some]
  try simp only [Option.bind_some]
  generalize decide (a0.Req = a1.Req) = bReq
  generalize decide (a0.Name = a1.Name) = bName
  generalize decide (a0.Ver = a1.Ver) = bVer
  generalize decide (a0.Got = a1.Got) = bGot
  cases bReq
  · first | (simp; done) | (revert bName bVer bGot; decide)
  cases bName
  · first | (simp; done) | (revert bVer bGot; decide)
  cases bVer
  · first | (simp; done) | (revert bGot; decide)
  cases bGot
  · first | (simp; done)
  all_goals first | rfl | simp
theorem impl_Wait__l0eq (a0 a1 : (List RWait)) (h : cnt_szWaitS a0 ≤ 1048576) (hl : a0.length = a1.length) : iter (impl_Wait__l0 a0) LF (a0, a1, a0, 0) = some (bif decide (a0 = a1) then .inl () else .inr ()) := by
  have hb : a0.length ≤ 1048576 := by unfold cnt_szWaitS at h; first | (unfold cntL at h; omega) | omega
  have key := iter_all (f := impl_Wait__l0 a0) a0.length (fun i => (a0, a1, a0, (i : Int))) (fun i => decide (a0[i]? = a1[i]?)) (xt := .inl ()) (xf := .inr ()) hb (fun i hi => by
    have hc : cnt_szWait a0[i] ≤ 1048576 := by
      have := cnt_mem (cnt := cnt_szWait) hi
      unfold cnt_szWaitS cntL at h
      omega
    have hj : i < a1.length := by omega
    unfold impl_Wait__l0
    simp only [ix_nat]
    rw [show decide ((i : Int) < (a0.length : Int)) = true from decide_eq_true (by omega), cond_true, List.getElem?_eq_getElem hi, List.getElem?_eq_getElem hj, wrap_succ i (by omega)]
    simp only [Option.bind_some, Option.some.injEq]
    revert hc
    generalize a0[i] = x
    generalize a1[i] = y
    intro hc
    rw [impl_sameWait_eq _ _ hc]
    by_cases e : x = y <;> simp [e]
    ) (by
    unfold impl_Wait__l0
    simp only
    rw [show decide ((a0.length : Int) < (a0.length : Int)) = false from decide_eq_false (by omega), cond_false])
  rw [all_eq a0 a1 hl] at key
  exact key
theorem impl_Wait__eq (a0 a1 : (List RWait)) (h : cnt_szWaitS a0 ≤ 1048576) : impl_Wait_ a0 a1 = some (decide (a0 = a1)) := by
  unfold impl_Wait_
  by_cases hl : a0.length = a1.length
  · rw [show decide ((a0.length : Int) ≠ (a1.length : Int)) = false from decide_eq_false (by omega), cond_false, impl_Wait__l0eq a0 a1 h hl]
    by_cases e : a0 = a1 <;> simp [e]
  · rw [show decide ((a0.length : Int) ≠ (a1.length : Int)) = true from decide_eq_true (by omega), cond_true, show decide (a0 = a1) = false from decide_eq_false (fun e => hl (by rw [e]))]
theorem impl_SameLine_eq (a0 a1 : RLine) (h : cnt_szLine a0 ≤ 1048576) : impl_SameLine a0 a1 = some (decide (a0 = a1)) := by
  unfold cnt_szLine at h
  unfold impl_SameLine
  rw [slices_Equal___int64uint64u_eq a0.Acting a1.Acting (by omega)]
  rw [impl_sameState_eq a0.State a1.State (by omega)]
  rw [impl_Way__eq a0.Way a1.Way (by omega)]
  rw [impl_Ack__eq a0.Acks a1.Acks (by omega)]
  rw [impl_Wait__eq a0.Waits a1.Waits (by omega)]
  try simp only [cmp_RGot]
  try simp only [cmp_RWay]
  try simp only [cmp_REntry]
  try simp only [cmp_RFill]
  try simp only [cmp_RChunk]
  try simp only [cmp_RHead]
  try simp only [cmp_RLast]
  try simp only [cmp_RAck]
  try simp only [cmp_ROp]
  try simp only [cmp_RVer]
  try simp only [cmp_RReq]
  try simp only [cmp_RPg]
  try simp only [cmp_RCode]
  rw [ext_RLine]
  simp only [beqB, dne, Option.bind_some]
  try simp only [Option.bind_some]
  generalize decide (a0.Epoch = a1.Epoch) = bEpoch
  generalize decide (a0.Code = a1.Code) = bCode
  generalize decide (a0.Acting = a1.Acting) = bActing
  generalize decide (a0.State = a1.State) = bState
  generalize decide (a0.Way = a1.Way) = bWay
  generalize decide (a0.Acks = a1.Acks) = bAcks
  generalize decide (a0.Waits = a1.Waits) = bWaits
  cases bEpoch
  · first | (simp; done) | (revert bCode bActing bState bWay bAcks bWaits; decide)
  cases bCode
  · first | (simp; done) | (revert bActing bState bWay bAcks bWaits; decide)
  cases bActing
  · first | (simp; done) | (revert bState bWay bAcks bWaits; decide)
  cases bState
  · first | (simp; done) | (revert bWay bAcks bWaits; decide)
  cases bWay
  · first | (simp; done) | (revert bAcks bWaits; decide)
  cases bAcks
  · first | (simp; done) | (revert bWaits; decide)
  cases bWaits
  · first | (simp; done)
  all_goals first | rfl | simp
theorem impl_SameLead_eq (a0 a1 : RLead) (h : cnt_szLead a0 ≤ 1048576) : impl_SameLead a0 a1 = some (decide (a0 = a1)) := by
  unfold cnt_szLead at h
  unfold impl_SameLead
  rw [slices_Equal___int64uint64u_eq a0.Acting a1.Acting (by omega)]
  rw [impl_Interval__eq a0.Ivs a1.Ivs (by omega)]
  rw [impl_Notice__eq a0.Heard a1.Heard (by omega)]
  rw [impl_sameState_eq a0.Pick a1.Pick (by omega)]
  rw [impl_Fill__eq a0.Fills a1.Fills (by omega)]
  rw [impl_Chunk__eq a0.Have a1.Have (by omega)]
  rw [slices_Equal___int64uint64u_eq a0.Ready a1.Ready (by omega)]
  rw [impl_SameLine_eq a0.Line a1.Line (by omega)]
  try simp only [cmp_RGot]
  try simp only [cmp_RWay]
  try simp only [cmp_REntry]
  try simp only [cmp_RFill]
  try simp only [cmp_RChunk]
  try simp only [cmp_RHead]
  try simp only [cmp_RLast]
  try simp only [cmp_RAck]
  try simp only [cmp_ROp]
  try simp only [cmp_RVer]
  try simp only [cmp_RReq]
  try simp only [cmp_RPg]
  try simp only [cmp_RCode]
  rw [ext_RLead]
  simp only [beqB, dne, Option.bind_some]
  try simp only [Option.bind_some]
  generalize decide (a0.Pg = a1.Pg) = bPg
  generalize decide (a0.Epoch = a1.Epoch) = bEpoch
  generalize decide (a0.Phase = a1.Phase) = bPhase
  generalize decide (a0.Code = a1.Code) = bCode
  generalize decide (a0.Acting = a1.Acting) = bActing
  generalize decide (a0.Ivs = a1.Ivs) = bIvs
  generalize decide (a0.Heard = a1.Heard) = bHeard
  generalize decide (a0.Pick = a1.Pick) = bPick
  generalize decide (a0.Fills = a1.Fills) = bFills
  generalize decide (a0.Have = a1.Have) = bHave
  generalize decide (a0.Ready = a1.Ready) = bReady
  generalize decide (a0.Line = a1.Line) = bLine
  cases bPg
  · first | (simp; done) | (revert bEpoch bPhase bCode bActing bIvs bHeard bPick bFills bHave bReady bLine; decide)
  cases bEpoch
  · first | (simp; done) | (revert bPhase bCode bActing bIvs bHeard bPick bFills bHave bReady bLine; decide)
  cases bPhase
  · first | (simp; done) | (revert bCode bActing bIvs bHeard bPick bFills bHave bReady bLine; decide)
  cases bCode
  · first | (simp; done) | (revert bActing bIvs bHeard bPick bFills bHave bReady bLine; decide)
  cases bActing
  · first | (simp; done) | (revert bIvs bHeard bPick bFills bHave bReady bLine; decide)
  cases bIvs
  · first | (simp; done) | (revert bHeard bPick bFills bHave bReady bLine; decide)
  cases bHeard
  · first | (simp; done) | (revert bPick bFills bHave bReady bLine; decide)
  cases bPick
  · first | (simp; done) | (revert bFills bHave bReady bLine; decide)
  cases bFills
  · first | (simp; done) | (revert bHave bReady bLine; decide)
  cases bHave
  · first | (simp; done) | (revert bReady bLine; decide)
  cases bReady
  · first | (simp; done) | (revert bLine; decide)
  cases bLine
  · first | (simp; done)
  all_goals first | rfl | simp
theorem impl_Lead__l0eq (a0 a1 : (List RLead)) (h : cnt_szLeadS a0 ≤ 1048576) (hl : a0.length = a1.length) : iter (impl_Lead__l0 a0) LF (a0, a1, a0, 0) = some (bif decide (a0 = a1) then .inl () else .inr ()) := by
  have hb : a0.length ≤ 1048576 := by unfold cnt_szLeadS at h; first | (unfold cntL at h; omega) | omega
  have key := iter_all (f := impl_Lead__l0 a0) a0.length (fun i => (a0, a1, a0, (i : Int))) (fun i => decide (a0[i]? = a1[i]?)) (xt := .inl ()) (xf := .inr ()) hb (fun i hi => by
    have hc : cnt_szLead a0[i] ≤ 1048576 := by
      have := cnt_mem (cnt := cnt_szLead) hi
      unfold cnt_szLeadS cntL at h
      omega
    have hj : i < a1.length := by omega
    unfold impl_Lead__l0
    simp only [ix_nat]
    rw [show decide ((i : Int) < (a0.length : Int)) = true from decide_eq_true (by omega), cond_true, List.getElem?_eq_getElem hi, List.getElem?_eq_getElem hj, wrap_succ i (by omega)]
    simp only [Option.bind_some, Option.some.injEq]
    revert hc
    generalize a0[i] = x
    generalize a1[i] = y
    intro hc
    rw [impl_SameLead_eq _ _ hc]
    by_cases e : x = y <;> simp [e]
    ) (by
    unfold impl_Lead__l0
    simp only
    rw [show decide ((a0.length : Int) < (a0.length : Int)) = false from decide_eq_false (by omega), cond_false])
  rw [all_eq a0 a1 hl] at key
  exact key
theorem impl_Lead__eq (a0 a1 : (List RLead)) (h : cnt_szLeadS a0 ≤ 1048576) : impl_Lead_ a0 a1 = some (decide (a0 = a1)) := by
  unfold impl_Lead_
  by_cases hl : a0.length = a1.length
  · rw [show decide ((a0.length : Int) ≠ (a1.length : Int)) = false from decide_eq_false (by omega), cond_false, impl_Lead__l0eq a0 a1 h hl]
    by_cases e : a0 = a1 <;> simp [e]
  · rw [show decide ((a0.length : Int) ≠ (a1.length : Int)) = true from decide_eq_true (by omega), cond_true, show decide (a0 = a1) = false from decide_eq_false (fun e => hl (by rw [e]))]
theorem impl_MsgSame_eq (a0 a1 : RMsg) (h : cnt_szMsg a0 ≤ 1048576) : impl_MsgSame a0 a1 = some (decide (a0 = a1)) := by
  unfold cnt_szMsg at h
  unfold impl_MsgSame
  rw [impl_sameState_eq a0.State a1.State (by omega)]
  try simp only [cmp_RGot]
  try simp only [cmp_RWay]
  try simp only [cmp_REntry]
  try simp only [cmp_RFill]
  try simp only [cmp_RChunk]
  try simp only [cmp_RHead]
  try simp only [cmp_RLast]
  try simp only [cmp_RAck]
  try simp only [cmp_ROp]
  try simp only [cmp_RVer]
  try simp only [cmp_RReq]
  try simp only [cmp_RPg]
  try simp only [cmp_RCode]
  rw [ext_RMsg]
  simp only [beqB, dne, Option.bind_some]
  try simp only [Option.bind_some]
  generalize decide (a0.Kind = a1.Kind) = bKind
  generalize decide (a0.From = a1.From) = bFrom
  generalize decide (a0.To = a1.To) = bTo
  generalize decide (a0.Pg = a1.Pg) = bPg
  generalize decide (a0.Epoch = a1.Epoch) = bEpoch
  generalize decide (a0.Name = a1.Name) = bName
  generalize decide (a0.Ver = a1.Ver) = bVer
  generalize decide (a0.Firm = a1.Firm) = bFirm
  generalize decide (a0.State = a1.State) = bState
  generalize decide (a0.Entry = a1.Entry) = bEntry
  generalize decide (a0.Chunk = a1.Chunk) = bChunk
  generalize decide (a0.Op = a1.Op) = bOp
  generalize decide (a0.Req = a1.Req) = bReq
  generalize decide (a0.Code = a1.Code) = bCode
  generalize decide (a0.Body = a1.Body) = bBody
  cases bKind
  · first | (simp; done) | (revert bFrom bTo bPg bEpoch bName bVer bFirm bState bEntry bChunk bOp bReq bCode bBody; decide)
  cases bFrom
  · first | (simp; done) | (revert bTo bPg bEpoch bName bVer bFirm bState bEntry bChunk bOp bReq bCode bBody; decide)
  cases bTo
  · first | (simp; done) | (revert bPg bEpoch bName bVer bFirm bState bEntry bChunk bOp bReq bCode bBody; decide)
  cases bPg
  · first | (simp; done) | (revert bEpoch bName bVer bFirm bState bEntry bChunk bOp bReq bCode bBody; decide)
  cases bEpoch
  · first | (simp; done) | (revert bName bVer bFirm bState bEntry bChunk bOp bReq bCode bBody; decide)
  cases bName
  · first | (simp; done) | (revert bVer bFirm bState bEntry bChunk bOp bReq bCode bBody; decide)
  cases bVer
  · first | (simp; done) | (revert bFirm bState bEntry bChunk bOp bReq bCode bBody; decide)
  cases bFirm
  · first | (simp; done) | (revert bState bEntry bChunk bOp bReq bCode bBody; decide)
  cases bState
  · first | (simp; done) | (revert bEntry bChunk bOp bReq bCode bBody; decide)
  cases bEntry
  · first | (simp; done) | (revert bChunk bOp bReq bCode bBody; decide)
  cases bChunk
  · first | (simp; done) | (revert bOp bReq bCode bBody; decide)
  cases bOp
  · first | (simp; done) | (revert bReq bCode bBody; decide)
  cases bReq
  · first | (simp; done) | (revert bCode bBody; decide)
  cases bCode
  · first | (simp; done) | (revert bBody; decide)
  cases bBody
  · first | (simp; done)
  all_goals first | rfl | simp
theorem impl_Msg__l0eq (a0 a1 : (List RMsg)) (h : cnt_szMsgS a0 ≤ 1048576) (hl : a0.length = a1.length) : iter (impl_Msg__l0 a0) LF (a0, a1, a0, 0) = some (bif decide (a0 = a1) then .inl () else .inr ()) := by
  have hb : a0.length ≤ 1048576 := by unfold cnt_szMsgS at h; first | (unfold cntL at h; omega) | omega
  have key := iter_all (f := impl_Msg__l0 a0) a0.length (fun i => (a0, a1, a0, (i : Int))) (fun i => decide (a0[i]? = a1[i]?)) (xt := .inl ()) (xf := .inr ()) hb (fun i hi => by
    have hc : cnt_szMsg a0[i] ≤ 1048576 := by
      have := cnt_mem (cnt := cnt_szMsg) hi
      unfold cnt_szMsgS cntL at h
      omega
    have hj : i < a1.length := by omega
    unfold impl_Msg__l0
    simp only [ix_nat]
    rw [show decide ((i : Int) < (a0.length : Int)) = true from decide_eq_true (by omega), cond_true, List.getElem?_eq_getElem hi, List.getElem?_eq_getElem hj, wrap_succ i (by omega)]
    simp only [Option.bind_some, Option.some.injEq]
    revert hc
    generalize a0[i] = x
    generalize a1[i] = y
    intro hc
    rw [impl_MsgSame_eq _ _ hc]
    by_cases e : x = y <;> simp [e]
    ) (by
    unfold impl_Msg__l0
    simp only
    rw [show decide ((a0.length : Int) < (a0.length : Int)) = false from decide_eq_false (by omega), cond_false])
  rw [all_eq a0 a1 hl] at key
  exact key
theorem impl_Msg__eq (a0 a1 : (List RMsg)) (h : cnt_szMsgS a0 ≤ 1048576) : impl_Msg_ a0 a1 = some (decide (a0 = a1)) := by
  unfold impl_Msg_
  by_cases hl : a0.length = a1.length
  · rw [show decide ((a0.length : Int) ≠ (a1.length : Int)) = false from decide_eq_false (by omega), cond_false, impl_Msg__l0eq a0 a1 h hl]
    by_cases e : a0 = a1 <;> simp [e]
  · rw [show decide ((a0.length : Int) ≠ (a1.length : Int)) = true from decide_eq_true (by omega), cond_true, show decide (a0 = a1) = false from decide_eq_false (fun e => hl (by rw [e]))]
theorem impl_SameServer_eq (a0 a1 : RServer) (h : cnt_szServer a0 ≤ 1048576) : impl_SameServer a0 a1 = some (decide (a0 = a1)) := by
  unfold cnt_szServer at h
  unfold impl_SameServer
  rw [impl_SameStore_eq a0.Store a1.Store (by omega)]
  rw [impl_Lead__eq a0.Leads a1.Leads (by omega)]
  rw [impl_Msg__eq a0.Out a1.Out (by omega)]
  try simp only [cmp_RGot]
  try simp only [cmp_RWay]
  try simp only [cmp_REntry]
  try simp only [cmp_RFill]
  try simp only [cmp_RChunk]
  try simp only [cmp_RHead]
  try simp only [cmp_RLast]
  try simp only [cmp_RAck]
  try simp only [cmp_ROp]
  try simp only [cmp_RVer]
  try simp only [cmp_RReq]
  try simp only [cmp_RPg]
  try simp only [cmp_RCode]
  rw [ext_RServer]
  simp only [beqB, dne, Option.bind_some]
  try simp only [Option.bind_some]
  generalize decide (a0.Id = a1.Id) = bId
  generalize decide (a0.Epoch = a1.Epoch) = bEpoch
  generalize decide (a0.Alive = a1.Alive) = bAlive
  generalize decide (a0.Store = a1.Store) = bStore
  generalize decide (a0.Leads = a1.Leads) = bLeads
  generalize decide (a0.Out = a1.Out) = bOut
  cases bId
  · first | (simp; done) | (revert bEpoch bAlive bStore bLeads bOut; decide)
  cases bEpoch
  · first | (simp; done) | (revert bAlive bStore bLeads bOut; decide)
  cases bAlive
  · first | (simp; done) | (revert bStore bLeads bOut; decide)
  cases bStore
  · first | (simp; done) | (revert bLeads bOut; decide)
  cases bLeads
  · first | (simp; done) | (revert bOut; decide)
  cases bOut
  · first | (simp; done)
  all_goals first | rfl | simp
end Go.Proofs.Vai
namespace Go.Proofs.Vai.Q
open Go
theorem sameServer (a0 a1 : RServer) (w0 : wfW TabW 28 a0) (w1 : wfW TabW 28 a1) : laws_FnExactSameServer a0 a1 = some true := by
  unfold laws_FnExactSameServer
  rw [szServer_eq a0 w0 1048576 (by omega) (by omega)]
  simp only [Option.bind_some]
  by_cases h0 : (1048576 : Int) < (cnt_szServer a0 : Int)
  · rw [if_pos h0]; rfl
  · rw [if_neg h0, show decide ((1048576 : Int) - (cnt_szServer a0 : Int) < 0) = false from decide_eq_false (by omega), cond_false, szServer_eq a1 w1 _ (by omega) (by omega)]
    simp only [Option.bind_some]
    by_cases h1 : (1048576 : Int) - (cnt_szServer a0 : Int) < (cnt_szServer a1 : Int)
    · rw [if_pos h1]; rfl
    · rw [if_neg h1, show decide ((1048576 : Int) - (cnt_szServer a0 : Int) - (cnt_szServer a1 : Int) < 0) = false from decide_eq_false (by omega), cond_false]
      simp only [toServer_eq a0 (by omega), toServer_eq a1 (by omega), Option.bind_some, spec_SameServer_eq a0 a1 (by omega), impl_SameServer_eq a0 a1 (by omega), eqServer_eq a0 (by omega), eqServer_eq a1 (by omega)]
      simp
theorem fnExactSameServer (t : RServer × RServer) (h : wfArgs TabW [.row 28 .v, .row 28 .v] (unpT tyW [.w 28, .w 28] t)) : laws_FnExactSameServer t.1 t.2 = some true :=
  sameServer t.1 t.2 h.1 h.2.1
end Go.Proofs.Vai.Q
