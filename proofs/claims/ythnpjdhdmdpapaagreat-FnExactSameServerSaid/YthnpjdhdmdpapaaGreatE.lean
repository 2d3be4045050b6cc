import Derived.Test.YthnpjdhdmdpapaaGreatK
import Derived.Test.YthnpjdhdmdpapaaGreatDa
set_option linter.unusedVariables false
set_option linter.unusedSimpArgs false
namespace Go.Proofs.Vai
open Go
set_option maxRecDepth 100000
def e0 : Ent AW := ⟨127, [.row 5 .v, li], [([li], [])], fun (t : (RHead × Int)) => laws_szHead t.1 t.2⟩
theorem c0 (t : (RHead × Int)) : sxFn (A := AW) [] h0 e0.args e0.res t = e0.fn t := by kernel_rfl
theorem o0 (n : Nat) : EntOK TabW (callN TbW (n + 0 + 1)) e0 := ent_ok tabOK (E := []) (F := h0) (List.forall_mem_nil _) (by kernel_rfl) c0
def e1 : Ent AW := ⟨99, [lv 5, li], [([li], [])], fun (t : ((List RHead) × Int)) => laws_szHeadS t.1 t.2⟩
theorem c1 (t : ((List RHead) × Int)) : sxFn (A := AW) [e0] h1 e1.args e1.res t = e1.fn t := by kernel_rfl
theorem o1 (n : Nat) : EntOK TabW (callN TbW (n + 1 + 1)) e1 := ent_ok tabOK (E := [e0]) (F := h1) (List.forall_mem_cons.2 ⟨(show EntOK TabW (callN TbW (n + 1)) e0 from o0 (n + 0)), List.forall_mem_nil _⟩) (by kernel_rfl) c1
def e2 : Ent AW := ⟨100, [lv 6, li], [([li], [])], fun (t : ((List RLast) × Int)) => laws_szLastS t.1 t.2⟩
theorem c2 (t : ((List RLast) × Int)) : sxFn (A := AW) [] h2 e2.args e2.res t = e2.fn t := by kernel_rfl
theorem o2 (n : Nat) : EntOK TabW (callN TbW (n + 2 + 1)) e2 := ent_ok tabOK (E := []) (F := h2) (List.forall_mem_nil _) (by kernel_rfl) c2
def e3 : Ent AW := ⟨58, [.row 8 .v, li], [([li], [])], fun (t : (REntry × Int)) => laws_szEntry t.1 t.2⟩
theorem c3 (t : (REntry × Int)) : sxFn (A := AW) [] h3 e3.args e3.res t = e3.fn t := by kernel_rfl
theorem o3 (n : Nat) : EntOK TabW (callN TbW (n + 3 + 1)) e3 := ent_ok tabOK (E := []) (F := h3) (List.forall_mem_nil _) (by kernel_rfl) c3
def e4 : Ent AW := ⟨101, [lv 8, li], [([li], [])], fun (t : ((List REntry) × Int)) => laws_szEntryS t.1 t.2⟩
theorem c4 (t : ((List REntry) × Int)) : sxFn (A := AW) [e3] h4 e4.args e4.res t = e4.fn t := by kernel_rfl
theorem o4 (n : Nat) : EntOK TabW (callN TbW (n + 4 + 1)) e4 := ent_ok tabOK (E := [e3]) (F := h4) (List.forall_mem_cons.2 ⟨(show EntOK TabW (callN TbW (n + 4)) e3 from o3 (n + 0)), List.forall_mem_nil _⟩) (by kernel_rfl) c4
def e5 : Ent AW := ⟨59, [.row 9 .v, li], [([li], [])], fun (t : (RChunk × Int)) => laws_szChunk t.1 t.2⟩
theorem c5 (t : (RChunk × Int)) : sxFn (A := AW) [] h5 e5.args e5.res t = e5.fn t := by kernel_rfl
theorem o5 (n : Nat) : EntOK TabW (callN TbW (n + 5 + 1)) e5 := ent_ok tabOK (E := []) (F := h5) (List.forall_mem_nil _) (by kernel_rfl) c5
def e6 : Ent AW := ⟨56, [lv 9, li], [([li], [])], fun (t : ((List RChunk) × Int)) => laws_szChunkS t.1 t.2⟩
theorem c6 (t : ((List RChunk) × Int)) : sxFn (A := AW) [e5] h6 e6.args e6.res t = e6.fn t := by kernel_rfl
theorem o6 (n : Nat) : EntOK TabW (callN TbW (n + 6 + 1)) e6 := ent_ok tabOK (E := [e5]) (F := h6) (List.forall_mem_cons.2 ⟨(show EntOK TabW (callN TbW (n + 6)) e5 from o5 (n + 0)), List.forall_mem_nil _⟩) (by kernel_rfl) c6
def e7 : Ent AW := ⟨51, [.row 11 .v, li], [([li], [])], fun (t : (RPgState × Int)) => laws_szPgState t.1 t.2⟩
theorem c7 (t : (RPgState × Int)) : sxFn (A := AW) [e1, e2, e4, e6] h7 e7.args e7.res t = e7.fn t := by kernel_rfl
theorem o7 (n : Nat) : EntOK TabW (callN TbW (n + 7 + 1)) e7 := ent_ok tabOK (E := [e1, e2, e4, e6]) (F := h7) (List.forall_mem_cons.2 ⟨(show EntOK TabW (callN TbW (n + 7)) e1 from o1 (n + 5)), List.forall_mem_cons.2 ⟨(show EntOK TabW (callN TbW (n + 7)) e2 from o2 (n + 4)), List.forall_mem_cons.2 ⟨(show EntOK TabW (callN TbW (n + 7)) e4 from o4 (n + 2)), List.forall_mem_cons.2 ⟨(show EntOK TabW (callN TbW (n + 7)) e6 from o6 (n + 0)), List.forall_mem_nil _⟩⟩⟩⟩) (by kernel_rfl) c7
def e8 : Ent AW := ⟨26, [lv 11, li], [([li], [])], fun (t : ((List RPgState) × Int)) => laws_szPgStateS t.1 t.2⟩
theorem c8 (t : ((List RPgState) × Int)) : sxFn (A := AW) [e7] h8 e8.args e8.res t = e8.fn t := by kernel_rfl
theorem o8 (n : Nat) : EntOK TabW (callN TbW (n + 8 + 1)) e8 := ent_ok tabOK (E := [e7]) (F := h8) (List.forall_mem_cons.2 ⟨(show EntOK TabW (callN TbW (n + 8)) e7 from o7 (n + 0)), List.forall_mem_nil _⟩) (by kernel_rfl) c8
def e9 : Ent AW := ⟨9, [.row 13 .v, li], [([li], [])], fun (t : (RStore × Int)) => laws_szStore t.1 t.2⟩
theorem c9 (t : (RStore × Int)) : sxFn (A := AW) [e8] h9 e9.args e9.res t = e9.fn t := by kernel_rfl
theorem o9 (n : Nat) : EntOK TabW (callN TbW (n + 9 + 1)) e9 := ent_ok tabOK (E := [e8]) (F := h9) (List.forall_mem_cons.2 ⟨(show EntOK TabW (callN TbW (n + 9)) e8 from o8 (n + 0)), List.forall_mem_nil _⟩) (by kernel_rfl) c9
def e10 : Ent AW := ⟨52, [lv 14, li], [([li], [])], fun (t : ((List Int) × Int)) => laws_szInt64S t.1 t.2⟩
theorem c10 (t : ((List Int) × Int)) : sxFn (A := AW) [] h10 e10.args e10.res t = e10.fn t := by kernel_rfl
theorem o10 (n : Nat) : EntOK TabW (callN TbW (n + 10 + 1)) e10 := ent_ok tabOK (E := []) (F := h10) (List.forall_mem_nil _) (by kernel_rfl) c10
def e11 : Ent AW := ⟨102, [.row 15 .v, li], [([li], [])], fun (t : (RInterval × Int)) => laws_szInterval t.1 t.2⟩
theorem c11 (t : (RInterval × Int)) : sxFn (A := AW) [e10] h11 e11.args e11.res t = e11.fn t := by kernel_rfl
theorem o11 (n : Nat) : EntOK TabW (callN TbW (n + 11 + 1)) e11 := ent_ok tabOK (E := [e10]) (F := h11) (List.forall_mem_cons.2 ⟨(show EntOK TabW (callN TbW (n + 11)) e10 from o10 (n + 0)), List.forall_mem_nil _⟩) (by kernel_rfl) c11
def e12 : Ent AW := ⟨53, [lv 15, li], [([li], [])], fun (t : ((List RInterval) × Int)) => laws_szIntervalS t.1 t.2⟩
theorem c12 (t : ((List RInterval) × Int)) : sxFn (A := AW) [e11] h12 e12.args e12.res t = e12.fn t := by kernel_rfl
theorem o12 (n : Nat) : EntOK TabW (callN TbW (n + 12 + 1)) e12 := ent_ok tabOK (E := [e11]) (F := h12) (List.forall_mem_cons.2 ⟨(show EntOK TabW (callN TbW (n + 12)) e11 from o11 (n + 0)), List.forall_mem_nil _⟩) (by kernel_rfl) c12
def e13 : Ent AW := ⟨103, [.row 16 .v, li], [([li], [])], fun (t : (RNotice × Int)) => laws_szNotice t.1 t.2⟩
theorem c13 (t : (RNotice × Int)) : sxFn (A := AW) [e7] h13 e13.args e13.res t = e13.fn t := by kernel_rfl
theorem o13 (n : Nat) : EntOK TabW (callN TbW (n + 13 + 1)) e13 := ent_ok tabOK (E := [e7]) (F := h13) (List.forall_mem_cons.2 ⟨(show EntOK TabW (callN TbW (n + 13)) e7 from o7 (n + 5)), List.forall_mem_nil _⟩) (by kernel_rfl) c13
def e14 : Ent AW := ⟨54, [lv 16, li], [([li], [])], fun (t : ((List RNotice) × Int)) => laws_szNoticeS t.1 t.2⟩
theorem c14 (t : ((List RNotice) × Int)) : sxFn (A := AW) [e13] h14 e14.args e14.res t = e14.fn t := by kernel_rfl
theorem o14 (n : Nat) : EntOK TabW (callN TbW (n + 14 + 1)) e14 := ent_ok tabOK (E := [e13]) (F := h14) (List.forall_mem_cons.2 ⟨(show EntOK TabW (callN TbW (n + 14)) e13 from o13 (n + 0)), List.forall_mem_nil _⟩) (by kernel_rfl) c14
def e15 : Ent AW := ⟨104, [.row 17 .v, li], [([li], [])], fun (t : (RFill × Int)) => laws_szFill t.1 t.2⟩
theorem c15 (t : (RFill × Int)) : sxFn (A := AW) [e0] h15 e15.args e15.res t = e15.fn t := by kernel_rfl
theorem o15 (n : Nat) : EntOK TabW (callN TbW (n + 15 + 1)) e15 := ent_ok tabOK (E := [e0]) (F := h15) (List.forall_mem_cons.2 ⟨(show EntOK TabW (callN TbW (n + 15)) e0 from o0 (n + 14)), List.forall_mem_nil _⟩) (by kernel_rfl) c15
def e16 : Ent AW := ⟨55, [lv 17, li], [([li], [])], fun (t : ((List RFill) × Int)) => laws_szFillS t.1 t.2⟩
theorem c16 (t : ((List RFill) × Int)) : sxFn (A := AW) [e15] h16 e16.args e16.res t = e16.fn t := by kernel_rfl
theorem o16 (n : Nat) : EntOK TabW (callN TbW (n + 16 + 1)) e16 := ent_ok tabOK (E := [e15]) (F := h16) (List.forall_mem_cons.2 ⟨(show EntOK TabW (callN TbW (n + 16)) e15 from o15 (n + 0)), List.forall_mem_nil _⟩) (by kernel_rfl) c16
def e17 : Ent AW := ⟨128, [.row 18 .v, li], [([li], [])], fun (t : (RWay × Int)) => laws_szWay t.1 t.2⟩
theorem c17 (t : (RWay × Int)) : sxFn (A := AW) [e3] h17 e17.args e17.res t = e17.fn t := by kernel_rfl
theorem o17 (n : Nat) : EntOK TabW (callN TbW (n + 17 + 1)) e17 := ent_ok tabOK (E := [e3]) (F := h17) (List.forall_mem_cons.2 ⟨(show EntOK TabW (callN TbW (n + 17)) e3 from o3 (n + 13)), List.forall_mem_nil _⟩) (by kernel_rfl) c17
def e18 : Ent AW := ⟨105, [lv 18, li], [([li], [])], fun (t : ((List RWay) × Int)) => laws_szWayS t.1 t.2⟩
theorem c18 (t : ((List RWay) × Int)) : sxFn (A := AW) [e17] h18 e18.args e18.res t = e18.fn t := by kernel_rfl
theorem o18 (n : Nat) : EntOK TabW (callN TbW (n + 18 + 1)) e18 := ent_ok tabOK (E := [e17]) (F := h18) (List.forall_mem_cons.2 ⟨(show EntOK TabW (callN TbW (n + 18)) e17 from o17 (n + 0)), List.forall_mem_nil _⟩) (by kernel_rfl) c18
def e19 : Ent AW := ⟨106, [lv 19, li], [([li], [])], fun (t : ((List RAck) × Int)) => laws_szAckS t.1 t.2⟩
theorem c19 (t : ((List RAck) × Int)) : sxFn (A := AW) [] h19 e19.args e19.res t = e19.fn t := by kernel_rfl
theorem o19 (n : Nat) : EntOK TabW (callN TbW (n + 19 + 1)) e19 := ent_ok tabOK (E := []) (F := h19) (List.forall_mem_nil _) (by kernel_rfl) c19
def e20 : Ent AW := ⟨143, [.row 20 .v, li], [([li], [])], fun (t : (RGot × Int)) => laws_szGot t.1 t.2⟩
theorem c20 (t : (RGot × Int)) : sxFn (A := AW) [e3, e5] h20 e20.args e20.res t = e20.fn t := by kernel_rfl
theorem o20 (n : Nat) : EntOK TabW (callN TbW (n + 20 + 1)) e20 := ent_ok tabOK (E := [e3, e5]) (F := h20) (List.forall_mem_cons.2 ⟨(show EntOK TabW (callN TbW (n + 20)) e3 from o3 (n + 16)), List.forall_mem_cons.2 ⟨(show EntOK TabW (callN TbW (n + 20)) e5 from o5 (n + 14)), List.forall_mem_nil _⟩⟩) (by kernel_rfl) c20
def e21 : Ent AW := ⟨140, [lv 20, li], [([li], [])], fun (t : ((List RGot) × Int)) => laws_szGotS t.1 t.2⟩
theorem c21 (t : ((List RGot) × Int)) : sxFn (A := AW) [e20] h21 e21.args e21.res t = e21.fn t := by kernel_rfl
theorem o21 (n : Nat) : EntOK TabW (callN TbW (n + 21 + 1)) e21 := ent_ok tabOK (E := [e20]) (F := h21) (List.forall_mem_cons.2 ⟨(show EntOK TabW (callN TbW (n + 21)) e20 from o20 (n + 0)), List.forall_mem_nil _⟩) (by kernel_rfl) c21
def e22 : Ent AW := ⟨129, [.row 21 .v, li], [([li], [])], fun (t : (RWait × Int)) => laws_szWait t.1 t.2⟩
theorem c22 (t : (RWait × Int)) : sxFn (A := AW) [e21] h22 e22.args e22.res t = e22.fn t := by kernel_rfl
theorem o22 (n : Nat) : EntOK TabW (callN TbW (n + 22 + 1)) e22 := ent_ok tabOK (E := [e21]) (F := h22) (List.forall_mem_cons.2 ⟨(show EntOK TabW (callN TbW (n + 22)) e21 from o21 (n + 0)), List.forall_mem_nil _⟩) (by kernel_rfl) c22
def e23 : Ent AW := ⟨107, [lv 21, li], [([li], [])], fun (t : ((List RWait) × Int)) => laws_szWaitS t.1 t.2⟩
theorem c23 (t : ((List RWait) × Int)) : sxFn (A := AW) [e22] h23 e23.args e23.res t = e23.fn t := by kernel_rfl
theorem o23 (n : Nat) : EntOK TabW (callN TbW (n + 23 + 1)) e23 := ent_ok tabOK (E := [e22]) (F := h23) (List.forall_mem_cons.2 ⟨(show EntOK TabW (callN TbW (n + 23)) e22 from o22 (n + 0)), List.forall_mem_nil _⟩) (by kernel_rfl) c23
def e24 : Ent AW := ⟨57, [.row 23 .v, li], [([li], [])], fun (t : (RLine × Int)) => laws_szLine t.1 t.2⟩
theorem c24 (t : (RLine × Int)) : sxFn (A := AW) [e7, e10, e18, e19, e23] h24 e24.args e24.res t = e24.fn t := by kernel_rfl
theorem o24 (n : Nat) : EntOK TabW (callN TbW (n + 24 + 1)) e24 := ent_ok tabOK (E := [e7, e10, e18, e19, e23]) (F := h24) (List.forall_mem_cons.2 ⟨(show EntOK TabW (callN TbW (n + 24)) e7 from o7 (n + 16)), List.forall_mem_cons.2 ⟨(show EntOK TabW (callN TbW (n + 24)) e10 from o10 (n + 13)), List.forall_mem_cons.2 ⟨(show EntOK TabW (callN TbW (n + 24)) e18 from o18 (n + 5)), List.forall_mem_cons.2 ⟨(show EntOK TabW (callN TbW (n + 24)) e19 from o19 (n + 4)), List.forall_mem_cons.2 ⟨(show EntOK TabW (callN TbW (n + 24)) e23 from o23 (n + 0)), List.forall_mem_nil _⟩⟩⟩⟩⟩) (by kernel_rfl) c24
def e25 : Ent AW := ⟨27, [.row 24 .v, li], [([li], [])], fun (t : (RLead × Int)) => laws_szLead t.1 t.2⟩
theorem c25 (t : (RLead × Int)) : sxFn (A := AW) [e6, e7, e10, e12, e14, e16, e24] h25 e25.args e25.res t = e25.fn t := by kernel_rfl
theorem o25 (n : Nat) : EntOK TabW (callN TbW (n + 25 + 1)) e25 := ent_ok tabOK (E := [e6, e7, e10, e12, e14, e16, e24]) (F := h25) (List.forall_mem_cons.2 ⟨(show EntOK TabW (callN TbW (n + 25)) e6 from o6 (n + 18)), List.forall_mem_cons.2 ⟨(show EntOK TabW (callN TbW (n + 25)) e7 from o7 (n + 17)), List.forall_mem_cons.2 ⟨(show EntOK TabW (callN TbW (n + 25)) e10 from o10 (n + 14)), List.forall_mem_cons.2 ⟨(show EntOK TabW (callN TbW (n + 25)) e12 from o12 (n + 12)), List.forall_mem_cons.2 ⟨(show EntOK TabW (callN TbW (n + 25)) e14 from o14 (n + 10)), List.forall_mem_cons.2 ⟨(show EntOK TabW (callN TbW (n + 25)) e16 from o16 (n + 8)), List.forall_mem_cons.2 ⟨(show EntOK TabW (callN TbW (n + 25)) e24 from o24 (n + 0)), List.forall_mem_nil _⟩⟩⟩⟩⟩⟩⟩) (by kernel_rfl) c25
def e26 : Ent AW := ⟨10, [lv 24, li], [([li], [])], fun (t : ((List RLead) × Int)) => laws_szLeadS t.1 t.2⟩
theorem c26 (t : ((List RLead) × Int)) : sxFn (A := AW) [e25] h26 e26.args e26.res t = e26.fn t := by kernel_rfl
theorem o26 (n : Nat) : EntOK TabW (callN TbW (n + 26 + 1)) e26 := ent_ok tabOK (E := [e25]) (F := h26) (List.forall_mem_cons.2 ⟨(show EntOK TabW (callN TbW (n + 26)) e25 from o25 (n + 0)), List.forall_mem_nil _⟩) (by kernel_rfl) c26
def e27 : Ent AW := ⟨60, [.row 25 .v, li], [([li], [])], fun (t : (ROp × Int)) => laws_szOp t.1 t.2⟩
theorem c27 (t : (ROp × Int)) : sxFn (A := AW) [] h27 e27.args e27.res t = e27.fn t := by kernel_rfl
theorem o27 (n : Nat) : EntOK TabW (callN TbW (n + 27 + 1)) e27 := ent_ok tabOK (E := []) (F := h27) (List.forall_mem_nil _) (by kernel_rfl) c27
def e28 : Ent AW := ⟨28, [.row 26 .v, li], [([li], [])], fun (t : (RMsg × Int)) => laws_szMsg t.1 t.2⟩
theorem c28 (t : (RMsg × Int)) : sxFn (A := AW) [e3, e5, e7, e27] h28 e28.args e28.res t = e28.fn t := by kernel_rfl
theorem o28 (n : Nat) : EntOK TabW (callN TbW (n + 28 + 1)) e28 := ent_ok tabOK (E := [e3, e5, e7, e27]) (F := h28) (List.forall_mem_cons.2 ⟨(show EntOK TabW (callN TbW (n + 28)) e3 from o3 (n + 24)), List.forall_mem_cons.2 ⟨(show EntOK TabW (callN TbW (n + 28)) e5 from o5 (n + 22)), List.forall_mem_cons.2 ⟨(show EntOK TabW (callN TbW (n + 28)) e7 from o7 (n + 20)), List.forall_mem_cons.2 ⟨(show EntOK TabW (callN TbW (n + 28)) e27 from o27 (n + 0)), List.forall_mem_nil _⟩⟩⟩⟩) (by kernel_rfl) c28
def e29 : Ent AW := ⟨11, [lv 26, li], [([li], [])], fun (t : ((List RMsg) × Int)) => laws_szMsgS t.1 t.2⟩
theorem c29 (t : ((List RMsg) × Int)) : sxFn (A := AW) [e28] h29 e29.args e29.res t = e29.fn t := by kernel_rfl
theorem o29 (n : Nat) : EntOK TabW (callN TbW (n + 29 + 1)) e29 := ent_ok tabOK (E := [e28]) (F := h29) (List.forall_mem_cons.2 ⟨(show EntOK TabW (callN TbW (n + 29)) e28 from o28 (n + 0)), List.forall_mem_nil _⟩) (by kernel_rfl) c29
def e30 : Ent AW := ⟨4, [.row 28 .v, li], [([li], [])], fun (t : (RServer × Int)) => laws_szServer t.1 t.2⟩
theorem c30 (t : (RServer × Int)) : sxFn (A := AW) [e9, e26, e29] h30 e30.args e30.res t = e30.fn t := by kernel_rfl
theorem o30 (n : Nat) : EntOK TabW (callN TbW (n + 30 + 1)) e30 := ent_ok tabOK (E := [e9, e26, e29]) (F := h30) (List.forall_mem_cons.2 ⟨(show EntOK TabW (callN TbW (n + 30)) e9 from o9 (n + 20)), List.forall_mem_cons.2 ⟨(show EntOK TabW (callN TbW (n + 30)) e26 from o26 (n + 3)), List.forall_mem_cons.2 ⟨(show EntOK TabW (callN TbW (n + 30)) e29 from o29 (n + 0)), List.forall_mem_nil _⟩⟩⟩) (by kernel_rfl) c30
def e31 : Ent AW := ⟨64, [.row 10 .v], [([.row 10 .v], [])], fun (t : RPg) => laws_toPg t⟩
theorem c31 (t : RPg) : sxFn (A := AW) [] h31 e31.args e31.res t = e31.fn t := by kernel_rfl
theorem o31 (n : Nat) : EntOK TabW (callN TbW (n + 31 + 1)) e31 := ent_ok tabOK (E := []) (F := h31) (List.forall_mem_nil _) (by kernel_rfl) c31
def e32 : Ent AW := ⟨72, [.row 4 .v], [([.row 4 .v], [])], fun (t : RVer) => laws_toVer t⟩
theorem c32 (t : RVer) : sxFn (A := AW) [] h32 e32.args e32.res t = e32.fn t := by kernel_rfl
theorem o32 (n : Nat) : EntOK TabW (callN TbW (n + 32 + 1)) e32 := ent_ok tabOK (E := []) (F := h32) (List.forall_mem_nil _) (by kernel_rfl) c32
def e33 : Ent AW := ⟨130, [.row 5 .v], [([.row 5 .v], [])], fun (t : RHead) => laws_toHead t⟩
theorem c33 (t : RHead) : sxFn (A := AW) [e32] h33 e33.args e33.res t = e33.fn t := by kernel_rfl
theorem o33 (n : Nat) : EntOK TabW (callN TbW (n + 33 + 1)) e33 := ent_ok tabOK (E := [e32]) (F := h33) (List.forall_mem_cons.2 ⟨(show EntOK TabW (callN TbW (n + 33)) e32 from o32 (n + 0)), List.forall_mem_nil _⟩) (by kernel_rfl) c33
def e34 : Ent AW := ⟨108, [lv 5], [([.leaf (.sl true 5 .v)], [])], fun (t : (List RHead)) => laws_toHeadS t⟩
theorem c34 (t : (List RHead)) : sxFn (A := AW) [e33] h34 e34.args e34.res t = e34.fn t := by kernel_rfl
theorem o34 (n : Nat) : EntOK TabW (callN TbW (n + 34 + 1)) e34 := ent_ok tabOK (E := [e33]) (F := h34) (List.forall_mem_cons.2 ⟨(show EntOK TabW (callN TbW (n + 34)) e33 from o33 (n + 0)), List.forall_mem_nil _⟩) (by kernel_rfl) c34
def e35 : Ent AW := ⟨131, [.row 6 .v], [([.row 6 .v], [])], fun (t : RLast) => laws_toLast t⟩
theorem c35 (t : RLast) : sxFn (A := AW) [e32] h35 e35.args e35.res t = e35.fn t := by kernel_rfl
theorem o35 (n : Nat) : EntOK TabW (callN TbW (n + 35 + 1)) e35 := ent_ok tabOK (E := [e32]) (F := h35) (List.forall_mem_cons.2 ⟨(show EntOK TabW (callN TbW (n + 35)) e32 from o32 (n + 2)), List.forall_mem_nil _⟩) (by kernel_rfl) c35
def e36 : Ent AW := ⟨109, [lv 6], [([.leaf (.sl true 6 .v)], [])], fun (t : (List RLast)) => laws_toLastS t⟩
theorem c36 (t : (List RLast)) : sxFn (A := AW) [e35] h36 e36.args e36.res t = e36.fn t := by kernel_rfl
theorem o36 (n : Nat) : EntOK TabW (callN TbW (n + 36 + 1)) e36 := ent_ok tabOK (E := [e35]) (F := h36) (List.forall_mem_cons.2 ⟨(show EntOK TabW (callN TbW (n + 36)) e35 from o35 (n + 0)), List.forall_mem_nil _⟩) (by kernel_rfl) c36
def e37 : Ent AW := ⟨76, [.row 7 .v], [([.row 7 .v], [])], fun (t : RReq) => laws_toReq t⟩
theorem c37 (t : RReq) : sxFn (A := AW) [] h37 e37.args e37.res t = e37.fn t := by kernel_rfl
theorem o37 (n : Nat) : EntOK TabW (callN TbW (n + 37 + 1)) e37 := ent_ok tabOK (E := []) (F := h37) (List.forall_mem_nil _) (by kernel_rfl) c37
def e38 : Ent AW := ⟨73, [.row 8 .v], [([.row 8 .v], [])], fun (t : REntry) => laws_toEntry t⟩
theorem c38 (t : REntry) : sxFn (A := AW) [e32, e37] h38 e38.args e38.res t = e38.fn t := by kernel_rfl
theorem o38 (n : Nat) : EntOK TabW (callN TbW (n + 38 + 1)) e38 := ent_ok tabOK (E := [e32, e37]) (F := h38) (List.forall_mem_cons.2 ⟨(show EntOK TabW (callN TbW (n + 38)) e32 from o32 (n + 5)), List.forall_mem_cons.2 ⟨(show EntOK TabW (callN TbW (n + 38)) e37 from o37 (n + 0)), List.forall_mem_nil _⟩⟩) (by kernel_rfl) c38
def e39 : Ent AW := ⟨110, [lv 8], [([.leaf (.sl true 8 .v)], [])], fun (t : (List REntry)) => laws_toEntryS t⟩
theorem c39 (t : (List REntry)) : sxFn (A := AW) [e38] h39 e39.args e39.res t = e39.fn t := by kernel_rfl
theorem o39 (n : Nat) : EntOK TabW (callN TbW (n + 39 + 1)) e39 := ent_ok tabOK (E := [e38]) (F := h39) (List.forall_mem_cons.2 ⟨(show EntOK TabW (callN TbW (n + 39)) e38 from o38 (n + 0)), List.forall_mem_nil _⟩) (by kernel_rfl) c39
def e40 : Ent AW := ⟨74, [.row 9 .v], [([.row 9 .v], [])], fun (t : RChunk) => laws_toChunk t⟩
theorem c40 (t : RChunk) : sxFn (A := AW) [e32] h40 e40.args e40.res t = e40.fn t := by kernel_rfl
theorem o40 (n : Nat) : EntOK TabW (callN TbW (n + 40 + 1)) e40 := ent_ok tabOK (E := [e32]) (F := h40) (List.forall_mem_cons.2 ⟨(show EntOK TabW (callN TbW (n + 40)) e32 from o32 (n + 7)), List.forall_mem_nil _⟩) (by kernel_rfl) c40
def e41 : Ent AW := ⟨70, [lv 9], [([.leaf (.sl true 9 .v)], [])], fun (t : (List RChunk)) => laws_toChunkS t⟩
theorem c41 (t : (List RChunk)) : sxFn (A := AW) [e40] h41 e41.args e41.res t = e41.fn t := by kernel_rfl
theorem o41 (n : Nat) : EntOK TabW (callN TbW (n + 41 + 1)) e41 := ent_ok tabOK (E := [e40]) (F := h41) (List.forall_mem_cons.2 ⟨(show EntOK TabW (callN TbW (n + 41)) e40 from o40 (n + 0)), List.forall_mem_nil _⟩) (by kernel_rfl) c41
def e42 : Ent AW := ⟨63, [.row 11 .v], [([.row 11 .o], [])], fun (t : RPgState) => laws_toPgState t⟩
theorem c42 (t : RPgState) : sxFn (A := AW) [e31, e32, e34, e36, e39, e41] h42 e42.args e42.res t = e42.fn t := by kernel_rfl
theorem o42 (n : Nat) : EntOK TabW (callN TbW (n + 42 + 1)) e42 := ent_ok tabOK (E := [e31, e32, e34, e36, e39, e41]) (F := h42) (List.forall_mem_cons.2 ⟨(show EntOK TabW (callN TbW (n + 42)) e31 from o31 (n + 10)), List.forall_mem_cons.2 ⟨(show EntOK TabW (callN TbW (n + 42)) e32 from o32 (n + 9)), List.forall_mem_cons.2 ⟨(show EntOK TabW (callN TbW (n + 42)) e34 from o34 (n + 7)), List.forall_mem_cons.2 ⟨(show EntOK TabW (callN TbW (n + 42)) e36 from o36 (n + 5)), List.forall_mem_cons.2 ⟨(show EntOK TabW (callN TbW (n + 42)) e39 from o39 (n + 2)), List.forall_mem_cons.2 ⟨(show EntOK TabW (callN TbW (n + 42)) e41 from o41 (n + 0)), List.forall_mem_nil _⟩⟩⟩⟩⟩⟩) (by kernel_rfl) c42
def e43 : Ent AW := ⟨35, [lv 11], [([.leaf (.sl true 11 .o)], [])], fun (t : (List RPgState)) => laws_toPgStateS t⟩
theorem c43 (t : (List RPgState)) : sxFn (A := AW) [e42] h43 e43.args e43.res t = e43.fn t := by kernel_rfl
theorem o43 (n : Nat) : EntOK TabW (callN TbW (n + 43 + 1)) e43 := ent_ok tabOK (E := [e42]) (F := h43) (List.forall_mem_cons.2 ⟨(show EntOK TabW (callN TbW (n + 43)) e42 from o42 (n + 0)), List.forall_mem_nil _⟩) (by kernel_rfl) c43
def e44 : Ent AW := ⟨15, [.row 13 .v], [([.row 13 .o], [])], fun (t : RStore) => laws_toStore t⟩
theorem c44 (t : RStore) : sxFn (A := AW) [e43] h44 e44.args e44.res t = e44.fn t := by kernel_rfl
theorem o44 (n : Nat) : EntOK TabW (callN TbW (n + 44 + 1)) e44 := ent_ok tabOK (E := [e43]) (F := h44) (List.forall_mem_cons.2 ⟨(show EntOK TabW (callN TbW (n + 44)) e43 from o43 (n + 0)), List.forall_mem_nil _⟩) (by kernel_rfl) c44
def e45 : Ent AW := ⟨65, [.row 22 .v], [([.row 22 .v], [])], fun (t : RCode) => laws_toCode t⟩
theorem c45 (t : RCode) : sxFn (A := AW) [] h45 e45.args e45.res t = e45.fn t := by kernel_rfl
theorem o45 (n : Nat) : EntOK TabW (callN TbW (n + 45 + 1)) e45 := ent_ok tabOK (E := []) (F := h45) (List.forall_mem_nil _) (by kernel_rfl) c45
def e46 : Ent AW := ⟨66, [lv 14], [([.leaf (.sl true 14 .v)], [])], fun (t : (List Int)) => laws_toInt64S t⟩
theorem c46 (t : (List Int)) : sxFn (A := AW) [] h46 e46.args e46.res t = e46.fn t := by kernel_rfl
theorem o46 (n : Nat) : EntOK TabW (callN TbW (n + 46 + 1)) e46 := ent_ok tabOK (E := []) (F := h46) (List.forall_mem_nil _) (by kernel_rfl) c46
def e47 : Ent AW := ⟨111, [.row 15 .v], [([.row 15 .o], [])], fun (t : RInterval) => laws_toInterval t⟩
theorem c47 (t : RInterval) : sxFn (A := AW) [e46] h47 e47.args e47.res t = e47.fn t := by kernel_rfl
theorem o47 (n : Nat) : EntOK TabW (callN TbW (n + 47 + 1)) e47 := ent_ok tabOK (E := [e46]) (F := h47) (List.forall_mem_cons.2 ⟨(show EntOK TabW (callN TbW (n + 47)) e46 from o46 (n + 0)), List.forall_mem_nil _⟩) (by kernel_rfl) c47
def e48 : Ent AW := ⟨67, [lv 15], [([.leaf (.sl true 15 .o)], [])], fun (t : (List RInterval)) => laws_toIntervalS t⟩
theorem c48 (t : (List RInterval)) : sxFn (A := AW) [e47] h48 e48.args e48.res t = e48.fn t := by kernel_rfl
theorem o48 (n : Nat) : EntOK TabW (callN TbW (n + 48 + 1)) e48 := ent_ok tabOK (E := [e47]) (F := h48) (List.forall_mem_cons.2 ⟨(show EntOK TabW (callN TbW (n + 48)) e47 from o47 (n + 0)), List.forall_mem_nil _⟩) (by kernel_rfl) c48
def e49 : Ent AW := ⟨112, [.row 16 .v], [([.row 16 .o], [])], fun (t : RNotice) => laws_toNotice t⟩
theorem c49 (t : RNotice) : sxFn (A := AW) [e42] h49 e49.args e49.res t = e49.fn t := by kernel_rfl
theorem o49 (n : Nat) : EntOK TabW (callN TbW (n + 49 + 1)) e49 := ent_ok tabOK (E := [e42]) (F := h49) (List.forall_mem_cons.2 ⟨(show EntOK TabW (callN TbW (n + 49)) e42 from o42 (n + 6)), List.forall_mem_nil _⟩) (by kernel_rfl) c49
def e50 : Ent AW := ⟨68, [lv 16], [([.leaf (.sl true 16 .o)], [])], fun (t : (List RNotice)) => laws_toNoticeS t⟩
theorem c50 (t : (List RNotice)) : sxFn (A := AW) [e49] h50 e50.args e50.res t = e50.fn t := by kernel_rfl
theorem o50 (n : Nat) : EntOK TabW (callN TbW (n + 50 + 1)) e50 := ent_ok tabOK (E := [e49]) (F := h50) (List.forall_mem_cons.2 ⟨(show EntOK TabW (callN TbW (n + 50)) e49 from o49 (n + 0)), List.forall_mem_nil _⟩) (by kernel_rfl) c50
def e51 : Ent AW := ⟨113, [.row 17 .v], [([.row 17 .v], [])], fun (t : RFill) => laws_toFill t⟩
theorem c51 (t : RFill) : sxFn (A := AW) [e33] h51 e51.args e51.res t = e51.fn t := by kernel_rfl
theorem o51 (n : Nat) : EntOK TabW (callN TbW (n + 51 + 1)) e51 := ent_ok tabOK (E := [e33]) (F := h51) (List.forall_mem_cons.2 ⟨(show EntOK TabW (callN TbW (n + 51)) e33 from o33 (n + 17)), List.forall_mem_nil _⟩) (by kernel_rfl) c51
def e52 : Ent AW := ⟨69, [lv 17], [([.leaf (.sl true 17 .v)], [])], fun (t : (List RFill)) => laws_toFillS t⟩
theorem c52 (t : (List RFill)) : sxFn (A := AW) [e51] h52 e52.args e52.res t = e52.fn t := by kernel_rfl
theorem o52 (n : Nat) : EntOK TabW (callN TbW (n + 52 + 1)) e52 := ent_ok tabOK (E := [e51]) (F := h52) (List.forall_mem_cons.2 ⟨(show EntOK TabW (callN TbW (n + 52)) e51 from o51 (n + 0)), List.forall_mem_nil _⟩) (by kernel_rfl) c52
def e53 : Ent AW := ⟨132, [.row 18 .v], [([.row 18 .v], [])], fun (t : RWay) => laws_toWay t⟩
theorem c53 (t : RWay) : sxFn (A := AW) [e38] h53 e53.args e53.res t = e53.fn t := by kernel_rfl
theorem o53 (n : Nat) : EntOK TabW (callN TbW (n + 53 + 1)) e53 := ent_ok tabOK (E := [e38]) (F := h53) (List.forall_mem_cons.2 ⟨(show EntOK TabW (callN TbW (n + 53)) e38 from o38 (n + 14)), List.forall_mem_nil _⟩) (by kernel_rfl) c53
def e54 : Ent AW := ⟨114, [lv 18], [([.leaf (.sl true 18 .v)], [])], fun (t : (List RWay)) => laws_toWayS t⟩
theorem c54 (t : (List RWay)) : sxFn (A := AW) [e53] h54 e54.args e54.res t = e54.fn t := by kernel_rfl
theorem o54 (n : Nat) : EntOK TabW (callN TbW (n + 54 + 1)) e54 := ent_ok tabOK (E := [e53]) (F := h54) (List.forall_mem_cons.2 ⟨(show EntOK TabW (callN TbW (n + 54)) e53 from o53 (n + 0)), List.forall_mem_nil _⟩) (by kernel_rfl) c54
def e55 : Ent AW := ⟨133, [.row 19 .v], [([.row 19 .v], [])], fun (t : RAck) => laws_toAck t⟩
theorem c55 (t : RAck) : sxFn (A := AW) [e32] h55 e55.args e55.res t = e55.fn t := by kernel_rfl
theorem o55 (n : Nat) : EntOK TabW (callN TbW (n + 55 + 1)) e55 := ent_ok tabOK (E := [e32]) (F := h55) (List.forall_mem_cons.2 ⟨(show EntOK TabW (callN TbW (n + 55)) e32 from o32 (n + 22)), List.forall_mem_nil _⟩) (by kernel_rfl) c55
def e56 : Ent AW := ⟨115, [lv 19], [([.leaf (.sl true 19 .v)], [])], fun (t : (List RAck)) => laws_toAckS t⟩
theorem c56 (t : (List RAck)) : sxFn (A := AW) [e55] h56 e56.args e56.res t = e56.fn t := by kernel_rfl
theorem o56 (n : Nat) : EntOK TabW (callN TbW (n + 56 + 1)) e56 := ent_ok tabOK (E := [e55]) (F := h56) (List.forall_mem_cons.2 ⟨(show EntOK TabW (callN TbW (n + 56)) e55 from o55 (n + 0)), List.forall_mem_nil _⟩) (by kernel_rfl) c56
def e57 : Ent AW := ⟨144, [.row 20 .v], [([.row 20 .v], [])], fun (t : RGot) => laws_toGot t⟩
theorem c57 (t : RGot) : sxFn (A := AW) [e38, e40] h57 e57.args e57.res t = e57.fn t := by kernel_rfl
theorem o57 (n : Nat) : EntOK TabW (callN TbW (n + 57 + 1)) e57 := ent_ok tabOK (E := [e38, e40]) (F := h57) (List.forall_mem_cons.2 ⟨(show EntOK TabW (callN TbW (n + 57)) e38 from o38 (n + 18)), List.forall_mem_cons.2 ⟨(show EntOK TabW (callN TbW (n + 57)) e40 from o40 (n + 16)), List.forall_mem_nil _⟩⟩) (by kernel_rfl) c57
def e58 : Ent AW := ⟨141, [lv 20], [([.leaf (.sl true 20 .v)], [])], fun (t : (List RGot)) => laws_toGotS t⟩
theorem c58 (t : (List RGot)) : sxFn (A := AW) [e57] h58 e58.args e58.res t = e58.fn t := by kernel_rfl
theorem o58 (n : Nat) : EntOK TabW (callN TbW (n + 58 + 1)) e58 := ent_ok tabOK (E := [e57]) (F := h58) (List.forall_mem_cons.2 ⟨(show EntOK TabW (callN TbW (n + 58)) e57 from o57 (n + 0)), List.forall_mem_nil _⟩) (by kernel_rfl) c58
def e59 : Ent AW := ⟨134, [.row 21 .v], [([.row 21 .o], [])], fun (t : RWait) => laws_toWait t⟩
theorem c59 (t : RWait) : sxFn (A := AW) [e32, e37, e58] h59 e59.args e59.res t = e59.fn t := by kernel_rfl
theorem o59 (n : Nat) : EntOK TabW (callN TbW (n + 59 + 1)) e59 := ent_ok tabOK (E := [e32, e37, e58]) (F := h59) (List.forall_mem_cons.2 ⟨(show EntOK TabW (callN TbW (n + 59)) e32 from o32 (n + 26)), List.forall_mem_cons.2 ⟨(show EntOK TabW (callN TbW (n + 59)) e37 from o37 (n + 21)), List.forall_mem_cons.2 ⟨(show EntOK TabW (callN TbW (n + 59)) e58 from o58 (n + 0)), List.forall_mem_nil _⟩⟩⟩) (by kernel_rfl) c59
def e60 : Ent AW := ⟨116, [lv 21], [([.leaf (.sl true 21 .o)], [])], fun (t : (List RWait)) => laws_toWaitS t⟩
theorem c60 (t : (List RWait)) : sxFn (A := AW) [e59] h60 e60.args e60.res t = e60.fn t := by kernel_rfl
theorem o60 (n : Nat) : EntOK TabW (callN TbW (n + 60 + 1)) e60 := ent_ok tabOK (E := [e59]) (F := h60) (List.forall_mem_cons.2 ⟨(show EntOK TabW (callN TbW (n + 60)) e59 from o59 (n + 0)), List.forall_mem_nil _⟩) (by kernel_rfl) c60
def e61 : Ent AW := ⟨71, [.row 23 .v], [([.row 23 .o], [])], fun (t : RLine) => laws_toLine t⟩
theorem c61 (t : RLine) : sxFn (A := AW) [e42, e45, e46, e54, e56, e60] h61 e61.args e61.res t = e61.fn t := by kernel_rfl
theorem o61 (n : Nat) : EntOK TabW (callN TbW (n + 61 + 1)) e61 := ent_ok tabOK (E := [e42, e45, e46, e54, e56, e60]) (F := h61) (List.forall_mem_cons.2 ⟨(show EntOK TabW (callN TbW (n + 61)) e42 from o42 (n + 18)), List.forall_mem_cons.2 ⟨(show EntOK TabW (callN TbW (n + 61)) e45 from o45 (n + 15)), List.forall_mem_cons.2 ⟨(show EntOK TabW (callN TbW (n + 61)) e46 from o46 (n + 14)), List.forall_mem_cons.2 ⟨(show EntOK TabW (callN TbW (n + 61)) e54 from o54 (n + 6)), List.forall_mem_cons.2 ⟨(show EntOK TabW (callN TbW (n + 61)) e56 from o56 (n + 4)), List.forall_mem_cons.2 ⟨(show EntOK TabW (callN TbW (n + 61)) e60 from o60 (n + 0)), List.forall_mem_nil _⟩⟩⟩⟩⟩⟩) (by kernel_rfl) c61
def e62 : Ent AW := ⟨36, [.row 24 .v], [([.row 24 .o], [])], fun (t : RLead) => laws_toLead t⟩
theorem c62 (t : RLead) : sxFn (A := AW) [e31, e41, e42, e45, e46, e48, e50, e52, e61] h62 e62.args e62.res t = e62.fn t := by kernel_rfl
theorem o62 (n : Nat) : EntOK TabW (callN TbW (n + 62 + 1)) e62 := ent_ok tabOK (E := [e31, e41, e42, e45, e46, e48, e50, e52, e61]) (F := h62) (List.forall_mem_cons.2 ⟨(show EntOK TabW (callN TbW (n + 62)) e31 from o31 (n + 30)), List.forall_mem_cons.2 ⟨(show EntOK TabW (callN TbW (n + 62)) e41 from o41 (n + 20)), List.forall_mem_cons.2 ⟨(show EntOK TabW (callN TbW (n + 62)) e42 from o42 (n + 19)), List.forall_mem_cons.2 ⟨(show EntOK TabW (callN TbW (n + 62)) e45 from o45 (n + 16)), List.forall_mem_cons.2 ⟨(show EntOK TabW (callN TbW (n + 62)) e46 from o46 (n + 15)), List.forall_mem_cons.2 ⟨(show EntOK TabW (callN TbW (n + 62)) e48 from o48 (n + 13)), List.forall_mem_cons.2 ⟨(show EntOK TabW (callN TbW (n + 62)) e50 from o50 (n + 11)), List.forall_mem_cons.2 ⟨(show EntOK TabW (callN TbW (n + 62)) e52 from o52 (n + 9)), List.forall_mem_cons.2 ⟨(show EntOK TabW (callN TbW (n + 62)) e61 from o61 (n + 0)), List.forall_mem_nil _⟩⟩⟩⟩⟩⟩⟩⟩⟩) (by kernel_rfl) c62
def e63 : Ent AW := ⟨16, [lv 24], [([.leaf (.sl true 24 .o)], [])], fun (t : (List RLead)) => laws_toLeadS t⟩
theorem c63 (t : (List RLead)) : sxFn (A := AW) [e62] h63 e63.args e63.res t = e63.fn t := by kernel_rfl
theorem o63 (n : Nat) : EntOK TabW (callN TbW (n + 63 + 1)) e63 := ent_ok tabOK (E := [e62]) (F := h63) (List.forall_mem_cons.2 ⟨(show EntOK TabW (callN TbW (n + 63)) e62 from o62 (n + 0)), List.forall_mem_nil _⟩) (by kernel_rfl) c63
def e64 : Ent AW := ⟨75, [.row 25 .v], [([.row 25 .v], [])], fun (t : ROp) => laws_toOp t⟩
theorem c64 (t : ROp) : sxFn (A := AW) [] h64 e64.args e64.res t = e64.fn t := by kernel_rfl
theorem o64 (n : Nat) : EntOK TabW (callN TbW (n + 64 + 1)) e64 := ent_ok tabOK (E := []) (F := h64) (List.forall_mem_nil _) (by kernel_rfl) c64
def e65 : Ent AW := ⟨37, [.row 26 .v], [([.row 26 .o], [])], fun (t : RMsg) => laws_toMsg t⟩
theorem c65 (t : RMsg) : sxFn (A := AW) [e31, e32, e37, e38, e40, e42, e64] h65 e65.args e65.res t = e65.fn t := by kernel_rfl
theorem o65 (n : Nat) : EntOK TabW (callN TbW (n + 65 + 1)) e65 := ent_ok tabOK (E := [e31, e32, e37, e38, e40, e42, e64]) (F := h65) (List.forall_mem_cons.2 ⟨(show EntOK TabW (callN TbW (n + 65)) e31 from o31 (n + 33)), List.forall_mem_cons.2 ⟨(show EntOK TabW (callN TbW (n + 65)) e32 from o32 (n + 32)), List.forall_mem_cons.2 ⟨(show EntOK TabW (callN TbW (n + 65)) e37 from o37 (n + 27)), List.forall_mem_cons.2 ⟨(show EntOK TabW (callN TbW (n + 65)) e38 from o38 (n + 26)), List.forall_mem_cons.2 ⟨(show EntOK TabW (callN TbW (n + 65)) e40 from o40 (n + 24)), List.forall_mem_cons.2 ⟨(show EntOK TabW (callN TbW (n + 65)) e42 from o42 (n + 22)), List.forall_mem_cons.2 ⟨(show EntOK TabW (callN TbW (n + 65)) e64 from o64 (n + 0)), List.forall_mem_nil _⟩⟩⟩⟩⟩⟩⟩) (by kernel_rfl) c65
def e66 : Ent AW := ⟨17, [lv 26], [([.leaf (.sl true 26 .o)], [])], fun (t : (List RMsg)) => laws_toMsgS t⟩
theorem c66 (t : (List RMsg)) : sxFn (A := AW) [e65] h66 e66.args e66.res t = e66.fn t := by kernel_rfl
theorem o66 (n : Nat) : EntOK TabW (callN TbW (n + 66 + 1)) e66 := ent_ok tabOK (E := [e65]) (F := h66) (List.forall_mem_cons.2 ⟨(show EntOK TabW (callN TbW (n + 66)) e65 from o65 (n + 0)), List.forall_mem_nil _⟩) (by kernel_rfl) c66
def e67 : Ent AW := ⟨6, [.row 28 .v], [([.row 28 .o], [])], fun (t : RServer) => laws_toServer t⟩
theorem c67 (t : RServer) : sxFn (A := AW) [e44, e63, e66] h67 e67.args e67.res t = e67.fn t := by kernel_rfl
theorem o67 (n : Nat) : EntOK TabW (callN TbW (n + 67 + 1)) e67 := ent_ok tabOK (E := [e44, e63, e66]) (F := h67) (List.forall_mem_cons.2 ⟨(show EntOK TabW (callN TbW (n + 67)) e44 from o44 (n + 22)), List.forall_mem_cons.2 ⟨(show EntOK TabW (callN TbW (n + 67)) e63 from o63 (n + 3)), List.forall_mem_cons.2 ⟨(show EntOK TabW (callN TbW (n + 67)) e66 from o66 (n + 0)), List.forall_mem_nil _⟩⟩⟩) (by kernel_rfl) c67
def e68 : Ent AW := ⟨29, [.row 11 .v, .row 11 .v], [([.leaf .b], [])], fun (t : (RPgState × RPgState)) => spec_l25SameState t.1 t.2⟩
theorem c68 (t : (RPgState × RPgState)) : sxFn (A := AW) [] h68 e68.args e68.res t = e68.fn t := by kernel_rfl
theorem o68 (n : Nat) : EntOK TabW (callN TbW (n + 68 + 1)) e68 := ent_ok tabOK (E := []) (F := h68) (List.forall_mem_nil _) (by kernel_rfl) c68
def e69 : Ent AW := ⟨12, [lv 11, lv 11], [([.leaf .b], [])], fun (t : ((List RPgState) × (List RPgState))) => spec_l30SameStates t.1 t.2⟩
theorem c69 (t : ((List RPgState) × (List RPgState))) : sxFn (A := AW) [e68] h69 e69.args e69.res t = e69.fn t := by kernel_rfl
theorem o69 (n : Nat) : EntOK TabW (callN TbW (n + 69 + 1)) e69 := ent_ok tabOK (E := [e68]) (F := h69) (List.forall_mem_cons.2 ⟨(show EntOK TabW (callN TbW (n + 69)) e68 from o68 (n + 0)), List.forall_mem_nil _⟩) (by kernel_rfl) c69
def e70 : Ent AW := ⟨30, [lv 14, lv 14], [([.leaf .b], [])], fun (t : ((List Int) × (List Int))) => spec_l00Same t.1 t.2⟩
theorem c70 (t : ((List Int) × (List Int))) : sxFn (A := AW) [] h70 e70.args e70.res t = e70.fn t := by kernel_rfl
theorem o70 (n : Nat) : EntOK TabW (callN TbW (n + 70 + 1)) e70 := ent_ok tabOK (E := []) (F := h70) (List.forall_mem_nil _) (by kernel_rfl) c70
def e71 : Ent AW := ⟨31, [lv 15, lv 15], [([.leaf .b], [])], fun (t : ((List RInterval) × (List RInterval))) => spec_l27SameIvs t.1 t.2⟩
theorem c71 (t : ((List RInterval) × (List RInterval))) : sxFn (A := AW) [e70] h71 e71.args e71.res t = e71.fn t := by kernel_rfl
theorem o71 (n : Nat) : EntOK TabW (callN TbW (n + 71 + 1)) e71 := ent_ok tabOK (E := [e70]) (F := h71) (List.forall_mem_cons.2 ⟨(show EntOK TabW (callN TbW (n + 71)) e70 from o70 (n + 0)), List.forall_mem_nil _⟩) (by kernel_rfl) c71
def e72 : Ent AW := ⟨32, [lv 16, lv 16], [([.leaf .b], [])], fun (t : ((List RNotice) × (List RNotice))) => spec_l27SameNotices t.1 t.2⟩
theorem c72 (t : ((List RNotice) × (List RNotice))) : sxFn (A := AW) [e68] h72 e72.args e72.res t = e72.fn t := by kernel_rfl
theorem o72 (n : Nat) : EntOK TabW (callN TbW (n + 72 + 1)) e72 := ent_ok tabOK (E := [e68]) (F := h72) (List.forall_mem_cons.2 ⟨(show EntOK TabW (callN TbW (n + 72)) e68 from o68 (n + 3)), List.forall_mem_nil _⟩) (by kernel_rfl) c72
def e73 : Ent AW := ⟨61, [.row 21 .v, .row 21 .v], [([.leaf .b], [])], fun (t : (RWait × RWait)) => spec_l25SameWait t.1 t.2⟩
theorem c73 (t : (RWait × RWait)) : sxFn (A := AW) [] h73 e73.args e73.res t = e73.fn t := by kernel_rfl
theorem o73 (n : Nat) : EntOK TabW (callN TbW (n + 73 + 1)) e73 := ent_ok tabOK (E := []) (F := h73) (List.forall_mem_nil _) (by kernel_rfl) c73
def e74 : Ent AW := ⟨33, [.row 23 .v, .row 23 .v], [([.leaf .b], [])], fun (t : (RLine × RLine)) => spec_SameLine t.1 t.2⟩
theorem c74 (t : (RLine × RLine)) : sxFn (A := AW) [e68, e70, e73] h74 e74.args e74.res t = e74.fn t := by kernel_rfl
theorem o74 (n : Nat) : EntOK TabW (callN TbW (n + 74 + 1)) e74 := ent_ok tabOK (E := [e68, e70, e73]) (F := h74) (List.forall_mem_cons.2 ⟨(show EntOK TabW (callN TbW (n + 74)) e68 from o68 (n + 5)), List.forall_mem_cons.2 ⟨(show EntOK TabW (callN TbW (n + 74)) e70 from o70 (n + 3)), List.forall_mem_cons.2 ⟨(show EntOK TabW (callN TbW (n + 74)) e73 from o73 (n + 0)), List.forall_mem_nil _⟩⟩⟩) (by kernel_rfl) c74
def e75 : Ent AW := ⟨13, [.row 24 .v, .row 24 .v], [([.leaf .b], [])], fun (t : (RLead × RLead)) => spec_SameLead t.1 t.2⟩
theorem c75 (t : (RLead × RLead)) : sxFn (A := AW) [e68, e70, e71, e72, e74] h75 e75.args e75.res t = e75.fn t := by kernel_rfl
theorem o75 (n : Nat) : EntOK TabW (callN TbW (n + 75 + 1)) e75 := ent_ok tabOK (E := [e68, e70, e71, e72, e74]) (F := h75) (List.forall_mem_cons.2 ⟨(show EntOK TabW (callN TbW (n + 75)) e68 from o68 (n + 6)), List.forall_mem_cons.2 ⟨(show EntOK TabW (callN TbW (n + 75)) e70 from o70 (n + 4)), List.forall_mem_cons.2 ⟨(show EntOK TabW (callN TbW (n + 75)) e71 from o71 (n + 3)), List.forall_mem_cons.2 ⟨(show EntOK TabW (callN TbW (n + 75)) e72 from o72 (n + 2)), List.forall_mem_cons.2 ⟨(show EntOK TabW (callN TbW (n + 75)) e74 from o74 (n + 0)), List.forall_mem_nil _⟩⟩⟩⟩⟩) (by kernel_rfl) c75
def e76 : Ent AW := ⟨62, [.row 11 .v, .row 11 .v], [([.leaf .b], [])], fun (t : (RPgState × RPgState)) => spec_l17Same t.1 t.2⟩
theorem c76 (t : (RPgState × RPgState)) : sxFn (A := AW) [] h76 e76.args e76.res t = e76.fn t := by kernel_rfl
theorem o76 (n : Nat) : EntOK TabW (callN TbW (n + 76 + 1)) e76 := ent_ok tabOK (E := []) (F := h76) (List.forall_mem_nil _) (by kernel_rfl) c76
def e77 : Ent AW := ⟨34, [.row 26 .v, .row 26 .v], [([.leaf .b], [])], fun (t : (RMsg × RMsg)) => spec_MsgSame t.1 t.2⟩
theorem c77 (t : (RMsg × RMsg)) : sxFn (A := AW) [e76] h77 e77.args e77.res t = e77.fn t := by kernel_rfl
theorem o77 (n : Nat) : EntOK TabW (callN TbW (n + 77 + 1)) e77 := ent_ok tabOK (E := [e76]) (F := h77) (List.forall_mem_cons.2 ⟨(show EntOK TabW (callN TbW (n + 77)) e76 from o76 (n + 0)), List.forall_mem_nil _⟩) (by kernel_rfl) c77
def e78 : Ent AW := ⟨14, [lv 26, lv 26], [([.leaf .b], [])], fun (t : ((List RMsg) × (List RMsg))) => spec_l30SameMsgs t.1 t.2⟩
theorem c78 (t : ((List RMsg) × (List RMsg))) : sxFn (A := AW) [e77] h78 e78.args e78.res t = e78.fn t := by kernel_rfl
theorem o78 (n : Nat) : EntOK TabW (callN TbW (n + 78 + 1)) e78 := ent_ok tabOK (E := [e77]) (F := h78) (List.forall_mem_cons.2 ⟨(show EntOK TabW (callN TbW (n + 78)) e77 from o77 (n + 0)), List.forall_mem_nil _⟩) (by kernel_rfl) c78
def e79 : Ent AW := ⟨5, [.row 28 .v, .row 28 .v], [([.leaf .b], [])], fun (t : (RServer × RServer)) => spec_SameServer t.1 t.2⟩
theorem c79 (t : (RServer × RServer)) : sxFn (A := AW) [e69, e75, e78] h79 e79.args e79.res t = e79.fn t := by kernel_rfl
theorem o79 (n : Nat) : EntOK TabW (callN TbW (n + 79 + 1)) e79 := ent_ok tabOK (E := [e69, e75, e78]) (F := h79) (List.forall_mem_cons.2 ⟨(show EntOK TabW (callN TbW (n + 79)) e69 from o69 (n + 9)), List.forall_mem_cons.2 ⟨(show EntOK TabW (callN TbW (n + 79)) e75 from o75 (n + 3)), List.forall_mem_cons.2 ⟨(show EntOK TabW (callN TbW (n + 79)) e78 from o78 (n + 0)), List.forall_mem_nil _⟩⟩⟩) (by kernel_rfl) c79
def e80 : Ent AW := ⟨78, [lv 5, lv 5], [([.leaf .b], [])], fun (t : ((List RHead) × (List RHead))) => impl_Head_ t.1 t.2⟩
theorem c80 (t : ((List RHead) × (List RHead))) : sxFn (A := AW) [] h80 e80.args e80.res t = e80.fn t := by kernel_rfl
theorem o80 (n : Nat) : EntOK TabW (callN TbW (n + 80 + 1)) e80 := ent_ok tabOK (E := []) (F := h80) (List.forall_mem_nil _) (by kernel_rfl) c80
def e81 : Ent AW := ⟨79, [lv 6, lv 6], [([.leaf .b], [])], fun (t : ((List RLast) × (List RLast))) => impl_Last_ t.1 t.2⟩
theorem c81 (t : ((List RLast) × (List RLast))) : sxFn (A := AW) [] h81 e81.args e81.res t = e81.fn t := by kernel_rfl
theorem o81 (n : Nat) : EntOK TabW (callN TbW (n + 81 + 1)) e81 := ent_ok tabOK (E := []) (F := h81) (List.forall_mem_nil _) (by kernel_rfl) c81
def e82 : Ent AW := ⟨80, [lv 8, lv 8], [([.leaf .b], [])], fun (t : ((List REntry) × (List REntry))) => impl_Entry_ t.1 t.2⟩
theorem c82 (t : ((List REntry) × (List REntry))) : sxFn (A := AW) [] h82 e82.args e82.res t = e82.fn t := by kernel_rfl
theorem o82 (n : Nat) : EntOK TabW (callN TbW (n + 82 + 1)) e82 := ent_ok tabOK (E := []) (F := h82) (List.forall_mem_nil _) (by kernel_rfl) c82
def e83 : Ent AW := ⟨46, [lv 9, lv 9], [([.leaf .b], [])], fun (t : ((List RChunk) × (List RChunk))) => impl_Chunk_ t.1 t.2⟩
theorem c83 (t : ((List RChunk) × (List RChunk))) : sxFn (A := AW) [] h83 e83.args e83.res t = e83.fn t := by kernel_rfl
theorem o83 (n : Nat) : EntOK TabW (callN TbW (n + 83 + 1)) e83 := ent_ok tabOK (E := []) (F := h83) (List.forall_mem_nil _) (by kernel_rfl) c83
def e84 : Ent AW := ⟨44, [.row 11 .v, .row 11 .v], [([.leaf .b], [])], fun (t : (RPgState × RPgState)) => impl_sameState t.1 t.2⟩
theorem c84 (t : (RPgState × RPgState)) : sxFn (A := AW) [e80, e81, e82, e83] h84 e84.args e84.res t = e84.fn t := by kernel_rfl
theorem o84 (n : Nat) : EntOK TabW (callN TbW (n + 84 + 1)) e84 := ent_ok tabOK (E := [e80, e81, e82, e83]) (F := h84) (List.forall_mem_cons.2 ⟨(show EntOK TabW (callN TbW (n + 84)) e80 from o80 (n + 3)), List.forall_mem_cons.2 ⟨(show EntOK TabW (callN TbW (n + 84)) e81 from o81 (n + 2)), List.forall_mem_cons.2 ⟨(show EntOK TabW (callN TbW (n + 84)) e82 from o82 (n + 1)), List.forall_mem_cons.2 ⟨(show EntOK TabW (callN TbW (n + 84)) e83 from o83 (n + 0)), List.forall_mem_nil _⟩⟩⟩⟩) (by kernel_rfl) c84
def e85 : Ent AW := ⟨77, [lv 11, lv 11, .leaf (.fn 44 [])], [([.leaf .b], [])], fun (t : ((List RPgState) × (List RPgState))) => impl_PgState_ t.1 t.2⟩
theorem c85 (t : ((List RPgState) × (List RPgState))) : sxFn (A := AW) [e84] h85 e85.args e85.res t = e85.fn t := by kernel_rfl
theorem o85 (n : Nat) : EntOK TabW (callN TbW (n + 85 + 1)) e85 := ent_ok tabOK (E := [e84]) (F := h85) (List.forall_mem_cons.2 ⟨(show EntOK TabW (callN TbW (n + 85)) e84 from o84 (n + 0)), List.forall_mem_nil _⟩) (by kernel_rfl) c85
def e86 : Ent AW := ⟨38, [lv 11, lv 11], [([.leaf .b], [])], fun (t : ((List RPgState) × (List RPgState))) => impl_sameStates t.1 t.2⟩
theorem c86 (t : ((List RPgState) × (List RPgState))) : sxFn (A := AW) [e85] h86 e86.args e86.res t = e86.fn t := by kernel_rfl
theorem o86 (n : Nat) : EntOK TabW (callN TbW (n + 86 + 1)) e86 := ent_ok tabOK (E := [e85]) (F := h86) (List.forall_mem_cons.2 ⟨(show EntOK TabW (callN TbW (n + 86)) e85 from o85 (n + 0)), List.forall_mem_nil _⟩) (by kernel_rfl) c86
def e87 : Ent AW := ⟨18, [.row 13 .v, .row 13 .v], [([.leaf .b], [])], fun (t : (RStore × RStore)) => impl_SameStore t.1 t.2⟩
theorem c87 (t : (RStore × RStore)) : sxFn (A := AW) [e86] h87 e87.args e87.res t = e87.fn t := by kernel_rfl
theorem o87 (n : Nat) : EntOK TabW (callN TbW (n + 87 + 1)) e87 := ent_ok tabOK (E := [e86]) (F := h87) (List.forall_mem_cons.2 ⟨(show EntOK TabW (callN TbW (n + 87)) e86 from o86 (n + 0)), List.forall_mem_nil _⟩) (by kernel_rfl) c87
def e88 : Ent AW := ⟨39, [lv 14, lv 14], [([.leaf .b], [])], fun (t : ((List Int) × (List Int))) => slices_Equal___int64uint64u t.1 t.2⟩
theorem c88 (t : ((List Int) × (List Int))) : sxFn (A := AW) [] h88 e88.args e88.res t = e88.fn t := by kernel_rfl
theorem o88 (n : Nat) : EntOK TabW (callN TbW (n + 88 + 1)) e88 := ent_ok tabOK (E := []) (F := h88) (List.forall_mem_nil _) (by kernel_rfl) c88
def e89 : Ent AW := ⟨41, [.row 15 .v, .row 15 .v], [([.leaf .b], [])], fun (t : (RInterval × RInterval)) => impl_sameInterval t.1 t.2⟩
theorem c89 (t : (RInterval × RInterval)) : sxFn (A := AW) [e88] h89 e89.args e89.res t = e89.fn t := by kernel_rfl
theorem o89 (n : Nat) : EntOK TabW (callN TbW (n + 89 + 1)) e89 := ent_ok tabOK (E := [e88]) (F := h89) (List.forall_mem_cons.2 ⟨(show EntOK TabW (callN TbW (n + 89)) e88 from o88 (n + 0)), List.forall_mem_nil _⟩) (by kernel_rfl) c89
def e90 : Ent AW := ⟨40, [lv 15, lv 15, .leaf (.fn 41 [])], [([.leaf .b], [])], fun (t : ((List RInterval) × (List RInterval))) => impl_Interval_ t.1 t.2⟩
theorem c90 (t : ((List RInterval) × (List RInterval))) : sxFn (A := AW) [e89] h90 e90.args e90.res t = e90.fn t := by kernel_rfl
theorem o90 (n : Nat) : EntOK TabW (callN TbW (n + 90 + 1)) e90 := ent_ok tabOK (E := [e89]) (F := h90) (List.forall_mem_cons.2 ⟨(show EntOK TabW (callN TbW (n + 90)) e89 from o89 (n + 0)), List.forall_mem_nil _⟩) (by kernel_rfl) c90
def e91 : Ent AW := ⟨43, [.row 16 .v, .row 16 .v], [([.leaf .b], [])], fun (t : (RNotice × RNotice)) => impl_sameNotice t.1 t.2⟩
theorem c91 (t : (RNotice × RNotice)) : sxFn (A := AW) [e84] h91 e91.args e91.res t = e91.fn t := by kernel_rfl
theorem o91 (n : Nat) : EntOK TabW (callN TbW (n + 91 + 1)) e91 := ent_ok tabOK (E := [e84]) (F := h91) (List.forall_mem_cons.2 ⟨(show EntOK TabW (callN TbW (n + 91)) e84 from o84 (n + 6)), List.forall_mem_nil _⟩) (by kernel_rfl) c91
def e92 : Ent AW := ⟨42, [lv 16, lv 16, .leaf (.fn 43 [])], [([.leaf .b], [])], fun (t : ((List RNotice) × (List RNotice))) => impl_Notice_ t.1 t.2⟩
theorem c92 (t : ((List RNotice) × (List RNotice))) : sxFn (A := AW) [e91] h92 e92.args e92.res t = e92.fn t := by kernel_rfl
theorem o92 (n : Nat) : EntOK TabW (callN TbW (n + 92 + 1)) e92 := ent_ok tabOK (E := [e91]) (F := h92) (List.forall_mem_cons.2 ⟨(show EntOK TabW (callN TbW (n + 92)) e91 from o91 (n + 0)), List.forall_mem_nil _⟩) (by kernel_rfl) c92
def e93 : Ent AW := ⟨45, [lv 17, lv 17], [([.leaf .b], [])], fun (t : ((List RFill) × (List RFill))) => impl_Fill_ t.1 t.2⟩
theorem c93 (t : ((List RFill) × (List RFill))) : sxFn (A := AW) [] h93 e93.args e93.res t = e93.fn t := by kernel_rfl
theorem o93 (n : Nat) : EntOK TabW (callN TbW (n + 93 + 1)) e93 := ent_ok tabOK (E := []) (F := h93) (List.forall_mem_nil _) (by kernel_rfl) c93
def e94 : Ent AW := ⟨81, [lv 18, lv 18], [([.leaf .b], [])], fun (t : ((List RWay) × (List RWay))) => impl_Way_ t.1 t.2⟩
theorem c94 (t : ((List RWay) × (List RWay))) : sxFn (A := AW) [] h94 e94.args e94.res t = e94.fn t := by kernel_rfl
theorem o94 (n : Nat) : EntOK TabW (callN TbW (n + 94 + 1)) e94 := ent_ok tabOK (E := []) (F := h94) (List.forall_mem_nil _) (by kernel_rfl) c94
def e95 : Ent AW := ⟨82, [lv 19, lv 19], [([.leaf .b], [])], fun (t : ((List RAck) × (List RAck))) => impl_Ack_ t.1 t.2⟩
theorem c95 (t : ((List RAck) × (List RAck))) : sxFn (A := AW) [] h95 e95.args e95.res t = e95.fn t := by kernel_rfl
theorem o95 (n : Nat) : EntOK TabW (callN TbW (n + 95 + 1)) e95 := ent_ok tabOK (E := []) (F := h95) (List.forall_mem_nil _) (by kernel_rfl) c95
def e96 : Ent AW := ⟨117, [lv 20, lv 20], [([.leaf .b], [])], fun (t : ((List RGot) × (List RGot))) => impl_Got_ t.1 t.2⟩
theorem c96 (t : ((List RGot) × (List RGot))) : sxFn (A := AW) [] h96 e96.args e96.res t = e96.fn t := by kernel_rfl
theorem o96 (n : Nat) : EntOK TabW (callN TbW (n + 96 + 1)) e96 := ent_ok tabOK (E := []) (F := h96) (List.forall_mem_nil _) (by kernel_rfl) c96
def e97 : Ent AW := ⟨84, [.row 21 .v, .row 21 .v], [([.leaf .b], [])], fun (t : (RWait × RWait)) => impl_sameWait t.1 t.2⟩
theorem c97 (t : (RWait × RWait)) : sxFn (A := AW) [e96] h97 e97.args e97.res t = e97.fn t := by kernel_rfl
theorem o97 (n : Nat) : EntOK TabW (callN TbW (n + 97 + 1)) e97 := ent_ok tabOK (E := [e96]) (F := h97) (List.forall_mem_cons.2 ⟨(show EntOK TabW (callN TbW (n + 97)) e96 from o96 (n + 0)), List.forall_mem_nil _⟩) (by kernel_rfl) c97
def e98 : Ent AW := ⟨83, [lv 21, lv 21, .leaf (.fn 84 [])], [([.leaf .b], [])], fun (t : ((List RWait) × (List RWait))) => impl_Wait_ t.1 t.2⟩
theorem c98 (t : ((List RWait) × (List RWait))) : sxFn (A := AW) [e97] h98 e98.args e98.res t = e98.fn t := by kernel_rfl
theorem o98 (n : Nat) : EntOK TabW (callN TbW (n + 98 + 1)) e98 := ent_ok tabOK (E := [e97]) (F := h98) (List.forall_mem_cons.2 ⟨(show EntOK TabW (callN TbW (n + 98)) e97 from o97 (n + 0)), List.forall_mem_nil _⟩) (by kernel_rfl) c98
def e99 : Ent AW := ⟨47, [.row 23 .v, .row 23 .v], [([.leaf .b], [])], fun (t : (RLine × RLine)) => impl_SameLine t.1 t.2⟩
theorem c99 (t : (RLine × RLine)) : sxFn (A := AW) [e84, e88, e94, e95, e98] h99 e99.args e99.res t = e99.fn t := by kernel_rfl
theorem o99 (n : Nat) : EntOK TabW (callN TbW (n + 99 + 1)) e99 := ent_ok tabOK (E := [e84, e88, e94, e95, e98]) (F := h99) (List.forall_mem_cons.2 ⟨(show EntOK TabW (callN TbW (n + 99)) e84 from o84 (n + 14)), List.forall_mem_cons.2 ⟨(show EntOK TabW (callN TbW (n + 99)) e88 from o88 (n + 10)), List.forall_mem_cons.2 ⟨(show EntOK TabW (callN TbW (n + 99)) e94 from o94 (n + 4)), List.forall_mem_cons.2 ⟨(show EntOK TabW (callN TbW (n + 99)) e95 from o95 (n + 3)), List.forall_mem_cons.2 ⟨(show EntOK TabW (callN TbW (n + 99)) e98 from o98 (n + 0)), List.forall_mem_nil _⟩⟩⟩⟩⟩) (by kernel_rfl) c99
def e100 : Ent AW := ⟨20, [.row 24 .v, .row 24 .v], [([.leaf .b], [])], fun (t : (RLead × RLead)) => impl_SameLead t.1 t.2⟩
theorem c100 (t : (RLead × RLead)) : sxFn (A := AW) [e83, e84, e88, e90, e92, e93, e99] h100 e100.args e100.res t = e100.fn t := by kernel_rfl
theorem o100 (n : Nat) : EntOK TabW (callN TbW (n + 100 + 1)) e100 := ent_ok tabOK (E := [e83, e84, e88, e90, e92, e93, e99]) (F := h100) (List.forall_mem_cons.2 ⟨(show EntOK TabW (callN TbW (n + 100)) e83 from o83 (n + 16)), List.forall_mem_cons.2 ⟨(show EntOK TabW (callN TbW (n + 100)) e84 from o84 (n + 15)), List.forall_mem_cons.2 ⟨(show EntOK TabW (callN TbW (n + 100)) e88 from o88 (n + 11)), List.forall_mem_cons.2 ⟨(show EntOK TabW (callN TbW (n + 100)) e90 from o90 (n + 9)), List.forall_mem_cons.2 ⟨(show EntOK TabW (callN TbW (n + 100)) e92 from o92 (n + 7)), List.forall_mem_cons.2 ⟨(show EntOK TabW (callN TbW (n + 100)) e93 from o93 (n + 6)), List.forall_mem_cons.2 ⟨(show EntOK TabW (callN TbW (n + 100)) e99 from o99 (n + 0)), List.forall_mem_nil _⟩⟩⟩⟩⟩⟩⟩) (by kernel_rfl) c100
def e101 : Ent AW := ⟨19, [lv 24, lv 24, .leaf (.fn 20 [])], [([.leaf .b], [])], fun (t : ((List RLead) × (List RLead))) => impl_Lead_ t.1 t.2⟩
theorem c101 (t : ((List RLead) × (List RLead))) : sxFn (A := AW) [e100] h101 e101.args e101.res t = e101.fn t := by kernel_rfl
theorem o101 (n : Nat) : EntOK TabW (callN TbW (n + 101 + 1)) e101 := ent_ok tabOK (E := [e100]) (F := h101) (List.forall_mem_cons.2 ⟨(show EntOK TabW (callN TbW (n + 101)) e100 from o100 (n + 0)), List.forall_mem_nil _⟩) (by kernel_rfl) c101
def e102 : Ent AW := ⟨22, [.row 26 .v, .row 26 .v], [([.leaf .b], [])], fun (t : (RMsg × RMsg)) => impl_MsgSame t.1 t.2⟩
theorem c102 (t : (RMsg × RMsg)) : sxFn (A := AW) [e84] h102 e102.args e102.res t = e102.fn t := by kernel_rfl
theorem o102 (n : Nat) : EntOK TabW (callN TbW (n + 102 + 1)) e102 := ent_ok tabOK (E := [e84]) (F := h102) (List.forall_mem_cons.2 ⟨(show EntOK TabW (callN TbW (n + 102)) e84 from o84 (n + 17)), List.forall_mem_nil _⟩) (by kernel_rfl) c102
def e103 : Ent AW := ⟨21, [lv 26, lv 26, .leaf (.fn 22 [])], [([.leaf .b], [])], fun (t : ((List RMsg) × (List RMsg))) => impl_Msg_ t.1 t.2⟩
theorem c103 (t : ((List RMsg) × (List RMsg))) : sxFn (A := AW) [e102] h103 e103.args e103.res t = e103.fn t := by kernel_rfl
theorem o103 (n : Nat) : EntOK TabW (callN TbW (n + 103 + 1)) e103 := ent_ok tabOK (E := [e102]) (F := h103) (List.forall_mem_cons.2 ⟨(show EntOK TabW (callN TbW (n + 103)) e102 from o102 (n + 0)), List.forall_mem_nil _⟩) (by kernel_rfl) c103
def e104 : Ent AW := ⟨7, [.row 28 .v, .row 28 .v], [([.leaf .b], [])], fun (t : (RServer × RServer)) => impl_SameServer t.1 t.2⟩
theorem c104 (t : (RServer × RServer)) : sxFn (A := AW) [e87, e101, e103] h104 e104.args e104.res t = e104.fn t := by kernel_rfl
theorem o104 (n : Nat) : EntOK TabW (callN TbW (n + 104 + 1)) e104 := ent_ok tabOK (E := [e87, e101, e103]) (F := h104) (List.forall_mem_cons.2 ⟨(show EntOK TabW (callN TbW (n + 104)) e87 from o87 (n + 16)), List.forall_mem_cons.2 ⟨(show EntOK TabW (callN TbW (n + 104)) e101 from o101 (n + 2)), List.forall_mem_cons.2 ⟨(show EntOK TabW (callN TbW (n + 104)) e103 from o103 (n + 0)), List.forall_mem_nil _⟩⟩⟩) (by kernel_rfl) c104
def e105 : Ent AW := ⟨86, [.row 10 .v, .row 10 .v], [([.leaf .b], [])], fun (t : (RPg × RPg)) => laws_eqPg t.1 t.2⟩
theorem c105 (t : (RPg × RPg)) : sxFn (A := AW) [] h105 e105.args e105.res t = e105.fn t := by kernel_rfl
theorem o105 (n : Nat) : EntOK TabW (callN TbW (n + 105 + 1)) e105 := ent_ok tabOK (E := []) (F := h105) (List.forall_mem_nil _) (by kernel_rfl) c105
def e106 : Ent AW := ⟨94, [.row 4 .v, .row 4 .v], [([.leaf .b], [])], fun (t : (RVer × RVer)) => laws_eqVer t.1 t.2⟩
theorem c106 (t : (RVer × RVer)) : sxFn (A := AW) [] h106 e106.args e106.res t = e106.fn t := by kernel_rfl
theorem o106 (n : Nat) : EntOK TabW (callN TbW (n + 106 + 1)) e106 := ent_ok tabOK (E := []) (F := h106) (List.forall_mem_nil _) (by kernel_rfl) c106
def e107 : Ent AW := ⟨135, [.row 5 .v, .row 5 .v], [([.leaf .b], [])], fun (t : (RHead × RHead)) => laws_eqHead t.1 t.2⟩
theorem c107 (t : (RHead × RHead)) : sxFn (A := AW) [e106] h107 e107.args e107.res t = e107.fn t := by kernel_rfl
theorem o107 (n : Nat) : EntOK TabW (callN TbW (n + 107 + 1)) e107 := ent_ok tabOK (E := [e106]) (F := h107) (List.forall_mem_cons.2 ⟨(show EntOK TabW (callN TbW (n + 107)) e106 from o106 (n + 0)), List.forall_mem_nil _⟩) (by kernel_rfl) c107
def e108 : Ent AW := ⟨118, [lv 5, lv 5], [([.leaf .b], [])], fun (t : ((List RHead) × (List RHead))) => laws_eqHeadS t.1 t.2⟩
theorem c108 (t : ((List RHead) × (List RHead))) : sxFn (A := AW) [e107] h108 e108.args e108.res t = e108.fn t := by kernel_rfl
theorem o108 (n : Nat) : EntOK TabW (callN TbW (n + 108 + 1)) e108 := ent_ok tabOK (E := [e107]) (F := h108) (List.forall_mem_cons.2 ⟨(show EntOK TabW (callN TbW (n + 108)) e107 from o107 (n + 0)), List.forall_mem_nil _⟩) (by kernel_rfl) c108
def e109 : Ent AW := ⟨136, [.row 6 .v, .row 6 .v], [([.leaf .b], [])], fun (t : (RLast × RLast)) => laws_eqLast t.1 t.2⟩
theorem c109 (t : (RLast × RLast)) : sxFn (A := AW) [e106] h109 e109.args e109.res t = e109.fn t := by kernel_rfl
theorem o109 (n : Nat) : EntOK TabW (callN TbW (n + 109 + 1)) e109 := ent_ok tabOK (E := [e106]) (F := h109) (List.forall_mem_cons.2 ⟨(show EntOK TabW (callN TbW (n + 109)) e106 from o106 (n + 2)), List.forall_mem_nil _⟩) (by kernel_rfl) c109
def e110 : Ent AW := ⟨119, [lv 6, lv 6], [([.leaf .b], [])], fun (t : ((List RLast) × (List RLast))) => laws_eqLastS t.1 t.2⟩
theorem c110 (t : ((List RLast) × (List RLast))) : sxFn (A := AW) [e109] h110 e110.args e110.res t = e110.fn t := by kernel_rfl
theorem o110 (n : Nat) : EntOK TabW (callN TbW (n + 110 + 1)) e110 := ent_ok tabOK (E := [e109]) (F := h110) (List.forall_mem_cons.2 ⟨(show EntOK TabW (callN TbW (n + 110)) e109 from o109 (n + 0)), List.forall_mem_nil _⟩) (by kernel_rfl) c110
def e111 : Ent AW := ⟨98, [.row 7 .v, .row 7 .v], [([.leaf .b], [])], fun (t : (RReq × RReq)) => laws_eqReq t.1 t.2⟩
theorem c111 (t : (RReq × RReq)) : sxFn (A := AW) [] h111 e111.args e111.res t = e111.fn t := by kernel_rfl
theorem o111 (n : Nat) : EntOK TabW (callN TbW (n + 111 + 1)) e111 := ent_ok tabOK (E := []) (F := h111) (List.forall_mem_nil _) (by kernel_rfl) c111
def e112 : Ent AW := ⟨95, [.row 8 .v, .row 8 .v], [([.leaf .b], [])], fun (t : (REntry × REntry)) => laws_eqEntry t.1 t.2⟩
theorem c112 (t : (REntry × REntry)) : sxFn (A := AW) [e106, e111] h112 e112.args e112.res t = e112.fn t := by kernel_rfl
theorem o112 (n : Nat) : EntOK TabW (callN TbW (n + 112 + 1)) e112 := ent_ok tabOK (E := [e106, e111]) (F := h112) (List.forall_mem_cons.2 ⟨(show EntOK TabW (callN TbW (n + 112)) e106 from o106 (n + 5)), List.forall_mem_cons.2 ⟨(show EntOK TabW (callN TbW (n + 112)) e111 from o111 (n + 0)), List.forall_mem_nil _⟩⟩) (by kernel_rfl) c112
def e113 : Ent AW := ⟨120, [lv 8, lv 8], [([.leaf .b], [])], fun (t : ((List REntry) × (List REntry))) => laws_eqEntryS t.1 t.2⟩
theorem c113 (t : ((List REntry) × (List REntry))) : sxFn (A := AW) [e112] h113 e113.args e113.res t = e113.fn t := by kernel_rfl
theorem o113 (n : Nat) : EntOK TabW (callN TbW (n + 113 + 1)) e113 := ent_ok tabOK (E := [e112]) (F := h113) (List.forall_mem_cons.2 ⟨(show EntOK TabW (callN TbW (n + 113)) e112 from o112 (n + 0)), List.forall_mem_nil _⟩) (by kernel_rfl) c113
def e114 : Ent AW := ⟨96, [.row 9 .v, .row 9 .v], [([.leaf .b], [])], fun (t : (RChunk × RChunk)) => laws_eqChunk t.1 t.2⟩
theorem c114 (t : (RChunk × RChunk)) : sxFn (A := AW) [e106] h114 e114.args e114.res t = e114.fn t := by kernel_rfl
theorem o114 (n : Nat) : EntOK TabW (callN TbW (n + 114 + 1)) e114 := ent_ok tabOK (E := [e106]) (F := h114) (List.forall_mem_cons.2 ⟨(show EntOK TabW (callN TbW (n + 114)) e106 from o106 (n + 7)), List.forall_mem_nil _⟩) (by kernel_rfl) c114
def e115 : Ent AW := ⟨92, [lv 9, lv 9], [([.leaf .b], [])], fun (t : ((List RChunk) × (List RChunk))) => laws_eqChunkS t.1 t.2⟩
theorem c115 (t : ((List RChunk) × (List RChunk))) : sxFn (A := AW) [e114] h115 e115.args e115.res t = e115.fn t := by kernel_rfl
theorem o115 (n : Nat) : EntOK TabW (callN TbW (n + 115 + 1)) e115 := ent_ok tabOK (E := [e114]) (F := h115) (List.forall_mem_cons.2 ⟨(show EntOK TabW (callN TbW (n + 115)) e114 from o114 (n + 0)), List.forall_mem_nil _⟩) (by kernel_rfl) c115
def e116 : Ent AW := ⟨85, [.row 11 .v, .row 11 .v], [([.leaf .b], [])], fun (t : (RPgState × RPgState)) => laws_eqPgState t.1 t.2⟩
theorem c116 (t : (RPgState × RPgState)) : sxFn (A := AW) [e105, e106, e108, e110, e113, e115] h116 e116.args e116.res t = e116.fn t := by kernel_rfl
theorem o116 (n : Nat) : EntOK TabW (callN TbW (n + 116 + 1)) e116 := ent_ok tabOK (E := [e105, e106, e108, e110, e113, e115]) (F := h116) (List.forall_mem_cons.2 ⟨(show EntOK TabW (callN TbW (n + 116)) e105 from o105 (n + 10)), List.forall_mem_cons.2 ⟨(show EntOK TabW (callN TbW (n + 116)) e106 from o106 (n + 9)), List.forall_mem_cons.2 ⟨(show EntOK TabW (callN TbW (n + 116)) e108 from o108 (n + 7)), List.forall_mem_cons.2 ⟨(show EntOK TabW (callN TbW (n + 116)) e110 from o110 (n + 5)), List.forall_mem_cons.2 ⟨(show EntOK TabW (callN TbW (n + 116)) e113 from o113 (n + 2)), List.forall_mem_cons.2 ⟨(show EntOK TabW (callN TbW (n + 116)) e115 from o115 (n + 0)), List.forall_mem_nil _⟩⟩⟩⟩⟩⟩) (by kernel_rfl) c116
def e117 : Ent AW := ⟨48, [lv 11, lv 11], [([.leaf .b], [])], fun (t : ((List RPgState) × (List RPgState))) => laws_eqPgStateS t.1 t.2⟩
theorem c117 (t : ((List RPgState) × (List RPgState))) : sxFn (A := AW) [e116] h117 e117.args e117.res t = e117.fn t := by kernel_rfl
theorem o117 (n : Nat) : EntOK TabW (callN TbW (n + 117 + 1)) e117 := ent_ok tabOK (E := [e116]) (F := h117) (List.forall_mem_cons.2 ⟨(show EntOK TabW (callN TbW (n + 117)) e116 from o116 (n + 0)), List.forall_mem_nil _⟩) (by kernel_rfl) c117
def e118 : Ent AW := ⟨23, [.row 13 .v, .row 13 .v], [([.leaf .b], [])], fun (t : (RStore × RStore)) => laws_eqStore t.1 t.2⟩
theorem c118 (t : (RStore × RStore)) : sxFn (A := AW) [e117] h118 e118.args e118.res t = e118.fn t := by kernel_rfl
theorem o118 (n : Nat) : EntOK TabW (callN TbW (n + 118 + 1)) e118 := ent_ok tabOK (E := [e117]) (F := h118) (List.forall_mem_cons.2 ⟨(show EntOK TabW (callN TbW (n + 118)) e117 from o117 (n + 0)), List.forall_mem_nil _⟩) (by kernel_rfl) c118
def e119 : Ent AW := ⟨87, [.row 22 .v, .row 22 .v], [([.leaf .b], [])], fun (t : (RCode × RCode)) => laws_eqCode t.1 t.2⟩
theorem c119 (t : (RCode × RCode)) : sxFn (A := AW) [] h119 e119.args e119.res t = e119.fn t := by kernel_rfl
theorem o119 (n : Nat) : EntOK TabW (callN TbW (n + 119 + 1)) e119 := ent_ok tabOK (E := []) (F := h119) (List.forall_mem_nil _) (by kernel_rfl) c119
def e120 : Ent AW := ⟨88, [lv 14, lv 14], [([.leaf .b], [])], fun (t : ((List Int) × (List Int))) => laws_eqInt64S t.1 t.2⟩
theorem c120 (t : ((List Int) × (List Int))) : sxFn (A := AW) [] h120 e120.args e120.res t = e120.fn t := by kernel_rfl
theorem o120 (n : Nat) : EntOK TabW (callN TbW (n + 120 + 1)) e120 := ent_ok tabOK (E := []) (F := h120) (List.forall_mem_nil _) (by kernel_rfl) c120
def e121 : Ent AW := ⟨121, [.row 15 .v, .row 15 .v], [([.leaf .b], [])], fun (t : (RInterval × RInterval)) => laws_eqInterval t.1 t.2⟩
theorem c121 (t : (RInterval × RInterval)) : sxFn (A := AW) [e120] h121 e121.args e121.res t = e121.fn t := by kernel_rfl
theorem o121 (n : Nat) : EntOK TabW (callN TbW (n + 121 + 1)) e121 := ent_ok tabOK (E := [e120]) (F := h121) (List.forall_mem_cons.2 ⟨(show EntOK TabW (callN TbW (n + 121)) e120 from o120 (n + 0)), List.forall_mem_nil _⟩) (by kernel_rfl) c121
def e122 : Ent AW := ⟨89, [lv 15, lv 15], [([.leaf .b], [])], fun (t : ((List RInterval) × (List RInterval))) => laws_eqIntervalS t.1 t.2⟩
theorem c122 (t : ((List RInterval) × (List RInterval))) : sxFn (A := AW) [e121] h122 e122.args e122.res t = e122.fn t := by kernel_rfl
theorem o122 (n : Nat) : EntOK TabW (callN TbW (n + 122 + 1)) e122 := ent_ok tabOK (E := [e121]) (F := h122) (List.forall_mem_cons.2 ⟨(show EntOK TabW (callN TbW (n + 122)) e121 from o121 (n + 0)), List.forall_mem_nil _⟩) (by kernel_rfl) c122
def e123 : Ent AW := ⟨122, [.row 16 .v, .row 16 .v], [([.leaf .b], [])], fun (t : (RNotice × RNotice)) => laws_eqNotice t.1 t.2⟩
theorem c123 (t : (RNotice × RNotice)) : sxFn (A := AW) [e116] h123 e123.args e123.res t = e123.fn t := by kernel_rfl
theorem o123 (n : Nat) : EntOK TabW (callN TbW (n + 123 + 1)) e123 := ent_ok tabOK (E := [e116]) (F := h123) (List.forall_mem_cons.2 ⟨(show EntOK TabW (callN TbW (n + 123)) e116 from o116 (n + 6)), List.forall_mem_nil _⟩) (by kernel_rfl) c123
def e124 : Ent AW := ⟨90, [lv 16, lv 16], [([.leaf .b], [])], fun (t : ((List RNotice) × (List RNotice))) => laws_eqNoticeS t.1 t.2⟩
theorem c124 (t : ((List RNotice) × (List RNotice))) : sxFn (A := AW) [e123] h124 e124.args e124.res t = e124.fn t := by kernel_rfl
theorem o124 (n : Nat) : EntOK TabW (callN TbW (n + 124 + 1)) e124 := ent_ok tabOK (E := [e123]) (F := h124) (List.forall_mem_cons.2 ⟨(show EntOK TabW (callN TbW (n + 124)) e123 from o123 (n + 0)), List.forall_mem_nil _⟩) (by kernel_rfl) c124
def e125 : Ent AW := ⟨123, [.row 17 .v, .row 17 .v], [([.leaf .b], [])], fun (t : (RFill × RFill)) => laws_eqFill t.1 t.2⟩
theorem c125 (t : (RFill × RFill)) : sxFn (A := AW) [e107] h125 e125.args e125.res t = e125.fn t := by kernel_rfl
theorem o125 (n : Nat) : EntOK TabW (callN TbW (n + 125 + 1)) e125 := ent_ok tabOK (E := [e107]) (F := h125) (List.forall_mem_cons.2 ⟨(show EntOK TabW (callN TbW (n + 125)) e107 from o107 (n + 17)), List.forall_mem_nil _⟩) (by kernel_rfl) c125
def e126 : Ent AW := ⟨91, [lv 17, lv 17], [([.leaf .b], [])], fun (t : ((List RFill) × (List RFill))) => laws_eqFillS t.1 t.2⟩
theorem c126 (t : ((List RFill) × (List RFill))) : sxFn (A := AW) [e125] h126 e126.args e126.res t = e126.fn t := by kernel_rfl
theorem o126 (n : Nat) : EntOK TabW (callN TbW (n + 126 + 1)) e126 := ent_ok tabOK (E := [e125]) (F := h126) (List.forall_mem_cons.2 ⟨(show EntOK TabW (callN TbW (n + 126)) e125 from o125 (n + 0)), List.forall_mem_nil _⟩) (by kernel_rfl) c126
def e127 : Ent AW := ⟨137, [.row 18 .v, .row 18 .v], [([.leaf .b], [])], fun (t : (RWay × RWay)) => laws_eqWay t.1 t.2⟩
theorem c127 (t : (RWay × RWay)) : sxFn (A := AW) [e112] h127 e127.args e127.res t = e127.fn t := by kernel_rfl
theorem o127 (n : Nat) : EntOK TabW (callN TbW (n + 127 + 1)) e127 := ent_ok tabOK (E := [e112]) (F := h127) (List.forall_mem_cons.2 ⟨(show EntOK TabW (callN TbW (n + 127)) e112 from o112 (n + 14)), List.forall_mem_nil _⟩) (by kernel_rfl) c127
def e128 : Ent AW := ⟨124, [lv 18, lv 18], [([.leaf .b], [])], fun (t : ((List RWay) × (List RWay))) => laws_eqWayS t.1 t.2⟩
theorem c128 (t : ((List RWay) × (List RWay))) : sxFn (A := AW) [e127] h128 e128.args e128.res t = e128.fn t := by kernel_rfl
theorem o128 (n : Nat) : EntOK TabW (callN TbW (n + 128 + 1)) e128 := ent_ok tabOK (E := [e127]) (F := h128) (List.forall_mem_cons.2 ⟨(show EntOK TabW (callN TbW (n + 128)) e127 from o127 (n + 0)), List.forall_mem_nil _⟩) (by kernel_rfl) c128
def e129 : Ent AW := ⟨138, [.row 19 .v, .row 19 .v], [([.leaf .b], [])], fun (t : (RAck × RAck)) => laws_eqAck t.1 t.2⟩
theorem c129 (t : (RAck × RAck)) : sxFn (A := AW) [e106] h129 e129.args e129.res t = e129.fn t := by kernel_rfl
theorem o129 (n : Nat) : EntOK TabW (callN TbW (n + 129 + 1)) e129 := ent_ok tabOK (E := [e106]) (F := h129) (List.forall_mem_cons.2 ⟨(show EntOK TabW (callN TbW (n + 129)) e106 from o106 (n + 22)), List.forall_mem_nil _⟩) (by kernel_rfl) c129
def e130 : Ent AW := ⟨125, [lv 19, lv 19], [([.leaf .b], [])], fun (t : ((List RAck) × (List RAck))) => laws_eqAckS t.1 t.2⟩
theorem c130 (t : ((List RAck) × (List RAck))) : sxFn (A := AW) [e129] h130 e130.args e130.res t = e130.fn t := by kernel_rfl
theorem o130 (n : Nat) : EntOK TabW (callN TbW (n + 130 + 1)) e130 := ent_ok tabOK (E := [e129]) (F := h130) (List.forall_mem_cons.2 ⟨(show EntOK TabW (callN TbW (n + 130)) e129 from o129 (n + 0)), List.forall_mem_nil _⟩) (by kernel_rfl) c130
def e131 : Ent AW := ⟨145, [.row 20 .v, .row 20 .v], [([.leaf .b], [])], fun (t : (RGot × RGot)) => laws_eqGot t.1 t.2⟩
theorem c131 (t : (RGot × RGot)) : sxFn (A := AW) [e112, e114] h131 e131.args e131.res t = e131.fn t := by kernel_rfl
theorem o131 (n : Nat) : EntOK TabW (callN TbW (n + 131 + 1)) e131 := ent_ok tabOK (E := [e112, e114]) (F := h131) (List.forall_mem_cons.2 ⟨(show EntOK TabW (callN TbW (n + 131)) e112 from o112 (n + 18)), List.forall_mem_cons.2 ⟨(show EntOK TabW (callN TbW (n + 131)) e114 from o114 (n + 16)), List.forall_mem_nil _⟩⟩) (by kernel_rfl) c131
def e132 : Ent AW := ⟨142, [lv 20, lv 20], [([.leaf .b], [])], fun (t : ((List RGot) × (List RGot))) => laws_eqGotS t.1 t.2⟩
theorem c132 (t : ((List RGot) × (List RGot))) : sxFn (A := AW) [e131] h132 e132.args e132.res t = e132.fn t := by kernel_rfl
theorem o132 (n : Nat) : EntOK TabW (callN TbW (n + 132 + 1)) e132 := ent_ok tabOK (E := [e131]) (F := h132) (List.forall_mem_cons.2 ⟨(show EntOK TabW (callN TbW (n + 132)) e131 from o131 (n + 0)), List.forall_mem_nil _⟩) (by kernel_rfl) c132
def e133 : Ent AW := ⟨139, [.row 21 .v, .row 21 .v], [([.leaf .b], [])], fun (t : (RWait × RWait)) => laws_eqWait t.1 t.2⟩
theorem c133 (t : (RWait × RWait)) : sxFn (A := AW) [e106, e111, e132] h133 e133.args e133.res t = e133.fn t := by kernel_rfl
theorem o133 (n : Nat) : EntOK TabW (callN TbW (n + 133 + 1)) e133 := ent_ok tabOK (E := [e106, e111, e132]) (F := h133) (List.forall_mem_cons.2 ⟨(show EntOK TabW (callN TbW (n + 133)) e106 from o106 (n + 26)), List.forall_mem_cons.2 ⟨(show EntOK TabW (callN TbW (n + 133)) e111 from o111 (n + 21)), List.forall_mem_cons.2 ⟨(show EntOK TabW (callN TbW (n + 133)) e132 from o132 (n + 0)), List.forall_mem_nil _⟩⟩⟩) (by kernel_rfl) c133
def e134 : Ent AW := ⟨126, [lv 21, lv 21], [([.leaf .b], [])], fun (t : ((List RWait) × (List RWait))) => laws_eqWaitS t.1 t.2⟩
theorem c134 (t : ((List RWait) × (List RWait))) : sxFn (A := AW) [e133] h134 e134.args e134.res t = e134.fn t := by kernel_rfl
theorem o134 (n : Nat) : EntOK TabW (callN TbW (n + 134 + 1)) e134 := ent_ok tabOK (E := [e133]) (F := h134) (List.forall_mem_cons.2 ⟨(show EntOK TabW (callN TbW (n + 134)) e133 from o133 (n + 0)), List.forall_mem_nil _⟩) (by kernel_rfl) c134
def e135 : Ent AW := ⟨93, [.row 23 .v, .row 23 .v], [([.leaf .b], [])], fun (t : (RLine × RLine)) => laws_eqLine t.1 t.2⟩
theorem c135 (t : (RLine × RLine)) : sxFn (A := AW) [e116, e119, e120, e128, e130, e134] h135 e135.args e135.res t = e135.fn t := by kernel_rfl
theorem o135 (n : Nat) : EntOK TabW (callN TbW (n + 135 + 1)) e135 := ent_ok tabOK (E := [e116, e119, e120, e128, e130, e134]) (F := h135) (List.forall_mem_cons.2 ⟨(show EntOK TabW (callN TbW (n + 135)) e116 from o116 (n + 18)), List.forall_mem_cons.2 ⟨(show EntOK TabW (callN TbW (n + 135)) e119 from o119 (n + 15)), List.forall_mem_cons.2 ⟨(show EntOK TabW (callN TbW (n + 135)) e120 from o120 (n + 14)), List.forall_mem_cons.2 ⟨(show EntOK TabW (callN TbW (n + 135)) e128 from o128 (n + 6)), List.forall_mem_cons.2 ⟨(show EntOK TabW (callN TbW (n + 135)) e130 from o130 (n + 4)), List.forall_mem_cons.2 ⟨(show EntOK TabW (callN TbW (n + 135)) e134 from o134 (n + 0)), List.forall_mem_nil _⟩⟩⟩⟩⟩⟩) (by kernel_rfl) c135
def e136 : Ent AW := ⟨49, [.row 24 .v, .row 24 .v], [([.leaf .b], [])], fun (t : (RLead × RLead)) => laws_eqLead t.1 t.2⟩
theorem c136 (t : (RLead × RLead)) : sxFn (A := AW) [e105, e115, e116, e119, e120, e122, e124, e126, e135] h136 e136.args e136.res t = e136.fn t := by kernel_rfl
theorem o136 (n : Nat) : EntOK TabW (callN TbW (n + 136 + 1)) e136 := ent_ok tabOK (E := [e105, e115, e116, e119, e120, e122, e124, e126, e135]) (F := h136) (List.forall_mem_cons.2 ⟨(show EntOK TabW (callN TbW (n + 136)) e105 from o105 (n + 30)), List.forall_mem_cons.2 ⟨(show EntOK TabW (callN TbW (n + 136)) e115 from o115 (n + 20)), List.forall_mem_cons.2 ⟨(show EntOK TabW (callN TbW (n + 136)) e116 from o116 (n + 19)), List.forall_mem_cons.2 ⟨(show EntOK TabW (callN TbW (n + 136)) e119 from o119 (n + 16)), List.forall_mem_cons.2 ⟨(show EntOK TabW (callN TbW (n + 136)) e120 from o120 (n + 15)), List.forall_mem_cons.2 ⟨(show EntOK TabW (callN TbW (n + 136)) e122 from o122 (n + 13)), List.forall_mem_cons.2 ⟨(show EntOK TabW (callN TbW (n + 136)) e124 from o124 (n + 11)), List.forall_mem_cons.2 ⟨(show EntOK TabW (callN TbW (n + 136)) e126 from o126 (n + 9)), List.forall_mem_cons.2 ⟨(show EntOK TabW (callN TbW (n + 136)) e135 from o135 (n + 0)), List.forall_mem_nil _⟩⟩⟩⟩⟩⟩⟩⟩⟩) (by kernel_rfl) c136
def e137 : Ent AW := ⟨24, [lv 24, lv 24], [([.leaf .b], [])], fun (t : ((List RLead) × (List RLead))) => laws_eqLeadS t.1 t.2⟩
theorem c137 (t : ((List RLead) × (List RLead))) : sxFn (A := AW) [e136] h137 e137.args e137.res t = e137.fn t := by kernel_rfl
theorem o137 (n : Nat) : EntOK TabW (callN TbW (n + 137 + 1)) e137 := ent_ok tabOK (E := [e136]) (F := h137) (List.forall_mem_cons.2 ⟨(show EntOK TabW (callN TbW (n + 137)) e136 from o136 (n + 0)), List.forall_mem_nil _⟩) (by kernel_rfl) c137
def e138 : Ent AW := ⟨97, [.row 25 .v, .row 25 .v], [([.leaf .b], [])], fun (t : (ROp × ROp)) => laws_eqOp t.1 t.2⟩
theorem c138 (t : (ROp × ROp)) : sxFn (A := AW) [] h138 e138.args e138.res t = e138.fn t := by kernel_rfl
theorem o138 (n : Nat) : EntOK TabW (callN TbW (n + 138 + 1)) e138 := ent_ok tabOK (E := []) (F := h138) (List.forall_mem_nil _) (by kernel_rfl) c138
def e139 : Ent AW := ⟨50, [.row 26 .v, .row 26 .v], [([.leaf .b], [])], fun (t : (RMsg × RMsg)) => laws_eqMsg t.1 t.2⟩
theorem c139 (t : (RMsg × RMsg)) : sxFn (A := AW) [e105, e106, e111, e112, e114, e116, e138] h139 e139.args e139.res t = e139.fn t := by kernel_rfl
theorem o139 (n : Nat) : EntOK TabW (callN TbW (n + 139 + 1)) e139 := ent_ok tabOK (E := [e105, e106, e111, e112, e114, e116, e138]) (F := h139) (List.forall_mem_cons.2 ⟨(show EntOK TabW (callN TbW (n + 139)) e105 from o105 (n + 33)), List.forall_mem_cons.2 ⟨(show EntOK TabW (callN TbW (n + 139)) e106 from o106 (n + 32)), List.forall_mem_cons.2 ⟨(show EntOK TabW (callN TbW (n + 139)) e111 from o111 (n + 27)), List.forall_mem_cons.2 ⟨(show EntOK TabW (callN TbW (n + 139)) e112 from o112 (n + 26)), List.forall_mem_cons.2 ⟨(show EntOK TabW (callN TbW (n + 139)) e114 from o114 (n + 24)), List.forall_mem_cons.2 ⟨(show EntOK TabW (callN TbW (n + 139)) e116 from o116 (n + 22)), List.forall_mem_cons.2 ⟨(show EntOK TabW (callN TbW (n + 139)) e138 from o138 (n + 0)), List.forall_mem_nil _⟩⟩⟩⟩⟩⟩⟩) (by kernel_rfl) c139
def e140 : Ent AW := ⟨25, [lv 26, lv 26], [([.leaf .b], [])], fun (t : ((List RMsg) × (List RMsg))) => laws_eqMsgS t.1 t.2⟩
theorem c140 (t : ((List RMsg) × (List RMsg))) : sxFn (A := AW) [e139] h140 e140.args e140.res t = e140.fn t := by kernel_rfl
theorem o140 (n : Nat) : EntOK TabW (callN TbW (n + 140 + 1)) e140 := ent_ok tabOK (E := [e139]) (F := h140) (List.forall_mem_cons.2 ⟨(show EntOK TabW (callN TbW (n + 140)) e139 from o139 (n + 0)), List.forall_mem_nil _⟩) (by kernel_rfl) c140
def e141 : Ent AW := ⟨8, [.row 28 .v, .row 28 .v], [([.leaf .b], [])], fun (t : (RServer × RServer)) => laws_eqServer t.1 t.2⟩
theorem c141 (t : (RServer × RServer)) : sxFn (A := AW) [e118, e137, e140] h141 e141.args e141.res t = e141.fn t := by kernel_rfl
theorem o141 (n : Nat) : EntOK TabW (callN TbW (n + 141 + 1)) e141 := ent_ok tabOK (E := [e118, e137, e140]) (F := h141) (List.forall_mem_cons.2 ⟨(show EntOK TabW (callN TbW (n + 141)) e118 from o118 (n + 22)), List.forall_mem_cons.2 ⟨(show EntOK TabW (callN TbW (n + 141)) e137 from o137 (n + 3)), List.forall_mem_cons.2 ⟨(show EntOK TabW (callN TbW (n + 141)) e140 from o140 (n + 0)), List.forall_mem_nil _⟩⟩⟩) (by kernel_rfl) c141
def e142 : Ent AW := ⟨3, [.row 28 .v, .row 28 .v], [([.leaf .b], [])], fun (t : (RServer × RServer)) => laws_FnExactSameServer t.1 t.2⟩
theorem c142 (t : (RServer × RServer)) : sxFn (A := AW) [e30, e67, e79, e104, e141] h142 e142.args e142.res t = e142.fn t := by kernel_rfl
theorem o142 (n : Nat) : EntOK TabW (callN TbW (n + 142 + 1)) e142 := ent_ok tabOK (E := [e30, e67, e79, e104, e141]) (F := h142) (List.forall_mem_cons.2 ⟨(show EntOK TabW (callN TbW (n + 142)) e30 from o30 (n + 111)), List.forall_mem_cons.2 ⟨(show EntOK TabW (callN TbW (n + 142)) e67 from o67 (n + 74)), List.forall_mem_cons.2 ⟨(show EntOK TabW (callN TbW (n + 142)) e79 from o79 (n + 62)), List.forall_mem_cons.2 ⟨(show EntOK TabW (callN TbW (n + 142)) e104 from o104 (n + 37)), List.forall_mem_cons.2 ⟨(show EntOK TabW (callN TbW (n + 142)) e141 from o141 (n + 0)), List.forall_mem_nil _⟩⟩⟩⟩⟩) (by kernel_rfl) c142
end Go.Proofs.Vai
