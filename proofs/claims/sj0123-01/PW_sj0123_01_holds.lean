import PyProof.Rows.All
import Wide.All
import OpenK.AllK
import Wide.FinOn
import KE.BytesMake
import KE.KDictSum
import KE.KSorted
import KE.LcTurns
import KE.KSetAt
import KE.KBytesCut
import PyProof.WalksEnum
import KE.KDictOf
import PyProof.AttrMissHeap
import Lean
import PySem.Challenge.RW_sj0123_01
set_option Elab.async false
set_option maxRecDepth 100000
set_option maxHeartbeats 0
open PySem PySem.W PyProof.Rows PySem.Calls
set_option linter.all false
noncomputable section
namespace Mine
section
set_option compiler.extract_closed false in
def aRf : Lean.Syntax := .node .none `Lean.Parser.Tactic.tacticSeq #[.node .none `Lean.Parser.Tactic.tacticSeq1Indented #[.node .none `null #[.node .none `Lean.Parser.Tactic.intros #[Lean.mkAtom "intros", .node .none `null #[]], Lean.mkAtom ";", .node .none `Lean.Parser.Tactic.tacticRfl #[Lean.mkAtom "rfl"]]]]
set_option compiler.extract_closed false in
def aUn : Lean.Syntax := .node .none `Lean.Parser.Tactic.tacticSeq #[.node .none `Lean.Parser.Tactic.tacticSeq1Indented #[.node .none `null #[.node .none `Lean.Parser.Tactic.withUnfoldingAll #[Lean.mkAtom "with_unfolding_all", .node .none `Lean.Parser.Tactic.tacticSeq #[.node .none `Lean.Parser.Tactic.tacticSeq1Indented #[.node .none `null #[.node .none `Lean.Parser.Tactic.tacticRfl #[Lean.mkAtom "rfl"]]]]]]]]
end
section
set_option maxRecDepth 1000000
abbrev pw : Program := PySem.Challenge.pw_sj0123_01
abbrev row : Str → String := fun _ => "special-get-raises"
noncomputable def Pr (den : Code → Sem Fin) (p : Program) (w : World) (n₀ : Nat) (ann : Option Value) : Nat → SharedT → Thread → Option SharedT
  | 0, _, _ => none
  | n + 1, s, t => match through t with
    | true => some s
    | false => match PySem.W.Fast.tw6613529449190102663 n₀ ann t with
      | false => none
      | true => match PySem.W.Fast.tw10156331382660048174 den p w s t with
        | some (s', t') => Pr den p w n₀ ann n s' t'
        | none => none
theorem Mo {p : Program} {w : World} {n₀ : Nat} {ann : Option Value} : ∀ {n : Nat} {s s' : SharedT} {t : Thread},
    Pr (PySem.W.Fast.tw11892475500146522536 PySem.W.Fast.tw14364793385576792824) p w n₀ ann n s t = some s' → topRun treeTable p w n₀ ann n s.abs t = some s'.abs
  | 0, _, _, _, h => by cases h
  | n + 1, s, s', t, h => by
    unfold Pr at h
    unfold topRun
    cases ht : through t with
    | true => rw [ht] at h; cases h; rfl
    | false =>
      rw [ht] at h
      dsimp only at h ⊢
      rw [PySem.W.Fast.te6613529449190102663]
      cases hk : PySem.W.Fast.tw6613529449190102663 n₀ ann t with
      | false => rw [hk] at h; cases h
      | true =>
        rw [hk] at h
        dsimp only at h ⊢
        cases hs : PySem.W.Fast.tw10156331382660048174 (PySem.W.Fast.tw11892475500146522536 PySem.W.Fast.tw14364793385576792824) p w s t with
        | none => rw [hs] at h; cases h
        | some r =>
          obtain ⟨s₂, t₂⟩ := r
          rw [hs] at h
          dsimp only at h
          have hs' : stepT (denote treeTable) p w s t = some (s₂, t₂) := by
            rw [PySem.W.Fast.te10156331382660048174, PySem.W.Fast.te11892475500146522536, PySem.W.Fast.te14364793385576792824]
            exact hs
          rw [stepT_spec hs']
          exact Mo h
noncomputable def Us (P : Params) : BT :=
  ((((((((((BT.nil.ins 0 (boot_o_0 P)).ins 1 (boot_o_1 P)).ins 2 (boot_o_2 P)).ins 3 (boot_o_3 P)).ins 4 (boot_o_4 P)).ins 5 (boot_o_5 P)).ins 6 (boot_o_6 P)).ins 7 (boot_o_7 P)).ins 8 (boot_o_8 P)).ins 9 (boot_o_9 P)).ins 10 (boot_o_10 P)
noncomputable def OP (w : World) (os : OsState) : SharedT := ⟨Us w.params, 11, (boot_heap w.params).life, Array.mk [], boot_drawn, boot_toks, os⟩
theorem PQ (w : World) (os : OsState) : (OP w os).abs = ⟨boot_heap w.params, Array.mk [], boot_drawn, boot_toks, os⟩ := by kernel_rfl!
theorem Pq (w : World) : ((boot_heap w.params).isNs mainGlobals && (Array.mk [] : Array GenState).size == 0, (boot_heap w.params).objs.size, (boot_heap w.params).nsMap mainGlobals "__annotations__") = (true, 11, some (.ref 6)) := by kernel_rfl!
section
variable {q : Program} {loose : List Str} {Xt : Shared → Bool} {α : Type} {Yf : Shared → α} {Ya : World → α} {N : Nat}
noncomputable def Rg (q : Program) (loose : List Str) (Xt : Shared → Bool) {α : Type} (Yf : Shared → α) (w : World) (s : Shared) :=
  (staticsOk (importedModules pw.main.body) (boot_heap w.params) s.heap && namesBound pw s.heap && gensDone s && laidKept (boot_heap w.params) s.heap,
   PySem.W.Fast.tw4187177175401517315 q loose (importedModules pw.main.body) Xt true s, Yf s)
theorem RB (row : String) (hN : Nat.ble 600 N = true)
    (hf : ∀ (w : World) (os : OsState), (Pr (PySem.W.Fast.tw11892475500146522536 PySem.W.Fast.tw14364793385576792824) pw (w.withFollow row false) 11 (some (.ref 6)) N (OP (w.withFollow row false) os) (topStub pw)).map (fun s => Rg q loose Xt Yf (w.withFollow row false) s.abs) = some (true, openGood q loose, Ya (w.withFollow row false)))
    (ht : ∀ (w : World) (os : OsState), (Pr (PySem.W.Fast.tw11892475500146522536 PySem.W.Fast.tw14364793385576792824) pw (w.withFollow row true) 11 (some (.ref 6)) N (OP (w.withFollow row true) os) (topStub pw)).map (fun s => Rg q loose Xt Yf (w.withFollow row true) s.abs) = some (true, openGood q loose, Ya (w.withFollow row true))) :
    LeftO pw q loose Xt Yf Ya N := fun w => by
  obtain ⟨⟨h, gs, d, k, os⟩, e, e'⟩ := Option.map_eq_some_iff.mp (boot_open (p := pw) (N := N) rfl hN (fun _ => rfl) w)
  obtain ⟨rfl, rfl, rfl, rfl⟩ : h = boot_heap w.params ∧ gs = Array.mk [] ∧ d = boot_drawn ∧ k = boot_toks := by simpa using e'
  unfold openEnds
  rw [e]
  show (topFrom treeTable pw w N ⟨boot_heap w.params, Array.mk [], boot_drawn, boot_toks, os⟩).map _ = _
  have core := byRow2 row (P := fun w => ∀ os, (Pr (PySem.W.Fast.tw11892475500146522536 PySem.W.Fast.tw14364793385576792824) pw w 11 (some (.ref 6)) N (OP w os) (topStub pw)).map (fun s => Rg q loose Xt Yf w s.abs) = some (true, openGood q loose, Ya w)) hf ht w os
  obtain ⟨S, hS, hE⟩ := Option.map_eq_some_iff.mp core
  have hr := Mo hS
  rw [PQ] at hr
  obtain ⟨z1, z2, z3⟩ : _ ∧ _ ∧ _ := by simpa only [Prod.mk.injEq] using Pq w
  unfold Rg at hE
  rw [← PySem.W.Fast.te4187177175401517315] at hE
  obtain ⟨l1, l2, l3⟩ : _ ∧ _ ∧ _ := by simpa only [Prod.mk.injEq] using hE
  have t : topFrom treeTable pw w N ⟨boot_heap w.params, Array.mk [], boot_drawn, boot_toks, os⟩ = some S.abs := by
    unfold topFrom
    dsimp only
    rw [z1, z2, z3, hr]
    show (match staticsOk (importedModules pw.main.body) (boot_heap w.params) S.abs.heap && namesBound pw S.abs.heap && gensDone S.abs && laidKept (boot_heap w.params) S.abs.heap with | true => _ | false => _) = _
    rw [l1]
  rw [t]
  exact congrArg some (Prod.ext l2 l3)
end
abbrev en (P : Params) (n : String) (t : Tok) (v : Value) : DictEntry := ⟨PyData.keyHash P (Str.ofString n), .str (Str.ofString n) t, v⟩
@[reducible] def PA : Option Stmt → Arguments × List Stmt × Scope
  | some (.FunctionDef _ ps b _ _ _ sc _ _ _) => (ps, b, sc)
  | _ => ({ posonlyargs := [], args := [], vararg := none, kwonlyargs := [], kw_defaults := [], kwarg := none, defaults := [] }, [], { kind := .function, names := [], isGenerator := false, isCoroutine := false })
@[reducible] def RV : Option Stmt → List Stmt
  | some (.ClassDef _ _ _ b _ _ _ _ _ _ _) => b
  | _ => []
@[reducible] def dT (i : Nat) : Arguments × List Stmt × Scope := PA (pw.main.body[i]?)
@[reducible] def dM (i j : Nat) : Arguments × List Stmt × Scope := PA ((RV (pw.main.body[i]?))[j]?)
noncomputable def KK : Params → Frag := fun P =>
  (nat_lit 2, ⟨.none, none, .dict #[en P "type.__subclasses__.Exception.0" (nat_lit 235) (.int 38 0), en P "type.__subclasses__.Exception.n" (nat_lit 236) (.int 1 0)] 2, #[]⟩) ::
  (nat_lit 3, ⟨(.type "dict"), none, .dict #[en P "__name__" (nat_lit 165) (.str (Str.ofString "law_sj0123_01") (nat_lit 1401)), en P "__doc__" (nat_lit 166) .none, en P "__package__" (nat_lit 167) .none, en P "__loader__" (nat_lit 168) (.builtin "__main__.__loader__#opaque"), en P "__spec__" (nat_lit 169) .none, en P "__annotations__" (nat_lit 170) (.ref 6), en P "__builtins__" (nat_lit 171) (.ref 4), en P "__file__" (nat_lit 173) (.str (Str.ofString "/claim/cut.py") (nat_lit 172)), en P "__cached__" (nat_lit 174) .none, en P "_wall" (nat_lit 193) (.ref 21), en P "INTERNAL_ERROR" (nat_lit 197) (.int 1 (nat_lit 196)), en P "FLOW_CONTROL_ERROR" (nat_lit 199) (.int 3 (nat_lit 198)), en P "STREAM_LIMIT_ERROR" (nat_lit 201) (.int 4 (nat_lit 200)), en P "STREAM_STATE_ERROR" (nat_lit 203) (.int 5 (nat_lit 202)), en P "FINAL_SIZE_ERROR" (nat_lit 205) (.int 6 (nat_lit 204)), en P "QuicError" (nat_lit 238) (.ref 38), en P "VARINT_SIZES" (nat_lit 245) (.ref 42), en P "put_whole" (nat_lit 255) (.ref 49), en P "varint_size" (nat_lit 263) (.ref 56), en P "put_varint" (nat_lit 272) (.ref 63), en P "Credit" (nat_lit 343) (.ref 115), en P "Window" (nat_lit 407) (.ref 164), en P "PING" (nat_lit 409) (.int 1 (nat_lit 408)), en P "ACK" (nat_lit 411) (.int 2 (nat_lit 410)), en P "ACK_ECN" (nat_lit 413) (.int 3 (nat_lit 412)), en P "RESET_STREAM" (nat_lit 415) (.int 4 (nat_lit 414)), en P "STOP_SENDING" (nat_lit 417) (.int 5 (nat_lit 416)), en P "CRYPTO" (nat_lit 419) (.int 6 (nat_lit 418)), en P "NEW_TOKEN" (nat_lit 421) (.int 7 (nat_lit 420)), en P "STREAM" (nat_lit 423) (.int 8 (nat_lit 422)), en P "MAX_DATA" (nat_lit 425) (.int 16 (nat_lit 424)), en P "MAX_STREAM_DATA" (nat_lit 427) (.int 17 (nat_lit 426)), en P "MAX_STREAMS_BIDI" (nat_lit 429) (.int 18 (nat_lit 428)), en P "MAX_STREAMS_UNI" (nat_lit 431) (.int 19 (nat_lit 430)), en P "DATA_BLOCKED" (nat_lit 433) (.int 20 (nat_lit 432)), en P "STREAM_DATA_BLOCKED" (nat_lit 435) (.int 21 (nat_lit 434)), en P "STREAMS_BLOCKED_BIDI" (nat_lit 437) (.int 22 (nat_lit 436)), en P "STREAMS_BLOCKED_UNI" (nat_lit 439) (.int 23 (nat_lit 438)), en P "NEW_CONNECTION_ID" (nat_lit 441) (.int 24 (nat_lit 440)), en P "RETIRE_CONNECTION_ID" (nat_lit 443) (.int 25 (nat_lit 442)), en P "PATH_CHALLENGE" (nat_lit 445) (.int 26 (nat_lit 444)), en P "PATH_RESPONSE" (nat_lit 447) (.int 27 (nat_lit 446)), en P "CLOSE" (nat_lit 449) (.int 28 (nat_lit 448)), en P "CLOSE_APPLICATION" (nat_lit 451) (.int 29 (nat_lit 450)), en P "HANDSHAKE_DONE" (nat_lit 453) (.int 30 (nat_lit 452)), en P "BIT_FIN" (nat_lit 455) (.int 1 (nat_lit 454)), en P "BIT_LENGTH" (nat_lit 457) (.int 2 (nat_lit 456)), en P "BIT_OFFSET" (nat_lit 459) (.int 4 (nat_lit 458)), en P "NUMBER_FRAMES" (nat_lit 480) (.ref 169), en P "put_numbers" (nat_lit 486) (.ref 174), en P "put_counted" (nat_lit 493) (.ref 181), en P "ack_numbers" (nat_lit 506) (.ref 188), en P "put_ack" (nat_lit 520) (.ref 195), en P "put_stream" (nat_lit 535) (.ref 202), en P "put_new_cid" (nat_lit 547) (.ref 209), en P "put_close" (nat_lit 558) (.ref 216), en P "put_octets_frame" (nat_lit 566) (.ref 223), en P "put_frame" (nat_lit 575) (.ref 230), en P "frame_size" (nat_lit 582) (.ref 237), en P "stream_room" (nat_lit 592) (.ref 244), en P "add_piece" (nat_lit 612) (.ref 251), en P "taken_from" (nat_lit 624) (.ref 258), en P "covered" (nat_lit 630) (.ref 263), en P "cut_span" (nat_lit 644) (.ref 270), en P "has_span" (nat_lit 655) (.ref 277), en P "first_span" (nat_lit 665) (.ref 284), en P "RECEIVING" (nat_lit 669) (.str (Str.ofString "recv") (nat_lit 668)), en P "SIZE_KNOWN" (nat_lit 671) (.str (Str.ofString "size_known") (nat_lit 670)), en P "DATA_RECEIVED" (nat_lit 673) (.str (Str.ofString "data_recvd") (nat_lit 672)), en P "DATA_READ" (nat_lit 675) (.str (Str.ofString "data_read") (nat_lit 674)), en P "RESET_RECEIVED" (nat_lit 677) (.str (Str.ofString "reset_recvd") (nat_lit 676)), en P "RESET_READ" (nat_lit 679) (.str (Str.ofString "reset_read") (nat_lit 678)), en P "FRAME_RESET" (nat_lit 681) (.int 4 (nat_lit 680)), en P "FRAME_STREAM" (nat_lit 683) (.int 8 (nat_lit 682)), en P "RecvPart" (nat_lit 807) (.ref 371), en P "READY" (nat_lit 811) (.str (Str.ofString "ready") (nat_lit 810)), en P "SENDING" (nat_lit 813) (.str (Str.ofString "send") (nat_lit 812)), en P "DATA_SENT" (nat_lit 815) (.str (Str.ofString "data_sent") (nat_lit 814)), en P "RESET_SENT" (nat_lit 817) (.str (Str.ofString "reset_sent") (nat_lit 816)), en P "OPEN_STATES" (nat_lit 818) (.ref 376), en P "SendPart" (nat_lit 983) (.ref 498), en P "CLIENT" (nat_lit 987) (.str (Str.ofString "client") (nat_lit 986)), en P "SERVER" (nat_lit 989) (.str (Str.ofString "server") (nat_lit 988)), en P "SENDING_FRAMES" (nat_lit 993) (.ref 503), en P "FRAME_TYPES" (nat_lit 1009) (.ref 504), en P "stream_id" (nat_lit 1018) (.ref 511), en P "number_of" (nat_lit 1025) (.ref 518), en P "opener_of" (nat_lit 1032) (.ref 525), en P "is_one_way" (nat_lit 1039) (.ref 532), en P "can_send" (nat_lit 1047) (.ref 539), en P "can_receive" (nat_lit 1055) (.ref 546), en P "StreamIds" (nat_lit 1141) (.ref 603), en P "own_window" (nat_lit 1152) (.ref 614), en P "peer_window" (nat_lit 1161) (.ref 621), en P "StreamSet" (nat_lit 1400) (.ref 790), en P "_law_SIDS" (nat_lit 1406) (.ref 795), en P "_law_take" (nat_lit 1414) (.ref 802), en P "_law_octets" (nat_lit 1420) (.ref 807), en P "_law_made" (nat_lit 1432) (.ref 814), en P "_law_limits" (nat_lit 1438) (.ref 819), en P "_law_goes" (nat_lit 1447) (.ref 826), en P "_law_is_most" (nat_lit 1453) (.ref 831), en P "_law_run" (nat_lit 1459) (.ref 836), en P "law" (nat_lit 1465) (.ref 841)] 104, #[]⟩) ::
  (nat_lit 42, ⟨(.type "tuple"), none, .seq #[(.int 1 (nat_lit 241)), (.int 2 (nat_lit 242)), (.int 4 (nat_lit 243)), (.int 8 (nat_lit 244))] 0, #[]⟩) ::
  (nat_lit 48, ⟨(.type "code"), none, .fields #[(.str (Str.ofString "put_whole") (nat_lit 246)), (.str (Str.ofString "put_whole") (nat_lit 247)), (.str (Str.ofString "/claim/cut.py") (nat_lit 248)), (.int 19 0), (.int 2 0), (.int 0 0), (.int 0 0), (.int 3 0), (.ref 43), (.bool true), (.int 181 0), (.ref 44), .none, (.ref 45), (.ref 46), (.ref 47), (.int 253 0), (.int 19 0), (.str (Str.ofString "/claim/cut.py") (nat_lit 254))], #[]⟩) ::
  (nat_lit 49, ⟨(.type "function"), none, .func (fnOf (Str.ofString "put_whole") (Str.ofString "put_whole") (dT 10).1 (dT 10).2.1 (dT 10).2.2 .none .none .none (.str (Str.ofString "quic.varint") (nat_lit 239)) none (.ref 48) .none), #[]⟩) ::
  (nat_lit 55, ⟨(.type "code"), none, .fields #[(.str (Str.ofString "varint_size") (nat_lit 256)), (.str (Str.ofString "varint_size") (nat_lit 257)), (.str (Str.ofString "/claim/cut.py") (nat_lit 258)), (.int 27 0), (.int 1 0), (.int 0 0), (.int 0 0), (.int 3 0), (.ref 50), (.bool true), (.int 181 0), (.ref 51), .none, (.ref 52), (.ref 53), (.ref 54), (.int 261 0), (.int 27 0), (.str (Str.ofString "/claim/cut.py") (nat_lit 262))], #[]⟩) ::
  (nat_lit 56, ⟨(.type "function"), none, .func (fnOf (Str.ofString "varint_size") (Str.ofString "varint_size") (dT 11).1 (dT 11).2.1 (dT 11).2.2 .none .none .none (.str (Str.ofString "quic.varint") (nat_lit 239)) none (.ref 55) .none), #[]⟩) ::
  (nat_lit 62, ⟨(.type "code"), none, .fields #[(.str (Str.ofString "put_varint") (nat_lit 264)), (.str (Str.ofString "put_varint") (nat_lit 265)), (.str (Str.ofString "/claim/cut.py") (nat_lit 266)), (.int 32 0), (.int 2 0), (.int 0 0), (.int 0 0), (.int 3 0), (.ref 57), (.bool true), (.int 181 0), (.ref 58), .none, (.ref 59), (.ref 60), (.ref 61), (.int 270 0), (.int 32 0), (.str (Str.ofString "/claim/cut.py") (nat_lit 271))], #[]⟩) ::
  (nat_lit 63, ⟨(.type "function"), none, .func (fnOf (Str.ofString "put_varint") (Str.ofString "put_varint") (dT 12).1 (dT 12).2.1 (dT 12).2.2 .none .none .none (.str (Str.ofString "quic.varint") (nat_lit 239)) none (.ref 62) .none), #[]⟩) ::
  (nat_lit 76, ⟨(.type "code"), none, .fields #[(.str (Str.ofString "__init__") (nat_lit 287)), (.str (Str.ofString "Credit.__init__") (nat_lit 288)), (.str (Str.ofString "/claim/cut.py") (nat_lit 289)), (.int 42 0), (.int 2 0), (.int 0 0), (.int 0 0), (.int 3 0), (.ref 71), (.bool true), (.int 181 0), (.ref 72), .none, (.ref 73), (.ref 74), (.ref 75), (.int 292 0), (.int 42 0), (.str (Str.ofString "/claim/cut.py") (nat_lit 293))], #[]⟩) ::
  (nat_lit 77, ⟨(.type "function"), none, .func (fnOf (Str.ofString "__init__") (Str.ofString "Credit.__init__") (dM 14 0).1 (dM 14 0).2.1 (dM 14 0).2.2 .none .none .none (.str (Str.ofString "quic.flow") (nat_lit 273)) none (.ref 76) .none), #[]⟩) ::
  (nat_lit 83, ⟨(.type "code"), none, .fields #[(.str (Str.ofString "room") (nat_lit 295)), (.str (Str.ofString "Credit.room") (nat_lit 296)), (.str (Str.ofString "/claim/cut.py") (nat_lit 297)), (.int 47 0), (.int 1 0), (.int 0 0), (.int 0 0), (.int 3 0), (.ref 78), (.bool true), (.int 181 0), (.ref 79), .none, (.ref 80), (.ref 81), (.ref 82), (.int 299 0), (.int 47 0), (.str (Str.ofString "/claim/cut.py") (nat_lit 300))], #[]⟩) ::
  (nat_lit 84, ⟨(.type "function"), none, .func (fnOf (Str.ofString "room") (Str.ofString "Credit.room") (dM 14 1).1 (dM 14 1).2.1 (dM 14 1).2.2 .none .none .none (.str (Str.ofString "quic.flow") (nat_lit 273)) none (.ref 83) .none), #[]⟩) ::
  (nat_lit 90, ⟨(.type "code"), none, .fields #[(.str (Str.ofString "spend") (nat_lit 302)), (.str (Str.ofString "Credit.spend") (nat_lit 303)), (.str (Str.ofString "/claim/cut.py") (nat_lit 304)), (.int 50 0), (.int 2 0), (.int 0 0), (.int 0 0), (.int 3 0), (.ref 85), (.bool true), (.int 181 0), (.ref 86), .none, (.ref 87), (.ref 88), (.ref 89), (.int 307 0), (.int 50 0), (.str (Str.ofString "/claim/cut.py") (nat_lit 308))], #[]⟩) ::
  (nat_lit 91, ⟨(.type "function"), none, .func (fnOf (Str.ofString "spend") (Str.ofString "Credit.spend") (dM 14 2).1 (dM 14 2).2.1 (dM 14 2).2.2 .none .none .none (.str (Str.ofString "quic.flow") (nat_lit 273)) none (.ref 90) .none), #[]⟩) ::
  (nat_lit 97, ⟨(.type "code"), none, .fields #[(.str (Str.ofString "raise_to") (nat_lit 310)), (.str (Str.ofString "Credit.raise_to") (nat_lit 311)), (.str (Str.ofString "/claim/cut.py") (nat_lit 312)), (.int 55 0), (.int 2 0), (.int 0 0), (.int 0 0), (.int 3 0), (.ref 92), (.bool true), (.int 181 0), (.ref 93), .none, (.ref 94), (.ref 95), (.ref 96), (.int 315 0), (.int 55 0), (.str (Str.ofString "/claim/cut.py") (nat_lit 316))], #[]⟩) ::
  (nat_lit 98, ⟨(.type "function"), none, .func (fnOf (Str.ofString "raise_to") (Str.ofString "Credit.raise_to") (dM 14 3).1 (dM 14 3).2.1 (dM 14 3).2.2 .none .none .none (.str (Str.ofString "quic.flow") (nat_lit 273)) none (.ref 97) .none), #[]⟩) ::
  (nat_lit 114, ⟨(.type "dict"), none, .dict #[en P "__module__" (nat_lit 282) (.str (Str.ofString "quic.flow") (nat_lit 273)), en P "__firstlineno__" (nat_lit 286) (.int 40 (nat_lit 285)), en P "__init__" (nat_lit 294) (.ref 77), en P "room" (nat_lit 301) (.ref 84), en P "spend" (nat_lit 309) (.ref 91), en P "raise_to" (nat_lit 317) (.ref 98), en P "next_blocked" (nat_lit 324) (.ref 105), en P "on_blocked_lost" (nat_lit 332) (.ref 112), en P "__static_attributes__" (nat_lit 336) (.ref 113), en P "__dict__" (nat_lit 338) (.ref 116), en P "__weakref__" (nat_lit 340) (.ref 117), en P "__doc__" (nat_lit 341) .none] 4, #[]⟩) ::
  (nat_lit 115, ⟨(.type "type"), none, .cls { name := (Str.ofString "Credit"), bases := [(.type "object")], mro := [(.ref 115), (.type "object")], ns := 114, qualname := (Str.ofString "Credit"), hasDict := true, slotNames := [], subclasses := [], abstract := false, collection := none, hasDel := false }, #[none, none, some (.str (Str.ofString "Credit") (nat_lit 275)), some (.str (Str.ofString "Credit") (nat_lit 283)), some (.builtin "object.__new__"), some (.bool true)]⟩) ::
  (nat_lit 132, ⟨(.type "code"), none, .fields #[(.str (Str.ofString "__init__") (nat_lit 356)), (.str (Str.ofString "Window.__init__") (nat_lit 357)), (.str (Str.ofString "/claim/cut.py") (nat_lit 358)), (.int 68 0), (.int 2 0), (.int 0 0), (.int 0 0), (.int 3 0), (.ref 127), (.bool true), (.int 181 0), (.ref 128), .none, (.ref 129), (.ref 130), (.ref 131), (.int 361 0), (.int 68 0), (.str (Str.ofString "/claim/cut.py") (nat_lit 362))], #[]⟩) ::
  (nat_lit 133, ⟨(.type "function"), none, .func (fnOf (Str.ofString "__init__") (Str.ofString "Window.__init__") (dM 15 0).1 (dM 15 0).2.1 (dM 15 0).2.2 .none .none .none (.str (Str.ofString "quic.flow") (nat_lit 273)) none (.ref 132) .none), #[]⟩) ::
  (nat_lit 163, ⟨(.type "dict"), none, .dict #[en P "__module__" (nat_lit 351) (.str (Str.ofString "quic.flow") (nat_lit 273)), en P "__firstlineno__" (nat_lit 355) (.int 66 (nat_lit 354)), en P "__init__" (nat_lit 363) (.ref 133), en P "on_got" (nat_lit 371) (.ref 140), en P "on_read" (nat_lit 379) (.ref 147), en P "next_limit" (nat_lit 386) (.ref 154), en P "on_limit_lost" (nat_lit 394) (.ref 161), en P "__static_attributes__" (nat_lit 400) (.ref 162), en P "__dict__" (nat_lit 402) (.ref 165), en P "__weakref__" (nat_lit 404) (.ref 166), en P "__doc__" (nat_lit 405) .none] 4, #[]⟩) ::
  (nat_lit 164, ⟨(.type "type"), none, .cls { name := (Str.ofString "Window"), bases := [(.type "object")], mro := [(.ref 164), (.type "object")], ns := 163, qualname := (Str.ofString "Window"), hasDict := true, slotNames := [], subclasses := [], abstract := false, collection := none, hasDel := false }, #[none, none, some (.str (Str.ofString "Window") (nat_lit 344)), some (.str (Str.ofString "Window") (nat_lit 352)), some (.builtin "object.__new__"), some (.bool true)]⟩) ::
  (nat_lit 169, ⟨(.type "dict"), none, .dict #[en P "ping" (nat_lit 462) (.int 1 (nat_lit 408)), en P "reset_stream" (nat_lit 463) (.int 4 (nat_lit 414)), en P "stop_sending" (nat_lit 464) (.int 5 (nat_lit 416)), en P "max_data" (nat_lit 465) (.int 16 (nat_lit 424)), en P "max_stream_data" (nat_lit 466) (.int 17 (nat_lit 426)), en P "data_blocked" (nat_lit 467) (.int 20 (nat_lit 432)), en P "stream_data_blocked" (nat_lit 468) (.int 21 (nat_lit 434)), en P "retire_connection_id" (nat_lit 469) (.int 25 (nat_lit 442)), en P "handshake_done" (nat_lit 470) (.int 30 (nat_lit 452))] 9, #[]⟩) ::
  (nat_lit 173, ⟨(.type "code"), none, .fields #[(.str (Str.ofString "put_numbers") (nat_lit 481)), (.str (Str.ofString "put_numbers") (nat_lit 482)), (.str (Str.ofString "/claim/cut.py") (nat_lit 483)), (.int 116 0), (.int 1 0), (.int 0 0), (.int 0 0), (.int 3 0), (.ref 170), (.bool true), (.int 181 0), (.ref 171), .none, .none, .none, (.ref 172), (.int 484 0), (.int 116 0), (.str (Str.ofString "/claim/cut.py") (nat_lit 485))], #[]⟩) ::
  (nat_lit 174, ⟨(.type "function"), none, .func (fnOf (Str.ofString "put_numbers") (Str.ofString "put_numbers") (dT 44).1 (dT 44).2.1 (dT 44).2.2 .none .none .none (.str (Str.ofString "quic.framesout") (nat_lit 460)) none (.ref 173) .none), #[]⟩) ::
  (nat_lit 180, ⟨(.type "code"), none, .fields #[(.str (Str.ofString "put_counted") (nat_lit 487)), (.str (Str.ofString "put_counted") (nat_lit 488)), (.str (Str.ofString "/claim/cut.py") (nat_lit 489)), (.int 118 0), (.int 1 0), (.int 0 0), (.int 0 0), (.int 3 0), (.ref 175), (.bool true), (.int 181 0), (.ref 176), .none, (.ref 177), (.ref 178), (.ref 179), (.int 491 0), (.int 118 0), (.str (Str.ofString "/claim/cut.py") (nat_lit 492))], #[]⟩) ::
  (nat_lit 181, ⟨(.type "function"), none, .func (fnOf (Str.ofString "put_counted") (Str.ofString "put_counted") (dT 45).1 (dT 45).2.1 (dT 45).2.2 .none .none .none (.str (Str.ofString "quic.framesout") (nat_lit 460)) none (.ref 180) .none), #[]⟩) ::
  (nat_lit 201, ⟨(.type "code"), none, .fields #[(.str (Str.ofString "put_stream") (nat_lit 521)), (.str (Str.ofString "put_stream") (nat_lit 522)), (.str (Str.ofString "/claim/cut.py") (nat_lit 523)), (.int 132 0), (.int 2 0), (.int 0 0), (.int 0 0), (.int 3 0), (.ref 196), (.bool true), (.int 181 0), (.ref 197), .none, (.ref 198), (.ref 199), (.ref 200), (.int 533 0), (.int 132 0), (.str (Str.ofString "/claim/cut.py") (nat_lit 534))], #[]⟩) ::
  (nat_lit 202, ⟨(.type "function"), none, .func (fnOf (Str.ofString "put_stream") (Str.ofString "put_stream") (dT 48).1 (dT 48).2.1 (dT 48).2.2 .none .none .none (.str (Str.ofString "quic.framesout") (nat_lit 460)) none (.ref 201) .none), #[]⟩) ::
  (nat_lit 229, ⟨(.type "code"), none, .fields #[(.str (Str.ofString "put_frame") (nat_lit 567)), (.str (Str.ofString "put_frame") (nat_lit 568)), (.str (Str.ofString "/claim/cut.py") (nat_lit 569)), (.int 158 0), (.int 1 0), (.int 0 0), (.int 0 0), (.int 3 0), (.ref 224), (.bool true), (.int 181 0), (.ref 225), .none, (.ref 226), (.ref 227), (.ref 228), (.int 573 0), (.int 158 0), (.str (Str.ofString "/claim/cut.py") (nat_lit 574))], #[]⟩) ::
  (nat_lit 230, ⟨(.type "function"), none, .func (fnOf (Str.ofString "put_frame") (Str.ofString "put_frame") (dT 52).1 (dT 52).2.1 (dT 52).2.2 .none .none .none (.str (Str.ofString "quic.framesout") (nat_lit 460)) none (.ref 229) .none), #[]⟩) ::
  (nat_lit 236, ⟨(.type "code"), none, .fields #[(.str (Str.ofString "frame_size") (nat_lit 576)), (.str (Str.ofString "frame_size") (nat_lit 577)), (.str (Str.ofString "/claim/cut.py") (nat_lit 578)), (.int 176 0), (.int 1 0), (.int 0 0), (.int 0 0), (.int 3 0), (.ref 231), (.bool true), (.int 181 0), (.ref 232), .none, (.ref 233), (.ref 234), (.ref 235), (.int 580 0), (.int 176 0), (.str (Str.ofString "/claim/cut.py") (nat_lit 581))], #[]⟩) ::
  (nat_lit 237, ⟨(.type "function"), none, .func (fnOf (Str.ofString "frame_size") (Str.ofString "frame_size") (dT 53).1 (dT 53).2.1 (dT 53).2.2 .none .none .none (.str (Str.ofString "quic.framesout") (nat_lit 460)) none (.ref 236) .none), #[]⟩) ::
  (nat_lit 243, ⟨(.type "code"), none, .fields #[(.str (Str.ofString "stream_room") (nat_lit 583)), (.str (Str.ofString "stream_room") (nat_lit 584)), (.str (Str.ofString "/claim/cut.py") (nat_lit 585)), (.int 178 0), (.int 3 0), (.int 0 0), (.int 0 0), (.int 3 0), (.ref 238), (.bool true), (.int 181 0), (.ref 239), .none, (.ref 240), (.ref 241), (.ref 242), (.int 590 0), (.int 178 0), (.str (Str.ofString "/claim/cut.py") (nat_lit 591))], #[]⟩) ::
  (nat_lit 244, ⟨(.type "function"), none, .func (fnOf (Str.ofString "stream_room") (Str.ofString "stream_room") (dT 54).1 (dT 54).2.1 (dT 54).2.2 .none .none .none (.str (Str.ofString "quic.framesout") (nat_lit 460)) none (.ref 243) .none), #[]⟩) ::
  (nat_lit 269, ⟨(.type "code"), none, .fields #[(.str (Str.ofString "cut_span") (nat_lit 633)), (.str (Str.ofString "cut_span") (nat_lit 634)), (.str (Str.ofString "/claim/cut.py") (nat_lit 635)), (.int 206 0), (.int 3 0), (.int 0 0), (.int 0 0), (.int 3 0), (.ref 264), (.bool true), (.int 181 0), (.ref 265), .none, (.ref 266), (.ref 267), (.ref 268), (.int 642 0), (.int 206 0), (.str (Str.ofString "/claim/cut.py") (nat_lit 643))], #[]⟩) ::
  (nat_lit 270, ⟨(.type "function"), none, .func (fnOf (Str.ofString "cut_span") (Str.ofString "cut_span") (dT 60).1 (dT 60).2.1 (dT 60).2.2 .none .none .none (.str (Str.ofString "quic.spans") (nat_lit 631)) none (.ref 269) .none), #[]⟩) ::
  (nat_lit 283, ⟨(.type "code"), none, .fields #[(.str (Str.ofString "first_span") (nat_lit 656)), (.str (Str.ofString "first_span") (nat_lit 657)), (.str (Str.ofString "/claim/cut.py") (nat_lit 658)), (.int 221 0), (.int 2 0), (.int 0 0), (.int 0 0), (.int 3 0), (.ref 278), (.bool true), (.int 181 0), (.ref 279), .none, (.ref 280), (.ref 281), (.ref 282), (.int 663 0), (.int 221 0), (.str (Str.ofString "/claim/cut.py") (nat_lit 664))], #[]⟩) ::
  (nat_lit 284, ⟨(.type "function"), none, .func (fnOf (Str.ofString "first_span") (Str.ofString "first_span") (dT 62).1 (dT 62).2.1 (dT 62).2.2 .none .none .none (.str (Str.ofString "quic.spans") (nat_lit 631)) none (.ref 283) .none), #[]⟩) ::
  (nat_lit 297, ⟨(.type "code"), none, .fields #[(.str (Str.ofString "__init__") (nat_lit 696)), (.str (Str.ofString "RecvPart.__init__") (nat_lit 697)), (.str (Str.ofString "/claim/cut.py") (nat_lit 698)), (.int 237 0), (.int 2 0), (.int 0 0), (.int 0 0), (.int 3 0), (.ref 292), (.bool true), (.int 181 0), (.ref 293), .none, (.ref 294), (.ref 295), (.ref 296), (.int 701 0), (.int 237 0), (.str (Str.ofString "/claim/cut.py") (nat_lit 702))], #[]⟩) ::
  (nat_lit 298, ⟨(.type "function"), none, .func (fnOf (Str.ofString "__init__") (Str.ofString "RecvPart.__init__") (dM 72 0).1 (dM 72 0).2.1 (dM 72 0).2.2 .none .none .none (.str (Str.ofString "quic.recvpart") (nat_lit 666)) none (.ref 297) .none), #[]⟩) ::
  (nat_lit 370, ⟨(.type "dict"), none, .dict #[en P "__module__" (nat_lit 691) (.str (Str.ofString "quic.recvpart") (nat_lit 666)), en P "__firstlineno__" (nat_lit 695) (.int 235 (nat_lit 694)), en P "__init__" (nat_lit 703) (.ref 298), en P "check_end" (nat_lit 713) (.ref 305), en P "grown" (nat_lit 722) (.ref 312), en P "on_stream" (nat_lit 734) (.ref 319), en P "has_all" (nat_lit 741) (.ref 326), en P "on_reset" (nat_lit 751) (.ref 333), en P "read" (nat_lit 761) (.ref 340), en P "stop" (nat_lit 769) (.ref 347), en P "raise_limit" (nat_lit 777) (.ref 354), en P "used_to" (nat_lit 784) (.ref 361), en P "is_over" (nat_lit 791) (.ref 368), en P "__static_attributes__" (nat_lit 800) (.ref 369), en P "__dict__" (nat_lit 802) (.ref 372), en P "__weakref__" (nat_lit 804) (.ref 373), en P "__doc__" (nat_lit 805) .none] 4, #[]⟩) ::
  (nat_lit 371, ⟨(.type "type"), none, .cls { name := (Str.ofString "RecvPart"), bases := [(.type "object")], mro := [(.ref 371), (.type "object")], ns := 370, qualname := (Str.ofString "RecvPart"), hasDict := true, slotNames := [], subclasses := [], abstract := false, collection := none, hasDel := false }, #[none, none, some (.str (Str.ofString "RecvPart") (nat_lit 684)), some (.str (Str.ofString "RecvPart") (nat_lit 692)), some (.builtin "object.__new__"), some (.bool true)]⟩) ::
  (nat_lit 376, ⟨(.type "tuple"), none, .seq #[(.str (Str.ofString "ready") (nat_lit 810)), (.str (Str.ofString "send") (nat_lit 812))] 0, #[]⟩) ::
  (nat_lit 389, ⟨(.type "code"), none, .fields #[(.str (Str.ofString "__init__") (nat_lit 831)), (.str (Str.ofString "SendPart.__init__") (nat_lit 832)), (.str (Str.ofString "/claim/cut.py") (nat_lit 833)), (.int 326 0), (.int 2 0), (.int 0 0), (.int 0 0), (.int 3 0), (.ref 384), (.bool true), (.int 181 0), (.ref 385), .none, (.ref 386), (.ref 387), (.ref 388), (.int 836 0), (.int 326 0), (.str (Str.ofString "/claim/cut.py") (nat_lit 837))], #[]⟩) ::
  (nat_lit 390, ⟨(.type "function"), none, .func (fnOf (Str.ofString "__init__") (Str.ofString "SendPart.__init__") (dM 79 0).1 (dM 79 0).2.1 (dM 79 0).2.2 .none .none .none (.str (Str.ofString "quic.sendpart") (nat_lit 808)) none (.ref 389) .none), #[]⟩) ::
  (nat_lit 396, ⟨(.type "code"), none, .fields #[(.str (Str.ofString "write") (nat_lit 839)), (.str (Str.ofString "SendPart.write") (nat_lit 840)), (.str (Str.ofString "/claim/cut.py") (nat_lit 841)), (.int 339 0), (.int 2 0), (.int 0 0), (.int 0 0), (.int 3 0), (.ref 391), (.bool true), (.int 181 0), (.ref 392), .none, (.ref 393), (.ref 394), (.ref 395), (.int 844 0), (.int 339 0), (.str (Str.ofString "/claim/cut.py") (nat_lit 845))], #[]⟩) ::
  (nat_lit 397, ⟨(.type "function"), none, .func (fnOf (Str.ofString "write") (Str.ofString "SendPart.write") (dM 79 1).1 (dM 79 1).2.1 (dM 79 1).2.2 .none .none .none (.str (Str.ofString "quic.sendpart") (nat_lit 808)) none (.ref 396) .none), #[]⟩) ::
  (nat_lit 424, ⟨(.type "code"), none, .fields #[(.str (Str.ofString "raise_limit") (nat_lit 870)), (.str (Str.ofString "SendPart.raise_limit") (nat_lit 871)), (.str (Str.ofString "/claim/cut.py") (nat_lit 872)), (.int 360 0), (.int 2 0), (.int 0 0), (.int 0 0), (.int 3 0), (.ref 419), (.bool true), (.int 181 0), (.ref 420), .none, (.ref 421), (.ref 422), (.ref 423), (.int 875 0), (.int 360 0), (.str (Str.ofString "/claim/cut.py") (nat_lit 876))], #[]⟩) ::
  (nat_lit 425, ⟨(.type "function"), none, .func (fnOf (Str.ofString "raise_limit") (Str.ofString "SendPart.raise_limit") (dM 79 5).1 (dM 79 5).2.1 (dM 79 5).2.2 .none .none .none (.str (Str.ofString "quic.sendpart") (nat_lit 808)) none (.ref 424) .none), #[]⟩) ::
  (nat_lit 431, ⟨(.type "code"), none, .fields #[(.str (Str.ofString "new_room") (nat_lit 878)), (.str (Str.ofString "SendPart.new_room") (nat_lit 879)), (.str (Str.ofString "/claim/cut.py") (nat_lit 880)), (.int 363 0), (.int 2 0), (.int 0 0), (.int 0 0), (.int 3 0), (.ref 426), (.bool true), (.int 181 0), (.ref 427), .none, (.ref 428), (.ref 429), (.ref 430), (.int 884 0), (.int 363 0), (.str (Str.ofString "/claim/cut.py") (nat_lit 885))], #[]⟩) ::
  (nat_lit 432, ⟨(.type "function"), none, .func (fnOf (Str.ofString "new_room") (Str.ofString "SendPart.new_room") (dM 79 6).1 (dM 79 6).2.1 (dM 79 6).2.2 .none .none .none (.str (Str.ofString "quic.sendpart") (nat_lit 808)) none (.ref 431) .none), #[]⟩) ::
  (nat_lit 445, ⟨(.type "code"), none, .fields #[(.str (Str.ofString "has_to_send") (nat_lit 895)), (.str (Str.ofString "SendPart.has_to_send") (nat_lit 896)), (.str (Str.ofString "/claim/cut.py") (nat_lit 897)), (.int 373 0), (.int 2 0), (.int 0 0), (.int 0 0), (.int 3 0), (.ref 440), (.bool true), (.int 181 0), (.ref 441), .none, (.ref 442), (.ref 443), (.ref 444), (.int 900 0), (.int 373 0), (.str (Str.ofString "/claim/cut.py") (nat_lit 901))], #[]⟩) ::
  (nat_lit 446, ⟨(.type "function"), none, .func (fnOf (Str.ofString "has_to_send") (Str.ofString "SendPart.has_to_send") (dM 79 8).1 (dM 79 8).2.1 (dM 79 8).2.2 .none .none .none (.str (Str.ofString "quic.sendpart") (nat_lit 808)) none (.ref 445) .none), #[]⟩) ::
  (nat_lit 452, ⟨(.type "code"), none, .fields #[(.str (Str.ofString "next_chunk") (nat_lit 903)), (.str (Str.ofString "SendPart.next_chunk") (nat_lit 904)), (.str (Str.ofString "/claim/cut.py") (nat_lit 905)), (.int 378 0), (.int 3 0), (.int 0 0), (.int 0 0), (.int 3 0), (.ref 447), (.bool true), (.int 181 0), (.ref 448), .none, (.ref 449), (.ref 450), (.ref 451), (.int 914 0), (.int 378 0), (.str (Str.ofString "/claim/cut.py") (nat_lit 915))], #[]⟩) ::
  (nat_lit 453, ⟨(.type "function"), none, .func (fnOf (Str.ofString "next_chunk") (Str.ofString "SendPart.next_chunk") (dM 79 9).1 (dM 79 9).2.1 (dM 79 9).2.2 .none .none .none (.str (Str.ofString "quic.sendpart") (nat_lit 808)) none (.ref 452) .none), #[]⟩) ::
  (nat_lit 497, ⟨(.type "dict"), none, .dict #[en P "__module__" (nat_lit 826) (.str (Str.ofString "quic.sendpart") (nat_lit 808)), en P "__firstlineno__" (nat_lit 830) (.int 324 (nat_lit 829)), en P "__init__" (nat_lit 838) (.ref 390), en P "write" (nat_lit 846) (.ref 397), en P "finish" (nat_lit 853) (.ref 404), en P "reset" (nat_lit 861) (.ref 411), en P "on_stop" (nat_lit 869) (.ref 418), en P "raise_limit" (nat_lit 877) (.ref 425), en P "new_room" (nat_lit 886) (.ref 432), en P "blocked_at" (nat_lit 894) (.ref 439), en P "has_to_send" (nat_lit 902) (.ref 446), en P "next_chunk" (nat_lit 916) (.ref 453), en P "next_reset" (nat_lit 923) (.ref 460), en P "on_acked" (nat_lit 933) (.ref 467), en P "on_lost" (nat_lit 943) (.ref 474), en P "on_reset_acked" (nat_lit 950) (.ref 481), en P "on_reset_lost" (nat_lit 957) (.ref 488), en P "is_over" (nat_lit 964) (.ref 495), en P "__static_attributes__" (nat_lit 976) (.ref 496), en P "__dict__" (nat_lit 978) (.ref 499), en P "__weakref__" (nat_lit 980) (.ref 500), en P "__doc__" (nat_lit 981) .none] 4, #[]⟩) ::
  (nat_lit 498, ⟨(.type "type"), none, .cls { name := (Str.ofString "SendPart"), bases := [(.type "object")], mro := [(.ref 498), (.type "object")], ns := 497, qualname := (Str.ofString "SendPart"), hasDict := true, slotNames := [], subclasses := [], abstract := false, collection := none, hasDel := false }, #[none, none, some (.str (Str.ofString "SendPart") (nat_lit 819)), some (.str (Str.ofString "SendPart") (nat_lit 827)), some (.builtin "object.__new__"), some (.bool true)]⟩) ::
  (nat_lit 503, ⟨(.type "tuple"), none, .seq #[(.str (Str.ofString "stream") (nat_lit 990)), (.str (Str.ofString "reset_stream") (nat_lit 991)), (.str (Str.ofString "stream_data_blocked") (nat_lit 992))] 0, #[]⟩) ::
  (nat_lit 504, ⟨(.type "dict"), none, .dict #[en P "stream" (nat_lit 994) (.int 8 (nat_lit 995)), en P "reset_stream" (nat_lit 996) (.int 4 (nat_lit 997)), en P "stream_data_blocked" (nat_lit 998) (.int 21 (nat_lit 999)), en P "stop_sending" (nat_lit 1000) (.int 5 (nat_lit 1001)), en P "max_stream_data" (nat_lit 1002) (.int 17 (nat_lit 1003))] 5, #[]⟩) ::
  (nat_lit 510, ⟨(.type "code"), none, .fields #[(.str (Str.ofString "stream_id") (nat_lit 1010)), (.str (Str.ofString "stream_id") (nat_lit 1011)), (.str (Str.ofString "/claim/cut.py") (nat_lit 1012)), (.int 418 0), (.int 3 0), (.int 0 0), (.int 0 0), (.int 3 0), (.ref 505), (.bool true), (.int 181 0), (.ref 506), .none, (.ref 507), (.ref 508), (.ref 509), (.int 1016 0), (.int 418 0), (.str (Str.ofString "/claim/cut.py") (nat_lit 1017))], #[]⟩) ::
  (nat_lit 511, ⟨(.type "function"), none, .func (fnOf (Str.ofString "stream_id") (Str.ofString "stream_id") (dT 85).1 (dT 85).2.1 (dT 85).2.2 .none .none .none (.str (Str.ofString "quic.streamids") (nat_lit 984)) none (.ref 510) .none), #[]⟩) ::
  (nat_lit 517, ⟨(.type "code"), none, .fields #[(.str (Str.ofString "number_of") (nat_lit 1019)), (.str (Str.ofString "number_of") (nat_lit 1020)), (.str (Str.ofString "/claim/cut.py") (nat_lit 1021)), (.int 420 0), (.int 1 0), (.int 0 0), (.int 0 0), (.int 3 0), (.ref 512), (.bool true), (.int 181 0), (.ref 513), .none, (.ref 514), (.ref 515), (.ref 516), (.int 1023 0), (.int 420 0), (.str (Str.ofString "/claim/cut.py") (nat_lit 1024))], #[]⟩) ::
  (nat_lit 518, ⟨(.type "function"), none, .func (fnOf (Str.ofString "number_of") (Str.ofString "number_of") (dT 86).1 (dT 86).2.1 (dT 86).2.2 .none .none .none (.str (Str.ofString "quic.streamids") (nat_lit 984)) none (.ref 517) .none), #[]⟩) ::
  (nat_lit 524, ⟨(.type "code"), none, .fields #[(.str (Str.ofString "opener_of") (nat_lit 1026)), (.str (Str.ofString "opener_of") (nat_lit 1027)), (.str (Str.ofString "/claim/cut.py") (nat_lit 1028)), (.int 422 0), (.int 1 0), (.int 0 0), (.int 0 0), (.int 3 0), (.ref 519), (.bool true), (.int 181 0), (.ref 520), .none, (.ref 521), (.ref 522), (.ref 523), (.int 1030 0), (.int 422 0), (.str (Str.ofString "/claim/cut.py") (nat_lit 1031))], #[]⟩) ::
  (nat_lit 525, ⟨(.type "function"), none, .func (fnOf (Str.ofString "opener_of") (Str.ofString "opener_of") (dT 87).1 (dT 87).2.1 (dT 87).2.2 .none .none .none (.str (Str.ofString "quic.streamids") (nat_lit 984)) none (.ref 524) .none), #[]⟩) ::
  (nat_lit 531, ⟨(.type "code"), none, .fields #[(.str (Str.ofString "is_one_way") (nat_lit 1033)), (.str (Str.ofString "is_one_way") (nat_lit 1034)), (.str (Str.ofString "/claim/cut.py") (nat_lit 1035)), (.int 424 0), (.int 1 0), (.int 0 0), (.int 0 0), (.int 3 0), (.ref 526), (.bool true), (.int 181 0), (.ref 527), .none, (.ref 528), (.ref 529), (.ref 530), (.int 1037 0), (.int 424 0), (.str (Str.ofString "/claim/cut.py") (nat_lit 1038))], #[]⟩) ::
  (nat_lit 532, ⟨(.type "function"), none, .func (fnOf (Str.ofString "is_one_way") (Str.ofString "is_one_way") (dT 88).1 (dT 88).2.1 (dT 88).2.2 .none .none .none (.str (Str.ofString "quic.streamids") (nat_lit 984)) none (.ref 531) .none), #[]⟩) ::
  (nat_lit 538, ⟨(.type "code"), none, .fields #[(.str (Str.ofString "can_send") (nat_lit 1040)), (.str (Str.ofString "can_send") (nat_lit 1041)), (.str (Str.ofString "/claim/cut.py") (nat_lit 1042)), (.int 426 0), (.int 2 0), (.int 0 0), (.int 0 0), (.int 3 0), (.ref 533), (.bool true), (.int 181 0), (.ref 534), .none, (.ref 535), (.ref 536), (.ref 537), (.int 1045 0), (.int 426 0), (.str (Str.ofString "/claim/cut.py") (nat_lit 1046))], #[]⟩) ::
  (nat_lit 539, ⟨(.type "function"), none, .func (fnOf (Str.ofString "can_send") (Str.ofString "can_send") (dT 89).1 (dT 89).2.1 (dT 89).2.2 .none .none .none (.str (Str.ofString "quic.streamids") (nat_lit 984)) none (.ref 538) .none), #[]⟩) ::
  (nat_lit 545, ⟨(.type "code"), none, .fields #[(.str (Str.ofString "can_receive") (nat_lit 1048)), (.str (Str.ofString "can_receive") (nat_lit 1049)), (.str (Str.ofString "/claim/cut.py") (nat_lit 1050)), (.int 428 0), (.int 2 0), (.int 0 0), (.int 0 0), (.int 3 0), (.ref 540), (.bool true), (.int 181 0), (.ref 541), .none, (.ref 542), (.ref 543), (.ref 544), (.int 1053 0), (.int 428 0), (.str (Str.ofString "/claim/cut.py") (nat_lit 1054))], #[]⟩) ::
  (nat_lit 546, ⟨(.type "function"), none, .func (fnOf (Str.ofString "can_receive") (Str.ofString "can_receive") (dT 90).1 (dT 90).2.1 (dT 90).2.2 .none .none .none (.str (Str.ofString "quic.streamids") (nat_lit 984)) none (.ref 545) .none), #[]⟩) ::
  (nat_lit 559, ⟨(.type "code"), none, .fields #[(.str (Str.ofString "__init__") (nat_lit 1068)), (.str (Str.ofString "StreamIds.__init__") (nat_lit 1069)), (.str (Str.ofString "/claim/cut.py") (nat_lit 1070)), (.int 432 0), (.int 4 0), (.int 0 0), (.int 0 0), (.int 3 0), (.ref 554), (.bool true), (.int 181 0), (.ref 555), .none, (.ref 556), (.ref 557), (.ref 558), (.int 1075 0), (.int 432 0), (.str (Str.ofString "/claim/cut.py") (nat_lit 1076))], #[]⟩) ::
  (nat_lit 560, ⟨(.type "function"), none, .func (fnOf (Str.ofString "__init__") (Str.ofString "StreamIds.__init__") (dM 91 0).1 (dM 91 0).2.1 (dM 91 0).2.2 .none .none .none (.str (Str.ofString "quic.streamids") (nat_lit 984)) none (.ref 559) .none), #[]⟩) ::
  (nat_lit 566, ⟨(.type "code"), none, .fields #[(.str (Str.ofString "open_own") (nat_lit 1078)), (.str (Str.ofString "StreamIds.open_own") (nat_lit 1079)), (.str (Str.ofString "/claim/cut.py") (nat_lit 1080)), (.int 441 0), (.int 2 0), (.int 0 0), (.int 0 0), (.int 3 0), (.ref 561), (.bool true), (.int 181 0), (.ref 562), .none, (.ref 563), (.ref 564), (.ref 565), (.int 1084 0), (.int 441 0), (.str (Str.ofString "/claim/cut.py") (nat_lit 1085))], #[]⟩) ::
  (nat_lit 567, ⟨(.type "function"), none, .func (fnOf (Str.ofString "open_own") (Str.ofString "StreamIds.open_own") (dM 91 1).1 (dM 91 1).2.1 (dM 91 1).2.2 .none .none .none (.str (Str.ofString "quic.streamids") (nat_lit 984)) none (.ref 566) .none), #[]⟩) ::
  (nat_lit 573, ⟨(.type "code"), none, .fields #[(.str (Str.ofString "raise_limit") (nat_lit 1087)), (.str (Str.ofString "StreamIds.raise_limit") (nat_lit 1088)), (.str (Str.ofString "/claim/cut.py") (nat_lit 1089)), (.int 448 0), (.int 3 0), (.int 0 0), (.int 0 0), (.int 3 0), (.ref 568), (.bool true), (.int 181 0), (.ref 569), .none, (.ref 570), (.ref 571), (.ref 572), (.int 1093 0), (.int 448 0), (.str (Str.ofString "/claim/cut.py") (nat_lit 1094))], #[]⟩) ::
  (nat_lit 574, ⟨(.type "function"), none, .func (fnOf (Str.ofString "raise_limit") (Str.ofString "StreamIds.raise_limit") (dM 91 2).1 (dM 91 2).2.1 (dM 91 2).2.2 .none .none .none (.str (Str.ofString "quic.streamids") (nat_lit 984)) none (.ref 573) .none), #[]⟩) ::
  (nat_lit 578, ⟨(.type "code"), none, .fields #[(.str (Str.ofString "take_id") (nat_lit 1096)), (.str (Str.ofString "StreamIds.take_id") (nat_lit 1097)), (.str (Str.ofString "/claim/cut.py") (nat_lit 1098)), (.int 451 0), (.int 3 0), (.int 0 0), (.int 0 0), (.int 3 0), (.ref 575), (.bool true), (.int 181 0), (.ref 576), .none, .none, .none, (.ref 577), (.int 1099 0), (.int 451 0), (.str (Str.ofString "/claim/cut.py") (nat_lit 1100))], #[]⟩) ::
  (nat_lit 579, ⟨(.type "function"), none, .func (fnOf (Str.ofString "take_id") (Str.ofString "StreamIds.take_id") (dM 91 3).1 (dM 91 3).2.1 (dM 91 3).2.2 .none .none .none (.str (Str.ofString "quic.streamids") (nat_lit 984)) none (.ref 578) .none), #[]⟩) ::
  (nat_lit 602, ⟨(.type "dict"), none, .dict #[en P "__module__" (nat_lit 1063) (.str (Str.ofString "quic.streamids") (nat_lit 984)), en P "__firstlineno__" (nat_lit 1067) (.int 430 (nat_lit 1066)), en P "__init__" (nat_lit 1077) (.ref 560), en P "open_own" (nat_lit 1086) (.ref 567), en P "raise_limit" (nat_lit 1095) (.ref 574), en P "take_id" (nat_lit 1101) (.ref 579), en P "on_closed" (nat_lit 1109) (.ref 586), en P "next_grant" (nat_lit 1117) (.ref 593), en P "on_grant_lost" (nat_lit 1126) (.ref 600), en P "__static_attributes__" (nat_lit 1134) (.ref 601), en P "__dict__" (nat_lit 1136) (.ref 604), en P "__weakref__" (nat_lit 1138) (.ref 605), en P "__doc__" (nat_lit 1139) .none] 4, #[]⟩) ::
  (nat_lit 603, ⟨(.type "type"), none, .cls { name := (Str.ofString "StreamIds"), bases := [(.type "object")], mro := [(.ref 603), (.type "object")], ns := 602, qualname := (Str.ofString "StreamIds"), hasDict := true, slotNames := [], subclasses := [], abstract := false, collection := none, hasDel := false }, #[none, none, some (.str (Str.ofString "StreamIds") (nat_lit 1056)), some (.str (Str.ofString "StreamIds") (nat_lit 1064)), some (.builtin "object.__new__"), some (.bool true)]⟩) ::
  (nat_lit 613, ⟨(.type "code"), none, .fields #[(.str (Str.ofString "own_window") (nat_lit 1144)), (.str (Str.ofString "own_window") (nat_lit 1145)), (.str (Str.ofString "/claim/cut.py") (nat_lit 1146)), (.int 476 0), (.int 3 0), (.int 0 0), (.int 0 0), (.int 3 0), (.ref 608), (.bool true), (.int 181 0), (.ref 609), .none, (.ref 610), (.ref 611), (.ref 612), (.int 1150 0), (.int 476 0), (.str (Str.ofString "/claim/cut.py") (nat_lit 1151))], #[]⟩) ::
  (nat_lit 614, ⟨(.type "function"), none, .func (fnOf (Str.ofString "own_window") (Str.ofString "own_window") (dT 93).1 (dT 93).2.1 (dT 93).2.2 .none .none .none (.str (Str.ofString "quic.streamset") (nat_lit 1142)) none (.ref 613) .none), #[]⟩) ::
  (nat_lit 620, ⟨(.type "code"), none, .fields #[(.str (Str.ofString "peer_window") (nat_lit 1153)), (.str (Str.ofString "peer_window") (nat_lit 1154)), (.str (Str.ofString "/claim/cut.py") (nat_lit 1155)), (.int 482 0), (.int 3 0), (.int 0 0), (.int 0 0), (.int 3 0), (.ref 615), (.bool true), (.int 181 0), (.ref 616), .none, (.ref 617), (.ref 618), (.ref 619), (.int 1159 0), (.int 482 0), (.str (Str.ofString "/claim/cut.py") (nat_lit 1160))], #[]⟩) ::
  (nat_lit 621, ⟨(.type "function"), none, .func (fnOf (Str.ofString "peer_window") (Str.ofString "peer_window") (dT 94).1 (dT 94).2.1 (dT 94).2.2 .none .none .none (.str (Str.ofString "quic.streamset") (nat_lit 1142)) none (.ref 620) .none), #[]⟩) ::
  (nat_lit 634, ⟨(.type "code"), none, .fields #[(.str (Str.ofString "__init__") (nat_lit 1174)), (.str (Str.ofString "StreamSet.__init__") (nat_lit 1175)), (.str (Str.ofString "/claim/cut.py") (nat_lit 1176)), (.int 492 0), (.int 3 0), (.int 0 0), (.int 0 0), (.int 3 0), (.ref 629), (.bool true), (.int 181 0), (.ref 630), .none, (.ref 631), (.ref 632), (.ref 633), (.int 1180 0), (.int 492 0), (.str (Str.ofString "/claim/cut.py") (nat_lit 1181))], #[]⟩) ::
  (nat_lit 635, ⟨(.type "function"), none, .func (fnOf (Str.ofString "__init__") (Str.ofString "StreamSet.__init__") (dM 95 0).1 (dM 95 0).2.1 (dM 95 0).2.2 .none .none .none (.str (Str.ofString "quic.streamset") (nat_lit 1142)) none (.ref 634) .none), #[]⟩) ::
  (nat_lit 641, ⟨(.type "code"), none, .fields #[(.str (Str.ofString "open_stream") (nat_lit 1183)), (.str (Str.ofString "StreamSet.open_stream") (nat_lit 1184)), (.str (Str.ofString "/claim/cut.py") (nat_lit 1185)), (.int 508 0), (.int 2 0), (.int 0 0), (.int 0 0), (.int 3 0), (.ref 636), (.bool true), (.int 181 0), (.ref 637), .none, (.ref 638), (.ref 639), (.ref 640), (.int 1189 0), (.int 508 0), (.str (Str.ofString "/claim/cut.py") (nat_lit 1190))], #[]⟩) ::
  (nat_lit 642, ⟨(.type "function"), none, .func (fnOf (Str.ofString "open_stream") (Str.ofString "StreamSet.open_stream") (dM 95 1).1 (dM 95 1).2.1 (dM 95 1).2.2 .none .none .none (.str (Str.ofString "quic.streamset") (nat_lit 1142)) none (.ref 641) .none), #[]⟩) ::
  (nat_lit 648, ⟨(.type "code"), none, .fields #[(.str (Str.ofString "make_parts") (nat_lit 1192)), (.str (Str.ofString "StreamSet.make_parts") (nat_lit 1193)), (.str (Str.ofString "/claim/cut.py") (nat_lit 1194)), (.int 514 0), (.int 2 0), (.int 0 0), (.int 0 0), (.int 3 0), (.ref 643), (.bool true), (.int 181 0), (.ref 644), .none, (.ref 645), (.ref 646), (.ref 647), (.int 1198 0), (.int 514 0), (.str (Str.ofString "/claim/cut.py") (nat_lit 1199))], #[]⟩) ::
  (nat_lit 649, ⟨(.type "function"), none, .func (fnOf (Str.ofString "make_parts") (Str.ofString "StreamSet.make_parts") (dM 95 2).1 (dM 95 2).2.1 (dM 95 2).2.2 .none .none .none (.str (Str.ofString "quic.streamset") (nat_lit 1142)) none (.ref 648) .none), #[]⟩) ::
  (nat_lit 655, ⟨(.type "code"), none, .fields #[(.str (Str.ofString "sender") (nat_lit 1201)), (.str (Str.ofString "StreamSet.sender") (nat_lit 1202)), (.str (Str.ofString "/claim/cut.py") (nat_lit 1203)), (.int 522 0), (.int 2 0), (.int 0 0), (.int 0 0), (.int 3 0), (.ref 650), (.bool true), (.int 181 0), (.ref 651), .none, (.ref 652), (.ref 653), (.ref 654), (.int 1206 0), (.int 522 0), (.str (Str.ofString "/claim/cut.py") (nat_lit 1207))], #[]⟩) ::
  (nat_lit 656, ⟨(.type "function"), none, .func (fnOf (Str.ofString "sender") (Str.ofString "StreamSet.sender") (dM 95 3).1 (dM 95 3).2.1 (dM 95 3).2.2 .none .none .none (.str (Str.ofString "quic.streamset") (nat_lit 1142)) none (.ref 655) .none), #[]⟩) ::
  (nat_lit 697, ⟨(.type "code"), none, .fields #[(.str (Str.ofString "on_params") (nat_lit 1253)), (.str (Str.ofString "StreamSet.on_params") (nat_lit 1254)), (.str (Str.ofString "/claim/cut.py") (nat_lit 1255)), (.int 546 0), (.int 2 0), (.int 0 0), (.int 0 0), (.int 3 0), (.ref 692), (.bool true), (.int 181 0), (.ref 693), .none, (.ref 694), (.ref 695), (.ref 696), (.int 1259 0), (.int 546 0), (.str (Str.ofString "/claim/cut.py") (nat_lit 1260))], #[]⟩) ::
  (nat_lit 698, ⟨(.type "function"), none, .func (fnOf (Str.ofString "on_params") (Str.ofString "StreamSet.on_params") (dM 95 9).1 (dM 95 9).2.1 (dM 95 9).2.2 .none .none .none (.str (Str.ofString "quic.streamset") (nat_lit 1142)) none (.ref 697) .none), #[]⟩) ::
  (nat_lit 704, ⟨(.type "code"), none, .fields #[(.str (Str.ofString "opened_by") (nat_lit 1262)), (.str (Str.ofString "StreamSet.opened_by") (nat_lit 1263)), (.str (Str.ofString "/claim/cut.py") (nat_lit 1264)), (.int 554 0), (.int 3 0), (.int 0 0), (.int 0 0), (.int 3 0), (.ref 699), (.bool true), (.int 181 0), (.ref 700), .none, (.ref 701), (.ref 702), (.ref 703), (.int 1269 0), (.int 554 0), (.str (Str.ofString "/claim/cut.py") (nat_lit 1270))], #[]⟩) ::
  (nat_lit 705, ⟨(.type "function"), none, .func (fnOf (Str.ofString "opened_by") (Str.ofString "StreamSet.opened_by") (dM 95 10).1 (dM 95 10).2.1 (dM 95 10).2.2 .none .none .none (.str (Str.ofString "quic.streamset") (nat_lit 1142)) none (.ref 704) .none), #[]⟩) ::
  (nat_lit 711, ⟨(.type "code"), none, .fields #[(.str (Str.ofString "on_frame") (nat_lit 1272)), (.str (Str.ofString "StreamSet.on_frame") (nat_lit 1273)), (.str (Str.ofString "/claim/cut.py") (nat_lit 1274)), (.int 559 0), (.int 2 0), (.int 0 0), (.int 0 0), (.int 3 0), (.ref 706), (.bool true), (.int 181 0), (.ref 707), .none, (.ref 708), (.ref 709), (.ref 710), (.int 1278 0), (.int 559 0), (.str (Str.ofString "/claim/cut.py") (nat_lit 1279))], #[]⟩) ::
  (nat_lit 712, ⟨(.type "function"), none, .func (fnOf (Str.ofString "on_frame") (Str.ofString "StreamSet.on_frame") (dM 95 11).1 (dM 95 11).2.1 (dM 95 11).2.2 .none .none .none (.str (Str.ofString "quic.streamset") (nat_lit 1142)) none (.ref 711) .none), #[]⟩) ::
  (nat_lit 725, ⟨(.type "code"), none, .fields #[(.str (Str.ofString "on_reader_frame") (nat_lit 1294)), (.str (Str.ofString "StreamSet.on_reader_frame") (nat_lit 1295)), (.str (Str.ofString "/claim/cut.py") (nat_lit 1296)), (.int 592 0), (.int 2 0), (.int 0 0), (.int 0 0), (.int 3 0), (.ref 720), (.bool true), (.int 181 0), (.ref 721), .none, (.ref 722), (.ref 723), (.ref 724), (.int 1302 0), (.int 592 0), (.str (Str.ofString "/claim/cut.py") (nat_lit 1303))], #[]⟩) ::
  (nat_lit 726, ⟨(.type "function"), none, .func (fnOf (Str.ofString "on_reader_frame") (Str.ofString "StreamSet.on_reader_frame") (dM 95 13).1 (dM 95 13).2.1 (dM 95 13).2.2 .none .none .none (.str (Str.ofString "quic.streamset") (nat_lit 1142)) none (.ref 725) .none), #[]⟩) ::
  (nat_lit 758, ⟨(.type "code"), none, .fields #[(.str (Str.ofString "has_data") (nat_lit 1333)), (.str (Str.ofString "StreamSet.has_data") (nat_lit 1334)), (.str (Str.ofString "/claim/cut.py") (nat_lit 1335)), (.int 612 0), (.int 1 0), (.int 0 0), (.int 0 0), (.int 3 0), (.ref 755), (.bool true), (.int 181 0), (.ref 756), .none, .none, .none, (.ref 757), (.int 1336 0), (.int 612 0), (.str (Str.ofString "/claim/cut.py") (nat_lit 1337))], #[]⟩) ::
  (nat_lit 759, ⟨(.type "function"), none, .func (fnOf (Str.ofString "has_data") (Str.ofString "StreamSet.has_data") (dM 95 18).1 (dM 95 18).2.1 (dM 95 18).2.2 .none .none .none (.str (Str.ofString "quic.streamset") (nat_lit 1142)) none (.ref 758) .none), #[]⟩) ::
  (nat_lit 765, ⟨(.type "code"), none, .fields #[(.str (Str.ofString "next_data") (nat_lit 1339)), (.str (Str.ofString "StreamSet.next_data") (nat_lit 1340)), (.str (Str.ofString "/claim/cut.py") (nat_lit 1341)), (.int 616 0), (.int 2 0), (.int 0 0), (.int 0 0), (.int 3 0), (.ref 760), (.bool true), (.int 181 0), (.ref 761), .none, (.ref 762), (.ref 763), (.ref 764), (.int 1348 0), (.int 616 0), (.str (Str.ofString "/claim/cut.py") (nat_lit 1349))], #[]⟩) ::
  (nat_lit 766, ⟨(.type "function"), none, .func (fnOf (Str.ofString "next_data") (Str.ofString "StreamSet.next_data") (dM 95 19).1 (dM 95 19).2.1 (dM 95 19).2.2 .none .none .none (.str (Str.ofString "quic.streamset") (nat_lit 1142)) none (.ref 765) .none), #[]⟩) ::
  (nat_lit 772, ⟨(.type "code"), none, .fields #[(.str (Str.ofString "data_frame") (nat_lit 1351)), (.str (Str.ofString "StreamSet.data_frame") (nat_lit 1352)), (.str (Str.ofString "/claim/cut.py") (nat_lit 1353)), (.int 626 0), (.int 3 0), (.int 0 0), (.int 0 0), (.int 3 0), (.ref 767), (.bool true), (.int 181 0), (.ref 768), .none, (.ref 769), (.ref 770), (.ref 771), (.int 1360 0), (.int 626 0), (.str (Str.ofString "/claim/cut.py") (nat_lit 1361))], #[]⟩) ::
  (nat_lit 773, ⟨(.type "function"), none, .func (fnOf (Str.ofString "data_frame") (Str.ofString "StreamSet.data_frame") (dM 95 20).1 (dM 95 20).2.1 (dM 95 20).2.2 .none .none .none (.str (Str.ofString "quic.streamset") (nat_lit 1142)) none (.ref 772) .none), #[]⟩) ::
  (nat_lit 789, ⟨(.type "dict"), none, .dict #[en P "__module__" (nat_lit 1169) (.str (Str.ofString "quic.streamset") (nat_lit 1142)), en P "__firstlineno__" (nat_lit 1173) (.int 490 (nat_lit 1172)), en P "__init__" (nat_lit 1182) (.ref 635), en P "open_stream" (nat_lit 1191) (.ref 642), en P "make_parts" (nat_lit 1200) (.ref 649), en P "sender" (nat_lit 1208) (.ref 656), en P "reader_of" (nat_lit 1216) (.ref 663), en P "read_from" (nat_lit 1225) (.ref 670), en P "stop_reading" (nat_lit 1234) (.ref 677), en P "settle" (nat_lit 1245) (.ref 684), en P "close_over" (nat_lit 1252) (.ref 691), en P "on_params" (nat_lit 1261) (.ref 698), en P "opened_by" (nat_lit 1271) (.ref 705), en P "on_frame" (nat_lit 1280) (.ref 712), en P "on_sender_frame" (nat_lit 1293) (.ref 719), en P "on_reader_frame" (nat_lit 1304) (.ref 726), en P "control_frames" (nat_lit 1311) (.ref 733), en P "limit_frames" (nat_lit 1318) (.ref 740), en P "blocked_frames" (nat_lit 1325) (.ref 747), en P "wants_new" (nat_lit 1332) (.ref 754), en P "has_data" (nat_lit 1338) (.ref 759), en P "next_data" (nat_lit 1350) (.ref 766), en P "data_frame" (nat_lit 1362) (.ref 773), en P "on_acked" (nat_lit 1370) (.ref 780), en P "on_lost" (nat_lit 1378) (.ref 787), en P "__static_attributes__" (nat_lit 1393) (.ref 788), en P "__dict__" (nat_lit 1395) (.ref 791), en P "__weakref__" (nat_lit 1397) (.ref 792), en P "__doc__" (nat_lit 1398) .none] 4, #[]⟩) ::
  (nat_lit 790, ⟨(.type "type"), none, .cls { name := (Str.ofString "StreamSet"), bases := [(.type "object")], mro := [(.ref 790), (.type "object")], ns := 789, qualname := (Str.ofString "StreamSet"), hasDict := true, slotNames := [], subclasses := [], abstract := false, collection := none, hasDel := false }, #[none, none, some (.str (Str.ofString "StreamSet") (nat_lit 1162)), some (.str (Str.ofString "StreamSet") (nat_lit 1170)), some (.builtin "object.__new__"), some (.bool true)]⟩) ::
  (nat_lit 795, ⟨(.type "list"), none, .seq #[(.int 0 (nat_lit 1403)), (.int 2 (nat_lit 1404)), (.int 4 (nat_lit 1405))] 0, #[]⟩) ::
  (nat_lit 801, ⟨(.type "code"), none, .fields #[(.str (Str.ofString "_law_take") (nat_lit 1407)), (.str (Str.ofString "_law_take") (nat_lit 1408)), (.str (Str.ofString "/claim/cut.py") (nat_lit 1409)), (.int 644 0), (.int 2 0), (.int 0 0), (.int 0 0), (.int 3 0), (.ref 796), (.bool true), (.int 181 0), (.ref 797), .none, (.ref 798), (.ref 799), (.ref 800), (.int 1412 0), (.int 644 0), (.str (Str.ofString "/claim/cut.py") (nat_lit 1413))], #[]⟩) ::
  (nat_lit 802, ⟨(.type "function"), none, .func (fnOf (Str.ofString "_law_take") (Str.ofString "_law_take") (dT 98).1 (dT 98).2.1 (dT 98).2.2 .none .none .none (.str (Str.ofString "law_sj0123_01") (nat_lit 1401)) none (.ref 801) .none), #[]⟩) ::
  (nat_lit 806, ⟨(.type "code"), none, .fields #[(.str (Str.ofString "_law_octets") (nat_lit 1415)), (.str (Str.ofString "_law_octets") (nat_lit 1416)), (.str (Str.ofString "/claim/cut.py") (nat_lit 1417)), (.int 649 0), (.int 2 0), (.int 0 0), (.int 0 0), (.int 3 0), (.ref 803), (.bool true), (.int 181 0), (.ref 804), .none, .none, .none, (.ref 805), (.int 1418 0), (.int 649 0), (.str (Str.ofString "/claim/cut.py") (nat_lit 1419))], #[]⟩) ::
  (nat_lit 807, ⟨(.type "function"), none, .func (fnOf (Str.ofString "_law_octets") (Str.ofString "_law_octets") (dT 99).1 (dT 99).2.1 (dT 99).2.2 .none .none .none (.str (Str.ofString "law_sj0123_01") (nat_lit 1401)) none (.ref 806) .none), #[]⟩) ::
  (nat_lit 813, ⟨(.type "code"), none, .fields #[(.str (Str.ofString "_law_made") (nat_lit 1421)), (.str (Str.ofString "_law_made") (nat_lit 1422)), (.str (Str.ofString "/claim/cut.py") (nat_lit 1423)), (.int 651 0), (.int 2 0), (.int 0 0), (.int 0 0), (.int 3 0), (.ref 808), (.bool true), (.int 181 0), (.ref 809), .none, (.ref 810), (.ref 811), (.ref 812), (.int 1430 0), (.int 651 0), (.str (Str.ofString "/claim/cut.py") (nat_lit 1431))], #[]⟩) ::
  (nat_lit 814, ⟨(.type "function"), none, .func (fnOf (Str.ofString "_law_made") (Str.ofString "_law_made") (dT 100).1 (dT 100).2.1 (dT 100).2.2 .none .none .none (.str (Str.ofString "law_sj0123_01") (nat_lit 1401)) none (.ref 813) .none), #[]⟩) ::
  (nat_lit 818, ⟨(.type "code"), none, .fields #[(.str (Str.ofString "_law_limits") (nat_lit 1433)), (.str (Str.ofString "_law_limits") (nat_lit 1434)), (.str (Str.ofString "/claim/cut.py") (nat_lit 1435)), (.int 660 0), (.int 3 0), (.int 0 0), (.int 0 0), (.int 3 0), (.ref 815), (.bool true), (.int 181 0), (.ref 816), .none, .none, .none, (.ref 817), (.int 1436 0), (.int 660 0), (.str (Str.ofString "/claim/cut.py") (nat_lit 1437))], #[]⟩) ::
  (nat_lit 819, ⟨(.type "function"), none, .func (fnOf (Str.ofString "_law_limits") (Str.ofString "_law_limits") (dT 101).1 (dT 101).2.1 (dT 101).2.2 .none .none .none (.str (Str.ofString "law_sj0123_01") (nat_lit 1401)) none (.ref 818) .none), #[]⟩) ::
  (nat_lit 825, ⟨(.type "code"), none, .fields #[(.str (Str.ofString "_law_goes") (nat_lit 1439)), (.str (Str.ofString "_law_goes") (nat_lit 1440)), (.str (Str.ofString "/claim/cut.py") (nat_lit 1441)), (.int 670 0), (.int 2 0), (.int 0 0), (.int 0 0), (.int 3 0), (.ref 820), (.bool true), (.int 181 0), (.ref 821), .none, (.ref 822), (.ref 823), (.ref 824), (.int 1445 0), (.int 670 0), (.str (Str.ofString "/claim/cut.py") (nat_lit 1446))], #[]⟩) ::
  (nat_lit 826, ⟨(.type "function"), none, .func (fnOf (Str.ofString "_law_goes") (Str.ofString "_law_goes") (dT 102).1 (dT 102).2.1 (dT 102).2.2 .none .none .none (.str (Str.ofString "law_sj0123_01") (nat_lit 1401)) none (.ref 825) .none), #[]⟩) ::
  (nat_lit 830, ⟨(.type "code"), none, .fields #[(.str (Str.ofString "_law_is_most") (nat_lit 1448)), (.str (Str.ofString "_law_is_most") (nat_lit 1449)), (.str (Str.ofString "/claim/cut.py") (nat_lit 1450)), (.int 677 0), (.int 5 0), (.int 0 0), (.int 0 0), (.int 3 0), (.ref 827), (.bool true), (.int 181 0), (.ref 828), .none, .none, .none, (.ref 829), (.int 1451 0), (.int 677 0), (.str (Str.ofString "/claim/cut.py") (nat_lit 1452))], #[]⟩) ::
  (nat_lit 831, ⟨(.type "function"), none, .func (fnOf (Str.ofString "_law_is_most") (Str.ofString "_law_is_most") (dT 103).1 (dT 103).2.1 (dT 103).2.2 .none .none .none (.str (Str.ofString "law_sj0123_01") (nat_lit 1401)) none (.ref 830) .none), #[]⟩) ::
  (nat_lit 835, ⟨(.type "code"), none, .fields #[(.str (Str.ofString "_law_run") (nat_lit 1454)), (.str (Str.ofString "_law_run") (nat_lit 1455)), (.str (Str.ofString "/claim/cut.py") (nat_lit 1456)), (.int 687 0), (.int 4 0), (.int 0 0), (.int 0 0), (.int 3 0), (.ref 832), (.bool true), (.int 181 0), (.ref 833), .none, .none, .none, (.ref 834), (.int 1457 0), (.int 687 0), (.str (Str.ofString "/claim/cut.py") (nat_lit 1458))], #[]⟩) ::
  (nat_lit 836, ⟨(.type "function"), none, .func (fnOf (Str.ofString "_law_run") (Str.ofString "_law_run") (dT 104).1 (dT 104).2.1 (dT 104).2.2 .none .none .none (.str (Str.ofString "law_sj0123_01") (nat_lit 1401)) none (.ref 835) .none), #[]⟩) ::
  (nat_lit 840, ⟨(.type "code"), none, .fields #[(.str (Str.ofString "law") (nat_lit 1460)), (.str (Str.ofString "law") (nat_lit 1461)), (.str (Str.ofString "/claim/cut.py") (nat_lit 1462)), (.int 699 0), (.int 1 0), (.int 0 0), (.int 0 0), (.int 3 0), (.ref 837), (.bool true), (.int 181 0), (.ref 838), .none, .none, .none, (.ref 839), (.int 1463 0), (.int 699 0), (.str (Str.ofString "/claim/cut.py") (nat_lit 1464))], #[]⟩) ::
  (nat_lit 841, ⟨(.type "function"), none, .func (fnOf (Str.ofString "law") (Str.ofString "law") (dT 105).1 (dT 105).2.1 (dT 105).2.2 .none .none .none (.str (Str.ofString "law_sj0123_01") (nat_lit 1401)) none (.ref 840) .none), #[]⟩) :: []
noncomputable def KAs : List Addr := [2, 3, 42, 48, 49, 55, 56, 62, 63, 76, 77, 83, 84, 90, 91, 97, 98, 114, 115, 132, 133, 163, 164, 169, 173, 174, 180, 181, 201, 202, 229, 230, 236, 237, 243, 244, 269, 270, 283, 284, 297, 298, 370, 371, 376, 389, 390, 396, 397, 424, 425, 431, 432, 445, 446, 452, 453, 497, 498, 503, 504, 510, 511, 517, 518, 524, 525, 531, 532, 538, 539, 545, 546, 559, 560, 566, 567, 573, 574, 578, 579, 602, 603, 613, 614, 620, 621, 634, 635, 641, 642, 648, 649, 655, 656, 697, 698, 704, 705, 711, 712, 725, 726, 758, 759, 765, 766, 772, 773, 789, 790, 795, 801, 802, 806, 807, 813, 814, 818, 819, 825, 826, 830, 831, 835, 836, 840, 841]
theorem Uw (P : Params) : KAs = (KK P).map (·.1) := by kernel_rfl!
def qV : Program := view pw [105]
noncomputable def Ht : List Str := (["_wall", "INTERNAL_ERROR", "FLOW_CONTROL_ERROR", "STREAM_LIMIT_ERROR", "STREAM_STATE_ERROR", "FINAL_SIZE_ERROR", "QuicError", "VARINT_SIZES", "put_whole", "varint_size", "put_varint", "Credit", "Window", "PING", "ACK", "ACK_ECN", "RESET_STREAM", "STOP_SENDING", "CRYPTO", "NEW_TOKEN", "STREAM", "MAX_DATA", "MAX_STREAM_DATA", "MAX_STREAMS_BIDI", "MAX_STREAMS_UNI", "DATA_BLOCKED", "STREAM_DATA_BLOCKED", "STREAMS_BLOCKED_BIDI", "STREAMS_BLOCKED_UNI", "NEW_CONNECTION_ID", "RETIRE_CONNECTION_ID", "PATH_CHALLENGE", "PATH_RESPONSE", "CLOSE", "CLOSE_APPLICATION", "HANDSHAKE_DONE", "BIT_FIN", "BIT_LENGTH", "BIT_OFFSET", "NUMBER_FRAMES", "put_numbers", "put_counted", "ack_numbers", "put_ack", "put_stream", "put_new_cid", "put_close", "put_octets_frame", "put_frame", "frame_size", "stream_room", "add_piece", "taken_from", "covered", "cut_span", "has_span", "first_span", "RECEIVING", "SIZE_KNOWN", "DATA_RECEIVED", "DATA_READ", "RESET_RECEIVED", "RESET_READ", "FRAME_RESET", "FRAME_STREAM", "RecvPart", "READY", "SENDING", "DATA_SENT", "RESET_SENT", "OPEN_STATES", "SendPart", "CLIENT", "SERVER", "SENDING_FRAMES", "FRAME_TYPES", "stream_id", "number_of", "opener_of", "is_one_way", "can_send", "can_receive", "StreamIds", "own_window", "peer_window", "StreamSet", "_law_SIDS", "_law_take", "_law_octets", "_law_made", "_law_limits", "_law_goes", "_law_is_most", "_law_run"] : List String).map Str.ofString
abbrev rwO := PySem.Challenge.rw_sj0123_01
abbrev XtV : Shared → Bool := fun s => xlAt qV [] s && recOk (RowW.records (OpenLaw.row rwO).toRowW) s
noncomputable abbrev HK : Hook := kHook KK KAs Uw
end
section
set_option maxRecDepth 1000000
theorem Nl {S α β γ : Type} {o : Option S} {f : S → α × β × γ} {a : α} {b : β} {c : γ} (h : o.map (fun s => ((f s).1, (f s).2.1)) = some (a, b)) (g : o.map (fun s => (f s).2.2) = some c) : o.map f = some (a, b, c) := by
  cases o with
  | none => cases h
  | some s => exact congrArg some (Prod.ext (congrArg (·.1) (Option.some.inj h)) (Prod.ext (congrArg (·.2) (Option.some.inj h)) (Option.some.inj g)))
noncomputable abbrev PL (w : World) (os : OsState) : Option SharedT := Pr (PySem.W.Fast.tw11892475500146522536 PySem.W.Fast.tw14364793385576792824) pw w 11 (some (.ref 6)) 6000 (OP w os) (topStub pw)
noncomputable abbrev Od (w : World) (s : SharedT) := Rg qV Ht XtV HK.obs w s.abs
theorem RC (w : World) (os : OsState) : (PL (w.withFollow "special-get-raises" false) os).map (fun s => ((Od (w.withFollow "special-get-raises" false) s).1, (Od (w.withFollow "special-get-raises" false) s).2.1)) = some (true, openGood qV Ht) := by kernel_rfl
theorem Rq (w : World) (os : OsState) : (PL (w.withFollow "special-get-raises" false) os).map (fun s => (Od (w.withFollow "special-get-raises" false) s).2.2) = some (HK.val (w.withFollow "special-get-raises" false)) := by kernel_rfl
theorem Te (w : World) (os : OsState) : (PL (w.withFollow "special-get-raises" false) os).map (Od (w.withFollow "special-get-raises" false)) = some (true, openGood qV Ht, HK.val (w.withFollow "special-get-raises" false)) := Nl (RC w os) (Rq w os)
end
section
set_option maxRecDepth 1000000
theorem Ro (w : World) (os : OsState) : (PL (w.withFollow "special-get-raises" true) os).map (fun s => ((Od (w.withFollow "special-get-raises" true) s).1, (Od (w.withFollow "special-get-raises" true) s).2.1)) = some (true, openGood qV Ht) := by kernel_rfl
theorem RS (w : World) (os : OsState) : (PL (w.withFollow "special-get-raises" true) os).map (fun s => (Od (w.withFollow "special-get-raises" true) s).2.2) = some (HK.val (w.withFollow "special-get-raises" true)) := by kernel_rfl
theorem SM (w : World) (os : OsState) : (PL (w.withFollow "special-get-raises" true) os).map (Od (w.withFollow "special-get-raises" true)) = some (true, openGood qV Ht, HK.val (w.withFollow "special-get-raises" true)) := Nl (Ro w os) (RS w os)
theorem UI : LeftO pw qV Ht XtV HK.obs HK.val 6000 := RB "special-get-raises" rfl Te SM
end
section
set_option maxRecDepth 1000000
theorem Ru : pw.bare := ⟨rfl, rfl, rfl, rfl, rfl, by decide +kernel⟩
theorem Va : (PySem.Challenge.rw_sj0123_01, KK) = (PySem.Challenge.rw_sj0123_01, KK) := by k_fill; rfl
abbrev UF : DefRec := { name := Str.ofString "law", params := (dT 105).1, body := (dT 105).2.1, scope := (dT 105).2.2, pos := ⟨699, 0, 720, 118⟩ }
end
section
theorem Bh {h₀ h : Heap} {L : Addr} {big l : List (Addr × Obj)} {q : Addr × Obj} (N : News h₀ L h big) (m : q ∈ big) (r : News h₀ L h l) : News h₀ L h (q :: l) := fun x hx => by
  rcases List.mem_cons.mp hx with rfl | hx
  · exact N _ m
  · exact r x hx
theorem Bp {h₀ h : Heap} {L : Addr} {l : List (Addr × Obj)} {q : Addr × Obj} (N : News h₀ L h [q]) (r : News h₀ L h l) : News h₀ L h (q :: l) := Bh N (.head _) r
theorem nm1 {a : Addr} {q : Addr × Obj} {l : List (Addr × Obj)} (h : a ≠ q.1) (r : a ∉ l.map (·.1)) : a ∉ (q :: l).map (·.1) := fun hx => (List.mem_cons.mp hx).elim h r
theorem fa0 {α : Type} {P : α → Prop} : ∀ q ∈ ([] : List α), P q := fun _ h => nomatch h
theorem fa1 {α : Type} {P : α → Prop} {a : α} {l : List α} (h : P a) (r : ∀ q ∈ l, P q) : ∀ q ∈ a :: l, P q := fun x hx => by
  rcases List.mem_cons.mp hx with rfl | hx
  · exact h
  · exact r x hx
noncomputable def Off (as : List Addr) (h h' : Heap) : Prop := ∀ b o, h.get? b = some o → b ∉ as → h'.get? b = some o
structure Kept (as : List Addr) (h g : Heap) : Prop where
  k : ∀ b o, h.get? b = some o → b ∉ as → g.get? b = some o
theorem Off.trans {as : List Addr} {h h' h'' : Heap} (x : Off as h h') (y : Off as h' h'') : Off as h h'' := fun b o e n => y b o (x b o e n) n
theorem Off.mono {as bs : List Addr} {h h' : Heap} (x : Off as h h') (k : ∀ a ∈ as, a ∈ bs) : Off bs h h' := fun b o e n => x b o e fun q => n (k b q)
section
variable {prog : Program} {w : World} {A₀ A : Around} {s : Shared} {base h₀ : Heap} {env : Env} {outer : List Env} {L : Addr} {m : Str → Option Value} {rel : List (Addr × Obj)} {K : Frag}
  {R : Result → Shared → Prop} {name qual : Str} {params : Arguments} {body : List Stmt} {scope : Scope} {dV kV doc pm cdv ct oc : Value} {an od : Option Addr} {osl : Array (Option Value)} {f : Addr} {args : Args} {binds : List (Str × Value)}
  {p : Program} {loose : List Str} {mean : ExcName → Option Value} {mg mb : Str → Option Value}
theorem Ij (B : Below A₀ base outer h₀) (F : Fr h₀ L s.heap m) (X₀ : K.In h₀) (N : News h₀ L s.heap rel) (T : Top p loose mean mg mb h₀) (hA : A.frames = some (env :: outer)) (hf : env.frame = some L) (hke : env.scope.kind = .function)
    (ho : K.lookup f = some ⟨oc, od, .func (fnOf name qual params body scope dV kV doc pm an cdv ct), osl⟩) (hcd : codeIn K cdv qual = true) (hroom : A.depth < recursionLimit)
    (hbind : BindsTo s (fnOf name qual params body scope dV kV doc pm an cdv ct) args binds) (hloc : ∀ y ∈ binds, scope.names.lookup y.1 = some .local)
    (h : ∀ g L' h₁, Fr h₀ L g m → Fr g L' h₁ (fun y => binds.reverse.lookup y) → News g L' h₁ rel → Below A base (env :: outer) g → K.In g → Top p loose mean mg mb g → (∀ b o, g.get? b = some o → s.heap.get? b = some o) → (∀ q ∈ rel, q.1 < L') → Kept (rel.map (·.1)) s.heap g →
      wpAny (model prog w) (A.deeper (envOf qual scope L' f cdv)) (execs body (envOf qual scope L' f cdv))
        (fun fl s' => LeaveK h₀ L m g (fun r s' => Off (rel.map (·.1)) s.heap s'.heap → R r s') (match fl with | .ret v => v | _ => .none) s')
        (fun e s' => wpAny (model prog w) (A.deeper (envOf qual scope L' f cdv)) (leaving (envOf qual scope L' f cdv) e) (fun _ s'' => R (.error e) s'') (fun e' s'' => R (.error e') s'') s')
        { s with heap := h₁, toks := s.toks + binds.length })
    (hcell : ∀ x ∈ scope.names, x.2 ≠ .cell) (hco : scope.isCoroutine = false) (hgen : scope.isGenerator = false) (hk : scope.kind = .function) : codeAny (model prog w) A (.call (.ref f) args) R s := by
  obtain ⟨FG, BG, st, lv⟩ := groundX (R := fun r s' => Off (rel.map (·.1)) s.heap s'.heap → R r s') B F N hA hf hke
  refine codeAny_call_def (fd := fnOf name qual params body scope dV kV doc pm an cdv ct) (body := body) (binds := binds) hroom ((X₀.keeps F.keep) _ _ ho) rfl (T.nolimit.keeps F.keep) (codeRec_of (X₀.keeps F.keep) hcd) rfl hbind hcell hloc (fun h₁ hns hk₁ => ?_) hco hgen hk
  refine wpAny_mono (h _ s.heap.objs.size h₁ FG ⟨hns, fun b o e => hk₁ b o (of_hideAll _ e), Nat.le_of_eq (hideAll_size _ _)⟩
    (fun q hq => ⟨hk₁ _ _ (N q hq).1, Nat.ne_of_lt (Heap.lt_size (N q hq).1), hideAll_none _ (List.mem_map_of_mem hq)⟩) BG (X₀.keeps st) (T.keeps st) (fun b o e => of_hideAll _ e) (fun q hq => Heap.lt_size (N q hq).1) ⟨fun b o e n => hideAll_get _ e n⟩) (fun fl s' hl => ?_) fun _ _ y => y
  have off : Off (rel.map (·.1)) s.heap s'.heap := fun b o e n => by
    obtain ⟨L', m', news', F', _⟩ := hl
    exact F'.keep b o (hideAll_get _ e n)
  exact lv _ _ hl off
end
section
variable {h₀ h h' : Heap} {L : Addr} {rel rel' led led' : List (Addr × Obj)}
theorem Ea (N : News h₀ L h led) (NR : News h₀ L h rel) (N' : News h₀ L h' rel') (off : Off (rel.map (·.1)) h h') (ds : List Addr)
    (hu : ∀ q ∈ led', q ∈ rel' ∨ (q ∈ led ∧ q.1 ∉ ds)) (hr : ∀ q ∈ rel, q.1 ∉ ds → q ∈ rel') : News h₀ L h' led' := fun q hq => by
  rcases hu q hq with a | ⟨a, b⟩
  · exact N' q a
  · by_cases c : q.1 ∈ rel.map (·.1)
    · obtain ⟨r, hr1, hr2⟩ := List.mem_map.mp c
      have e1 := (NR r hr1).1
      have e2 := (N q a).1
      rw [hr2, e2] at e1
      have : q = r := Prod.ext hr2.symm (Option.some.inj e1)
      subst this
      exact N' q (hr q hr1 b)
    · exact ⟨off _ _ (N q a).1 c, (N q a).2⟩
theorem BV (N : News h₀ L h led) (NR : News h₀ L h rel) (N' : News h₀ L h' rel) (off : Off (rel.map (·.1)) h h') : News h₀ L h' led :=
  Ea N NR N' off [] (fun _ hq => .inr ⟨hq, fun x => nomatch x⟩) fun _ hq _ => hq
theorem UC (N : News h₀ L h led) (off : Off [] h h') : News h₀ L h' led := fun q hq => ⟨off _ _ (N q hq).1 (fun x => nomatch x), (N q hq).2⟩
theorem UN {d : Addr} {o o' : Obj} (u : Upd d o o' led led') : (d, o) ∈ led := by
  obtain ⟨a, b, rfl, _⟩ := u.split
  exact List.mem_append.mpr (.inr (.head _))
theorem Sr {d : Addr} {o o' : Obj} (u : Upd d o o' led led') : ∀ q ∈ led', q = (d, o') ∨ (q ∈ led ∧ q.1 ≠ d) := by
  obtain ⟨a, b, rfl, rfl, x, y⟩ := u.split
  intro q hq
  rcases List.mem_append.mp hq with hq | hq
  · exact .inr ⟨List.mem_append.mpr (.inl hq), x q hq⟩
  · rcases List.mem_cons.mp hq with rfl | hq
    · exact .inl rfl
    · exact .inr ⟨List.mem_append.mpr (.inr (.tail _ hq)), y q hq⟩
theorem Tm {d : Addr} {o o' : Obj} (N : News h₀ L h led) (NR : News h₀ L h rel) (N' : News h₀ L h' rel') (off : Off (rel.map (·.1)) h h') (u : Upd d o o' led led') (hm : (d, o') ∈ rel') (hr : ∀ q ∈ rel, q.1 ≠ d → q ∈ rel') : News h₀ L h' led' :=
  Ea N NR N' off [d] (fun q hq => (Sr u q hq).elim (fun e => .inl (e ▸ hm)) fun e => .inr ⟨e.1, fun x => e.2 (List.mem_singleton.mp x)⟩) fun q hq hn => hr q hq fun x => hn (x ▸ .head _)
theorem Ar {a b : Addr} {o o' : Obj} (N : News h₀ L h led) (ha : (a, o) ∈ led) (hb : (b, o') ∈ led) (hc : (o.cls == o'.cls) = false) : a ≠ b := by
  rintro rfl
  have e1 := (N _ ha).1
  rw [(N _ hb).1] at e1
  have e2 : o' = o := Option.some.inj e1
  subst e2
  simp at hc
end
end
section
open Sem (wp)
noncomputable def ED : List String := ["bytearray.__contains__", "bytearray.__mod__", "bytearray.__rmod__", "_struct.pack_into.held", "bytearray.find.held"] ++ PySem.Builtin.Bytes.decodersThatHold
noncomputable def bad : Code → Bool
  | .builtin id _ => ED.contains id
  | _ => false
noncomputable def Pi (l : List (Code × Pos)) : Prop := ∀ x ∈ l, bad x.1 = false
structure CleanC (Γ : Ctx) : Prop where
  code : bad Γ.code = false
  below : Pi Γ.below
theorem CleanC.all {Γ : Ctx} {p : Pos} (h : CleanC Γ) : Pi ((Γ.code, p) :: Γ.below) := fun x hx => by
  rcases List.mem_cons.mp hx with rfl | hx
  · exact h.code
  · exact h.below x hx
noncomputable def wpI {α : Type} (M : Model) (A : Around) (t : Sem α) (Q : α → Shared → Prop) (E : Value → Shared → Prop) (s : Shared) : Prop :=
  ∀ Γ p, Γ.In A → CleanC Γ → wp M Γ t (fun a _ s' => Q a s') (fun e _ s' => E e s') p s
noncomputable def BY (M : Model) (A : Around) (c : Code) (R : Result → Shared → Prop) (s : Shared) : Prop :=
  ∀ Γ p, Γ.code = c → Γ.Below A → Pi Γ.below → wpCode M Γ R p s
section
variable {α β : Type} {M : Model} {A : Around} {E : Value → Shared → Prop} {s : Shared}
theorem Ae {t : Sem α} {Q : α → Shared → Prop} (h : wpAny M A t Q E s) : wpI M A t Q E s := fun Γ p a _ => h Γ p a
theorem Jn {c : Code} {R : Result → Shared → Prop} (h : codeAny M A c R s) : BY M A c R s := fun Γ p a b _ => h Γ p a b
theorem AD {a : α} {Q : α → Shared → Prop} (h : Q a s) : wpI M A (pure a) Q E s := fun _ _ _ _ => h
theorem Dr {t : Sem α} {Q Q' : α → Shared → Prop} {E' : Value → Shared → Prop} (h : wpI M A t Q E s)
    (hQ : ∀ a s, Q a s → Q' a s) (hE : ∀ e s, E e s → E' e s) : wpI M A t Q' E' s :=
  fun Γ p a c => Sem.wp_mono M Γ t (fun x _ s => hQ x s) (fun e _ s => hE e s) p s (h Γ p a c)
theorem AR {t : Sem α} {Q Q' : α → Shared → Prop} (h : wpI M A t Q E s) (hQ : ∀ a s, Q a s → Q' a s) : wpI M A t Q' E s := Dr h hQ fun _ _ x => x
theorem Al {m : Sem α} {f : α → Sem β} {Q : β → Shared → Prop} (h : wpI M A m (fun a s' => wpI M A (f a) Q E s') E s) :
    wpI M A (m >>= f) Q E s := fun Γ p a c => by
  rw [Sem.wp_bind']
  exact Sem.wp_mono M Γ m (fun x p' s' h' => h' Γ p' a c) (fun _ _ _ h' => h') p s (h Γ p a c)
theorem Eb {m : Sem α} {k : Value → Sem Unit} {Q : α → Shared → Prop}
    (h : wpI M A m Q (fun e s' => wpAny M A (k e) (fun _ s'' => E e s'') E s') s) : wpI M A (m.onRaise k) Q E s := fun Γ p a c => by
  rw [Sem.wp_onRaise]
  exact Sem.wp_mono M Γ m (fun _ _ _ h' => h') (fun e p' s' h' => h' Γ p' a) p s (h Γ p a c)
theorem PF {c : Prop} [Decidable c] {a b : Sem α} {Q : α → Shared → Prop} (x : c → wpI M A a Q E s) (y : ¬ c → wpI M A b Q E s) :
    wpI M A (if c then a else b) Q E s := by
  by_cases h : c
  · rw [if_pos h]; exact x h
  · rw [if_neg h]; exact y h
theorem No {m : Sem α} {Q : Except Value α → Shared → Prop} (h : wpI M A m (fun a => Q (.ok a)) (fun e => Q (.error e)) s) :
    wpI M A m.attempt Q E s := fun Γ p a c => by rw [Sem.wp_attempt]; exact h Γ p a c
theorem Bm {vs : List Value} {m : Sem α} {Q : α → Shared → Prop} (h : wpI M A m Q E s) : wpI M A (holding vs m) Q E s :=
  fun Γ p a c => by rw [Sem.wp_holding]; exact h Γ p a c
theorem QE {vs : List Value} {m : Sem α} {Q : α → Shared → Prop} (h : wpI M A m Q E s) : wpI M A (m.keep vs) Q E s :=
  fun Γ p a c => by rw [Sem.wp_keep]; exact h Γ p a c
theorem BB {pos : Pos} {Q : Unit → Shared → Prop} (h : Q () s) : wpI M A (standAt pos) Q E s := fun _ _ _ _ => h
theorem Ih {Q : Unit → Shared → Prop} (h : Q () s) : wpI M A point Q E s := fun _ _ _ _ => h
theorem PE {c : Code} {h : Option Value} {Q : Flow → Shared → Prop}
    (hc : BY M (A.mark h) c (fun r s' => match r with | .ok f => Q f s' | .error e => E e s') s) (hnb : h ≠ some byPass) :
    wpI M A (run c h) Q E s :=
  fun Γ p a k => by rw [Sem.wp_run]; exact hc _ p rfl (a.enter c h p hnb) k.all
theorem Lj {c : Code} {env : Env} {Q : Flow → Shared → Prop}
    (hc : BY M A c (fun r s' => match r with | .ok f => Q f s' | .error e => cameBackBy M A env E e s') s) :
    wpI M A (runOwn c env none) Q E s := by
  unfold runOwn
  exact Eb (PE hc (by intro x; cases x))
theorem MH {c : Code} {Q : Value → Shared → Prop}
    (hc : BY M A c (fun r s' => match r with | .ok (.ret v) => Q v s' | .ok _ => False | .error e => E e s') s) :
    wpI M A (runValue c) Q E s := fun Γ p a k => by rw [Sem.wp_runValue]; exact hc _ p rfl (a.enter c none p (by intro x; cases x)) k.all
theorem HZ {f : Value} {pos : List Value} {kw : List (Str × Value)} {Q : Value → Shared → Prop}
    (hc : BY M A (.call f ⟨pos, kw⟩) (fun r s' => match r with | .ok (.ret v) => Q v s' | .ok _ => False | .error e => E e s') s) :
    wpI M A (call f pos kw) Q E s := MH hc
theorem Pd {c : Code} {R R' : Result → Shared → Prop} (h : BY M A c R s) (hR : ∀ r s, R r s → R' r s) : BY M A c R' s :=
  fun Γ p hc a b => wpCode_mono hR (h Γ p hc a b)
theorem CW {c : Code} {R : Result → Shared → Prop}
    (h : wpI M (A.under c) (M.den c) (fun fin s' => match fin with | .done f => R (.ok f) s' | .again c' => c'.quiet = true ∧ BY M A c' R s')
      (fun e s' => R (.error e) s') s) (hb : autoParam (bad c = false) aRf) : BY M A c R s := fun Γ p hc a k => by
  rw [wpCode_iff_wp, hc]
  refine Sem.wp_mono M Γ _ (fun fin p' s' h' => ?_) (fun _ _ _ h' => h') p s (h Γ p (hc ▸ a.in) ⟨hc ▸ hb, k⟩)
  cases fin with
  | done f => exact h'
  | again c' => exact ⟨h'.1, h'.2 (Γ.goto c') p' rfl (a.goto c') k⟩
theorem GC {c : Code} {R : Result → Shared → Prop} (hq : c.quiet = true) (I : Nat → Shared → Prop)
    (turn : ∀ n s, I n s → wpI M (A.under c) (M.den c)
      (fun fin s' => match fin with | .done f => R (.ok f) s' | .again c' => (c' = c ∧ ∃ m, m < n ∧ I m s') ∨ (c'.quiet = true ∧ BY M A c' R s')) (fun e s' => R (.error e) s') s)
    (n : Nat) (h : I n s) (hb : autoParam (bad c = false) aRf) : BY M A c R s := by
  induction n using Nat.strongRecOn generalizing s with
  | ind n ih =>
    refine CW (Dr (turn n s h) (fun fin s' hf => ?_) fun _ _ h' => h') hb
    cases fin with
    | done f => exact hf
    | again c' =>
      rcases hf with ⟨rfl, m, hm, hI⟩ | hf
      · exact ⟨hq, ih m hm hI⟩
      · exact hf
end
section
variable {M : Model} {A : Around} {E : Value → Shared → Prop} {s : Shared} {env : Env}
theorem Ai {st rest} {Q : Flow → Shared → Prop}
    (h : wpI M A (exec st env) (fun f s' => match f with | .next => wpI M A (execs rest env) Q E s' | f => Q f s') E s) :
    wpI M A (execs (st :: rest) env) Q E s := by
  rw [execs_cons]
  refine Al (AR h fun f s' h' => ?_)
  cases f <;> first | exact h' | exact AD h'
theorem Bc {Q : Flow → Shared → Prop} (h : Q .next s) : wpI M A (execs [] env) Q E s := fun _ _ _ _ => h
theorem Jd {l op r pos} {Q : Value → Shared → Prop}
    (h : wpI M A (eval l env) (fun a s₁ => wpI M A (eval r env) (fun b s₂ => wpI M A (compareOp op a b) Q E s₂) E s₁) E s)
    (hm : autoParam (behindInMarks op r = false) aUn) :
    wpI M A (eval (.Compare l [op] [r] pos) env) Q E s := fun Γ p a c => by
  simp only [eval_Compare1, markedBehindIn_of_false hm, Sem.wp_bind', Sem.wp_holding, Sem.wp_cmd_standAt, Sem.wp_operate]
  exact Sem.wp_mono M Γ _ (fun _ p₁ s₁ h₁ => Sem.wp_mono M Γ _ (fun _ _ s₂ h₂ => h₂ Γ _ a c) (fun _ _ _ h' => h') _ _ (h₁ Γ p₁ a c))
    (fun _ _ _ h' => h') _ _ (h Γ p a c)
theorem JJ {l op r pos} {Q : Value → Shared → Prop}
    (h : wpI M A (eval l env) (fun a s₁ => wpI M A (eval r env) (fun b s₂ => wpI M A (binaryOp op a b) Q E s₂) E s₁) E s) :
    wpI M A (eval (.BinOp l op r pos) env) Q E s := fun Γ p a c => by
  simp only [eval_BinOp, Sem.wp_bind', Sem.wp_holding, Sem.wp_cmd_standAt, Sem.wp_operate]
  exact Sem.wp_mono M Γ _ (fun _ p₁ s₁ h₁ => Sem.wp_mono M Γ _ (fun _ _ s₂ h₂ => h₂ Γ _ a c) (fun _ _ _ h' => h') _ _ (h₁ Γ p₁ a c))
    (fun _ _ _ h' => h') _ _ (h Γ p a c)
theorem Cb {x pos' value pos} {Q : Flow → Shared → Prop}
    (h : wpI M A (eval value env) (fun v s₁ => wpAny M A (storeName env x v) (fun _ => Q .next) E s₁) E s)
    (hs : autoParam (swapsWith value (some (.Name x pos')) pos.line env = pure false) aRf) :
    wpI M A (exec (.Assign [.Name x pos'] value pos) env) Q E s := fun Γ p a c => by
  simp only [exec_Assign_Name env x pos' value pos hs, Sem.wp_bind', Sem.wp_cmd_standAt, Sem.wp_bindName, Sem.wp_pure']
  exact Sem.wp_mono M Γ _ (fun v _ s₁ h₁ => h₁ Γ _ a) (fun _ _ _ h' => h') _ _ (h Γ _ a c)
theorem FV {test body orelse pos} {Q : Flow → Shared → Prop}
    (h : wpI M A (isTrue test env (eval test env))
      (fun b s₂ => if b then wpI M A (execs body env) Q E s₂ else wpI M A (execs orelse env) Q E s₂) E s) :
    wpI M A (exec (.If test body orelse pos) env) Q E s := by
  rw [exec_If]
  refine Al (BB (Al (AR h fun b s' h' => ?_)))
  cases b <;> exact h'
theorem Qj {test body orelse : Expr} {pos : Pos} {Q : Value → Shared → Prop}
    (h : wpI M A (isTrue test env (eval test env)) (fun b s₁ => if b then wpI M A (eval body env) Q E s₁ else wpI M A (eval orelse env) Q E s₁) E s) :
    wpI M A (eval (.IfExp test body orelse pos) env) Q E s := by
  rw [arm_eval_IfExp]
  refine Al (AR h fun b s₁ h₁ => ?_)
  cases b <;> exact h₁
theorem DA {e pos} {Q : Flow → Shared → Prop} (h : wpI M A (eval e env) (fun v => Q (.ret v)) E s) :
    wpI M A (exec (.Return (some e) pos) env) Q E s := by
  rw [exec_Return_some]
  exact Al (BB (Al (AR h fun v s' h' => AD h')))
theorem It {l op r pos whole} {Q : Bool → Shared → Prop}
    (h : wpI M A (eval l env) (fun a s₁ => wpI M A (eval r env) (fun b s₂ => wpAny M A (compareOp op a b)
      (fun c s₃ => wpAny M A (truthy c) Q E s₃) E s₂) E s₁) E s)
    (hm : autoParam (behindInMarks op r = false) aUn) : wpI M A (isTrue (.Compare l [op] [r] pos) env whole) Q E s := fun Γ p a k => by
  simp only [isTrue_Compare1, markedBehindIn_of_false hm, Sem.wp_bind', Sem.wp_holding, Sem.wp_cmd_standAt, Sem.wp_operate]
  exact Sem.wp_mono M Γ _ (fun _ p₁ s₁ h₁ => Sem.wp_mono M Γ _ (fun _ _ s₂ h₂ => Sem.wp_mono M Γ _ (fun c p₃ s₃ h₃ => h₃ Γ p₃ a)
    (fun _ _ _ h' => h') _ _ (h₂ Γ _ a)) (fun _ _ _ h' => h') _ _ (h₁ Γ p₁ a k)) (fun _ _ _ h' => h') _ _ (h Γ p a k)
theorem Hz {x : Expr} {pos : Pos} {whole : Sem Value} {Q : Bool → Shared → Prop} (h : wpI M A (isTrue x env (eval x env)) (fun b s₁ => Q (!b) s₁) E s) :
    wpI M A (isTrue (.UnaryOp .Not x pos) env whole) Q E s := by
  rw [arm_isTrue_UnaryOp]
  exact Al (AR h fun b s₁ h₁ => AD h₁)
theorem Lq {x y : Expr} {pos : Pos} {whole : Sem Value} {Q : Bool → Shared → Prop}
    (h : wpI M A (isTrue x env (eval x env)) (fun b s₁ => if b then Q true s₁ else wpI M A (isTrue y env (eval y env)) Q E s₁) E s) :
    wpI M A (isTrue (.BoolOp .Or [x, y] pos) env whole) Q E s := by
  rw [arm_isTrue_BoolOp, arm_allTrue_cons]
  refine Al (AR h fun b s₁ h₁ => ?_)
  cases b with
  | true => exact AD h₁
  | false =>
    show wpI M A (allTrue .Or [y] env) Q E s₁
    rw [arm_allTrue_cons]
    refine Al (AR h₁ fun b s₂ h₂ => ?_)
    cases b with
    | true => exact AD h₂
    | false => show wpI M A (allTrue .Or [] env) Q E s₂; rw [arm_allTrue_nil]; exact AD h₂
theorem QJ {x y : Expr} {pos : Pos} {Q : Value → Shared → Prop}
    (h : wpI M A (eval x env) (fun v s₁ => wpAny M A (truthy v) (fun t s₂ => if t then wpI M A (eval y env) Q E s₂ else Q v s₂) E s₁) E s) :
    wpI M A (eval (.BoolOp .And [x, y] pos) env) Q E s := by
  show wpI M A (do
    let v ← eval x env
    standAt pos
    let t ← holding [v] (truthy v)
    match BoolOp.And, t with
    | .And, false | .Or, true => pure v
    | _, _ => boolOp pos .And [eval y env]) Q E s
  refine Al (AR h fun v s₁ h₁ => Al (BB (Al (Bm (Ae (wpAny_mono h₁ (fun t s₂ h₂ => ?_) fun _ _ x => x))))))
  cases t with
  | false => exact AD h₂
  | true => exact h₂
theorem Gj {e : Expr} {whole : Sem Value} {Q : Bool → Shared → Prop} (h : wpI M A whole (fun v s₁ => wpAny M A (truthy v) Q E s₁) E s)
    (he : autoParam (isTrue e env whole = (do let v ← whole; standAt e.pos; holding [v] (truthy v))) aRf) : wpI M A (isTrue e env whole) Q E s := by
  rw [he]
  exact Al (AR h fun v s₁ h₁ => Al (BB (Bm (Ae h₁))))
theorem EP {Q : List Value → Shared → Prop} (h : Q [] s) : wpI M A (spliced []) Q E s := AD h
theorem Et {x : Sem Value} {rest : List (Bool × Sem Value)} {Q : List Value → Shared → Prop}
    (h : wpI M A x (fun v s₁ => wpI M A (spliced rest) (fun vs s₂ => Q (v :: vs) s₂) E s₁) E s) : wpI M A (spliced ((false, x) :: rest)) Q E s := by
  rw [spliced]
  refine Al (AR h fun v s₁ h₁ => ?_)
  simp only [Bool.false_eq_true, if_false]
  exact Al (AD (Al (Bm (AR h₁ fun vs s₂ h₂ => AD h₂))))
theorem GK {f : Value} {x : Sem Value} {rest : List (Bool × Sem Value)} {Q : Args → Shared → Prop}
    (h : wpI M A (spliced ((false, x) :: rest)) (fun vs s' => Q ⟨vs, []⟩ s') E s) : wpI M A (evalArgs f true ((false, x) :: rest) []) Q E s := by
  unfold evalArgs
  show wpI M A (spliced ((false, x) :: rest) >>= _) Q E s
  refine Al (AR h fun vs s' h' => ?_)
  refine Bm ?_
  exact Al (AD (Al (AD (AD h'))))
theorem Rn {f : Value} {Q : Args → Shared → Prop}
    (h : Q ⟨[], []⟩ s) : wpI M A (evalArgs f true [] []) Q E s := by
  unfold evalArgs
  show wpI M A (spliced [] >>= _) Q E s
  refine Al (EP ?_)
  exact Al (AD (Bm (Al (AD (AD h)))))
theorem HF {pos : Pos} {id : String} {first : List Value} {args : List (Bool × Sem Value)} {Q : Value → Shared → Prop} (hplain : args.any (·.1) = false)
    (h : wpI M A (evalArgs (.builtin id) true args []) (fun a s₁ => wpI M A (call (.builtin id) (first ++ a.pos) a.kw) Q E s₁) E s) :
    wpI M A (callWith pos (.builtin id) first args []) Q E s := by
  unfold callWith
  refine Al (Bm (AR h fun a s₁ h₁ => Al (BB ?_)))
  simp only [hplain, List.any_nil, Bool.or_false]
  refine Al (AD ?_)
  exact Al (AR h₁ fun r s₂ hr => Al (Bm (Ih (AD hr))))
theorem Ju {pos : Pos} {T : String} {first : List Value} {args : List (Bool × Sem Value)} {Q : Value → Shared → Prop} (hplain : args.any (·.1) = false)
    (h : wpI M A (evalArgs (.type T) true args []) (fun a s₁ => wpI M A (call (.type T) (first ++ a.pos) a.kw) Q E s₁) E s) :
    wpI M A (callWith pos (.type T) first args []) Q E s := by
  unfold callWith
  refine Al (Bm (AR h fun a s₁ h₁ => Al (BB ?_)))
  simp only [hplain, List.any_nil, Bool.or_false]
  refine Al (AD ?_)
  exact Al (AR h₁ fun r s₂ hr => Al (Bm (Ih (AD hr))))
theorem Ho {pos : Pos} {a : Addr} {first : List Value} {args : List (Bool × Sem Value)} {Q : Value → Shared → Prop}
    (h : wpI M A (evalArgs (.ref a) true args []) (fun x s₁ => (∃ o fd, s₁.heap.get? a = some o ∧ o.data = .func fd) ∧ wpI M A (call (.ref a) (first ++ x.pos) x.kw) Q E s₁) E s) :
    wpI M A (callWith pos (.ref a) first args []) Q E s := by
  unfold callWith
  refine Al (Bm (AR h fun x s₁ h₁ => Al (BB ?_)))
  obtain ⟨⟨o, fd, ho, hd⟩, h₂⟩ := h₁
  have tail : ∀ {t : Sem Value}, wpI M A t Q E s₁ → wpI M A (t >>= fun r => holding [r] point >>= fun _ => pure r) Q E s₁ :=
    fun ht => Al (AR ht fun r s₂ hr => Al (Bm (Ih (AD hr))))
  have kept : ∀ {mark : Value} {pos : List Value} {kw : List (Str × Value)}, wpI M A (call (.ref a) pos kw) Q E s₁ → wpI M A (callMarked mark (.ref a) pos kw) Q E s₁ := fun ht => by
    unfold callMarked; exact QE ht
  cases hs : args.any (·.1) <;> simp only [List.any_nil, Bool.or_false] <;>
    refine Al (m := keeperOf (.ref a)) (Ae ?_) <;> unfold keeperOf <;>
    refine wpAny_bind (wpAny_load ho ?_) <;> rw [hd] <;> refine wpAny_pure ?_
  all_goals
    first
      | exact tail h₂
      | exact tail (kept h₂)
      | (refine PF (fun _ => ?_) (fun _ => ?_) <;> first
          | exact tail h₂
          | exact tail (kept h₂))
theorem AK {id : Str} {p pos : Pos} {args : List Expr} {Q : Value → Shared → Prop}
    (h : wpAny M A (eval (.Name id p) env) (fun f s₁ => wpI M A (callWith pos f [] (backTo pos (starEach args env)) []) Q E s₁) E s) :
    wpI M A (eval (.Call (.Name id p) args [] pos) env) Q E s := by
  rw [arm_eval_Call_Name']
  exact Al (Ae h)
theorem En {name : Str} {o : Expr} {apos pos : Pos} {args : List Expr} {pl : Sem Bool} {Q : Value → Shared → Prop}
    (h : wpAny M A (eval o env) (fun ov s₁ => wpAny M A (getMethod ov name pl) (fun fx s₂ => wpI M A (callWith pos fx.1 fx.2 (backTo pos (starEach args env)) []) Q E s₂) E s₁) E s)
    (he : autoParam (eval (.Call (.Attribute o name apos) args [] pos) env = (do
      let ov ← eval o env
      standAt apos.atName
      let (f, first) ← holding [ov] (getMethod ov name pl)
      callWith pos f first (backTo pos (starEach args env)) (backToKw pos (keywordEach [] env)))) aRf) :
    wpI M A (eval (.Call (.Attribute o name apos) args [] pos) env) Q E s := by
  rw [he]
  refine Al (Ae (wpAny_mono h (fun ov s₁ h₁ => Al (BB (Al (Bm (Ae (wpAny_mono h₁ (fun fx s₂ h₂ => ?_) fun _ _ x => x)))))) fun _ _ x => x))
  exact h₂
end
end
section
theorem Rd (n : Nat) {α : Type} (h : Nonempty α) (P : α → Prop) : Nonempty {x : α // n = n ∧ (P x → ∀ y, P y)} :=
  (Classical.em (∃ x, ¬ P x)).elim (fun ⟨x, hx⟩ => ⟨⟨x, rfl, fun hp => absurd hp hx⟩⟩) fun hn => h.elim fun x => ⟨⟨x, rfl, fun _ y => Classical.byContradiction fun hy => hn ⟨y, hy⟩⟩⟩
noncomputable def eps (n : Nat) {α : Type} (h : Nonempty α) (P : α → Prop) : α := (Classical.choice (Rd n h P)).val
theorem PN (n : Nat) {α : Type} {i : Nonempty α} {P : α → Prop} (h : P (eps n i P)) : ∀ x, P x := (Classical.choice (Rd n i P)).property.2 h
structure Kp (P : Prop) : Prop where
  p : P
theorem HJ {α β : Type} (a : Nonempty α) (b : Nonempty β) : Nonempty (α × β) := a.elim fun x => b.elim fun y => ⟨(x, y)⟩
theorem Fj : Nonempty World := ⟨⟨fun _ _ => 0, { strHash := default, shareClass := default, mergeTok := default, idOf := default, idOfShared := default, followText := default, idOfImm := default }⟩⟩
theorem Ed : Nonempty Shared := ⟨{}⟩
theorem Ep : Nonempty Around := ⟨{}⟩
structure Cx where
  w : World
  p : Program
  loose : List Str
  mean : ExcName → Option Value
  mg : Str → Option Value
  mb : Str → Option Value
  dp : Nat
  un : Nat
  gd : Option (List Code)
  cn : Str
  cs : Scope
  a : Addr
  ccd : Value
  cl : List (Str × Addr)
  outer : List Env
  A₀ : Around
  base : Heap
  h₀ : Heap
  L : Addr
  m : Str → Option Value
  s : Shared
  Q : Value → Shared → Prop
  E : Value → Shared → Prop
  led : List (Addr × Obj)
theorem Vb : Nonempty Cx := Fj.elim fun w => Ed.elim fun s => Ep.elim fun A => ⟨⟨w, default, default, default, default, default, default, default, default, default, default, default, default, default, default, A, default, default, default, default, s, fun _ _ => True, fun _ _ => True, default⟩⟩
noncomputable abbrev Stg {F α : Type} (u : F → α → Prop) (Z : Prop) := (R : F) ×' (Kp (∀ z, u R z) → Z)
theorem BH {n : Nat} {α : Type} {i : Nonempty α} {P : α → Prop} (z : α) (h : P z) (x : α) (e : autoParam (z = eps n i P) aUn) : P x := PN n (e ▸ h) x
theorem AQ {n : Nat} {F α : Type} {u : F → α → Prop} {Z : Prop} {i : Nonempty α} (S : Stg u Z) (z : α) (h : u S.1 z) (e : autoParam (z = eps n i (u S.1)) aUn) : Z := S.2 ⟨fun x => BH z h x e⟩
noncomputable abbrev T24 (X : Type) := World → Program → List Str → (ExcName → Option Value) → (Str → Option Value) → (Str → Option Value) → Nat → Nat → Option (List Code) → Str → Scope → Addr → Value → List (Str × Addr) → List Env → Around → Heap → Heap → Addr → (Str → Option Value) → Shared → (Value → Shared → Prop) → (Value → Shared → Prop) → List (Addr × Obj) → X
noncomputable def vcx {X : Type} (P : T24 X) (c : Cx) : X := P c.w c.p c.loose c.mean c.mg c.mb c.dp c.un c.gd c.cn c.cs c.a c.ccd c.cl c.outer c.A₀ c.base c.h₀ c.L c.m c.s c.Q c.E c.led
noncomputable def ccx {F β : Type} (u : F → β → Prop) (P : T24 F) (z : Cx × β) : Prop := u (vcx P z.1) z.2
section
variable {G A B C D E F H I J K L M N O P Q S T U V W X Y Z A1 B1 C1 D1 E1 F1 H1 I1 J1 K1 L1 M1 N1 O1 P1 Q1 S1 T1 U1 V1 W1 X1 Y1 Z1 A2 B2 C2 D2 E2 : Type}
noncomputable def JR (R : A → G) (z : A) : G := R z
noncomputable def CM (R : A → B → G) (z : A × B) : G := JR (JR R z.1) z.2
noncomputable def CG (R : A → B → C → G) (z : (A × B) × C) : G := JR (CM R z.1) z.2
noncomputable def Ch (R : A → B → C → D → G) (z : (A × B) × C × D) : G := CM (CM R z.1) z.2
noncomputable def Cz (R : A → B → C → D → E → G) (z : ((A × B) × C) × D × E) : G := CM (CG R z.1) z.2
noncomputable def CR (R : A → B → C → D → E → F → G) (z : ((A × B) × C) × (D × E) × F) : G := CG (CG R z.1) z.2
noncomputable def Fe (R : A → B → C → D → E → F → H → G) (z : ((A × B) × C × D) × (E × F) × H) : G := CG (Ch R z.1) z.2
noncomputable def Da (R : A → B → C → D → E → F → H → I → G) (z : ((A × B) × C × D) × (E × F) × H × I) : G := Ch (Ch R z.1) z.2
noncomputable def ET (R : A → B → C → D → E → F → H → I → J → G) (z : (((A × B) × C) × D × E) × (F × H) × I × J) : G := Ch (Cz R z.1) z.2
noncomputable def Df (R : A → B → C → D → E → F → H → I → J → K → G) (z : (((A × B) × C) × D × E) × ((F × H) × I) × J × K) : G := Cz (Cz R z.1) z.2
noncomputable def Du (R : A → B → C → D → E → F → H → I → J → K → L → G) (z : (((A × B) × C) × (D × E) × F) × ((H × I) × J) × K × L) : G := Cz (CR R z.1) z.2
noncomputable def Dv (R : A → B → C → D → E → F → H → I → J → K → L → M → G) (z : (((A × B) × C) × (D × E) × F) × ((H × I) × J) × (K × L) × M) : G := CR (CR R z.1) z.2
noncomputable def CT (R : A → B → C → D → E → F → H → I → J → K → L → M → N → G) (z : (((A × B) × C × D) × (E × F) × H) × ((I × J) × K) × (L × M) × N) : G := CR (Fe R z.1) z.2
noncomputable def FJ (R : A → B → C → D → E → F → H → I → J → K → L → M → N → O → G) (z : (((A × B) × C × D) × (E × F) × H) × ((I × J) × K × L) × (M × N) × O) : G := Fe (Fe R z.1) z.2
noncomputable def Jc (R : A → B → C → D → E → F → H → I → J → K → L → M → N → O → P → G) (z : (((A × B) × C × D) × (E × F) × H × I) × ((J × K) × L × M) × (N × O) × P) : G := Fe (Da R z.1) z.2
noncomputable def Dk (R : A → B → C → D → E → F → H → I → J → K → L → M → N → O → P → Q → G) (z : (((A × B) × C × D) × (E × F) × H × I) × ((J × K) × L × M) × (N × O) × P × Q) : G := Da (Da R z.1) z.2
noncomputable def Kz (R : A → B → C → D → E → F → H → I → J → K → L → M → N → O → P → Q → S → G) (z : ((((A × B) × C) × D × E) × (F × H) × I × J) × ((K × L) × M × N) × (O × P) × Q × S) : G := Da (ET R z.1) z.2
noncomputable def Nj (R : A → B → C → D → E → F → H → I → J → K → L → M → N → O → P → Q → S → T → G) (z : ((((A × B) × C) × D × E) × (F × H) × I × J) × (((K × L) × M) × N × O) × (P × Q) × S × T) : G := ET (ET R z.1) z.2
noncomputable def Nu (R : A → B → C → D → E → F → H → I → J → K → L → M → N → O → P → Q → S → T → U → G) (z : ((((A × B) × C) × D × E) × ((F × H) × I) × J × K) × (((L × M) × N) × O × P) × (Q × S) × T × U) : G := ET (Df R z.1) z.2
noncomputable def Mj (R : A → B → C → D → E → F → H → I → J → K → L → M → N → O → P → Q → S → T → U → V → G) (z : ((((A × B) × C) × D × E) × ((F × H) × I) × J × K) × (((L × M) × N) × O × P) × ((Q × S) × T) × U × V) : G := Df (Df R z.1) z.2
noncomputable def Lp (R : A → B → C → D → E → F → H → I → J → K → L → M → N → O → P → Q → S → T → U → V → W → X → G) (z : ((((A × B) × C) × (D × E) × F) × ((H × I) × J) × K × L) × (((M × N) × O) × (P × Q) × S) × ((T × U) × V) × W × X) : G := Du (Du R z.1) z.2
noncomputable def OL (R : A → B → C → D → E → F → H → I → J → K → L → M → N → O → P → Q → S → T → U → V → W → X → Y → G) (z : ((((A × B) × C) × (D × E) × F) × ((H × I) × J) × (K × L) × M) × (((N × O) × P) × (Q × S) × T) × ((U × V) × W) × X × Y) : G := Du (Dv R z.1) z.2
noncomputable def PD (R : A → B → C → D → E → F → H → I → J → K → L → M → N → O → P → Q → S → T → U → V → W → X → Y → Z → A1 → G) (z : ((((A × B) × C × D) × (E × F) × H) × ((I × J) × K) × (L × M) × N) × (((O × P) × Q) × (S × T) × U) × ((V × W) × X) × (Y × Z) × A1) : G := Dv (CT R z.1) z.2
noncomputable def UL (R : A → B → C → D → E → F → H → I → J → K → L → M → N → O → P → Q → S → T → U → V → W → X → Y → Z → A1 → B1 → G) (z : ((((A × B) × C × D) × (E × F) × H) × ((I × J) × K) × (L × M) × N) × (((O × P) × Q × S) × (T × U) × V) × ((W × X) × Y) × (Z × A1) × B1) : G := CT (CT R z.1) z.2
noncomputable def UD (R : A → B → C → D → E → F → H → I → J → K → L → M → N → O → P → Q → S → T → U → V → W → X → Y → Z → A1 → B1 → C1 → G) (z : ((((A × B) × C × D) × (E × F) × H) × ((I × J) × K × L) × (M × N) × O) × (((P × Q) × S × T) × (U × V) × W) × ((X × Y) × Z) × (A1 × B1) × C1) : G := CT (FJ R z.1) z.2
noncomputable def Sn (R : A → B → C → D → E → F → H → I → J → K → L → M → N → O → P → Q → S → T → U → V → W → X → Y → Z → A1 → B1 → C1 → D1 → E1 → F1 → H1 → G) (z : ((((A × B) × C × D) × (E × F) × H × I) × ((J × K) × L × M) × (N × O) × P × Q) × (((S × T) × U × V) × (W × X) × Y × Z) × ((A1 × B1) × C1 × D1) × (E1 × F1) × H1) : G := Jc (Dk R z.1) z.2
noncomputable def PI (R : A → B → C → D → E → F → H → I → J → K → L → M → N → O → P → Q → S → T → U → V → W → X → Y → Z → A1 → B1 → C1 → D1 → E1 → F1 → H1 → I1 → G) (z : ((((A × B) × C × D) × (E × F) × H × I) × ((J × K) × L × M) × (N × O) × P × Q) × (((S × T) × U × V) × (W × X) × Y × Z) × ((A1 × B1) × C1 × D1) × (E1 × F1) × H1 × I1) : G := Dk (Dk R z.1) z.2
noncomputable def PG (R : A → B → C → D → E → F → H → I → J → K → L → M → N → O → P → Q → S → T → U → V → W → X → Y → Z → A1 → B1 → C1 → D1 → E1 → F1 → H1 → I1 → J1 → K1 → G) (z : (((((A × B) × C) × D × E) × (F × H) × I × J) × ((K × L) × M × N) × (O × P) × Q × S) × ((((T × U) × V) × W × X) × (Y × Z) × A1 × B1) × ((C1 × D1) × E1 × F1) × (H1 × I1) × J1 × K1) : G := Kz (Kz R z.1) z.2
noncomputable def Sm (R : A → B → C → D → E → F → H → I → J → K → L → M → N → O → P → Q → S → T → U → V → W → X → Y → Z → A1 → B1 → C1 → D1 → E1 → F1 → H1 → I1 → J1 → K1 → L1 → M1 → N1 → O1 → P1 → Q1 → S1 → T1 → U1 → V1 → G) (z : (((((A × B) × C) × (D × E) × F) × ((H × I) × J) × K × L) × (((M × N) × O) × (P × Q) × S) × ((T × U) × V) × W × X) × ((((Y × Z) × A1) × (B1 × C1) × D1) × ((E1 × F1) × H1) × I1 × J1) × (((K1 × L1) × M1) × (N1 × O1) × P1) × ((Q1 × S1) × T1) × U1 × V1) : G := Lp (Lp R z.1) z.2
noncomputable def So (R : A → B → C → D → E → F → H → I → J → K → L → M → N → O → P → Q → S → T → U → V → W → X → Y → Z → A1 → B1 → C1 → D1 → E1 → F1 → H1 → I1 → J1 → K1 → L1 → M1 → N1 → O1 → P1 → Q1 → S1 → T1 → U1 → V1 → W1 → X1 → Y1 → Z1 → A2 → B2 → C2 → D2 → E2 → G) (z : (((((A × B) × C × D) × (E × F) × H) × ((I × J) × K × L) × (M × N) × O) × (((P × Q) × S × T) × (U × V) × W) × ((X × Y) × Z) × (A1 × B1) × C1) × ((((D1 × E1) × F1 × H1) × (I1 × J1) × K1) × ((L1 × M1) × N1) × (O1 × P1) × Q1) × (((S1 × T1) × U1 × V1) × (W1 × X1) × Y1) × ((Z1 × A2) × B2) × (C2 × D2) × E2) : G := UL (UD R z.1) z.2
noncomputable def mk1 {Z9 : Prop} (R9 : A → Prop) (h9 : Kp (∀ a, R9 a) → Z9) : Stg (F := type_of% R9) JR Z9 := ⟨R9, fun K9 => h9 ⟨fun a => K9.p a⟩⟩
noncomputable def mk2 {Z9 : Prop} (R9 : A → B → Prop) (h9 : Kp (∀ a b, R9 a b) → Z9) : Stg (F := type_of% R9) CM Z9 := ⟨R9, fun K9 => h9 ⟨fun a b => K9.p (a, b)⟩⟩
noncomputable def mk3 {Z9 : Prop} (R9 : A → B → C → Prop) (h9 : Kp (∀ a b c, R9 a b c) → Z9) : Stg (F := type_of% R9) CG Z9 := ⟨R9, fun K9 => h9 ⟨fun a b c => K9.p ((a, b), c)⟩⟩
noncomputable def mk4 {Z9 : Prop} (R9 : A → B → C → D → Prop) (h9 : Kp (∀ a b c d, R9 a b c d) → Z9) : Stg (F := type_of% R9) Ch Z9 := ⟨R9, fun K9 => h9 ⟨fun a b c d => K9.p ((a, b), c, d)⟩⟩
noncomputable def mk5 {Z9 : Prop} (R9 : A → B → C → D → E → Prop) (h9 : Kp (∀ a b c d e, R9 a b c d e) → Z9) : Stg (F := type_of% R9) Cz Z9 := ⟨R9, fun K9 => h9 ⟨fun a b c d e => K9.p (((a, b), c), d, e)⟩⟩
noncomputable def mk6 {Z9 : Prop} (R9 : A → B → C → D → E → F → Prop) (h9 : Kp (∀ a b c d e f, R9 a b c d e f) → Z9) : Stg (F := type_of% R9) CR Z9 := ⟨R9, fun K9 => h9 ⟨fun a b c d e f => K9.p (((a, b), c), (d, e), f)⟩⟩
noncomputable def mk7 {Z9 : Prop} (R9 : A → B → C → D → E → F → H → Prop) (h9 : Kp (∀ a b c d e f h, R9 a b c d e f h) → Z9) : Stg (F := type_of% R9) Fe Z9 := ⟨R9, fun K9 => h9 ⟨fun a b c d e f h => K9.p (((a, b), c, d), (e, f), h)⟩⟩
noncomputable def mk8 {Z9 : Prop} (R9 : A → B → C → D → E → F → H → I → Prop) (h9 : Kp (∀ a b c d e f h i, R9 a b c d e f h i) → Z9) : Stg (F := type_of% R9) Da Z9 := ⟨R9, fun K9 => h9 ⟨fun a b c d e f h i => K9.p (((a, b), c, d), (e, f), h, i)⟩⟩
noncomputable def mk9 {Z9 : Prop} (R9 : A → B → C → D → E → F → H → I → J → Prop) (h9 : Kp (∀ a b c d e f h i j, R9 a b c d e f h i j) → Z9) : Stg (F := type_of% R9) ET Z9 := ⟨R9, fun K9 => h9 ⟨fun a b c d e f h i j => K9.p ((((a, b), c), d, e), (f, h), i, j)⟩⟩
noncomputable def Qp {Z9 : Prop} (R9 : A → B → C → D → E → F → H → I → J → K → Prop) (h9 : Kp (∀ a b c d e f h i j k, R9 a b c d e f h i j k) → Z9) : Stg (F := type_of% R9) Df Z9 := ⟨R9, fun K9 => h9 ⟨fun a b c d e f h i j k => K9.p ((((a, b), c), d, e), ((f, h), i), j, k)⟩⟩
noncomputable def UB {Z9 : Prop} (R9 : A → B → C → D → E → F → H → I → J → K → L → Prop) (h9 : Kp (∀ a b c d e f h i j k l, R9 a b c d e f h i j k l) → Z9) : Stg (F := type_of% R9) Du Z9 := ⟨R9, fun K9 => h9 ⟨fun a b c d e f h i j k l => K9.p ((((a, b), c), (d, e), f), ((h, i), j), k, l)⟩⟩
noncomputable def RR {Z9 : Prop} (R9 : A → B → C → D → E → F → H → I → J → K → L → M → Prop) (h9 : Kp (∀ a b c d e f h i j k l m, R9 a b c d e f h i j k l m) → Z9) : Stg (F := type_of% R9) Dv Z9 := ⟨R9, fun K9 => h9 ⟨fun a b c d e f h i j k l m => K9.p ((((a, b), c), (d, e), f), ((h, i), j), (k, l), m)⟩⟩
noncomputable def Qb {Z9 : Prop} (R9 : A → B → C → D → E → F → H → I → J → K → L → M → N → Prop) (h9 : Kp (∀ a b c d e f h i j k l m n, R9 a b c d e f h i j k l m n) → Z9) : Stg (F := type_of% R9) CT Z9 := ⟨R9, fun K9 => h9 ⟨fun a b c d e f h i j k l m n => K9.p ((((a, b), c, d), (e, f), h), ((i, j), k), (l, m), n)⟩⟩
noncomputable def UO {Z9 : Prop} (R9 : A → B → C → D → E → F → H → I → J → K → L → M → N → O → Prop) (h9 : Kp (∀ a b c d e f h i j k l m n o, R9 a b c d e f h i j k l m n o) → Z9) : Stg (F := type_of% R9) FJ Z9 := ⟨R9, fun K9 => h9 ⟨fun a b c d e f h i j k l m n o => K9.p ((((a, b), c, d), (e, f), h), ((i, j), k, l), (m, n), o)⟩⟩
noncomputable def UT {Z9 : Prop} (R9 : A → B → C → D → E → F → H → I → J → K → L → M → N → O → P → Prop) (h9 : Kp (∀ a b c d e f h i j k l m n o p, R9 a b c d e f h i j k l m n o p) → Z9) : Stg (F := type_of% R9) Jc Z9 := ⟨R9, fun K9 => h9 ⟨fun a b c d e f h i j k l m n o p => K9.p ((((a, b), c, d), (e, f), h, i), ((j, k), l, m), (n, o), p)⟩⟩
noncomputable def US {Z9 : Prop} (R9 : A → B → C → D → E → F → H → I → J → K → L → M → N → O → P → Q → Prop) (h9 : Kp (∀ a b c d e f h i j k l m n o p q, R9 a b c d e f h i j k l m n o p q) → Z9) : Stg (F := type_of% R9) Dk Z9 := ⟨R9, fun K9 => h9 ⟨fun a b c d e f h i j k l m n o p q => K9.p ((((a, b), c, d), (e, f), h, i), ((j, k), l, m), (n, o), p, q)⟩⟩
noncomputable def UP {Z9 : Prop} (R9 : A → B → C → D → E → F → H → I → J → K → L → M → N → O → P → Q → S → Prop) (h9 : Kp (∀ a b c d e f h i j k l m n o p q s, R9 a b c d e f h i j k l m n o p q s) → Z9) : Stg (F := type_of% R9) Kz Z9 := ⟨R9, fun K9 => h9 ⟨fun a b c d e f h i j k l m n o p q s => K9.p (((((a, b), c), d, e), (f, h), i, j), ((k, l), m, n), (o, p), q, s)⟩⟩
end
end
section
open Sem (wp)
set_option maxRecDepth 1000000
theorem MZ : CleanC (⟨.builtin "claim.caller" {}, none, none, [], none⟩ : Ctx) := ⟨by decide +kernel, fun x hx => nomatch hx⟩
theorem Su {prog : Program} {w : World} {t : Sem Fin} {s : Shared} {R : Result → Shared → Prop} (hreg : s.asleep)
    (h : wpI (model prog w) callerA t (fun fin s' => ∃ f, fin = .done f ∧ (R (.ok f) s' ∧ leftWithCleanup s'.gens = false)) (fun e s' => R (.error e) s' ∧ leftWithCleanup s'.gens = false) s) :
    ∃ n r s' s'', runN (denote table) prog w n s ⟨t, .builtin "claim.caller" {}, default, []⟩ = .halted (outcomeOf r) s' ∧
      schedN (denote table) prog w n (.single s ⟨t, .builtin "claim.caller" {}, default, []⟩) = .halted (outcomeOf r) s' ∧ s'.forget = s''.forget ∧ R r s'' := by
  have k : wp (model prog w) ⟨.builtin "claim.caller" {}, none, none, [], none⟩ t (Sem.finPost (model prog w) ⟨.builtin "claim.caller" {}, none, none, [], none⟩ fun r s' => R r s' ∧ leftWithCleanup s'.gens = false)
      (fun e _ s' => R (.error e) s' ∧ leftWithCleanup s'.gens = false) default s := by
    refine Sem.wp_mono _ _ t (fun fin p' s' h' => ?_) (fun _ _ _ h' => h') default s (h _ default caller_in MZ)
    obtain ⟨f, rfl, hf⟩ := h'
    exact hf
  obtain ⟨n, r, s₁, s₂, hs, hn, hfo, hR⟩ := wp_halts_full (M := model prog w) (R := R) hreg k
  exact ⟨n, r, s₂, s₁, hn, hs, hfo, hR⟩
noncomputable def Fg : ClaimW → (List Value → Sem Fin) → World → Shared → (Addr → Prop) → Prop → (Heap → Prop) → Prop := fun c tree w s free gens kept =>
  (s.asleep) → (s.gens = #[]) → (∀ args, c.pre args = true → WData.layableAll args = true →
      ∀ ord : List DictEntry → List DictEntry, (∀ l, (ord l).Perm l) →
      ∃ vs s₁, layAllW c.records (classAt s.heap) w.params ord args s = some (vs, s₁) ∧
        wpI (model c.prog w) callerA (tree vs) (fun fin s' => ∃ f, fin = .done f ∧ (c.Ends s args vs s₁ (.ok f) s' ∧ s'.os = s.os ∧ AllBare s'.gens ∧ kept s'.heap))
          (fun e s' => c.Ends s args vs s₁ (.error e) s' ∧ s'.os = s.os ∧ AllBare s'.gens ∧ kept s'.heap) s₁) →
  c.CallFrom (fun vs => ⟨tree vs, .builtin "claim.caller" {}, default, []⟩) w free gens kept s
@[irreducible] def Cn := eps 7275200 (by (repeat' (first | exact Ed | exact Fj | exact Ep | infer_instance | refine HJ ?_ ?_ | (refine ⟨?_⟩; repeat' (first | exact default | constructor))))) (Fe Fg)
theorem LP : Fe Fg Cn := by
  intro hz hgens hspec
  intro args hpre hlay ord hord
  obtain ⟨vs, s₁, hlaid, hcode⟩ := hspec args hpre hlay ord hord
  have hal := layAllW_rest _ _ _ hlaid
  obtain ⟨k, r, s', s'', hrun, hsched, hfo, hcase, hos, hkp⟩ := Su (prog := Cn.1.1.1.prog) (w := Cn.1.2.1) (t := Cn.1.1.2 vs) (s := s₁)
    (R := fun r s' => Cn.1.1.1.Ends Cn.1.2.2 args vs s₁ r s' ∧ s'.os = Cn.1.2.2.os ∧ Cn.2.2 s'.heap)
    (Shared.asleep_of_life hal.2.2.2 hz)
    (Dr hcode (by
      rintro fin s' ⟨f, e, h1, h2, h3, h4⟩
      exact ⟨f, e, ⟨h1, h2, h4⟩, leftWithCleanup_false_of_bare h3⟩) (by
      rintro e s' ⟨h1, h2, h3, h4⟩
      exact ⟨⟨h1, h2, h4⟩, leftWithCleanup_false_of_bare h3⟩))
  obtain ⟨eh, _, _, eo, _⟩ := Shared.forget_eq hfo
  have hcase := hcase.congr eh
  have hkp : Cn.2.2 s'.heap := by first | exact eh ▸ hkp | (rw [eh] at hkp; exact hkp) | (rw [← eh] at hkp; exact hkp)
  rw [← eo] at hos
  have hlife : s'.heap.life = Cn.1.2.2.heap.life := (runN_life _ _ _ hrun).trans hal.2.2.2
  refine ⟨vs, s₁, hlaid, k, _, s', hsched, ?_, (fun _ i x hx => by rw [hgens] at hx; simp at hx), hkp, by rw [hlife], Shared.rest_eq hos⟩
  rcases hcase with ⟨v, rfl, d1, d2, d3, d4, d5⟩ | ⟨e, ob, cls, rfl, d1, d2, d3, d4, d5⟩
  · exact .inl ⟨v, rfl, d1, d2, d3, fun b o y _ => d4 b o y, d5⟩
  · exact .inr ⟨e, ob, cls, rfl, d1, d2, d3, d4, fun b o y _ => d5 b o y⟩
def Pm {c tree w s free gens kept} :=
  (Fg.eq_1 c tree w s free gens kept).mp ((BH (P := Fe Fg) Cn LP (((c, tree), w, s), (free, gens), kept)))
noncomputable abbrev Sc (q : Program) (loose : List Str) (XP : (Str → Option Value) → Heap → Prop) (YP : World → Heap → Prop) (r : RowW) (d : DefRec) (kwd : List (Str × Expr)) : Prop :=
  ∀ (w : World) (s₀ s₁ : Shared) (mg mb : Str → Option Value), Ground q loose r.records XP w s₀ mg mb s₁.heap → YP w s₁.heap → ∀ (a : Addr) (o : Obj) (pm cd doc dV kV : Value), s₁.heap.get? a = some o →
    o.data = .func { docDef d.name d.params d.body d.scope pm cd doc with defaults := dV, kwdefaults := kV } → s₁.heap.CodeRec cd d.name → Dflts mg s₁.heap d.params kwd dV kV → mg d.name = some (.ref a) → s₁.gens = #[] →
    ∀ (args : List WData) (vals : List Value) (as : List Addr), r.claim.pre args = true → WData.layableAll args = true → ReadsAllW r.records (classAt s₀.heap) s₁.heap vals args as → WellAll w.params s₁.heap vals args → (∀ a ∈ as, (a == sysModules) = false) →
      wpI (model r.prog w) callerA (PySem.call (.ref a) vals) (fun v s' => GoodWG r.claim (classAt s₀.heap) (ExcName.means s₀.heap) args s₁ (.ok (.ret v)) s')
        (fun e s' => GoodWG r.claim (classAt s₀.heap) (ExcName.means s₀.heap) args s₁ (.error e) s') s₁
theorem Sb {r : OpenRow} {q : Program} {loose : List Str} {Xt : Shared → Bool} {XP : (Str → Option Value) → Heap → Prop} {α : Type} {Yf : Shared → α} {Ya : World → α} {YP : World → Heap → Prop} {d : DefRec} {kwd : List (Str × Expr)} {N : Nat}
    (left : LeftO r.prog q loose Xt Yf Ya N) (hY : ∀ w s, Yf s = Ya w → YP w s.heap) (hYk : ∀ w h h', YP w h → (∀ b o, h.get? b = some o → h'.get? b = some o) → YP w h')
    (hX : ∀ s, Xt s = true → XP (s.heap.nsMap mainGlobals) s.heap) (hXk : ∀ mg h h', XP mg h → (∀ b o, h.get? b = some o → h'.get? b = some o) → XP mg h')
    (hdef : defOf q r.name = some (d, kwd)) (hp : r.prog.theDef r.name = some (d.params, d.body, d.scope)) (hk : kwWritten? d.params.kwonlyargs d.params.kw_defaults = some kwd) (hRf : ∀ s, Xt s = true → RecFacts r.records s.heap) (hwr : (!r.writes || r.records.isEmpty) = true)
    (k1 : r.wellSaid = true) (ok : (chainsOk q && opensWell r.prog && (frees r.toRowW && r.within.isEmpty)) = true) (hb : r.prog.bare) (hw : r.toRowW.promised)
    (call : Sc q loose XP YP r.toRowW d kwd) : r.Holds := by
  obtain ⟨ok, k5⟩ := Bool.and_eq_true_iff.mp ok
  obtain ⟨hch, o1⟩ := Bool.and_eq_true_iff.mp ok
  obtain ⟨k5, k6⟩ := Bool.and_eq_true_iff.mp k5
  obtain ⟨hsame, hu, ha, hap, hm⟩ := frees_parts k5
  refine ⟨k1, hw, ⟨⟨hb, o1, by show r.makers.map _ = []; rw [hm]; rfl⟩, hw.witness, fun w => ⟨(left.behind hX hch w).1, fun s' hs' => ?_⟩⟩⟩
  obtain ⟨s₀, hf, hg0, s, hT, hz, hgens, hg, G00, y⟩ := (left.behind (XP := fun mg h => XP mg h ∧ RecFacts r.records h) (fun s hs => ⟨hX s hs, hRf s hs⟩) hch w).2 s' hs'
  have G0 : Ground q loose [] XP w s (s.heap.nsMap mainGlobals) (s.heap.nsMap builtinsNs) s.heap := ⟨G00.T, G00.B, G00.D, G00.TE, G00.TD, G00.W, G00.X.1, G00.cls, G00.has, G00.apart, G00.once, G00.K⟩
  have RF := G00.X.2
  have hT' := hT
  refine ⟨s₀, hf, hg0, s, hT, fun n hn => ?_, RF.1, RF.2.1, ?_⟩
  · obtain rfl : n = r.name := by split at hn <;> simp_all
    exact pinned_of_view hg G0 hdef hp hk
  have hgens : s.gens = #[] := Array.eq_empty_of_size_eq_zero (beq_iff_eq.mp hgens)
  have G : Ground q loose r.records XP w s _ _ s.heap := RF.ground G0
  refine Pm hz hgens fun args hpre hlay ord hord => ?_
  obtain ⟨⟨vs, s₁⟩, hlaid⟩ := Option.isSome_iff_exists.mp (layAllW_isSome (P := w.params) (ord := ord) G.has args r.args s (pre_splitW (r := r.toRowW) hpre).1)
  have keeps := layAllW_keeps _ _ _ hlaid
  have hal := layAllW_rest _ _ _ hlaid
  obtain ⟨as, hrd, hin, hold⟩ := reads_layAllW hord _ _ _ hlaid hlay s₁.heap (fun _ _ e => e)
  have L : Laid r.records w s s₁ args vs as := ⟨⟨ord, hord, hlaid⟩, hrd, hin, hold, keeps, hal.1.trans hgens, hal.2.2.1⟩
  have G₁ := G.keeps hXk keeps
  have hi := ident_freeW hu ha hap
  have hwi : r.claim.within = [] := List.isEmpty_iff.mp k6
  obtain ⟨a, o, pm, cd, doc, dV, kV, h1, h2, h3, h4, h5⟩ := G₁.fn hdef
  have h := call w s s₁ _ _ G₁ (hYk _ _ _ (hY w s y) keeps) a o pm cd doc dV kV h2 h3 h4 h5 (defOf_name hdef ▸ h1) L.gens args vs as hpre hlay L.reads L.well (L.low G.low)
  refine ⟨vs, s₁, hlaid, ?_⟩
  refine Al (Ae (wpAny_nsGet G₁.T.g ?_))
  rw [h1]
  refine Al (Dr h (fun v s' g => AD ?_) fun e s' g => ?_)
  · exact ⟨_, rfl, have z := GoodWG.laid (c := r.toRowW.claim) hsame hwi hi L g; ⟨z.1, z.2.1, z.2.2, fun q => ⟨namesKept_of hT' hg _ keeps g.2.1.old, noTable hwr q⟩⟩⟩
  · exact have z := GoodWG.laid (c := r.toRowW.claim) hsame hwi hi L g; ⟨z.1, z.2.1, z.2.2, fun q => ⟨namesKept_of hT' hg _ keeps g.2.1.old, noTable hwr q⟩⟩
end
section
set_option maxRecDepth 1000000
abbrev WalkTI : Prop := Sc qV Ht (XL qV []) HK.says (OpenLaw.row rwO).toRowW UF []
theorem Uy : OpenLaw.wellSaid rwO = true := (congrFun PySem.W.Fast.te9446332074065402090 rwO).trans (by
  refine look_both ?_ ?_
  all_goals (repeat' with_reducible refine look_both ?_ ?_)
  iterate 3
    refine look_both ?_ ?_
    (repeat' with_reducible refine look_both ?_ ?_)
  · kernel_rfl
  · kernel_rfl
  · decide +kernel
  · kernel_rfl
  · decide +kernel
  · decide +kernel
  all_goals kernel_rfl)
theorem hdI (walk : WalkTI) : rwO.Holds := by
  w_on
  refine holds_law Uy fun said => ?_
  refine Sb (q := qV) (loose := Ht) (Xt := XtV) (XP := XL qV []) (Yf := HK.obs) (Ya := HK.val) (YP := HK.says) (N := 6000) (d := UF) (kwd := []) UI HK.of HK.keeps (fun s e => xl_of s (Bool.and_eq_true_iff.mp e).1) XL.keeps (by rfl) (by rfl) (by rfl) (fun s e => recFacts_of (Bool.and_eq_true_iff.mp e).2) (by rfl) (by assumption) (by decide +kernel) Ru ?hw walk
  case hw => w_witness2
end
section
open Sem (wp)
section
variable {prog : Program} {w : World} {A : Around} {E : Value → Shared → Prop} {R : Result → Shared → Prop} {s : Shared}
theorem IQ {body env}
    (h : wpI (model prog w) (A.deeper env) (execs body env) (fun f s' => R (.ok (.ret (match f with | .ret v => v | _ => .none))) s')
      (fun e s' => wpAny (model prog w) (A.deeper env) (leaving env e) (fun _ s'' => R (.error e) s'') (fun e' s'' => R (.error e') s'') s') s) :
    BY (model prog w) A (.func body env) R s := by
  refine CW ?_
  show wpI _ (A.deeper env) (do point; match ← (execs body env).onRaise (leaving env) with | .ret v => ret v | _ => ret .none) _ _ s
  refine Al (Ih (Al (Eb (Dr h (fun f s' h' => ?_) fun _ _ h' => ?_))))
  · cases f <;> exact AD h'
  · exact h'
end
noncomputable def CQ : Program → World → Around → (Result → Shared → Prop) → Shared → Addr → Args → Obj → FuncData → (List Stmt) → Prop := fun prog w A R s a args o fd body =>
  (A.depth < recursionLimit) → (s.heap.get? a = some o) → (o.data = .func fd) → (fd.scope.isCoroutine = false) → (fd.scope.isGenerator = false) → (fd.body = .stmts body) → (s.heap.CodeRec fd.code fd.qualname) → (wpAny (model prog w) A.in1 (bindArgs fd args) (fun binds s₁ =>
      wpAny (model prog w) A.in1 (newFunctionEnv fd.scope fd.globals fd.closure binds (fd.qualname ++ ".<locals>.") (some a) fd.code none fd.builtins)
        (fun env s₂ => s₂.heap.NoLimit ∧ BY (model prog w) A (.func body env) R s₂) (fun e s' => R (.error e) s') s₁) (fun e s' => R (.error e) s') s) →
  BY (model prog w) A (.call (.ref a) args) R s
@[irreducible] def BW := eps 14200 (by (repeat' (first | exact Ed | exact Fj | exact Ep | infer_instance | refine HJ ?_ ?_ | (refine ⟨?_⟩; repeat' (first | exact default | constructor))))) (Df CQ)
theorem GN : Df CQ BW := by
  intro hroom ho hd' hco hgen hbody hcd h
  refine CW (Ae ?_)
  show wpAny _ BW.1.1.2.in1 (callAny (.ref BW.2.1.1.1) BW.2.1.1.2) _ _ BW.1.2.2
  simp only [callAny]
  refine wpAny_bind (wpAny_load ho ?_)
  obtain ⟨c, oc, vs, tq, hc, hoc, hdc, hq⟩ := hcd
  simp only [hd', callFunction, hco, hgen, hbody, hc]
  rw [hc] at h
  refine wpAny_bind (m := field (.ref c) 1) (wpAny_field hoc hdc hq (wpAny_bind (wpAny_pure ?_)))
  exact wpAny_bind (wpAny_mono h (fun binds s₁ h₁ => wpAny_bind (wpAny_mono h₁ (fun env s₂ h₂ => wpAny_bind (wpAny_enterFrame h₂.1 hroom
    (wpAny_pure (And.intro rfl h₂.2)))) fun _ _ h' => h')) fun _ _ h' => h')
def DK {prog w A R s a args o fd body} :=
  (CQ.eq_1 prog w A R s a args o fd body).mp ((BH (P := Df CQ) BW GN ((((prog, w), A), R, s), ((a, args), o), fd, body)))
section
variable {prog : Program} {w : World} {A : Around} {E : Value → Shared → Prop} {R : Result → Shared → Prop} {s : Shared}
theorem Ll {a : Addr} {o : Obj} {fd : FuncData} {body : List Stmt} {args : Args} {binds : List (Str × Value)}
    (hroom : A.depth < recursionLimit) (ho : s.heap.get? a = some o) (hdata : o.data = .func fd) (hlim : s.heap.NoLimit) (hcd : s.heap.CodeRec fd.code fd.qualname)
    (hbody : fd.body = .stmts body) (hbind : BindsTo s fd args binds)
    (hcell : ∀ x ∈ fd.scope.names, x.2 ≠ .cell) (hloc : ∀ x ∈ binds, fd.scope.names.lookup x.1 = some .local)
    (h : ∀ h₀, h₀.Ns s.heap.objs.size (fun x => binds.reverse.lookup x) → (∀ b o, s.heap.get? b = some o → h₀.get? b = some o) →
      wpI (model prog w) (A.deeper (callEnv fd s.heap.objs.size a)) (execs body (callEnv fd s.heap.objs.size a)) (fun f s' => R (.ok (.ret (match f with | .ret v => v | _ => .none))) s')
        (fun e s' => wpAny (model prog w) (A.deeper (callEnv fd s.heap.objs.size a)) (leaving (callEnv fd s.heap.objs.size a) e) (fun _ s'' => R (.error e) s'') (fun e' s'' => R (.error e') s'') s')
        { s with heap := h₀, toks := s.toks + binds.length })
    (hco : autoParam (fd.scope.isCoroutine = false) aRf) (hgen : autoParam (fd.scope.isGenerator = false) aRf) (hk : autoParam (fd.scope.kind = .function) aRf) :
    BY (model prog w) A (.call (.ref a) args) R s := by
  refine DK hroom ho hdata hco hgen hbody hcd (hbind _ _ _ _ ?_)
  refine wpAny_newFunctionEnv hcell hloc (fun h₀ hns₀ hsb₀ => ⟨hlim.fresh _ hsb₀, IQ (h h₀ hns₀ fun b o e => ?_)⟩) hk
  exact hsb₀.extBut b o (Nat.ne_of_lt (Heap.lt_size e)) (Heap.get?_push_of_some _ e)
end
section
variable {prog : Program} {w : World} {A₀ A : Around} {s : Shared} {base h₀ : Heap} {env : Env} {outer : List Env} {L : Addr} {m : Str → Option Value} {rel : List (Addr × Obj)} {K : Frag}
  {R : Result → Shared → Prop} {name qual : Str} {params : Arguments} {body : List Stmt} {scope : Scope} {dV kV doc pm cdv ct oc : Value} {an od : Option Addr} {osl : Array (Option Value)} {f : Addr} {args : Args} {binds : List (Str × Value)}
  {p : Program} {loose : List Str} {mean : ExcName → Option Value} {mg mb : Str → Option Value}
theorem OU (B : Below A₀ base outer h₀) (F : Fr h₀ L s.heap m) (X₀ : K.In h₀) (N : News h₀ L s.heap rel) (T : Top p loose mean mg mb h₀) (hA : A.frames = some (env :: outer)) (hf : env.frame = some L) (hke : env.scope.kind = .function)
    (ho : K.lookup f = some ⟨oc, od, .func (fnOf name qual params body scope dV kV doc pm an cdv ct), osl⟩) (hcd : codeIn K cdv qual = true) (hroom : A.depth < recursionLimit)
    (hbind : BindsTo s (fnOf name qual params body scope dV kV doc pm an cdv ct) args binds) (hloc : ∀ y ∈ binds, scope.names.lookup y.1 = some .local)
    (h : ∀ g L' h₁, Fr h₀ L g m → Fr g L' h₁ (fun y => binds.reverse.lookup y) → News g L' h₁ rel → Below A base (env :: outer) g → K.In g → Top p loose mean mg mb g → (∀ b o, g.get? b = some o → s.heap.get? b = some o) → (∀ q ∈ rel, q.1 < L') → Kept (rel.map (·.1)) s.heap g →
      wpI (model prog w) (A.deeper (envOf qual scope L' f cdv)) (execs body (envOf qual scope L' f cdv))
        (fun fl s' => LeaveK h₀ L m g (fun r s' => Off (rel.map (·.1)) s.heap s'.heap → R r s') (match fl with | .ret v => v | _ => .none) s')
        (fun e s' => wpAny (model prog w) (A.deeper (envOf qual scope L' f cdv)) (leaving (envOf qual scope L' f cdv) e) (fun _ s'' => R (.error e) s'') (fun e' s'' => R (.error e') s'') s')
        { s with heap := h₁, toks := s.toks + binds.length })
    (hcell : ∀ x ∈ scope.names, x.2 ≠ .cell) (hco : scope.isCoroutine = false) (hgen : scope.isGenerator = false) (hk : scope.kind = .function) : BY (model prog w) A (.call (.ref f) args) R s := by
  obtain ⟨FG, BG, st, lv⟩ := groundX (R := fun r s' => Off (rel.map (·.1)) s.heap s'.heap → R r s') B F N hA hf hke
  refine Ll (fd := fnOf name qual params body scope dV kV doc pm an cdv ct) (body := body) (binds := binds) hroom ((X₀.keeps F.keep) _ _ ho) rfl (T.nolimit.keeps F.keep) (codeRec_of (X₀.keeps F.keep) hcd) rfl hbind hcell hloc (fun h₁ hns hk₁ => ?_) hco hgen hk
  refine Dr (h _ s.heap.objs.size h₁ FG ⟨hns, fun b o e => hk₁ b o (of_hideAll _ e), Nat.le_of_eq (hideAll_size _ _)⟩
    (fun q hq => ⟨hk₁ _ _ (N q hq).1, Nat.ne_of_lt (Heap.lt_size (N q hq).1), hideAll_none _ (List.mem_map_of_mem hq)⟩) BG (X₀.keeps st) (T.keeps st) (fun b o e => of_hideAll _ e) (fun q hq => Heap.lt_size (N q hq).1) ⟨fun b o e n => hideAll_get _ e n⟩) (fun fl s' hl => ?_) fun _ _ y => y
  have off : Off (rel.map (·.1)) s.heap s'.heap := fun b o e n => by
    obtain ⟨L', m', news', F', _⟩ := hl
    exact F'.keep b o (hideAll_get _ e n)
  exact lv _ _ hl off
end
end
section
open Sem (wp)
theorem HC {id : String} (h : ED.contains id = true) (args : Args) (p : Pos) : bad ((Code.builtin id args, p) : Code × Pos).1 = true := h
theorem hx1 : ED.contains "bytearray.__contains__" = true := by decide +kernel
theorem hx2 : ED.contains "bytearray.__mod__" = true := by decide +kernel
theorem hx3 : ED.contains "bytearray.__rmod__" = true := by decide +kernel
theorem hx4 : ED.contains "_struct.pack_into.held" = true := by decide +kernel
theorem hx5 : ED.contains "bytearray.find.held" = true := by decide +kernel
theorem hx6 {id : String} {args : Args} {p : Pos} (hb : bad ((Code.builtin id args, p) : Code × Pos).1 = false) : Builtin.Bytes.decodersThatHold.contains id = false := by
  have h' : ED.contains id = false := hb
  unfold ED at h'
  rw [List.contains_eq_any_beq, List.any_append, Bool.or_eq_false_iff] at h'
  rw [List.contains_eq_any_beq]; exact h'.2
section
variable {M : Model} {A : Around} {E : Value → Shared → Prop} {s : Shared}
end
noncomputable def Fy : Model → Around → (Value → Shared → Prop) → Shared → Value → (Bool → Shared → Prop) → Prop := fun M A E s self Q =>
  (Q false s) →
  wpI M A (Builtin.Bytes.exported self) Q E s
@[irreducible] def Eh := eps 3097200 (by (repeat' (first | exact Ed | exact Fj | exact Ep | infer_instance | refine HJ ?_ ?_ | (refine ⟨?_⟩; repeat' (first | exact default | constructor))))) (CR Fy)
theorem KT : CR Fy Eh := by
  intro h
  intro Γ p hin c
  show Eh.2.2 (((Γ.code, p) :: Γ.below).any _) Eh.2.1.1
  rw [List.any_eq_false.mpr (fun x hx => ?_)]
  · exact h
  · have hb : bad x.1 = false := c.all x hx
    obtain ⟨⟨c, z⟩, y⟩ := x
    cases c
    all_goals delta Builtin.Bytes.exported.match_1
    all_goals try exact Bool.false_ne_true
    rename_i id args
    by_cases e1 : id = "bytearray.__contains__"
    · subst e1; exact absurd (hb.symm.trans (HC hx1 _ _)) Bool.false_ne_true
    by_cases e2 : id = "bytearray.__mod__"
    · subst e2; exact absurd (hb.symm.trans (HC hx2 _ _)) Bool.false_ne_true
    by_cases e3 : id = "bytearray.__rmod__"
    · subst e3; exact absurd (hb.symm.trans (HC hx3 _ _)) Bool.false_ne_true
    by_cases e4 : id = "_struct.pack_into.held"
    · subst e4; exact absurd (hb.symm.trans (HC hx4 _ _)) Bool.false_ne_true
    by_cases e5 : id = "bytearray.find.held"
    · subst e5; exact absurd (hb.symm.trans (HC hx5 _ _)) Bool.false_ne_true
    show ¬ ((dite (id = "bytearray.__contains__") _ _) = true)
    rw [dif_neg e1, dif_neg e2, dif_neg e3, dif_neg e4, dif_neg e5]
    obtain ⟨pos, kw⟩ := args
    cases pos
    · exact Bool.false_ne_true
    · show ¬ ((_ && Builtin.Bytes.decodersThatHold.contains id) = true)
      rw [hx6 hb, Bool.and_false]; exact Bool.false_ne_true
section
variable {M : Model} {A : Around} {E : Value → Shared → Prop} {s : Shared}
theorem MG {self : Value} {Q : Bool → Shared → Prop} (h : Q false s) : wpI M A (Builtin.Bytes.exported self) Q E s := by
  exact (BH (P := CR Fy) Eh KT (((M, A), E), (s, self), Q)) h
end
theorem Pp : mroOf (.type "bytearray") = pure [.type "bytearray", .type "object"] := by rw [mroOf_type]; kernel_rfl
theorem Md : typeLookup (.type "bytearray") "__new__" = pure (some (.builtin "bytearray.__new__")) := by rw [typeLookup_type, builtinLookup_eq_fast]; kernel_rfl
theorem Ec : Slot "bytearray" "__init__" "bytearray.__init__" :=
  .of (owner := "bytearray") (n := "__init__") (by rw [typeLookup_type, builtinLookup_eq_fast]; kernel_rfl) (by decide +kernel) (by decide +kernel) (by decide +kernel)
    (by first | exact .inl (by decide +kernel) | exact .inr (by decide +kernel)) (by rw [isSubtype_type]; kernel_rfl)
theorem Qg : TypeCalled "bytearray" "bytearray.__new__" "bytearray.__init__" :=
  ⟨by decide +kernel, by decide +kernel, ⟨_, _, Pp⟩, madeBy_type Pp Md (by decide +kernel), by decide +kernel, by rw [isSubtype_type]; kernel_rfl, Ec⟩
theorem Nz (a : Value) : checkTypeCall "bytearray" ⟨[a], []⟩ = pure () := by kernel_rfl
theorem OZ (a : Value) : checkBuiltinCall "bytearray.__new__" ⟨[.type "bytearray", a], []⟩ = pure () := by kernel_rfl
theorem Nq : plainId "bytearray.__new__" = true := by decide +kernel
theorem QF : entryFor table "bytearray.__new__" = some Builtin.«list.__new__» := entryFor_alias (id' := "list.__new__") (by kernel_rfl) (by decide +kernel) (by decide +kernel) (by kernel_rfl)
theorem LM : entryFor table "bytearray.__init__" = some Builtin.«bytearray.__init__» := by first | exact entryFor_of_fast (by kernel_rfl) | exact entryFor_of_tree (by kernel_rfl)
set_option maxRecDepth 1000000 in
theorem Qw : ("bytearray.__new__".splitOn ".__new__").headD "" = "bytearray" := by simp +decide [String.splitOn, String.splitOnAux]
theorem SJ : isSubtype (.type "bytearray") (.type "bytearray") = pure true := by rw [isSubtype_type]; kernel_rfl
theorem Ln : typeLookup (.type "bytearray") "__release_buffer__" = pure (some (.builtin "bytearray.__release_buffer__")) := by rw [typeLookup_type, builtinLookup_eq_fast]; kernel_rfl
theorem RD (v : Value) : Builtin.Bytes.bindOptional "bytearray.__init__" "bytearray" ["source", "encoding", "errors"] [v] [] = pure [some v, none, none] := by kernel_rfl
theorem Ou (i : Int) (t : Tok) : specialOf (.int i t) "__index__" = pure (some (.builtin "int.__index__")) := by
  show typeLookup (.type "int") "__index__" = _
  rw [typeLookup_type, builtinLookup_eq_fast]; kernel_rfl
section
variable {prog : Program} {w : World} {A : Around} {E : Value → Shared → Prop} {s : Shared}
theorem Oj (a : Value) {Q₁ : Value → Shared → Prop}
    (h : Q₁ (.ref s.heap.objs.size) { s with heap := s.heap.push { cls := .type "bytearray", data := .bytearray #[] } }) :
    codeAny (model prog w) A (.call (.builtin "bytearray.__new__") ⟨[.type "bytearray", a], []⟩) (wants Q₁ E) s := by
  refine codeAny_of_tree ?_
  show wpAny _ A.in1 (do checkBuiltinCall "bytearray.__new__" ⟨[.type "bytearray", a], []⟩; again (.builtin "bytearray.__new__" ⟨[.type "bytearray", a], []⟩)) _ _ s
  refine wpAny_bind (wpAny_of_eq (OZ a) (wpAny_pure ⟨plainId_quiet Nq _, codeAny_builtin_stack QF rfl fun p st => ?_⟩))
  rw [Around.under_plainId Nq _]
  have hsub := SJ
  have hown := Qw
  obtain ⟨hp, g, d, tk, os⟩ := s
  simp only [hown]
  wp_walk
  exact h
end
end
section
open Sem (wp)
section
variable {M : Model} {A : Around} {E : Value → Shared → Prop} {s : Shared}
theorem Dh {α : Type} {t : Sem α} {a : α} {Q : α → Shared → Prop} (h : t = pure a) (k : Q a s) : wpI M A t Q E s := h ▸ AD k
theorem Dn {α : Type} {c : Bool} {a b : Sem α} {Q : α → Shared → Prop} (hc : c = false) (h : wpI M A b Q E s) : wpI M A (if c = true then a else b) Q E s := by
  subst hc; exact h
theorem Sd {α : Type} {c : Bool} {a b : Sem α} {Q : α → Shared → Prop} (hc : c = true) (h : wpI M A a Q E s) : wpI M A (if c = true then a else b) Q E s := by
  subst hc; exact h
end
noncomputable abbrev baO (b : Array UInt8) : Obj := { cls := .type "bytearray", data := .bytearray b }
section
variable {prog : Program} {w : World} {A : Around} {E : Value → Shared → Prop} {s : Shared}
theorem Lc {a : Addr} {b : Array UInt8} {f : Array UInt8 → Array UInt8} {Q : Unit → Shared → Prop} {M : Model} (ho : s.heap.get? a = some (baO b)) (hz : (f b).size ≤ 64)
    (h : Q () { s with heap := s.heap.update a (Obj.mapBytearray f) }) : wpAny M A (Builtin.Bytes.write (.ref a) f) Q E s := by
  show wpAny M A (updateBytearray a f) Q E s
  unfold updateBytearray
  refine wpAny_bind (wpAny_load ho ?_)
  show wpAny _ _ (update a (Obj.mapBytearray f) >>= fun _ => lookBehind a) _ _ _
  refine wpAny_bind (wpAny_update ho ?_)
  have h2 : (s.heap.update a (Obj.mapBytearray f)).get? a = some (baO (f b)) := Heap.get?_update_self (Obj.mapBytearray f) ho rfl
  refine wpAny_lookBehind h2 ?_ h
  show (if (f b).size > sizeLine then some "bytearray:memory" else none) = none
  rw [if_neg]
  rw [sizeLine_eq]; lia
theorem IA {id : String} {args : Args} {b : Builtin} {R : Result → Shared → Prop} (hb : entryFor table id = some b) (hbad : ED.contains id = false)
    (h : wpI (model prog w) (A.under (.builtin id args)) (b args)
      (fun fin s' => match fin with | .done f => R (.ok f) s' | .again c' => c'.quiet = true ∧ BY (model prog w) A c' R s') (fun e s' => R (.error e) s') s) :
    BY (model prog w) A (.builtin id args) R s := by
  refine CW ?_ hbad
  show wpI _ _ (match entryFor table id with | some b => b args | none => unsupported ((withoutEnding? id "#data").getD id)) _ _ s
  rw [hb]; exact h
end
noncomputable def JM : Program → World → Around → Shared → Addr → Tok → (Result → Shared → Prop) → Prop := fun prog w A s S t R =>
  (s.heap.get? S = some (baO #[])) → (∀ h', Heap.SameBut S s.heap h' → h'.get? S = some (baO #[0]) → R (.ok (.ret .none)) { s with heap := h' }) →
  BY (model prog w) A (.builtin "bytearray.__init__" ⟨[.ref S, .int 1 t], []⟩) R s
@[irreducible] def DJ := eps 6406300 (by (repeat' (first | exact Ed | exact Fj | exact Ep | infer_instance | refine HJ ?_ ?_ | (refine ⟨?_⟩; repeat' (first | exact default | constructor))))) (Fe JM)
theorem Pn : Fe JM DJ := by
  intro ho hR
  have hT : DJ.1.2.2.TypeIs (.ref DJ.2.1.1) "bytearray" := ⟨_, ho, rfl⟩
  refine IA LM (by decide +kernel) ?_
  unfold Builtin.«bytearray.__init__»
  refine Al ?_
  unfold Builtin.Bytes.ownRelease
  refine Al ?_
  unfold Builtin.Bytes.slotIsOwn
  refine Al (Ae (wpAny_specialOf hT Ln ?_))
  dsimp only
  refine Dn (by decide +kernel) ?_
  refine Ae (wpAny_isInstance hT (b := true) (by rw [isSubtype_type]; kernel_rfl) ?_)
  refine AD ?_
  refine Dn rfl ?_
  refine Al (Dh (RD _) ?_)
  dsimp only
  refine Al (Dh (a := ()) rfl ?_)
  refine Al (Dh (a := ()) rfl ?_)
  refine Al ?_
  refine Al (MG ?_)
  show wpI _ _ (Builtin.Bytes.exportsOf (.ref DJ.2.1.1) >>= fun n => pure (decide (n > 0))) _ _ _
  refine Al ?_
  unfold Builtin.Bytes.exportsOf
  refine Al (Ae (wpAny_load ho ?_))
  refine AD (AD ?_)
  refine Ae ?_
  refine bm_if_false rfl ?_
  refine wpAny_bind (Lc ho (by decide) ?_)
  have h1 : (DJ.1.2.2.heap.update DJ.2.1.1 (Obj.mapBytearray fun _ => #[])).get? DJ.2.1.1 = some (baO #[]) := Heap.get?_update_self (Obj.mapBytearray fun _ => #[]) ho rfl
  refine wpAny_bind (wpAny_of_eq (a := none) rfl ?_)
  refine bm_if_false rfl ?_
  refine wpAny_bind (wpAny_of_eq (a := ()) rfl ?_)
  refine wpAny_bind (wpAny_of_eq (Ou 1 DJ.2.1.2) ?_)
  refine bm_if_true rfl ?_
  refine wpAny_bind (wpAny_attempt (wpAny_of_eq (a := (1 : Int)) rfl ?_))
  dsimp only
  refine bm_if_false (by decide +kernel) ?_
  rw [if_neg (by decide : ¬ ((1 : Int) < 0))]
  refine bm_if_false (by decide +kernel) ?_
  refine bm_if_false (by decide +kernel) ?_
  refine wpAny_bind (wpAny_rule ?_)
  rw [if_pos (by decide : (1 : Int) > 0)]
  refine wpAny_bind (Lc h1 (by decide +kernel) ?_)
  refine wpAny_bind (wpAny_pure (wpAny_pure ?_))
  refine hR _ ((Heap.SameBut.update ..).trans (Heap.SameBut.update ..)) ?_
  exact Heap.get?_update_self (Obj.mapBytearray fun _ => Array.replicate (1 : Int).toNat 0) h1 rfl
section
variable {prog : Program} {w : World} {A : Around} {E : Value → Shared → Prop} {s : Shared}
theorem RT {S : Addr} {t : Tok} {R : Result → Shared → Prop} (ho : s.heap.get? S = some (baO #[])) 
    (hR : ∀ h', Heap.SameBut S s.heap h' → h'.get? S = some (baO #[0]) → R (.ok (.ret .none)) { s with heap := h' }) :
    BY (model prog w) A (.builtin "bytearray.__init__" ⟨[.ref S, .int 1 t], []⟩) R s := by
  exact (BH (P := Fe JM) DJ Pn (((prog, w), A, s), (S, t), R)) ho hR
theorem Rb (h : Heap) : h.get? h.objs.size = none := by
  cases e : h.get? h.objs.size with
  | none => rfl
  | some o => exact absurd (Heap.lt_size e) (Nat.lt_irrefl _)
theorem RN (a b : Value) : argsOk "bytearray.__init__" ⟨[a, b], []⟩ := by kernel_rfl
end
noncomputable def DV : Program → World → Around → (Value → Shared → Prop) → Shared → Tok → (Value → Shared → Prop) → Prop := fun prog w A E s t Q =>
  (∀ h' tk, (∀ b o, s.heap.get? b = some o → h'.get? b = some o) → s.heap.get? s.heap.objs.size = none → h'.get? s.heap.objs.size = some (baO #[0]) → Q (.ref s.heap.objs.size) { s with heap := h', toks := tk }) →
  wpI (model prog w) A (call (.type "bytearray") [.int 1 t]) Q E s
@[irreducible] def Bo := eps 453600 (by (repeat' (first | exact Ed | exact Fj | exact Ep | infer_instance | refine HJ ?_ ?_ | (refine ⟨?_⟩; repeat' (first | exact default | constructor))))) (Fe DV)
theorem Iu : Fe DV Bo := by
  intro hQ
  refine HZ (CW (Ae ?_))
  show wpAny _ _ (callAny (.type "bytearray") _) _ _ _
  refine wpAny_pure ⟨Code.quiet_builtin _ (by decide +kernel), IA F.entry_type_call (by decide +kernel) ?_⟩
  rw [Around.under_plain (weight_type_call_type _ _ []) (units_type_call_type _ _ [])]
  unfold Builtin.«type.__call__»
  refine Dn (by decide +kernel) ?_
  dsimp only
  refine Dn (by decide +kernel) ?_
  refine Al (Dh (Nz _) ?_)
  refine Al (Dh Pp ?_)
  refine Dn rfl ?_
  refine Al (Dh Qg.made ?_)
  dsimp only
  refine Al (AD ?_)
  refine Al (Bm (Ae (wpAny_call (Oj _ ?_))))
  have ho : (Bo.2.1.1.heap.push (baO #[])).get? Bo.2.1.1.heap.objs.size = some (baO #[]) := Heap.get?_push_size _ rfl
  have hT : ({ Bo.2.1.1 with heap := Bo.2.1.1.heap.push (baO #[]) } : Shared).TypeIs (.ref Bo.2.1.1.heap.objs.size) "bytearray" := ⟨_, ho, rfl⟩
  refine Al (Ae (wpAny_isInstance hT (b := true) (by rw [isSubtype_type]; kernel_rfl) ?_))
  refine Dn rfl ?_
  refine Al (Bm ?_)
  unfold callSpecial?
  refine Al (Ae (wpAny_specialOf hT Ec.lookup ?_))
  dsimp only
  refine Bm (Al (Dh (Ec.bind _) ?_))
  dsimp only
  refine Al (HZ (CW ?_))
  show wpI _ _ (do checkBuiltinCall "bytearray.__init__" ⟨[.ref Bo.2.1.1.heap.objs.size, .int 1 Bo.2.1.2], []⟩; again (.builtin "bytearray.__init__" ⟨[.ref Bo.2.1.1.heap.objs.size, .int 1 Bo.2.1.2], []⟩)) _ _ _
  refine Al (Ae (Ec.check _ _ _ _ _ _ _ _ hT (RN _ _) ?_))
  refine AD ⟨plainId_quiet Ec.plain _, RT ho fun h' sb hh => ?_⟩
  refine AD ?_
  dsimp only
  refine Dn (by decide) ?_
  refine AD ?_
  refine hQ _ _ (fun b o e => sb.extBut b o (Nat.ne_of_lt (Heap.lt_size e)) (Heap.get?_push_of_some _ e)) (Rb _) hh
section
variable {prog : Program} {w : World} {A : Around} {E : Value → Shared → Prop} {s : Shared}
theorem JG {t : Tok} {Q : Value → Shared → Prop}
    (hQ : ∀ h' tk, (∀ b o, s.heap.get? b = some o → h'.get? b = some o) → s.heap.get? s.heap.objs.size = none → h'.get? s.heap.objs.size = some (baO #[0]) → Q (.ref s.heap.objs.size) { s with heap := h', toks := tk }) :
    wpI (model prog w) A (call (.type "bytearray") [.int 1 t]) Q E s := by
  exact (BH (P := Fe DV) Bo Iu (((prog, w), A, E), (s, t), Q)) hQ
end
end
section
open Sem (wp)
theorem Kg : Slot "bytearray" "__setitem__" "bytearray.__setitem__" :=
  .of (owner := "bytearray") (n := "__setitem__") (by rw [typeLookup_type, builtinLookup_eq_fast]; kernel_rfl) (by decide +kernel) (by decide +kernel) (by decide +kernel)
    (by first | exact .inl (by decide +kernel) | exact .inr (by decide +kernel)) (by rw [isSubtype_type]; kernel_rfl)
theorem QQ (a b c : Value) : argsOk "bytearray.__setitem__" ⟨[a, b, c], []⟩ := by kernel_rfl
theorem MR : entryFor table "bytearray.__setitem__" = some Builtin.«bytearray.__setitem__» := by first | exact entryFor_of_tree (by kernel_rfl)
theorem OQ : typeLookup (.type "bytearray") "__bytes__" = pure none := by rw [typeLookup_type, builtinLookup_eq_fast]; kernel_rfl
theorem OJ : typeLookup (.type "bytearray") "__index__" = pure none := by rw [typeLookup_type, builtinLookup_eq_fast]; kernel_rfl
theorem JK : typeLookup (.type "bytearray") "__buffer__" = pure (some (.builtin "bytearray.__buffer__")) := by rw [typeLookup_type, builtinLookup_eq_fast]; kernel_rfl
theorem Rr {b : Array UInt8} {x : UInt8} (hb : b.size = 1) : b.setIfInBounds 0 x = #[x] := by
  obtain ⟨l⟩ := b
  match l, hb with
  | [x], _ => rfl
section
variable {prog : Program} {w : World} {A : Around} {E : Value → Shared → Prop} {s : Shared}
end
noncomputable def Gq : Program → World → Around → (Value → Shared → Prop) → Shared → Addr → (Array UInt8) → Int → Tok → Tok → (Unit → Shared → Prop) → Prop := fun prog w A E s S b v t t' Q =>
  (s.heap.get? S = some (baO b)) → (b.size = 1) → (0 ≤ v) → (v < 256) → (∀ h', Heap.SameBut S s.heap h' → h'.get? S = some (baO #[v.toNat.toUInt8]) → Q () { s with heap := h' }) →
  wpAny (model prog w) A (setItem (.ref S) (.int 0 t) (.int v t')) Q E s
@[irreducible] def BP := eps 9034000 (by (repeat' (first | exact Ed | exact Fj | exact Ep | infer_instance | refine HJ ?_ ?_ | (refine ⟨?_⟩; repeat' (first | exact default | constructor))))) (Du Gq)
theorem Mc : Du Gq BP := by
  intro ho hb h0 h1 h
  have hT : BP.1.2.1.2.TypeIs (.ref BP.1.2.2) "bytearray" := ⟨_, ho, rfl⟩
  unfold setItem
  refine wpAny_holding ?_
  refine wpAny_bind (wpAny_sequenceKey hT (by decide) ?_)
  refine wpAny_bind (wpAny_callSpecial?_slot hT Kg (wpAny_call_entry Kg hT MR ?_ (QQ _ _ _)))
  unfold Builtin.«bytearray.__setitem__»
  refine bm_if_false rfl ?_
  dsimp only
  refine wpAny_bind ?_
  unfold Builtin.Bytes.subscript?
  refine wpAny_bind (wpAny_of_eq (Ou 0 BP.2.1.2) ?_)
  refine bm_if_false rfl ?_
  refine wpAny_bind (wpAny_of_eq (a := (0 : Int)) rfl ?_)
  refine bm_if_false (by decide +kernel) ?_
  refine wpAny_pure ?_
  dsimp only
  refine wpAny_bind ?_
  unfold Builtin.Bytes.byteValue
  refine wpAny_bind (wpAny_of_eq (a := BP.2.1.1.2) rfl ?_)
  refine bm_if_false (by simp only [Bool.or_eq_false_iff, decide_eq_false_iff_not]; lia) ?_
  refine wpAny_pure ?_
  refine wpAny_bind ?_
  unfold Builtin.Bytes.payload Builtin.Bytes.payload?
  refine wpAny_bind (wpAny_bind (wpAny_load ho ?_))
  refine wpAny_pure (wpAny_pure ?_)
  rw [show seqIndex? 0 BP.2.1.1.1.size = some 0 from by rw [hb]; decide +kernel]
  dsimp only
  refine wpAny_bind (Lc ho (by simp [hb]) ?_)
  have hf : BP.2.2.2 () { BP.1.2.1.2 with heap := BP.1.2.1.2.heap.update BP.1.2.2 (Obj.mapBytearray (·.setIfInBounds 0 BP.2.1.1.2.toNat.toUInt8)) } := by
    refine h _ (Heap.SameBut.update ..) ?_
    have e := Rr (x := BP.2.1.1.2.toNat.toUInt8) hb
    rw [← e]
    exact Heap.get?_update_self (Obj.mapBytearray (·.setIfInBounds 0 BP.2.1.1.2.toNat.toUInt8)) ho rfl
  first
    | exact wpAny_bind (wpAny_pure (wpAny_pure ⟨.none, rfl, wpAny_pure hf⟩))
    | exact wpAny_pure ⟨.none, rfl, wpAny_pure hf⟩
section
variable {prog : Program} {w : World} {A : Around} {E : Value → Shared → Prop} {s : Shared}
theorem Ps {S : Addr} {b : Array UInt8} {v : Int} {t t' : Tok} {Q : Unit → Shared → Prop} (ho : s.heap.get? S = some (baO b)) (hb : b.size = 1) (h0 : 0 ≤ v) (h1 : v < 256)
    (h : ∀ h', Heap.SameBut S s.heap h' → h'.get? S = some (baO #[v.toNat.toUInt8]) → Q () { s with heap := h' }) :
    wpAny (model prog w) A (setItem (.ref S) (.int 0 t) (.int v t')) Q E s := by
  exact (BH (P := Du Gq) BP Mc ((((prog, w), A), (E, s), S), ((b, v), t), t', Q)) ho hb h0 h1 h
end
noncomputable def EU : Program → World → Around → (Value → Shared → Prop) → Shared → Addr → (Array UInt8) → (Value → Shared → Prop) → Prop := fun prog w A E s S b Q =>
  (s.heap.get? S = some (baO b)) → (b.size ≤ 64) → (∀ t tk, Q (.bytes b t) { s with toks := tk }) →
  codeAny (model prog w) A (.call (.builtin "bytes.__new__") ⟨[.type "bytes", .ref S], []⟩) (wants Q E) s
@[irreducible] def BI := eps 2320200 (by (repeat' (first | exact Ed | exact Fj | exact Ep | infer_instance | refine HJ ?_ ?_ | (refine ⟨?_⟩; repeat' (first | exact default | constructor))))) (Da EU)
theorem JY : Da EU BI := by
  intro ho hz hQ
  have hT : BI.2.1.1.TypeIs (.ref BI.2.1.2) "bytearray" := ⟨_, ho, rfl⟩
  refine codeAny_of_tree ?_
  show wpAny _ BI.1.2.1.in1 (do checkBuiltinCall "bytes.__new__" ⟨[.type "bytes", .ref BI.2.1.2], []⟩; again (.builtin "bytes.__new__" ⟨[.type "bytes", .ref BI.2.1.2], []⟩)) _ _ BI.2.1.1
  refine wpAny_bind (wpAny_of_eq (F.bm_newCall _) (wpAny_pure ⟨plainId_quiet F.bm_plain _, codeAny_builtin F.bm_entry ?_⟩))
  rw [Around.under_plainId F.bm_plain _]
  unfold Builtin.«bytes.__new__»
  refine wpAny_bind (wpAny_of_eq (a := true) rfl ?_)
  refine bm_if_false rfl ?_
  refine wpAny_bind (wpAny_of_eq F.bm_sub ?_)
  refine bm_if_false rfl ?_
  refine wpAny_bind (wpAny_of_eq (F.bm_bind _) ?_)
  refine wpAny_bind (wpAny_of_eq (a := ()) rfl ?_)
  refine wpAny_bind (wpAny_of_eq (a := ()) rfl ?_)
  refine bm_if_false rfl ?_
  refine wpAny_bind (wpAny_specialOf hT OQ ?_)
  refine wpAny_bind (wpAny_bind ?_)
  show wpAny _ _ (load BI.2.1.2 >>= _) _ _ _
  refine wpAny_bind (wpAny_load ho ?_)
  refine wpAny_pure (wpAny_pure ?_)
  refine bm_if_false rfl ?_
  refine wpAny_bind (wpAny_specialOf hT OJ ?_)
  refine bm_if_true rfl ?_
  first
    | show wpAny _ _ (Builtin.Bytes.buffer? "bytes.__new__" (.ref BI.2.1.2) true >>= _) _ _ _
    | (refine wpAny_bind ?_; show wpAny _ _ (Builtin.Bytes.buffer? "bytes.__new__" (.ref BI.2.1.2) true >>= _) _ _ _)
  refine wpAny_bind ?_
  unfold Builtin.Bytes.buffer?
  refine wpAny_bind (wpAny_specialOf hT JK ?_)
  dsimp only
  refine wpAny_bind ?_
  unfold Builtin.Bytes.slotIsOwn
  refine wpAny_bind (wpAny_specialOf hT JK ?_)
  dsimp only
  refine bm_if_false (by decide +kernel) ?_
  refine wpAny_isInstance hT (b := true) (by rw [isSubtype_type]; kernel_rfl) ?_
  refine bm_if_false rfl ?_
  refine wpAny_bind (wpAny_specialOf hT JK ?_)
  refine wpAny_bind ?_
  unfold Builtin.Bytes.ownRelease
  refine wpAny_bind ?_
  unfold Builtin.Bytes.slotIsOwn
  refine wpAny_bind (wpAny_specialOf hT Ln ?_)
  dsimp only
  refine bm_if_false (by decide +kernel) ?_
  refine wpAny_isInstance hT (b := true) (by rw [isSubtype_type]; kernel_rfl) ?_
  refine wpAny_pure ?_
  refine bm_if_false rfl ?_
  refine wpAny_bind ?_
  unfold Builtin.Bytes.payload Builtin.Bytes.payload?
  refine wpAny_bind (wpAny_bind (wpAny_load ho ?_))
  refine wpAny_pure (wpAny_pure ?_)
  refine wpAny_pure ?_
  refine wpAny_bind (wpAny_rule ?_)
  refine wpAny_bind (wpAny_mkBytes ?_ (by rw [sizeLine_eq]; lia))
  show wpAny _ _ (if (Value.type "bytes" == Value.type "bytes") = true then _ else _) _ _ _
  refine bm_if_true (by decide) ?_
  first
    | exact wpAny_pure (hQ _ _)
    | exact wpAny_bind (wpAny_pure (wpAny_pure (hQ _ _)))
section
variable {prog : Program} {w : World} {A : Around} {E : Value → Shared → Prop} {s : Shared}
theorem Me {S : Addr} {b : Array UInt8} {Q : Value → Shared → Prop} (ho : s.heap.get? S = some (baO b)) (hz : b.size ≤ 64) (hQ : ∀ t tk, Q (.bytes b t) { s with toks := tk }) :
    codeAny (model prog w) A (.call (.builtin "bytes.__new__") ⟨[.type "bytes", .ref S], []⟩) (wants Q E) s := by
  exact (BH (P := Da EU) BI JY (((prog, w), A, E), (s, S), b, Q)) ho hz hQ
theorem LY {S : Addr} {b : Array UInt8} {Q : Value → Shared → Prop} (ho : s.heap.get? S = some (baO b)) (hz : b.size ≤ 64) (hQ : ∀ t tk, Q (.bytes b t) { s with toks := tk }) :
    wpAny (model prog w) A (call (.type "bytes") [.ref S]) Q E s := by
  refine callType_codes (Q₁ := fun obj s₁ => s₁.TypeIs obj "bytes" ∧ Q obj s₁) F.bm_called (F.bm_typeCall _) F.entry_object_init
    (Me ho hz fun t k => ⟨PySem.W.typeIs_bytes _ _ _, hQ t k⟩) fun obj s₁ h₁ => ?_
  exact ⟨h₁.1, F.args_object_init_2 obj _, object_init_meets F.bm_called.init.lookup F.bm_called.made (by decide) prog w A.in1 _ s₁ ⟨h₁.1, rfl, h₁.2⟩⟩
end
end
section
section
variable {h₀ h h' : Heap} {L S : Addr} {led : List (Addr × Obj)} {m : Str → Option Value} {o : Obj}
theorem Cw (F : Fr h₀ L h m) (keep : ∀ b o, h.get? b = some o → h'.get? b = some o) : Fr h₀ L h' m := by
  obtain ⟨oL, es, ep, hL, hr⟩ := F.ns
  exact ⟨⟨oL, es, ep, keep _ _ hL, hr⟩, fun b o e => keep _ _ (F.keep b o e), F.above⟩
theorem Cf (N : News h₀ L h led) (keep : ∀ b o, h.get? b = some o → h'.get? b = some o) : News h₀ L h' led := fun q hq => ⟨keep _ _ (N q hq).1, (N q hq).2⟩
theorem Dq (F : Fr h₀ L h m) (N : News h₀ L h led) (keep : ∀ b o, h.get? b = some o → h'.get? b = some o) (fresh : h.get? S = none) (own : h'.get? S = some o) : News h₀ L h' ((S, o) :: led) := fun q hq => by
  rcases List.mem_cons.mp hq with rfl | hq
  · refine ⟨own, fun e => ?_, ?_⟩
    · obtain ⟨oL, _, _, hL, _⟩ := F.ns
      have e' : S = L := e
      rw [e'] at fresh; rw [fresh] at hL; cases hL
    · cases q : h₀.get? S with
      | none => rfl
      | some o' => rw [F.keep _ _ q] at fresh; cases fresh
  · exact Cf N keep q hq
theorem UQ (F : Fr h₀ L h m) (N : News h₀ L h ((S, o) :: led)) (sb : Heap.SameBut S h h') : Fr h₀ L h' m := by
  have hS := N _ (.head _)
  obtain ⟨oL, es, ep, hL, hr⟩ := F.ns
  refine ⟨⟨oL, es, ep, (sb.2 _ (Ne.symm hS.2.1)).trans hL, hr⟩, fun b o e => (sb.2 _ fun x => ?_).trans (F.keep b o e), F.above⟩
  subst x
  exact absurd (e.symm.trans hS.2.2) (fun y => by cases y)
theorem Ut {o' : Obj} (N : News h₀ L h ((S, o) :: led)) (hn : ∀ q ∈ led, q.1 ≠ S) (sb : Heap.SameBut S h h') (own : h'.get? S = some o') : News h₀ L h' ((S, o') :: led) := fun q hq => by
  have hS := N _ (.head _)
  rcases List.mem_cons.mp hq with rfl | hq
  · exact ⟨own, hS.2⟩
  · exact ⟨(sb.2 _ (hn q hq)).trans (N q (.tail _ hq)).1, (N q (.tail _ hq)).2⟩
end
noncomputable def Hid (p : Prop) : Prop := p
theorem Qy {P : Params} {g : Heap} (X : (KK P).In g) : IsTup g 42 #[.int 1 241, .int 2 242, .int 4 243, .int 8 244] := ⟨_, X 42 _ rfl, rfl, _, rfl⟩
section
variable {M : Model} {A : Around} {E : Value → Shared → Prop} {s : Shared} {env : Env}
theorem Ct {e : Expr} {es : List Expr} {pos : Pos} {Q : List Value → Shared → Prop}
    (h : wpI M A (eval e env) (fun v s₁ => wpI M A (spliced (backTo pos (starEach es env))) (fun vs s₂ => Q (v :: vs) s₂) E s₁) E s)
    (hse : autoParam (backTo pos (starEach (e :: es) env) = (false, eval e env) :: backTo pos (starEach es env)) aRf) : wpI M A (spliced (backTo pos (starEach (e :: es) env))) Q E s := by
  rw [hse]; exact Et h
theorem Dz {pos : Pos} {Q : List Value → Shared → Prop} (h : Q [] s) : wpI M A (spliced (backTo pos (starEach [] env))) Q E s := EP h
theorem Qh {T : String} {e : Expr} {es : List Expr} {pos : Pos} {first : List Value} {Q : Value → Shared → Prop}
    (h : wpI M A (spliced (backTo pos (starEach (e :: es) env))) (fun vs s₁ => wpI M A (call (.type T) (first ++ vs)) Q E s₁) E s)
    (hse : autoParam (backTo pos (starEach (e :: es) env) = (false, eval e env) :: backTo pos (starEach es env)) aRf) (hp : autoParam ((backTo pos (starEach (e :: es) env)).any (·.1) = false) aRf) :
    wpI M A (callWith pos (.type T) first (backTo pos (starEach (e :: es) env)) []) Q E s := by
  refine Ju hp ?_
  rw [hse] at h ⊢
  exact GK h
theorem Gd {T : String} {e : Expr} {es : List Expr} {pos : Pos} {first : List Value} {Q : Value → Shared → Prop}
    (h : wpI M A (spliced (backTo pos (starEach (e :: es) env))) (fun vs s₁ => wpI M A (call (.builtin T) (first ++ vs)) Q E s₁) E s)
    (hse : autoParam (backTo pos (starEach (e :: es) env) = (false, eval e env) :: backTo pos (starEach es env)) aRf) (hp : autoParam ((backTo pos (starEach (e :: es) env)).any (·.1) = false) aRf) :
    wpI M A (callWith pos (.builtin T) first (backTo pos (starEach (e :: es) env)) []) Q E s := by
  refine HF hp ?_
  rw [hse] at h ⊢
  exact GK h
theorem JZ {a : Addr} {e : Expr} {es : List Expr} {pos : Pos} {first : List Value} {Q : Value → Shared → Prop}
    (h : wpI M A (spliced (backTo pos (starEach (e :: es) env))) (fun vs s₁ => (∃ o fd, s₁.heap.get? a = some o ∧ o.data = .func fd) ∧ wpI M A (call (.ref a) (first ++ vs)) Q E s₁) E s)
    (hse : autoParam (backTo pos (starEach (e :: es) env) = (false, eval e env) :: backTo pos (starEach es env)) aRf) :
    wpI M A (callWith pos (.ref a) first (backTo pos (starEach (e :: es) env)) []) Q E s := by
  refine Ho ?_
  rw [hse] at h ⊢
  exact GK h
end
theorem Qd {h₀ h h' : Heap} {L S : Addr} {led : List (Addr × Obj)} {g : Obj → List (Addr × Obj)} {o o' : Obj} (N : News h₀ L h led) (U : UpdF S o led g) (sb : Heap.SameBut S h h') (own : h'.get? S = some o') : News h₀ L h' (g o') := by
  obtain ⟨pre, post, rfl, hg, hp, hq⟩ := U.split
  rw [hg]
  have hS := N (S, o) (by simp)
  intro q hq'
  rcases List.mem_append.mp hq' with z | z
  · have := N q (List.mem_append.mpr (.inl z))
    exact ⟨(sb.2 _ (hp q z)).trans this.1, this.2⟩
  · rcases List.mem_cons.mp z with rfl | z
    · exact ⟨own, hS.2⟩
    · have := N q (List.mem_append.mpr (.inr (.tail _ z)))
      exact ⟨(sb.2 _ (hq q z)).trans this.1, this.2⟩
theorem Ry {h₀ h h' : Heap} {L S : Addr} {m : Str → Option Value} {led : List (Addr × Obj)} {g : Obj → List (Addr × Obj)} {o : Obj} (F : Fr h₀ L h m) (N : News h₀ L h led) (U : UpdF S o led g) (sb : Heap.SameBut S h h') : Fr h₀ L h' m := by
  obtain ⟨pre, post, rfl, hg, hp, hq⟩ := U.split
  have hS := N (S, o) (by simp)
  obtain ⟨oL, es, ep, hL, hr⟩ := F.ns
  refine ⟨⟨oL, es, ep, (sb.2 _ (Ne.symm hS.2.1)).trans hL, hr⟩, fun b o e => (sb.2 _ fun x => ?_).trans (F.keep b o e), F.above⟩
  subst x
  exact absurd (e.symm.trans hS.2.2) (fun y => by cases y)
section
variable {prog : Program} {w : World} {A : Around} {s : Shared} {h₀ : Heap} {L S : Addr} {m : Str → Option Value} {led : List (Addr × Obj)}
theorem Gh {g : Obj → List (Addr × Obj)} {b : Array UInt8} {v : Int} {t t' : Tok} {Q : Unit → Shared → Prop} {E : Value → Shared → Prop} (F : Fr h₀ L s.heap m) (N : News h₀ L s.heap led) (U : UpdF S (baO b) led g) (hb : b.size = 1) (h0 : 0 ≤ v) (h1 : v < 256)
    (h : ∀ (x : UInt8) h', Fr h₀ L h' m → News h₀ L h' (g (baO #[x])) → Q () { s with heap := h' }) : wpAny (model prog w) A (setItem (.ref S) (.int 0 t) (.int v t')) Q E s := by
  have hS : s.heap.get? S = some (baO b) := by
    obtain ⟨pre, post, rfl, hg, hp, hq⟩ := U.split
    exact (N (S, baO b) (by simp)).1
  exact Ps hS hb h0 h1 fun h' sb own => h _ h' (Ry F N U sb) (Qd N U sb own)
theorem RW {b : Array UInt8} {Q : Value → Shared → Prop} {E : Value → Shared → Prop} (N : News h₀ L s.heap led) (hm : (S, baO b) ∈ led) (hz : b.size ≤ 64) (h : ∀ t tk, Q (.bytes b t) { s with toks := tk }) : wpAny (model prog w) A (call (.type "bytes") [.ref S]) Q E s :=
  LY (N _ hm).1 hz h
theorem OO {t : Tok} {Q : Value → Shared → Prop} {E : Value → Shared → Prop} (F : Fr h₀ L s.heap m) (N : News h₀ L s.heap led)
    (hQ : ∀ S h' tk, (∀ q ∈ led, q.1 ≠ S) → Fr h₀ L h' m → News h₀ L h' ((S, baO #[0]) :: led) → Q (.ref S) { s with heap := h', toks := tk }) : wpI (model prog w) A (call (.type "bytearray") [.int 1 t]) Q E s :=
  JG fun h' tk keep fresh own => hQ _ h' tk (fun q hq e => by
    have := (N q hq).1
    rw [e, fresh] at this; cases this) (Cw F keep) (Dq F N keep fresh own)
end
theorem RA {P : Params} {h₀ h : Heap} {L f : Addr} {m : Str → Option Value} {o : Obj} (X : (KK P).In h₀) (F : Fr h₀ L h m) (ho : (KK P).lookup f = some o) : h.get? f = some o := F.keep _ _ (X _ _ ho)
theorem news_sub {h₀ h : Heap} {L : Addr} {big small : List (Addr × Obj)} (N : News h₀ L h big) (k : ∀ q ∈ small, q ∈ big) : News h₀ L h small := fun q hq => N q (k q hq)
theorem MU {d : Addr} {o o' : Obj} {led : List (Addr × Obj)} {g : Obj → List (Addr × Obj)} (u : UpdF d o led g) : ∀ q ∈ g o', q = (d, o') ∨ (q ∈ led ∧ q.1 ≠ d) := by
  obtain ⟨a, b, rfl, hg, x, y⟩ := u.split
  rw [hg]
  intro q hq
  rcases List.mem_append.mp hq with hq | hq
  · exact .inr ⟨List.mem_append.mpr (.inl hq), x q hq⟩
  · rcases List.mem_cons.mp hq with rfl | hq
    · exact .inl rfl
    · exact .inr ⟨List.mem_append.mpr (.inr (.tail _ hq)), y q hq⟩
theorem Ul {d : Addr} {o : Obj} {led : List (Addr × Obj)} {g : Obj → List (Addr × Obj)} (u : UpdF d o led g) : g o = led := by
  obtain ⟨a, b, rfl, hg, x, y⟩ := u.split
  exact hg o
theorem CL {h₀ h h' : Heap} {L d : Addr} {o o' : Obj} {led rel rel' : List (Addr × Obj)} {g : Obj → List (Addr × Obj)} (N : News h₀ L h led) (NR : News h₀ L h rel) (N' : News h₀ L h' rel') (off : Off (rel.map (·.1)) h h') (U : UpdF d o led g)
    (hm : (d, o') ∈ rel') (hr : ∀ q ∈ rel, q.1 ≠ d → q ∈ rel') : News h₀ L h' (g o') :=
  Ea N NR N' off [d] (fun q hq => (MU U q hq).elim (fun e => .inl (e ▸ hm)) fun e => .inr ⟨e.1, fun x => e.2 (List.mem_singleton.mp x)⟩) fun q hq hn => hr q hq fun x => hn (x ▸ .head _)
theorem AU {h₀ g hs hh : Heap} {L L' D : Addr} {led rel inn : List (Addr × Obj)} {o' : Obj} (N : News h₀ L hs led) (hg2 : Kept (rel.map (·.1)) hs g) (NI : News g L' hh inn) (hm : (D, o') ∈ inn) (hn : D ∉ rel.map (·.1)) : ∀ q ∈ led, q.1 ≠ D := fun q hq e => by
  have h1 := (N q hq).1
  rw [e] at h1
  have h2 := hg2.k _ _ h1 hn
  rw [(NI _ hm).2.2] at h2
  cases h2
theorem AM {h₀ h : Heap} {L : Addr} {led : List (Addr × Obj)} {x : Addr × Obj} {big : List (Addr × Obj)} (N : News h₀ L h led) (Nb : News h₀ L h big) (hm : x ∈ big) : News h₀ L h (x :: led) := fun q hq => by
  rcases List.mem_cons.mp hq with rfl | hq
  · exact Nb _ hm
  · exact N q hq
end
section
section
variable {prog : Program} {w : World} {A : Around} {s : Shared} {Q : Value → Shared → Prop} {E : Value → Shared → Prop}
theorem Pj {t : Addr} {its : Array Value} {n : Nat} {sl : Array (Option Value)} {pl : Sem Bool} {Q : Value × List Value → Shared → Prop} (ht : s.heap.get? t = some { cls := .type "tuple", dict := none, data := .seq its n, slots := sl }) (h : Q (.builtin "tuple.index", [.ref t]) s) : wpAny (model prog w) A (getMethod (.ref t) (Str.ofString "index") pl) Q E s := by
  have hdn : ({ cls := .type "tuple", dict := none, data := .seq its n, slots := sl } : Obj).dict = none := rfl
  exact getMethod_builtin ⟨_, ht, rfl⟩ PySem.F.plainAttrs_tuple PySem.F.slot_tuple_index PySem.F.type_tuple_index (fun a e => by cases e; exact ⟨_, ht, hdn⟩) h
theorem Qz {t : Addr} {a b c d u : Tok} (ht : IsTup s.heap t #[.int 1 a, .int 2 b, .int 4 c, .int 8 d]) (h : Q (.int 0 s.toks) { s with toks := s.toks + 1 }) :
    wpAny (model prog w) A (call (.builtin "tuple.index") [.ref t, .int 1 u]) Q E s := by
  obtain ⟨o, ho, hc, n, hd⟩ := ht
  refine wpAny_call_entry PySem.F.slot_tuple_index ⟨_, ho, hc⟩ PySem.F.entry_tuple_index ?_ (PySem.F.args_tuple_index_2 _ _)
  unfold Builtin.«tuple.index»
  refine wpAny_bind (wpAny_of_eq (a := (.ref t, [.int 1 u])) rfl ?_)
  dsimp only
  refine wpAny_bind ?_
  unfold Builtin.Tuple.tupleItemsOf
  refine wpAny_bind (wpAny_seqItems ho hd ?_)
  refine wpAny_pure ?_
  refine wpAny_bind (wpAny_pure (wpAny_bind (wpAny_pure ?_)))
  refine wpAny_bind ?_
  rw [Std.Legacy.Range.forIn_eq_forIn_range']
  generalize hr : List.range' _ _ _ = R
  have hR : R = [0, 1, 2, 3] := by rw [← hr]; first | with_unfolding_all rfl | (simp [Std.Legacy.Range.size, List.range'])
  subst hR
  rw [List.forIn_cons]
  refine wpAny_bind ?_
  show wpAny _ _ (eqBool (.int 1 a) (.int 1 u) >>= _) _ _ _
  refine wpAny_bind (wpAny_eqBool_int ?_)
  refine bm_if_true (by decide) ?_
  refine wpAny_bind (wpAny_bind (wpAny_mkInt (wpAny_pure (wpAny_pure (wpAny_pure (wpAny_pure ⟨_, rfl, h⟩))))))
end
end
local macro_rules | `(tactic| walk_at $s:str) => `(tactic| k_extra $s)
local macro_rules | `(tactic| k_ne) => `(tactic| k_extra "ne")
local macro_rules | `(tactic| k_all) => `(tactic| k_extra "all")
local macro_rules | `(tactic| k_mem) => `(tactic| k_extra "mem")
local macro_rules | `(tactic| walk_at "zz") => `(tactic| skip)
section
set_option rowWalk.seconds 0
theorem Tq : True := by
  w_top off
  k_with_none
  k_with "rm" => (first | exact Nat.lt_of_le_of_lt (Nat.le_add_right _ _) (by assumption) | ((try dsimp only); (try rw [Nat.add_assoc]); (try rw [Nat.add_assoc]); refine Nat.lt_of_le_of_lt (Nat.add_le_add_left ?_ _) (by assumption); decide) | ((try dsimp only); omega))
  k_with "kt open" => (refine wpAny_call ?_; k_dflt (refine' Ij ?k1 ?k2 ?k3 ?k4 ?k5 ?kA ?kF ?kK ?k6 ?k7 ?k8 ?k9 ?kB ?_ ?c5 ?c2 ?c3 ?c4; (case kA => exact rfl); (case kF => exact rfl); (case kK => assumption); (case k1 => k_asm); (case k2 => k_asm); (case k3 => k_asm); (case k4 => k_asm); (case k5 => k_asm); (case k6 => k_is); (case k7 => k_is); (case k8 => first | walk_at "rm" | ktr_room); (case k9 => exact BindsTo.of_eq rfl); (case c5 => decide); (case kB => exact locs rfl); (case c2 => exact rfl); (case c3 => exact rfl); (case c4 => exact rfl); k_whole; intro _ _ _ _ _ _ _ _ _ _ _ _; (try dsimp only); (try k_fold)))
  k_with "I open" => (refine HZ ?_; k_dflt (refine' OU ?k1 ?k2 ?k3 ?k4 ?k5 ?kA ?kF ?kK ?k6 ?k7 ?k8 ?k9 ?kB ?_ ?c5 ?c2 ?c3 ?c4; (case kA => exact rfl); (case kF => exact rfl); (case kK => assumption); (case k1 => k_asm); (case k2 => k_asm); (case k3 => k_asm); (case k4 => k_asm); (case k5 => k_asm); (case k6 => k_is); (case k7 => k_is); (case k8 => first | walk_at "rm" | ktr_room); (case k9 => exact BindsTo.of_eq rfl); (case c5 => decide); (case kB => exact locs rfl); (case c2 => exact rfl); (case c3 => exact rfl); (case c4 => exact rfl); k_whole; intro _ _ _ _ _ _ _ _ _ _ _ _; (try dsimp only); (try k_fold)))
  k_with "setItem ref int" => (k_here; k_dflt (refine' Gh ?k1 ?k2 ?k3 ?k4 ?k5 ?k6 ?_; (case k1 => k_asm); (case k2 => k_asm); (case k3 => k_updF); (case k4 => rfl); (case k5 => (rw [Int.fmod_eq_emod_of_nonneg _ (by decide)]; omega)); (case k6 => (rw [Int.fmod_eq_emod_of_nonneg _ (by decide)]; omega)); k_whole; intro x' h' F' N'))
  k_with "call type:bytes" => (k_here; (with_reducible show wpAny _ _ (call (Value.type "bytes") [Value.ref _]) _ _ _); k_dflt (refine' RW ?k1 ?k2 ?k3 ?_; (case k1 => k_asm); (case k2 => k_mem); (case k3 => exact Nat.le_of_ble_eq_true rfl); k_whole; intro t' tk'))
  k_with "I any" => (refine Ai (Ae ?_); k_steps; (all_goals try dsimp only))
  k_with "I callF" => (refine JZ (Ct (Ae ?_)); k_steps)
  k_with "I arg" => (refine Ct (Ae ?_); k_steps)
  k_with "I fn" => (refine Dz ⟨⟨_, _, RA (by k_asm) (by k_asm) rfl, rfl⟩, ?_⟩)
  k_with "getMethod ref" => (k_here; (with_reducible show wpAny _ _ (getMethod (Value.ref 42) _ _) _ _ _); refine Pj (RA (by k_asm) (by k_asm) rfl) ?_)
  k_with "call builtin:tuple.index" => (k_here; (with_reducible show wpAny _ _ (PySem.call (Value.builtin _) [Value.ref 42, _]) _ _ _); refine Qz (Fr.tup (by k_asm) (Qy (by k_asm))) ?_)
  k_with "ne" => (first | assumption | (apply Ne.symm; assumption))
  k_with "ite" => (k_here; first | (refine ite_pos (by with_reducible assumption) ?_) | (refine ite_neg (by with_reducible assumption) ?_) | (refine ite_isFalse (by with_reducible assumption) ?_) | (refine ite_pos (by k_dec) ?_; walk_say "PRUNED own") | (refine ite_neg (by k_dec) ?_; walk_say "PRUNED own"))
  k_with "rv" => (repeat revert ‹(_ : Prop)›)
  k_with "in" => (set_option tactic.hygienic false in intros)
  k_with "nonempty" => (repeat' (first | exact Ed | exact Fj | exact Ep | infer_instance | refine HJ ?_ ?_ | (refine ⟨?_⟩; repeat' (first | exact default | constructor))))
  trivial
noncomputable def DO : T24 (Int → Tok → Prop) := fun w pgm loose mean mg mb dp un gd cn cs a ccd cl outer A₀ base h₀ L m s Q E led n t =>
  (Below A₀ base outer h₀) → (Fr h₀ L s.heap m) → ((KK w.params).In h₀) → (Top pgm loose mean mg mb h₀) → (cs.kind = .function) → (News h₀ L s.heap led) → (0 ≤ n) → (n < 64) → (dp + 1 < recursionLimit) → (un + 8 < cLine) → (∀ (t : Tok) (h' : Heap) (tk' : Nat), Fr h₀ L h' m → News h₀ L h' led → Q (.int 1 t) { s with heap := h', toks := tk' }) →
  wpAny (model pw w) (ktrTop dp un gd cn cs L a ccd cl outer) (PySem.call (.ref 56) [.int n t]) Q E s
@[irreducible] def BU := eps 1459900 (by walk_at "nonempty") (ccx CM DO)
theorem JW : ccx CM DO BU := by
  intro B F X T hk N h0 h1 hd hu hret
  have NR : News BU.1.h₀ BU.1.L BU.1.s.heap [] := News.nil
  have N0 : Hid (News BU.1.h₀ BU.1.L BU.1.s.heap BU.1.led) := N
  clear N
  have h2 : BU.2.1 < 1 * 2 ^ (8 * 1 - 2 : Int).toNat := h1
  walk_at "kt open"
  rename_i _ _ _ _ _ _ _ X' _ _ _ _
  have t42 := Qy X'
  k_steps
  refine cb_retI hret ?_ (by assumption) (BV N0 NR (by first | assumption | exact News.nil) (by assumption))
  rfl
def LS {w p loose mean mg mb dp un gd cn cs a ccd cl outer A₀ base h₀ L m s Q E led n t} :=
  (DO.eq_1 w p loose mean mg mb dp un gd cn cs a ccd cl outer A₀ base h₀ L m s Q E led n t).mp ((BH (P := ccx CM DO) BU JW ((⟨w, p, loose, mean, mg, mb, dp, un, gd, cn, cs, a, ccd, cl, outer, A₀, base, h₀, L, m, s, Q, E, led⟩ : Cx), n, t)))
noncomputable def EB : T24 (Int → Tok → Tok → Prop) := fun w pgm loose mean mg mb dp un gd cn cs a ccd cl outer A₀ base h₀ L m s Q E led n t t' =>
  (Below A₀ base outer h₀) → (Fr h₀ L s.heap m) → ((KK w.params).In h₀) → (Top pgm loose mean mg mb h₀) → (cs.kind = .function) → (News h₀ L s.heap led) → (0 ≤ n) → (n < 64) → (dp + 1 < recursionLimit) → (un + 8 < cLine) → (∀ (b : Array UInt8) (t : Tok) (h' : Heap) (tk' : Nat), b.size = 1 → Fr h₀ L h' m → News h₀ L h' led → Q (.bytes b t) { s with heap := h', toks := tk' }) →
  wpI (model pw w) (ktrTop dp un gd cn cs L a ccd cl outer) (PySem.call (.ref 49) [.int n t, .int 1 t']) Q E s
@[irreducible] def Bx := eps 3270500 (by walk_at "nonempty") (ccx CG EB)
noncomputable def FE : Stg (F := Heap → Addr → Heap → Prop) CG (ccx CG EB Bx) := mk3 _ fun K1 => by
  intro B F X T hk N h0 h1 hd hu hret
  have NR : News Bx.1.h₀ Bx.1.L Bx.1.s.heap [] := News.nil
  have N0 : Hid (News Bx.1.h₀ Bx.1.L Bx.1.s.heap Bx.1.led) := N
  clear N
  have hs : Bx.2.1.1.fdiv (2 ^ (8 * 1 : Int).toNat) = 0 := by
    rw [Int.fdiv_eq_ediv_of_nonneg _ (by decide)]
    exact Int.ediv_eq_zero_of_lt h0 (Int.lt_of_lt_of_le h1 (by decide))
  have hs' : ¬ (Bx.2.1.1.fdiv (2 ^ (8 * 1 : Int).toNat) ≠ 0) := fun x => x hs
  have hs2 : (Bx.2.1.1.fdiv (2 ^ (8 * 1 : Int).toNat) != 0) = false := by rw [hs]; rfl
  have hs3 : ¬ ((Bx.2.1.1.fdiv (2 ^ (8 * 1 : Int).toNat) != 0) = true) := by rw [hs]; decide
  have hs4 : decide (Bx.2.1.1.fdiv (2 ^ (8 * 1 : Int).toNat) ≠ 0) = false := by rw [hs]; rfl
  have hs5 : ¬ (decide (Bx.2.1.1.fdiv (2 ^ (8 * 1 : Int).toNat) ≠ 0) = true) := by rw [hs]; decide
  walk_at "I open"
  rename_i c1_1 c1_2 c1_3 _ _ _ _ _ _ _ _ _
  walk_at "rv"
  intro K1
  exact K1.p c1_1 c1_2 c1_3
@[irreducible] def HT := eps 3270501 (by walk_at "nonempty") (CG FE.1)
noncomputable def Fz : Stg (F := Nat → Addr → Heap → Nat → Prop) Ch (CG FE.1 HT) := mk4 _ fun K2 => by
  intro B
  walk_at "in"
  refine Ai (Ae ?_)
  k_steps
  dsimp only
  refine Ai (Cb (AK ?_))
  k_steps
  refine Qh (Ct (Ae ?_))
  k_steps
  refine Dz ?_
  refine OO (by assumption) (by assumption) fun S h2 tk2 ne F2 N2 => ?_
  walk_at "rv"
  intro K2
  exact K2.p tk S h2 tk2
@[irreducible] def HN := eps 3270502 (by walk_at "nonempty") (Ch Fz.1)
theorem LE : Ch Fz.1 HN := by
  intro B
  walk_at "in"
  k_steps
  dsimp only
  refine Ae ?_
  k_steps
  exact hret _ _ _ _ rfl (by assumption) (BV N0 NR (by first | assumption | exact News.nil) (by assumption))
def NK {w p loose mean mg mb dp un gd cn cs a ccd cl outer A₀ base h₀ L m s Q E led n t t'} :=
  (EB.eq_1 w p loose mean mg mb dp un gd cn cs a ccd cl outer A₀ base h₀ L m s Q E led n t t').mp ((BH (P := ccx CG EB) Bx (AQ FE HT (AQ Fz HN LE)) ((⟨w, p, loose, mean, mg, mb, dp, un, gd, cn, cs, a, ccd, cl, outer, A₀, base, h₀, L, m, s, Q, E, led⟩ : Cx), (n, t), t')))
theorem TO : True := by
  k_with "call ref" => (k_here; (with_reducible show wpAny _ _ (PySem.call (Value.ref 56) _) _ _ _); (refine LS (by k_asm) (by k_asm) (by k_asm) (by k_asm) (by rfl) (by k_asm) (by omega) (by omega) (by walk_at "rm") (by walk_at "rm") ?_; intro t' h' tk' F' N'))
  trivial
section
variable {w : World} {p : Program} {loose : List Str} {mean : ExcName → Option Value} {mg mb : Str → Option Value} {dp un : Nat} {gd : Option (List Code)} {cn : Str} {cs : Scope} {a : Addr} {ccd : Value} {cl : List (Str × Addr)} {outer : List Env} {A₀ : Around} {base h₀ : Heap} {L : Addr} {m : Str → Option Value} {s : Shared} {Q E : Value → Shared → Prop} {led led' : List (Addr × Obj)}
variable (B : Below A₀ base outer h₀) (F : Fr h₀ L s.heap m) (X : (KK w.params).In h₀) (T : Top p loose mean mg mb h₀) (hk : cs.kind = .function) (N : News h₀ L s.heap led)
include B F X T hk N
omit B F X T hk N in
theorem RM {n : Int} (h : 0 ≤ n) : Builtin.bitOr (0 * 2 ^ (8 * 1 - 2 : Int).toNat) n = n := by
  obtain ⟨k, rfl⟩ := Int.eq_ofNat_of_zero_le h
  show Builtin.bitOr (0 * _) (k : Int) = k
  rw [Int.zero_mul]
  rw [bitOr_and]
  have : Builtin.bitAnd 0 (k : Int) = 0 := by unfold Builtin.bitAnd; simp
  omega
end
noncomputable def Eg : T24 (Int → Tok → Prop) := fun w pgm loose mean mg mb dp un gd cn cs a ccd cl outer A₀ base h₀ L m s Q E led n t =>
  (Below A₀ base outer h₀) → (Fr h₀ L s.heap m) → ((KK w.params).In h₀) → (Top pgm loose mean mg mb h₀) → (cs.kind = .function) → (News h₀ L s.heap led) → (0 ≤ n) → (n < 64) → (dp + 2 < recursionLimit) → (un + 16 < cLine) → (∀ (b : Array UInt8) (t : Tok) (h' : Heap) (tk' : Nat), b.size = 1 → Off [] s.heap h' → Fr h₀ L h' m → News h₀ L h' led → Q (.bytes b t) { s with heap := h', toks := tk' }) →
  wpI (model pw w) (ktrTop dp un gd cn cs L a ccd cl outer) (PySem.call (.ref 63) [.int n t, .none]) Q E s
@[irreducible] def Co := eps 8750000 (by walk_at "nonempty") (ccx CM Eg)
theorem KJ : ccx CM Eg Co := by
  intro B F X T hk N h0 h1 hd hu hret
  have NR : News Co.1.h₀ Co.1.L Co.1.s.heap [] := News.nil
  have N0 : Hid (News Co.1.h₀ Co.1.L Co.1.s.heap Co.1.led) := N
  clear N
  walk_at "I open"
  rename_i _ _ _ _ _ _ _ X' _ _ _ _
  have t42 := Qy X'
  walk_at "I any"
  walk_at "I any"
  walk_at "I any"
  refine Ai (DA (AK ?_))
  k_steps
  walk_at "I callF"
  walk_at "I arg"
  walk_at "I fn"
  rw [RM h0]
  refine NK (by k_asm) (by k_asm) (by k_asm) (by k_asm) rfl (by k_asm) h0 h1 (by walk_at "rm") (by walk_at "rm") ?_
  intro b t h' tk hb F' N'
  k_steps
  exact hret _ _ _ _ hb (by assumption) (by assumption) (BV N0 NR (by first | assumption | exact News.nil) (by assumption))
def GF {w p loose mean mg mb dp un gd cn cs a ccd cl outer A₀ base h₀ L m s Q E led n t} :=
  (Eg.eq_1 w p loose mean mg mb dp un gd cn cs a ccd cl outer A₀ base h₀ L m s Q E led n t).mp ((BH (P := ccx CM Eg) Co KJ ((⟨w, p, loose, mean, mg, mb, dp, un, gd, cn, cs, a, ccd, cl, outer, A₀, base, h₀, L, m, s, Q, E, led⟩ : Cx), n, t)))
end
section
open Sem (wp)
section
variable {M : Model} {A : Around} {E : Value → Shared → Prop} {s : Shared} {env : Env}
theorem OG {α : Type} {c : Prop} [Decidable c] {pos : Pos} {k : PUnit → Sem α} {Q : α → Shared → Prop} (h : wpI M A (k ()) Q E s) :
    wpI M A (if c then (standAt pos >>= k) else k ()) Q E s := PF (fun _ => Al (BB h)) fun _ => h
theorem Jt {e : Expr} {scope : Scope} {pos : Pos} {newAcc first : Sem Value} {g : Comprehension} {gs : List Comprehension} {Q : Value → Shared → Prop}
    (hcl : clausesOf e = g :: gs) (hs : ∀ x, foldedSetIterable g.iter env x = pure x)
    (hfree : ∀ x ∈ scope.names, x.2 ≠ .free) (hkind : scope.kind = .function) (hnames : ∀ x ∈ scope.names, x.2 = .local → scope.names.lookup x.1 = some .local)
    (h : wpAny M A first (fun x s₁ => wpAny M A (pyIter x) (fun it s₂ => wpAny M A newAcc (fun acc s₃ =>
      wpAny M A (newFunctionEnv scope env.globals [] [] env.qual none .none (some env)) (fun cenv s₄ =>
        BY M A (.compStart e 0 it acc { cenv with scope := scope }) (fun r s' => ∃ m, s'.heap.Ns cenv.locals m ∧ ∀ h', Heap.SameBut cenv.locals s'.heap h' →
          match r with | .ok _ => Q acc { s' with heap := h' } | .error x => wpAny M A (passOn "comprehension.variables-let-go" x { cenv with scope := scope }) Q E { s' with heap := h' }) s₄) E s₃) E s₂) E s₁) E s) :
    wpI M A (comprehension e scope env pos newAcc false first) Q E s := by
  unfold comprehension
  rw [closureFor_none hfree, hcl]
  refine Al (Ae (wpAny_mono h (fun x s₁ h₁ => ?_) fun _ _ h' => h'))
  refine Al (BB (Al (Dh (hs x) (Al (Bm (Ae (wpAny_mono h₁ (fun it s₂ h₂ => ?_) fun _ _ h' => h')))))))
  refine OG (Al (Ae (wpAny_mono h₂ (fun acc s₃ h₃ => ?_) fun _ _ h' => h')))
  refine Al (AD (Al (Ae (wpAny_mono h₃ (fun cenv s₄ h₄ => ?_) fun _ _ h' => h'))))
  dsimp only
  rw [map_eq_self (l := scope.names) (fun x hx => by
    obtain ⟨n, k⟩ := x
    have : (k == NameKind.free) = false := by simpa using hfree _ hx
    simp [this])]
  have hv : ∀ x ∈ (scope.names.filter fun x => (x.2 == .local || x.2 == .cell) && x.1 != (".0" : Str)).reverse, x.2 = .local →
      Env.kindOf { cenv with scope := scope } x.1 = some .local := fun x hx hl => hnames x (List.mem_filter.mp (List.mem_reverse.mp hx)).1 hl
  refine Bm (Al (No (Bm (PE (Pd h₄ fun r s' hr => ?_) (by intro x; cases x)))))
  obtain ⟨m, hn, hr⟩ := hr
  cases r with
  | ok f => exact Al (Bm (Ae (wpAny_comp_letGo (cenv := { cenv with scope := scope }) hkind _ s' m hv hn fun h' m' _ hs' => AD (hr h' hs'))))
  | error x => exact Al (Bm (Ae (wpAny_comp_letGo (cenv := { cenv with scope := scope }) hkind _ s' m hv hn fun h' m' _ hs' => Ae (hr h' hs'))))
end
section
variable {prog : Program} {w : World} {A : Around} {R : Result → Shared → Prop} {s : Shared}
theorem ON {α : Type} {M : Model} {A : Around} {env : Env} {m : Sem α} {pos : Pos} {Q : α → Shared → Prop} {E : Value → Shared → Prop} {s : Shared} (h : wpI M A m Q (notedBy M A env E) s) :
    wpI M A (m.onRaise fun x => do noteFrame x env; standAt pos) Q E s :=
  Eb (Dr h (fun _ _ q => q) fun _ _ hx => wpAny_bind (wpAny_mono hx (fun _ _ e => wpAny_standAt e) fun _ _ e => e))
theorem Ir {α : Type} {M : Model} {A : Around} {E : Value → Shared → Prop} {s : Shared} {env : Env} {m : Sem α} {Q : α → Shared → Prop} (h : wpI M A m Q (notedBy M A env E) s) : wpI M A (m.onRaise fun x => do noteFrame x env; theTreesLotGoes x) Q E s :=
  Eb (Dr h (fun _ _ q => q) fun _ _ hx => wpAny_bind (wpAny_mono hx (fun _ _ e => wpAny_theTreesLotGoes e) fun _ _ e => e))
theorem KM {elt target iter ifs rest scope pos it acc env}
    (h0 : BY (model prog w) A (.compLoop (.ListComp elt (⟨target, iter, ifs, 0⟩ :: rest) scope pos) 0 it acc env) R s)
    (h : wpAny (model prog w) A (pyIter it) (fun it' s' => BY (model prog w) A (.compLoop (.ListComp elt (⟨target, iter, ifs, 0⟩ :: rest) scope pos) 0 it' acc env) R s')
      (notedBy (model prog w) A env fun x s' => R (.error x) s') s) :
    BY (model prog w) A (.compStart (.ListComp elt (⟨target, iter, ifs, 0⟩ :: rest) scope pos) 0 it acc env) R s := by
  refine CW ?_
  show wpI _ _ ((compStart (.ListComp elt (⟨target, iter, ifs, 0⟩ :: rest) scope pos) 0 it acc env).onRaise (fun x => do noteFrame x env; standAt theWindowsPlace)) _ _ s
  refine ON (Ae ?_)
  unfold compStart
  show wpAny _ _ (ask >>= _) _ _ s
  refine wpAny_bind (wpAny_askSetting (wpAny_ite ?_))
  split
  · first
      | exact wpAny_bind (wpAny_pure (wpAny_pure (And.intro rfl h0)))
      | exact wpAny_pure (And.intro rfl h0)
  · first
      | exact wpAny_bind (wpAny_rule (wpAny_bind (wpAny_standAt (wpAny_bind (wpAny_mono h (fun it' s' h' => wpAny_pure (And.intro rfl h')) fun _ _ x => x)))))
      | (refine wpAny_bind (wpAny_rule ?_); show wpAny _ _ (standAt iter.pos >>= _) _ _ s; exact wpAny_bind (wpAny_standAt (wpAny_bind (wpAny_mono h (fun it' s' h' => wpAny_pure (And.intro rfl h')) fun _ _ x => x))))
theorem LH {elt target iter : Expr} {scope : Scope} {pos : Pos} {it acc : Value} {env : Env} (I : Nat → Shared → Prop)
    (turn : ∀ n s, I n s → wpAny (model prog w) A (pyNext it) (fun r s₁ => match r with
      | none => R (.ok .next) s₁
      | some v => wpAny (model prog w) A (assign target env v) (fun _ s₂ => wpI (model prog w) A (eval elt env) (fun x s₃ =>
          wpAny (model prog w) A (call (.builtin "list.append") [acc, x]) (fun _ s₄ => ∃ m, m < n ∧ I m s₄) (notedBy (model prog w) A env fun e s' => R (.error e) s') s₃)
          (notedBy (model prog w) A env fun e s' => R (.error e) s') s₂) (notedBy (model prog w) A env fun e s' => R (.error e) s') s₁) (notedBy (model prog w) A env fun e s' => R (.error e) s') s)
    (n : Nat) (h : I n s) (ht : autoParam (∀ v, letOwnedTupleGo target it v = pure ()) aRf) :
    BY (model prog w) A (.compLoop (.ListComp elt [⟨target, iter, [], 0⟩] scope pos) 0 it acc env) R s := by
  refine GC rfl I (fun n s hI => ?_) n h
  show wpI _ _ ((compTurn (.ListComp elt [⟨target, iter, [], 0⟩] scope pos) 0 it acc env).onRaise (fun x => do noteFrame x env; theTreesLotGoes x)) _ _ s
  refine Ir ?_
  rw [compTurn_list1]
  refine Al (BB (Al (Ae (wpAny_mono (turn n s hI) (fun r s₁ h₁ => ?_) fun _ _ h' => h'))))
  cases r with
  | none => exact AD h₁
  | some v =>
    refine Al (Dh (ht v) ?_)
    refine Al (Ae (wpAny_mono h₁ (fun _ s₂ h₂ => ?_) fun _ _ h' => h'))
    refine Al (Al (AR h₂ fun x s₃ h₃ => ?_))
    refine Al (Ae (wpAny_mono h₃ (fun _ s₄ h₄ => AD (AD ?_)) fun _ _ h' => h'))
    exact .inl ⟨rfl, h₄⟩
end
end
section
open Sem (wp)
noncomputable abbrev cE (scope : Scope) (env : Env) (C : Addr) : Env := { scope, locals := C, globals := env.globals, cells := [], qual := env.qual, func := none, code := env.code, frame := env.frame, builtins := env.builtins }
section
variable {prog : Program} {w : World} {A : Around} {E : Value → Shared → Prop} {s : Shared} {env : Env}
end
noncomputable def DR : Program → World → Around → (Value → Shared → Prop) → Shared → Env → Expr → Expr → Str → Pos → Scope → Pos → (Value → Shared → Prop) → (Value → Prop) → Addr → (Array Value) → Prop := fun prog w A E s env elt iter x px scope pos Q F ax items =>
  (∀ x ∈ scope.names, x.2 ≠ .free) → (scope.kind = .function) → (∀ x ∈ scope.names, x.2 = .local → scope.names.lookup x.1 = some .local) → (∀ y ∈ scope.names, y.2 ≠ .cell) → (scope.names.lookup x = some .local) → (A.handled = none) → (∀ x, foldedSetIterable iter env x = pure x) → (wpAny (model prog w) A (eval iter env) (fun v s₁ => v = .ref ax ∧ s₁.heap.IsList ax items ∧ Keeps s s₁) E s) → (items.size ≤ sizeLine) → (∀ C v s₂ m₂ (E' : Value → Shared → Prop), v ∈ items → s₂.heap.Ns C m₂ → m₂ x = some v → (∀ b o, s.heap.get? b = some o → s₂.heap.get? b = some o) → s.heap.get? C = none →
      wpI (model prog w) A (eval elt (cE scope env C)) (fun y s₃ => F y ∧ Keeps s₂ s₃) E' s₂) → (∀ D h' tk ys, h'.IsList D ys → ys.size = items.size → (∀ y ∈ ys.toList, F y) → (∀ b o, s.heap.get? b = some o → h'.get? b = some o) → Q (.ref D) { s with heap := h', toks := tk }) →
  wpI (model prog w) A (eval (.ListComp elt [⟨.Name x px, iter, [], 0⟩] scope pos) env) Q E s
@[irreducible] def Ah := eps 2210600 (by walk_at "nonempty") (Dk DR)
namespace BK
def ax := Ah.2.2.2.1
def items := Ah.2.2.2.2
noncomputable def Fa : Stg (F := Heap → Nat → Heap → Nat → Prop) Ch (DR Ah.1.1.1.1 Ah.1.1.1.2 Ah.1.1.2.1 Ah.1.1.2.2 Ah.1.2.1.1 Ah.1.2.1.2 Ah.1.2.2.1 Ah.1.2.2.2 Ah.2.1.1.1 Ah.2.1.1.2 Ah.2.1.2.1 Ah.2.1.2.2 Ah.2.2.1.1 Ah.2.2.1.2 ax items) := mk4 _ fun K1 => by
  intro hfree hkind hnames hcell hx hh hs hi hsz helt hQ
  rw [eval_ListComp]
  refine Jt rfl hs hfree hkind hnames ?_
  refine wpAny_mono hi (fun v s₁ h₁ => ?_) fun _ _ e => e
  obtain ⟨rfl, hl, h₁, tk₁, rfl, k₁⟩ := h₁
  refine wpAny_pyIter_list hl ?_
  refine wpAny_newList ?_
  refine wpAny_newFunctionEnv hcell (by simp) (fun h₂ hn₂ sb₂ => ?_) hkind
  dsimp only
  have hax : ax < h₁.objs.size := by obtain ⟨o, ho, _⟩ := hl; exact Heap.lt_size ho
  have e2 : (h₁.push { cls := .type "list_iterator", data := .fields #[.ref ax, .int 0 0] }).objs.size = h₁.objs.size + 1 := Heap.size_push _ _
  have e3 : ((h₁.push { cls := .type "list_iterator", data := .fields #[.ref ax, .int 0 0] }).push { cls := .type "list", data := .seq [].toArray }).objs.size = h₁.objs.size + 2 := by rw [Heap.size_push, e2]
  have gI : ((h₁.push { cls := .type "list_iterator", data := .fields #[.ref ax, .int 0 0] }).push { cls := .type "list", data := .seq [].toArray }).get? h₁.objs.size = some { cls := .type "list_iterator", data := .fields #[.ref ax, .int 0 0] } := Heap.get?_push_of_some _ (Heap.get?_push_size _ rfl)
  have gD : ((h₁.push { cls := .type "list_iterator", data := .fields #[.ref ax, .int 0 0] }).push { cls := .type "list", data := .seq [].toArray }).get? (h₁.objs.size + 1) = some { cls := .type "list", data := .seq [].toArray } := by rw [← e2]; exact Heap.get?_push_size _ rfl
  rw [e3] at hn₂ sb₂
  have eb := sb₂.extBut
  have up : ∀ b o, h₁.get? b = some o → h₂.get? b = some o := fun b o e =>
    eb b o (Nat.ne_of_lt (Nat.lt_of_lt_of_le (Heap.lt_size e) (Nat.le_add_right _ 2))) (Heap.get?_push_of_some _ (Heap.get?_push_of_some _ (Heap.get?_push_of_some _ e)))
  have hI₂ : h₂.IsListIter h₁.objs.size ax 0 := ⟨_, eb _ _ (Nat.ne_of_lt (Nat.lt_add_of_pos_right (by decide))) (Heap.get?_push_of_some _ gI), rfl, rfl⟩
  have hD₂ : h₂.IsList (h₁.objs.size + 1) #[] := ⟨_, eb _ _ (Nat.ne_of_lt (Nat.lt_succ_self _)) (Heap.get?_push_of_some _ gD), rfl, _, rfl⟩
  have lowB : ∀ b o, Ah.1.2.1.1.heap.get? b = some o → b < h₁.objs.size := fun b o e => Heap.lt_size (k₁ b o e)
  simp only [e2, e3]
  generalize h₁.objs.size = I at *
  have n1 : I ≠ I + 1 := Nat.ne_of_lt (Nat.lt_succ_self _)
  have n2 : I ≠ I + 2 := Nat.ne_of_lt (Nat.lt_add_of_pos_right (by decide))
  have n3 : I + 1 ≠ I + 2 := Nat.ne_of_lt (Nat.lt_succ_self _)
  have n4 : ax ≠ I := Nat.ne_of_lt hax
  have n5 : ax ≠ I + 1 := Nat.ne_of_lt (Nat.lt_succ_of_lt hax)
  have n6 : ax ≠ I + 2 := Nat.ne_of_lt (Nat.lt_of_lt_of_le hax (Nat.le_add_right _ 2))
  clear hfree hnames hcell hs hi sb₂ hax e2 e3 gI gD eb
  walk_at "rv"
  intro K1
  exact K1.p h₁ tk₁ h₂ I
@[irreducible] def BM := eps 2210601 (by walk_at "nonempty") (Ch Fa.1)
namespace kut1
def I := BM.2.2
noncomputable def EY : Stg (F := Heap → Nat → (Str → Option Value) → (Array Value) → Prop) Ch (Fa.1 BM.1.1 BM.1.2 BM.2.1 I) := mk4 _ fun K2 => by
  intro hkind hx hh hsz helt hQ k₁ hl up hn₂ hI₂ hD₂ lowB n1 n2 n3 n4 n5 n6
  have main : BY (model Ah.1.1.1.1 Ah.1.1.1.2) Ah.1.1.2.1 (.compLoop (.ListComp Ah.1.2.2.1 [⟨.Name Ah.2.1.1.1 Ah.2.1.1.2, Ah.1.2.2.2, [], 0⟩] Ah.2.1.2.1 Ah.2.1.2.2) 0 (.ref I) (.ref (I + 1)) (cE Ah.2.1.2.1 Ah.1.2.1.2 (I + 2)))
      (fun r s' => ∃ m, s'.heap.Ns (I + 2) m ∧ ∀ h', Heap.SameBut (I + 2) s'.heap h' → match r with
        | .ok _ => Ah.2.2.1.1 (.ref (I + 1)) { s' with heap := h' }
        | .error x => wpAny (model Ah.1.1.1.1 Ah.1.1.1.2) Ah.1.1.2.1 (passOn "comprehension.variables-let-go" x (cE Ah.2.1.2.1 Ah.1.2.1.2 (I + 2))) Ah.2.2.1.1 Ah.1.1.2.2 { s' with heap := h' }) { Ah.1.2.1.1 with heap := BM.2.1, toks := BM.1.2 } := by
    refine LH (fun k s' => ∃ h' tk m' ys i, s' = { Ah.1.2.1.1 with heap := h', toks := tk } ∧ h'.IsListIter I ax i ∧ h'.IsList ax items ∧ h'.IsList (I + 1) ys ∧ h'.Ns (I + 2) m' ∧ ys.size = i ∧ (∀ y ∈ ys.toList, Ah.2.2.1.2 y) ∧ i ≤ items.size ∧ k = items.size + 1 - i ∧
      ∀ b o, Ah.1.2.1.1.heap.get? b = some o → h'.get? b = some o) ?_ (items.size + 1) ⟨BM.2.1, BM.1.2, _, #[], 0, rfl, hI₂, hl.at fun o e => up _ o e, hD₂, hn₂, rfl, (fun y hy => by cases hy), Nat.zero_le _, rfl, fun b o e => up b o (k₁ b o e)⟩
    rintro k s' ⟨H, tk, m', ys, i, rfl, hit', hl', hacc', hn', hys, hF, hi', rfl, hk⟩
    clear k₁ hl up hn₂ hI₂ hD₂
    walk_at "rv"
    intro K2
    revert i
    exact K2.p H tk m' ys
  exact KM main (wpAny_pyIter_listiter hI₂ main)
@[irreducible] def BL := eps 2210602 (by walk_at "nonempty") (Ch EY.1)
namespace kut2
def tk := BL.1.2
noncomputable def EZ : Stg (F := Nat → Value → Heap → Heap → Value → Heap → Nat → Prop) Fe (EY.1 BL.1.1 tk BL.2.1 BL.2.2) := mk7 _ fun K3 => by
  intro i hkind hx hh hsz helt hQ lowB n1 n2 n3 n4 n5 n6 hit' hl' hacc' hn' hys hF hi' hk
  cases hv : items[i]? with
  | none =>
    have hle : items.size ≤ i := by simpa using hv
    refine wpAny_pyNext_list_end hh hit' hl' hv fun h₃ he₃ => ⟨BL.2.1, hn'.extBut he₃ (by first | assumption | (apply Ne.symm; assumption)), fun h₄ sb₄ => ?_⟩
    exact hQ (I + 1) h₄ tk BL.2.2 ((hacc'.extBut he₃ (by first | assumption | (apply Ne.symm; assumption))).extBut sb₄.extBut (by first | assumption | (apply Ne.symm; assumption))) (by lia) hF fun b o e => by
      have hb := lowB b o e
      exact sb₄.extBut b o (Nat.ne_of_lt (Nat.lt_of_lt_of_le hb (Nat.le_add_right _ 2))) (he₃ b o (Nat.ne_of_lt hb) (hk b o e))
  | some v =>
    have hlt : i < items.size := (Array.getElem?_eq_some_iff.mp hv).1
    have hmem : v ∈ items := by obtain ⟨h1, rfl⟩ := Array.getElem?_eq_some_iff.mp hv; exact Array.getElem_mem h1
    refine wpAny_pyNext_list_item hit' hl' hv fun h₃ hit₃ hs₃ => ?_
    refine wpAny_assign_Name (wpAny_storeName_local hx (hn'.sameBut hs₃ (by first | assumption | (apply Ne.symm; assumption))) (fun h₄ hn₄ hs₄ => ?_) (by show (Ah.2.1.2.1.kind == .class || (Ah.2.1.2.1.kind == .module && _)) = false; rw [hkind]; rfl))
    have up₄ : ∀ b o, Ah.1.2.1.1.heap.get? b = some o → h₄.get? b = some o := fun b o e => by
      have hb := lowB b o e
      exact hs₄.extBut b o (Nat.ne_of_lt (Nat.lt_of_lt_of_le hb (Nat.le_add_right _ 2))) (hs₃.extBut b o (Nat.ne_of_lt hb) (hk b o e))
    refine AR (helt (I + 2) v _ _ _ hmem hn₄ (by simp) up₄ ?_) (fun y s₅ h₅ => ?_)
    · cases q : Ah.1.2.1.1.heap.get? (I + 2) with
      | none => rfl
      | some o => exact absurd (lowB _ _ q) (Nat.not_lt.mpr (Nat.le_add_right _ 2))
    obtain ⟨hFy, h₅, tk₅, rfl, hk₅⟩ := h₅
    clear hkind hx hh helt hQ hit' hn' hk hv hmem
    walk_at "rv"
    intro K3
    exact K3.p i v h₃ h₄ y h₅ tk₅
@[irreducible] def Cs := eps 2210603 (by walk_at "nonempty") (Fe EZ.1)
theorem OS : Fe EZ.1 Cs := by
  intro hsz lowB n1 n2 n3 n4 n5 n6 hl' hacc' hys hF hi' hlt hit₃ hs₃ hn₄ hs₄ up₄ hFy hk₅
  have hD₅ : Cs.2.1.2.IsList (I + 1) BL.2.2 := ((hacc'.extBut hs₃.extBut (by first | assumption | (apply Ne.symm; assumption))).extBut hs₄.extBut (by first | assumption | (apply Ne.symm; assumption))).at fun o e => hk₅ _ o e
  refine wpAny_list_append (hsz := by lia) hD₅ fun h₆ hl₆ hs₆ => ?_
  have hit₆ := ((hit₃.extBut hs₄.extBut (by first | assumption | (apply Ne.symm; assumption))).at fun o e => hk₅ _ o e).extBut hs₆.extBut (by first | assumption | (apply Ne.symm; assumption))
  have hl₆' := (((hl'.extBut hs₃.extBut (by first | assumption | (apply Ne.symm; assumption))).extBut hs₄.extBut (by first | assumption | (apply Ne.symm; assumption))).at fun o e => hk₅ _ o e).extBut hs₆.extBut (by first | assumption | (apply Ne.symm; assumption))
  have hn₆ := (hn₄.keeps hk₅).extBut hs₆.extBut (by first | assumption | (apply Ne.symm; assumption))
  refine ⟨items.size + 1 - (Cs.1.1.1 + 1), by lia, h₆, Cs.2.2, _, BL.2.2.push Cs.2.1.1, Cs.1.1.1 + 1, rfl, hit₆, hl₆', hl₆, hn₆, by simp [hys], fun z hz => ?_, hlt, rfl, fun b o e => ?_⟩
  · rw [Array.toList_push] at hz
    rcases List.mem_append.mp hz with q | q
    · exact hF z q
    · rw [List.mem_singleton.mp q]; exact hFy
  · exact hs₆.extBut b o (Nat.ne_of_lt (Nat.lt_of_lt_of_le (lowB b o e) (Nat.le_add_right _ 1))) (hk₅ _ _ (up₄ b o e))
end kut2
end kut1
end BK
section
variable {prog : Program} {w : World} {A : Around} {E : Value → Shared → Prop} {s : Shared} {env : Env}
theorem BK {elt iter : Expr} {x : Str} {px : Pos} {scope : Scope} {pos : Pos} {Q : Value → Shared → Prop} {F : Value → Prop} {ax : Addr} {items : Array Value}
    (hfree : ∀ x ∈ scope.names, x.2 ≠ .free) (hkind : scope.kind = .function) (hnames : ∀ x ∈ scope.names, x.2 = .local → scope.names.lookup x.1 = some .local) (hcell : ∀ y ∈ scope.names, y.2 ≠ .cell)
    (hx : scope.names.lookup x = some .local) (hh : A.handled = none) (hs : ∀ x, foldedSetIterable iter env x = pure x)
    (hi : wpAny (model prog w) A (eval iter env) (fun v s₁ => v = .ref ax ∧ s₁.heap.IsList ax items ∧ Keeps s s₁) E s) (hsz : items.size ≤ sizeLine)
    (helt : ∀ C v s₂ m₂ (E' : Value → Shared → Prop), v ∈ items → s₂.heap.Ns C m₂ → m₂ x = some v → (∀ b o, s.heap.get? b = some o → s₂.heap.get? b = some o) → s.heap.get? C = none →
      wpI (model prog w) A (eval elt (cE scope env C)) (fun y s₃ => F y ∧ Keeps s₂ s₃) E' s₂)
    (hQ : ∀ D h' tk ys, h'.IsList D ys → ys.size = items.size → (∀ y ∈ ys.toList, F y) → (∀ b o, s.heap.get? b = some o → h'.get? b = some o) → Q (.ref D) { s with heap := h', toks := tk }) :
    wpI (model prog w) A (eval (.ListComp elt [⟨.Name x px, iter, [], 0⟩] scope pos) env) Q E s := by
  exact (BH (P := Dk DR) Ah (AQ BK.Fa BK.BM (AQ BK.kut1.EY BK.kut1.BL (AQ BK.kut1.kut2.EZ BK.kut1.kut2.Cs BK.kut1.kut2.OS))) ((((prog, w), A, E), (s, env), elt, iter), ((x, px), scope, pos), (Q, F), ax, items)) hfree hkind hnames hcell hx hh hs hi hsz helt hQ
end
end
section
open Sem (wp)
theorem Fn : typeLookup (.type "bytes") "__buffer__" = pure (some (.builtin "bytes.__buffer__")) := by rw [typeLookup_type, builtinLookup_eq_fast]; kernel_rfl
theorem Pa : typeLookup (.type "bytes") "__release_buffer__" = pure none := by rw [typeLookup_type, builtinLookup_eq_fast]; kernel_rfl
theorem Jz : Slot "bytes" "join" "bytes.join" :=
  .of (owner := "bytes") (n := "join") (by rw [typeLookup_type, builtinLookup_eq_fast]; kernel_rfl) (by decide +kernel) (by decide +kernel) (by decide +kernel)
    (by first | exact .inl (by decide +kernel) | exact .inr (by decide +kernel)) (by rw [isSubtype_type]; kernel_rfl)
theorem Ma : entryFor table "bytes.join" = some Builtin.«bytes.join» := entryFor_of_tree (by kernel_rfl)
theorem MO (a b : Value) : argsOk "bytes.join" ⟨[a, b], []⟩ := by kernel_rfl
section
variable {prog : Program} {w : World} {A : Around} {E : Value → Shared → Prop} {s : Shared}
theorem Pt {b : Array UInt8} {t : Tok} {Q : Option (Array UInt8 × Option Value) → Shared → Prop} (h : Q (some (b, none)) s) : wpAny (model prog w) A (Builtin.Bytes.takeBufferQuiet? "bytes.join" (.bytes b t) 0) Q E s := by
  have hT : s.TypeIs (.bytes b t) "bytes" := PySem.W.typeIs_bytes _ _ _
  unfold Builtin.Bytes.takeBufferQuiet?
  refine wpAny_bind (wpAny_attempt ?_)
  unfold Builtin.Bytes.takeBuffer?
  refine wpAny_bind (wpAny_specialOf hT Fn ?_)
  try dsimp only
  refine wpAny_bind ?_
  unfold Builtin.Bytes.slotIsOwn
  refine wpAny_bind (wpAny_specialOf hT Fn ?_)
  try dsimp only
  refine bm_if_false (by decide +kernel) ?_
  refine wpAny_isInstance hT (b := true) (by rw [isSubtype_type]; kernel_rfl) ?_
  refine bm_if_false rfl ?_
  refine wpAny_bind (wpAny_specialOf hT Fn ?_)
  try dsimp only
  refine wpAny_bind ?_
  unfold Builtin.Bytes.buffer?
  refine wpAny_bind (wpAny_specialOf hT Fn ?_)
  try dsimp only
  refine wpAny_bind ?_
  unfold Builtin.Bytes.slotIsOwn
  refine wpAny_bind (wpAny_specialOf hT Fn ?_)
  try dsimp only
  refine bm_if_false (by decide +kernel) ?_
  refine wpAny_isInstance hT (b := true) (by rw [isSubtype_type]; kernel_rfl) ?_
  refine bm_if_false rfl ?_
  refine wpAny_bind (wpAny_specialOf hT Fn ?_)
  try dsimp only
  refine wpAny_bind ?_
  unfold Builtin.Bytes.ownRelease
  refine wpAny_bind ?_
  unfold Builtin.Bytes.slotIsOwn
  refine wpAny_bind (wpAny_specialOf hT Pa ?_)
  refine wpAny_pure ?_
  refine wpAny_pure ?_
  refine bm_if_false rfl ?_
  refine wpAny_bind (wpAny_of_eq (a := b) rfl ?_)
  exact wpAny_pure (wpAny_pure (wpAny_pure h))
theorem Ha : ∀ (l : List (Array UInt8)) (n : Nat) (acc : Array UInt8), (∀ p ∈ l, p.size = 1) →
    ((l.zipIdx n).foldl (fun out (x : Array UInt8 × Nat) => (if x.2 > 0 then out ++ (#[] : Array UInt8) else out) ++ x.1) acc).size = acc.size + l.length
  | [], _, _, _ => rfl
  | p :: l, n, acc, h => by
    rw [List.zipIdx_cons, List.foldl_cons, Ha l (n + 1) _ fun q hq => h q (.tail _ hq)]
    have hp := h p (.head _)
    by_cases hn : n > 0 <;> simp [hn, hp] <;> lia
theorem Oy {l : List (Array UInt8)} (h : ∀ p ∈ l, p.size = 1) : (Builtin.Bytes.joined #[] l).size = l.length := by
  have := Ha l 0 #[] h
  simpa [Builtin.Bytes.joined] using this
theorem Kr : ∀ (l : List (Array UInt8)) (acc : Nat), (∀ p ∈ l, p.size = 1) → l.foldl (fun (x1 : Nat) (x2 : Array UInt8) => x1 + x2.size) acc = acc + l.length
  | [], _, _ => rfl
  | p :: l, acc, h => by
    rw [List.foldl_cons, Kr l _ fun q hq => h q (.tail _ hq), h p (.head _), List.length_cons]
    lia
theorem Hm {M : Model} {keep : List Value} {Q : Unit → Shared → Prop} (h : Q () s) : ∀ taken : List (Value × Option Value), (∀ q ∈ taken, q.2 = none) → wpAny M A (Builtin.Bytes.joinLetGo taken keep) Q E s
  | [], _ => wpAny_pure h
  | (x, u) :: r, hq => by
    obtain rfl : u = none := hq _ (.head _)
    unfold Builtin.Bytes.joinLetGo
    refine wpAny_bind (wpAny_letGo ?_)
    exact Hm h r fun q z => hq q (.tail _ z)
end
noncomputable def EG : Program → World → Around → (Value → Shared → Prop) → Shared → Tok → Addr → Value → Value → (List Value) → (Value → Shared → Prop) → Prop := fun prog w A E s t D x0 y0 r0 Q =>
  (s.heap.IsList D ⟨x0 :: y0 :: r0⟩) → (2 ≤ (⟨x0 :: y0 :: r0⟩ : Array Value).size) → ((⟨x0 :: y0 :: r0⟩ : Array Value).size ≤ 64) → (∀ y ∈ (⟨x0 :: y0 :: r0⟩ : Array Value).toList, ∃ b u, y = .bytes b u ∧ b.size = 1) → (∀ b u tk, b.size = (⟨x0 :: y0 :: r0⟩ : Array Value).size → Q (.bytes b u) { s with toks := tk }) →
  wpAny (model prog w) A (call (.builtin "bytes.join") [.bytes #[] t, .ref D]) Q E s
@[irreducible] def AV := eps 823000 (by walk_at "nonempty") (Du EG)
namespace DZ
def x0 := AV.2.1.1.2
noncomputable def Fu : Stg (F := Obj → Nat → (Array Value) → Prop) CG (EG AV.1.1.1.1 AV.1.1.1.2 AV.1.1.2 AV.1.2.1.1 AV.1.2.1.2 AV.1.2.2 AV.2.1.1.1 x0 AV.2.1.2 AV.2.2.1 AV.2.2.2) := mk3 _ fun K1 => by
  intro hl hn hz hF h
  have hT : AV.1.2.1.2.TypeIs (.bytes #[] AV.1.2.2) "bytes" := PySem.W.typeIs_bytes _ _ _
  obtain ⟨o, ho, hc, n, hd⟩ := id hl
  refine wpAny_call_entry Jz hT Ma ?_ (MO _ _)
  unfold Builtin.«bytes.join» Builtin.Bytes.joinM
  refine wpAny_bind (wpAny_of_eq (a := (.bytes #[] AV.1.2.2, .ref AV.2.1.1.1)) rfl ?_)
  try dsimp only
  refine bm_if_true rfl ?_
  refine wpAny_bind ?_
  unfold Builtin.Bytes.joinItems
  refine wpAny_bind (wpAny_typeOf hl.typeIs ?_)
  refine bm_if_true rfl ?_
  refine wpAny_pure ?_
  refine wpAny_bind (wpAny_seqItems ho hd ?_)
  dsimp only
  refine bm_if_true rfl ?_
  refine wpAny_bind ?_
  generalize (⟨x0 :: AV.2.1.2 :: AV.2.2.1⟩ : Array Value) = items at *
  clear hT hc hl hn
  walk_at "rv"
  intro K1
  exact K1.p o n items
@[irreducible] def Cq := eps 823001 (by walk_at "nonempty") (CG Fu.1)
noncomputable def CN : (R2 : Nat → (List Nat) → (Array (Array UInt8)) → (List (Value × Option Value)) → Prop) ×' (R4 : (Array (Array UInt8)) → (List (Value × Option Value)) → Prop) ×' (Kp (∀ x0 x1 x2 x3, R2 x0 x1 x2 x3) → Kp (∀ x0 x1, R4 x0 x1) → (CG Fu.1 Cq)) := ⟨_, _, fun K2 K4 => by
  intro ho hz hF h hd
  rw [Std.Legacy.Range.forIn_eq_forIn_range']
  refine wpAny_forIn_list _ (fun rest (st : Array (Array UInt8) × List (Value × Option Value)) s' => s' = AV.1.2.1.2 ∧ rest.length + st.1.size = Cq.2.size ∧ (∀ i ∈ rest, i < Cq.2.size) ∧ (∀ p ∈ st.1.toList, p.size = 1) ∧ (∀ q ∈ st.2, q.2 = none ∧ q.1.onHeap = false)) _ ?_ ?_ _ _ ?_
  · rintro i rest ⟨parts, taken⟩ s' ⟨rfl, hsz, hlt, hp, htk⟩
    clear hz h
    walk_at "rv"
    intro K2 K4
    exact K2.p i rest parts taken
  · rintro ⟨parts, taken⟩ s' ⟨rfl, hsz, hlt, hp, htk⟩
    try dsimp only
    refine wpAny_bind (wpAny_of_eq (a := #[]) rfl ?_)
    clear ho hF hd hlt
    walk_at "rv"
    intro K2 K4
    exact K4.p parts taken
  · refine ⟨rfl, ?_, ?_, fun p hp => by simp at hp, fun q hq => by simp at hq⟩
    · simp [Std.Legacy.Range.size]
    · intro i hi
      have := List.mem_range'.mp hi
      obtain ⟨j, hj, e⟩ := this
      simp [Std.Legacy.Range.size] at hj e
      lia⟩
@[irreducible] def CP := eps 823002 (by walk_at "nonempty") (Ch CN.1)
noncomputable def Fq : Stg (F := (Array UInt8) → Tok → Prop) CM (Ch CN.1 CP) := mk2 _ fun K3 => by
  intro ho hF hd hsz hlt hp htk
  refine wpAny_bind (wpAny_seqItems ho hd ?_)
  dsimp only
  have hi : CP.1.1 < Cq.2.size := hlt CP.1.1 (.head _)
  obtain ⟨b, u, e, hb⟩ := hF Cq.2[CP.1.1] (by simp)
  have eg : Cq.2.getD CP.1.1 .none = .bytes b u := by rw [Array.getD_eq_getD_getElem?, Array.getElem?_eq_getElem hi]; exact e
  clear hF hi e
  walk_at "rv"
  intro K3
  exact K3.p b u
@[irreducible] def Ie := eps 823003 (by walk_at "nonempty") (CM Fq.1)
theorem Lg : CM Fq.1 Ie := by
  intro ho hd hsz hlt hp htk hb eg
  have et : CP.2.2.any (fun x => x.1.onHeap) = false := by
    rw [List.any_eq_false]; intro q hq; rw [(htk q hq).2]; exact Bool.false_ne_true
  refine bm_if_false (by rw [et]; rfl) ?_
  rw [eg]
  refine wpAny_bind (wpAny_holding (Pt ?_))
  dsimp only
  refine wpAny_bind (wpAny_seqItems ho hd ?_)
  dsimp only
  refine bm_if_false (by simp) ?_
  refine wpAny_pure ⟨rfl, ?_, fun j hj => hlt j (.tail _ hj), ?_, ?_⟩
  · simp at hsz ⊢; lia
  · intro q hq
    rw [Array.toList_push] at hq
    rcases List.mem_append.mp hq with z | z
    · exact hp q z
    · rw [List.mem_singleton.mp z]; exact hb
  · intro q hq
    rcases List.mem_append.mp hq with z | z
    · exact htk q z
    · rw [List.mem_singleton.mp z]; exact ⟨rfl, rfl⟩
@[irreducible] def Dc := eps 823004 (by walk_at "nonempty") (CM CN.2.1)
theorem La : CM CN.2.1 Dc := by
  intro hz h hsz hp htk
  have hj : (Builtin.Bytes.joined #[] Dc.1.toList).size = Cq.2.size := by
    rw [Oy hp]; simpa using hsz
  have hf : Array.foldl (fun (x1 : Nat) (x2 : Array UInt8) => x1 + x2.size) ((#[] : Array UInt8).size * (Dc.1.size - 1)) Dc.1 = Cq.2.size := by
    rw [← Array.foldl_toList, Kr _ _ hp]
    simpa using hsz
  refine bm_if_false (by rw [hf]; simp only [Builtin.Bytes.tooLong, decide_eq_false_iff_not, sizeLine_eq]; lia) ?_
  refine wpAny_bind (wpAny_mkBytes ?_ (by rw [hj, sizeLine_eq]; lia))
  refine wpAny_bind (wpAny_holding (wpAny_point ?_))
  refine wpAny_bind (Hm ?_ Dc.2 fun q hq => (htk q hq).1)
  exact wpAny_pure ⟨_, rfl, h _ _ _ hj⟩
theorem Rf : CG Fu.1 Cq :=
  CN.2.2 ⟨fun x0 x1 x2 x3 => BH (P := Ch CN.1) CP (AQ Fq Ie Lg) ((x0, x1), x2, x3)⟩ ⟨fun x0 x1 => BH (P := CM CN.2.1) Dc La (x0, x1)⟩
end DZ
def DZ {prog w A E s t D x0 y0 r0 Q} :=
  (EG.eq_1 prog w A E s t D x0 y0 r0 Q).mp ((BH (P := Du EG) AV (AQ DZ.Fu DZ.Cq DZ.Rf) ((((prog, w), A), (E, s), t), ((D, x0), y0), r0, Q)))
section
variable {prog : Program} {w : World} {A : Around} {E : Value → Shared → Prop} {s : Shared}
theorem Pe {t : Tok} {D : Addr} {items : Array Value} {Q : Value → Shared → Prop} (hl : s.heap.IsList D items) (hn : 2 ≤ items.size) (hz : items.size ≤ 64) (hF : ∀ y ∈ items.toList, ∃ b u, y = .bytes b u ∧ b.size = 1)
    (h : ∀ b u tk, b.size = items.size → Q (.bytes b u) { s with toks := tk }) : wpAny (model prog w) A (call (.builtin "bytes.join") [.bytes #[] t, .ref D]) Q E s := by
  rcases items with ⟨_ | ⟨x, _ | ⟨y, r⟩⟩⟩
  · exact absurd hn (by simp)
  · exact absurd hn (by simp)
  · exact DZ hl hn hz hF h
end
theorem MI : typeOf (.builtin "bytes.join") = pure (.type "method_descriptor") := by show builtinType _ = _; rw [builtinType_eq_fast]; kernel_rfl
theorem Lz {M : Model} {A : Around} {E : Value → Shared → Prop} {s : Shared} {b : Array UInt8} {t : Tok} {pl : Sem Bool} {Q : Value × List Value → Shared → Prop} (h : Q (.builtin "bytes.join", [.bytes b t]) s) : wpAny M A (getMethod (.bytes b t) (Str.ofString "join") pl) Q E s :=
  getMethod_builtin (PySem.W.typeIs_bytes _ _ _) FB.plainAttrs_bytes Jz MI (fun a e => nomatch e) h
theorem QN : ∀ {vs : List Value} {ns : List Int} {v : Value}, IntsAre vs ns → v ∈ vs → ∃ x t, v = .int x t ∧ x ∈ ns
  | vs, ns, v, h, hv => by
    obtain ⟨i, hi, e⟩ := List.mem_iff_getElem.mp hv
    obtain ⟨x, t, rfl, hx⟩ := IntsAre.at h i v (by rw [List.getElem?_eq_getElem hi, e])
    exact ⟨x, t, rfl, List.mem_of_getElem? hx⟩
end
section
set_option rowWalk.seconds 0
section
variable {w : World} {p : Program} {loose : List Str} {mean : ExcName → Option Value} {mg mb : Str → Option Value} {dp un : Nat} {gd : Option (List Code)} {cn : Str} {cs : Scope} {a : Addr} {ccd : Value} {cl : List (Str × Addr)} {outer : List Env} {A₀ : Around} {base h₀ : Heap} {L : Addr} {m : Str → Option Value} {s : Shared} {Q E : Value → Shared → Prop} {led led' : List (Addr × Obj)}
variable (B : Below A₀ base outer h₀) (F : Fr h₀ L s.heap m) (X : (KK w.params).In h₀) (T : Top p loose mean mg mb h₀) (hk : cs.kind = .function) (N : News h₀ L s.heap led)
include B F X T hk N
theorem Iz {l : Addr} {vs : Array Value} {n : Nat} {ns : List Int} (m1 : (l, listOf vs n) ∈ led) (hv : IntsAre vs.toList ns) (hr : ∀ x ∈ ns, 0 ≤ x ∧ x < 64) (h2 : 2 ≤ vs.size) (h3 : vs.size ≤ 8)
    (hd : dp + 3 < recursionLimit) (hu : un + 30 < cLine)
    (hret : ∀ (b : Array UInt8) (t : Tok) (h' : Heap) (tk' : Nat), b.size = vs.size → Fr h₀ L h' m → News h₀ L h' led → Q (.bytes b t) { s with heap := h', toks := tk' }) :
    wpI (model pw w) (ktrTop dp un gd cn cs L a ccd cl outer) (PySem.call (.ref 174) [.ref l]) Q E s := by
  have NR : News h₀ L s.heap [(l, listOf vs n)] := (by repeat (first | exact News.nil | refine Bh N (by first | assumption | exact m1) ?_))
  have N0 : Hid (News h₀ L s.heap led) := N
  clear N
  walk_at "I open"
  rename_i g' L' h' FG' F' N' B' X' T' hg' hl' hgb'
  refine Ai (DA (En ?_))
  k_steps
  refine Lz ?_
  refine Gd (Ct (BK (F := fun y => ∃ b u, y = .bytes b u ∧ b.size = 1) (ax := l) (items := vs) (by decide) rfl (by decide) (by decide) rfl rfl (fun _ => rfl) ?_ ?_ ?_ ?_))
  · k_steps
    all_goals first
      | exact ⟨rfl, News.isList N' (.head _), ⟨_, _, rfl, fun _ _ e => e⟩⟩
      | exact ⟨News.isList N' (.head _), ⟨_, _, rfl, fun _ _ e => e⟩⟩
      | exact News.isList N' (.head _)
      | exact ⟨_, _, rfl, fun _ _ e => e⟩
  · rw [sizeLine_eq]; omega
  · intro C v s₂ m₂ E' hv' hn hm keep fresh
    obtain ⟨x, t, rfl, hx⟩ := QN hv (by simpa using hv')
    have F2 := Cw F' keep
    refine AK (nameG_K F2 X' (by k_asm) rfl ?_ rfl rfl rfl (by decide))
    refine JZ (Ct (Ae (wpAny_Name (wpAny_loadName_local rfl rfl hn hm ?_))))
    refine Ct (Ae (wpAny_Constant_none ?_))
    refine Dz ⟨⟨_, _, RA X' F2 rfl, rfl⟩, ?_⟩
    refine GF B' F2 X' T' rfl News.nil (hr x hx).1 (hr x hx).2 (by walk_at "rm") (by walk_at "rm") ?_
    intro b t' h3 tk3 hb off _ _
    exact ⟨⟨b, t', rfl, hb⟩, h3, tk3, rfl, fun b' o e => off b' o e (fun x => nomatch x)⟩
  · intro D h3 tk3 ys hys hsz hF keep
    have F2 := Cw F' keep
    have N2 := Cf N' keep
    refine Dz (Ae (Pe hys (by omega) (by omega) hF fun b u tk hb => ?_))
    k_steps
    exact hret _ _ _ _ (hb.trans hsz) (by assumption) (BV N0 NR (by assumption) (by assumption))
end
end
section
set_option rowWalk.seconds 0
theorem Ud : True := by
  k_with "binaryOp Add bytes bytes" => (k_here; (with_reducible show wpAny _ _ (binaryOp Operator.Add (Value.bytes _ _) (Value.bytes _ _)) _ _ _); refine KBy.add_bytes (by first | omega | (simp; omega)) ?_; intro _ _)
  trivial
noncomputable def DQ : T24 (Tok → Prop) := fun w pgm loose mean mg mb dp un gd cn cs a ccd cl outer A₀ base h₀ L m s Q E led t =>
  (Below A₀ base outer h₀) → (Fr h₀ L s.heap m) → ((KK w.params).In h₀) → (Top pgm loose mean mg mb h₀) → (cs.kind = .function) → (News h₀ L s.heap led) → (dp + 3 < recursionLimit) → (un + 30 < cLine) → (∀ (b : Array UInt8) (t : Tok) (h' : Heap) (tk' : Nat), b.size = 1 → Fr h₀ L h' m → News h₀ L h' led → Q (.bytes b t) { s with heap := h', toks := tk' }) →
  wpI (model pw w) (ktrTop dp un gd cn cs L a ccd cl outer) (PySem.call (.ref 181) [.bytes #[] t]) Q E s
@[irreducible] def Cc := eps 9549900 (by walk_at "nonempty") (ccx JR DQ)
theorem JU : ccx JR DQ Cc := by
  intro B F X T hk N hd hu hret
  have NR : News Cc.1.h₀ Cc.1.L Cc.1.s.heap [] := News.nil
  have N0 : Hid (News Cc.1.h₀ Cc.1.L Cc.1.s.heap Cc.1.led) := N
  clear N
  walk_at "I open"
  refine Ai (DA (JJ (AK ?_)))
  k_steps
  walk_at "I callF"
  walk_at "I arg"
  walk_at "I fn"
  refine GF (by k_asm) (by k_asm) (by k_asm) (by k_asm) rfl (by k_asm) (by decide) (by decide) (by walk_at "rm") (by walk_at "rm") ?_
  intro b t h' tk hb off F' N'
  refine Ae ?_
  k_steps
  refine Ae ?_
  k_steps
  refine hret _ _ _ _ ?_ ?_ ?_
  · simp [hb]
  · assumption
  · exact BV N0 NR (by first | assumption | exact News.nil | exact news_sub (by k_asm) (fun q hq => by repeat (first | with_reducible exact hq | apply List.mem_cons_of_mem))) (by assumption)
def LO {w p loose mean mg mb dp un gd cn cs a ccd cl outer A₀ base h₀ L m s Q E led t} :=
  (DQ.eq_1 w p loose mean mg mb dp un gd cn cs a ccd cl outer A₀ base h₀ L m s Q E led t).mp ((BH (P := ccx JR DQ) Cc JU ((⟨w, p, loose, mean, mg, mb, dp, un, gd, cn, cs, a, ccd, cl, outer, A₀, base, h₀, L, m, s, Q, E, led⟩ : Cx), t)))
noncomputable def Er : T24 (Addr → Nat → Tok → Tok → Tok → Tok → Int → Int → Prop) := fun w pgm loose mean mg mb dp un gd cn cs a ccd cl outer A₀ base h₀ L m s Q E led f n t1 t2 t3 t4 sid off =>
  (Below A₀ base outer h₀) → (Fr h₀ L s.heap m) → ((KK w.params).In h₀) → (Top pgm loose mean mg mb h₀) → (cs.kind = .function) → (News h₀ L s.heap led) → ((f, { cls := .type "tuple", dict := none, data := .seq #[.str (Str.ofString "stream") t1, .int sid t2, .int off t3, .bytes #[] t4, .bool true] n, slots := #[] }) ∈ led) → (0 ≤ sid ∧ sid < 64) → (0 ≤ off ∧ off < 64) → (dp + 4 < recursionLimit) → (un + 40 < cLine) → (∀ (b : Array UInt8) (t : Tok) (h' : Heap) (tk' : Nat), b.size = (if 0 < off then 4 else 3) → Fr h₀ L h' m → News h₀ L h' led → Q (.bytes b t) { s with heap := h', toks := tk' }) →
  wpI (model pw w) (ktrTop dp un gd cn cs L a ccd cl outer) (PySem.call (.ref 202) [.ref f, .bool false]) Q E s
@[irreducible] def BJ := eps 3908100 (by walk_at "nonempty") (ccx Da Er)
noncomputable def EN : Stg (F := Heap → Addr → Heap → Prop) CG (ccx Da Er BJ) := mk3 _ fun K1 => by
  intro B F X T hk N m1 hs ho hd hu hret
  have NR : News BJ.1.h₀ BJ.1.L BJ.1.s.heap [(BJ.2.1.1.1, _)] := (by repeat (first | exact News.nil | refine Bh N (by first | assumption | exact m1) ?_))
  have N0 : Hid (News BJ.1.h₀ BJ.1.L BJ.1.s.heap BJ.1.led) := N
  clear N
  walk_at "I open"
  walk_at "I any"
  rename_i c1_1 c1_2 _ z1 _ _ _ z2 z3 z4 _ _ _ _ _ c1_9 _ _
  clear B F hk m1 z1 z2 z3 z4
  walk_at "rv"
  intro K1
  exact K1.p c1_1 c1_2 c1_9
@[irreducible] def Hk := eps 3908101 (by walk_at "nonempty") (CG EN.1)
noncomputable def EW : Stg (F := Heap → Heap → Heap → (Array UInt8) → Tok → Heap → Nat → Value → Prop) Da (CG EN.1 Hk) := mk8 _ fun K2 => by
  intro X T hs ho hd hu hret NR N0 y9 y10 y11 y12 y13
  walk_at "I any"
  all_goals
    refine Ai (Cb (AK ?_))
    k_steps
    walk_at "I callF"
    walk_at "I fn"
    refine Iz (by k_asm) (by k_asm) (by k_asm) (by k_asm) rfl (by k_asm) (by k_mem) (by repeat constructor) (by simp; omega) (Nat.le_of_ble_eq_true rfl) (Nat.le_of_ble_eq_true rfl) (by walk_at "rm") (by walk_at "rm") ?_
    intro b t h' tk hb F' N'
    rename_i c _ _ _ e1 _ _ e2 _ _ e3 e4 e5
    replace hb : b.size = if 0 < BJ.2.2.2.2 then 3 else 2 := hb.trans (by first | exact (if_pos c).symm | exact (if_neg c).symm)
    have hb3 : b.size ≤ 3 := by rw [hb]; split <;> decide
    clear e1 e2 e3 e4 e5 c
    replace N' : News _ _ h' [(BJ.2.1.1.1, _)] := news_sub N' (fun q hq => by repeat (first | with_reducible exact hq | apply List.mem_cons_of_mem))
    generalize Value.int (8 + 1 + 2 + _) _ = told at F'
    rename_i c2_1 _ c2_3 _ c2_5
    clear hs ho
    walk_at "rv"
    intro K2
    exact K2.p c2_1 c2_3 c2_5 b t h' tk told
@[irreducible] def Hc := eps 3908102 (by walk_at "nonempty") (Da EW.1)
theorem KH : Da EW.1 Hc := by
  intro X T hd hu hret NR N0 y7 y8 y9 hb hb3 N' F'
  k_steps
  try dsimp only
  refine Ai (DA (JJ (Ae ?_)))
  k_steps
  refine Qj (Ae ?_)
  k_steps
  refine AK ?_
  k_steps
  walk_at "I callF"
  walk_at "I fn"
  refine LO (by k_asm) (by k_asm) (by k_asm) (by k_asm) rfl (by k_asm) (by walk_at "rm") (by walk_at "rm") ?_
  intro b2 t2 h2 tk2 hb2 F2 N2
  refine Ae ?_
  k_steps
  refine hret _ _ _ _ ?_ ?_ ?_
  · simp only [Array.size_append, hb, hb2]
    split <;> rfl
  · assumption
  · exact BV N0 NR (by first | assumption | exact News.nil | exact news_sub (by k_asm) (fun q hq => by repeat (first | with_reducible exact hq | apply List.mem_cons_of_mem))) (by assumption)
def MN {w p loose mean mg mb dp un gd cn cs a ccd cl outer A₀ base h₀ L m s Q E led f n t1 t2 t3 t4 sid off} :=
  (Er.eq_1 w p loose mean mg mb dp un gd cn cs a ccd cl outer A₀ base h₀ L m s Q E led f n t1 t2 t3 t4 sid off).mp ((BH (P := ccx Da Er) BJ (AQ EN Hk (AQ EW Hc KH)) ((⟨w, p, loose, mean, mg, mb, dp, un, gd, cn, cs, a, ccd, cl, outer, A₀, base, h₀, L, m, s, Q, E, led⟩ : Cx), ((f, n), t1, t2), (t3, t4), sid, off)))
end
section
set_option rowWalk.seconds 0
theorem Sz {x y : Nat} {P : Prop} [Decidable P] (hx : x = if P then 3 else 2) (hy : y = 1) : (if (12 : Int) - (x : Int) - (y : Int) > 0 then (12 : Int) - (x : Int) - (y : Int) else 0) = if P then 8 else 9 := by
  subst hy
  by_cases h : P
  · rw [if_pos h] at hx ⊢; subst hx; rfl
  · rw [if_neg h] at hx ⊢; subst hx; rfl
noncomputable abbrev Ng (sid off : Int) (t1 t2 t3 t4 : Tok) (n : Nat) : Obj := { cls := .type "tuple", dict := none, data := .seq #[.str (Str.ofString "stream") t1, .int sid t2, .int off t3, .bytes #[] t4, .bool true] n, slots := #[] }
noncomputable def EF : T24 (Addr → Nat → Tok → Tok → Tok → Tok → Int → Int → Prop) := fun w pgm loose mean mg mb dp un gd cn cs a ccd cl outer A₀ base h₀ L m s Q E led f n t1 t2 t3 t4 sid off =>
  (Below A₀ base outer h₀) → (Fr h₀ L s.heap m) → ((KK w.params).In h₀) → (Top pgm loose mean mg mb h₀) → (cs.kind = .function) → (News h₀ L s.heap led) → ((f, Ng sid off t1 t2 t3 t4 n) ∈ led) → (0 ≤ sid ∧ sid < 64) → (0 ≤ off ∧ off < 64) → (dp + 5 < recursionLimit) → (un + 50 < cLine) → (∀ (b : Array UInt8) (t : Tok) (h' : Heap) (tk' : Nat), b.size = (if 0 < off then 4 else 3) → Fr h₀ L h' m → News h₀ L h' led → Q (.bytes b t) { s with heap := h', toks := tk' }) →
  wpI (model pw w) (ktrTop dp un gd cn cs L a ccd cl outer) (PySem.call (.ref 230) [.ref f]) Q E s
@[irreducible] def Bk := eps 9952200 (by walk_at "nonempty") (ccx Da EF)
theorem LA : ccx Da EF Bk := by
  intro B F X T hk N m1 hs ho hd hu hret
  have NR : News Bk.1.h₀ Bk.1.L Bk.1.s.heap [(Bk.2.1.1.1, Ng Bk.2.2.2.1 Bk.2.2.2.2 Bk.2.1.2.1 Bk.2.1.2.2 Bk.2.2.1.1 Bk.2.2.1.2 Bk.2.1.1.2)] := (by repeat (first | exact News.nil | refine Bh N (by first | assumption | exact m1) ?_))
  have N0 : Hid (News Bk.1.h₀ Bk.1.L Bk.1.s.heap Bk.1.led) := N
  clear N
  walk_at "I open"
  walk_at "I any"
  walk_at "I any"
  walk_at "I any"
  walk_at "I any"
  refine Ai (FV (Ae ?_))
  k_steps
  refine Ai (DA (AK ?_))
  k_steps
  walk_at "I callF"
  walk_at "I arg"
  walk_at "I fn"
  refine MN (by k_asm) (by k_asm) (by k_asm) (by k_asm) rfl (by k_asm) (by k_mem) hs ho (by walk_at "rm") (by walk_at "rm") ?_
  intro b t h' tk hb F' N'
  k_steps
  refine hret _ _ _ _ ?_ ?_ ?_
  · exact hb
  · assumption
  · exact BV N0 NR (by first | assumption | exact News.nil | exact news_sub (by k_asm) (fun q hq => by repeat (first | with_reducible exact hq | apply List.mem_cons_of_mem))) (by assumption)
def Nm {w p loose mean mg mb dp un gd cn cs a ccd cl outer A₀ base h₀ L m s Q E led f n t1 t2 t3 t4 sid off} :=
  (EF.eq_1 w p loose mean mg mb dp un gd cn cs a ccd cl outer A₀ base h₀ L m s Q E led f n t1 t2 t3 t4 sid off).mp ((BH (P := ccx Da EF) Bk LA ((⟨w, p, loose, mean, mg, mb, dp, un, gd, cn, cs, a, ccd, cl, outer, A₀, base, h₀, L, m, s, Q, E, led⟩ : Cx), ((f, n), t1, t2), (t3, t4), sid, off)))
noncomputable def Eo : T24 (Addr → Nat → Tok → Tok → Tok → Tok → Int → Int → Prop) := fun w pgm loose mean mg mb dp un gd cn cs a ccd cl outer A₀ base h₀ L m s Q E led f n t1 t2 t3 t4 sid off =>
  (Below A₀ base outer h₀) → (Fr h₀ L s.heap m) → ((KK w.params).In h₀) → (Top pgm loose mean mg mb h₀) → (cs.kind = .function) → (News h₀ L s.heap led) → ((f, Ng sid off t1 t2 t3 t4 n) ∈ led) → (0 ≤ sid ∧ sid < 64) → (0 ≤ off ∧ off < 64) → (dp + 6 < recursionLimit) → (un + 60 < cLine) → (∀ (t : Tok) (h' : Heap) (tk' : Nat), Fr h₀ L h' m → News h₀ L h' led → Q (.int (if 0 < off then 4 else 3) t) { s with heap := h', toks := tk' }) →
  wpI (model pw w) (ktrTop dp un gd cn cs L a ccd cl outer) (PySem.call (.ref 237) [.ref f]) Q E s
@[irreducible] def AS := eps 8272600 (by walk_at "nonempty") (ccx Da Eo)
theorem KQ : ccx Da Eo AS := by
  intro B F X T hk N m1 hs ho hd hu hret
  have NR : News AS.1.h₀ AS.1.L AS.1.s.heap [(AS.2.1.1.1, Ng AS.2.2.2.1 AS.2.2.2.2 AS.2.1.2.1 AS.2.1.2.2 AS.2.2.1.1 AS.2.2.1.2 AS.2.1.1.2)] := (by repeat (first | exact News.nil | refine Bh N (by first | assumption | exact m1) ?_))
  have N0 : Hid (News AS.1.h₀ AS.1.L AS.1.s.heap AS.1.led) := N
  clear N
  walk_at "I open"
  refine Ai (DA (AK ?_))
  k_steps
  refine Gd (Ct (AK ?_))
  k_steps
  walk_at "I callF"
  walk_at "I fn"
  refine Nm (by k_asm) (by k_asm) (by k_asm) (by k_asm) rfl (by k_asm) (by k_mem) hs ho (by walk_at "rm") (by walk_at "rm") ?_
  intro b t h' tk hb F' N'
  have hb2 : b.size ≤ 4 := by rw [hb]; split <;> decide
  refine Dz (Ae ?_)
  show wpAny _ _ (PySem.call _ [_]) _ _ _
  k_steps
  have hb' : (b.size : Int) = if 0 < AS.2.2.2.2 then 4 else 3 := by rw [hb]; split <;> rfl
  rw [← hb'] at hret
  refine hret _ _ _ ?_ ?_
  · assumption
  · exact BV N0 NR (by first | assumption | exact News.nil | exact news_sub (by k_asm) (fun q hq => by repeat (first | with_reducible exact hq | apply List.mem_cons_of_mem))) (by assumption)
def MM {w p loose mean mg mb dp un gd cn cs a ccd cl outer A₀ base h₀ L m s Q E led f n t1 t2 t3 t4 sid off} :=
  (Eo.eq_1 w p loose mean mg mb dp un gd cn cs a ccd cl outer A₀ base h₀ L m s Q E led f n t1 t2 t3 t4 sid off).mp ((BH (P := ccx Da Eo) AS KQ ((⟨w, p, loose, mean, mg, mb, dp, un, gd, cn, cs, a, ccd, cl, outer, A₀, base, h₀, L, m, s, Q, E, led⟩ : Cx), ((f, n), t1, t2), (t3, t4), sid, off)))
noncomputable def DL : T24 (Tok → Tok → Tok → Int → Int → Prop) := fun w pgm loose mean mg mb dp un gd cn cs a ccd cl outer A₀ base h₀ L m s Q E led t1 t2 t3 sid off =>
  (Below A₀ base outer h₀) → (Fr h₀ L s.heap m) → ((KK w.params).In h₀) → (Top pgm loose mean mg mb h₀) → (cs.kind = .function) → (News h₀ L s.heap led) → (0 ≤ sid ∧ sid < 64) → (0 ≤ off ∧ off < 64) → (dp + 6 < recursionLimit) → (un + 60 < cLine) → (∀ (t : Tok) (h' : Heap) (tk' : Nat), Fr h₀ L h' m → News h₀ L h' led → Q (.int (if 0 < off then 8 else 9) t) { s with heap := h', toks := tk' }) →
  wpI (model pw w) (ktrTop dp un gd cn cs L a ccd cl outer) (PySem.call (.ref 244) [.int sid t1, .int off t2, .int 12 t3]) Q E s
@[irreducible] def BS := eps 1277700 (by walk_at "nonempty") (ccx Cz DL)
noncomputable def Ey : Stg (F := Heap → Addr → Heap → Heap → Heap → (Array UInt8) → Tok → Heap → Nat → Prop) ET (ccx Cz DL BS) := mk9 _ fun K1 => by
  intro B F X T hk N hs ho hd hu hret
  have NR : News BS.1.h₀ BS.1.L BS.1.s.heap [] := News.nil
  have N0 : Hid (News BS.1.h₀ BS.1.L BS.1.s.heap BS.1.led) := N
  clear N
  walk_at "I open"
  refine Ai (Cb (AK ?_))
  k_steps
  refine Gd (Ct (AK ?_))
  k_steps
  walk_at "I callF"
  all_goals
    walk_at "I fn"
    refine Iz (by k_asm) (by k_asm) (by k_asm) (by k_asm) rfl (by k_asm) (by k_mem) (by repeat constructor) (by simp; omega) (Nat.le_of_ble_eq_true rfl) (Nat.le_of_ble_eq_true rfl) (by walk_at "rm") (by walk_at "rm") ?_
    intro b t h' tk hb F' N'
    rename_i _ _ e0 c _ _ e1 _ _ e2 e3 e4
    replace hb : b.size = if 0 < BS.2.2.2 then 3 else 2 := hb.trans (by first | exact (if_pos c).symm | exact (if_neg c).symm)
    have hb3 : b.size ≤ 3 := by rw [hb]; split <;> decide
    clear e0 e1 e2 e3 e4 c
    replace N' : News _ _ h' [] := news_sub N' (fun _ h => nomatch h)
    rename_i c1_1 c1_2 _ z1 _ _ _ z2 z3 z4 _ c1_5 _ c1_7 _ c1_9
    clear B F hk hs ho z1 z2 z3 z4
    walk_at "rv"
    intro K1
    exact K1.p c1_1 c1_2 c1_5 c1_7 c1_9 b t h' tk
@[irreducible] def Gi := eps 1277701 (by walk_at "nonempty") (ET Ey.1)
theorem JT : ET Ey.1 Gi := by
  intro X T hd hu hret NR N0 y7 y8 y9 F' hb hb3 N'
  refine Dz (Ae ?_)
  show wpAny _ _ (PySem.call _ [_]) _ _ _
  k_steps
  try dsimp only
  refine Ai (DA (AK ?_))
  k_steps
  refine Gd (Ct (Ae ?_))
  k_steps
  refine Ct (JJ (Ae ?_))
  k_steps
  refine AK ?_
  k_steps
  refine Gd (Ct (AK ?_))
  k_steps
  walk_at "I callF"
  walk_at "I arg"
  walk_at "I fn"
  refine GF (by k_asm) (by k_asm) (by k_asm) (by k_asm) rfl (by k_asm) (by decide) (by decide) (by walk_at "rm") (by walk_at "rm") ?_
  intro b2 t2 h2 tk2 hb2 off2 F2 N2
  refine Dz (Ae ?_)
  show wpAny _ _ (PySem.call _ [_]) _ _ _
  k_steps
  refine Ae ?_
  k_steps
  refine Dz (Ae ?_)
  show wpAny _ _ (PySem.call _ [_, _]) _ _ _
  k_steps
  refine cb_retI hret ?_ ?_ ?_
  · exact Sz hb hb2
  · assumption
  · exact BV N0 NR (by first | assumption | exact News.nil | exact news_sub (by k_asm) (fun q hq => by repeat (first | with_reducible exact hq | apply List.mem_cons_of_mem))) (by assumption)
def LN {w p loose mean mg mb dp un gd cn cs a ccd cl outer A₀ base h₀ L m s Q E led t1 t2 t3 sid off} :=
  (DL.eq_1 w p loose mean mg mb dp un gd cn cs a ccd cl outer A₀ base h₀ L m s Q E led t1 t2 t3 sid off).mp ((BH (P := ccx Cz DL) BS (AQ Ey Gi JT) ((⟨w, p, loose, mean, mg, mb, dp, un, gd, cn, cs, a, ccd, cl, outer, A₀, base, h₀, L, m, s, Q, E, led⟩ : Cx), ((t1, t2), t3), sid, off)))
end
section
set_option rowWalk.seconds 0
theorem Tx : True := by
  k_with "step" => (first | (k_unfold; (try dsimp only)) | walk1 | (dsimp only; walk1) | (leave1; (try dsimp only)))
  trivial
theorem UU : (PySem.Challenge.rw_sj0123_01, KK) = (PySem.Challenge.rw_sj0123_01, KK) := by k_fill; rfl
theorem TZ : True := by
  k_with "rm" => (first | exact Nat.lt_of_le_of_lt (Nat.le_add_right _ _) (by assumption) | ((try dsimp only); (try rw [Nat.add_assoc]); (try rw [Nat.add_assoc]); refine Nat.lt_of_le_of_lt (Nat.add_le_add_left ?_ _) (by assumption); decide) | ((try dsimp only); lia))
  k_with "compareOp NotIn str ref" => (k_here; (with_reducible show wpAny _ _ (compareOp CmpOp.NotIn (Value.str _ _) (Value.ref _)) _ _ _); k_dflt (refine' notin_tuple_strs (kun_topT ?k1 ?k2 ?k3) ?k4 ?_; (case k1 => k_asm); (case k2 => k_asm); (case k3 => k_is); (case k4 => kde_strs); k_whole))
  trivial
noncomputable abbrev fld (n : String) (hk : Int × Tok) (v : Value) : DictEntry := ⟨hk.1, .str (Str.ofString n) hk.2, v⟩
set_option genInjectivity false in
set_option genSizeOfSpec false in
structure PS where
  e1 : Int × Tok
  e2 : Int × Tok
  e3 : Int × Tok
  e4 : Int × Tok
  e5 : Int × Tok
  e6 : Int × Tok
  e7 : Int × Tok
  e8 : Int × Tok
  e9 : Int × Tok
  e10 : Int × Tok
  e11 : Int × Tok
  ac : Addr
noncomputable abbrev Ca (k : PS) (lim : Int) (t1 : Tok) (st : Str) (t2 : Tok) (wr : Array UInt8) (t3 : Tok) (snt : Int) (t4 : Tok) (lo : Addr) : Obj :=
  dictOf [fld "limit" k.e1 (.int lim t1), fld "state" k.e2 (.str st t2), fld "written" k.e3 (.bytes wr t3), fld "sent_to" k.e4 (.int snt t4), fld "acked" k.e5 (.ref k.ac), fld "lost" k.e6 (.ref lo), fld "is_finished" k.e7 (.bool false), fld "owes_end" k.e8 (.bool false), fld "is_end_acked" k.e9 (.bool false), fld "reset_code" k.e10 .none, fld "owes_reset" k.e11 (.bool false)] 11
noncomputable abbrev PZ (st : Str) : Prop := st = Str.ofString "ready" ∨ st = Str.ofString "send"
noncomputable def DE (size lim snt r : Int) : Int := max 0 (min (min size lim - snt) r)
theorem Ss {a c : Int} (h : c = max 0 a) (p : 0 < c) : c = a := by
  rcases Int.le_total a 0 with ha | ha
  · rw [Int.max_eq_left ha] at h
    rw [h] at p
    exact absurd p (Int.lt_irrefl 0)
  · rw [Int.max_eq_right ha] at h
    exact h
theorem PB {a b : Int} : (if b < a then b else a) = min a b := by
  split <;> lia
theorem Rh {a : Int} : (if a > 0 then a else 0) = max 0 a := by
  split <;> lia
theorem LJ {z l s r c : Int} (h : c ≤ DE z l s r) (p : 0 < c) : c ≤ z - s ∧ c ≤ l - s ∧ c ≤ r := by
  have h2 : c ≤ min (min z l - s) r := Int.le_trans h (Int.le_of_eq (Ss rfl (Int.lt_of_lt_of_le p h)))
  have h1 := Int.le_trans h2 (Int.min_le_left _ _)
  exact ⟨Int.le_trans h1 (Int.sub_le_sub_right (Int.min_le_left _ _) _), Int.le_trans h1 (Int.sub_le_sub_right (Int.min_le_right _ _) _), Int.le_trans h2 (Int.min_le_right _ _)⟩
theorem Sg {st : Str} (h : st = Str.ofString "ready" ∨ st = Str.ofString "send") : ([Str.ofString "ready", Str.ofString "send"].any fun x => x == st) = true := by rcases h with h | h <;> rw [h] <;> decide
theorem UE {st : Str} (h : st = Str.ofString "ready" ∨ st = Str.ofString "send") : (st == Str.ofString "data_sent") = false := by rcases h with h | h <;> rw [h] <;> decide
noncomputable def Fh : T24 (PS → Addr → Addr → Addr → Int → Int → Int → Tok → Tok → Tok → Tok → Tok → Str → (Array UInt8) → Prop) := fun w pgm loose mean mg mb dp un gd cn cs a ccd cl outer A₀ base h₀ L m s Q E led k sp d lo lim snt r t1 t2 t3 t4 t5 st wr =>
  (Below A₀ base outer h₀) → (Fr h₀ L s.heap m) → ((KK w.params).In h₀) → (Top pgm loose mean mg mb h₀) → (cs.kind = .function) → (News h₀ L s.heap led) → ((sp, instObj 498 d) ∈ led) → ((d, Ca k lim t1 st t2 wr t3 snt t4 lo) ∈ led) → (PZ st) → (wr.size ≤ 6) → (dp + 1 < recursionLimit) → (un + 8 < cLine) → (∀ (t : Tok) (h' : Heap) (tk' : Nat), Fr h₀ L h' m → News h₀ L h' led → Q (.int (DE wr.size lim snt r) t) { s with heap := h', toks := tk' }) →
  wpAny (model pw w) (ktrTop dp un gd cn cs L a ccd cl outer) (PySem.call (.ref 432) [.ref sp, .int r t5]) Q E s
@[irreducible] def Bq := eps 7552800 (by walk_at "nonempty") (ccx FJ Fh)
noncomputable def Gb : Stg (F := Heap → Addr → Heap → Nat → Prop) Ch (ccx FJ Fh Bq) := mk4 _ fun K1 => by
  intro B F X T hk N m1 m2 hst hw hd hu hret
  have N0 := N
  have NR : News Bq.1.h₀ Bq.1.L Bq.1.s.heap [(Bq.2.1.1.1.2, instObj 498 Bq.2.1.1.2.1), (Bq.2.1.1.2.1, Ca Bq.2.1.1.1.1 Bq.2.1.2.1.1 Bq.2.2.1.1.1 Bq.2.2.2.1.2 Bq.2.2.1.1.2 Bq.2.2.2.2 Bq.2.2.1.2.1 Bq.2.1.2.1.2 Bq.2.2.1.2.2 Bq.2.1.1.2.2)] := (by repeat (first | exact News.nil | refine Bh N (by first | assumption | exact m1) ?_))
  clear N
  have hL1 := Sg hst
  walk_at "kt open"
  iterate 14 (first | walk_at "step" | skip)
  try dsimp (zetaDelta := true) only
  rename_i c1_1 c1_2 c1_3 z1 _ _ z2 _ _ z3 z4 z5
  clear B F hk m1 m2 hst hd hu hL1 z1 z2 z3 z4 z5
  walk_at "rv"
  intro K1
  exact K1.p c1_1 c1_2 c1_3 tk
@[irreducible] def IJ := eps 7552801 (by walk_at "nonempty") (Ch Gb.1)
noncomputable def Iw : (R2 : Prop) ×' (Kp R2 → (Ch Gb.1 IJ)) := ⟨_, fun K2 => by
  intro X T hw hret N0 NR y6 y7 y8 y9
  iterate 14 (first | walk_at "step" | skip)
  try dsimp (zetaDelta := true) only
  walk_at "rv"
  intro K2
  exact K2.p ⟩
noncomputable def Gc : Stg (F := Heap → Nat → Heap → Nat → Prop) Ch (Iw.1) := mk4 _ fun K3 => by
  intro X T hw hret N0 NR y6 y7 y8 y9
  iterate 14 (first | walk_at "step" | skip)
  try dsimp (zetaDelta := true) only
  rename_i c3_1 c3_2 c3_3 _ _
  clear hw
  walk_at "rv"
  intro K3
  exact K3.p c3_1 c3_2 c3_3 tk
@[irreducible] def Iy := eps 7552803 (by walk_at "nonempty") (Ch Gc.1)
noncomputable def IC : (R4 : Prop) ×' (Kp R4 → (Ch Gc.1 Iy)) := ⟨_, fun K4 => by
  intro X T hret N0 NR y5 y6 y7 y8
  iterate 14 (first | walk_at "step" | skip)
  try dsimp (zetaDelta := true) only
  walk_at "rv"
  intro K4
  exact K4.p ⟩
theorem LZ : IC.1 := by
  intro X T hret N0 NR y5 y6 y7 y8
  k_steps
  refine cb_retI hret ?_ (by assumption) (BV N0 NR (by assumption) (by assumption))
  rw [PB, PB, Rh]
  rfl
def Pz {w p loose mean mg mb dp un gd cn cs a ccd cl outer A₀ base h₀ L m s Q E led k sp d lo lim snt r t1 t2 t3 t4 t5 st wr} :=
  (Fh.eq_1 w p loose mean mg mb dp un gd cn cs a ccd cl outer A₀ base h₀ L m s Q E led k sp d lo lim snt r t1 t2 t3 t4 t5 st wr).mp ((BH (P := ccx FJ Fh) Bq (AQ Gb IJ (Iw.2 ⟨(AQ Gc Iy (IC.2 ⟨LZ⟩))⟩)) ((⟨w, p, loose, mean, mg, mb, dp, un, gd, cn, cs, a, ccd, cl, outer, A₀, base, h₀, L, m, s, Q, E, led⟩ : Cx), (((k, sp), d, lo), (lim, snt), r), ((t1, t2), t3, t4), (t5, st), wr)))
end
section
set_option rowWalk.seconds 0
theorem Uo : True := by
  k_with "rm" => (first | exact Nat.lt_of_le_of_lt (Nat.le_add_right _ _) (by assumption) | ((try dsimp only); (try rw [Nat.add_assoc]); (try rw [Nat.add_assoc]); refine Nat.lt_of_le_of_lt (Nat.add_le_add_left ?_ _) (by assumption); decide) | ((try dsimp only); omega))
  trivial
section
variable {w : World} {p : Program} {loose : List Str} {mean : ExcName → Option Value} {mg mb : Str → Option Value} {dp un : Nat} {gd : Option (List Code)} {cn : Str} {cs : Scope} {a : Addr} {ccd : Value} {cl : List (Str × Addr)} {outer : List Env} {A₀ : Around} {base h₀ : Heap} {L : Addr} {m : Str → Option Value} {s : Shared} {Q E : Value → Shared → Prop} {led led' : List (Addr × Obj)}
variable (B : Below A₀ base outer h₀) (F : Fr h₀ L s.heap m) (X : (KK w.params).In h₀) (T : Top p loose mean mg mb h₀) (hk : cs.kind = .function) (N : News h₀ L s.heap led)
include B F X T hk N
set_option genInjectivity false in
set_option genSizeOfSpec false in
structure CS where
  e1 : Int × Tok
  e2 : Int × Tok
  e3 : Int × Tok
noncomputable abbrev AI (k : CS) (lim : Int) (t1 : Tok) (used : Int) (t2 : Tok) : Obj :=
  dictOf [fld "limit" k.e1 (.int lim t1), fld "used" k.e2 (.int used t2), fld "told_at" k.e3 .none] 3
theorem SC {k : CS} {sp d : Addr} {lim used : Int} {t1 t2 : Tok}
    (m1 : (sp, instObj 115 d) ∈ led) (m2 : (d, AI k lim t1 used t2) ∈ led)
    (hd : dp + 1 < recursionLimit) (hu : un + 8 < cLine)
    (hret : ∀ (t : Tok) (h' : Heap) (tk' : Nat), Fr h₀ L h' m → News h₀ L h' led → Q (.int (lim - used) t) { s with heap := h', toks := tk' }) :
    wpAny (model pw w) (ktrTop dp un gd cn cs L a ccd cl outer) (PySem.call (.ref 84) [.ref sp]) Q E s := by
  have NR : News h₀ L s.heap [(sp, instObj 115 d), (d, AI k lim t1 used t2)] := (by repeat (first | exact News.nil | refine Bh N (by first | assumption | exact m1) ?_))
  have N0 : Hid (News h₀ L s.heap led) := N
  clear N
  walk_at "kt open"
  k_steps
  refine cb_retI hret ?_ ?_ ?_
  · rfl
  · assumption
  · exact BV N0 NR (by first | assumption | exact News.nil | exact news_sub (by k_asm) (fun q hq => by repeat (first | with_reducible exact hq | apply List.mem_cons_of_mem))) (by assumption)
theorem Ub : True := by
  k_with "call ref" => (k_here; (with_reducible show wpAny _ _ (PySem.call (Value.ref 84) _) _ _ _); (refine SC (by k_asm) (by k_asm) (by k_asm) (by k_asm) (by rfl) (by k_asm) (by k_mem) (by k_mem) (by walk_at "rm") (by walk_at "rm") ?_; intro t' h' tk' F' N'))
  trivial
theorem RX {k : CS} {sp d : Addr} {lim used many : Int} {t1 t2 t3 : Tok} {g : Obj → List (Addr × Obj)}
    (m1 : (sp, instObj 115 d) ∈ led) (m2 : (d, AI k lim t1 used t2) ∈ led) (U : UpdF d (AI k lim t1 used t2) led g) (hle : many ≤ lim - used)
    (hd : dp + 2 < recursionLimit) (hu : un + 20 < cLine)
    (hret : ∀ (t : Tok) (h' : Heap) (tk' : Nat), Fr h₀ L h' m → News h₀ L h' (g (AI k lim t1 (used + many) t)) → Q .none { s with heap := h', toks := tk' }) :
    wpAny (model pw w) (ktrTop dp un gd cn cs L a ccd cl outer) (PySem.call (.ref 91) [.ref sp, .int many t3]) Q E s := by
  have NR : News h₀ L s.heap [(sp, instObj 115 d), (d, AI k lim t1 used t2)] := (by repeat (first | exact News.nil | refine Bh N (by first | assumption | exact m1) ?_))
  have N0 : Hid (News h₀ L s.heap led) := N
  have hne : sp ≠ d := Ar N m1 m2 rfl
  clear N
  walk_at "kt open"
  k_steps
  refine' hret _ _ _ ?rF ?rN
  case rN => exact CL N0 NR (by k_asm) (by assumption) U (by k_mem) (by repeat (first | exact fa0 | refine fa1 (fun hn => by first | k_mem | exact absurd rfl hn) ?_))
  case rF => assumption
theorem LB {k : CS} {sp d : Addr} {lim used l : Int} {t1 t2 t3 : Tok} {g : Obj → List (Addr × Obj)}
    (m1 : (sp, instObj 115 d) ∈ led) (m2 : (d, AI k lim t1 used t2) ∈ led) (U : UpdF d (AI k lim t1 used t2) led g)
    (hd : dp + 1 < recursionLimit) (hu : un + 10 < cLine)
    (hret : ∀ (b : Bool) (t : Tok) (h' : Heap) (tk' : Nat), Fr h₀ L h' m → News h₀ L h' (g (AI k (max lim l) t used t2)) → Q (.bool b) { s with heap := h', toks := tk' }) :
    wpAny (model pw w) (ktrTop dp un gd cn cs L a ccd cl outer) (PySem.call (.ref 98) [.ref sp, .int l t3]) Q E s := by
  have NR : News h₀ L s.heap [(sp, instObj 115 d), (d, AI k lim t1 used t2)] := (by repeat (first | exact News.nil | refine Bh N (by first | assumption | exact m1) ?_))
  have N0 : Hid (News h₀ L s.heap led) := N
  have hne : sp ≠ d := Ar N m1 m2 rfl
  clear N
  walk_at "kt open"
  k_steps
  · have e : max lim l = lim := by omega
    rw [e] at hret
    refine' hret _ _ _ _ ?rF ?rN
    case rN => exact CL N0 NR (by k_asm) (by assumption) U (by k_mem) (by repeat (first | exact fa0 | refine fa1 (fun hn => by first | k_mem | exact absurd rfl hn) ?_))
    case rF => assumption
  · have e : max lim l = l := by omega
    rw [e] at hret
    refine' hret _ _ _ _ ?rF ?rN
    case rN => exact CL N0 NR (by k_asm) (by assumption) U (by k_mem) (by repeat (first | exact fa0 | refine fa1 (fun hn => by first | k_mem | exact absurd rfl hn) ?_))
    case rF => assumption
end
end
section
set_option rowWalk.seconds 0
theorem Uk : True := by
  k_with "subscriptTail" => (k_here; (with_reducible show wpAny _ _ (subscriptTail _ (Expr.Slice _ _ none _) (Value.bytes _ _) (Value.ref _)) _ _ _); (with_reducible rename Fr _ _ _ _ => F'); (with_reducible rename News _ _ _ _ => N'); (refine KBc.slice_K (s := ⟨_, _, _, _, _⟩) F' N' rfl (by constructor) (by constructor) (by rw [KBw.ints_length]; omega) ?_); intro h' t' k' F' N' _)
  trivial
section
variable {w : World} {p : Program} {loose : List Str} {mean : ExcName → Option Value} {mg mb : Str → Option Value} {dp un : Nat} {gd : Option (List Code)} {cn : Str} {cs : Scope} {a : Addr} {ccd : Value} {cl : List (Str × Addr)} {outer : List Env} {A₀ : Around} {base h₀ : Heap} {L : Addr} {m : Str → Option Value} {s : Shared} {Q E : Value → Shared → Prop} {led led' : List (Addr × Obj)}
variable (B : Below A₀ base outer h₀) (F : Fr h₀ L s.heap m) (X : (KK w.params).In h₀) (T : Top p loose mean mg mb h₀) (hk : cs.kind = .function) (N : News h₀ L s.heap led)
include B F X T hk N
theorem LV {k : PS} {sp d lo : Addr} {lim snt l : Int} {t1 t2 t3 t4 t5 : Tok} {st : Str} {wr : Array UInt8} {g : Obj → List (Addr × Obj)}
    (m1 : (sp, instObj 498 d) ∈ led) (m2 : (d, Ca k lim t1 st t2 wr t3 snt t4 lo) ∈ led) (U : UpdF d (Ca k lim t1 st t2 wr t3 snt t4 lo) led g)
    (hd : dp + 1 < recursionLimit) (hu : un + 10 < cLine)
    (hret : ∀ (t : Tok) (h' : Heap) (tk' : Nat), Fr h₀ L h' m → News h₀ L h' (g (Ca k (max lim l) t st t2 wr t3 snt t4 lo)) → Q .none { s with heap := h', toks := tk' }) :
    wpAny (model pw w) (ktrTop dp un gd cn cs L a ccd cl outer) (PySem.call (.ref 425) [.ref sp, .int l t5]) Q E s := by
  have NR : News h₀ L s.heap [(sp, instObj 498 d), (d, Ca k lim t1 st t2 wr t3 snt t4 lo)] := (by repeat (first | exact News.nil | refine Bh N (by first | assumption | exact m1) ?_))
  have N0 : Hid (News h₀ L s.heap led) := N
  have hne : sp ≠ d := Ar N m1 m2 rfl
  clear N
  walk_at "kt open"
  k_steps
  have e : max lim l = (if l > lim then l else lim) := by split <;> omega
  rw [e] at hret
  refine' hret _ _ _ ?rF ?rN
  case rN => exact CL N0 NR (by k_asm) (by assumption) U (by k_mem) (by repeat (first | exact fa0 | refine fa1 (fun hn => by first | k_mem | exact absurd rfl hn) ?_))
  case rF => assumption
theorem MW {lo : Addr} {n : Nat} {most : Int} {t : Tok} (m1 : (lo, listOf #[] n) ∈ led)
    (hd : dp + 1 < recursionLimit) (hu : un + 10 < cLine)
    (hret : ∀ (h' : Heap) (tk' : Nat), Fr h₀ L h' m → News h₀ L h' led → Q .none { s with heap := h', toks := tk' }) :
    wpAny (model pw w) (ktrTop dp un gd cn cs L a ccd cl outer) (PySem.call (.ref 284) [.ref lo, .int most t]) Q E s := by
  have NR : News h₀ L s.heap [(lo, listOf #[] n)] := (by repeat (first | exact News.nil | refine Bh N (by first | assumption | exact m1) ?_))
  have N0 : Hid (News h₀ L s.heap led) := N
  clear N
  walk_at "kt open"
  k_steps
  refine hret _ _ ?_ ?_
  · assumption
  · exact BV N0 NR (by first | assumption | exact News.nil | exact news_sub (by k_asm) (fun q hq => by repeat (first | with_reducible exact hq | apply List.mem_cons_of_mem))) (by assumption)
theorem Px {lo : Addr} {n : Nat} {low high : Int} {t t' : Tok} (m1 : (lo, listOf #[] n) ∈ led) (hlt : low < high)
    (hd : dp + 1 < recursionLimit) (hu : un + 10 < cLine)
    (hret : ∀ (D : Addr) (h' : Heap) (tk' : Nat), (∀ q ∈ led, q.1 ≠ D) → Fr h₀ L h' m → News h₀ L h' ((D, listOf #[] 0) :: led) → Q (.ref D) { s with heap := h', toks := tk' }) :
    wpAny (model pw w) (ktrTop dp un gd cn cs L a ccd cl outer) (PySem.call (.ref 270) [.ref lo, .int low t, .int high t']) Q E s := by
  have NR : News h₀ L s.heap [(lo, listOf #[] n)] := (by repeat (first | exact News.nil | refine Bh N (by first | assumption | exact m1) ?_))
  have N0 : Hid (News h₀ L s.heap led) := N
  clear N
  walk_at "kt open"
  k_steps
  refine hret _ _ _ ?_ ?_ ?_
  · exact AU (rel := [(lo, listOf #[] n)]) N0 (by assumption) (by k_asm) (.head _) (fun hx => absurd (List.mem_singleton.mp hx) (by k_ne))
  · assumption
  · refine AM (BV N0 NR (by first | assumption | exact news_sub (by k_asm) (fun q hq => by repeat (first | with_reducible exact hq | apply List.mem_cons_of_mem))) (by assumption)) (by k_asm) (.head _)
end
theorem Ue : True := by
  k_with "call ref" => (k_here; (with_reducible show wpAny _ _ (PySem.call (Value.ref 284) _) _ _ _); (refine MW (by k_asm) (by k_asm) (by k_asm) (by k_asm) (by rfl) (by k_asm) (by k_mem) (by walk_at "rm") (by walk_at "rm") ?_; intro h' tk' F' N'))
  k_with "call ref" => (k_here; (with_reducible show wpAny _ _ (PySem.call (Value.ref 270) _) _ _ _); (refine Px (by k_asm) (by k_asm) (by k_asm) (by k_asm) (by rfl) (by k_asm) (by k_mem) (by omega) (by walk_at "rm") (by walk_at "rm") ?_; intro D' h' tk' ne' F' N'; (try (have ne1' := ne' _ (.head _))); (try (have ne2' := ne' _ (.tail _ (.head _)))); (try (have ne3' := ne' _ (.tail _ (.tail _ (.head _))))); (try (have ne4' := ne' _ (.tail _ (.tail _ (.tail _ (.head _)))))); (try (have ne5' := ne' _ (.tail _ (.tail _ (.tail _ (.tail _ (.head _)))))))))
  k_with "call ref" => (k_here; (with_reducible show wpAny _ _ (PySem.call (Value.ref 432) _) _ _ _); (refine Pz (by k_asm) (by k_asm) (by k_asm) (by k_asm) (by rfl) (by k_asm) (by k_mem) (by k_mem) (by assumption) (by assumption) (by walk_at "rm") (by walk_at "rm") ?_; intro t' h' tk' F' N'))
  trivial
noncomputable def Ef : T24 (PS → Addr → Addr → Addr → Nat → Int → Int → Int → Int → Tok → Tok → Tok → Tok → Tok → Tok → Str → (Array UInt8) → (Obj → List (Addr × Obj)) → Prop) := fun w pgm loose mean mg mb dp un gd cn cs a ccd cl outer A₀ base h₀ L m s Q E led k sp d lo n lim snt most mn t1 t2 t3 t4 t5 t6 st wr g =>
  (Below A₀ base outer h₀) → (Fr h₀ L s.heap m) → ((KK w.params).In h₀) → (Top pgm loose mean mg mb h₀) → (cs.kind = .function) → (News h₀ L s.heap led) → ((sp, instObj 498 d) ∈ led) → ((d, Ca k lim t1 st t2 wr t3 snt t4 lo) ∈ led) → ((lo, listOf #[] n) ∈ led) → (UpdF d (Ca k lim t1 st t2 wr t3 snt t4 lo) led g) → (PZ st) → (wr.size ≤ 6) → (dp + 3 < recursionLimit) → (un + 20 < cLine) → (max 0 (min most (DE wr.size lim snt mn)) = 0 → ∀ (h' : Heap) (tk' : Nat), Fr h₀ L h' m → News h₀ L h' led → Q .none { s with heap := h', toks := tk' }) → (∀ c sn', c = max 0 (min most (DE wr.size lim snt mn)) → 0 < c → sn' = snt + c → ∀ (tup lo' : Addr) (ta tb tc td : Tok) (h' : Heap) (tk' : Nat), Fr h₀ L h' m → (∀ q ∈ led, q.1 ≠ tup) → (∀ q ∈ led, q.1 ≠ lo') →
      News h₀ L h' ((tup, { cls := .type "tuple", dict := none, data := .seq #[.int snt ta, .bytes (KBy.picked wr (some snt) (some (snt + c))) tb, .bool false] 0, slots := #[] }) :: (lo', listOf #[] 0) :: g (Ca k lim t1 (Str.ofString "send") tc wr t3 sn' td lo')) → Q (.ref tup) { s with heap := h', toks := tk' }) →
  wpAny (model pw w) (ktrTop dp un gd cn cs L a ccd cl outer) (PySem.call (.ref 453) [.ref sp, .int most t5, .int mn t6]) Q E s
@[irreducible] def Ak := eps 4609200 (by walk_at "nonempty") (ccx Nj Ef)
noncomputable def EX : Stg (F := Heap → Addr → Heap → Nat → Prop) Ch (ccx Nj Ef Ak) := mk4 _ fun K1 => by
  intro B F X T hk N m1 m2 m3 U hst hw hd hu hret0 hret1
  have NR : News Ak.1.h₀ Ak.1.L Ak.1.s.heap [(Ak.2.1.1.1.1.2, instObj 498 Ak.2.1.1.1.2), (Ak.2.1.1.1.2, Ca Ak.2.1.1.1.1.1 Ak.2.1.2.1.1 Ak.2.2.1.1.1.1 Ak.2.2.2.1.2 Ak.2.2.1.1.1.2 Ak.2.2.2.2.1 Ak.2.2.1.1.2 Ak.2.1.2.1.2 Ak.2.2.1.2.1 Ak.2.1.1.2.1), (Ak.2.1.1.2.1, listOf #[] Ak.2.1.1.2.2)] := (by repeat (first | exact News.nil | refine Bh N (by first | assumption | exact m1) ?_))
  have N0 : Hid (News Ak.1.h₀ Ak.1.L Ak.1.s.heap Ak.1.led) := N
  have hne : Ak.2.1.1.1.1.2 ≠ Ak.2.1.1.1.2 := Ar N m1 m2 rfl
  have hne2 : Ak.2.1.1.2.1 ≠ Ak.2.1.1.1.2 := Ar N m3 m2 rfl
  have hne3 : Ak.2.1.1.2.1 ≠ Ak.2.1.1.1.1.2 := Ar N m3 m1 rfl
  clear N
  have hst' := hst
  have hL1 := Sg hst
  have hL2 := UE hst
  walk_at "kt open"
  have ec : (if (if DE (Ak.2.2.2.2.1.size : Int) Ak.2.1.2.1.1 Ak.2.1.2.1.2 Ak.2.1.2.2.2 < Ak.2.1.2.2.1 then DE (Ak.2.2.2.2.1.size : Int) Ak.2.1.2.1.1 Ak.2.1.2.1.2 Ak.2.1.2.2.2 else Ak.2.1.2.2.1) > 0 then (if DE (Ak.2.2.2.2.1.size : Int) Ak.2.1.2.1.1 Ak.2.1.2.1.2 Ak.2.1.2.2.2 < Ak.2.1.2.2.1 then DE (Ak.2.2.2.2.1.size : Int) Ak.2.1.2.1.1 Ak.2.1.2.1.2 Ak.2.1.2.2.2 else Ak.2.1.2.2.1) else 0) = max 0 (min Ak.2.1.2.2.1 (DE Ak.2.2.2.2.1.size Ak.2.1.2.1.1 Ak.2.1.2.1.2 Ak.2.1.2.2.2)) := by (repeat' split) <;> omega
  iterate 31 walk_at "step"
  try dsimp (zetaDelta := true) only
  rename_i c1_1 c1_2 _ z1 _ _ _ z2 z3 _ _ c1_5 _ _
  clear B F hk m1 m2 m3 hst hne3 hL1 z1 z2 z3
  walk_at "rv"
  intro K1
  exact K1.p c1_1 c1_2 c1_5 tk
@[irreducible] def Dt := eps 4609201 (by walk_at "nonempty") (Ch EX.1)
namespace kut1
def tk := Dt.2.2
noncomputable def Hi : Stg (F := Tok → Heap → Nat → Prop) CG (EX.1 Dt.1.1 Dt.1.2 Dt.2.1 tk) := mk3 _ fun K2 => by
  intro X T U hw hd hu hret0 hret1 NR N0 hne hne2 hst' hL2 y14 y15 y16 y17 ec y19 y20
  iterate 29 walk_at "step"
  try dsimp (zetaDelta := true) only
  rename_i c2_1 _ _
  clear hst'
  walk_at "rv"
  intro K2
  exact K2.p t' c2_1 tk
@[irreducible] def ER := eps 4609202 (by walk_at "nonempty") (CG Hi.1)
namespace kut2
def tk := ER.2
noncomputable def He : Stg (F := Nat → Addr → Heap → Nat → Prop) Ch (Hi.1 ER.1.1 ER.1.2 tk) := mk4 _ fun K3 => by
  intro X T U hw hd hu hret0 hret1 NR N0 hne hne2 hL2 y13 y14 y15 y16 ec y18 y19
  iterate 27 walk_at "step"
  try dsimp (zetaDelta := true) only
  rename_i c3_1 c3_2 _ _ c3_4 _ _
  walk_at "rv"
  intro K3
  exact K3.p c3_1 c3_2 c3_4 tk
@[irreducible] def DM := eps 4609203 (by walk_at "nonempty") (Ch He.1)
namespace kut3
def tk := DM.2.2
noncomputable def Hf : Stg (F := Heap → Prop) JR (He.1 DM.1.1 DM.1.2 DM.2.1 tk) := mk1 _ fun K4 => by
  intro X T U hw hd hu hret0 hret1 NR N0 hne hne2 hL2 y13 y14 y15 y16 ec y18 y19 y20
  iterate 28 walk_at "step"
  try dsimp (zetaDelta := true) only
  rename_i c4_1 _ _
  walk_at "rv"
  intro K4
  exact K4.p c4_1
@[irreducible] def KR := eps 4609204 (by walk_at "nonempty") (JR Hf.1)
theorem Qt : JR Hf.1 KR := by
  intro X T U hw hd hu hret0 hret1 NR N0 hne hne2 hL2 y13 y14 y15 y16 ec y18 y19 y20
  k_steps
  · refine hret0 (by omega) _ _ ?_ ?_
    · assumption
    · exact BV N0 NR (by first | assumption | exact News.nil | exact news_sub (by k_asm) (fun q hq => by repeat (first | with_reducible exact hq | apply List.mem_cons_of_mem))) (by assumption)
  · refine' hret1 _ _ ec ?e2 ?e3 _ _ _ _ _ _ _ _ ?rF ?r1 ?r2 ?rN
    case rN => exact AM (AM (CL N0 NR (by k_asm) (by assumption) U (by k_mem) (by repeat (first | exact fa0 | refine fa1 (fun hn => by first | k_mem | exact absurd rfl hn) ?_))) (by k_asm) (.tail _ (.head _))) (by k_asm) (.head _)
    case e2 => omega
    case e3 => (split <;> omega)
    case rF => assumption
    case r1 => exact AU N0 (by assumption) (by k_asm) (.head _) (by repeat (first | exact List.not_mem_nil | refine nm1 (by k_ne) ?_))
    case r2 => exact AU N0 (by assumption) (by k_asm) (.tail _ (.head _)) (by repeat (first | exact List.not_mem_nil | refine nm1 (by k_ne) ?_))
end kut3
end kut2
end kut1
def MF {w p loose mean mg mb dp un gd cn cs a ccd cl outer A₀ base h₀ L m s Q E led k sp d lo n lim snt most mn t1 t2 t3 t4 t5 t6 st wr g} :=
  (Ef.eq_1 w p loose mean mg mb dp un gd cn cs a ccd cl outer A₀ base h₀ L m s Q E led k sp d lo n lim snt most mn t1 t2 t3 t4 t5 t6 st wr g).mp ((BH (P := ccx Nj Ef) Ak (AQ EX Dt (AQ kut1.Hi kut1.ER (AQ kut1.kut2.He kut1.kut2.DM (AQ kut1.kut2.kut3.Hf kut1.kut2.kut3.KR kut1.kut2.kut3.Qt)))) ((⟨w, p, loose, mean, mg, mb, dp, un, gd, cn, cs, a, ccd, cl, outer, A₀, base, h₀, L, m, s, Q, E, led⟩ : Cx), ((((k, sp), d), lo, n), (lim, snt), most, mn), (((t1, t2), t3), t4, t5), (t6, st), wr, g)))
end
section
theorem Pw {h₀ h h' : Heap} {L d e : Addr} {o o' u u' : Obj} {led rel rel' : List (Addr × Obj)} {g1 : Obj → List (Addr × Obj)} {g2 : Obj → Obj → List (Addr × Obj)} (N : News h₀ L h led) (NR : News h₀ L h rel) (N' : News h₀ L h' rel') (off : Off (rel.map (·.1)) h h')
    (U1 : UpdF d o led g1) (U2 : ∀ x, UpdF e u (g1 x) (g2 x)) (hm : (d, o') ∈ rel') (hm2 : (e, u') ∈ rel') (hr : ∀ q ∈ rel, q.1 ≠ d → q.1 ≠ e → q ∈ rel') : News h₀ L h' (g2 o' u') :=
  Ea N NR N' off [d, e] (fun q hq => by
    rcases MU (U2 o') q hq with rfl | ⟨h1, h2⟩
    · exact .inl hm2
    · rcases MU U1 q h1 with rfl | ⟨h3, h4⟩
      · exact .inl hm
      · exact .inr ⟨h3, fun x => by
          rcases List.mem_cons.mp x with y | y
          · exact h4 y
          · exact h2 (List.mem_singleton.mp y)⟩) fun q hq hn => hr q hq (fun x => hn (x ▸ .head _)) fun x => hn (x ▸ .tail _ (.head _))
noncomputable def QA (o : Obj) : Nat := match o.data with | .dict es _ => es.size | _ => 0
theorem DD {h₀ h : Heap} {L : Addr} {led : List (Addr × Obj)} {a b : Addr} {o o' : Obj} (N : News h₀ L h led) (ha : (a, o) ∈ led) (hb : (b, o') ∈ led) (hc : QA o ≠ QA o') : a ≠ b := by
  rintro rfl
  have e1 := (N _ ha).1
  rw [(N _ hb).1] at e1
  exact hc (congrArg QA (Option.some.inj e1).symm)
section
variable {prog : Program} {w : World} {A : Around} {E : Value → Shared → Prop} {s : Shared} {h₀ : Heap} {L d : Addr} {led : List (Addr × Obj)} {o : Obj} {kvs : List (Int × Value)} {x : Int} {t : Tok} {v : Value} {Q : Value → Shared → Prop}
theorem Qv (N : News h₀ L s.heap led) (hp : (d, o) ∈ led) (hd : o.IsDictOf (PySem.intKind prog w) kvs) (hv : valueAt kvs x = some v) (lo : (d == sysModules) = false)
    (h : Q (.bool false) { s with toks := s.toks + 1 }) : wpAny (model prog w) A (compareOp .NotIn (.int x t) (.ref d)) Q E s := by
  show wpAny _ _ (do return .bool (!(← contains (.ref d) (.int x t)))) Q E s
  have k : wpAny (model prog w) A (compareOp .In (.int x t) (.ref d)) (fun r s' => r = .bool true ∧ s' = { s with toks := s.toks + 1 }) E s :=
    kda_in (knd := PySem.intKind prog w) N hp hd lo (intKind_is _ _ _ _) true (by rw [hv]; rfl) ⟨rfl, rfl⟩
  have k2 : wpAny (model prog w) A (contains (.ref d) (.int x t)) (fun b s' => Value.bool b = .bool true ∧ s' = { s with toks := s.toks + 1 }) E s := fun Γ p hΓ => by
    have := k Γ p hΓ
    rw [show compareOp .In (.int x t) (.ref d) = (contains (.ref d) (.int x t) >>= fun b => pure (Value.bool b)) from rfl, Sem.wp_bind'] at this
    exact this
  refine wpAny_bind (wpAny_mono k2 (fun b s' hb => ?_) fun _ _ e => e)
  obtain ⟨h1, rfl⟩ := hb
  cases b with
  | true => exact wpAny_pure h
  | false => cases h1
end
end
section
set_option rowWalk.seconds 0
theorem Tg : True := by
  k_with "getItem ref int" => (k_here; (with_reducible show wpAny _ _ (getItem (Value.ref _) (Value.int _ _)) _ _ _); (refine kdt_getItem (knd := PySem.intKind _ _) (by k_asm) (by k_mem) (by k_asm) (intKind_is _ _ _ _) (by first | assumption | rfl) ?_))
  trivial
set_option genInjectivity false in
set_option genSizeOfSpec false in
structure SD where
  e1 : Int × Tok
  e2 : Int × Tok
  e3 : Int × Tok
  e4 : Int × Tok
  e5 : Int × Tok
  e6 : Int × Tok
  e7 : Int × Tok
  e8 : Int × Tok
  e9 : Int × Tok
  e10 : Int × Tok
  e11 : Int × Tok
  e12 : Int × Tok
  e13 : Int × Tok
  e14 : Int × Tok
  ro : Tok
  pa : Addr
  pe : Value
  ids : Addr
  cr : Addr
  wi : Addr
  se : Addr
  re : Addr
  ws : Addr
  ow : Addr
  bl : Addr
  ev : Addr
  ov : Addr
noncomputable abbrev BF (k : SD) (turn : Int) (tt : Tok) : Obj :=
  dictOf [fld "role" k.e1 (.str (Str.ofString "client") k.ro), fld "params" k.e2 (.ref k.pa), fld "peer" k.e3 k.pe, fld "ids" k.e4 (.ref k.ids), fld "credit" k.e5 (.ref k.cr), fld "window" k.e6 (.ref k.wi), fld "senders" k.e7 (.ref k.se), fld "readers" k.e8 (.ref k.re), fld "windows" k.e9 (.ref k.ws), fld "owed" k.e10 (.ref k.ow), fld "blocked_at" k.e11 (.ref k.bl), fld "events" k.e12 (.ref k.ev), fld "over" k.e13 (.ref k.ov), fld "turn" k.e14 (.int turn tt)] 14
noncomputable def Ra (snt : Int) : Int := if 0 < snt then 8 else 9
noncomputable def KU (size lim snt room : Int) : Int := max 0 (min (Ra snt) (DE size lim snt room))
theorem Un : True := by
  k_with "call ref" => (k_here; (with_reducible show wpAny _ _ (PySem.call (Value.ref 91) _) _ _ _); (refine RX (by k_asm) (by k_asm) (by k_asm) (by k_asm) (by rfl) (by k_asm) (by k_mem) (by k_mem) (by k_updF) (by (split <;> omega)) (by walk_at "rm") (by walk_at "rm") ?_; intro t' h' tk' F' N'))
  trivial
noncomputable def Ei : T24 (SD → PS → CS → Addr → Addr → Addr → Addr → Addr → Addr → Nat → Obj → (List (Int × Value)) → Int → Int → Int → Int → Int → Int → Tok → Tok → Tok → Tok → Tok → Tok → Tok → Tok → Tok → Str → (Array UInt8) → (Obj → List (Addr × Obj)) → (Obj → Obj → List (Addr × Obj)) → Prop) := fun w pgm loose mean mg mb dp un gd cn cs a ccd cl outer A₀ base h₀ L m s Q E led k kp kc sp ds p dp' lo dc n oS kvs sid turn lim snt dl used t0 t1 t2 t3 t4 t5 t6 t7 t8 st wr g1 g2 =>
  (Below A₀ base outer h₀) → (Fr h₀ L s.heap m) → ((KK w.params).In h₀) → (Top pgm loose mean mg mb h₀) → (cs.kind = .function) → (News h₀ L s.heap led) → ((sp, instObj 790 ds) ∈ led) → ((ds, BF k turn t0) ∈ led) → ((k.se, oS) ∈ led) → (oS.IsDictOf (PySem.intKind pw w) kvs) → (valueAt kvs sid = some (.ref p)) → ((p, instObj 498 dp') ∈ led) → ((dp', Ca kp lim t1 st t2 wr t3 snt t4 lo) ∈ led) → ((lo, listOf #[] n) ∈ led) → ((k.cr, instObj 115 dc) ∈ led) → ((dc, AI kc dl t5 used t6) ∈ led) → (PZ st) → (wr.size ≤ 6) → (0 ≤ sid ∧ sid < 64) → (0 ≤ snt ∧ snt < 64) → (dp + 8 < recursionLimit) → (un + 90 < cLine) → (KU wr.size lim snt (dl - used) = 0 → ∀ (h' : Heap) (tk' : Nat), Fr h₀ L h' m → News h₀ L h' led → Q .none { s with heap := h', toks := tk' }) → (k.se ≠ dp') → (k.se ≠ dc) → (UpdF dp' (Ca kp lim t1 st t2 wr t3 snt t4 lo) led g1) → (∀ x, UpdF dc (AI kc dl t5 used t6) (g1 x) (g2 x)) → (∀ c sn' us', c = KU wr.size lim snt (dl - used) → 0 < c → sn' = snt + c → us' = used + c → ∀ (f lo' : Addr) (ta tb tc td te tf : Tok) (h' : Heap) (tk' : Nat), Fr h₀ L h' m → (∀ q ∈ led, q.1 ≠ f) → (∀ q ∈ led, q.1 ≠ lo') →
      News h₀ L h' ((f, { cls := .type "tuple", dict := none, data := .seq #[.str (Str.ofString "stream") ta, .int sid t7, .int snt tb, .bytes (KBy.picked wr (some snt) (some (snt + c))) tc, .bool false] 0, slots := #[] }) :: (lo', listOf #[] 0) :: g2 (Ca kp lim t1 (Str.ofString "send") td wr t3 sn' te lo') (AI kc dl t5 us' tf)) → Q (.ref f) { s with heap := h', toks := tk' }) →
  wpI (model pw w) (ktrTop dp un gd cn cs L a ccd cl outer) (PySem.call (.ref 773) [.ref sp, .int sid t7, .int 12 t8]) Q E s
@[irreducible] def Ac := eps 8354900 (by walk_at "nonempty") (ccx Sn Ei)
namespace Cm
def dc := Ac.2.1.2.1.1.1
noncomputable def KP : (R1 : Prop) ×' (Kp R1 → (vcx Ei Ac.1 Ac.2.1.1.1.1.1 Ac.2.1.1.1.1.2 Ac.2.1.1.1.2.1 Ac.2.1.1.1.2.2 Ac.2.1.1.2.1.1 Ac.2.1.1.2.1.2 Ac.2.1.1.2.2.1 Ac.2.1.1.2.2.2 dc Ac.2.1.2.1.1.2 Ac.2.1.2.1.2.1 Ac.2.1.2.1.2.2 Ac.2.1.2.2.1.1 Ac.2.1.2.2.1.2 Ac.2.1.2.2.2.1 Ac.2.1.2.2.2.2 Ac.2.2.1.1.1.1 Ac.2.2.1.1.1.2 Ac.2.2.1.1.2.1 Ac.2.2.1.1.2.2 Ac.2.2.1.2.1.1 Ac.2.2.1.2.1.2 Ac.2.2.1.2.2.1 Ac.2.2.1.2.2.2 Ac.2.2.2.1.1.1 Ac.2.2.2.1.1.2 Ac.2.2.2.1.2.1 Ac.2.2.2.1.2.2 Ac.2.2.2.2.1.1 Ac.2.2.2.2.1.2 Ac.2.2.2.2.2)) := ⟨_, fun K1 => by
  intro B F X T hk N m1 m2 m3 hS hv m4 m5 m6 m7 m8 hst hw hs ho hd hu hret0 ne4 ne5 U1 U2 hret1
  have NR : News Ac.1.h₀ Ac.1.L Ac.1.s.heap [(Ac.2.1.1.1.2.2, instObj 790 Ac.2.1.1.2.1.1), (Ac.2.1.1.2.1.1, BF Ac.2.1.1.1.1.1 Ac.2.1.2.2.1.2 Ac.2.2.1.1.2.1), (Ac.2.1.1.1.1.1.se, Ac.2.1.2.1.2.1), (Ac.2.1.1.2.1.2, instObj 498 Ac.2.1.1.2.2.1), (Ac.2.1.1.2.2.1, Ca Ac.2.1.1.1.1.2 Ac.2.1.2.2.2.1 Ac.2.2.1.1.2.2 Ac.2.2.2.1.2.2 Ac.2.2.1.2.1.1 Ac.2.2.2.2.1.1 Ac.2.2.1.2.1.2 Ac.2.1.2.2.2.2 Ac.2.2.1.2.2.1 Ac.2.1.1.2.2.2), (Ac.2.1.1.2.2.2, listOf #[] Ac.2.1.2.1.1.2), (Ac.2.1.1.1.1.1.cr, instObj 115 dc), (dc, AI Ac.2.1.1.1.2.1 Ac.2.2.1.1.1.1 Ac.2.2.1.2.2.2 Ac.2.2.1.1.1.2 Ac.2.2.2.1.1.1)] := (by repeat (first | exact News.nil | refine Bh N (by first | assumption | exact m1) ?_))
  have N0 : Hid (News Ac.1.h₀ Ac.1.L Ac.1.s.heap Ac.1.led) := N
  have n1 : Ac.2.1.1.1.2.2 ≠ Ac.2.1.1.2.2.1 := Ar N m1 m5 rfl
  have n2 : Ac.2.1.1.2.1.1 ≠ Ac.2.1.1.2.2.1 := DD N m2 m5 (show (14 : Nat) ≠ 11 by decide)
  have n3 : Ac.2.1.1.2.1.2 ≠ Ac.2.1.1.2.2.1 := Ar N m4 m5 rfl
  have n4 : Ac.2.1.1.2.2.2 ≠ Ac.2.1.1.2.2.1 := Ar N m6 m5 rfl
  have n5 : Ac.2.1.1.1.1.1.cr ≠ Ac.2.1.1.2.2.1 := Ar N m7 m5 rfl
  have n6 : dc ≠ Ac.2.1.1.2.2.1 := DD N m8 m5 (show (3 : Nat) ≠ 11 by decide)
  have n7 : Ac.2.1.1.1.2.2 ≠ dc := Ar N m1 m8 rfl
  have n8 : Ac.2.1.1.2.1.1 ≠ dc := DD N m2 m8 (show (14 : Nat) ≠ 3 by decide)
  have n9 : Ac.2.1.1.2.1.2 ≠ dc := Ar N m4 m8 rfl
  have n10 : Ac.2.1.1.2.2.2 ≠ dc := Ar N m6 m8 rfl
  have n11 : Ac.2.1.1.1.1.1.cr ≠ dc := Ar N m7 m8 rfl
  clear N
  clear m1 m2 m3 m4 m5 m6 m7 m8
  walk_at "rv"
  intro K1
  exact K1.p ⟩
noncomputable def GY : Stg (F := Heap → Addr → Heap → Addr → Heap → Tok → Heap → Nat → Prop) Da (KP.1) := mk8 _ fun K2 => by
  intro B
  walk_at "in"
  walk_at "I open"
  walk_at "I any"
  refine Ai (FV ?_)
  refine It ?_
  refine AK ?_
  k_steps
  walk_at "I callF"
  walk_at "I fn"
  refine MM (by k_asm) (by k_asm) (by k_asm) (by k_asm) rfl (by k_asm) (by k_mem) hs ho (by walk_at "rm") (by walk_at "rm") ?_
  intro t h' tk F' N'
  rename_i c2_1 c2_2 _ z1 _ _ _ z2 z3 _ c2_4 c2_5 c2_6 z4 z5 _
  clear B F hk hS hv z1 z2 z3 z4 z5
  walk_at "rv"
  intro K2
  exact K2.p c2_1 c2_2 c2_4 c2_5 c2_6 t h' tk
@[irreducible] def Cv := eps 8354902 (by walk_at "nonempty") (Da GY.1)
namespace kut2
def tk := Cv.2.2.2
noncomputable def Hh : Stg (F := Heap → Tok → Heap → Nat → Prop) Ch (GY.1 Cv.1.1.1 Cv.1.1.2 Cv.1.2.1 Cv.1.2.2 Cv.2.1.1 Cv.2.1.2 Cv.2.2.1 tk) := mk4 _ fun K3 => by
  intro X
  walk_at "in"
  refine Ae ?_
  k_steps
  refine Bc ?_
  dsimp only
  walk_at "I any"
  refine Ai (Cb ?_)
  refine En ?_
  k_steps
  refine JZ (Ct (AK ?_))
  k_steps
  walk_at "I callF"
  walk_at "I arg"
  walk_at "I arg"
  walk_at "I fn"
  refine LN (by k_asm) (by k_asm) (by k_asm) (by k_asm) rfl (by k_asm) hs ho (by walk_at "rm") (by walk_at "rm") ?_
  intro t h' tk F' N'
  rename_i c3_1 z1 z2
  clear hs ho z1 z2
  walk_at "rv"
  intro K3
  exact K3.p c3_1 t h' tk
@[irreducible] def KS := eps 8354903 (by walk_at "nonempty") (Ch Hh.1)
noncomputable def Hl : Stg (F := Heap → Nat → Int → Int → Addr → Addr → Tok → Tok → Tok → Tok → Heap → Nat → Prop) Dv (Ch Hh.1 KS) := RR _ fun K4 => by
  intro X
  walk_at "in"
  walk_at "I arg"
  walk_at "I fn"
  refine Ae ?_
  show wpAny _ _ (PySem.call _ [_, _, _]) _ _ _
  refine MF (by k_asm) (by k_asm) (by k_asm) (by k_asm) rfl (by k_asm) (by k_mem) (by k_mem) (by k_mem) (by k_updF) hst hw (by walk_at "rm") (by walk_at "rm") ?h0 ?h1
  case h0 =>
    intro hc h' tk' F' N'
    k_steps
    try dsimp only
    refine Ae ?_
    k_steps
    refine hret0 hc _ _ ?_ ?_
    · assumption
    · exact BV N0 NR (by first | assumption | exact News.nil | exact news_sub (by k_asm) (fun q hq => by repeat (first | with_reducible exact hq | apply List.mem_cons_of_mem))) (by assumption)
  case h1 =>
    intro c sn' hc hpos hsn tup lo' ta tb tc td h' tk' F' nf1 nf2 N'
    have hcr : c ≤ Ac.2.2.1.1.1.1 - Ac.2.2.1.1.1.2 := (LJ (Int.le_trans (Int.le_of_eq (Ss hc hpos)) (Int.min_le_right _ _)) hpos).2.2
    have q1 : dc ≠ tup := nf1 (dc, AI Ac.2.1.1.1.2.1 Ac.2.2.1.1.1.1 Ac.2.2.1.2.2.2 Ac.2.2.1.1.1.2 Ac.2.2.2.1.1.1) (by k_mem)
    have q2 : dc ≠ lo' := nf2 (dc, AI Ac.2.1.1.1.2.1 Ac.2.2.1.1.1.1 Ac.2.2.1.2.2.2 Ac.2.2.1.1.1.2 Ac.2.2.2.1.1.1) (by k_mem)
    rename_i z1 z2 c4_1 c4_2 z3 z4
    clear hst hw hret0 ne4 n1 n2 n3 n4 n5 z1 z2 z3 z4 nf1
    walk_at "rv"
    intro K4
    exact K4.p c4_1 c4_2 c sn' tup lo' ta tb tc td h' tk'
@[irreducible] def EO := eps 8354904 (by walk_at "nonempty") (Dv Hl.1)
theorem Qr : Dv Hl.1 EO := by
  intro X
  walk_at "in"
  k_steps
  try dsimp only
  refine Ae ?_
  k_steps
  refine' hret1 EO.1.1.2 EO.1.2.1.1 _ hc hpos hsn ?e4 _ _ _ _ _ _ _ _ _ _ ?rF ?r1 ?r2 ?rN
  case rN => exact AM (AM (Pw N0 NR (by k_asm) (by assumption) U1 U2 (by k_mem) (by k_mem) (by intro q hq hn hn2; simp only [List.mem_cons, List.not_mem_nil, or_false] at hq; rcases hq with rfl | rfl | rfl | rfl | rfl | rfl | rfl | rfl <;> first | k_mem | exact absurd rfl hn | exact absurd rfl hn2)) (by k_asm) (by k_mem)) (by k_asm) (.head _)
  case e4 => (split <;> omega)
  case rF => assumption
  case r1 => exact AU N0 (by assumption) (by k_asm) (.head _) (by repeat (first | exact List.not_mem_nil | refine nm1 (by k_ne) ?_))
  case r2 => exact AU N0 (by assumption) (by k_asm) (by k_mem) (by intro hx; obtain ⟨q, hq, e⟩ := List.mem_map.mp hx; exact nf2 q (by repeat (first | with_reducible exact hq | apply List.mem_cons_of_mem)) e)
end kut2
end Cm
def Cm {w pgm loose mean mg mb dp un gd cn cs a ccd cl outer A₀ base h₀ L m s Q E led k kp kc sp ds p dp' lo dc n oS kvs sid turn lim snt dl used t0 t1 t2 t3 t4 t5 t6 t7 t8 st wr g1 g2} :=
  (Ei.eq_1 w pgm loose mean mg mb dp un gd cn cs a ccd cl outer A₀ base h₀ L m s Q E led k kp kc sp ds p dp' lo dc n oS kvs sid turn lim snt dl used t0 t1 t2 t3 t4 t5 t6 t7 t8 st wr g1 g2).mp ((BH (P := ccx Sn Ei) Ac (Cm.KP.2 ⟨(AQ Cm.GY Cm.Cv (AQ Cm.kut2.Hh Cm.kut2.KS (AQ Cm.kut2.Hl Cm.kut2.EO Cm.kut2.Qr)))⟩) ((⟨w, _, loose, mean, mg, mb, dp, un, gd, cn, cs, a, ccd, cl, outer, A₀, base, h₀, L, m, s, Q, E, led⟩ : Cx), ((((k, kp), kc, sp), (ds, p), dp', lo), ((dc, n), oS, kvs), (sid, turn), lim, snt), (((dl, used), t0, t1), (t2, t3), t4, t5), ((t6, t7), t8, st), (wr, g1), g2)))
end
section
section
variable {prog : Program} {w : World} {A : Around} {E : Value → Shared → Prop} {R : Result → Shared → Prop} {s : Shared}
theorem KO {test body orelse env} (I : Nat → Shared → Prop)
    (turn : ∀ n s, I n s →
      wpI (model prog w) A (isTrue test env (eval test env)) (fun b s₂ =>
        if b then wpI (model prog w) A (execs body env) (fun f s₃ => match f with
            | .next | .cont => ∃ m, m < n ∧ I m s₃
            | .brk => R (.ok .next) s₃
            | .ret v => R (.ok (.ret v)) s₃) (notedBy (model prog w) A env fun e s' => R (.error e) s') s₂
        else wpI (model prog w) A (execs orelse env) (fun f s₃ => R (.ok f) s₃) (notedBy (model prog w) A env fun e s' => R (.error e) s') s₂)
        (notedBy (model prog w) A env fun e s' => R (.error e) s') s)
    (n : Nat) (h : I n s) : BY (model prog w) A (.whileLoop test body orelse env) R s := by
  refine GC rfl I (fun n s hI => ?_) n h
  show wpI _ A ((whileTurn test body orelse env).onRaise (fun x => do noteFrame x env; theTreesLotGoes x)) _ _ s
  refine Ir ?_
  simp only [whileTurn]
  refine Al (AR (turn n s hI) fun b s₂ h₂ => ?_)
  cases b with
  | false =>
    simp only [Bool.false_eq_true, if_false] at h₂ ⊢
    exact Al (AR h₂ fun f s₃ h₃ => AD h₃)
  | true =>
    simp only [if_true] at h₂ ⊢
    refine Al (AR h₂ fun f s₃ h₃ => ?_)
    cases f with
    | next => exact AD (.inl ⟨rfl, h₃⟩)
    | cont => exact AD (.inl ⟨rfl, h₃⟩)
    | brk => exact AD h₃
    | ret v => exact AD h₃
theorem MB {M : Model} {env : Env} {test body orelse pos} {Q : Flow → Shared → Prop}
    (h : BY M A (.whileLoop test body orelse env) (fun r s' => match r with | .ok f => Q f s' | .error e => cameBackBy M A env E e s') s) :
    wpI M A (exec (.While test body orelse pos) env) Q E s := by
  rw [exec_While]; exact Al (BB (Lj h))
theorem Sl {l : List Stmt} {env : Env} (h : wpI (model prog w) A (execs l env) (fun f s' => R (.ok f) s') (notedBy (model prog w) A env fun e s' => R (.error e) s') s) : True := trivial
theorem LW {target it body env} (I : Nat → Shared → Prop)
    (turn : ∀ n s, I n s → wpAny (model prog w) A (pyNext it) (fun r s₁ => match r with
      | none => R (.ok .next) s₁
      | some v => wpAny (model prog w) A (assign target env v) (fun _ s₂ => wpI (model prog w) A (execs body env) (fun f s₃ => match f with
          | .next | .cont => ∃ m, m < n ∧ I m s₃
          | .brk => R (.ok .next) s₃
          | .ret v => R (.ok (.ret v)) s₃) (notedBy (model prog w) A env fun e s' => R (.error e) s') s₂) (notedBy (model prog w) A env fun e s' => R (.error e) s') s₁) (notedBy (model prog w) A env fun e s' => R (.error e) s') s)
    (n : Nat) (h : I n s) (ht : autoParam (∀ v, letOwnedTupleGo target it v = pure ()) aRf) : BY (model prog w) A (.forLoop target it body [] env) R s := by
  refine GC rfl I (fun n s hI => ?_) n h
  show wpI _ _ ((forTurn target it body [] env).onRaise (fun x => do noteFrame x env; theTreesLotGoes x)) _ _ s
  refine Ir ?_
  simp only [forTurn]
  refine Al (BB (Al (Eb (Dr (Ae (turn n s hI)) (fun r s₁ h₁ => ?_) fun _ _ h' => wpAny_standAt h'))))
  cases r with
  | none => exact AD (.inr ⟨rfl, Jn (codeAny_block (wpAny_execs_nil h₁))⟩)
  | some v =>
    refine Al (Dh (ht v) ?_)
    refine Al (Ae (wpAny_mono h₁ (fun _ s₂ h₂ => Al (AR h₂ fun f s₃ h₃ => ?_)) fun _ _ h' => h'))
    cases f with
    | next => exact AD (.inl ⟨rfl, h₃⟩)
    | cont => exact AD (.inl ⟨rfl, h₃⟩)
    | brk => exact AD h₃
    | ret v => exact AD h₃
theorem GR {M : Model} {env : Env} {target iter body pos} {Q : Flow → Shared → Prop}
    (h : wpAny M A (eval iter env) (fun x s₁ => wpAny M A (pyIter x) (fun it s₂ =>
      BY M A (.forLoop target it body [] env) (fun r s' => match r with | .ok f => Q f s' | .error e => cameBackBy M A env E e s') s₂) E s₁) E s)
    (hs : autoParam (∀ x, foldedSetIterable iter env x = pure x) aRf) :
    wpI M A (exec (.For target iter body [] pos) env) Q E s := by
  rw [exec_For]
  refine Al (BB (Al (Ae (wpAny_mono h (fun x s₁ h₁ => ?_) fun _ _ h' => h'))))
  refine Al (Dh (hs x) (Al (BB (Al (Bm (Ae (wpAny_mono h₁ (fun it s₂ h₂ => ?_) fun _ _ h' => h')))))))
  exact Lj h₂
end
end
section
section
variable {prog : Program} {w : World} {A₀ A : Around} {s : Shared} {base h₀ : Heap} {env : Env} {outer : List Env} {L : Addr} {m : Str → Option Value} {rel : List (Addr × Obj)} {K : Frag}
  {R : Result → Shared → Prop} {name qual : Str} {params : Arguments} {body : List Stmt} {scope : Scope} {dV kV doc pm cdv ct oc : Value} {an od : Option Addr} {osl : Array (Option Value)} {f : Addr} {args : Args} {binds : List (Str × Value)}
  {p : Program} {loose : List Str} {mean : ExcName → Option Value} {mg mb : Str → Option Value}
theorem Ph (B : Below A₀ base outer h₀) (F : Fr h₀ L s.heap m) (X₀ : K.In h₀) (N : News h₀ L s.heap rel) (T : Top p loose mean mg mb h₀) (hA : A.frames = some (env :: outer)) (hf : env.frame = some L) (hke : env.scope.kind = .function)
    (ho : K.lookup f = some ⟨oc, od, .func (fnOf name qual params body scope dV kV doc pm an cdv ct), osl⟩) (hcd : codeIn K cdv qual = true) (hroom : A.depth < recursionLimit)
    (hbind : BindsTo s (fnOf name qual params body scope dV kV doc pm an cdv ct) args binds) (hkind : (binds.all fun y => scope.names.lookup y.1 == some .local || scope.names.lookup y.1 == some .cell) = true)
    (hnd : ((cellsFrom 0 scope.names []).map (·.1)).Nodup)
    (h : ∀ g L' h₁ tk cells, Fr h₀ L g m → Fr g L' h₁ (bindL (envOfC qual scope L' f cdv).kindOf binds fun _ => none) → News g L' h₁ (cells ++ rel) →
      CellsAre (bindC (envOfC qual scope L' f cdv).kindOf binds fun _ => none) (cellsFrom (L' + 1) scope.names []) cells → Below A base (env :: outer) g → K.In g → Top p loose mean mg mb g → (∀ p ∈ rel, p.1 < L') → Kept (rel.map (·.1)) s.heap g →
      wpAny (model prog w) (A.deeper (envOfC qual scope L' f cdv)) (execs body (envOfC qual scope L' f cdv))
        (fun fl s' => LeaveK h₀ L m g (fun r s' => Off (rel.map (·.1)) s.heap s'.heap → R r s') (match fl with | .ret v => v | _ => .none) s')
        (fun e s' => wpAny (model prog w) (A.deeper (envOfC qual scope L' f cdv)) (leaving (envOfC qual scope L' f cdv) e) (fun _ s'' => R (.error e) s'') (fun e' s'' => R (.error e') s'') s')
        { s with heap := h₁, toks := tk })
    (hco : scope.isCoroutine = false) (hgen : scope.isGenerator = false) (hk : scope.kind = .function) : codeAny (model prog w) A (.call (.ref f) args) R s := by
  obtain ⟨FG, BG, st, lv⟩ := groundX (R := fun r s' => Off (rel.map (·.1)) s.heap s'.heap → R r s') B F N hA hf hke
  refine codeAny_call_function (fd := fnOf name qual params body scope dV kV doc pm an cdv ct) (body := body) hroom ((X₀.keeps F.keep) _ _ ho) rfl hco hgen rfl (codeRec_of (X₀.keeps F.keep) hcd) (hbind _ _ _ _ ?_)
  refine wpAny_newFunctionEnv_cells hk (kindsX hkind _) fun env' he s' x => ?_
  subst he
  refine ⟨(T.nolimit.keeps F.keep).keeps x.toInCall.keep, codeAny_func ?_⟩
  obtain ⟨h₁, tk, rfl, _⟩ := x.done
  have hk₁ := x.toInCall.keep
  obtain ⟨cells, NC, Y⟩ := Cl.news (h₀ := s.heap) (Nat.le_refl _) fun n c hm => ⟨x.cell n c (lookup_of_mem_nodup (cellsFrom_names scope.names 0 (s.heap.objs.size + 1) [] [] rfl ▸ hnd) hm), x.above n c hm⟩
  refine wpAny_mono (h _ s.heap.objs.size h₁ tk cells FG ⟨x.toInCall.ns, fun b o e => hk₁ b o (of_hideAll _ e), Nat.le_of_eq (hideAll_size _ _)⟩ (fun p hp => ?_) Y BG (X₀.keeps st) (T.keeps st) (fun p hp => Heap.lt_size (N p hp).1) ⟨fun b o e n => hideAll_get _ e n⟩) (fun fl s' hl => ?_) fun _ _ y => y
  · rcases List.mem_append.mp hp with hp | hp
    · refine ⟨(NC p hp).1, (NC p hp).2.1, ?_⟩
      cases q : (hideAll s.heap (rel.map (·.1))).get? p.1 with
      | none => rfl
      | some o => have := of_hideAll _ q; rw [(NC p hp).2.2] at this; cases this
    · exact ⟨hk₁ _ _ (N p hp).1, Nat.ne_of_lt (Heap.lt_size (N p hp).1), hideAll_none _ (List.mem_map_of_mem hp)⟩
  · have off : Off (rel.map (·.1)) s.heap s'.heap := fun b o e n => by
      obtain ⟨L', m', news', F', _⟩ := hl
      exact F'.keep b o (hideAll_get _ e n)
    exact lv _ _ hl off
theorem OH (B : Below A₀ base outer h₀) (F : Fr h₀ L s.heap m) (X₀ : K.In h₀) (N : News h₀ L s.heap rel) (T : Top p loose mean mg mb h₀) (hA : A.frames = some (env :: outer)) (hf : env.frame = some L) (hke : env.scope.kind = .function)
    (ho : K.lookup f = some ⟨oc, od, .func (fnOf name qual params body scope dV kV doc pm an cdv ct), osl⟩) (hcd : codeIn K cdv qual = true) (hroom : A.depth < recursionLimit)
    (hbind : BindsTo s (fnOf name qual params body scope dV kV doc pm an cdv ct) args binds) (hkind : (binds.all fun y => scope.names.lookup y.1 == some .local || scope.names.lookup y.1 == some .cell) = true)
    (hnd : ((cellsFrom 0 scope.names []).map (·.1)).Nodup)
    (h : ∀ g L' h₁ tk cells, Fr h₀ L g m → Fr g L' h₁ (bindL (envOfC qual scope L' f cdv).kindOf binds fun _ => none) → News g L' h₁ (cells ++ rel) →
      CellsAre (bindC (envOfC qual scope L' f cdv).kindOf binds fun _ => none) (cellsFrom (L' + 1) scope.names []) cells → Below A base (env :: outer) g → K.In g → Top p loose mean mg mb g → (∀ p ∈ rel, p.1 < L') → Kept (rel.map (·.1)) s.heap g →
      wpI (model prog w) (A.deeper (envOfC qual scope L' f cdv)) (execs body (envOfC qual scope L' f cdv))
        (fun fl s' => LeaveK h₀ L m g (fun r s' => Off (rel.map (·.1)) s.heap s'.heap → R r s') (match fl with | .ret v => v | _ => .none) s')
        (fun e s' => wpAny (model prog w) (A.deeper (envOfC qual scope L' f cdv)) (leaving (envOfC qual scope L' f cdv) e) (fun _ s'' => R (.error e) s'') (fun e' s'' => R (.error e') s'') s')
        { s with heap := h₁, toks := tk })
    (hco : scope.isCoroutine = false) (hgen : scope.isGenerator = false) (hk : scope.kind = .function) : BY (model prog w) A (.call (.ref f) args) R s := by
  obtain ⟨FG, BG, st, lv⟩ := groundX (R := fun r s' => Off (rel.map (·.1)) s.heap s'.heap → R r s') B F N hA hf hke
  refine DK (fd := fnOf name qual params body scope dV kV doc pm an cdv ct) (body := body) hroom ((X₀.keeps F.keep) _ _ ho) rfl hco hgen rfl (codeRec_of (X₀.keeps F.keep) hcd) (hbind _ _ _ _ ?_)
  refine wpAny_newFunctionEnv_cells hk (kindsX hkind _) fun env' he s' x => ?_
  subst he
  refine ⟨(T.nolimit.keeps F.keep).keeps x.toInCall.keep, IQ ?_⟩
  obtain ⟨h₁, tk, rfl, _⟩ := x.done
  have hk₁ := x.toInCall.keep
  obtain ⟨cells, NC, Y⟩ := Cl.news (h₀ := s.heap) (Nat.le_refl _) fun n c hm => ⟨x.cell n c (lookup_of_mem_nodup (cellsFrom_names scope.names 0 (s.heap.objs.size + 1) [] [] rfl ▸ hnd) hm), x.above n c hm⟩
  refine Dr (h _ s.heap.objs.size h₁ tk cells FG ⟨x.toInCall.ns, fun b o e => hk₁ b o (of_hideAll _ e), Nat.le_of_eq (hideAll_size _ _)⟩ (fun p hp => ?_) Y BG (X₀.keeps st) (T.keeps st) (fun p hp => Heap.lt_size (N p hp).1) ⟨fun b o e n => hideAll_get _ e n⟩) (fun fl s' hl => ?_) fun _ _ y => y
  · rcases List.mem_append.mp hp with hp | hp
    · refine ⟨(NC p hp).1, (NC p hp).2.1, ?_⟩
      cases q : (hideAll s.heap (rel.map (·.1))).get? p.1 with
      | none => rfl
      | some o => have := of_hideAll _ q; rw [(NC p hp).2.2] at this; cases this
    · exact ⟨hk₁ _ _ (N p hp).1, Nat.ne_of_lt (Heap.lt_size (N p hp).1), hideAll_none _ (List.mem_map_of_mem hp)⟩
  · have off : Off (rel.map (·.1)) s.heap s'.heap := fun b o e n => by
      obtain ⟨L', m', news', F', _⟩ := hl
      exact F'.keep b o (hideAll_get _ e n)
    exact lv _ _ hl off
end
end
section
theorem Ee {h₀ h h' : Heap} {L : Addr} {rel : List (Addr × Obj)} {g : Heap} {L' : Addr} (NR : News h₀ L h rel) (N' : News g L' h' rel) (off : Off (rel.map (·.1)) h h') : ∀ b o, h.get? b = some o → h'.get? b = some o := fun b o e => by
  by_cases c : b ∈ rel.map (·.1)
  · obtain ⟨r, hr, e2⟩ := List.mem_map.mp c
    have e1 := (NR r hr).1
    subst e2
    rw [e1] at e; cases e
    exact (N' r hr).1
  · exact off b o e c
noncomputable def Up (h h' : Heap) : Prop := ∀ b o, h.get? b = some o → h'.get? b = some o
noncomputable def RI (p : Int → Bool) : Value → Bool
  | .int x _ => p x
  | _ => false
noncomputable def SR (G : Int → Value → Prop) (v y : Value) : Prop := ∃ k t, v = .int k t ∧ G k y
theorem Kq {p : Int → Bool} {G : Int → Value → Prop} {prog : Program} {w : World} : ∀ {vs : List Value} {kvs : List (Int × Value)} {ys : List Value}, vs.length = kvs.length → (∀ (j : Nat) v, vs[j]? = some v → ∃ k x, kvs[j]? = some (k, x) ∧ (PySem.intKind prog w).is k v = true) →
    Paired (SR G) (vs.filter (RI p)) ys → Paired G ((kvs.map (·.1)).filter p) ys
  | [], [], _ => fun _ _ hp => by cases hp; exact .nil
  | [], _ :: _, _ => fun hl => nomatch hl
  | _ :: _, [], _ => fun hl => nomatch hl
  | v :: vs, (k, x) :: kvs, ys => fun hl hk hp => by
    obtain ⟨k', x', h1, h2⟩ := hk 0 v rfl
    simp only [List.getElem?_cons_zero, Option.some.injEq, Prod.mk.injEq] at h1
    obtain ⟨rfl, rfl⟩ := h1
    obtain ⟨t, rfl⟩ := Value.isInt_shape h2
    have ih : ∀ {ys}, Paired (SR G) (vs.filter (RI p)) ys → Paired G ((kvs.map (·.1)).filter p) ys := fun q => Kq (prog := prog) (w := w) (Nat.succ.inj hl) (fun j u e => hk (j + 1) u e) q
    rw [List.filter_cons] at hp
    simp only [List.map_cons, List.filter_cons]
    show Paired G (if p k = true then _ else _) ys
    have e : RI p (.int k t) = p k := rfl
    rw [e] at hp
    cases hpk : p k with
    | true =>
      rw [hpk] at hp
      simp only [if_true] at hp ⊢
      cases hp with
      | cons a b =>
        obtain ⟨k2, t2, e2, g⟩ := a
        cases e2
        exact .cons g (ih b)
    | false =>
      rw [hpk] at hp
      simp only [Bool.false_eq_true, if_false] at hp ⊢
      exact ih hp
section
variable {prog : Program} {w : World} {A : Around} {E : Value → Shared → Prop} {s : Shared} {env : Env} {h₀ : Heap} {L : Addr} {m : Str → Option Value} {led : List (Addr × Obj)}
end
noncomputable def IP : Program → World → Around → (Value → Shared → Prop) → Shared → Env → Heap → Addr → (List (Addr × Obj)) → Expr → Expr → Str → Pos → (List Expr) → Scope → (List (Str × Addr)) → Pos → (Value → Shared → Prop) → Addr → Obj → (List (Int × Value)) → (Int → Bool) → (Int → Value → Prop) → Prop := fun prog w A E s env h₀ L led elt iter x px ifs scope cl pos Q d oS kvs p G =>
  (A.handled = none) → (News h₀ L s.heap led) → ((d, oS) ∈ led) → (oS.IsDictOf (PySem.intKind prog w) kvs) → ((d == sysModules) = false) → (kvs.length ≤ sizeLine) → (closureFor scope env = pure cl) → (∀ y ∈ scope.names, y.2 ≠ .cell) → (scope.kind = .function) → (∀ y ∈ scope.names, y.2 = .local → scope.names.lookup y.1 = some .local) → (scope.names.lookup x = some .local) → (wpAny (model prog w) A (eval iter env) (fun v s₁ => v = .ref d ∧ Keeps s s₁) E s) → (∀ C key t s₃ m₃ (E' : Value → Shared → Prop), key ∈ kvs.map (·.1) → s₃.heap.Ns C m₃ → m₃ x = some (.int key t) → Up s.heap s₃.heap →
      wpAny (model prog w) A (forIn ifs true fun c r => if r = true then do let ok ← isTrue c (compEnvC scope cl C env) (eval c (compEnvC scope cl C env)); pure (ForInStep.yield ok) else pure (ForInStep.yield r))
        (fun ok s₄ => ok = p key ∧ Keeps s₃ s₄) E' s₃) → (∀ C key t s₃ m₃ (E' : Value → Shared → Prop), key ∈ kvs.map (·.1) → p key = true → s₃.heap.Ns C m₃ → m₃ x = some (.int key t) → Up s.heap s₃.heap →
      wpAny (model prog w) A (eval elt (compEnvC scope cl C env)) (fun y s₄ => G key y ∧ Keeps s₃ s₄) E' s₃) → (∀ D h' tk ys, s.heap.get? D = none → h'.PlainList D ys → Paired G ((kvs.map (·.1)).filter p) ys.toList → Up s.heap h' → Q (.ref D) { s with heap := h', toks := tk }) → (∀ x, foldedSetIterable iter env x = pure x) →
  wpAny (model prog w) A (eval (.ListComp elt [⟨.Name x px, iter, ifs, 0⟩] scope pos) env) Q E s
@[irreducible] def Bu := eps 6458400 (by walk_at "nonempty") (OL IP)
theorem Og : OL IP Bu := by
  intro hh N hm hD hsys hlen hclos hcell hkind hnames hx hi htest helt hQ hs
  refine wpAny_ListComp_free (RI Bu.2.2.2.1) (SR Bu.2.2.2.2) hclos hcell hkind hnames hx (wpAny_mono hi (fun v s₁ h₁ => ?_) fun _ _ e => e) hs
  obtain ⟨rfl, h₁, tk₁, rfl, k₁⟩ := h₁
  obtain ⟨es, ep, hex, hdat, hk, hp, hn⟩ := hD
  have hat : Heap.DictAt (PySem.intKind Bu.1.1.1.1.1 Bu.1.1.1.1.2) h₁ Bu.2.2.1.1.1 Bu.2.2.1.2 ep := ⟨Bu.2.2.1.1.2, es, k₁ _ _ (N _ hm).1, hex, hdat, hk, hp, hn⟩
  refine wpAny_pyIter_dict hsys hat ?_
  have hat2 := hat.push { cls := .type "dict_keyiterator", data := .fields #[.ref Bu.2.2.1.1.1, .int 0 0, .int Bu.2.2.1.2.length 0, .int ep 0] }
  have up2 : Up Bu.1.1.2.1.2.heap (h₁.push { cls := .type "dict_keyiterator", data := .fields #[.ref Bu.2.2.1.1.1, .int 0 0, .int Bu.2.2.1.2.length 0, .int ep 0] }) := fun b o e => Heap.get?_push_of_some _ (k₁ b o e)
  refine ⟨h₁.objs.size, [h₁.objs.size, Bu.2.2.1.1.1], [h₁.objs.size], Bu.2.2.1.2.length, _, _, rfl, Walks.dictKeys hh _ Bu.2.2.1.1.1 (Nat.ne_of_lt hat.lt_size) Bu.2.2.1.2 ep, hlen, ⟨⟨_, Heap.get?_push_size _ rfl, rfl, rfl⟩, hat2⟩, ?_, ?_, ?_⟩
  · intro b hb
    simp only [List.mem_cons, List.not_mem_nil, or_false] at hb
    show b < (h₁.push _).objs.size
    rw [Heap.size_push]
    rcases hb with rfl | rfl
    · exact Nat.lt_succ_self _
    · exact Nat.lt_succ_of_lt hat.lt_size
  · have low : ∀ b o, Bu.1.1.2.1.2.heap.get? b = some o → b ∉ [h₁.objs.size] := fun b o e hb => absurd (Heap.lt_size (k₁ b o e)) (by rw [List.mem_singleton.mp hb]; exact Nat.lt_irrefl _)
    constructor
    · intro C i v s₃ m₃ E' _ hv hn3 hm3 hkeep _
      obtain ⟨k, y, hxk, hik⟩ := hv
      obtain ⟨t, rfl⟩ := Value.isInt_shape hik
      exact htest C k t s₃ m₃ E' (List.mem_map.mpr ⟨_, List.mem_of_getElem? hxk, rfl⟩) hn3 hm3 fun b o e => hkeep b o (low b o e) (up2 b o e)
    · intro C i v s₃ m₃ E' _ hv hpv hn3 hm3 hkeep _
      obtain ⟨k, y, hxk, hik⟩ := hv
      obtain ⟨t, rfl⟩ := Value.isInt_shape hik
      exact wpAny_mono (helt C k t s₃ m₃ E' (List.mem_map.mpr ⟨_, List.mem_of_getElem? hxk, rfl⟩) hpv hn3 hm3 fun b o e => hkeep b o (low b o e) (up2 b o e)) (fun y s₄ q => ⟨⟨k, t, rfl, q.1⟩, q.2⟩) fun _ _ e => e
  · intro D h' tk ys vs hD hl hpl hlen' hP hF hkeep
    refine hQ D h' tk ys ?_ hpl (Kq (prog := Bu.1.1.1.1.1) (w := Bu.1.1.1.1.2) hlen' hP hF) fun b o e => hkeep b o (fun hb => absurd (Heap.lt_size (k₁ b o e)) (by rw [List.mem_singleton.mp hb]; exact Nat.lt_irrefl _)) (up2 b o e)
    cases q : Bu.1.1.2.1.2.heap.get? D with
    | none => rfl
    | some o => have := up2 _ _ q; rw [hD] at this; cases this
section
variable {prog : Program} {w : World} {A : Around} {E : Value → Shared → Prop} {s : Shared} {env : Env} {h₀ : Heap} {L : Addr} {m : Str → Option Value} {led : List (Addr × Obj)}
theorem Lk {elt iter : Expr} {x : Str} {px : Pos} {ifs : List Expr} {scope : Scope} {cl : List (Str × Addr)} {pos : Pos} {Q : Value → Shared → Prop} {d : Addr} {oS : Obj} {kvs : List (Int × Value)}
    (p : Int → Bool) (G : Int → Value → Prop) (hh : A.handled = none) (N : News h₀ L s.heap led) (hm : (d, oS) ∈ led) (hD : oS.IsDictOf (PySem.intKind prog w) kvs) (hsys : (d == sysModules) = false) (hlen : kvs.length ≤ sizeLine)
    (hclos : closureFor scope env = pure cl) (hcell : ∀ y ∈ scope.names, y.2 ≠ .cell) (hkind : scope.kind = .function)
    (hnames : ∀ y ∈ scope.names, y.2 = .local → scope.names.lookup y.1 = some .local) (hx : scope.names.lookup x = some .local)
    (hi : wpAny (model prog w) A (eval iter env) (fun v s₁ => v = .ref d ∧ Keeps s s₁) E s)
    (htest : ∀ C key t s₃ m₃ (E' : Value → Shared → Prop), key ∈ kvs.map (·.1) → s₃.heap.Ns C m₃ → m₃ x = some (.int key t) → Up s.heap s₃.heap →
      wpAny (model prog w) A (forIn ifs true fun c r => if r = true then do let ok ← isTrue c (compEnvC scope cl C env) (eval c (compEnvC scope cl C env)); pure (ForInStep.yield ok) else pure (ForInStep.yield r))
        (fun ok s₄ => ok = p key ∧ Keeps s₃ s₄) E' s₃)
    (helt : ∀ C key t s₃ m₃ (E' : Value → Shared → Prop), key ∈ kvs.map (·.1) → p key = true → s₃.heap.Ns C m₃ → m₃ x = some (.int key t) → Up s.heap s₃.heap →
      wpAny (model prog w) A (eval elt (compEnvC scope cl C env)) (fun y s₄ => G key y ∧ Keeps s₃ s₄) E' s₃)
    (hQ : ∀ D h' tk ys, s.heap.get? D = none → h'.PlainList D ys → Paired G ((kvs.map (·.1)).filter p) ys.toList → Up s.heap h' → Q (.ref D) { s with heap := h', toks := tk })
    (hs : autoParam (∀ x, foldedSetIterable iter env x = pure x) aRf) :
    wpAny (model prog w) A (eval (.ListComp elt [⟨.Name x px, iter, ifs, 0⟩] scope pos) env) Q E s := by
  exact (BH (P := OL IP) Bu Og (((((prog, w), A), (E, s), env), ((h₀, L), led), (elt, iter), x), (((px, ifs), scope), (cl, pos), Q), ((d, oS), kvs), p, G)) hh N hm hD hsys hlen hclos hcell hkind hnames hx hi htest helt hQ hs
end
end
section
theorem Je {prog : Program} {w : World} : ∀ {vs : List Value} {kvs : List (Int × Value)}, vs.length = kvs.length → (∀ (j : Nat) v, vs[j]? = some v → ∃ k x, kvs[j]? = some (k, x) ∧ (PySem.intKind prog w).is k v = true) → IntsAre vs (kvs.map (·.1))
  | [], [] => fun _ _ => .nil
  | [], _ :: _ => fun hl => nomatch hl
  | _ :: _, [] => fun hl => nomatch hl
  | v :: vs, (k, x) :: kvs => fun hl hk => by
    obtain ⟨k', x', h1, h2⟩ := hk 0 v rfl
    simp only [List.getElem?_cons_zero, Option.some.injEq, Prod.mk.injEq] at h1
    obtain ⟨rfl, rfl⟩ := h1
    obtain ⟨t, rfl⟩ := Value.isInt_shape h2
    exact .cons _ _ (Je (prog := prog) (w := w) (Nat.succ.inj hl) fun j u e => hk (j + 1) u e)
section
variable {prog : Program} {w : World} {A : Around} {E : Value → Shared → Prop} {s : Shared} {h₀ : Heap} {L : Addr} {m : Str → Option Value} {led : List (Addr × Obj)}
theorem Ny {Q : Value → Shared → Prop} {d : Addr} {oS : Obj} {kvs : List (Int × Value)} (hh : A.handled = none) (F : Fr h₀ L s.heap m) (N : News h₀ L s.heap led) (hm : (d, oS) ∈ led) (hD : oS.IsDictOf (PySem.intKind prog w) kvs) (hsys : (d == sysModules) = false) (h64 : kvs.length < 64)
    (h : ∀ D vs' ns' c h' tk, Fr h₀ L h' m → News h₀ L h' ((D, PySem.W.listOf vs'.toArray c) :: led) → (∀ q ∈ led, q.1 < D) → IntsAre vs' ns' → ns'.Perm (kvs.map (·.1)) → Q (.ref D) { s with heap := h', toks := tk }) :
    wpAny (model prog w) A (call (.builtin "sorted") [.ref d]) Q E s := by
  obtain ⟨es, ep, hex, hdat, hk, hp, hn⟩ := hD
  have hat : Heap.DictAt (PySem.intKind prog w) s.heap d kvs ep := ⟨oS, es, (N _ hm).1, hex, hdat, hk, hp, hn⟩
  refine kdu_sorted (kdl_dict (knd := PySem.intKind prog w) (kvs := kvs) (ep := ep) hsys) hh F N hat (by rw [sizeLine_eq]; lia) fun D h' tk vs F' N' l1 hl hv => ?_
  have hi := Je (prog := prog) (w := w) hl hv
  have z := N' (D, PySem.W.listOf vs.toArray 0) (.head _)
  have hne : ∀ q ∈ led, q.1 ≠ D := fun q hq => Nat.ne_of_lt (l1 q hq)
  refine wpAny_call_entry PyProof.Rows.slot_list_sort ⟨_, z.1, rfl⟩ PyProof.Rows.entry_list_sort (list_sort_tree (n := 0) (vs := vs) z.1 hi (by lia) fun out ns' hI hp' hP => ⟨.none, rfl, ?_⟩) (PyProof.Rows.args_list_sort _)
  obtain ⟨e, he⟩ := sortedHeap_at (out := out) (n := 0) (vs := vs) z.1
  have old : ∀ b o, b ≠ D → h'.get? b = some o → (sortedHeap h' D vs out).get? b = some o := fun b o hb hq => (sortedHeap_old hb (Heap.lt_size hq)).trans hq
  obtain ⟨oL, e1, e2, hL, e3⟩ := F'.ns
  have hLD : L ≠ D := fun x => z.2.1 x.symm
  refine h D out.toList ns' e _ tk ⟨⟨oL, e1, e2, old _ _ hLD hL, e3⟩, fun b o q => old b o (fun x => by subst x; rw [z.2.2] at q; cases q) (F'.keep b o q), F'.above⟩ (fun q hq => ?_) l1 hI hp'
  rcases List.mem_cons.mp hq with rfl | hq
  · exact ⟨he, z.2⟩
  · exact ⟨old _ _ (hne q hq) (N' q (.tail _ hq)).1, (N' q (.tail _ hq)).2⟩
end
end
section
set_option rowWalk.seconds 0
theorem TK : True := by
  k_with "compareOp NotIn int ref" => (k_here; (with_reducible show wpAny _ _ (compareOp CmpOp.NotIn (Value.int _ _) (Value.ref _)) _ _ _); (refine Qv (by k_asm) (by k_mem) (by k_asm) (by assumption) (by assumption) ?_))
  trivial
section
variable {w : World} {p : Program} {loose : List Str} {mean : ExcName → Option Value} {mg mb : Str → Option Value} {dp un : Nat} {gd : Option (List Code)} {cn : Str} {cs : Scope} {a : Addr} {ccd : Value} {cl : List (Str × Addr)} {outer : List Env} {A₀ : Around} {base h₀ : Heap} {L : Addr} {m : Str → Option Value} {s : Shared} {Q E : Value → Shared → Prop} {led led' : List (Addr × Obj)}
variable (B : Below A₀ base outer h₀) (F : Fr h₀ L s.heap m) (X : (KK w.params).In h₀) (T : Top p loose mean mg mb h₀) (hk : cs.kind = .function) (N : News h₀ L s.heap led)
include B F X T hk N
theorem Mb {k : PS} {sp d lo : Addr} {n : Nat} {lim snt mn : Int} {t1 t2 t3 t4 t6 : Tok} {st : Str} {wr : Array UInt8}
    (m1 : (sp, instObj 498 d) ∈ led) (m2 : (d, Ca k lim t1 st t2 wr t3 snt t4 lo) ∈ led) (m3 : (lo, listOf #[] n) ∈ led) (hst : PZ st) (hw : wr.size ≤ 6)
    (hd : dp + 2 < recursionLimit) (hu : un + 20 < cLine)
    (hret : ∀ (h' : Heap) (tk' : Nat), Up s.heap h' → Q (.bool (decide (0 < DE wr.size lim snt mn))) { s with heap := h', toks := tk' }) :
    wpAny (model pw w) (ktrTop dp un gd cn cs L a ccd cl outer) (PySem.call (.ref 446) [.ref sp, .int mn t6]) Q E s := by
  have NR : News h₀ L s.heap [(sp, instObj 498 d), (d, Ca k lim t1 st t2 wr t3 snt t4 lo), (lo, listOf #[] n)] := (by repeat (first | exact News.nil | refine Bh N (by first | assumption | exact m1) ?_))
  have N0 : Hid (News h₀ L s.heap led) := N
  clear N
  walk_at "kt open"
  k_steps
  · rw [decide_eq_true (by omega)] at hret
    exact hret _ _ (Ee NR (by assumption) (by assumption))
  · rw [decide_eq_false (by omega)] at hret
    exact hret _ _ (Ee NR (by assumption) (by assumption))
theorem Of {k : SD} {sp ds p : Addr} {oS : Obj} {kvs : List (Int × Value)} {sid turn : Int} {t0 t1 : Tok}
    (m1 : (sp, instObj 790 ds) ∈ led) (m2 : (ds, BF k turn t0) ∈ led) (m3 : (k.se, oS) ∈ led) (hS : oS.IsDictOf (PySem.intKind pw w) kvs) (hv : valueAt kvs sid = some (.ref p)) (hsys : (k.se == sysModules) = false)
    (hd : dp + 2 < recursionLimit) (hu : un + 20 < cLine)
    (hret : ∀ (h' : Heap) (tk' : Nat), Up s.heap h' → Q (.ref p) { s with heap := h', toks := tk' }) :
    wpAny (model pw w) (ktrTop dp un gd cn cs L a ccd cl outer) (PySem.call (.ref 656) [.ref sp, .int sid t1]) Q E s := by
  have NR : News h₀ L s.heap [(sp, instObj 790 ds), (ds, BF k turn t0), (k.se, oS)] := (by repeat (first | exact News.nil | refine Bh N (by first | assumption | exact m1) ?_))
  have N0 : Hid (News h₀ L s.heap led) := N
  clear N
  walk_at "kt open"
  k_steps
  exact hret _ _ (Ee NR (by assumption) (by assumption))
set_option genInjectivity false in
set_option genSizeOfSpec false in
structure Part where
  k : PS
  p : Addr
  d : Addr
  lo : Addr
  n : Nat
  lim : Int
  t1 : Tok
  st : Str
  t2 : Tok
  wr : Array UInt8
  t3 : Tok
  snt : Int
  t4 : Tok
noncomputable abbrev Part.objs (x : Part) : List (Addr × Obj) := [(x.p, instObj 498 x.d), (x.d, Ca x.k x.lim x.t1 x.st x.t2 x.wr x.t3 x.snt x.t4 x.lo), (x.lo, listOf #[] x.n)]
noncomputable def Part.ok (x : Part) : Prop := PZ x.st ∧ x.wr.size ≤ 6
end
end
section
theorem HA {l : List (Addr × Obj)} {L d : Nat} (h : AllLt L l) (hl : L ≤ d) : ∀ q ∈ l, q.1 ≠ d := fun q hq e => by
  have key : ∀ {l : List (Addr × Obj)}, AllLt L l → ∀ q ∈ l, q.1 < L := fun {l} => by
    induction l with
    | nil => intro _ q hq; cases hq
    | cons p r ih =>
      intro h q hq
      rcases List.mem_cons.mp hq with rfl | hq
      · exact h.1
      · exact ih h.2 q hq
  have := key h q hq
  rw [e] at this
  exact Nat.lt_irrefl _ (Nat.lt_of_lt_of_le this hl)
theorem Pk {h₀ h : Heap} {L : Addr} {a b c d e f g : Addr × Obj} {A B : List (Addr × Obj)} (N : News h₀ L h (a :: b :: c :: d :: e :: f :: g :: A)) (k : ∀ q ∈ B, q ∈ A) : News h₀ L h (a :: b :: c :: d :: e :: f :: g :: B) := fun q hq => N q (by
  simp only [List.mem_cons] at hq ⊢
  rcases hq with h | h | h | h | h | h | h | h
  · exact .inl h
  · exact .inr (.inl h)
  · exact .inr (.inr (.inl h))
  · exact .inr (.inr (.inr (.inl h)))
  · exact .inr (.inr (.inr (.inr (.inl h))))
  · exact .inr (.inr (.inr (.inr (.inr (.inl h)))))
  · exact .inr (.inr (.inr (.inr (.inr (.inr (.inl h))))))
  · exact .inr (.inr (.inr (.inr (.inr (.inr (.inr (k q h))))))))
theorem CF {s : Shared} {h' : Heap} {tk : Nat} (up : Up s.heap h') : Keeps s { s with heap := h', toks := tk } := ⟨h', tk, rfl, up⟩
theorem Fc (h : Heap) : Up h h := fun _ _ e => e
noncomputable def Cg (P : Prop) : Prop := P
theorem Es {P : Prop} (h : Cg P) : P := h
noncomputable def Bv (ps : List (Int × Part)) : List (Addr × Obj) := ps.flatMap fun x => x.2.objs
noncomputable def Cj (ps : List (Int × Part)) : List (Int × Value) := ps.map fun x => (x.1, .ref x.2.p)
noncomputable def Part.room (x : Part) (r : Int) : Int := DE x.wr.size x.lim x.snt r
theorem Bs {ps : List (Int × Part)} {x : Int × Part} {q : Addr × Obj} (h : x ∈ ps) (hq : q ∈ x.2.objs) : q ∈ Bv ps := List.mem_flatMap.mpr ⟨x, h, hq⟩
theorem CX (ps : List (Int × Part)) : (Cj ps).map (·.1) = ps.map (·.1) := by simp [Cj]
theorem Di {α : Type} : ∀ {ps : List (Int × α)} {x y : Int × α}, (ps.map (·.1)).Nodup → x ∈ ps → y ∈ ps → x.1 = y.1 → x = y
  | z :: r, x, y, hn, hx, hy, e => by
    rw [List.map_cons, List.nodup_cons] at hn
    rcases List.mem_cons.mp hx with h1 | hx' <;> rcases List.mem_cons.mp hy with h2 | hy'
    · rw [h1, h2]
    · exact (hn.1 (List.mem_map.mpr ⟨y, hy', e.symm.trans (by rw [h1])⟩)).elim
    · exact (hn.1 (List.mem_map.mpr ⟨x, hx', e.trans (by rw [h2])⟩)).elim
    · exact Di hn.2 hx' hy' e
theorem Hq : ∀ (ps : List (Int × Part)) (k : Int) (y : Part), (ps.map (·.1)).Nodup → (k, y) ∈ ps → valueAt (Cj ps) k = some (.ref y.p)
  | [], k, y, _, hm => by cases hm
  | x :: r, k, y, hn, hm => by
    have e : Cj (x :: r) = (x.1, .ref x.2.p) :: Cj r := rfl
    unfold valueAt
    rw [e, List.find?_cons]
    by_cases h : x.1 = k
    · have e2 := Di hn (.head _) hm h
      subst e2
      simp only [decide_true]
      rfl
    · have hm' : (k, y) ∈ r := by
        rcases List.mem_cons.mp hm with e2 | hm'
        · subst e2; exact absurd rfl h
        · exact hm'
      have ih := Hq r k y (List.nodup_cons.mp (by rw [List.map_cons] at hn; exact hn)).2 hm'
      simp only [h, decide_false]
      exact ih
noncomputable def pOf (ps : List (Int × Part)) (r : Int) (k : Int) : Bool := ps.any fun x => decide (x.1 = k ∧ 0 < x.2.room r)
theorem Pg {ps : List (Int × Part)} {r k : Int} {y : Part} (hn : (ps.map (·.1)).Nodup) (hm : (k, y) ∈ ps) : pOf ps r k = decide (0 < y.room r) := by
  unfold pOf
  rw [Bool.eq_iff_iff, List.any_eq_true, decide_eq_true_iff]
  constructor
  · rintro ⟨x, hx, he⟩
    obtain ⟨e1, e2⟩ := of_decide_eq_true he
    have := Di hn hx hm e1
    subst this; exact e2
  · intro h; exact ⟨_, hm, decide_eq_true ⟨rfl, h⟩⟩
theorem QT {ps : List (Int × Part)} {r : Int} (hn : (ps.map (·.1)).Nodup) : decide (0 < ((ps.map (·.1)).filter (pOf ps r)).length) = ps.any fun x => decide (0 < x.2.room r) := by
  rw [Bool.eq_iff_iff, List.any_eq_true, decide_eq_true_iff, List.length_pos_iff_exists_mem]
  constructor
  · rintro ⟨k, hk'⟩
    obtain ⟨h1, h2⟩ := List.mem_filter.mp hk'
    obtain ⟨x, hx, rfl⟩ := List.mem_map.mp h1
    exact ⟨x, hx, by rw [← Pg hn hx]; exact h2⟩
  · rintro ⟨x, hx, hr⟩
    exact ⟨x.1, List.mem_filter.mpr ⟨List.mem_map.mpr ⟨x, hx, rfl⟩, by rw [Pg hn hx]; exact hr⟩⟩
end
section
open Mine renaming Es → hlt1, Es → hlt2
set_option rowWalk.seconds 0
theorem TP : True := by
  k_with "C open" => (refine wpAny_call ?_; k_dflt (refine' Ph ?k1 ?k2 ?k3 ?k4 ?k5 ?kA ?kF ?kK ?k6 ?k7 ?k8 ?k9 ?kB ?kD ?_ ?c2 ?c3 ?c4; (case kA => exact rfl); (case kF => exact rfl); (case kK => assumption); (case k1 => k_asm); (case k2 => k_asm); (case k3 => k_asm); (case k4 => k_asm); (case k5 => k_asm); (case k6 => k_is); (case k7 => k_is); (case k8 => first | walk_at "rm" | ktr_room); (case k9 => exact BindsTo.of_eq rfl); (case kB => exact rfl); (case kD => decide +kernel); (case c2 => exact rfl); (case c3 => exact rfl); (case c4 => exact rfl); k_whole; intro _ _ _ _ _ _ _ N' Y' _ _ _ l1 hgb'; (try k_lt l1); (try (revert hgb' l1; intro _ _)); k_cells Y'; (try simp only [List.cons_append, List.nil_append] at N'); (try dsimp only); (try k_fold)))
  trivial
theorem TQ : True := by
  k_with "call ref" => (k_here; (with_reducible show wpAny _ _ (PySem.call (Value.ref 446) _) _ _ _); (refine hlt1 ?_))
  k_with "all" => ((refine HA (by assumption) (by ((try dsimp only); omega))))
  k_with "eval ListComp" => (k_here; refine hlt2 ?_)
  trivial
noncomputable def Fb : T24 (SD → CS → Addr → Addr → Addr → Obj → Int → Int → Int → Tok → Tok → Tok → (List (Int × Part)) → Prop) := fun w pgm loose mean mg mb dp un gd cn cs a ccd cl outer A₀ base h₀ L m s Q E led k kc sp ds dc oS turn dl used t0 t5 t6 ps =>
  (Below A₀ base outer h₀) → (Fr h₀ L s.heap m) → ((KK w.params).In h₀) → (Top pgm loose mean mg mb h₀) → (cs.kind = .function) → (News h₀ L s.heap led) → ((sp, instObj 790 ds) ∈ led) → ((ds, BF k turn t0) ∈ led) → ((k.se, oS) ∈ led) → (oS.IsDictOf (PySem.intKind pw w) (Cj ps)) → ((k.se == sysModules) = false) → ((k.cr, instObj 115 dc) ∈ led) → ((dc, AI kc dl t5 used t6) ∈ led) → (∀ q ∈ Bv ps, q ∈ led) → (∀ x ∈ ps, x.2.ok) → ((ps.map (·.1)).Nodup) → (ps.length ≤ 8) → (dp + 4 < recursionLimit) → (un + 40 < cLine) → (∀ (h' : Heap) (tk' : Nat), Up s.heap h' → Q (.bool (ps.any fun x => decide (0 < x.2.room (dl - used)))) { s with heap := h', toks := tk' }) →
  wpAny (model pw w) (ktrTop dp un gd cn cs L a ccd cl outer) (PySem.call (.ref 759) [.ref sp]) Q E s
@[irreducible] def Ap := eps 5360400 (by walk_at "nonempty") (ccx CT Fb)
namespace GP
def ps := Ap.2.2.2.2
theorem Rj : vcx Fb Ap.1 Ap.2.1.1.1.1 Ap.2.1.1.1.2 Ap.2.1.1.2.1 Ap.2.1.1.2.2 Ap.2.1.2.1.1 Ap.2.1.2.1.2 Ap.2.1.2.2 Ap.2.2.1.1.1 Ap.2.2.1.1.2 Ap.2.2.1.2 Ap.2.2.2.1.1 Ap.2.2.2.1.2 ps := by
  intro B F X T hk N m1 m2 m3 hS hsys m7 m8 mp hok hnd hlen hd hu hret
  have NR : News Ap.1.h₀ Ap.1.L Ap.1.s.heap ((Ap.2.1.1.2.1, instObj 790 Ap.2.1.1.2.2) :: (Ap.2.1.1.2.2, BF Ap.2.1.1.1.1 Ap.2.1.2.2 Ap.2.2.1.2) :: (Ap.2.1.1.1.1.se, Ap.2.1.2.1.2) :: (Ap.2.1.1.1.1.cr, instObj 115 Ap.2.1.2.1.1) :: (Ap.2.1.2.1.1, AI Ap.2.1.1.1.2 Ap.2.2.1.1.1 Ap.2.2.2.1.1 Ap.2.2.1.1.2 Ap.2.2.2.1.2) :: Bv ps) := (by repeat (first | refine Bh N (by assumption) ?_ | exact news_sub N (fun q hq => mp q hq)))
  have N0 : Hid (News Ap.1.h₀ Ap.1.L Ap.1.s.heap Ap.1.led) := N
  clear N mp
  walk_at "C open"
  rename _ ∧ _ ∧ _ ∧ _ ∧ _ ∧ AllLt _ _ => hl
  obtain ⟨l1, l2, l3, l4, l5, hAll⟩ := hl
  k_steps
  refine Lk (pOf ps (Ap.2.2.1.1.1 - Ap.2.2.1.1.2)) (fun _ _ => True) (oS := Ap.2.1.2.1.2) (kvs := Cj ps) (d := Ap.2.1.1.1.1.se) rfl (by k_asm) (by k_mem) hS hsys (by rw [sizeLine_eq]; simp only [Cj, List.length_map]; omega) (by with_unfolding_all rfl) (by decide) (by with_unfolding_all rfl) (by decide) (by with_unfolding_all rfl) ?hi ?ht ?he ?hq
  case hi =>
    k_steps
    exact CF (Fc _)
  case ht =>
    intro C key t s₃ m₃ E' hkey hn hm up
    rw [CX] at hkey
    obtain ⟨⟨key', x⟩, hx, rfl⟩ := List.mem_map.mp hkey
    have F3 := Cw (by k_asm) up
    have N3 := Pk (Cf (by k_asm) up) (fun q hq => Bs hx hq)
    have hv := Hq ps key' x hnd hx
    dsimp only [Part.objs] at N3
    refine wpAny_tests_one ?_
    k_steps
    refine Mb (by k_asm) (by k_asm) (by k_asm) (by k_asm) rfl (by k_asm) (by k_mem) (by k_mem) (by k_mem) (hok _ hx).1 (hok _ hx).2 (by walk_at "rm") (by walk_at "rm") ?_
    intro h4 tk4 up4
    k_steps
    · exact (Pg hnd hx).symm
    · exact CF up4
  case he =>
    intro C key t s₃ m₃ E' hkey hp hn hm up
    k_steps
    · trivial
    · exact CF (Fc _)
  case hq =>
    intro D h3 tk3 ys hD hpl hpr up
    obtain ⟨n, hD2⟩ := hpl
    have F3 := Cw (by k_asm) up
    have N3 := Dq (o := PySem.W.listOf ys n) (by k_asm) (by k_asm) up hD hD2
    have hsz : (ys.size : Nat) = ((ps.map (·.1)).filter (pOf ps (Ap.2.2.1.1.1 - Ap.2.2.1.1.2))).length := by
      rw [← Array.length_toList, ← hpr.length, CX]
    have hsz8 : ys.size ≤ 8 := by
      have := List.length_filter_le (pOf ps (Ap.2.2.1.1.1 - Ap.2.2.1.1.2)) (ps.map (·.1))
      rw [List.length_map] at this
      omega
    k_steps
    rw [show decide ((0 : Int) < ↑(((ps.map (·.1)).filter (pOf ps (Ap.2.2.1.1.1 - Ap.2.2.1.1.2))).length)) = ps.any fun x => decide (0 < x.2.room (Ap.2.2.1.1.1 - Ap.2.2.1.1.2)) by rw [← QT hnd]; exact decide_eq_decide.mpr (by omega)]
    exact hret _ _ (Ee NR (by first | assumption | exact news_sub (by k_asm) (fun q hq => by repeat (first | with_reducible exact hq | apply List.mem_cons_of_mem))) (by assumption))
end GP
def GP {w p loose mean mg mb dp un gd cn cs a ccd cl outer A₀ base h₀ L m s Q E led k kc sp ds dc oS turn dl used t0 t5 t6 ps} :=
  (Fb.eq_1 w p loose mean mg mb dp un gd cn cs a ccd cl outer A₀ base h₀ L m s Q E led k kc sp ds dc oS turn dl used t0 t5 t6 ps).mp ((BH (P := ccx CT Fb) Ap GP.Rj ((⟨w, p, loose, mean, mg, mb, dp, un, gd, cn, cs, a, ccd, cl, outer, A₀, base, h₀, L, m, s, Q, E, led⟩ : Cx), (((k, kc), sp, ds), (dc, oS), turn), ((dl, used), t0), (t5, t6), ps)))
end
section
section
variable {prog : Program} {w : World} {A : Around} {E : Value → Shared → Prop} {R : Result → Shared → Prop} {s : Shared}
theorem QB {target body env} {I : Addr} {fp wr : List Addr} {n : Nat} {P : Nat → Value → Prop} {St : Nat → Heap → Prop} (W : Walks prog w A I fp wr n P St) (J : Nat → Shared → Prop) (hJ : ∀ i s, J i s → St i s.heap)
    (hstep : ∀ i s v h' tk, i < n → J i s → P i v → St (i + 1) h' → (∀ b o, b ∉ wr → s.heap.get? b = some o → h'.get? b = some o) →
      wpAny (model prog w) A (assign target env v) (fun _ s₂ => wpI (model prog w) A (execs body env) (fun f s₃ => match f with
          | .next | .cont => J (i + 1) s₃
          | .brk => R (.ok .next) s₃
          | .ret v => R (.ok (.ret v)) s₃) (notedBy (model prog w) A env fun e s' => R (.error e) s') s₂) (notedBy (model prog w) A env fun e s' => R (.error e) s') { s with heap := h', toks := tk })
    (hdone : ∀ s h' tk, J n s → (∀ b o, b ∉ wr → s.heap.get? b = some o → h'.get? b = some o) → R (.ok .next) { s with heap := h', toks := tk })
    (h0 : J 0 s) (ht : autoParam (∀ v, letOwnedTupleGo target (.ref I) v = pure ()) aRf) : BY (model prog w) A (.forLoop target (.ref I) body [] env) R s := by
  refine LW (fun k s => ∃ i, i ≤ n ∧ k = n + 1 - i ∧ J i s) ?_ (n + 1) ⟨0, Nat.zero_le _, rfl, h0⟩ ht
  rintro k s ⟨i, hi, rfl, hj⟩
  rcases Nat.lt_or_ge i n with hlt | hge
  · refine W.item i s _ _ hlt (hJ i s hj) fun v h' tk hP hSt hk => ?_
    refine wpAny_mono (hstep i s v h' tk hlt hj hP hSt hk) (fun _ s₂ h₂ => AR h₂ fun f s₃ h₃ => ?_) fun _ _ e => e
    cases f with
    | next => exact ⟨n + 1 - (i + 1), by omega, i + 1, hlt, rfl, h₃⟩
    | cont => exact ⟨n + 1 - (i + 1), by omega, i + 1, hlt, rfl, h₃⟩
    | brk => exact h₃
    | ret v => exact h₃
  · obtain rfl : i = n := Nat.le_antisymm hi hge
    exact W.done s _ _ (hJ _ s hj) fun h' tk hk => hdone s h' tk hj hk
variable {h₀ : Heap} {L : Addr} {m : Str → Option Value}
structure Iters (h₀ : Heap) (L : Addr) (wr : List Addr) (St : Nat → Heap → Prop) (IO : Nat → List (Addr × Obj) → Prop) (KK : List (Addr × Obj) → Prop) : Prop where
  st : ∀ i h io led, IO i io → News h₀ L h (io ++ led) → KK led → St i h
  io : ∀ i h, St i h → ∃ io, IO i io ∧ ∀ q ∈ io, h.get? q.1 = some q.2
  wr : ∀ i io, IO i io → ∀ b, b ∈ wr ↔ ∃ o, (b, o) ∈ io
theorem OT {target body env} {I : Addr} {fp wr : List Addr} {n : Nat} {P : Nat → Value → Prop} {St : Nat → Heap → Prop} {IO : Nat → List (Addr × Obj) → Prop} (W : Walks prog w A I fp wr n P St) (names : List Str) {KI : List (Addr × Obj) → Prop} (V : Iters h₀ L wr St IO KI)
    (K : Nat → List (Addr × Obj) → Prop) (hKI : ∀ i led, K i led → KI led)
    (hstep : ∀ i v h tk m' io led, i < n → IO (i + 1) io → K i led → (∀ q ∈ led, q.1 ∉ wr) → P i v → Fr h₀ L h m' → (∀ z, z ∉ names → m' z = m z) → News h₀ L h (io ++ led) →
      wpAny (model prog w) A (assign target env v) (fun _ s₂ => wpI (model prog w) A (execs body env) (fun f s₃ => match f with
          | .next | .cont => ∃ h' tk' m'' led', s₃ = { s with heap := h', toks := tk' } ∧ Fr h₀ L h' m'' ∧ (∀ z, z ∉ names → m'' z = m z) ∧ News h₀ L h' (io ++ led') ∧ K (i + 1) led' ∧ ∀ q ∈ led', q.1 ∉ wr
          | .brk => R (.ok .next) s₃
          | .ret v => R (.ok (.ret v)) s₃) (notedBy (model prog w) A env fun e s' => R (.error e) s') s₂) (notedBy (model prog w) A env fun e s' => R (.error e) s') { s with heap := h, toks := tk })
    (hdone : ∀ h tk m' led, K n led → Fr h₀ L h m' → (∀ z, z ∉ names → m' z = m z) → News h₀ L h led → R (.ok .next) { s with heap := h, toks := tk })
    {io₀ led₀ : List (Addr × Obj)} (F : Fr h₀ L s.heap m) (hio : IO 0 io₀) (N : News h₀ L s.heap (io₀ ++ led₀)) (h0 : K 0 led₀) (hap : ∀ q ∈ led₀, q.1 ∉ wr) (ht : autoParam (∀ v, letOwnedTupleGo target (.ref I) v = pure ()) aRf) :
    BY (model prog w) A (.forLoop target (.ref I) body [] env) R s := by
  have keepF : ∀ {h h' : Heap} {m' : Str → Option Value} {i : Nat} {io led : List (Addr × Obj)}, IO i io → Fr h₀ L h m' → News h₀ L h (io ++ led) → (∀ b o, b ∉ wr → h.get? b = some o → h'.get? b = some o) → Fr h₀ L h' m' := fun {h h' m' i io led} hi F N hk => by
    obtain ⟨oL, e1, e2, hL, e3⟩ := F.ns
    refine ⟨⟨oL, e1, e2, hk _ _ (fun hb => ?_) hL, e3⟩, fun b o e => hk _ _ (fun hb => ?_) (F.keep b o e), F.above⟩
    · obtain ⟨o, ho⟩ := (V.wr _ _ hi _).mp hb
      exact (N (L, o) (List.mem_append.mpr (.inl ho))).2.1 rfl
    · obtain ⟨o', ho⟩ := (V.wr _ _ hi _).mp hb
      have := (N _ (List.mem_append.mpr (.inl ho))).2.2
      rw [e] at this; cases this
  refine QB W (fun i s' => ∃ h tk m' io led, s' = { s with heap := h, toks := tk } ∧ IO i io ∧ Fr h₀ L h m' ∧ (∀ z, z ∉ names → m' z = m z) ∧ News h₀ L h (io ++ led) ∧ K i led ∧ ∀ q ∈ led, q.1 ∉ wr) ?_ ?_ ?_ ⟨s.heap, s.toks, m, io₀, led₀, rfl, hio, F, fun _ _ => rfl, N, h0, hap⟩ ht
  · rintro i s' ⟨h, tk, m', io, led, rfl, h1, F, h2, N, h3, h4⟩
    exact V.st i h io led h1 N (hKI _ _ h3)
  · rintro i s' v h' tk' hi ⟨h, tk, m', io, led, rfl, h1, F, h2, N, h3, h4⟩ hP hSt hk
    obtain ⟨io', h5, h6⟩ := V.io (i + 1) h' hSt
    have F' := keepF h1 F N hk
    have N' : News h₀ L h' (io' ++ led) := fun q hq => by
      rcases List.mem_append.mp hq with hq | hq
      · refine ⟨h6 q hq, ?_⟩
        obtain ⟨o, ho⟩ := (V.wr _ _ h1 _).mp ((V.wr _ _ h5 q.1).mpr ⟨q.2, hq⟩)
        exact (N _ (List.mem_append.mpr (.inl ho))).2
      · have := N q (List.mem_append.mpr (.inr hq))
        exact ⟨hk _ _ (h4 q hq) this.1, this.2⟩
    refine wpAny_mono (hstep i v h' tk' m' io' led hi h5 h3 h4 hP F' h2 N') (fun _ s₂ h₂ => AR h₂ fun f s₃ h₃ => ?_) fun _ _ e => e
    cases f with
    | next => obtain ⟨h7, tk7, m7, led7, e7, F7, n7, N7, k7, a7⟩ := h₃; exact ⟨h7, tk7, m7, io', led7, e7, h5, F7, n7, N7, k7, a7⟩
    | cont => obtain ⟨h7, tk7, m7, led7, e7, F7, n7, N7, k7, a7⟩ := h₃; exact ⟨h7, tk7, m7, io', led7, e7, h5, F7, n7, N7, k7, a7⟩
    | brk => exact h₃
    | ret v => exact h₃
  · rintro s' h' tk' ⟨h, tk, m', io, led, rfl, h1, F, h2, N, h3, h4⟩ hk
    refine hdone h' tk' m' led h3 (keepF h1 F N hk) h2 fun q hq => ?_
    have := N q (List.mem_append.mpr (.inr hq))
    exact ⟨hk _ _ (h4 q hq) this.1, this.2⟩
noncomputable def Dy (a : Int) (n i : Nat) : Obj := { cls := .type "range_iterator", dict := none, data := .fields #[rawInt (a + (i : Nat) * 1), rawInt ((n : Int) - (i : Nat)), rawInt 1], slots := #[] }
theorem Om {I : Addr} {a : Int} {n : Nat} : Iters h₀ L [I] (fun i h => IsRangeIter h I (a + (i : Nat) * 1) ((n : Int) - (i : Nat)) 1) (fun i io => io = [(I, Dy a n i)]) (fun _ => True) where
  st := fun i h io led e N _ => by subst e; exact (N _ (.head _)).1
  io := fun i h st => ⟨_, rfl, fun q hq => by rw [List.mem_singleton.mp hq]; exact st⟩
  wr := fun i io e b => by
    subst e
    simp only [List.mem_singleton, Prod.mk.injEq]
    exact ⟨fun e => ⟨_, e, rfl⟩, fun ⟨o, e, _⟩ => e⟩
noncomputable def DW (s : Shared) (h₀ : Heap) (L : Addr) (m : Str → Option Value) (names : List Str) (I : Addr) (oI : Obj) (K : List (Addr × Obj) → Prop) (s₃ : Shared) : Prop :=
  ∃ h' tk' m'' led'', s₃ = { s with heap := h', toks := tk' } ∧ Fr h₀ L h' m'' ∧ (∀ z, z ∉ names → m'' z = m z) ∧ News h₀ L h' ((I, oI) :: led'') ∧ K led'' ∧ ∀ q ∈ led'', q.1 ≠ I
theorem DW.intro {s : Shared} {h₀ : Heap} {L : Addr} {m m'' : Str → Option Value} {names : List Str} {I : Addr} {oI : Obj} {K : List (Addr × Obj) → Prop} {h' : Heap} {tk' : Nat} {led'' : List (Addr × Obj)} (F : Fr h₀ L h' m'') (hm : ∀ z, z ∉ names → m'' z = m z) (N : News h₀ L h' ((I, oI) :: led'')) (k : K led'') (ap : ∀ q ∈ led'', q.1 ≠ I) :
    DW s h₀ L m names I oI K { s with heap := h', toks := tk' } := ⟨h', tk', m'', led'', rfl, F, hm, N, k, ap⟩
theorem IR {target : PySem.Expr} {body : List Stmt} {env : Env} {r : Addr} {n : Nat} {t u v : Tok} {led : List (Addr × Obj)} (hh : A.handled = none) (hr : IsRange s.heap r 0 n 1 t u v) (hn : n < 64) (names : List Str) (K : Nat → List (Addr × Obj) → Prop) (F : Fr h₀ L s.heap m) (N : News h₀ L s.heap led) (h0 : K 0 led)
    (hstep : ∀ I i (t : Tok) h tk m' led', i < n → K i led' → (∀ q ∈ led', q.1 ≠ I) → Fr h₀ L h m' → (∀ z, z ∉ names → m' z = m z) → News h₀ L h ((I, Dy 0 n (i + 1)) :: led') →
      wpAny (model prog w) A (assign target env (.int (i : Int) t)) (fun _ s₂ => wpI (model prog w) A (execs body env) (fun f s₃ => match f with
          | .next | .cont => DW s h₀ L m names I (Dy 0 n (i + 1)) (K (i + 1)) s₃
          | .brk => R (.ok .next) s₃
          | .ret v => R (.ok (.ret v)) s₃) (notedBy (model prog w) A env fun e s' => R (.error e) s') s₂) (notedBy (model prog w) A env fun e s' => R (.error e) s') { s with heap := h, toks := tk })
    (hdone : ∀ h tk m' led', K n led' → Fr h₀ L h m' → (∀ z, z ∉ names → m' z = m z) → News h₀ L h led' → R (.ok .next) { s with heap := h, toks := tk })
    (ht : autoParam (∀ I v, letOwnedTupleGo target (.ref I) v = pure ()) aRf) :
    wpAny (model prog w) A (pyIter (.ref r)) (fun it s₂ => BY (model prog w) A (.forLoop target it body [] env) R s₂) E s := by
  have hsm : Builtin.Range.small 0 n 1 = true := (by decide +kernel : ∀ n : Fin 64, Builtin.Range.small 0 ((n : Nat) : Int) 1 = true) ⟨n, hn⟩
  have hsz : Builtin.Range.rangeSize 0 n 1 = n := by rw [rangeSize_nat, Int.sub_zero, Int.toNat_natCast]
  refine wpAny_pyIter_range hr hsm ?_
  rw [hsz]
  have up : ∀ b o, s.heap.get? b = some o → (s.heap.push { cls := .type "range_iterator", data := .fields #[rawInt 0, rawInt (n : Int), rawInt 1] }).get? b = some o := fun b o e => Heap.get?_push_of_some _ e
  have F' := Cw F up
  have N' := Dq (S := s.heap.objs.size) (o := Dy 0 n 0) F N up (by
    cases q : s.heap.get? s.heap.objs.size with
    | none => rfl
    | some o => exact absurd (Heap.lt_size q) (Nat.lt_irrefl _)) (by
      rw [Heap.get?_push_size _ rfl]
      simp [Dy])
  have nI : ∀ q ∈ led, q.1 ≠ s.heap.objs.size := fun q hq => Nat.ne_of_lt (Heap.lt_size (N q hq).1)
  have one : ∀ {l : List (Addr × Obj)} {I : Addr}, (∀ q ∈ l, q.1 ∉ [I]) ↔ ∀ q ∈ l, q.1 ≠ I := fun {l I} => by simp only [List.mem_singleton]
  refine OT (s := { s with heap := _ }) (LCg.range_walks hh 0 n) names Om K (fun _ _ _ => trivial) ?_ (fun h tk m' led' => hdone h tk m' led') F' (io₀ := [(s.heap.objs.size, Dy 0 n 0)]) rfl N' h0 (one.mpr nI) (ht _)
  rintro i v h tk m' io led' hi rfl hK hap ⟨t, rfl⟩ F2 hm N2
  rw [Int.zero_add]
  refine wpAny_mono (hstep _ i t h tk m' led' hi hK (one.mp hap) F2 hm N2) (fun _ s₂ h₂ => AR h₂ fun f s₃ h₃ => ?_) fun _ _ e => e
  cases f with
  | next => obtain ⟨h7, tk7, m7, led7, e7, F7, n7, N7, k7, a7⟩ := h₃; exact ⟨h7, tk7, m7, led7, e7, F7, n7, N7, k7, one.mpr a7⟩
  | cont => obtain ⟨h7, tk7, m7, led7, e7, F7, n7, N7, k7, a7⟩ := h₃; exact ⟨h7, tk7, m7, led7, e7, F7, n7, N7, k7, one.mpr a7⟩
  | brk => exact h₃
  | ret v => exact h₃
noncomputable def QM (ax : Addr) (i : Nat) (o : Obj) : Prop := o.cls = .type "list_iterator" ∧ o.data = .fields #[.ref ax, .int i 0]
theorem Po {I ax : Addr} {its : Array Value} {c : Nat} : Iters h₀ L [I] (fun i h => h.IsListIter I ax i ∧ h.IsList ax its) (fun i io => ∃ o, io = [(I, o)] ∧ QM ax i o) (fun led => (ax, PySem.W.listOf its c) ∈ led) where
  st := fun i h io led ⟨o, e, ok⟩ N hm => by
    subst e
    exact ⟨⟨o, (N _ (.head _)).1, ok⟩, ⟨_, (N _ (List.mem_append.mpr (.inr hm))).1, rfl, c, rfl⟩⟩
  io := fun i h st => by
    obtain ⟨⟨o, h1, h2⟩, _⟩ := st
    exact ⟨_, ⟨o, rfl, h2⟩, fun q hq => by rw [List.mem_singleton.mp hq]; exact h1⟩
  wr := fun i io ⟨o, e, _⟩ b => by
    subst e
    simp only [List.mem_singleton, Prod.mk.injEq]
    exact ⟨fun e => ⟨_, e, rfl⟩, fun ⟨o, e, _⟩ => e⟩
theorem PY {target : PySem.Expr} {body : List Stmt} {env : Env} {ax : Addr} {its : Array Value} {c : Nat} {led : List (Addr × Obj)} (hh : A.handled = none) (hl : (ax, PySem.W.listOf its c) ∈ led) (names : List Str) (K : Nat → List (Addr × Obj) → Prop) (hK : ∀ i led', K i led' → (ax, PySem.W.listOf its c) ∈ led') (F : Fr h₀ L s.heap m) (N : News h₀ L s.heap led) (h0 : K 0 led)
    (hstep : ∀ I oI i v h tk m' led', its[i]? = some v → K i led' → (∀ q ∈ led', q.1 ≠ I) → Fr h₀ L h m' → (∀ z, z ∉ names → m' z = m z) → News h₀ L h ((I, oI) :: led') →
      wpAny (model prog w) A (assign target env v) (fun _ s₂ => wpI (model prog w) A (execs body env) (fun f s₃ => match f with
          | .next | .cont => DW s h₀ L m names I oI (K (i + 1)) s₃
          | .brk => R (.ok .next) s₃
          | .ret v => R (.ok (.ret v)) s₃) (notedBy (model prog w) A env fun e s' => R (.error e) s') s₂) (notedBy (model prog w) A env fun e s' => R (.error e) s') { s with heap := h, toks := tk })
    (hdone : ∀ h tk m' led', K its.size led' → Fr h₀ L h m' → (∀ z, z ∉ names → m' z = m z) → News h₀ L h led' → R (.ok .next) { s with heap := h, toks := tk })
    (ht : autoParam (∀ I v, letOwnedTupleGo target (.ref I) v = pure ()) aRf) :
    wpAny (model prog w) A (pyIter (.ref ax)) (fun it s₂ => BY (model prog w) A (.forLoop target it body [] env) R s₂) E s := by
  have hL : s.heap.IsList ax its := ⟨_, (N _ hl).1, rfl, c, rfl⟩
  refine wpAny_pyIter_list hL ?_
  have up : ∀ b o, s.heap.get? b = some o → (s.heap.push { cls := .type "list_iterator", data := .fields #[.ref ax, .int 0 0] }).get? b = some o := fun b o e => Heap.get?_push_of_some _ e
  have F' := Cw F up
  have N' := Dq (S := s.heap.objs.size) F N up (by
    cases q : s.heap.get? s.heap.objs.size with
    | none => rfl
    | some o => exact absurd (Heap.lt_size q) (Nat.lt_irrefl _)) (Heap.get?_push_size _ rfl)
  have nI : ∀ q ∈ led, q.1 ≠ s.heap.objs.size := fun q hq => Nat.ne_of_lt (Heap.lt_size (N q hq).1)
  have one : ∀ {l : List (Addr × Obj)} {I : Addr}, (∀ q ∈ l, q.1 ∉ [I]) ↔ ∀ q ∈ l, q.1 ≠ I := fun {l I} => by simp only [List.mem_singleton]
  refine OT (s := { s with heap := _ }) (Walks.list hh _ ax (nI _ hl) its) names Po K (fun i l k => hK i l k) ?_ (fun h tk m' led' => hdone h tk m' led') F' ⟨_, rfl, rfl, rfl⟩ N' h0 (one.mpr nI) (ht _)
  rintro i v h tk m' io led' hi ⟨oI, rfl, hok⟩ hKi hap hv F2 hm N2
  refine wpAny_mono (hstep _ oI i v h tk m' led' hv hKi (one.mp hap) F2 hm N2) (fun _ s₂ h₂ => AR h₂ fun f s₃ h₃ => ?_) fun _ _ e => e
  cases f with
  | next => obtain ⟨h7, tk7, m7, led7, e7, F7, n7, N7, k7, a7⟩ := h₃; exact ⟨h7, tk7, m7, led7, e7, F7, n7, N7, k7, one.mpr a7⟩
  | cont => obtain ⟨h7, tk7, m7, led7, e7, F7, n7, N7, k7, a7⟩ := h₃; exact ⟨h7, tk7, m7, led7, e7, F7, n7, N7, k7, one.mpr a7⟩
  | brk => exact h₃
  | ret v => exact h₃
end
noncomputable def but (led : List (Addr × Obj)) (ch : List Addr) : List (Addr × Obj) := led.filter fun q => !ch.contains q.1
theorem CA {led : List (Addr × Obj)} {ch : List Addr} {q : Addr × Obj} : q ∈ but led ch ↔ q ∈ led ∧ q.1 ∉ ch := by
  unfold but
  rw [List.mem_filter]
  simp
theorem Ex {h₀ h : Heap} {L : Addr} {led : List (Addr × Obj)} (N : News h₀ L h led) {q : Addr × Obj} {d : Addr} {o : Obj} (hq : q ∈ led) (hd : (d, o) ∈ led) (e : q.1 = d) : q = (d, o) := by
  have h1 := (N q hq).1
  rw [e, (N _ hd).1] at h1
  exact Prod.ext e (Option.some.inj h1).symm
theorem LK {h₀ h : Heap} {L : Addr} {led : List (Addr × Obj)} (N : News h₀ L h led) {d : Addr} {o : Obj} (hd : (d, o) ∈ led) : ∀ q ∈ led, q ∈ (d, o) :: but led [d] := fun q hq => by
  by_cases h1 : q.1 = d
  · rw [Ex N hq hd h1]; exact .head _
  · exact .tail _ (CA.mpr ⟨hq, by simp [h1]⟩)
theorem QW {h₀ h : Heap} {L : Addr} {led : List (Addr × Obj)} (N : News h₀ L h led) {d e : Addr} {o u : Obj} (hd : (d, o) ∈ led) (he : (e, u) ∈ led) : ∀ q ∈ led, q ∈ (d, o) :: (e, u) :: but led [d, e] := fun q hq => by
  by_cases h1 : q.1 = d
  · rw [Ex N hq hd h1]; exact .head _
  · by_cases h2 : q.1 = e
    · rw [Ex N hq he h2]; exact .tail _ (.head _)
    · exact .tail _ (.tail _ (CA.mpr ⟨hq, by simp [h1, h2]⟩))
theorem Na {led : List (Addr × Obj)} {ch : List Addr} {d : Addr} (hd : d ∈ ch) : ∀ q ∈ but led ch, q.1 ≠ d := fun q hq e => (CA.mp hq).2 (e ▸ hd)
theorem Fo {h₀ h h' : Heap} {L : Addr} {led rel rel' : List (Addr × Obj)} {ch : List Addr} (N : News h₀ L h led) (NR : News h₀ L h rel) (N' : News h₀ L h' rel') (off : Off (rel.map (·.1)) h h') (hr : ∀ q ∈ rel, q.1 ∉ ch → q ∈ rel') : News h₀ L h' (but led ch) :=
  Ea N NR N' off ch (fun q hq => .inr (CA.mp hq)) hr
theorem Mi {h₀ h : Heap} {L : Addr} {m m' : Str → Option Value} {a b c : Str} (F : Fr h₀ L h m') (hm : ∀ z, z ∉ [a, b, c] → m' z = m z) : Fr h₀ L h (fun z => if z = a then m' a else if z = b then m' b else if z = c then m' c else m z) := by
  have e : m' = (fun z => if z = a then m' a else if z = b then m' b else if z = c then m' c else m z) := by
    funext z
    by_cases h1 : z = a
    · rw [if_pos h1, h1]
    · rw [if_neg h1]
      by_cases h2 : z = b
      · rw [if_pos h2, h2]
      · rw [if_neg h2]
        by_cases h3 : z = c
        · rw [if_pos h3, h3]
        · rw [if_neg h3]
          exact hm z (by simp only [List.mem_cons, List.not_mem_nil, or_false, not_or]; exact ⟨h1, h2, h3⟩)
  rw [e] at F
  exact F
end
section
noncomputable def Part.chunk (x : Part) (r : Int) : Int := KU x.wr.size x.lim x.snt r
noncomputable def Jp {ns : List Int} {ps : List (Int × Part)} (_ : ns.Perm ((Cj ps).map (·.1))) (turn r : Int) (i : Nat) : Prop :=
  ∀ j : Nat, j < i → ∀ x ∈ ps, x.1 = ns.getD ((turn + j).fmod ps.length).toNat 0 → x.2.chunk r = 0
theorem RL {a : Int} {n : Nat} (h : 0 < n) : (a.fmod n).toNat < n := by
  have h1 : 0 ≤ a.fmod n := Int.fmod_nonneg_of_pos _ (by omega)
  have h2 : a.fmod n < n := Int.fmod_lt_of_pos _ (by omega)
  omega
theorem Qm {ns : List Int} {ps : List (Int × Part)} (hp : ns.Perm ((Cj ps).map (·.1))) {a : Int} (h : 0 < ps.length) : ∃ x ∈ ps, ns.getD (a.fmod ps.length).toNat 0 = x.1 := by
  have hl := hp.length_eq
  rw [CX, List.length_map] at hl
  have hlt : (a.fmod ps.length).toNat < ns.length := by rw [hl]; exact RL h
  have hm : ns.getD (a.fmod ps.length).toNat 0 ∈ ns := by
    rw [List.getD_eq_getElem?_getD, List.getElem?_eq_getElem hlt]
    exact List.getElem_mem hlt
  have := hp.mem_iff.mp hm
  rw [CX] at this
  obtain ⟨x, hx, e⟩ := List.mem_map.mp this
  exact ⟨x, hx, e.symm⟩
theorem passed_step {ns : List Int} {ps : List (Int × Part)} {hp : ns.Perm ((Cj ps).map (·.1))} {turn r : Int} {i : Nat} (h : Jp hp turn r i) (hnd : (ps.map (·.1)).Nodup) {x : Int × Part} (hx : x ∈ ps) (e : ns.getD ((turn + i).fmod ps.length).toNat 0 = x.1) (hc : x.2.chunk r = 0) : Jp hp turn r (i + 1) := fun j hj y hy ey => by
  rcases Nat.lt_succ_iff_lt_or_eq.mp hj with h1 | rfl
  · exact h j h1 y hy ey
  · have := Di hnd hy hx (ey.trans e)
    subst this; exact hc
theorem Ob {ns : List Int} {ps : List (Int × Part)} {hp : ns.Perm ((Cj ps).map (·.1))} {turn r : Int} (h : Jp hp turn r ps.length) : ∀ x ∈ ps, x.2.chunk r = 0 := fun x hx => by
  have hl := hp.length_eq
  rw [CX, List.length_map] at hl
  have hm : x.1 ∈ ns := hp.mem_iff.mpr (by rw [CX]; exact List.mem_map.mpr ⟨x, hx, rfl⟩)
  obtain ⟨k, hk, e⟩ := List.mem_iff_getElem.mp hm
  have hpos : 0 < ps.length := List.length_pos_of_mem hx
  have hn : (0 : Int) < ps.length := by omega
  have h1 : 0 ≤ ((k : Int) - turn).fmod ps.length := Int.fmod_nonneg_of_pos _ hn
  have h2 : ((k : Int) - turn).fmod ps.length < ps.length := Int.fmod_lt_of_pos _ hn
  refine h (((k : Int) - turn).fmod ps.length).toNat (by omega) x hx ?_
  have e3 : (turn + ((((k : Int) - turn).fmod ps.length).toNat : Int)).fmod ps.length = k := by
    rw [Int.toNat_of_nonneg h1]
    rw [Int.fmod_eq_emod_of_nonneg _ (by omega), Int.fmod_eq_emod_of_nonneg _ (by omega)]
    rw [Int.add_emod, Int.emod_emod_of_dvd _ (Int.dvd_refl _), ← Int.add_emod]
    rw [show turn + ((k : Int) - turn) = k by omega]
    exact Int.emod_eq_of_lt (by omega) (by omega)
  rw [e3, Int.toNat_natCast, List.getD_eq_getElem?_getD, List.getElem?_eq_getElem hk]
  exact e.symm
theorem Rx {h₀ h : Heap} {L x1 x2 ds : Addr} {o : Obj} {a b c d y z : Addr × Obj} {LED : List (Addr × Obj)} (N : News h₀ L h (a :: b :: c :: d :: but LED [x1, x2])) (hds : (ds, o) ∈ LED) (hy : y ∈ LED) (hz : z ∈ LED)
    (n1 : ds ≠ x1 ∧ ds ≠ x2) (n2 : y.1 ≠ x1 ∧ y.1 ≠ x2) (n3 : z.1 ≠ x1 ∧ z.1 ≠ x2) : News h₀ L h (a :: b :: c :: d :: (ds, o) :: y :: z :: but LED [x1, x2, ds]) := fun q hq => N q (by
  simp only [List.mem_cons, CA, List.not_mem_nil, or_false, not_or] at hq ⊢
  rcases hq with h | h | h | h | h | h | h | ⟨h1, h2, h3, h4⟩
  · exact .inl h
  · exact .inr (.inl h)
  · exact .inr (.inr (.inl h))
  · exact .inr (.inr (.inr (.inl h)))
  · subst h; exact .inr (.inr (.inr (.inr ⟨hds, n1⟩)))
  · subst h; exact .inr (.inr (.inr (.inr ⟨hy, n2⟩)))
  · subst h; exact .inr (.inr (.inr (.inr ⟨hz, n3⟩)))
  · exact .inr (.inr (.inr (.inr ⟨h1, h2, h3⟩))))
theorem Pv {h₀ h : Heap} {L : Addr} {a b c d e : Addr × Obj} {big tl : List (Addr × Obj)} (Nb : News h₀ L h big) (Nt : News h₀ L h tl) (ha : a ∈ big) (hb : b ∈ big) (hc : c ∈ big) (hd : d ∈ big) (he : e ∈ big) : News h₀ L h (a :: b :: c :: d :: e :: tl) := fun q hq => by
  simp only [List.mem_cons] at hq
  rcases hq with rfl | rfl | rfl | rfl | rfl | hq
  · exact Nb _ ha
  · exact Nb _ hb
  · exact Nb _ hc
  · exact Nb _ hd
  · exact Nb _ he
  · exact Nt _ hq
end
section
set_option rowWalk.seconds 0
theorem Uf : True := by
  k_with "subscriptTail" => (k_here; (with_reducible show wpAny _ _ (subscriptTail _ _ (Value.ref _) (Value.int _ _)) _ _ _); (refine kda_item (knd := PySem.intKind _ _) (by k_asm) (by k_mem) (by k_asm) (intKind_is _ _ _ _) (by first | assumption | rfl) ?_))
  k_with "k upd" => ((with_reducible rename Up _ _ => up'); (have F' := Cw (by k_asm) up'); (have N' := Cf (by k_asm) up'); (clear up'))
  trivial
section
variable {w : World} {p : Program} {loose : List Str} {mean : ExcName → Option Value} {mg mb : Str → Option Value} {dp un : Nat} {gd : Option (List Code)} {cn : Str} {cs : Scope} {a : Addr} {ccd : Value} {cl : List (Str × Addr)} {outer : List Env} {A₀ : Around} {base h₀ : Heap} {L : Addr} {m : Str → Option Value} {s : Shared} {Q E : Value → Shared → Prop} {led led' : List (Addr × Obj)}
variable (B : Below A₀ base outer h₀) (F : Fr h₀ L s.heap m) (X : (KK w.params).In h₀) (T : Top p loose mean mg mb h₀) (hk : cs.kind = .function) (N : News h₀ L s.heap led)
include B F X T hk N
theorem TH : True := by
  k_with "subscriptTail" => (k_here; (with_reducible show wpAny _ _ (subscriptTail _ _ (Value.ref _) (Value.str _ _)) _ _ _); (refine kda_item (knd := PySem.strKind _ _) (by k_asm) (by k_mem) (by k_asm) (strKind_is _ _ _ _) (by assumption) ?_))
  trivial
structure SidB (sid : Int) (b : Bool) : Prop where
  own : (sid.fmod 2 == 1) = false
  way : ((sid.fdiv 2).fmod 2 == 1) = b
omit B F X T hk N in
theorem IB {h h' : Heap} (x : Off (List.map (fun x => x.fst) ([] : List (Addr × Obj))) h h') : Up h h' := fun b o e => x b o e fun y => nomatch y
theorem MY {sid : Int} {t : Tok} {b : Bool} (hb : SidB sid b)
    (hd : dp + 1 < recursionLimit) (hu : un + 8 < cLine)
    (hret : ∀ (h' : Heap) (tk' : Nat), Up s.heap h' → Q (.bool b) { s with heap := h', toks := tk' }) :
    wpAny (model pw w) (ktrTop dp un gd cn cs L a ccd cl outer) (PySem.call (.ref 532) [.int sid t]) Q E s := by
  have NR : News h₀ L s.heap [] := News.nil
  clear N
  walk_at "kt open"
  k_steps
  rw [hb.way]
  exact hret _ _ (IB (by assumption))
theorem OE {sid : Int} {t : Tok} {b : Bool} (hb : SidB sid b)
    (hd : dp + 1 < recursionLimit) (hu : un + 8 < cLine)
    (hret : ∀ (t' : Tok) (h' : Heap) (tk' : Nat), Up s.heap h' → Q (.str (Str.ofString "client") t') { s with heap := h', toks := tk' }) :
    wpAny (model pw w) (ktrTop dp un gd cn cs L a ccd cl outer) (PySem.call (.ref 525) [.int sid t]) Q E s := by
  have NR : News h₀ L s.heap [] := News.nil
  clear N
  have hb1 := hb.own
  walk_at "kt open"
  k_steps
  exact hret _ _ _ (IB (by assumption))
theorem Tu : True := by
  k_with "call ref" => (k_here; (with_reducible show wpAny _ _ (PySem.call (Value.ref 532) _) _ _ _); (refine MY (by k_asm) (by k_asm) (by k_asm) (by k_asm) rfl (by k_asm) (by assumption) (by walk_at "rm") (by walk_at "rm") ?_; intro h' tk' up'; walk_at "k upd"))
  k_with "call ref" => (k_here; (with_reducible show wpAny _ _ (PySem.call (Value.ref 525) _) _ _ _); (refine OE (by k_asm) (by k_asm) (by k_asm) (by k_asm) rfl (by k_asm) (by assumption) (by walk_at "rm") (by walk_at "rm") ?_; intro t' h' tk' up'; walk_at "k upd"))
  trivial
theorem Lw {sid : Int} {t t1 : Tok} {b : Bool} (hb : SidB sid b)
    (hd : dp + 2 < recursionLimit) (hu : un + 20 < cLine)
    (hret : ∀ (h' : Heap) (tk' : Nat), Up s.heap h' → Q (.bool true) { s with heap := h', toks := tk' }) :
    wpAny (model pw w) (ktrTop dp un gd cn cs L a ccd cl outer) (PySem.call (.ref 539) [.int sid t, .str (Str.ofString "client") t1]) Q E s := by
  have NR : News h₀ L s.heap [] := News.nil
  clear N
  walk_at "kt open"
  k_steps
  · rw [show (Str.ofString "client" == Str.ofString "client") = true from beq_self_eq_true _]
    exact hret _ _ (IB (by assumption))
  · rw [show (!b) = true by simp_all]
    exact hret _ _ (IB (by assumption))
theorem LQ {sid : Int} {t t1 : Tok} {b : Bool} (hb : SidB sid b)
    (hd : dp + 2 < recursionLimit) (hu : un + 20 < cLine)
    (hret : ∀ (h' : Heap) (tk' : Nat), Up s.heap h' → Q (.bool (!b)) { s with heap := h', toks := tk' }) :
    wpAny (model pw w) (ktrTop dp un gd cn cs L a ccd cl outer) (PySem.call (.ref 546) [.int sid t, .str (Str.ofString "client") t1]) Q E s := by
  have NR : News h₀ L s.heap [] := News.nil
  clear N
  walk_at "kt open"
  k_steps
  · rw [show (Str.ofString "client" != Str.ofString "client") = !b by simp_all]
    exact hret _ _ (IB (by assumption))
  · exact hret _ _ (IB (by assumption))
theorem MP {pa : Addr} {oP : Obj} {kvs : List (Str × Value)} {sid v1 v2 : Int} {t t1 u1 u2 : Tok} {b : Bool} (hb : SidB sid b) (m1 : (pa, oP) ∈ led) (hP : oP.IsDictOf (PySem.strKind pw w) kvs)
    (h1 : valueAt kvs (Str.ofString "initial_max_stream_data_uni") = some (.int v1 u1)) (h2 : valueAt kvs (Str.ofString "initial_max_stream_data_bidi_local") = some (.int v2 u2))
    (hd : dp + 2 < recursionLimit) (hu : un + 20 < cLine)
    (hret : ∀ (v : Int) (t' : Tok) (h' : Heap) (tk' : Nat), Up s.heap h' → Q (.int v t') { s with heap := h', toks := tk' }) :
    wpAny (model pw w) (ktrTop dp un gd cn cs L a ccd cl outer) (PySem.call (.ref 614) [.ref pa, .str (Str.ofString "client") t1, .int sid t]) Q E s := by
  have NR : News h₀ L s.heap [(pa, oP)] := (by repeat (first | exact News.nil | refine Bh N (by first | assumption | exact m1) ?_))
  clear N
  walk_at "kt open"
  k_steps
  · exact hret _ _ _ _ (Ee NR (by assumption) (by assumption))
  · exact hret _ _ _ _ (Ee NR (by assumption) (by assumption))
theorem LR {pa : Addr} {oP : Obj} {kvs : List (Str × Value)} {sid v1 v3 : Int} {t t1 u1 u3 : Tok} {b : Bool} (hb : SidB sid b) (m1 : (pa, oP) ∈ led) (hP : oP.IsDictOf (PySem.strKind pw w) kvs)
    (h1 : valueAt kvs (Str.ofString "initial_max_stream_data_uni") = some (.int v1 u1)) (h2 : valueAt kvs (Str.ofString "initial_max_stream_data_bidi_remote") = some (.int v3 u3))
    (hd : dp + 2 < recursionLimit) (hu : un + 20 < cLine)
    (hret : ∀ (t' : Tok) (h' : Heap) (tk' : Nat), Up s.heap h' → Q (.int (if b then v1 else v3) t') { s with heap := h', toks := tk' }) :
    wpAny (model pw w) (ktrTop dp un gd cn cs L a ccd cl outer) (PySem.call (.ref 621) [.ref pa, .str (Str.ofString "client") t1, .int sid t]) Q E s := by
  have NR : News h₀ L s.heap [(pa, oP)] := (by repeat (first | exact News.nil | refine Bh N (by first | assumption | exact m1) ?_))
  clear N
  walk_at "kt open"
  k_steps
  · rw [if_pos (by assumption)] at hret
    exact hret _ _ _ (Ee NR (by assumption) (by assumption))
  · rw [if_neg (by simp_all)] at hret
    exact hret _ _ _ (Ee NR (by assumption) (by assumption))
end
end
section
set_option rowWalk.seconds 0
theorem TR : True := by
  k_with "M open" => (k_dflt (refine' Ij ?k1 ?k2 ?k3 ?k4 ?k5 ?kA ?kF ?kK ?k6 ?k7 ?k8 ?k9 ?kB ?_ ?c5 ?c2 ?c3 ?c4; (case kA => exact rfl); (case kF => exact rfl); (case kK => assumption); (case k1 => k_asm); (case k2 => k_asm); (case k3 => k_asm); (case k4 => k_asm); (case k5 => k_asm); (case k6 => k_is); (case k7 => k_is); (case k8 => first | ktr_room | k_room | (dsimp only; omega)); (case k9 => exact BindsTo.of_eq rfl); (case c5 => decide); (case kB => exact locs rfl); (case c2 => exact rfl); (case c3 => exact rfl); (case c4 => exact rfl); k_whole; intro _ _ _ _ _ _ _ _ _ _ _ _; (try dsimp only); (try k_fold)))
  trivial
section
variable {w : World} {p : Program} {loose : List Str} {mean : ExcName → Option Value} {mg mb : Str → Option Value} {dp un : Nat} {gd : Option (List Code)} {cn : Str} {cs : Scope} {a : Addr} {ccd : Value} {cl : List (Str × Addr)} {outer : List Env} {A₀ : Around} {base h₀ : Heap} {L : Addr} {m : Str → Option Value} {s : Shared} {Q E : Value → Shared → Prop} {led led' : List (Addr × Obj)}
variable (B : Below A₀ base outer h₀) (F : Fr h₀ L s.heap m) (X : (KK w.params).In h₀) (T : Top p loose mean mg mb h₀) (hk : cs.kind = .function) (N : News h₀ L s.heap led)
include B F X T hk N
omit B F X T hk N in
theorem Mu {h1 h' : Heap} {x d : Addr} {o o' oI : Obj} {rel' : List (Addr × Obj)} (N0 : News h₀ L h1 ((x, oI) :: (d, o) :: led)) (NR : News h₀ L h1 [(x, oI), (d, o)]) (l1 : ∀ q ∈ led, q.1 < d) (hne : x ≠ d) (N' : News h₀ L h' rel') (off : Off ([(x, oI), (d, o)].map (·.1)) h1 h') (hx : (x, oI) ∈ rel') (hd : (d, o') ∈ rel') : News h₀ L h' ((x, oI) :: (d, o') :: led) :=
  CL (g := fun o' => (x, oI) :: (d, o') :: led) N0 NR N' off (.tail hne (.head fun q hq => Nat.ne_of_lt (l1 q hq))) hd (fun q hq hn => by
    simp only [List.mem_cons, List.not_mem_nil, or_false] at hq
    rcases hq with rfl | rfl
    · exact hx
    · exact absurd rfl hn)
omit B F X T hk N in
theorem Mw {h1 h' : Heap} {x d : Addr} {o oI : Obj} {rel' : List (Addr × Obj)} (N0 : News h₀ L h1 ((x, oI) :: (d, o) :: led)) (NR : News h₀ L h1 [(x, oI), (d, o)]) (l1 : ∀ q ∈ led, q.1 < d) (l2 : d < x) (N' : News h₀ L h' rel') (off : Off ([(x, oI), (d, o)].map (·.1)) h1 h') : News h₀ L h' led :=
  Ea N0 NR N' off [x, d] (fun q hq => .inr ⟨.tail _ (.tail _ hq), by
    simp only [List.mem_cons, List.not_mem_nil, or_false, not_or]
    exact ⟨Nat.ne_of_lt (Nat.lt_trans (l1 q hq) l2), Nat.ne_of_lt (l1 q hq)⟩⟩) (fun q hq hn => by
    simp only [List.mem_cons, List.not_mem_nil, or_false] at hq
    rcases hq with rfl | rfl
    · exact absurd (.head _) hn
    · exact absurd (.tail _ (.head _)) hn)
theorem OA {lim : Int} {t : Tok} (hd : dp + 2 < recursionLimit) (hu : un + 20 < cLine)
    (hret : ∀ (x d : Addr) (k : CS) (t1 t2 : Tok) (h' : Heap) (tk' : Nat), Fr h₀ L h' m → (∀ q ∈ led, q.1 < d) → d < x → News h₀ L h' ((x, instObj 115 d) :: (d, AI k lim t1 0 t2) :: led) → Q (.ref x) { s with heap := h', toks := tk' }) :
    wpAny (model pw w) (ktrTop dp un gd cn cs L a ccd cl outer) (PySem.call (.ref 115) [.int lim t]) Q E s := by
  refine' call_cls ?k1 ?k2 ?k3 ?k4 ?k5 ?k6 ?_
  case k1 => k_asm
  case k2 => k_asm
  case k3 => k_asm
  case k4 => k_is
  case k5 => k_is
  case k6 => k_is
  intro x d h' F' N' l1 l2
  have N0 : Hid (News h₀ L h' ((x, instObj 115 d) :: (d, dictOf [] 0) :: led)) := N'
  have NR : News h₀ L h' [(x, instObj 115 d), (d, dictOf [] 0)] := (by repeat (first | exact News.nil | refine Bh N' (by k_mem) ?_))
  have hne : x ≠ d := Nat.ne_of_gt l2
  clear N' N
  walk_at "M open"
  generalize s.toks + List.length _ = tk0
  k_steps
  refine' hret x d ⟨(_, _), (_, _), (_, _)⟩ _ _ _ _ ?_ l1 l2 (Mu N0 NR l1 hne ?N ?O ?a ?b)
  case N => k_asm
  case O => k_asm
  case a => k_mem
  case b => k_mem
  assumption
theorem OK {lim : Int} {t : Tok} (hd : dp + 2 < recursionLimit) (hu : un + 20 < cLine)
    (hret : ∀ (x : Addr) (h' : Heap) (tk' : Nat), Fr h₀ L h' m → News h₀ L h' led → Q (.ref x) { s with heap := h', toks := tk' }) :
    wpAny (model pw w) (ktrTop dp un gd cn cs L a ccd cl outer) (PySem.call (.ref 164) [.int lim t]) Q E s := by
  refine' call_cls ?k1 ?k2 ?k3 ?k4 ?k5 ?k6 ?_
  case k1 => k_asm
  case k2 => k_asm
  case k3 => k_asm
  case k4 => k_is
  case k5 => k_is
  case k6 => k_is
  intro x d h' F' N' l1 l2
  have N0 : Hid (News h₀ L h' ((x, instObj 164 d) :: (d, dictOf [] 0) :: led)) := N'
  have NR : News h₀ L h' [(x, instObj 164 d), (d, dictOf [] 0)] := (by repeat (first | exact News.nil | refine Bh N' (by k_mem) ?_))
  have hne : x ≠ d := Nat.ne_of_gt l2
  clear N' N
  walk_at "M open"
  generalize s.toks + List.length _ = tk0
  k_steps
  refine' hret x _ _ ?_ (Mw N0 NR l1 l2 ?N ?O)
  case N => k_asm
  case O => k_asm
  assumption
end
noncomputable def GD : T24 (Int → Tok → Prop) := fun w pgm loose mean mg mb dp un gd cn cs a ccd cl outer A₀ base h₀ L m s Q E led lim t =>
  (Below A₀ base outer h₀) → (Fr h₀ L s.heap m) → ((KK w.params).In h₀) → (Top pgm loose mean mg mb h₀) → (cs.kind = .function) → (News h₀ L s.heap led) → (dp + 2 < recursionLimit) → (un + 20 < cLine) → (∀ (x : Addr) (h' : Heap) (tk' : Nat), Fr h₀ L h' m → News h₀ L h' led → Q (.ref x) { s with heap := h', toks := tk' }) →
  wpAny (model pw w) (ktrTop dp un gd cn cs L a ccd cl outer) (PySem.call (.ref 371) [.int lim t]) Q E s
@[irreducible] def DB := eps 3686900 (by walk_at "nonempty") (ccx CM GD)
noncomputable def Hv : Stg (F := Addr → Addr → Heap → Heap → Addr → Heap → Nat → Heap → Heap → Prop) ET (ccx CM GD DB) := mk9 _ fun K1 => by
  intro B F X T hk N hd hu hret
  refine' call_cls ?k1 ?k2 ?k3 ?k4 ?k5 ?k6 ?_
  case k1 => k_asm
  case k2 => k_asm
  case k3 => k_asm
  case k4 => k_is
  case k5 => k_is
  case k6 => k_is
  intro x d h' F' N' l1 l2
  have N0 : Hid (News DB.1.h₀ DB.1.L h' ((x, instObj 371 d) :: (d, dictOf [] 0) :: DB.1.led)) := N'
  have NR : News DB.1.h₀ DB.1.L h' [(x, instObj 371 d), (d, dictOf [] 0)] := (by repeat (first | exact News.nil | refine Bh N' (by k_mem) ?_))
  have hne : x ≠ d := Nat.ne_of_gt l2
  clear N' N
  walk_at "M open"
  generalize DB.1.s.toks + List.length _ = tk0
  iterate 11 (first | walk_at "step" | skip)
  try dsimp (zetaDelta := true) only
  rename_i c1_1 c1_2 c1_3 z1 z2 _ z3 z4 z5 z6 c1_4 c1_5 _ _
  clear B F hk hd hu F' z1 z2 z3 z4 z5 z6
  walk_at "rv"
  intro K1
  exact K1.p x d h' c1_1 c1_2 c1_3 tk0 c1_4 c1_5
@[irreducible] def HO := eps 3686901 (by walk_at "nonempty") (ET Hv.1)
noncomputable def HP : Stg (F := Addr → Heap → Heap → Nat → Heap → Prop) Cz (ET Hv.1 HO) := mk5 _ fun K2 => by
  intro X T hret l1 l2 N0 NR hne y8 y9 y10
  iterate 14 (first | walk_at "step" | skip)
  try dsimp (zetaDelta := true) only
  rename_i c2_1 c2_2 _ c2_3 c2_4 _ _
  walk_at "rv"
  intro K2
  exact K2.p c2_1 c2_2 c2_3 tk c2_4
@[irreducible] def Kw := eps 3686902 (by walk_at "nonempty") (Cz HP.1)
noncomputable def HS : Stg (F := Heap → Nat → Heap → Heap → Prop) Ch (Cz HP.1 Kw) := mk4 _ fun K3 => by
  intro X T hret l1 l2 N0 NR hne y8 y9 y10 y11
  iterate 14 (first | walk_at "step" | skip)
  try dsimp (zetaDelta := true) only
  rename_i c3_1 c3_2 c3_3 _ _
  walk_at "rv"
  intro K3
  exact K3.p c3_1 tk c3_2 c3_3
@[irreducible] def KB := eps 3686903 (by walk_at "nonempty") (Ch HS.1)
theorem NO : Ch HS.1 KB := by
  intro X T hret l1 l2 N0 NR hne y8 y9 y10 y11
  k_steps
  refine' hret HO.1.1.1.1 _ _ ?_ (Mw N0 NR l1 l2 ?N ?O)
  case N => k_asm
  case O => k_asm
  assumption
def QL {w p loose mean mg mb dp un gd cn cs a ccd cl outer A₀ base h₀ L m s Q E led lim t} :=
  (GD.eq_1 w p loose mean mg mb dp un gd cn cs a ccd cl outer A₀ base h₀ L m s Q E led lim t).mp ((BH (P := ccx CM GD) DB (AQ Hv HO (AQ HP Kw (AQ HS KB NO))) ((⟨w, p, loose, mean, mg, mb, dp, un, gd, cn, cs, a, ccd, cl, outer, A₀, base, h₀, L, m, s, Q, E, led⟩ : Cx), lim, t)))
noncomputable def FQ : T24 (Int → Tok → Prop) := fun w pgm loose mean mg mb dp un gd cn cs a ccd cl outer A₀ base h₀ L m s Q E led lim t =>
  (Below A₀ base outer h₀) → (Fr h₀ L s.heap m) → ((KK w.params).In h₀) → (Top pgm loose mean mg mb h₀) → (cs.kind = .function) → (News h₀ L s.heap led) → (dp + 2 < recursionLimit) → (un + 20 < cLine) → (∀ (x d lo : Addr) (k : PS) (t1 t2 t3 t4 : Tok) (h' : Heap) (tk' : Nat), Fr h₀ L h' m → (∀ q ∈ led, q.1 < d) → d < x → x ≠ lo → d ≠ lo → (∀ q ∈ led, q.1 ≠ lo) → News h₀ L h' ((lo, listOf #[] 0) :: (x, instObj 498 d) :: (d, Ca k lim t1 (Str.ofString "ready") t2 #[] t3 0 t4 lo) :: led) → Q (.ref x) { s with heap := h', toks := tk' }) →
  wpAny (model pw w) (ktrTop dp un gd cn cs L a ccd cl outer) (PySem.call (.ref 498) [.int lim t]) Q E s
@[irreducible] def Dl := eps 7015800 (by walk_at "nonempty") (ccx CM FQ)
noncomputable def GQ : Stg (F := Addr → Addr → Heap → Heap → Addr → Heap → Nat → Heap → Heap → Prop) ET (ccx CM FQ Dl) := mk9 _ fun K4 => by
  intro B F X T hk N hd hu hret
  refine' call_cls ?k1 ?k2 ?k3 ?k4 ?k5 ?k6 ?_
  case k1 => k_asm
  case k2 => k_asm
  case k3 => k_asm
  case k4 => k_is
  case k5 => k_is
  case k6 => k_is
  intro x d h' F' N' l1 l2
  have N0 : Hid (News Dl.1.h₀ Dl.1.L h' ((x, instObj 498 d) :: (d, dictOf [] 0) :: Dl.1.led)) := N'
  have NR : News Dl.1.h₀ Dl.1.L h' [(x, instObj 498 d), (d, dictOf [] 0)] := (by repeat (first | exact News.nil | refine Bh N' (by k_mem) ?_))
  have hne : x ≠ d := Nat.ne_of_gt l2
  clear N' N
  walk_at "M open"
  generalize Dl.1.s.toks + List.length _ = tk0
  iterate 11 walk_at "step"
  try dsimp (zetaDelta := true) only
  rename_i c4_1 c4_2 c4_3 z1 z2 _ z3 z4 z5 _ c4_4 c4_5 _ _
  clear B F hk hd hu F' z1 z2 z3 z4 z5
  walk_at "rv"
  intro K4
  exact K4.p x d h' c4_1 c4_2 c4_3 tk0 c4_4 c4_5
@[irreducible] def Fm := eps 7015804 (by walk_at "nonempty") (ET GQ.1)
noncomputable def GX : Stg (F := Heap → Addr → Heap → Prop) CG (ET GQ.1 Fm) := mk3 _ fun K5 => by
  intro X T hret l1 l2 N0 NR hne y8 y9 y10 y11
  iterate 15 walk_at "step"
  try dsimp (zetaDelta := true) only
  rename_i c5_1 _ c5_3 c5_4 _ _ _
  walk_at "rv"
  intro K5
  exact K5.p c5_1 c5_3 c5_4
@[irreducible] def Jj := eps 7015805 (by walk_at "nonempty") (CG GX.1)
noncomputable def Gr : Stg (F := Nat → Addr → Heap → Prop) CG (CG GX.1 Jj) := mk3 _ fun K6 => by
  intro X T hret l1 l2 N0 NR hne y8 y9 y10 y11 y12
  iterate 8 walk_at "step"
  try dsimp (zetaDelta := true) only
  rename_i c6_1 c6_2 _ _ _
  walk_at "rv"
  intro K6
  exact K6.p tk c6_1 c6_2
@[irreducible] def Jr := eps 7015806 (by walk_at "nonempty") (CG Gr.1)
noncomputable def Gz : Stg (F := Heap → Nat → Heap → Prop) CG (CG Gr.1 Jr) := mk3 _ fun K7 => by
  intro X T hret l1 l2 N0 NR hne y8 y9 y10 y11 y12 y13
  iterate 8 walk_at "step"
  try dsimp (zetaDelta := true) only
  rename_i c7_1 c7_2 _ _
  walk_at "rv"
  intro K7
  exact K7.p c7_1 tk c7_2
@[irreducible] def Jk := eps 7015807 (by walk_at "nonempty") (CG Gz.1)
noncomputable def Gv : Stg (F := Heap → Heap → Prop) CM (CG Gz.1 Jk) := mk2 _ fun K8 => by
  intro X T hret l1 l2 N0 NR hne y8 y9 y10 y11 y12 y13
  iterate 10 walk_at "step"
  try dsimp (zetaDelta := true) only
  rename_i c8_1 c8_2 _ _
  walk_at "rv"
  intro K8
  exact K8.p c8_1 c8_2
@[irreducible] def Jv := eps 7015808 (by walk_at "nonempty") (CM Gv.1)
theorem MK : CM Gv.1 Jv := by
  intro X T hret l1 l2 N0 NR hne y8 y9 y10 y11 y12 y13
  k_steps
  have nlo := AU N0 (by assumption) (by assumption) (.head _) (by repeat (first | exact List.not_mem_nil | refine nm1 (by k_ne) ?_))
  refine' hret Fm.1.1.1.1 Fm.1.1.1.2 _ ⟨(_, _), (_, _), (_, _), (_, _), (_, _), (_, _), (_, _), (_, _), (_, _), (_, _), (_, _), _⟩ _ _ _ _ _ _ ?_ l1 l2 (nlo _ (.head _)) (nlo _ (.tail _ (.head _))) (fun q hq => nlo q (.tail _ (.tail _ hq))) (AM (Mu N0 NR l1 hne ?N ?O ?a ?b) ?N2 (.head _))
  case N2 => k_asm
  case N => k_asm
  case O => k_asm
  case a => k_mem
  case b => k_mem
  assumption
def PO {w p loose mean mg mb dp un gd cn cs a ccd cl outer A₀ base h₀ L m s Q E led lim t} :=
  (FQ.eq_1 w p loose mean mg mb dp un gd cn cs a ccd cl outer A₀ base h₀ L m s Q E led lim t).mp ((BH (P := ccx CM FQ) Dl (AQ GQ Fm (AQ GX Jj (AQ Gr Jr (AQ Gz Jk (AQ Gv Jv MK))))) ((⟨w, p, loose, mean, mg, mb, dp, un, gd, cn, cs, a, ccd, cl, outer, A₀, base, h₀, L, m, s, Q, E, led⟩ : Cx), lim, t)))
end
section
theorem Tb {b : Bool} {c0 c1 e : Int} : 4 * ([if b = true then c0 else [c0, c1].getD (if b = true then 1 else 0 : Int).toNat 0 + 1, if b = true then [c0, c1].getD (if b = true then 1 else 0 : Int).toNat 0 + 1 else c1].getD (if b = true then 1 else 0 : Int).toNat 0 - 1) + e = 4 * (if b = true then c1 else c0) + e := by
  cases b
  · show 4 * (c0 + 1 - 1) + e = _
    rw [Int.add_sub_cancel]; rfl
  · show 4 * (c1 + 1 - 1) + e = _
    rw [Int.add_sub_cancel]; rfl
theorem QC {a v : Int} : max a v = if v > a then v else a := by split <;> lia
theorem SN {b : Bool} {a0 a1 v : Int} : (if b = true then a0 else max a0 v) = if b = true then a0 else if v > [a0, a1].getD (if b = true then 1 else 0 : Int).toNat 0 then v else [a0, a1].getD (if b = true then 1 else 0 : Int).toNat 0 := by
  cases b
  · exact QC
  · rfl
theorem Tf {b : Bool} {a0 a1 v : Int} : (if b = true then max a1 v else a1) = if b = true then (if v > [a0, a1].getD (if b = true then 1 else 0 : Int).toNat 0 then v else [a0, a1].getD (if b = true then 1 else 0 : Int).toNat 0) else a1 := by
  cases b
  · rfl
  · exact QC
theorem UM {b : Bool} {v c0 c1 : Int} (h : ¬ (v ≥ (if b then c1 else c0))) : ¬ (v ≥ [c0, c1].getD (if b = true then 1 else 0 : Int).toNat 0) := by cases b <;> exact h
theorem UZ {b : Bool} {a0 a1 c0 c1 : Int} (h : [a0, a1].getD (if b = true then 1 else 0 : Int).toNat 0 ≤ [c0, c1].getD (if b = true then 1 else 0 : Int).toNat 0) : (if b = true then a1 else a0) ≤ (if b = true then c1 else c0) := by cases b <;> exact h
theorem UV {b : Bool} {a0 a1 c0 c1 : Int} (h : ¬ ([a0, a1].getD (if b = true then 1 else 0 : Int).toNat 0 ≤ [c0, c1].getD (if b = true then 1 else 0 : Int).toNat 0)) : (if b = true then c1 else c0) < (if b = true then a1 else a0) := by cases b <;> exact Int.not_le.mp h
theorem Uz {b : Bool} {c0 c1 e : Int} : 4 * ((if (if b = true then 1 else 0 : Int) = 0 then (if b = true then c0 else [c0, c1].getD (if b = true then 1 else 0 : Int).toNat 0 + 1) else if b = true then [c0, c1].getD (if b = true then 1 else 0 : Int).toNat 0 + 1 else c1) - 1) + e = 4 * (if b = true then c1 else c0) + e := by
  cases b
  · show 4 * (c0 + 1 - 1) + e = _
    rw [Int.add_sub_cancel]; rfl
  · show 4 * (c1 + 1 - 1) + e = _
    rw [Int.add_sub_cancel]; rfl
theorem SS {b : Bool} {c0 c1 : Int} : (if b = true then c0 else [c0, c1].getD (if b = true then 1 else 0 : Int).toNat 0 + 1) = if b = true then c0 else c0 + 1 := by cases b <;> rfl
theorem SF {b : Bool} {c0 c1 : Int} : (if b = true then [c0, c1].getD (if b = true then 1 else 0 : Int).toNat 0 + 1 else c1) = if b = true then c1 + 1 else c1 := by cases b <;> rfl
section
variable {prog : Program} {w : World} {A : Around} {E : Value → Shared → Prop} {s : Shared} {h₀ : Heap} {L D : Addr} {m : Str → Option Value} {led : List (Addr × Obj)}
theorem Ic {g : Obj → List (Addr × Obj)} {x y v : Value} {n : Nat} {b : Bool} {t : Tok} {Q : Unit → Shared → Prop} (F : Fr h₀ L s.heap m) (N : News h₀ L s.heap led) (U : UpdF D (PySem.W.listOf #[x, y] n) led g)
    (h : ∀ h', Fr h₀ L h' m → News h₀ L h' (g (PySem.W.listOf #[if b then x else v, if b then v else y] n)) → Q () { s with heap := h' }) :
    wpAny (model prog w) A (setItem (.ref D) (.int (if b = true then 1 else 0) t) v) Q E s := by
  obtain ⟨pre, post, rfl, hg, a, c⟩ := U.split
  have z := N (D, PySem.W.listOf #[x, y] n) (List.mem_append.mpr (.inr (.head _)))
  refine ki_setAt z.1 (by cases b <;> simp) (by cases b <;> simp) (by cases b <;> simp) (h _ (F.change (Heap.SameBut.update ..) z.2.1 z.2.2) ?_)
  rw [hg]
  refine ki_turn _ N a c ?_ ?_
  · cases b <;> simp
  · simp
theorem Gl {x y : Value} {n : Nat} {b : Bool} {t : Tok} {Q : Value → Shared → Prop} (N : News h₀ L s.heap led) (hm : (D, PySem.W.listOf #[x, y] n) ∈ led) (h : Q (if b then y else x) s) :
    wpAny (model prog w) A (getItem (.ref D) (.int (if b = true then 1 else 0) t)) Q E s := by
  have hl : s.heap.IsList D #[x, y] := PySem.IsL.isList (n := n) (N _ hm).1
  refine wpAny_getItem_list hl (by cases b <;> simp) (by cases b <;> simp) (x := if b then y else x) (by cases b <;> simp) h
theorem Hr {value slice : PySem.Expr} {x y : Value} {n : Nat} {b : Bool} {t : Tok} {Q : Value → Shared → Prop} (N : News h₀ L s.heap led) (hm : (D, PySem.W.listOf #[x, y] n) ∈ led) (h : Q (if b then y else x) s)
    (hs : autoParam (subscripted slice false (.ref D) (.int (if b = true then 1 else 0) t) = operate [.ref D, .int (if b = true then 1 else 0) t] (getItem (.ref D) (.int (if b = true then 1 else 0) t))) aUn) :
    wpAny (model prog w) A (subscriptTail value slice (.ref D) (.int (if b = true then 1 else 0) t)) Q E s :=
  tail_any (PySem.IsL.isList (n := n) (N _ hm).1).typeIs PySem.slot_list_getitem.lookup (Gl N hm h) hs
theorem SK {value slice : PySem.Expr} {x y : Value} {n : Nat} {t : Tok} {Q : Value → Shared → Prop} (N : News h₀ L s.heap led) (hm : (D, PySem.W.listOf #[x, y] n) ∈ led) (h : Q y s)
    (hs : autoParam (subscripted slice false (.ref D) (.int (if true = true then 1 else 0) t) = operate [.ref D, .int (if true = true then 1 else 0) t] (getItem (.ref D) (.int (if true = true then 1 else 0) t))) aUn) :
    wpAny (model prog w) A (subscriptTail value slice (.ref D) (.int (if true = true then 1 else 0) t)) Q E s := Hr N hm h hs
theorem SZ {value slice : PySem.Expr} {x y : Value} {n : Nat} {t : Tok} {Q : Value → Shared → Prop} (N : News h₀ L s.heap led) (hm : (D, PySem.W.listOf #[x, y] n) ∈ led) (h : Q x s)
    (hs : autoParam (subscripted slice false (.ref D) (.int (if false = true then 1 else 0) t) = operate [.ref D, .int (if false = true then 1 else 0) t] (getItem (.ref D) (.int (if false = true then 1 else 0) t))) aUn) :
    wpAny (model prog w) A (subscriptTail value slice (.ref D) (.int (if false = true then 1 else 0) t)) Q E s := Hr N hm h hs
theorem SQ {x y : Value} {n : Nat} {t : Tok} {Q : Value → Shared → Prop} (N : News h₀ L s.heap led) (hm : (D, PySem.W.listOf #[x, y] n) ∈ led) (h : Q y s) :
    wpAny (model prog w) A (getItem (.ref D) (.int (if true = true then 1 else 0) t)) Q E s := Gl N hm h
theorem SI {x y : Value} {n : Nat} {t : Tok} {Q : Value → Shared → Prop} (N : News h₀ L s.heap led) (hm : (D, PySem.W.listOf #[x, y] n) ∈ led) (h : Q x s) :
    wpAny (model prog w) A (getItem (.ref D) (.int (if false = true then 1 else 0) t)) Q E s := Gl N hm h
theorem SG {g : Obj → List (Addr × Obj)} {x y v : Value} {n : Nat} {t : Tok} {Q : Unit → Shared → Prop} (F : Fr h₀ L s.heap m) (N : News h₀ L s.heap led) (U : UpdF D (PySem.W.listOf #[x, y] n) led g)
    (h : ∀ h', Fr h₀ L h' m → News h₀ L h' (g (PySem.W.listOf #[x, v] n)) → Q () { s with heap := h' }) :
    wpAny (model prog w) A (setItem (.ref D) (.int (if true = true then 1 else 0) t) v) Q E s := Ic F N U h
theorem SU {g : Obj → List (Addr × Obj)} {x y v : Value} {n : Nat} {t : Tok} {Q : Unit → Shared → Prop} (F : Fr h₀ L s.heap m) (N : News h₀ L s.heap led) (U : UpdF D (PySem.W.listOf #[x, y] n) led g)
    (h : ∀ h', Fr h₀ L h' m → News h₀ L h' (g (PySem.W.listOf #[v, y] n)) → Q () { s with heap := h' }) :
    wpAny (model prog w) A (setItem (.ref D) (.int (if false = true then 1 else 0) t) v) Q E s := Ic F N U h
theorem Tv {value slice : PySem.Expr} {x y : Value} {n : Nat} {t : Tok} {i : Int} {Q : Value → Shared → Prop} (hi : i = 1) (N : News h₀ L s.heap led) (hm : (D, PySem.W.listOf #[x, y] n) ∈ led) (h : Q y s)
    (hs : autoParam (subscripted slice false (.ref D) (.int i t) = operate [.ref D, .int i t] (getItem (.ref D) (.int i t))) aUn) :
    wpAny (model prog w) A (subscriptTail value slice (.ref D) (.int i t)) Q E s := by
  subst hi
  exact Hr (b := true) N hm h hs
theorem Uc {value slice : PySem.Expr} {x y : Value} {n : Nat} {t : Tok} {i : Int} {Q : Value → Shared → Prop} (hi : i = 0) (N : News h₀ L s.heap led) (hm : (D, PySem.W.listOf #[x, y] n) ∈ led) (h : Q x s)
    (hs : autoParam (subscripted slice false (.ref D) (.int i t) = operate [.ref D, .int i t] (getItem (.ref D) (.int i t))) aUn) :
    wpAny (model prog w) A (subscriptTail value slice (.ref D) (.int i t)) Q E s := by
  subst hi
  exact Hr (b := false) N hm h hs
theorem PJ {value slice : PySem.Expr} {x y : Int} {tx ty : Tok} {n : Nat} {b : Bool} {t : Tok} {Q : Value → Shared → Prop} (N : News h₀ L s.heap led) (hm : (D, PySem.W.listOf #[.int x tx, .int y ty] n) ∈ led) (h : Q (.int (if b = true then y else x) (if b = true then ty else tx)) s)
    (hs : autoParam (subscripted slice false (.ref D) (.int (if b = true then 1 else 0) t) = operate [.ref D, .int (if b = true then 1 else 0) t] (getItem (.ref D) (.int (if b = true then 1 else 0) t))) aUn) :
    wpAny (model prog w) A (subscriptTail value slice (.ref D) (.int (if b = true then 1 else 0) t)) Q E s := Hr N hm (by cases b <;> exact h) hs
theorem To {x y : Int} {tx ty : Tok} {n : Nat} {b : Bool} {t : Tok} {Q : Value → Shared → Prop} (N : News h₀ L s.heap led) (hm : (D, PySem.W.listOf #[.int x tx, .int y ty] n) ∈ led) (h : Q (.int (if b = true then y else x) (if b = true then ty else tx)) s) :
    wpAny (model prog w) A (getItem (.ref D) (.int (if b = true then 1 else 0) t)) Q E s := Gl N hm (by cases b <;> exact h)
theorem PT {g : Obj → List (Addr × Obj)} {x y v : Int} {tx ty tv : Tok} {n : Nat} {b : Bool} {t : Tok} {Q : Unit → Shared → Prop} (F : Fr h₀ L s.heap m) (N : News h₀ L s.heap led) (U : UpdF D (PySem.W.listOf #[.int x tx, .int y ty] n) led g)
    (h : ∀ h', Fr h₀ L h' m → News h₀ L h' (g (PySem.W.listOf #[.int (if b = true then x else v) (if b = true then tx else tv), .int (if b = true then v else y) (if b = true then tv else ty)] n)) → Q () { s with heap := h' }) :
    wpAny (model prog w) A (setItem (.ref D) (.int (if b = true then 1 else 0) t) (.int v tv)) Q E s := Ic F N U fun h' F' N' => h h' F' (by cases b <;> exact N')
end
end
section
set_option rowWalk.seconds 0
theorem Ty : True := by
  k_with "setItem ref int" => (k_here; (refine' PT ?F ?N ?U ?_; (case F => k_asm); (case N => k_asm); (case U => k_updF); intro h' F' N'))
  trivial
set_option genInjectivity false in
set_option genSizeOfSpec false in
structure IK where
  e1 : Int × Tok
  e2 : Int × Tok
  e3 : Int × Tok
  e4 : Int × Tok
  e5 : Int × Tok
  e6 : Int × Tok
  e7 : Int × Tok
  ro : Tok
  ol : Addr
  pl : Addr
  om : Addr
  pm : Addr
  tl : Addr
  wl : Addr
noncomputable abbrev Ev (k : IK) : Obj :=
  dictOf [fld "role" k.e1 (.str (Str.ofString "client") k.ro), fld "own_limits" k.e2 (.ref k.ol), fld "peer_limits" k.e3 (.ref k.pl), fld "own_many" k.e4 (.ref k.om), fld "peer_many" k.e5 (.ref k.pm), fld "told_limits" k.e6 (.ref k.tl), fld "owes_limit" k.e7 (.ref k.wl)] 7
noncomputable abbrev pairO (a : Int) (ta : Tok) (b : Int) (tb : Tok) (n : Nat) : Obj := PySem.W.listOf #[.int a ta, .int b tb] n
noncomputable def EC : T24 (IK → Addr → Addr → Int → Int → Int → Tok → Tok → Tok → Nat → Bool → (Obj → List (Addr × Obj)) → Prop) := fun w pgm loose mean mg mb dp un gd cn cs a ccd cl outer A₀ base h₀ L m s Q E led k ip id a0 a1 v ta0 ta1 t n b g =>
  (Below A₀ base outer h₀) → (Fr h₀ L s.heap m) → ((KK w.params).In h₀) → (Top pgm loose mean mg mb h₀) → (cs.kind = .function) → (News h₀ L s.heap led) → ((ip, instObj 603 id) ∈ led) → ((id, Ev k) ∈ led) → ((k.ol, pairO a0 ta0 a1 ta1 n) ∈ led) → (UpdF k.ol (pairO a0 ta0 a1 ta1 n) led g) → (dp + 2 < recursionLimit) → (un + 20 < cLine) → (∀ (ta tb : Tok) (n' : Nat) (h' : Heap) (tk' : Nat), Fr h₀ L h' m → News h₀ L h' (g (pairO (if b then a0 else max a0 v) ta (if b then max a1 v else a1) tb n')) → Q .none { s with heap := h', toks := tk' }) →
  wpAny (model pw w) (ktrTop dp un gd cn cs L a ccd cl outer) (PySem.call (.ref 574) [.ref ip, .bool b, .int v t]) Q E s
@[irreducible] def AL := eps 6496800 (by walk_at "nonempty") (ccx Dv EC)
theorem Lm : ccx Dv EC AL := by
  intro B F X T hk N m1 m2 m3 U hd hu hret
  have NR : News AL.1.h₀ AL.1.L AL.1.s.heap [(AL.2.1.1.1.2, instObj 603 AL.2.1.1.2), (AL.2.1.1.2, Ev AL.2.1.1.1.1), (AL.2.1.1.1.1.ol, pairO AL.2.1.2.1.1 AL.2.2.1.1.1 AL.2.1.2.1.2 AL.2.2.1.1.2 AL.2.2.2.1.1)] := (by repeat (first | exact News.nil | refine Bh N (by first | assumption | exact m1) ?_))
  have N0 : Hid (News AL.1.h₀ AL.1.L AL.1.s.heap AL.1.led) := N
  have hne : AL.2.1.1.1.2 ≠ AL.2.1.1.1.1.ol := Ar N m1 m3 rfl
  have hne2 : AL.2.1.1.2 ≠ AL.2.1.1.1.1.ol := Ar N m2 m3 rfl
  clear N
  walk_at "kt open"
  k_steps
  rw [SN, Tf] at hret
  refine' hret _ _ _ _ _ ?rF ?rN
  case rN => exact CL N0 NR (by k_asm) (by assumption) U (by k_mem) (by repeat (first | exact fa0 | refine fa1 (fun hn => by first | k_mem | exact absurd rfl hn) ?_))
  case rF => assumption
def HY {w p loose mean mg mb dp un gd cn cs a ccd cl outer A₀ base h₀ L m s Q E led k ip id a0 a1 v ta0 ta1 t n b g} :=
  (EC.eq_1 w p loose mean mg mb dp un gd cn cs a ccd cl outer A₀ base h₀ L m s Q E led k ip id a0 a1 v ta0 ta1 t n b g).mp ((BH (P := ccx Dv EC) AL Lm ((⟨w, p, loose, mean, mg, mb, dp, un, gd, cn, cs, a, ccd, cl, outer, A₀, base, h₀, L, m, s, Q, E, led⟩ : Cx), (((k, ip), id), (a0, a1), v), ((ta0, ta1), t), (n, b), g)))
section
variable {w : World} {p : Program} {loose : List Str} {mean : ExcName → Option Value} {mg mb : Str → Option Value} {dp un : Nat} {gd : Option (List Code)} {cn : Str} {cs : Scope} {a : Addr} {ccd : Value} {cl : List (Str × Addr)} {outer : List Env} {A₀ : Around} {base h₀ : Heap} {L : Addr} {m : Str → Option Value} {s : Shared} {Q E : Value → Shared → Prop} {led led' : List (Addr × Obj)}
variable (B : Below A₀ base outer h₀) (F : Fr h₀ L s.heap m) (X : (KK w.params).In h₀) (T : Top p loose mean mg mb h₀) (hk : cs.kind = .function) (N : News h₀ L s.heap led)
include B F X T hk N
theorem OD {v : Int} {t t1 : Tok} {b : Bool} (hd : dp + 1 < recursionLimit) (hu : un + 8 < cLine)
    (hret : ∀ (t' : Tok) (h' : Heap) (tk' : Nat), Up s.heap h' → Q (.int (4 * v + (if b then 2 else 0)) t') { s with heap := h', toks := tk' }) :
    wpAny (model pw w) (ktrTop dp un gd cn cs L a ccd cl outer) (PySem.call (.ref 511) [.int v t, .str (Str.ofString "client") t1, .bool b]) Q E s := by
  have NR : News h₀ L s.heap [] := News.nil
  clear N
  cases b
  · walk_at "kt open"
    k_steps
    rw [show (4 * v + 0 + 0 : Int) = 4 * v + (if false = true then 2 else 0) by simp]
    exact hret _ _ _ (IB (by assumption))
  · walk_at "kt open"
    k_steps
    rw [show (4 * v + 0 + 2 : Int) = 4 * v + (if true = true then 2 else 0) by simp]
    exact hret _ _ _ (IB (by assumption))
end
theorem Tr : True := by
  k_with "call ref" => (k_here; (with_reducible show wpAny _ _ (PySem.call (Value.ref 511) _) _ _ _); (refine OD (by k_asm) (by k_asm) (by k_asm) (by k_asm) rfl (by k_asm) (by walk_at "rm") (by walk_at "rm") ?_; intro t' h' tk' up'; walk_at "k upd"))
  trivial
noncomputable def Ff : T24 (IK → Addr → Addr → Int → Int → Int → Int → Tok → Tok → Tok → Tok → Nat → Nat → Bool → (Obj → List (Addr × Obj)) → Prop) := fun w pgm loose mean mg mb dp un gd cn cs a ccd cl outer A₀ base h₀ L m s Q E led k ip id a0 a1 c0 c1 ta0 ta1 tc0 tc1 n n' b g =>
  (Below A₀ base outer h₀) → (Fr h₀ L s.heap m) → ((KK w.params).In h₀) → (Top pgm loose mean mg mb h₀) → (cs.kind = .function) → (News h₀ L s.heap led) → ((ip, instObj 603 id) ∈ led) → ((id, Ev k) ∈ led) → ((k.ol, pairO a0 ta0 a1 ta1 n) ∈ led) → ((k.om, pairO c0 tc0 c1 tc1 n') ∈ led) → (UpdF k.om (pairO c0 tc0 c1 tc1 n') led g) → (k.ol ≠ k.om) → (dp + 2 < recursionLimit) → (un + 20 < cLine) → ((if b then a1 else a0) ≤ (if b then c1 else c0) → ∀ (h' : Heap) (tk' : Nat), Up s.heap h' → Q .none { s with heap := h', toks := tk' }) → ((if b then c1 else c0) < (if b then a1 else a0) → ∀ (ta tb t : Tok) (n'' : Nat) (h' : Heap) (tk' : Nat), Fr h₀ L h' m → News h₀ L h' (g (pairO (if b then c0 else c0 + 1) ta (if b then c1 + 1 else c1) tb n'')) → Q (.int (4 * (if b then c1 else c0) + (if b then 2 else 0)) t) { s with heap := h', toks := tk' }) →
  wpAny (model pw w) (ktrTop dp un gd cn cs L a ccd cl outer) (PySem.call (.ref 567) [.ref ip, .bool b]) Q E s
@[irreducible] def AH := eps 7916100 (by walk_at "nonempty") (ccx Jc Ff)
noncomputable def Ga : Stg (F := Heap → Addr → Heap → Heap → Nat → Prop) Cz (ccx Jc Ff AH) := mk5 _ fun K1 => by
  intro B F X T hk N m1 m2 m3 m4 U hne3 hd hu hret0 hret1
  have NR : News AH.1.h₀ AH.1.L AH.1.s.heap [(AH.2.1.1.1.2, instObj 603 AH.2.1.1.2.1), (AH.2.1.1.2.1, Ev AH.2.1.1.1.1), (AH.2.1.1.1.1.ol, pairO AH.2.1.1.2.2 AH.2.1.2.2.2 AH.2.1.2.1.1 AH.2.2.1.1.1 AH.2.2.1.2.2), (AH.2.1.1.1.1.om, pairO AH.2.1.2.1.2 AH.2.2.1.1.2 AH.2.1.2.2.1 AH.2.2.1.2.1 AH.2.2.2.1.1)] := (by repeat (first | exact News.nil | refine Bh N (by first | assumption | exact m1) ?_))
  have N0 : Hid (News AH.1.h₀ AH.1.L AH.1.s.heap AH.1.led) := N
  have hne : AH.2.1.1.1.2 ≠ AH.2.1.1.1.1.om := Ar N m1 m4 rfl
  have hne2 : AH.2.1.1.2.1 ≠ AH.2.1.1.1.1.om := Ar N m2 m4 rfl
  clear N
  walk_at "kt open"
  iterate 12 (first | walk_at "step" | skip)
  try dsimp (zetaDelta := true) only
  rename_i c1_1 c1_2 c1_3 z1 _ _ _ z2 z3 z4 c1_4 _ _
  clear B F hk m1 m2 m3 m4 z1 z2 z3 z4
  walk_at "rv"
  intro K1
  exact K1.p c1_1 c1_2 c1_3 c1_4 tk
@[irreducible] def IH := eps 7916101 (by walk_at "nonempty") (Cz Ga.1)
noncomputable def FZ : Stg (F := Tok → Prop) JR (Cz Ga.1 IH) := mk1 _ fun K2 => by
  intro X T U hne3 hd hu hret0 hret1 NR N0 hne hne2 y12 y13 y14 y15 y16
  iterate 12 (first | walk_at "step" | skip)
  try dsimp (zetaDelta := true) only
  rename_i c2_1
  walk_at "rv"
  intro K2
  exact K2.p c2_1
@[irreducible] def Iv := eps 7916102 (by walk_at "nonempty") (JR FZ.1)
theorem LU : JR FZ.1 Iv := by
  intro X T U hne3 hd hu hret0 hret1 NR N0 hne hne2 y12 y13 y14 y15 y16
  k_steps
  · exact hret0 (UZ (by assumption)) _ _ (Ee NR (by assumption) (by assumption))
  · first | rw [Uz] | rw [Tb]
    refine' hret1 (UV (by assumption)) _ _ _ _ _ _ ?rF ?rN
    case rN =>
      rw [← SS, ← SF]
      exact CL N0 NR (by k_asm) (by assumption) U (by k_mem) (by repeat (first | exact fa0 | refine fa1 (fun hn => by first | k_mem | exact absurd rfl hn) ?_))
    case rF => assumption
def Pb {w p loose mean mg mb dp un gd cn cs a ccd cl outer A₀ base h₀ L m s Q E led k ip id a0 a1 c0 c1 ta0 ta1 tc0 tc1 n n' b g} :=
  (Ff.eq_1 w p loose mean mg mb dp un gd cn cs a ccd cl outer A₀ base h₀ L m s Q E led k ip id a0 a1 c0 c1 ta0 ta1 tc0 tc1 n n' b g).mp ((BH (P := ccx Jc Ff) AH (AQ Ga IH (AQ FZ Iv LU)) ((⟨w, p, loose, mean, mg, mb, dp, un, gd, cn, cs, a, ccd, cl, outer, A₀, base, h₀, L, m, s, Q, E, led⟩ : Cx), (((k, ip), id, a0), (a1, c0), c1, ta0), ((ta1, tc0), tc1, n), (n', b), g)))
end
section
set_option rowWalk.seconds 0
theorem TN : True := by
  k_with "ne" => ((first | assumption | (apply Ne.symm; assumption) | (refine Nat.ne_of_lt ?_; walk_at "lt") | (refine Nat.ne_of_gt ?_; walk_at "lt") | (refine Nat.ne_of_lt (Nat.lt_trans ?_ (by assumption)); walk_at "lt") | (refine Nat.ne_of_gt (Nat.lt_trans ?_ (by assumption)); walk_at "lt")))
  k_with "lt" => (first | assumption | exact And.left (by assumption) | exact And.left (And.right (by assumption)) | exact And.right (by assumption) | exact And.left (And.right (And.right (by assumption))) | exact And.right (And.right (by assumption)) | exact And.left (And.right (And.right (And.right (by assumption)))) | exact And.right (And.right (And.right (by assumption))) | exact And.left (And.right (And.right (And.right (And.right (by assumption))))) | exact And.right (And.right (And.right (And.right (by assumption)))) | exact And.left (And.right (And.right (And.right (And.right (And.right (by assumption)))))) | exact And.right (And.right (And.right (And.right (And.right (by assumption))))) | exact And.left (And.right (And.right (And.right (And.right (And.right (And.right (by assumption))))))) | exact And.right (And.right (And.right (And.right (And.right (And.right (by assumption)))))) | exact And.left (And.right (And.right (And.right (And.right (And.right (And.right (And.right (by assumption)))))))) | exact And.right (And.right (And.right (And.right (And.right (And.right (And.right (by assumption))))))) | exact And.left (And.right (And.right (And.right (And.right (And.right (And.right (And.right (And.right (by assumption))))))))) | exact And.right (And.right (And.right (And.right (And.right (And.right (And.right (And.right (by assumption)))))))) | exact And.left (And.right (And.right (And.right (And.right (And.right (And.right (And.right (And.right (And.right (by assumption)))))))))) | exact And.right (And.right (And.right (And.right (And.right (And.right (And.right (And.right (And.right (by assumption))))))))) | exact And.left (And.right (And.right (And.right (And.right (And.right (And.right (And.right (And.right (And.right (And.right (by assumption))))))))))) | exact And.right (And.right (And.right (And.right (And.right (And.right (And.right (And.right (And.right (And.right (by assumption)))))))))) | exact And.left (And.right (And.right (And.right (And.right (And.right (And.right (And.right (And.right (And.right (And.right (And.right (by assumption)))))))))))) | exact And.right (And.right (And.right (And.right (And.right (And.right (And.right (And.right (And.right (And.right (And.right (by assumption))))))))))) | exact And.left (And.right (And.right (And.right (And.right (And.right (And.right (And.right (And.right (And.right (And.right (And.right (And.right (by assumption))))))))))))) | exact And.right (And.right (And.right (And.right (And.right (And.right (And.right (And.right (And.right (And.right (And.right (And.right (by assumption)))))))))))) | exact And.left (And.right (And.right (And.right (And.right (And.right (And.right (And.right (And.right (And.right (And.right (And.right (And.right (And.right (by assumption)))))))))))))) | exact And.right (And.right (And.right (And.right (And.right (And.right (And.right (And.right (And.right (And.right (And.right (And.right (And.right (by assumption))))))))))))))
  trivial
theorem TF : True := by
  k_with "M open" => (k_dflt (refine' Ij ?k1 ?k2 ?k3 ?k4 ?k5 ?kA ?kF ?kK ?k6 ?k7 ?k8 ?k9 ?kB ?_ ?c5 ?c2 ?c3 ?c4; (case kA => exact rfl); (case kF => exact rfl); (case kK => first | assumption | exact rfl); (case k1 => k_asm); (case k2 => k_asm); (case k3 => k_asm); (case k4 => k_asm); (case k5 => k_asm); (case k6 => k_is); (case k7 => k_is); (case k8 => first | ktr_room | k_room | (dsimp only; omega)); (case k9 => exact BindsTo.of_eq rfl); (case c5 => decide); (case kB => exact locs rfl); (case c2 => exact rfl); (case c3 => exact rfl); (case c4 => exact rfl); k_whole; intro _ _ _ _ _ _ _ _ _ _ _ _; (try dsimp only); (try k_fold)))
  trivial
noncomputable def GB : T24 (Addr → Addr → Int → Int → Int → Int → Tok → Tok → Tok → Tok → Tok → Nat → Nat → Prop) := fun w pgm loose mean mg mb dp un gd cn cs a ccd cl outer A₀ base h₀ L m s Q E led l1 l2 a0 a1 b0 b1 t t1 t2 t3 t4 n1 n2 =>
  (Below A₀ base outer h₀) → (Fr h₀ L s.heap m) → ((KK w.params).In h₀) → (Top pgm loose mean mg mb h₀) → (cs.kind = .function) → (News h₀ L s.heap led) → ((l1, pairO a0 t1 a1 t2 n1) ∈ led) → ((l2, pairO b0 t3 b1 t4 n2) ∈ led) → (dp + 2 < recursionLimit) → (un + 20 < cLine) → (∀ (x d : Addr) (k : IK) (t5 t6 : Tok) (n3 n4 : Nat) (h' : Heap) (tk' : Nat), Fr h₀ L h' m → (∀ q ∈ led, q.1 < d) → d < x → (∀ q ∈ led, q.1 ≠ k.ol) → (∀ q ∈ led, q.1 ≠ k.om) → k.ol ≠ k.om →
      News h₀ L h' ((x, instObj 603 d) :: (d, Ev k) :: (k.ol, pairO a0 t1 a1 t2 n3) :: (k.om, pairO 0 t5 0 t6 n4) :: led) → Q (.ref x) { s with heap := h', toks := tk' }) →
  wpAny (model pw w) (ktrTop dp un gd cn cs L a ccd cl outer) (PySem.call (.ref 603) [.str (Str.ofString "client") t, .ref l1, .ref l2]) Q E s
@[irreducible] def AT := eps 5524000 (by walk_at "nonempty") (ccx CT GB)
noncomputable def HE : Stg (F := Addr → Addr → Heap → Heap → Addr → Heap → Nat → Heap → Addr → Nat → Heap → Heap → Nat → Prop) CT (ccx CT GB AT) := Qb _ fun K1 => by
  intro B F X T hk N m1 m2 hd hu hret
  refine' call_cls ?k1 ?k2 ?k3 ?k4 ?k5 ?k6 ?_
  case k1 => k_asm
  case k2 => k_asm
  case k3 => k_asm
  case k4 => k_is
  case k5 => k_is
  case k6 => k_is
  intro x d h' F' N' l1' l2'
  have N0 : Hid (News AT.1.h₀ AT.1.L h' ((x, instObj 603 d) :: (d, dictOf [] 0) :: AT.1.led)) := N'
  have NR : News AT.1.h₀ AT.1.L h' [(x, instObj 603 d), (d, dictOf [] 0), (AT.2.1.1.1.1, pairO AT.2.1.1.2.1 AT.2.2.1.1.1 AT.2.1.1.2.2 AT.2.2.1.1.2 AT.2.2.2.1.2), (AT.2.1.1.1.2, pairO AT.2.1.2.1.1 AT.2.2.1.2 AT.2.1.2.1.2 AT.2.2.2.1.1 AT.2.2.2.2)] := (by repeat (first | exact News.nil | refine Bh N' (by first | k_mem | exact .tail _ (.tail _ (by assumption))) ?_))
  have hne : x ≠ d := Nat.ne_of_gt l2'
  have q1 : @LT.lt Nat _ AT.2.1.1.1.1 d := l1' _ m1
  have q2 : @LT.lt Nat _ AT.2.1.1.1.2 d := l1' _ m2
  have q3 : @LT.lt Nat _ d x := l2'
  clear N' N
  walk_at "M open"
  generalize AT.1.s.toks + List.length _ = tk0
  iterate 17 walk_at "step"
  try dsimp (zetaDelta := true) only
  rename_i c1_1 c1_2 c1_3 z1 z2 _ _ z3 z4 _ c1_4 c1_5 c1_6 c1_7 _ c1_8 _ _
  clear B F hk m1 m2 hd hu F' q3 z1 z2 z3 z4
  walk_at "rv"
  intro K1
  exact K1.p x d h' c1_1 c1_2 c1_3 tk0 c1_4 c1_5 c1_6 c1_7 c1_8 tk
@[irreducible] def EL := eps 5524001 (by walk_at "nonempty") (CT HE.1)
noncomputable def HD : Stg (F := Addr → Nat → Heap → Heap → Nat → Prop) Cz (CT HE.1 EL) := mk5 _ fun K2 => by
  intro X T hret l1' l2' N0 NR hne q1 q2 y10 y11 y12 y13 y14 y15
  iterate 12 walk_at "step"
  try dsimp (zetaDelta := true) only
  rename_i c2_1 c2_2 c2_3 _ c2_4 _ _
  walk_at "rv"
  intro K2
  exact K2.p c2_1 c2_2 c2_3 c2_4 tk
@[irreducible] def KG := eps 5524002 (by walk_at "nonempty") (Cz HD.1)
noncomputable def Hx : Stg (F := Addr → Heap → Heap → Nat → Prop) Ch (Cz HD.1 KG) := mk4 _ fun K3 => by
  intro X T hret l1' l2' N0 NR hne q1 q2 y10 y11 y12 y13 y14 y15 y16
  iterate 12 walk_at "step"
  try dsimp (zetaDelta := true) only
  rename_i c3_1 c3_2 _ c3_3 _ _
  walk_at "rv"
  intro K3
  exact K3.p c3_1 c3_2 c3_3 tk
@[irreducible] def Kt := eps 5524003 (by walk_at "nonempty") (Ch Hx.1)
noncomputable def HM : Stg (F := Addr → Heap → Heap → Nat → Prop) Ch (Ch Hx.1 Kt) := mk4 _ fun K4 => by
  intro X T hret l1' l2' N0 NR hne q1 q2 y10 y11 y12 y13 y14 y15 y16 y17
  iterate 12 walk_at "step"
  try dsimp (zetaDelta := true) only
  rename_i c4_1 c4_2 _ c4_3 _ _
  walk_at "rv"
  intro K4
  exact K4.p c4_1 c4_2 c4_3 tk
@[irreducible] def Ku := eps 5524004 (by walk_at "nonempty") (Ch HM.1)
noncomputable def Ia : Stg (F := Addr → Nat → Heap → Heap → Nat → Prop) Cz (Ch HM.1 Ku) := mk5 _ fun K5 => by
  intro X T hret l1' l2' N0 NR hne q1 q2 y10 y11 y12 y13 y14 y15 y16 y17 y18
  iterate 12 walk_at "step"
  try dsimp (zetaDelta := true) only
  rename_i c5_1 c5_2 c5_3 _ c5_4 _ _
  clear y11
  walk_at "rv"
  intro K5
  exact K5.p c5_1 c5_2 c5_3 c5_4 tk
@[irreducible] def KD := eps 5524005 (by walk_at "nonempty") (Cz Ia.1)
theorem Nx : Cz Ia.1 KD := by
  intro X T hret l1' l2' N0 NR hne q1 q2 y10 y11 y12 y13 y14 y15 y16 y17 y18
  k_steps
  rename Off _ _ _ => off
  rename News AT.1.h₀ AT.1.L _ _ => Nb
  have Nt : News AT.1.h₀ AT.1.L _ AT.1.led := Ea N0 NR Nb off [EL.1.1.1.2] (fun q hq => .inr ⟨.tail _ (.tail _ hq), by simp only [List.mem_singleton]; exact Nat.ne_of_lt (l1' q hq)⟩) (by repeat (first | exact fa0 | refine fa1 (fun hn => by first | k_mem | exact absurd (by simp) hn) ?_))
  have f1 := AU N0 (by assumption) (by assumption) (.tail _ (.tail _ (.tail _ (.tail _ (.tail _ (.head _)))))) (by repeat (first | exact List.not_mem_nil | refine nm1 (by k_ne) ?_))
  have f2 := AU N0 (by assumption) (by assumption) (.tail _ (.tail _ (.tail _ (.head _)))) (by repeat (first | exact List.not_mem_nil | refine nm1 (by k_ne) ?_))
  refine' hret EL.1.1.1.1 EL.1.1.1.2 ⟨(_, _), (_, _), (_, _), (_, _), (_, _), (_, _), (_, _), _, _, _, _, _, _, _⟩ _ _ _ _ _ _ ?rF l1' l2' (fun q hq => f1 q (.tail _ (.tail _ hq))) (fun q hq => f2 q (.tail _ (.tail _ hq))) ?f3 (AM (AM (AM (AM Nt Nb (.tail _ (.tail _ (.tail _ (.head _))))) Nb (.tail _ (.tail _ (.tail _ (.tail _ (.tail _ (.head _))))))) Nb (.tail _ (.tail _ (.tail _ (.tail _ (.tail _ (.tail _ (.tail _ (.head _))))))))) Nb (.tail _ (.tail _ (.tail _ (.tail _ (.tail _ (.tail _ (.head _))))))))
  case rF => assumption
  case f3 => k_ne
def QG {w p loose mean mg mb dp un gd cn cs a ccd cl outer A₀ base h₀ L m s Q E led l1 l2 a0 a1 b0 b1 t t1 t2 t3 t4 n1 n2} :=
  (GB.eq_1 w p loose mean mg mb dp un gd cn cs a ccd cl outer A₀ base h₀ L m s Q E led l1 l2 a0 a1 b0 b1 t t1 t2 t3 t4 n1 n2).mp ((BH (P := ccx CT GB) AT (AQ HE EL (AQ HD KG (AQ Hx Kt (AQ HM Ku (AQ Ia KD Nx))))) ((⟨w, p, loose, mean, mg, mb, dp, un, gd, cn, cs, a, ccd, cl, outer, A₀, base, h₀, L, m, s, Q, E, led⟩ : Cx), (((l1, l2), a0, a1), (b0, b1), t), ((t1, t2), t3), (t4, n1), n2)))
end
section
set_option rowWalk.seconds 0
theorem TS : True := by
  k_with "subscriptTail" => (k_here; (with_reducible show wpAny _ _ (subscriptTail _ (Expr.Slice _ _ none _) (Value.bytes _ _) (Value.ref _)) _ _ _); (with_reducible rename Fr _ _ _ _ => F'); (with_reducible rename News _ _ _ _ => N'); (refine KBc.slice_K (s := ⟨_, _, _, _, _⟩) F' N' rfl (by constructor) (by constructor) (by rw [KBw.ints_length]; omega) ?_); intro h' t' k' F' N' _)
  k_with "subscriptTail" => (k_here; (with_reducible show wpAny _ _ (subscriptTail _ _ (Value.ref _) (Value.int _ _)) _ _ _); (refine kda_item (knd := PySem.intKind _ _) (by k_asm) (by k_mem) (by k_asm) (intKind_is _ _ _ _) (by first | assumption | rfl) ?_))
  trivial
theorem nm2 {α : Type} {a b : α} {l : List α} (h : a ≠ b) (r : a ∉ l) : a ∉ b :: l := fun hx => (List.mem_cons.mp hx).elim h r
section
variable {w : World} {p : Program} {loose : List Str} {mean : ExcName → Option Value} {mg mb : Str → Option Value} {dp un : Nat} {gd : Option (List Code)} {cn : Str} {cs : Scope} {a : Addr} {ccd : Value} {cl : List (Str × Addr)} {outer : List Env} {A₀ : Around} {base h₀ : Heap} {L : Addr} {m : Str → Option Value} {s : Shared} {Q E : Value → Shared → Prop} {led led' : List (Addr × Obj)}
variable (B : Below A₀ base outer h₀) (F : Fr h₀ L s.heap m) (X : (KK w.params).In h₀) (T : Top p loose mean mg mb h₀) (hk : cs.kind = .function) (N : News h₀ L s.heap led)
include B F X T hk N
omit B F X T hk N in
theorem IY (A : Around) (args : Args) : (A.under (.builtin "type.__call__" args)).units = A.units + 1 := by
  first | rfl | simp [Around.under, Code.cUnits, Code.frames, Code.isFrame]
end
theorem Tn : True := by
  k_with "subscriptTail" => (k_here; (with_reducible show wpAny _ _ (subscriptTail _ (Expr.Slice _ _ none _) (Value.bytes _ _) (Value.ref _)) _ _ _); (with_reducible rename Fr _ _ _ _ => F'); (with_reducible rename News _ _ _ _ => N'); (refine KBc.slice_K (s := ⟨_, _, _, _, _⟩) F' N' rfl (by constructor) (by constructor) (by rw [KBw.ints_length]; omega) ?_); intro h' t' k' F' N' _)
  k_with "subscriptTail" => (k_here; (with_reducible show wpAny _ _ (subscriptTail _ _ (Value.ref _) (Value.int _ _)) _ _ _); (refine kda_item (knd := PySem.intKind _ _) (by k_asm) (by k_mem) (by k_asm) (intKind_is _ _ _ _) (by first | assumption | rfl) ?_))
  k_with "subscriptTail" => (k_here; (with_reducible show wpAny _ _ (subscriptTail _ _ (Value.ref _) (Value.str _ _)) _ _ _); (refine kda_item (knd := PySem.strKind _ _) (by k_asm) (by k_mem) (by k_asm) (strKind_is _ _ _ _) (by assumption) ?_))
  k_with "call ref" => (k_here; (with_reducible show wpAny _ _ (PySem.call (Value.ref 603) _) _ _ _); (refine' QG ?B ?F ?X ?T ?k ?N ?m1 ?m2 ?hd ?hu ?_; (case B => k_asm); (case F => k_asm); (case X => k_asm); (case T => k_asm); (case k => rfl); (case N => k_asm); (case m1 => k_mem); (case m2 => k_mem); (case hd => (first | walk_at "rm" | omega | ktr_room)); (case hu => (first | omega | (dsimp only; omega) | ((try simp only [units_deeper, IY]); (try dsimp only [ktrTop]); omega) | ktr_units)); intro x' d' ki' t5' t6' n3' n4' h' tk' F' l1 l2 f1 f2 f3 N'; (try (have gf10 := f1 _ (.head _); dsimp only at gf10)); (try (have gf20 := f2 _ (.head _); dsimp only at gf20)); (try (have gf11 := f1 _ (.tail _ (.head _)); dsimp only at gf11)); (try (have gf21 := f2 _ (.tail _ (.head _)); dsimp only at gf21)); (try (have gf12 := f1 _ (.tail _ (.tail _ (.head _))); dsimp only at gf12)); (try (have gf22 := f2 _ (.tail _ (.tail _ (.head _))); dsimp only at gf22)); (try (have gf13 := f1 _ (.tail _ (.tail _ (.tail _ (.head _)))); dsimp only at gf13)); (try (have gf23 := f2 _ (.tail _ (.tail _ (.tail _ (.head _)))); dsimp only at gf23)); (try (have gf14 := f1 _ (.tail _ (.tail _ (.tail _ (.tail _ (.head _))))); dsimp only at gf14)); (try (have gf24 := f2 _ (.tail _ (.tail _ (.tail _ (.tail _ (.head _))))); dsimp only at gf24)); (try (have gf15 := f1 _ (.tail _ (.tail _ (.tail _ (.tail _ (.tail _ (.head _)))))); dsimp only at gf15)); (try (have gf25 := f2 _ (.tail _ (.tail _ (.tail _ (.tail _ (.tail _ (.head _)))))); dsimp only at gf25)); (clear f1 f2); k_lt l1; k_lt2 l2))
  k_with "call ref" => (k_here; (with_reducible show wpAny _ _ (PySem.call (Value.ref 115) _) _ _ _); (refine' OA ?B ?F ?X ?T ?k ?N ?hd ?hu ?_; (case B => k_asm); (case F => k_asm); (case X => k_asm); (case T => k_asm); (case k => rfl); (case N => k_asm); (case hd => (first | walk_at "rm" | omega | ktr_room)); (case hu => (first | omega | (dsimp only; omega) | ((try simp only [units_deeper, IY]); (try dsimp only [ktrTop]); omega) | ktr_units)); intro x' d' kc' t1' t2' h' tk' F' l1 l2 N'; k_lt l1; k_lt2 l2))
  k_with "call ref" => (k_here; (with_reducible show wpAny _ _ (PySem.call (Value.ref 164) _) _ _ _); (refine' OK ?B ?F ?X ?T ?k ?N ?hd ?hu ?_; (case B => k_asm); (case F => k_asm); (case X => k_asm); (case T => k_asm); (case k => rfl); (case N => k_asm); (case hd => (first | walk_at "rm" | omega | ktr_room)); (case hu => (first | omega | (dsimp only; omega) | ((try simp only [units_deeper, IY]); (try dsimp only [ktrTop]); omega) | ktr_units)); intro x' h' tk' F' N'))
  trivial
noncomputable def FR : T24 (Addr → Obj → (List (Str × Value)) → Tok → Tok → Tok → Tok → Int → Prop) := fun w pgm loose mean mg mb dp un gd cn cs a ccd cl outer A₀ base h₀ L m s Q E led pa oP kP t t1 t2 t3 v =>
  (Below A₀ base outer h₀) → (Fr h₀ L s.heap m) → ((KK w.params).In h₀) → (Top pgm loose mean mg mb h₀) → (cs.kind = .function) → (News h₀ L s.heap led) → ((pa, oP) ∈ led) → (oP.IsDictOf (PySem.strKind pw w) kP) → (valueAt kP (Str.ofString "initial_max_streams_bidi") = some (.int 2 t1)) → (valueAt kP (Str.ofString "initial_max_streams_uni") = some (.int 1 t2)) → (valueAt kP (Str.ofString "initial_max_data") = some (.int v t3)) → (dp + 6 < recursionLimit) → (un + 40 < cLine) → (∀ (sp ds dc id : Addr) (k : SD) (kc : CS) (ki : IK) (oS oR oW : Obj) (u1 u2 u3 u4 u5 u6 u7 : Tok) (n1 n2 : Nat) (h' : Heap) (tk' : Nat), k.pa = pa → k.pe = .none → Fr h₀ L h' m →
      [ds, dc, id, k.se, k.re, k.ws, pa].Nodup → ki.ol ≠ ki.om → (k.se == sysModules) = false → oS.IsDictOf (PySem.intKind pw w) [] → oR.IsDictOf (PySem.intKind pw w) [] → oW.IsDictOf (PySem.intKind pw w) [] →
      (∀ q ∈ led, q.1 ∉ [sp, ds, k.se, k.cr, dc, k.ids, id, ki.ol, ki.om, k.re, k.ws]) →
      News h₀ L h' ((sp, instObj 790 ds) :: (ds, BF k 0 u1) :: (k.se, oS) :: (k.cr, instObj 115 dc) :: (dc, AI kc 0 u2 0 u3) :: (k.ids, instObj 603 id) :: (id, Ev ki) :: (ki.ol, pairO 0 u4 0 u5 n1) :: (ki.om, pairO 0 u6 0 u7 n2) :: (k.re, oR) :: (k.ws, oW) :: led) → Q (.ref sp) { s with heap := h', toks := tk' }) →
  wpAny (model pw w) (ktrTop dp un gd cn cs L a ccd cl outer) (PySem.call (.ref 790) [.str (Str.ofString "client") t, .ref pa]) Q E s
@[irreducible] def BN := eps 8546900 (by walk_at "nonempty") (ccx Da FR)
noncomputable def GU : Stg (F := Addr → Addr → Heap → Heap → Addr → Heap → Nat → Heap → Heap → Heap → Prop) Df (ccx Da FR BN) := Qp _ fun K1 => by
  intro B F X T hk N m1 hP h1 h2 h3 hd hu hret
  refine' call_cls ?k1 ?k2 ?k3 ?k4 ?k5 ?k6 ?_
  case k1 => k_asm
  case k2 => k_asm
  case k3 => k_asm
  case k4 => k_is
  case k5 => k_is
  case k6 => k_is
  intro x d h' F' N' l1' l2'
  have N0 : Hid (News BN.1.h₀ BN.1.L h' ((x, instObj 790 d) :: (d, dictOf [] 0) :: BN.1.led)) := N'
  have NR : News BN.1.h₀ BN.1.L h' [(x, instObj 790 d), (d, dictOf [] 0), (BN.2.1.1.1, BN.2.1.1.2)] := (by repeat (first | exact News.nil | refine Bh N' (by first | k_mem | exact .tail _ (.tail _ (by assumption))) ?_))
  have hne : x ≠ d := Nat.ne_of_gt l2'
  have q1 : @LT.lt Nat _ BN.2.1.1.1 d := l1' _ m1
  have q3 : @LT.lt Nat _ d x := l2'
  clear N' N
  walk_at "M open"
  generalize BN.1.s.toks + List.length _ = tk0
  iterate 16 walk_at "step"
  try dsimp (zetaDelta := true) only
  rename_i c1_1 c1_2 c1_3 _ _ _ _ _ _ _ c1_4 c1_5 c1_6 _ _
  walk_at "rv"
  intro K1
  exact K1.p x d h' c1_1 c1_2 c1_3 tk0 c1_4 c1_5 c1_6
@[irreducible] def DF := eps 8546901 (by walk_at "nonempty") (Df GU.1)
noncomputable def Gt : Stg (F := Addr → Addr → Heap → Addr → Addr → IK → Tok → Tok → Nat → Nat → Heap → Nat → Heap → Nat → Prop) FJ (Df GU.1 DF) := UO _ fun K2 => by
  intro B
  walk_at "in"
  iterate 35 walk_at "step"
  try dsimp (zetaDelta := true) only
  rename_i c2_1 _ _ c2_3 c2_4 _ c2_5 _ _
  walk_at "rv"
  intro K2
  exact K2.p c2_1 c2_3 c2_4 x' d' ki' t5' t6' n3' n4' h' tk' c2_5 tk
@[irreducible] def Jx := eps 8546902 (by walk_at "nonempty") (FJ Gt.1)
noncomputable def GW : Stg (F := Addr → Addr → CS → Tok → Tok → Heap → Nat → Heap → Nat → Prop) ET (FJ Gt.1 Jx) := mk9 _ fun K3 => by
  intro B
  walk_at "in"
  have l1 := l1_2
  clear l1_2
  iterate 13 walk_at "step"
  try dsimp (zetaDelta := true) only
  rename_i c3_1 _ _
  walk_at "rv"
  intro K3
  exact K3.p x' d' kc' t1' t2' h' tk' c3_1 tk
@[irreducible] def Jg := eps 8546903 (by walk_at "nonempty") (ET GW.1)
noncomputable def GA : Stg (F := Addr → Heap → Nat → Heap → Nat → Prop) Cz (ET GW.1 Jg) := mk5 _ fun K4 => by
  intro B
  walk_at "in"
  have l1 := l1_3
  clear l1_3
  have l2 := l2_1
  clear l2_1
  iterate 16 walk_at "step"
  try dsimp (zetaDelta := true) only
  rename_i c4_1 _ _
  walk_at "rv"
  intro K4
  exact K4.p x' h' tk' c4_1 tk
@[irreducible] def JD := eps 8546904 (by walk_at "nonempty") (Cz GA.1)
noncomputable def GT : Stg (F := Addr → Heap → Obj → Heap → Addr → Heap → Obj → Heap → Prop) Da (Cz GA.1 JD) := mk8 _ fun K5 => by
  intro B
  walk_at "in"
  have l1 := l1_3
  clear l1_3
  have l2 := l2_1
  clear l2_1
  iterate 10 walk_at "step"
  try dsimp (zetaDelta := true) only
  rename_i c5_1 c5_2 c5_3 _ _ _ _ _ _ c5_4 c5_5 c5_6 c5_7 _ _ _ _ _ _ c5_8 _ _
  walk_at "rv"
  intro K5
  exact K5.p c5_1 c5_2 c5_3 c5_4 c5_5 c5_6 c5_7 c5_8
@[irreducible] def Jw := eps 8546905 (by walk_at "nonempty") (Da GT.1)
noncomputable def Gx : Stg (F := Addr → Heap → Obj → Heap → Addr → Heap → Heap → Nat → Prop) Da (Da GT.1 Jw) := mk8 _ fun K6 => by
  intro B
  walk_at "in"
  have l1 := l1_3
  clear l1_3
  have l2 := l2_1
  clear l2_1
  iterate 13 walk_at "step"
  try dsimp (zetaDelta := true) only
  rename_i c6_1 c6_2 c6_3 _ _ _ _ _ _ c6_4 c6_5 c6_6 _ c6_7 _ _
  walk_at "rv"
  intro K6
  exact K6.p c6_1 c6_2 c6_3 c6_4 c6_5 c6_6 c6_7 tk
@[irreducible] def Jm := eps 8546906 (by walk_at "nonempty") (Da Gx.1)
noncomputable def GL : Stg (F := Addr → Heap → Obj → Heap → Addr → Heap → Heap → Nat → Prop) Da (Da Gx.1 Jm) := mk8 _ fun K7 => by
  intro B
  walk_at "in"
  have l1 := l1_3
  clear l1_3
  have l2 := l2_1
  clear l2_1
  iterate 13 walk_at "step"
  try dsimp (zetaDelta := true) only
  rename_i c7_1 c7_2 c7_3 _ _ _ _ _ _ c7_4 c7_5 c7_6 _ c7_7 _ _
  walk_at "rv"
  intro K7
  exact K7.p c7_1 c7_2 c7_3 c7_4 c7_5 c7_6 c7_7 tk
@[irreducible] def JE := eps 8546907 (by walk_at "nonempty") (Da GL.1)
theorem MV : Da GL.1 JE := by
  intro B
  walk_at "in"
  have l1 := l1_3
  clear l1_3
  have l2 := l2_1
  clear l2_1
  k_steps
  rename Off _ _ _ => off
  rename News BN.1.h₀ BN.1.L _ _ => Nb
  have Nt : News BN.1.h₀ BN.1.L _ BN.1.led := Ea N0 NR Nb off [DF.1.1.1.2] (fun q hq => .inr ⟨.tail _ (.tail _ hq), by simp only [List.mem_singleton]; exact Nat.ne_of_lt (l1' q hq)⟩) (by repeat (first | exact fa0 | refine fa1 (fun hn => by first | k_mem | exact absurd (by simp) hn) ?_))
  have f_se := AU N0 (by assumption) (by assumption) (.tail _ (.tail _ (.tail _ (.tail _ (.tail _ (.tail _ (.head _))))))) (by repeat (first | exact List.not_mem_nil | refine nm1 (by k_ne) ?_))
  have f_cr := AU N0 (by assumption) (by assumption) (.tail _ (.tail _ (.tail _ (.tail _ (.tail _ (.tail _ (.tail _ (.head _)))))))) (by repeat (first | exact List.not_mem_nil | refine nm1 (by k_ne) ?_))
  have f_dc := AU N0 (by assumption) (by assumption) (.tail _ (.tail _ (.tail _ (.tail _ (.tail _ (.tail _ (.tail _ (.tail _ (.head _))))))))) (by repeat (first | exact List.not_mem_nil | refine nm1 (by k_ne) ?_))
  have f_ids := AU N0 (by assumption) (by assumption) (.tail _ (.tail _ (.tail _ (.tail _ (.tail _ (.tail _ (.tail _ (.tail _ (.tail _ (.head _)))))))))) (by repeat (first | exact List.not_mem_nil | refine nm1 (by k_ne) ?_))
  have f_id := AU N0 (by assumption) (by assumption) (.tail _ (.tail _ (.tail _ (.tail _ (.tail _ (.tail _ (.tail _ (.tail _ (.tail _ (.tail _ (.head _))))))))))) (by repeat (first | exact List.not_mem_nil | refine nm1 (by k_ne) ?_))
  have f_ol := AU N0 (by assumption) (by assumption) (.tail _ (.tail _ (.tail _ (.tail _ (.tail _ (.tail _ (.tail _ (.tail _ (.tail _ (.tail _ (.tail _ (.head _)))))))))))) (by repeat (first | exact List.not_mem_nil | refine nm1 (by k_ne) ?_))
  have f_om := AU N0 (by assumption) (by assumption) (.tail _ (.tail _ (.tail _ (.tail _ (.tail _ (.tail _ (.tail _ (.tail _ (.tail _ (.tail _ (.tail _ (.tail _ (.head _))))))))))))) (by repeat (first | exact List.not_mem_nil | refine nm1 (by k_ne) ?_))
  have f_re := AU N0 (by assumption) (by assumption) (.tail _ (.tail _ (.tail _ (.tail _ (.tail _ (.head _)))))) (by repeat (first | exact List.not_mem_nil | refine nm1 (by k_ne) ?_))
  have f_ws := AU N0 (by assumption) (by assumption) (.tail _ (.tail _ (.tail _ (.tail _ (.head _))))) (by repeat (first | exact List.not_mem_nil | refine nm1 (by k_ne) ?_))
  refine' hret DF.1.1.1.1 DF.1.1.1.2 _ _ ⟨(_, _), (_, _), (_, _), (_, _), (_, _), (_, _), (_, _), (_, _), (_, _), (_, _), (_, _), (_, _), (_, _), (_, _), _, _, _, _, _, _, _, _, _, _, _, _, _⟩ _ _ _ _ _ _ _ _ _ _ _ _ _ _ _ _ rfl rfl ?rF ?nd ?nl ?sy ?dS ?dR ?dW ?fr (AM (AM (AM (AM (AM (AM (AM (AM (AM (AM (AM Nt Nb (.tail _ (.tail _ (.tail _ (.tail _ (.head _)))))) Nb (.tail _ (.tail _ (.tail _ (.tail _ (.tail _ (.head _))))))) Nb (.tail _ (.tail _ (.tail _ (.tail _ (.tail _ (.tail _ (.tail _ (.tail _ (.tail _ (.tail _ (.tail _ (.tail _ (.head _)))))))))))))) Nb (.tail _ (.tail _ (.tail _ (.tail _ (.tail _ (.tail _ (.tail _ (.tail _ (.tail _ (.tail _ (.tail _ (.head _))))))))))))) Nb (.tail _ (.tail _ (.tail _ (.tail _ (.tail _ (.tail _ (.tail _ (.tail _ (.tail _ (.tail _ (.head _)))))))))))) Nb (.tail _ (.tail _ (.tail _ (.tail _ (.tail _ (.tail _ (.tail _ (.tail _ (.tail _ (.head _))))))))))) Nb (.tail _ (.tail _ (.tail _ (.tail _ (.tail _ (.tail _ (.tail _ (.tail _ (.head _)))))))))) Nb (.tail _ (.tail _ (.tail _ (.tail _ (.tail _ (.tail _ (.tail _ (.head _))))))))) Nb (.tail _ (.tail _ (.tail _ (.tail _ (.tail _ (.tail _ (.head _)))))))) Nb (.tail _ (.tail _ (.tail _ (.tail _ (.tail _ (.tail _ (.tail _ (.tail _ (.tail _ (.tail _ (.tail _ (.tail _ (.tail _ (.tail _ (.tail _ (.tail _ (.head _)))))))))))))))))) Nb (.tail _ (.tail _ (.tail _ (.tail _ (.tail _ (.tail _ (.tail _ (.tail _ (.tail _ (.tail _ (.tail _ (.tail _ (.tail _ (.tail _ (.tail _ (.head _)))))))))))))))))
  case rF => assumption
  case nl => assumption
  case sy => assumption
  case dS => assumption
  case dR => assumption
  case dW => assumption
  case nd => repeat' (first | exact List.nodup_nil | refine List.nodup_cons.mpr ⟨by repeat (first | exact List.not_mem_nil | refine nm2 (by k_ne) ?_), ?_⟩)
  case fr =>
    intro q hq
    have y1 := l1' q hq
    have y2 : q.1 < DF.1.1.1.1 := Nat.lt_trans y1 l2'
    exact nm2 (Nat.ne_of_lt y2) (nm2 (Nat.ne_of_lt y1) (nm2 (f_se q (.tail _ (.tail _ hq))) (nm2 (f_cr q (.tail _ (.tail _ hq))) (nm2 (f_dc q (.tail _ (.tail _ hq))) (nm2 (f_ids q (.tail _ (.tail _ hq))) (nm2 (f_id q (.tail _ (.tail _ hq))) (nm2 (f_ol q (.tail _ (.tail _ hq))) (nm2 (f_om q (.tail _ (.tail _ hq))) (nm2 (f_re q (.tail _ (.tail _ hq))) (nm2 (f_ws q (.tail _ (.tail _ hq))) (List.not_mem_nil)))))))))))
def PV {w p loose mean mg mb dp un gd cn cs a ccd cl outer A₀ base h₀ L m s Q E led pa oP kP t t1 t2 t3 v} :=
  (FR.eq_1 w p loose mean mg mb dp un gd cn cs a ccd cl outer A₀ base h₀ L m s Q E led pa oP kP t t1 t2 t3 v).mp ((BH (P := ccx Da FR) BN (AQ GU DF (AQ Gt Jx (AQ GW Jg (AQ GA JD (AQ GT Jw (AQ Gx Jm (AQ GL JE MV))))))) ((⟨w, p, loose, mean, mg, mb, dp, un, gd, cn, cs, a, ccd, cl, outer, A₀, base, h₀, L, m, s, Q, E, led⟩ : Cx), ((pa, oP), kP, t), (t1, t2), t3, v)))
end
section
set_option genInjectivity false in
set_option genSizeOfSpec false in
structure Side where
  sp : Addr
  ds : Addr
  dc : Addr
  id : Addr
  k : SD
  kc : CS
  ki : IK
  turn : Int
  t0 : Tok
  dl : Int
  t5 : Tok
  used : Int
  t6 : Tok
  oS : Obj
  oR : Obj
  oW : Obj
  a0 : Int
  ta0 : Tok
  a1 : Int
  ta1 : Tok
  n1 : Nat
  c0 : Int
  tc0 : Tok
  c1 : Int
  tc1 : Tok
  n2 : Nat
  oP : Obj
  ps : List (Int × Part)
noncomputable abbrev Side.fix (S : Side) : List (Addr × Obj) := [(S.sp, instObj 790 S.ds), (S.ds, BF S.k S.turn S.t0), (S.k.se, S.oS), (S.k.cr, instObj 115 S.dc), (S.dc, AI S.kc S.dl S.t5 S.used S.t6), (S.k.ids, instObj 603 S.id), (S.id, Ev S.ki),
  (S.ki.ol, pairO S.a0 S.ta0 S.a1 S.ta1 S.n1), (S.ki.om, pairO S.c0 S.tc0 S.c1 S.tc1 S.n2), (S.k.re, S.oR), (S.k.ws, S.oW), (S.k.pa, S.oP)]
noncomputable def Side.objs (S : Side) : List (Addr × Obj) := S.fix ++ Bv S.ps
structure Side.Ok (w : World) (S : Side) (kP : List (Str × Value)) : Prop where
  nd : [S.ds, S.dc, S.id, S.k.se, S.k.re, S.k.ws, S.k.pa].Nodup
  nl : S.ki.ol ≠ S.ki.om
  sys : (S.k.se == sysModules) = false
  dS : S.oS.IsDictOf (PySem.intKind pw w) (Cj S.ps)
  dR : ∃ kR : List (Int × Value), S.oR.IsDictOf (PySem.intKind pw w) kR ∧ kR.length ≤ S.ps.length
  dW : ∃ kW : List (Int × Value), S.oW.IsDictOf (PySem.intKind pw w) kW ∧ kW.length ≤ S.ps.length
  dP : S.oP.IsDictOf (PySem.strKind pw w) kP
end
section
noncomputable def upP (ps : List (Int × Part)) (sid : Int) (x' : Part) : List (Int × Part) := ps.map fun y => if y.1 = sid then (y.1, x') else y
theorem OB (ps : List (Int × Part)) (sid : Int) (x' : Part) : (upP ps sid x').map (·.1) = ps.map (·.1) := by
  unfold upP
  rw [List.map_map]
  refine List.map_congr_left fun y _ => ?_
  show (if y.1 = sid then (y.1, x') else y).1 = y.1
  split <;> rfl
theorem Gu {ps : List (Int × Part)} {sid : Int} {x' : Part} {q : Int × Part} (h : q ∈ upP ps sid x') : (q = (sid, x') ∧ ∃ y ∈ ps, y.1 = sid) ∨ (q ∈ ps ∧ q.1 ≠ sid) := by
  obtain ⟨y, hy, e⟩ := List.mem_map.mp h
  by_cases c : y.1 = sid
  · rw [if_pos c] at e
    exact .inl ⟨by rw [← e, c], y, hy, c⟩
  · rw [if_neg c] at e
    subst e
    exact .inr ⟨hy, c⟩
noncomputable def sig (x : Int × Part) : Int × Addr × Addr × Int × Array UInt8 := (x.1, x.2.p, x.2.d, x.2.lim, x.2.wr)
theorem RY {ps : List (Int × Part)} {x : Int × Part} {x' : Part} (hnd : (ps.map (·.1)).Nodup) (hx : x ∈ ps) (e : sig (x.1, x') = sig x) : (upP ps x.1 x').map sig = ps.map sig := by
  unfold upP
  rw [List.map_map]
  refine List.map_congr_left fun y hy => ?_
  show sig (if y.1 = x.1 then (y.1, x') else y) = sig y
  by_cases c : y.1 = x.1
  · have := Di hnd hy hx c
    subst this
    rw [if_pos rfl]; exact e
  · rw [if_neg c]
noncomputable def FW (ps : List (Int × Part)) : Int := (ps.map fun x => x.2.snt).sum
theorem Ls : ∀ {ps : List (Int × Part)} {x : Int × Part} {x' : Part}, (ps.map (·.1)).Nodup → x ∈ ps → FW (upP ps x.1 x') = FW ps - x.2.snt + x'.snt
  | [], _, _, _, h => by cases h
  | y :: r, x, x', hn, hx => by
    have hn' := hn
    rw [List.map_cons, List.nodup_cons] at hn
    have e1 : FW (y :: r) = y.2.snt + FW r := by simp [FW]
    have e2 : FW (upP (y :: r) x.1 x') = (if y.1 = x.1 then (y.1, x') else y).2.snt + FW (upP r x.1 x') := by simp [FW, upP]
    rw [e1, e2]
    by_cases c : y.1 = x.1
    · have := Di hn' (.head _) hx c
      subst this
      rw [if_pos rfl]
      have e3 : upP r y.1 x' = r := by
        unfold upP
        rw [List.map_congr_left (g := id) (fun z hz => by
          show (if z.1 = y.1 then (z.1, x') else z) = z
          rw [if_neg fun e => hn.1 (List.mem_map.mpr ⟨z, hz, e⟩)])]
        simp
      rw [e3]
      show x'.snt + FW r = y.2.snt + FW r - y.2.snt + x'.snt
      lia
    · rw [if_neg c]
      have hx' : x ∈ r := by
        rcases List.mem_cons.mp hx with e | h
        · exact absurd (by rw [e]) c
        · exact h
      have ih := Ls (x' := x') hn.2 hx'
      rw [ih]
      lia
structure Inv (dl : Int) (ps ps' : List (Int × Part)) (used : Int) : Prop where
  sg : ps'.map sig = ps.map sig
  us : used = FW ps'
  le : used ≤ dl
  ok : ∀ x ∈ ps', x.2.ok ∧ 0 ≤ x.2.snt ∧ x.2.snt ≤ x.2.wr.size ∧ x.2.snt ≤ x.2.lim
theorem Inv.keys {dl : Int} {ps ps' : List (Int × Part)} {used : Int} (h : Inv dl ps ps' used) : ps'.map (·.1) = ps.map (·.1) := by
  have := congrArg (List.map (·.1)) h.sg
  rw [List.map_map, List.map_map] at this
  exact this
theorem Inv.kvs {dl : Int} {ps ps' : List (Int × Part)} {used : Int} (h : Inv dl ps ps' used) : Cj ps' = Cj ps := by
  have := congrArg (List.map fun q => (q.1, Value.ref q.2.1)) h.sg
  rw [List.map_map, List.map_map] at this
  exact this
theorem Inv.ds {dl : Int} {ps ps' : List (Int × Part)} {used : Int} (h : Inv dl ps ps' used) : ps'.map (·.2.d) = ps.map (·.2.d) := by
  have := congrArg (List.map fun q => q.2.2.1) h.sg
  rw [List.map_map, List.map_map] at this
  exact this
theorem Ld {x : Part} {r c : Int} (hc : c = x.chunk r) (h0 : 0 < c) : c ≤ x.wr.size - x.snt ∧ c ≤ x.lim - x.snt ∧ c ≤ r := by
  exact LJ (Int.le_trans (Int.le_of_eq (Ss hc h0)) (Int.min_le_right _ _)) h0
theorem PR {x : Part} {r : Int} (h : 0 < x.room r) : x.chunk r ≠ 0 := by
  unfold Part.room at h
  unfold Part.chunk KU Ra
  split <;> omega
theorem Inv.step {dl : Int} {ps ps' : List (Int × Part)} {used c : Int} {x : Int × Part} {x' : Part} (h : Inv dl ps ps' used) (hnd : (ps.map (·.1)).Nodup) (hx : x ∈ ps') (hc : c = x.2.chunk (dl - used)) (h0 : 0 < c) (e : sig (x.1, x') = sig x) (es : x'.snt = x.2.snt + c) (hl : PZ x'.st) : Inv dl ps (upP ps' x.1 x') (used + c) := by
  have hnd' : (ps'.map (·.1)).Nodup := by rw [h.keys]; exact hnd
  obtain ⟨b1, b2, b3⟩ := Ld hc h0
  refine ⟨(RY hnd' hx e).trans h.sg, ?_, by lia, fun q hq => ?_⟩
  · rw [Ls hnd' hx, es, h.us]; lia
  · rcases Gu hq with ⟨rfl, _⟩ | ⟨hq, _⟩
    · have k := h.ok x hx
      have e1 : x'.lim = x.2.lim := congrArg (fun q => q.2.2.2.1) e
      have e2 : x'.wr = x.2.wr := congrArg (fun q => q.2.2.2.2) e
      refine ⟨⟨hl, by rw [e2]; exact k.1.2⟩, ?_⟩
      show 0 ≤ x'.snt ∧ x'.snt ≤ x'.wr.size ∧ x'.snt ≤ x'.lim
      rw [es, e1, e2]
      lia
    · exact h.ok q hq
end
section
noncomputable def pre (wr : Array UInt8) (n : Int) : Array UInt8 := (wr.toList.take n.toNat).toArray
theorem Js {wr : Array UInt8} {n : Int} (h0 : 0 ≤ n) (h1 : n ≤ wr.size) : ((pre wr n).size : Int) = n := by
  unfold pre
  simp only [List.size_toArray, List.length_take, Array.length_toList]
  lia
theorem Re (wr : Array UInt8) : pre wr 0 = #[] := by simp [pre]
theorem Lh {k : Nat} {n : Int} (h0 : 0 ≤ n) (h1 : n ≤ k) : clipAt k n = n.toNat := by unfold clipAt; split <;> lia
theorem RP {wr : Array UInt8} {n c : Int} (h0 : 0 ≤ n) (hc : 0 ≤ c) (h1 : n + c ≤ wr.size) : pre wr n ++ KBy.picked wr (some n) (some (n + c)) = pre wr (n + c) := by
  have e1 : clipAt wr.size n = n.toNat := Lh h0 (by lia)
  have e2 : clipAt wr.size (n + c) = (n + c).toNat := Lh (by lia) h1
  rw [KBc.picked_eq]
  simp only [Option.elim, e1, e2, pre]
  apply Array.toList_inj.mp
  simp only [Array.toList_append, List.toList_toArray]
  rw [show (n + c).toNat = n.toNat + ((n + c).toNat - n.toNat) by lia, List.take_add]
  simp
structure GotOk (gvs : List (Int × Value)) (ps : List (Int × Part)) : Prop where
  keys : gvs.map (·.1) = ps.map (·.1)
  val : ∀ x ∈ ps, ∃ t, valueAt gvs x.1 = some (.bytes (pre x.2.wr x.2.snt) t)
theorem HH {gvs : List (Int × Value)} {k j : Int} {v : Value} (h : k ∈ gvs.map (·.1)) : valueAt (stored gvs k v) j = if j = k then some v else valueAt gvs j := by
  have hany : gvs.any (fun kv => decide (kv.1 = k)) = true := by
    obtain ⟨y, hy, e⟩ := List.mem_map.mp h
    exact List.any_eq_true.mpr ⟨y, hy, decide_eq_true e⟩
  unfold stored
  rw [if_pos hany]
  clear hany
  induction gvs with
  | nil => cases h
  | cons y r ih =>
    unfold valueAt at ih ⊢
    rw [List.map_cons, List.find?_cons, List.find?_cons]
    by_cases hj : j = k
    · subst hj
      rw [if_pos rfl]
      by_cases hy : y.1 = j
      · simp [hy]
      · simp only [hy, if_false, decide_false]
        have := ih (by
          rcases List.mem_cons.mp h with e | h
          · exact absurd e.symm hy
          · exact h)
        rw [if_pos rfl] at this
        exact this
    · rw [if_neg hj]
      have e1 : (if y.1 = k then (y.1, v) else y).1 = y.1 := by split <;> rfl
      rw [e1]
      by_cases hy : y.1 = j
      · have hk : ¬ y.1 = k := fun e => hj (hy.symm.trans e)
        simp [hy, hj]
      · simp only [hy, decide_false]
        by_cases hr : k ∈ r.map (·.1)
        · have := ih hr
          rw [if_neg hj] at this
          exact this
        · have e2 : r.map (fun kv => if kv.1 = k then (kv.1, v) else kv) = r := by
            rw [List.map_congr_left (g := id) (fun z hz => by
              show (if z.1 = k then (z.1, v) else z) = z
              rw [if_neg fun e => hr (List.mem_map.mpr ⟨z, hz, e⟩)])]
            simp
          rw [e2]
theorem OF {gvs : List (Int × Value)} {k : Int} {v : Value} (h : k ∈ gvs.map (·.1)) : (stored gvs k v).map (·.1) = gvs.map (·.1) := by
  have hany : gvs.any (fun kv => decide (kv.1 = k)) = true := by
    obtain ⟨y, hy, e⟩ := List.mem_map.mp h
    exact List.any_eq_true.mpr ⟨y, hy, decide_eq_true e⟩
  unfold stored
  rw [if_pos hany, List.map_map]
  refine List.map_congr_left fun y _ => ?_
  show (if y.1 = k then (y.1, v) else y).1 = y.1
  split <;> rfl
theorem GotOk.step {gvs : List (Int × Value)} {ps : List (Int × Part)} {x : Int × Part} {x' : Part} {t : Tok} (h : GotOk gvs ps) (hnd : (ps.map (·.1)).Nodup) (hx : x ∈ ps) (ew : x'.wr = x.2.wr) : GotOk (stored gvs x.1 (.bytes (pre x.2.wr x'.snt) t)) (upP ps x.1 x') := by
  have hk : x.1 ∈ gvs.map (·.1) := by rw [h.keys]; exact List.mem_map.mpr ⟨x, hx, rfl⟩
  refine ⟨by rw [OF hk, OB, h.keys], fun q hq => ?_⟩
  rcases Gu hq with ⟨rfl, _⟩ | ⟨hq, hne⟩
  · exact ⟨t, by rw [HH hk, if_pos rfl]; show some (Value.bytes (pre x.2.wr x'.snt) t) = some (Value.bytes (pre x'.wr x'.snt) t); rw [ew]⟩
  · obtain ⟨u, hu⟩ := h.val q hq
    exact ⟨u, by rw [HH hk, if_neg hne]; exact hu⟩
end
section
set_option rowWalk.seconds 0
theorem SE : True := by
  k_with "ne" => (first | assumption | (apply Ne.symm; assumption))
  trivial
theorem Sw : True := by
  k_with "ne" => (first | assumption | (apply Ne.symm; assumption))
  k_with "ne" => (first | assumption | (apply Ne.symm; assumption))
  k_with "all" => ((refine Na ?_; simp only [List.mem_cons, true_or, or_true]))
  k_with "all" => ((refine HA (by assumption) (by ((try dsimp only); omega))))
  k_with "call builtin:sorted" => (k_here; refine' Ny (prog := pw) rfl ?F ?N ?m ?d ?s ?l ?_; (case F => k_asm); (case N => k_asm); (case m => k_mem); (case d => k_asm); (case s => k_asm); (case l => assumption); intro D vs' ns' c' h' tk' F' N' l1' hi' hp')
  trivial
noncomputable abbrev frO (sid snt : Int) (b : Array UInt8) (ta tb tc td : Tok) : Obj := { cls := .type "tuple", dict := none, data := .seq #[.str (Str.ofString "stream") ta, .int sid tb, .int snt tc, .bytes b td, .bool false] 0, slots := #[] }
section
variable {w : World} {p : Program} {loose : List Str} {mean : ExcName → Option Value} {mg mb : Str → Option Value} {dp un : Nat} {gd : Option (List Code)} {cn : Str} {cs : Scope} {a : Addr} {ccd : Value} {cl : List (Str × Addr)} {outer : List Env} {A₀ : Around} {base h₀ : Heap} {L : Addr} {m : Str → Option Value} {s : Shared} {Q E : Value → Shared → Prop} {led led' : List (Addr × Obj)}
variable (B : Below A₀ base outer h₀) (F : Fr h₀ L s.heap m) (X : (KK w.params).In h₀) (T : Top p loose mean mg mb h₀) (hk : cs.kind = .function) (N : News h₀ L s.heap led)
include B F X T hk N
theorem MJ {k : SD} {kc : CS} {sp ds dc : Addr} {oS : Obj} {turn dl used : Int} {t0 t5 t6 t7 t8 : Tok} {ps : List (Int × Part)} {x : Int × Part}
    (m1 : (sp, instObj 790 ds) ∈ led) (m2 : (ds, BF k turn t0) ∈ led) (m3 : (k.se, oS) ∈ led) (hS : oS.IsDictOf (PySem.intKind pw w) (Cj ps))
    (m7 : (k.cr, instObj 115 dc) ∈ led) (m8 : (dc, AI kc dl t5 used t6) ∈ led) (mp : ∀ q ∈ Bv ps, q ∈ led) (hnd : (ps.map (·.1)).Nodup) (hx : x ∈ ps) (hok : x.2.ok) (hs : 0 ≤ x.1 ∧ x.1 < 64) (ho : 0 ≤ x.2.snt ∧ x.2.snt < 64) (ne4 : k.se ≠ x.2.d) (ne5 : k.se ≠ dc)
    (hd : dp + 8 < recursionLimit) (hu : un + 90 < cLine)
    (hret0 : x.2.chunk (dl - used) = 0 → ∀ (h' : Heap) (tk' : Nat), Fr h₀ L h' m → News h₀ L h' led → Q .none { s with heap := h', toks := tk' })
    (hret1 : ∀ c, c = x.2.chunk (dl - used) → 0 < c → ∀ (f lo' : Addr) (ta tb tc td te tf : Tok) (h' : Heap) (tk' : Nat), Fr h₀ L h' m → (∀ q ∈ led, q.1 ≠ f) → (∀ q ∈ led, q.1 ≠ lo') →
      News h₀ L h' ((f, frO x.1 x.2.snt (KBy.picked x.2.wr (some x.2.snt) (some (x.2.snt + c))) ta t7 tb tc) :: (lo', listOf #[] 0) :: (x.2.d, Ca x.2.k x.2.lim x.2.t1 (Str.ofString "send") td x.2.wr x.2.t3 (x.2.snt + c) te lo') :: (dc, AI kc dl t5 (used + c) tf) :: but led [x.2.d, dc]) → Q (.ref f) { s with heap := h', toks := tk' }) :
    wpI (model pw w) (ktrTop dp un gd cn cs L a ccd cl outer) (PySem.call (.ref 773) [.ref sp, .int x.1 t7, .int 12 t8]) Q E s := by
  have x1 : (x.2.p, instObj 498 x.2.d) ∈ led := mp _ (Bs hx (.head _))
  have x2 : (x.2.d, Ca x.2.k x.2.lim x.2.t1 x.2.st x.2.t2 x.2.wr x.2.t3 x.2.snt x.2.t4 x.2.lo) ∈ led := mp _ (Bs hx (.tail _ (.head _)))
  have x3 : (x.2.lo, listOf #[] x.2.n) ∈ led := mp _ (Bs hx (.tail _ (.tail _ (.head _))))
  have all := QW N x2 m8
  have n0 : x.2.d ≠ dc := DD N x2 m8 (show (11 : Nat) ≠ 3 by decide)
  have sub : ∀ q ∈ (x.2.d, Ca x.2.k x.2.lim x.2.t1 x.2.st x.2.t2 x.2.wr x.2.t3 x.2.snt x.2.t4 x.2.lo) :: (dc, AI kc dl t5 used t6) :: but led [x.2.d, dc], q ∈ led := fun q hq => by
    rcases List.mem_cons.mp hq with rfl | hq
    · exact x2
    · rcases List.mem_cons.mp hq with rfl | hq
      · exact m8
      · exact (CA.mp hq).1
  have N1 := news_sub N sub
  have hb : ∀ q ∈ but led [x.2.d, dc], q.1 ≠ x.2.d := Na (.head _)
  have hb2 : ∀ q ∈ but led [x.2.d, dc], q.1 ≠ dc := Na (.tail _ (.head _))
  refine Cm B F X T hk N1 (g1 := fun o' => (x.2.d, o') :: (dc, AI kc dl t5 used t6) :: but led [x.2.d, dc]) (g2 := fun o' u' => (x.2.d, o') :: (dc, u') :: but led [x.2.d, dc]) (all _ m1) (all _ m2) (all _ m3) hS (Hq ps x.1 x.2 hnd hx) (all _ x1) (.head _) (all _ x3) (all _ m7) (.tail _ (.head _)) hok.1 hok.2 hs ho hd hu ?_ ne4 ne5 ?_ ?_ ?_
  · intro hc h' tk' F' N'
    exact hret0 hc h' tk' F' (news_sub N' all)
  · refine .head fun q hq => ?_
    rcases List.mem_cons.mp hq with rfl | hq
    · exact n0.symm
    · exact hb q hq
  · intro o'
    exact .tail n0 (.head hb2)
  · rintro c sn' us' hc hpos rfl rfl f lo' ta tb tc td te tf h' tk' F' nf1 nf2 N'
    exact hret1 c hc hpos f lo' ta tb tc td te tf h' tk' F' (fun q hq => nf1 q (all q hq)) (fun q hq => nf2 q (all q hq)) N'
end
noncomputable def EE : T24 (SD → CS → Addr → Addr → Addr → Obj → Int → Int → Int → Tok → Tok → Tok → Tok → (List (Int × Part)) → Prop) := fun w pgm loose mean mg mb dp un gd cn cs a ccd cl outer A₀ base h₀ L m s Q E led k kc sp ds dc oS turn dl used t0 t5 t6 t8 ps =>
  (Below A₀ base outer h₀) → (Fr h₀ L s.heap m) → ((KK w.params).In h₀) → (Top pgm loose mean mg mb h₀) → (cs.kind = .function) → (News h₀ L s.heap led) → ((sp, instObj 790 ds) ∈ led) → ((ds, BF k turn t0) ∈ led) → ((k.se, oS) ∈ led) → (oS.IsDictOf (PySem.intKind pw w) (Cj ps)) → ((k.se == sysModules) = false) → ((k.cr, instObj 115 dc) ∈ led) → ((dc, AI kc dl t5 used t6) ∈ led) → (∀ q ∈ Bv ps, q ∈ led) → (∀ x ∈ ps, x.2.ok) → ((ps.map (·.1)).Nodup) → (ps.length ≤ 8) → (∀ x ∈ ps, 0 ≤ x.1 ∧ x.1 < 64) → (∀ x ∈ ps, 0 ≤ x.2.snt ∧ x.2.snt < 64) → (∀ x ∈ ps, k.se ≠ x.2.d) → (k.se ≠ dc) → (∃ x ∈ ps, x.2.chunk (dl - used) ≠ 0) → (dp + 10 < recursionLimit) → (un + 120 < cLine) → (∀ x ∈ ps, ∀ c, c = x.2.chunk (dl - used) → 0 < c → ∀ (f lo' : Addr) (turn' : Int) (ta tb tc td te tf tg th : Tok) (h' : Heap) (tk' : Nat), Fr h₀ L h' m → (∀ q ∈ led, q.1 ≠ f) → (∀ q ∈ led, q.1 ≠ lo') →
      News h₀ L h' ((f, frO x.1 x.2.snt (KBy.picked x.2.wr (some x.2.snt) (some (x.2.snt + c))) ta tb tc td) :: (lo', listOf #[] 0) :: (x.2.d, Ca x.2.k x.2.lim x.2.t1 (Str.ofString "send") te x.2.wr x.2.t3 (x.2.snt + c) tf lo') :: (dc, AI kc dl t5 (used + c) tg) :: (ds, BF k turn' th) :: but led [x.2.d, dc, ds]) → Q (.ref f) { s with heap := h', toks := tk' }) →
  wpI (model pw w) (ktrTop dp un gd cn cs L a ccd cl outer) (PySem.call (.ref 766) [.ref sp, .int 12 t8]) Q E s
@[irreducible] def AF := eps 9641300 (by walk_at "nonempty") (ccx FJ EE)
namespace Ci
def k := AF.2.1.1.1.1
def kc := AF.2.1.1.1.2
def sp := AF.2.1.1.2.1
def ds := AF.2.1.1.2.2
def dc := AF.2.1.2.1.1
def oS := AF.2.1.2.1.2
def turn := AF.2.1.2.2
def dl := AF.2.2.1.1.1
def used := AF.2.2.1.1.2
def t0 := AF.2.2.1.2.1
def t5 := AF.2.2.1.2.2
def t6 := AF.2.2.2.1.1
def ps := AF.2.2.2.2
noncomputable def Hp : Stg (F := Heap → Addr → Addr → (List Value) → (List Int) → Nat → Nat → Heap → Heap → Nat → Tok → Tok → Tok → Prop) CT (vcx EE AF.1 k kc sp ds dc oS turn dl used t0 t5 t6 AF.2.2.2.1.2 ps) := Qb _ fun K1 => by
  intro B F X T hk N m1 m2 m3 hS hsys m7 m8 mp hok hnd hlen hs ho ne4 ne5 hex hd hu hret
  have NR : News AF.1.h₀ AF.1.L AF.1.s.heap ((sp, instObj 790 ds) :: (ds, BF k turn t0) :: (k.se, oS) :: (k.cr, instObj 115 dc) :: (dc, AI kc dl t5 used t6) :: Bv ps) := (by repeat (first | refine Bh N (by assumption) ?_ | exact news_sub N (fun q hq => mp q hq)))
  have N0 : Hid (News AF.1.h₀ AF.1.L AF.1.s.heap AF.1.led) := N
  have hl64 : (Cj ps).length < 64 := by simp only [Cj, List.length_map]; omega
  clear N
  walk_at "I open"
  walk_at "I any"
  rename IntsAre _ _ => hi
  rename List.Perm _ _ => hp
  have hz1 := hi.length
  have hz2 := hp.length_eq
  rw [CX, List.length_map] at hz2
  have hsz8 := hz1.trans hz2
  rw [← List.size_toArray] at hsz8
  refine Ai (GR ?_)
  k_steps
  have hpos : 0 < ps.length := by obtain ⟨x, hx, _⟩ := hex; exact List.length_pos_of_mem hx
  rename_i c1_1 c1_2 _ _ _ _ _ z1 z2 _ c1_4 _ _ c1_5 c1_6 c1_7 c1_8 c1_9 _ _ _ z3
  clear B hk m1 m2 m3 hsys m7 m8 hl64 z1 z2 l1' hz1 z3
  walk_at "rv"
  intro K1
  exact K1.p c1_1 c1_2 D vs' ns' c' tk' c1_4 c1_5 c1_6 c1_7 c1_8 c1_9
@[irreducible] def BE := eps 9641301 (by walk_at "nonempty") (CT Hp.1)
namespace kut1
def c1_1 := BE.1.1.1.1
def c1_2 := BE.1.1.1.2
def D := BE.1.1.2.1
def vs' := BE.1.1.2.2
def ns' := BE.1.2.1.1
def c' := BE.1.2.1.2
def tk' := BE.1.2.2
def c1_4 := BE.2.1.1.1
def c1_5 := BE.2.1.1.2
def c1_6 := BE.2.1.2
def c1_7 := BE.2.2.1.1
def c1_8 := BE.2.2.1.2
def c1_9 := BE.2.2.2
noncomputable def HL : Stg (F := Addr → Nat → Tok → Heap → Nat → (Str → Option Value) → Prop) CR (Hp.1 c1_1 c1_2 D vs' ns' c' tk' c1_4 c1_5 c1_6 c1_7 c1_8 c1_9) := mk6 _ fun K2 => by
  intro F X T hS mp hok hnd hlen hs ho ne4 ne5 hex hd hu hret NR N0 y18 y19 y20 y21 y22 hi hp y25 y26 hz2 hsz8 y29 y30 y31 hpos
  refine IR rfl (by assumption) (by omega) [Str.ofString "step", Str.ofString "sid", Str.ofString "frame"] (fun i l => l = _ ∧ Jp hp turn (dl - used) i) (by assumption) (by assumption) ⟨rfl, fun j hj => absurd hj (Nat.not_lt_zero _)⟩ ?hstep ?hdone
  case hstep =>
    rintro I i t h tk m' led' hi' ⟨rfl, hpass⟩ hapI Fi hm Ni
    have Fi2 := Mi Fi hm
    have NiH : Hid (News _ _ h ((I, Dy 0 ps.length (i + 1)) :: _)) := Ni
    dsimp only at Fi2
    clear Fi
    clear hex y29 hi'
    walk_at "rv"
    intro K2
    exact K2.p I i t h tk m'
  case hdone =>
    rintro h tk m' led' ⟨hl, hpass⟩ F3 hm N3
    obtain ⟨x, hx, hne⟩ := hex
    exact absurd (Ob hpass x hx) hne
@[irreducible] def De := eps 9641302 (by walk_at "nonempty") (CR HL.1)
namespace kut2
def I := De.1.1.1
def i := De.1.1.2
def t := De.1.2
def h := De.2.1.1
def tk := De.2.1.2
def m' := De.2.2
noncomputable def Hs : Stg (F := Tok → Heap → (Int × Part) → Prop) CG (HL.1 I i t h tk m') := mk3 _ fun K3 => by
  intro F X T hS mp hok hnd hlen hs ho ne4 ne5 hd hu hret NR N0 y17 y18 y19 y20 y21 hi hp y24 y25 hz2 hsz8 y28 y29 hpos hpass hapI hm Ni Fi2 NiH
  k_steps
  walk_at "I any"
  obtain ⟨x, hx, hxe⟩ := Qm hp (a := turn + i) hpos
  rename Fr _ _ _ _ => Fs
  rw [hxe] at Fs
  rename_i c3_1 c3_2 _
  clear F y17 hi
  walk_at "rv"
  intro K3
  exact K3.p c3_1 c3_2 x
@[irreducible] def FC := eps 9641303 (by walk_at "nonempty") (CG Hs.1)
namespace kut3
def c3_1 := FC.1.1
def c3_2 := FC.1.2
def x := FC.2
noncomputable def Hy : Stg (F := Int → Addr → Addr → Tok → Tok → Tok → Tok → Tok → Tok → Heap → Nat → Prop) Du (Hs.1 c3_1 c3_2 x) := UB _ fun K4 => by
  intro X T hS mp hok hnd hlen hs ho ne4 ne5 hd hu hret NR N0 y16 y17 y18 y19 hp hz2 hsz8 hpos hpass hapI hm NiH y28 Fs hx hxe
  refine Ai (Cb ?_)
  refine En ?_
  k_steps
  walk_at "I callF"
  walk_at "I arg"
  walk_at "I fn"
  refine MJ (by k_asm) (by k_asm) (by k_asm) (by k_asm) rfl (by k_asm) (by k_mem) (by k_mem) (by k_mem) hS (by k_mem) (by k_mem) (fun q hq => by repeat (first | with_reducible exact hq | apply List.mem_cons_of_mem)) hnd hx (hok x hx) (hs x hx) (ho x hx) (ne4 x hx) ne5 (by walk_at "rm") (by walk_at "rm") ?h0 ?h1
  case h0 =>
    intro hc h' tk' F' N'
    k_steps
    try dsimp only
    refine Ae ?_
    k_steps
    refine DW.intro (by assumption) ?_ (by assumption) ⟨rfl, passed_step hpass hnd hx hxe hc⟩ hapI
    intro z hz
    have hz2 := hm z hz
    simp only [List.mem_cons, List.not_mem_nil, or_false, not_or] at hz
    obtain ⟨z1, z2, z3⟩ := hz
    simp only [z1, z2, z3, if_false]
  case h1 =>
    intro c hc hcp f lo' ta tb tc td te tf h' tk' F' nf1 nf2 N'
    clear hS hok hnd hs ho ne4 ne5 hd hu y16 hpass hapI hm Fs hxe
    walk_at "rv"
    intro K4
    exact K4.p c f lo' ta tb tc td te tf h' tk'
@[irreducible] def BR := eps 9641304 (by walk_at "nonempty") (Du Hy.1)
namespace kut4
def c := BR.1.1.1.1
def f := BR.1.1.1.2
def lo' := BR.1.1.2
def ta := BR.1.2.1.1
def tb := BR.1.2.1.2
def tc := BR.1.2.2
def td := BR.2.1.1.1
def te := BR.2.1.1.2
def tf := BR.2.1.2
def h' := BR.2.2.1
def tk' := BR.2.2.2
noncomputable def Le : (R5 : Prop) ×' (Kp R5 → (Hy.1 c f lo' ta tb tc td te tf h' tk')) := ⟨_, fun K5 => by
  intro X T mp hlen hret NR N0 y7 y8 y9 hp hz2 hsz8 hpos NiH y15 hx hc hcp F' nf1 nf2 N'
  have nd1 : f ≠ ds := fun e => nf1 (ds, BF k turn t0) (by k_mem) e.symm
  have nd2 : lo' ≠ ds := fun e => nf2 (ds, BF k turn t0) (by k_mem) e.symm
  have nd3 : x.2.d ≠ ds := DD NR (.tail _ (.tail _ (.tail _ (.tail _ (.tail _ (Bs hx (.tail _ (.head _)))))))) (.tail _ (.head _)) (show (11 : Nat) ≠ 14 by decide)
  have nd4 : ds ≠ dc := DD NR (.tail _ (.head _)) (.tail _ (.tail _ (.tail _ (.tail _ (.head _))))) (show (14 : Nat) ≠ 3 by decide)
  have nd5 : sp ≠ x.2.d := Ar NR (.head _) (.tail _ (.tail _ (.tail _ (.tail _ (.tail _ (Bs hx (.tail _ (.head _)))))))) rfl
  have nd6 : sp ≠ dc := Ar NR (.head _) (.tail _ (.tail _ (.tail _ (.tail _ (.head _))))) rfl
  have nd7 : sp ≠ ds := Ar NR (.head _) (.tail _ (.head _)) rfl
  have mx : (x.2.d, Ca x.2.k x.2.lim x.2.t1 x.2.st x.2.t2 x.2.wr x.2.t3 x.2.snt x.2.t4 x.2.lo) ∈ Bv ps := Bs hx (.tail _ (.head _))
  have ne8 := Ar (a := _) NiH (.tail _ (.head _)) (by repeat (first | with_reducible exact mx | apply List.mem_cons_of_mem)) rfl
  have ne9 := Ar (a := _) NiH (.tail _ (.head _)) (show (dc, AI kc dl t5 used t6) ∈ _ by k_mem) rfl
  have ne10 := Ar (a := _) NiH (.tail _ (.head _)) (show (ds, BF k turn t0) ∈ _ by k_mem) rfl
  have N2 := Rx N' (show (ds, BF k turn t0) ∈ _ by k_mem) (show (sp, instObj 790 ds) ∈ _ by k_mem) (.tail _ (.head _)) ⟨nd3.symm, nd4⟩ ⟨nd5, nd6⟩ ⟨ne8, ne9⟩
  have fr1 : ∀ q ∈ AF.1.led, q.1 ≠ f := AU N0 (by assumption) N2 (.head _) (by intro hx; obtain ⟨q, hq, e⟩ := List.mem_map.mp hx; exact nf1 q (.tail _ (.tail _ hq)) e)
  have fr2 : ∀ q ∈ AF.1.led, q.1 ≠ lo' := AU N0 (by assumption) N2 (.tail _ (.head _)) (by intro hx; obtain ⟨q, hq, e⟩ := List.mem_map.mp hx; exact nf2 q (.tail _ (.tail _ hq)) e)
  clear N' nf1 nf2
  clear mp y9 NiH nd5 nd6 mx ne8 ne9
  walk_at "rv"
  intro K5
  exact K5.p ⟩
theorem Qx : Le.1 := by
  intro X T hlen hret NR N0 y6 y7 hp hz2 hsz8 hpos y12 hx hc hcp F' nd1 nd2 nd3 nd4 nd7 ne10 N2 fr1 fr2
  k_steps
  try dsimp only
  refine Ae ?_
  k_steps
  rename Off _ _ _ => off
  rename News AF.1.h₀ AF.1.L _ _ => Nb
  refine hret x hx c hc hcp f lo' _ _ _ _ _ _ _ _ _ _ _ ?_ fr1 fr2 (Pv Nb (Fo N0 NR Nb off ?_) (.head _) (.tail _ (.head _)) (.tail _ (.tail _ (.head _))) (.tail _ (.tail _ (.tail _ (.head _)))) (.tail _ (.tail _ (.tail _ (.tail _ (.head _))))))
  · assumption
  · intro q hq hn
    exact .tail _ (.tail _ (.tail _ (.tail _ (.tail _ (.tail _ (.tail _ (CA.mpr ⟨.tail _ (.tail _ hq), hn⟩)))))))
end kut4
end kut3
end kut2
end kut1
end Ci
def Ci {w p loose mean mg mb dp un gd cn cs a ccd cl outer A₀ base h₀ L m s Q E led k kc sp ds dc oS turn dl used t0 t5 t6 t8 ps} :=
  (EE.eq_1 w p loose mean mg mb dp un gd cn cs a ccd cl outer A₀ base h₀ L m s Q E led k kc sp ds dc oS turn dl used t0 t5 t6 t8 ps).mp ((BH (P := ccx FJ EE) AF (AQ Ci.Hp Ci.BE (AQ Ci.kut1.HL Ci.kut1.De (AQ Ci.kut1.kut2.Hs Ci.kut1.kut2.FC (AQ Ci.kut1.kut2.kut3.Hy Ci.kut1.kut2.kut3.BR (Ci.kut1.kut2.kut3.kut4.Le.2 ⟨Ci.kut1.kut2.kut3.kut4.Qx⟩))))) ((⟨w, p, loose, mean, mg, mb, dp, un, gd, cn, cs, a, ccd, cl, outer, A₀, base, h₀, L, m, s, Q, E, led⟩ : Cx), (((k, kc), sp, ds), (dc, oS), turn), ((dl, used), t0, t5), (t6, t8), ps)))
end
section
noncomputable abbrev CV (k : SD) (kc : CS) (sp ds dc gd : Addr) (oS oG : Obj) (turn dl used : Int) (t0 t5 t6 : Tok) (ps : List (Int × Part)) : List (Addr × Obj) :=
  (sp, instObj 790 ds) :: (ds, BF k turn t0) :: (k.se, oS) :: (k.cr, instObj 115 dc) :: (dc, AI kc dl t5 used t6) :: (gd, oG) :: Bv ps
theorem MQ {h₀ h : Heap} {L : Addr} {led : List (Addr × Obj)} {q : Addr × Obj} {b : Addr} {o' : Obj} (N : News h₀ L h led) (ha : q ∈ led) (hb : (b, o') ∈ led) (hc : (q.2.cls == o'.cls) = false) : q.1 ≠ b := Ar N (a := q.1) (o := q.2) ha hb hc
theorem QX {h₀ h : Heap} {L x1 x2 x3 gd : Addr} {o : Obj} {a b c d e : Addr × Obj} {LED : List (Addr × Obj)} (N : News h₀ L h (a :: b :: c :: d :: e :: but LED [x1, x2, x3])) (hg : (gd, o) ∈ LED)
    (n1 : gd ≠ x1 ∧ gd ≠ x2 ∧ gd ≠ x3) : News h₀ L h (a :: b :: c :: d :: e :: (gd, o) :: but LED [x1, x2, x3, gd]) := fun q hq => N q (by
  simp only [List.mem_cons, CA, List.not_mem_nil, or_false, not_or] at hq ⊢
  rcases hq with h | h | h | h | h | h | ⟨h1, h2, h3, h4, h5⟩
  · exact .inl h
  · exact .inr (.inl h)
  · exact .inr (.inr (.inl h))
  · exact .inr (.inr (.inr (.inl h)))
  · exact .inr (.inr (.inr (.inr (.inl h))))
  · subst h; exact .inr (.inr (.inr (.inr (.inr ⟨hg, n1⟩))))
  · exact .inr (.inr (.inr (.inr (.inr ⟨h1, h2, h3, h4⟩)))))
theorem Qf {wr : Array UInt8} {a b : Option Int} (h : wr.size ≤ 6) : (KBy.picked wr a b).size ≤ 6 := by
  rw [KBc.picked_eq]
  simp only [List.size_toArray, List.length_take, List.length_drop, Array.length_toList]
  lia
theorem isDict_cls {prog : Program} {w : World} {o : Obj} {gvs : List (Int × Value)} (h : o.IsDictOf (PySem.intKind prog w) gvs) : (o.cls == Value.type "dict") = true := by
  obtain ⟨es, ep, hex, _⟩ := h
  rw [hex.1]; rfl
theorem Inv.key_mem {dl : Int} {ps ps' : List (Int × Part)} {used : Int} (h : Inv dl ps ps' used) {x : Int × Part} (hx : x ∈ ps') : ∃ y ∈ ps, sig y = sig x := by
  have : sig x ∈ ps.map sig := by rw [← h.sg]; exact List.mem_map.mpr ⟨x, hx, rfl⟩
  obtain ⟨y, hy, e⟩ := List.mem_map.mp this
  exact ⟨y, hy, e⟩
theorem goes_turn {h₀ h h2 : Heap} {L : Addr} {k : SD} {kc : CS} {sp ds dc gd f lo' : Addr} {oS oG oG'' : Obj} {turn turn'' dl used used'' : Int} {t0 t5 t6 t0' t6' ta tb tc td te tf : Tok} {ps : List (Int × Part)} {x : Int × Part} {b : Array UInt8} {snt' : Int} {x' : Part}
    (cls : (oG.cls == Value.type "dict") = true)
    (Ni : News h₀ L h (CV k kc sp ds dc gd oS oG turn dl used t0 t5 t6 ps)) (hx : x ∈ ps) (hdd : (ps.map (·.2.d)).Nodup) (ne4 : k.se ≠ x.2.d) (ne5 : k.se ≠ dc) (ne6 : ∀ x ∈ ps, gd ≠ x.2.d) (ne7 : gd ≠ k.se) (ne8 : k.se ≠ ds)
    (ex : x' = { x.2 with lo := lo', n := 0, st := Str.ofString "send", t2 := te, snt := snt', t4 := tf })
    (N2 : News h₀ L h2 ((f, frO x.1 x.2.snt b ta tb tc td) :: (lo', PySem.W.listOf #[] 0) :: (x.2.d, Ca x.2.k x.2.lim x.2.t1 (Str.ofString "send") te x.2.wr x.2.t3 snt' tf lo') :: (dc, AI kc dl t5 used'' t6') :: (ds, BF k turn'' t0') :: (gd, oG'') :: but (CV k kc sp ds dc gd oS oG turn dl used t0 t5 t6 ps) [x.2.d, dc, ds, gd])) :
    News h₀ L h2 (CV k kc sp ds dc gd oS oG'' turn'' dl used'' t0' t5 t6' (upP ps x.1 x')) := by
  have mS : (sp, instObj 790 ds) ∈ CV k kc sp ds dc gd oS oG turn dl used t0 t5 t6 ps := .head _
  have mD : (ds, BF k turn t0) ∈ CV k kc sp ds dc gd oS oG turn dl used t0 t5 t6 ps := .tail _ (.head _)
  have mE : (k.se, oS) ∈ CV k kc sp ds dc gd oS oG turn dl used t0 t5 t6 ps := .tail _ (.tail _ (.head _))
  have mC : (k.cr, instObj 115 dc) ∈ CV k kc sp ds dc gd oS oG turn dl used t0 t5 t6 ps := .tail _ (.tail _ (.tail _ (.head _)))
  have mK : (dc, AI kc dl t5 used t6) ∈ CV k kc sp ds dc gd oS oG turn dl used t0 t5 t6 ps := .tail _ (.tail _ (.tail _ (.tail _ (.head _))))
  have mG : (gd, oG) ∈ CV k kc sp ds dc gd oS oG turn dl used t0 t5 t6 ps := .tail _ (.tail _ (.tail _ (.tail _ (.tail _ (.head _)))))
  have mP : ∀ q ∈ Bv ps, q ∈ CV k kc sp ds dc gd oS oG turn dl used t0 t5 t6 ps := fun q hq => .tail _ (.tail _ (.tail _ (.tail _ (.tail _ (.tail _ hq)))))
  have hG : oG.cls = .type "dict" := beq_iff_eq.mp cls
  have mX : (x.2.d, Ca x.2.k x.2.lim x.2.t1 x.2.st x.2.t2 x.2.wr x.2.t3 x.2.snt x.2.t4 x.2.lo) ∈ CV k kc sp ds dc gd oS oG turn dl used t0 t5 t6 ps := mP _ (Bs hx (.tail _ (.head _)))
  have low : ∀ q ∈ CV k kc sp ds dc gd oS oG turn dl used t0 t5 t6 ps, q.1 ≠ x.2.d → q.1 ≠ dc → q.1 ≠ ds → q.1 ≠ gd → News h₀ L h2 [q] := fun q hq h1 h2 h3 h4 r hr => by
    rw [List.mem_singleton.mp hr]
    exact N2 q (.tail _ (.tail _ (.tail _ (.tail _ (.tail _ (.tail _ (CA.mpr ⟨hq, by simp only [List.mem_cons, List.not_mem_nil, or_false, not_or]; exact ⟨h1, h2, h3, h4⟩⟩)))))))
  have notDict : ∀ q ∈ CV k kc sp ds dc gd oS oG turn dl used t0 t5 t6 ps, (q.2.cls == Value.type "dict") = false → News h₀ L h2 [q] := fun q hq hc => low q hq (MQ Ni hq mX hc) (MQ Ni hq mK hc) (MQ Ni hq mD hc) (MQ Ni hq mG (by rw [hG]; exact hc))
  refine Bp (notDict _ mS rfl) ?_
  refine Bh N2 (.tail _ (.tail _ (.tail _ (.tail _ (.head _))))) ?_
  refine Bp (low _ mE ne4 ne5 ne8 ne7.symm) ?_
  refine Bp (notDict _ mC rfl) ?_
  refine Bh N2 (.tail _ (.tail _ (.tail _ (.head _)))) ?_
  refine Bh N2 (.tail _ (.tail _ (.tail _ (.tail _ (.tail _ (.head _)))))) ?_
  intro q hq
  obtain ⟨y, hy, hqy⟩ := List.mem_flatMap.mp hq
  rcases Gu hy with ⟨rfl, _⟩ | ⟨hy, hne⟩
  · subst ex
    simp only [Part.objs, List.mem_cons, List.not_mem_nil, or_false] at hqy
    rcases hqy with rfl | rfl | rfl
    · exact notDict _ (mP _ (Bs hx (.head _))) rfl _ (.head _)
    · exact N2 _ (.tail _ (.tail _ (.head _)))
    · exact N2 _ (.tail _ (.head _))
  · simp only [Part.objs, List.mem_cons, List.not_mem_nil, or_false] at hqy
    rcases hqy with rfl | rfl | rfl
    · exact notDict _ (mP _ (Bs hy (.head _))) rfl _ (.head _)
    · have my := mP _ (Bs hy (.tail _ (.head _)))
      refine low _ my ?_ (DD Ni my mK (show (11 : Nat) ≠ 3 by decide)) (DD Ni my mD (show (11 : Nat) ≠ 14 by decide)) (ne6 y hy).symm _ (.head _)
      intro e
      have key : ∀ {ps : List (Int × Part)}, (ps.map (·.2.d)).Nodup → x ∈ ps → y ∈ ps → y.2.d = x.2.d → y = x := fun {ps} => by
        induction ps with
        | nil => intro _ h; cases h
        | cons z r ih =>
          intro hn h1 h2 e
          rw [List.map_cons, List.nodup_cons] at hn
          rcases List.mem_cons.mp h1 with e1 | h1 <;> rcases List.mem_cons.mp h2 with e2 | h2
          · rw [e1, e2]
          · exact (hn.1 (List.mem_map.mpr ⟨y, h2, by rw [e, e1]⟩)).elim
          · exact (hn.1 (List.mem_map.mpr ⟨x, h1, by rw [← e, e2]⟩)).elim
          · exact ih hn.2 h1 h2 e
      exact hne (by rw [key hdd hx hy e])
    · exact notDict _ (mP _ (Bs hy (.tail _ (.tail _ (.head _))))) rfl _ (.head _)
end
section
open Sem (wp)
theorem PK : typeLookup (.type "bytes") "__bytes__" = pure (some (.builtin "bytes.__bytes__")) := by rw [typeLookup_type, builtinLookup_eq_fast]; kernel_rfl
section
variable {prog : Program} {w : World} {A : Around} {E : Value → Shared → Prop} {s : Shared}
theorem JV {b : Array UInt8} {t : Tok} {Q : Value → Shared → Prop} (hQ : Q (.bytes b t) s) :
    codeAny (model prog w) A (.call (.builtin "bytes.__new__") ⟨[.type "bytes", .bytes b t], []⟩) (wants Q E) s := by
  have hT : s.TypeIs (.bytes b t) "bytes" := PySem.W.typeIs_bytes _ _ _
  refine codeAny_of_tree ?_
  show wpAny _ A.in1 (do checkBuiltinCall "bytes.__new__" ⟨[.type "bytes", .bytes b t], []⟩; again (.builtin "bytes.__new__" ⟨[.type "bytes", .bytes b t], []⟩)) _ _ s
  refine wpAny_bind (wpAny_of_eq (F.bm_newCall _) (wpAny_pure ⟨plainId_quiet F.bm_plain _, codeAny_builtin F.bm_entry ?_⟩))
  rw [Around.under_plainId F.bm_plain _]
  unfold Builtin.«bytes.__new__»
  refine wpAny_bind (wpAny_of_eq (a := true) rfl ?_)
  refine bm_if_false rfl ?_
  refine wpAny_bind (wpAny_of_eq F.bm_sub ?_)
  refine bm_if_false rfl ?_
  refine wpAny_bind (wpAny_of_eq (F.bm_bind _) ?_)
  refine wpAny_bind (wpAny_of_eq (a := ()) rfl ?_)
  refine wpAny_bind (wpAny_of_eq (a := ()) rfl ?_)
  refine bm_if_false rfl ?_
  refine wpAny_bind (wpAny_specialOf hT PK ?_)
  try dsimp only
  refine wpAny_bind (wpAny_rule ?_)
  refine wpAny_bind (wpAny_typeOf hT ?_)
  refine bm_if_true (by decide) ?_
  show wpAny _ _ (if (Value.type "bytes" == Value.type "bytes") = true then _ else _) _ _ _
  refine bm_if_true (by decide) ?_
  first
    | exact wpAny_pure hQ
    | exact wpAny_bind (wpAny_pure (wpAny_pure hQ))
theorem JO {b : Array UInt8} {t : Tok} {Q : Value → Shared → Prop} (hQ : Q (.bytes b t) s) :
    wpAny (model prog w) A (call (.type "bytes") [.bytes b t]) Q E s := by
  refine callType_codes (Q₁ := fun obj s₁ => s₁.TypeIs obj "bytes" ∧ Q obj s₁) F.bm_called (F.bm_typeCall _) F.entry_object_init
    (JV ⟨PySem.W.typeIs_bytes _ _ _, hQ⟩) fun obj s₁ h₁ => ?_
  exact ⟨h₁.1, F.args_object_init_2 obj _, object_init_meets F.bm_called.init.lookup F.bm_called.made (by decide) prog w A.in1 _ s₁ ⟨h₁.1, rfl, h₁.2⟩⟩
end
end
section
open Sem (wp)
section
variable {α : Type} {M : Model} {A : Around} {E : Value → Shared → Prop} {s : Shared} {Q : α → Shared → Prop} {t : Sem α}
theorem UX (h : let qk := Q; let ek := E; wpI M A t qk ek s) : wpI M A t Q E s := h
theorem UW (h : let qk := Q; let ek := E; wpAny M A t qk ek s) : wpAny M A t Q E s := h
end
section
variable {prog : Program} {w : World} {A : Around} {E : Value → Shared → Prop} {s : Shared} {h₀ : Heap} {L D : Addr} {m : Str → Option Value} {led : List (Addr × Obj)}
theorem JQ {g : Obj → List (Addr × Obj)} {x y v : Value} {n : Nat} {t : Tok} {i : Int} {Q : Unit → Shared → Prop} (hi : i = 1) (F : Fr h₀ L s.heap m) (N : News h₀ L s.heap led) (U : UpdF D (PySem.W.listOf #[x, y] n) led g)
    (h : ∀ h', Fr h₀ L h' m → News h₀ L h' (g (PySem.W.listOf #[x, v] n)) → Q () { s with heap := h' }) :
    wpAny (model prog w) A (setItem (.ref D) (.int i t) v) Q E s := by subst hi; exact Ic (b := true) F N U h
theorem pair_set0 {g : Obj → List (Addr × Obj)} {x y v : Value} {n : Nat} {t : Tok} {i : Int} {Q : Unit → Shared → Prop} (hi : i = 0) (F : Fr h₀ L s.heap m) (N : News h₀ L s.heap led) (U : UpdF D (PySem.W.listOf #[x, y] n) led g)
    (h : ∀ h', Fr h₀ L h' m → News h₀ L h' (g (PySem.W.listOf #[v, y] n)) → Q () { s with heap := h' }) :
    wpAny (model prog w) A (setItem (.ref D) (.int i t) v) Q E s := by subst hi; exact Ic (b := false) F N U h
theorem Th {x y : Value} {n : Nat} {t : Tok} {i : Int} {Q : Value → Shared → Prop} (hi : i = 1) (N : News h₀ L s.heap led) (hm : (D, PySem.W.listOf #[x, y] n) ∈ led) (h : Q y s) :
    wpAny (model prog w) A (getItem (.ref D) (.int i t)) Q E s := by subst hi; exact Gl (b := true) N hm h
theorem Uh {x y : Value} {n : Nat} {t : Tok} {i : Int} {Q : Value → Shared → Prop} (hi : i = 0) (N : News h₀ L s.heap led) (hm : (D, PySem.W.listOf #[x, y] n) ∈ led) (h : Q x s) :
    wpAny (model prog w) A (getItem (.ref D) (.int i t)) Q E s := by subst hi; exact Gl (b := false) N hm h
theorem Fk {value slice : PySem.Expr} {its : Array Value} {n : Nat} {t : Tok} {i : Int} {v : Value} {Q : Value → Shared → Prop} (N : News h₀ L s.heap led) (hm : (D, PySem.W.listOf its n) ∈ led) (h0 : 0 ≤ i) (h1 : i < 2 ^ 63) (hv : its[i.toNat]? = some v) (h : Q v s)
    (hs : autoParam (subscripted slice false (.ref D) (.int i t) = operate [.ref D, .int i t] (getItem (.ref D) (.int i t))) aUn) :
    wpAny (model prog w) A (subscriptTail value slice (.ref D) (.int i t)) Q E s :=
  tail_any (PySem.IsL.isList (n := n) (N _ hm).1).typeIs PySem.slot_list_getitem.lookup (wpAny_getItem_list (PySem.IsL.isList (n := n) (N _ hm).1) h0 h1 hv h) hs
end
end
section
open Sem (wp)
section
variable {prog : Program} {w : World} {A : Around} {E : Value → Shared → Prop} {R : Result → Shared → Prop} {s : Shared} {h₀ : Heap} {L : Addr} {led : List (Addr × Obj)}
theorem Ql {target : PySem.Expr} {body : List Stmt} {env : Env} {d : Addr} {oS : Obj} (hh : A.handled = none) (N : News h₀ L s.heap led) (hm : (d, oS) ∈ led) (hD : oS.IsDictOf (PySem.intKind prog w) []) (hsys : (d == sysModules) = false)
    (h : ∀ h', Up s.heap h' → R (.ok .next) { s with heap := h' }) (ht : autoParam (∀ I v, letOwnedTupleGo target (.ref I) v = pure ()) aRf) :
    wpAny (model prog w) A (pyIter (.ref d)) (fun it s₂ => codeAny (model prog w) A (.forLoop target it body [] env) R s₂) E s := by
  obtain ⟨es, ep, hex, hdat, hk, hp, hn⟩ := hD
  have hat : Heap.DictAt (PySem.intKind prog w) s.heap d [] ep := ⟨oS, es, (N _ hm).1, hex, hdat, hk, hp, hn⟩
  refine wpAny_pyIter_dict hsys hat ?_
  refine PySem.codeAny_forLoop (fun k s' => s' = { s with heap := s.heap.push { cls := .type "dict_keyiterator", data := .fields #[.ref d, .int 0 0, .int ([] : List (Int × Value)).length 0, .int ep 0] } }) (fun n s' e => ?_) 0 rfl (ht _)
  subst e
  refine wpAny_pyNext_dict_end (knd := PySem.intKind prog w) (kvs := []) (i := 0) (ep := ep) hh ⟨_, Heap.get?_push_size _ rfl, rfl, rfl⟩ (hat.push _) rfl fun h' he => ?_
  refine wpAny_execs_nil (h h' fun b o e => he b o (Nat.ne_of_lt (Heap.lt_size e)) (Heap.get?_push_of_some _ e))
end
end
section
open Sem (wp)
noncomputable def Ig (s : Shared) (h₀ : Heap) (L : Addr) (m : Str → Option Value) (names : List Str) (K : List (Addr × Obj) → Prop) (s₃ : Shared) : Prop :=
  ∃ h' tk' m'' led'', s₃ = { s with heap := h', toks := tk' } ∧ Fr h₀ L h' m'' ∧ (∀ z, z ∉ names → m'' z = m z) ∧ News h₀ L h' led'' ∧ K led''
theorem Ig.intro {s : Shared} {h₀ : Heap} {L : Addr} {m m'' : Str → Option Value} {names : List Str} {K : List (Addr × Obj) → Prop} {h' : Heap} {tk' : Nat} {led'' : List (Addr × Obj)} (F : Fr h₀ L h' m'') (hm : ∀ z, z ∉ names → m'' z = m z) (N : News h₀ L h' led'') (k : K led'') :
    Ig s h₀ L m names K { s with heap := h', toks := tk' } := ⟨h', tk', m'', led'', rfl, F, hm, N, k⟩
section
variable {prog : Program} {w : World} {A : Around} {R : Result → Shared → Prop} {s : Shared} {h₀ : Heap} {L : Addr} {m : Str → Option Value} {led : List (Addr × Obj)}
end
noncomputable def IX : Program → World → Around → (Result → Shared → Prop) → Shared → Heap → Addr → (Str → Option Value) → (List (Addr × Obj)) → PySem.Expr → (List Stmt) → (List Stmt) → Env → (List Str) → (Nat → List (Addr × Obj) → Prop) → Nat → Prop := fun prog w A R s h₀ L m led test body orelse env names K n =>
  (Fr h₀ L s.heap m) → (News h₀ L s.heap led) → (K n led) → (∀ n h tk m' led', K n led' → Fr h₀ L h m' → (∀ z, z ∉ names → m' z = m z) → News h₀ L h led' →
      wpI (model prog w) A (isTrue test env (eval test env)) (fun b s₂ =>
        if b then wpI (model prog w) A (execs body env) (fun f s₃ => match f with
            | .next | .cont => Ig s h₀ L m names (fun l => ∃ k, k < n ∧ K k l) s₃
            | .brk => R (.ok .next) s₃
            | .ret v => R (.ok (.ret v)) s₃) (notedBy (model prog w) A env fun e s' => R (.error e) s') s₂
        else wpI (model prog w) A (execs orelse env) (fun f s₃ => R (.ok f) s₃) (notedBy (model prog w) A env fun e s' => R (.error e) s') s₂)
        (notedBy (model prog w) A env fun e s' => R (.error e) s') { s with heap := h, toks := tk }) →
  BY (model prog w) A (.whileLoop test body orelse env) R s
@[irreducible] def Cd := eps 1676700 (by walk_at "nonempty") (Dk IX)
theorem Oz : Dk IX Cd := by
  intro F N h0 turn
  refine KO (fun n s' => ∃ h tk m' led', s' = { Cd.1.2.1.1 with heap := h, toks := tk } ∧ Cd.2.2.2.1 n led' ∧ Fr Cd.1.2.1.2 Cd.1.2.2.1 h m' ∧ (∀ z, z ∉ Cd.2.2.1.2 → m' z = Cd.1.2.2.2 z) ∧ News Cd.1.2.1.2 Cd.1.2.2.1 h led') ?_ Cd.2.2.2.2 ⟨Cd.1.2.1.1.heap, Cd.1.2.1.1.toks, Cd.1.2.2.2, Cd.2.1.1.1, rfl, h0, F, fun _ _ => rfl, N⟩
  rintro n s' ⟨h, tk, m', led', rfl, hK, F', hm, N'⟩
  refine AR (turn n h tk m' led' hK F' hm N') fun b s₂ h₂ => ?_
  cases b with
  | false => exact h₂
  | true =>
    simp only [if_true] at h₂ ⊢
    refine AR h₂ fun f s₃ h₃ => ?_
    cases f with
    | next =>
      obtain ⟨h7, tk7, m7, led7, e7, F7, n7, N7, k, hk, k7⟩ := h₃
      exact ⟨k, hk, h7, tk7, m7, led7, e7, k7, F7, n7, N7⟩
    | cont =>
      obtain ⟨h7, tk7, m7, led7, e7, F7, n7, N7, k, hk, k7⟩ := h₃
      exact ⟨k, hk, h7, tk7, m7, led7, e7, k7, F7, n7, N7⟩
    | brk => exact h₃
    | ret v => exact h₃
section
variable {prog : Program} {w : World} {A : Around} {R : Result → Shared → Prop} {s : Shared} {h₀ : Heap} {L : Addr} {m : Str → Option Value} {led : List (Addr × Obj)}
theorem NU {test : PySem.Expr} {body orelse : List Stmt} {env : Env} (names : List Str) (K : Nat → List (Addr × Obj) → Prop) (n : Nat) (F : Fr h₀ L s.heap m) (N : News h₀ L s.heap led) (h0 : K n led)
    (turn : ∀ n h tk m' led', K n led' → Fr h₀ L h m' → (∀ z, z ∉ names → m' z = m z) → News h₀ L h led' →
      wpI (model prog w) A (isTrue test env (eval test env)) (fun b s₂ =>
        if b then wpI (model prog w) A (execs body env) (fun f s₃ => match f with
            | .next | .cont => Ig s h₀ L m names (fun l => ∃ k, k < n ∧ K k l) s₃
            | .brk => R (.ok .next) s₃
            | .ret v => R (.ok (.ret v)) s₃) (notedBy (model prog w) A env fun e s' => R (.error e) s') s₂
        else wpI (model prog w) A (execs orelse env) (fun f s₃ => R (.ok f) s₃) (notedBy (model prog w) A env fun e s' => R (.error e) s') s₂)
        (notedBy (model prog w) A env fun e s' => R (.error e) s') { s with heap := h, toks := tk }) :
    BY (model prog w) A (.whileLoop test body orelse env) R s := by
  exact (BH (P := Dk IX) Cd Oz ((((prog, w), A, R), (s, h₀), L, m), ((led, test), body, orelse), (env, names), K, n)) F N h0 turn
end
theorem Ew {h₀ h : Heap} {L : Addr} {m m' : Str → Option Value} {a : Str} (F : Fr h₀ L h m') (hm : ∀ z, z ∉ [a] → m' z = m z) : Fr h₀ L h (fun z => if z = a then m' a else m z) := by
  have e : m' = (fun z => if z = a then m' a else m z) := by
    funext z
    by_cases h1 : z = a
    · rw [if_pos h1, h1]
    · rw [if_neg h1]
      exact hm z (by simp only [List.mem_cons, List.not_mem_nil, or_false]; exact h1)
  rw [e] at F
  exact F
end
section
open Mine renaming Es → hlt4, Es → hlt3
set_option rowWalk.seconds 0
theorem Tk : True := by
  k_with "setItem ref int" => (k_here; k_dflt (refine' Gh ?k1 ?k2 ?k3 ?k4 ?k5 ?k6 ?_; (case k1 => k_asm); (case k2 => k_asm); (case k3 => k_updF); (case k4 => rfl); (case k5 => (rw [Int.fmod_eq_emod_of_nonneg _ (by decide)]; omega)); (case k6 => (rw [Int.fmod_eq_emod_of_nonneg _ (by decide)]; omega)); k_whole; intro x' h' F' N'))
  k_with "subscriptTail" => (k_here; (with_reducible show wpAny _ _ (subscriptTail _ (Expr.Slice _ _ none _) (Value.bytes _ _) (Value.ref _)) _ _ _); (with_reducible rename Fr _ _ _ _ => F'); (with_reducible rename News _ _ _ _ => N'); (refine KBc.slice_K (s := ⟨_, _, _, _, _⟩) F' N' rfl (by constructor) (by constructor) (by rw [KBw.ints_length]; omega) ?_); intro h' t' k' F' N' _)
  k_with "subscriptTail" => (k_here; (with_reducible show wpAny _ _ (subscriptTail _ _ (Value.ref _) (Value.int _ _)) _ _ _); (refine kda_item (knd := PySem.intKind _ _) (by k_asm) (by k_mem) (by k_asm) (intKind_is _ _ _ _) (by first | assumption | rfl) ?_))
  trivial
theorem Tp : True := by
  k_with "setItem ref int" => (k_here; refine hlt3 ?_)
  k_with "call ref" => (k_here; refine hlt4 ?_)
  trivial
noncomputable def JF : T24 (SD → CS → Addr → Addr → Addr → Addr → Obj → Obj → Int → Int → Int → Tok → Tok → Tok → (List (Int × Part)) → (List (Int × Value)) → Prop) := fun w pgm loose mean mg mb dp un gdg cn cs a ccd cl outer A₀ base h₀ L m s Q E led k kc sp ds dc gd oS oG turn dl used t0 t5 t6 ps gvs =>
  (Below A₀ base outer h₀) → (Fr h₀ L s.heap m) → ((KK w.params).In h₀) → (Top pgm loose mean mg mb h₀) → (cs.kind = .function) → (News h₀ L s.heap led) → (∀ q ∈ CV k kc sp ds dc gd oS oG turn dl used t0 t5 t6 ps, q ∈ led) → (oS.IsDictOf (PySem.intKind pw w) (Cj ps)) → ((k.se == sysModules) = false) → (oG.IsDictOf (PySem.intKind pw w) gvs) → ((gd == sysModules) = false) → (Inv dl ps ps used) → (GotOk gvs ps) → ((ps.map (·.1)).Nodup) → (ps.length ≤ 8) → (∀ x ∈ ps, 0 ≤ x.1 ∧ x.1 < 64) → (∀ x ∈ ps, k.se ≠ x.2.d) → (k.se ≠ dc) → (∀ x ∈ ps, gd ≠ x.2.d) → (gd ≠ dc ∧ gd ≠ ds ∧ gd ≠ k.se) → (k.se ≠ ds) → ((ps.map (·.2.d)).Nodup) → (dp + 14 < recursionLimit) → (un + 140 < cLine) → (∀ (turn' used' : Int) (t0' t6' : Tok) (oG' : Obj) (gvs' : List (Int × Value)) (ps' : List (Int × Part)) (h' : Heap) (tk' : Nat), oG'.IsDictOf (PySem.intKind pw w) gvs' → Inv dl ps ps' used' → GotOk gvs' ps' → (∀ x ∈ ps', ¬ 0 < x.2.room (dl - used')) → (∀ y ∈ CV k kc sp ds dc gd oS oG' turn' dl used' t0' t5 t6' ps', ∀ q ∈ led, q.1 ∉ (CV k kc sp ds dc gd oS oG turn dl used t0 t5 t6 ps).map (·.1) → q.1 ≠ y.1) → Fr h₀ L h' m →
      News h₀ L h' (CV k kc sp ds dc gd oS oG' turn' dl used' t0' t5 t6' ps' ++ but led (ds :: dc :: gd :: (Bv ps).map (·.1))) → Q (.bool true) { s with heap := h', toks := tk' }) →
  wpI (model pw w) (ktrTop dp un gdg cn cs L a ccd cl outer) (PySem.call (.ref 826) [.ref sp, .ref gd]) Q E s
@[irreducible] def An := eps 509800 (by walk_at "nonempty") (ccx Dk JF)
namespace EV
def gd := An.2.1.2.1.2
def dl := An.2.2.1.1.2
noncomputable def Mx : Stg (F := Heap → Addr → Heap → Heap → Nat → (Str → Option Value) → Int → Int → Tok → Tok → Obj → (List (Int × Value)) → (List (Int × Part)) → Prop) CT (vcx JF An.1 An.2.1.1.1.1 An.2.1.1.1.2 An.2.1.1.2.1 An.2.1.1.2.2 An.2.1.2.1.1 gd An.2.1.2.2.1 An.2.1.2.2.2 An.2.2.1.1.1 dl An.2.2.1.2.1 An.2.2.1.2.2 An.2.2.2.1.1 An.2.2.2.1.2 An.2.2.2.2.1 An.2.2.2.2.2) := Qb _ fun K1 => by
  intro B F X T hk N hm hS hsys hG hgsys hinv hgot hnd hlen hs ne4 ne5 ne6 ne7 ne8 hdd hd hu hret
  have NR : News An.1.h₀ An.1.L An.1.s.heap (CV An.2.1.1.1.1 An.2.1.1.1.2 An.2.1.1.2.1 An.2.1.1.2.2 An.2.1.2.1.1 gd An.2.1.2.2.1 An.2.1.2.2.2 An.2.2.1.1.1 dl An.2.2.1.2.1 An.2.2.1.2.2 An.2.2.2.1.1 An.2.2.2.1.2 An.2.2.2.2.1) := fun q hq => N q (hm q hq)
  have N0 : Hid (News An.1.h₀ An.1.L An.1.s.heap An.1.led) := N
  clear N hm
  walk_at "I open"
  have hroomy : ∀ (ps' : List (Int × Part)) (used' : Int), Inv dl An.2.2.2.2.1 ps' used' → ps'.length ≤ 8 := fun ps' used' h => by
    have := congrArg List.length h.keys
    rw [List.length_map, List.length_map] at this
    omega
  refine Ai (MB ?_)
  refine NU [Str.ofString "frame"] (fun n l => ∃ turn' used' t0' t6' oG' gvs' ps', l = CV An.2.1.1.1.1 An.2.1.1.1.2 An.2.1.1.2.1 An.2.1.1.2.2 An.2.1.2.1.1 gd An.2.1.2.2.1 oG' turn' dl used' t0' An.2.2.2.1.1 t6' ps' ∧ oG'.IsDictOf (PySem.intKind pw An.1.w) gvs' ∧ Inv dl An.2.2.2.2.1 ps' used' ∧ GotOk gvs' ps' ∧ n = (dl - used').toNat) (dl - An.2.2.1.2.1).toNat (by assumption) (by assumption) ⟨An.2.2.1.1.1, An.2.2.1.2.1, An.2.2.1.2.2, An.2.2.2.1.2, An.2.1.2.2.2, An.2.2.2.2.2, An.2.2.2.2.1, rfl, hG, hinv, hgot, rfl⟩ ?turn
  rintro n h tk m' led' ⟨turn', used', t0', t6', oG', gvs', ps', rfl, hG', hi', hgo', rfl⟩ Fi hm Ni
  have Fi2 := Ew Fi hm
  clear Fi
  have NiH : Hid (News _ _ h (CV An.2.1.1.1.1 An.2.1.1.1.2 An.2.1.1.2.1 An.2.1.1.2.2 An.2.1.2.1.1 gd An.2.1.2.2.1 oG' turn' dl used' t0' An.2.2.2.1.1 t6' ps')) := Ni
  have hlen' := hroomy _ _ hi'
  have hnd' : (ps'.map (·.1)).Nodup := by rw [hi'.keys]; exact hnd
  have hS' : An.2.1.2.2.1.IsDictOf (PySem.intKind pw An.1.w) (Cj ps') := by rw [hi'.kvs]; exact hS
  dsimp only [CV] at Ni
  rename_i c1_1 c1_2 c1_3 z1 z2 _ _ _ _ z3 z4 _
  clear B hk hS hG hgsys hinv hgot hlen z1 z2 z3 z4 hroomy
  walk_at "rv"
  intro K1
  exact K1.p c1_1 c1_2 c1_3 h tk m' turn' used' t0' t6' oG' gvs' ps'
@[irreducible] def AY := eps 509801 (by walk_at "nonempty") (CT Mx.1)
namespace kut1
def ps' := AY.2.2.2
noncomputable def Mq : Stg (F := Heap → Nat → Prop) CM (Mx.1 AY.1.1.1.1 AY.1.1.1.2 AY.1.1.2.1 AY.1.1.2.2 AY.1.2.1.1 AY.1.2.1.2 AY.1.2.2 AY.2.1.1.1 AY.2.1.1.2 AY.2.1.2 AY.2.2.1.1 AY.2.2.1.2 ps') := mk2 _ fun K2 => by
  intro F
  walk_at "in"
  refine Ae ?_
  k_steps
  delta Cg
  refine GP (by k_asm) (by k_asm) (by k_asm) (by k_asm) rfl (by k_asm) (by k_mem) (by k_mem) (by k_mem) hS' hsys (by k_mem) (by k_mem) (fun q hq => by repeat (first | with_reducible exact hq | apply List.mem_cons_of_mem)) (fun x hx => (hi'.ok x hx).1) hnd' hlen' (by walk_at "rm") (by walk_at "rm") ?_
  intro h' tk' up'
  walk_at "k upd"
  cases hany : ps'.any fun x => decide (0 < x.2.room (dl - AY.2.1.1.1))
  · have fr : ∀ y ∈ CV An.2.1.1.1.1 An.2.1.1.1.2 An.2.1.1.2.1 An.2.1.1.2.2 An.2.1.2.1.1 gd An.2.1.2.2.1 AY.2.2.1.1 AY.1.2.2 dl AY.2.1.1.1 AY.2.1.1.2 An.2.2.2.1.1 AY.2.1.2 ps', ∀ q ∈ An.1.led, q.1 ∉ (CV An.2.1.1.1.1 An.2.1.1.1.2 An.2.1.1.2.1 An.2.1.1.2.2 An.2.1.2.1.1 gd An.2.1.2.2.1 An.2.1.2.2.2 An.2.2.1.1.1 dl An.2.2.1.2.1 An.2.2.1.2.2 An.2.2.2.1.1 An.2.2.2.1.2 An.2.2.2.2.1).map (·.1) → q.1 ≠ y.1 := fun y hy q hq hn e => AU N0 (by assumption) NiH hy (by rw [← e]; exact hn) q hq e
    k_steps
    refine Bc ?_
    dsimp only
    refine Ae ?_
    k_steps
    rename Off _ _ _ => off
    rename News An.1.h₀ An.1.L _ _ => Nb
    refine hret AY.1.2.2 AY.2.1.1.1 AY.2.1.1.2 AY.2.1.2 AY.2.2.1.1 AY.2.2.1.2 ps' _ _ hG' hi' hgo' (fun x hx hr => ?_) fr (by assumption) (fun q hq => ?_)
    · have := List.any_eq_false.mp hany x hx
      simp [hr] at this
    · rcases List.mem_append.mp hq with hq | hq
      · exact Nb q hq
      · refine Fo N0 NR Nb off (fun q hq hn => ?_) q hq
        simp only [List.mem_cons, not_or, List.mem_map] at hn
        simp only [CV, List.mem_cons] at hq
        rcases hq with rfl | rfl | rfl | rfl | rfl | rfl | hq
        · k_mem
        · exact absurd rfl hn.1
        · k_mem
        · k_mem
        · exact absurd rfl hn.2.1
        · exact absurd rfl hn.2.2.1
        · exact absurd ⟨q, hq, rfl⟩ hn.2.2.2
  · have hex : ∃ x ∈ ps', x.2.chunk (dl - AY.2.1.1.1) ≠ 0 := by
      obtain ⟨x, hx, hr⟩ := List.any_eq_true.mp hany
      exact ⟨x, hx, PR (of_decide_eq_true hr)⟩
    have hs' : ∀ x ∈ ps', 0 ≤ x.1 ∧ x.1 < 64 := fun x hx => by
      obtain ⟨y, hy, e⟩ := hi'.key_mem hx
      have e1 : y.1 = x.1 := congrArg (·.1) e
      rw [← e1]; exact hs y hy
    have ho' : ∀ x ∈ ps', 0 ≤ x.2.snt ∧ x.2.snt < 64 := fun x hx => by
      have := hi'.ok x hx
      have := this.1.2
      omega
    have hd' : ∀ x ∈ ps', ∃ y ∈ An.2.2.2.2.1, y.2.d = x.2.d := fun x hx => by
      obtain ⟨y, hy, e⟩ := hi'.key_mem hx
      exact ⟨y, hy, congrArg (fun q => q.2.2.1) e⟩
    have ne4' : ∀ x ∈ ps', An.2.1.1.1.1.se ≠ x.2.d := fun x hx => by obtain ⟨y, hy, e⟩ := hd' x hx; rw [← e]; exact ne4 y hy
    have ne6' : ∀ x ∈ ps', gd ≠ x.2.d := fun x hx => by obtain ⟨y, hy, e⟩ := hd' x hx; rw [← e]; exact ne6 y hy
    have hdd' : (ps'.map (·.2.d)).Nodup := by rw [hi'.ds]; exact hdd
    clear X T hs ne4 ne6 hdd hret NR N0 a a_4 Ni Fi2 hany hd'
    walk_at "rv"
    intro K2
    exact K2.p h' tk'
@[irreducible] def MA := eps 509802 (by walk_at "nonempty") (CM Mq.1)
namespace kut2
def tk' := MA.2
noncomputable def Ms : Stg (F := (Int × Part) → Int → Addr → Addr → Int → Tok → Tok → Tok → Tok → Tok → Tok → Tok → Tok → Heap → Nat → Tok → Prop) Dk (Mq.1 MA.1 tk') := US _ fun K3 => by
  intro F
  walk_at "in"
  k_steps
  refine Ai (Cb ?_)
  refine En ?_
  k_steps
  walk_at "I callF"
  walk_at "I fn"
  refine Ci (by k_asm) (by k_asm) (by k_asm) (by k_asm) rfl (by k_asm) (by k_mem) (by k_mem) (by k_mem) hS' hsys (by k_mem) (by k_mem) (fun q hq => by repeat (first | with_reducible exact hq | apply List.mem_cons_of_mem)) (fun x hx => (hi'.ok x hx).1) hnd' hlen' hs' ho' ne4' ne5 hex (by walk_at "rm") (by walk_at "rm") ?_
  intro x hx c hc hcp f lo' turn'' ta tb tc td te tf tg th h' tk' F' nf1 nf2 N'
  obtain ⟨tv, hv⟩ := hgo'.val x hx
  have hok := hi'.ok x hx
  have hsz := Js hok.2.1 hok.2.2.1
  have hszle : (pre x.2.wr x.2.snt).size ≤ 6 := by
    have := hok.1.2
    omega
  have hne : (x.2.snt != ((pre x.2.wr x.2.snt).size : Int)) = false := by rw [hsz]; simp
  have hpk := Qf (a := some x.2.snt) (b := some (x.2.snt + c)) hok.1.2
  have N2 := QX N' (show (gd, AY.2.2.1.1) ∈ _ by k_mem) ⟨ne6' x hx, ne7.1, ne7.2.1⟩
  have nfg : gd ≠ f := nf1 (gd, AY.2.2.1.1) (by k_mem)
  have nlg : gd ≠ lo' := nf2 (gd, AY.2.2.1.1) (by k_mem)
  have nxg := ne6' x hx
  have ndc := ne7.1
  have nds := ne7.2.1
  clear N' nf1 nf2
  rename_i z1
  clear hsys hd hu a_1 hS' z1 hex hs' ho'
  walk_at "rv"
  intro K3
  exact K3.p x c f lo' turn'' ta tb tc td te tf tg th h' tk' tv
@[irreducible] def DG := eps 509803 (by walk_at "nonempty") (Dk Ms.1)
noncomputable def Mv : Stg (F := Heap → Nat → Tok → Nat → Heap → Obj → Prop) CR (Dk Ms.1 DG) := mk6 _ fun K4 => by
  intro F
  walk_at "in"
  k_steps
  try dsimp only
  refine Ae ?_
  k_steps
  delta Cg
  refine' kda_set (knd := PySem.intKind _ _) ?F ?N ?U hG' (intKind_is _ _ _ _) ?z ?_
  case F => k_asm
  case N => k_asm
  case U => k_updF
  case z =>
    have := congrArg List.length hgo'.keys
    rw [List.length_map, List.length_map] at this
    rw [sizeLine_eq]; omega
  intro h' oG'' F' N' hG''
  rename_i c4_1 z1 z2 _ c4_3 c4_4
  clear F a_2 a_3 hlen' hv hszle hne hpk nfg nlg nxg ndc nds z1 z2
  walk_at "rv"
  intro K4
  exact K4.p c4_1 tk c4_3 c4_4 h' oG''
@[irreducible] def PW := eps 509804 (by walk_at "nonempty") (CR Mv.1)
theorem Ti : CR Mv.1 PW := by
  intro hnd
  walk_at "in"
  try dsimp only at N'
  rw [RP hok.2.1 (by omega) (by have := Ld hc hcp; omega)] at hG''
  k_steps
  refine Ig.intro (by assumption) ?_ (goes_turn (isDict_cls hG') NiH hx hdd' (ne4' DG.1.1.1.1 hx) ne5 ne6' ne7.2.2 ne8 rfl N') ⟨(dl - (AY.2.1.1.1 + DG.1.1.1.2)).toNat, ?_, _, _, _, _, _, _, _, rfl, hG'', hi'.step hnd hx hc hcp rfl rfl (.inr rfl), hgo'.step (x' := { DG.1.1.1.1.2 with lo := DG.1.1.2.2, n := 0, st := Str.ofString "send", t2 := DG.2.1.1.2, snt := DG.1.1.1.1.2.snt + DG.1.1.1.2, t4 := DG.2.1.2.1 }) hnd' hx rfl, rfl⟩
  · intro z hz
    have hz2 := hm z hz
    simp only [List.mem_cons, List.not_mem_nil, or_false] at hz
    simp only [hz, if_false]
  · have := Ld hc hcp
    omega
end kut2
end kut1
end EV
def EV {w p loose mean mg mb dp un gdg cn cs a ccd cl outer A₀ base h₀ L m s Q E led k kc sp ds dc gd oS oG turn dl used t0 t5 t6 ps gvs} :=
  (JF.eq_1 w p loose mean mg mb dp un gdg cn cs a ccd cl outer A₀ base h₀ L m s Q E led k kc sp ds dc gd oS oG turn dl used t0 t5 t6 ps gvs).mp ((BH (P := ccx Dk JF) An (AQ EV.Mx EV.AY (AQ EV.kut1.Mq EV.kut1.MA (AQ EV.kut1.kut2.Ms EV.kut1.kut2.DG (AQ EV.kut1.kut2.Mv EV.kut1.kut2.PW EV.kut1.kut2.Ti)))) ((⟨w, p, loose, mean, mg, mb, dp, un, gdg, cn, cs, a, ccd, cl, outer, A₀, base, h₀, L, m, s, Q, E, led⟩ : Cx), (((k, kc), sp, ds), (dc, gd), oS, oG), ((turn, dl), used, t0), (t5, t6), ps, gvs)))
end
section
set_option rowWalk.seconds 0
theorem TV : True := by
  k_with "subscriptTail" => (k_here; refine PJ (by k_asm) (by k_mem) ?_)
  k_with "call ref" => (k_here; (with_reducible show wpAny _ _ (PySem.call (Value.ref 539) _) _ _ _); (refine Lw (by k_asm) (by k_asm) (by k_asm) (by k_asm) rfl (by k_asm) (by assumption) (by walk_at "rm") (by walk_at "rm") ?_; intro h' tk' up'; walk_at "k upd"))
  trivial
section
variable {w : World} {p : Program} {loose : List Str} {mean : ExcName → Option Value} {mg mb : Str → Option Value} {dp un : Nat} {gd : Option (List Code)} {cn : Str} {cs : Scope} {a : Addr} {ccd : Value} {cl : List (Str × Addr)} {outer : List Env} {A₀ : Around} {base h₀ : Heap} {L : Addr} {m : Str → Option Value} {s : Shared} {Q E : Value → Shared → Prop} {led led' : List (Addr × Obj)}
variable (B : Below A₀ base outer h₀) (F : Fr h₀ L s.heap m) (X : (KK w.params).In h₀) (T : Top p loose mean mg mb h₀) (hk : cs.kind = .function) (N : News h₀ L s.heap led)
include B F X T hk N
theorem NP {sid : Int} {t : Tok} (hd : dp + 1 < recursionLimit) (hu : un + 8 < cLine)
    (hret : ∀ (t' : Tok) (h' : Heap) (tk' : Nat), Up s.heap h' → Q (.int (sid.fdiv 4) t') { s with heap := h', toks := tk' }) :
    wpAny (model pw w) (ktrTop dp un gd cn cs L a ccd cl outer) (PySem.call (.ref 518) [.int sid t]) Q E s := by
  have NR : News h₀ L s.heap [] := News.nil
  clear N
  walk_at "kt open"
  k_steps
  exact hret _ _ _ (IB (by assumption))
end
theorem Tz : True := by
  k_with "call ref" => (k_here; (with_reducible show wpAny _ _ (PySem.call (Value.ref 518) _) _ _ _); (refine NP (by k_asm) (by k_asm) (by k_asm) (by k_asm) rfl (by k_asm) (by walk_at "rm") (by walk_at "rm") ?_; intro t' h' tk' up'; walk_at "k upd"))
  trivial
noncomputable def FN : T24 (IK → Addr → Addr → Int → Int → Int → Tok → Tok → Tok → Tok → Nat → Bool → Prop) := fun w pgm loose mean mg mb dp un gd cn cs a ccd cl outer A₀ base h₀ L m s Q E led k ip id c0 c1 sid tc0 tc1 t t1 n b =>
  (Below A₀ base outer h₀) → (Fr h₀ L s.heap m) → ((KK w.params).In h₀) → (Top pgm loose mean mg mb h₀) → (cs.kind = .function) → (News h₀ L s.heap led) → ((ip, instObj 603 id) ∈ led) → ((id, Ev k) ∈ led) → ((k.om, pairO c0 tc0 c1 tc1 n) ∈ led) → (SidB sid b) → (¬ (sid.fdiv 4 ≥ (if b then c1 else c0))) → (dp + 4 < recursionLimit) → (un + 40 < cLine) → (∀ (D : Addr) (h' : Heap) (tk' : Nat), Fr h₀ L h' m → News h₀ L h' ((D, PySem.W.listOf #[] 0) :: led) → (∀ q ∈ led, q.1 ≠ D) → Q (.ref D) { s with heap := h', toks := tk' }) →
  wpAny (model pw w) (ktrTop dp un gd cn cs L a ccd cl outer) (PySem.call (.ref 579) [.ref ip, .str (Str.ofString "max_stream_data") t1, .int sid t]) Q E s
@[irreducible] def Bw := eps 447400 (by walk_at "nonempty") (ccx Dv FN)
noncomputable def GO : Stg (F := Heap → Addr → Nat → Obj → Obj → Heap → Prop) CR (ccx Dv FN Bw) := mk6 _ fun K1 => by
  intro B F X T hk N m1 m2 m3 hb hlt hd hu hret
  have NR : News Bw.1.h₀ Bw.1.L Bw.1.s.heap [(Bw.2.1.1.1.2, instObj 603 Bw.2.1.1.2), (Bw.2.1.1.2, Ev Bw.2.1.1.1.1), (Bw.2.1.1.1.1.om, pairO Bw.2.1.2.1.1 Bw.2.2.1.1.1 Bw.2.1.2.1.2 Bw.2.2.1.1.2 Bw.2.2.2.1.2)] := (by repeat (first | exact News.nil | refine Bh N (by first | assumption | exact m1) ?_))
  have N0 : Hid (News Bw.1.h₀ Bw.1.L Bw.1.s.heap Bw.1.led) := N
  clear N
  have hl := UM hlt
  walk_at "C open"
  iterate 14 (first | walk_at "step" | skip)
  try dsimp (zetaDelta := true) only
  rename_i c1_1 c1_2 _ c1_4 z1 _ _ _ _ z2 c1_5 c1_6 z3 _ c1_7 _ _
  clear B F hk m1 m2 m3 hl z1 z2 z3
  walk_at "rv"
  intro K1
  exact K1.p c1_1 c1_2 c1_4 c1_5 c1_6 c1_7
@[irreducible] def Jy := eps 447401 (by walk_at "nonempty") (CR GO.1)
noncomputable def GE : Stg (F := Heap → Nat → Prop) CM (CR GO.1 Jy) := mk2 _ fun K2 => by
  intro X T hb hlt hd hu hret NR N0 y9 y10 y11 y12 y13 y14 y15
  iterate 31 (first | walk_at "step" | skip)
  try dsimp (zetaDelta := true) only
  walk_at "rv"
  intro K2
  exact K2.p h tk
@[irreducible] def Jh := eps 447402 (by walk_at "nonempty") (CM GE.1)
noncomputable def Gw : Stg (F := Heap → Nat → Prop) CM (CM GE.1 Jh) := mk2 _ fun K3 => by
  intro X T hb hlt hd hu hret NR N0 y9 y10 y11 y12 y13 y14 y15
  iterate 15 (first | walk_at "step" | skip)
  try dsimp (zetaDelta := true) only
  clear y14 y15
  walk_at "rv"
  intro K3
  exact K3.p h' tk'
@[irreducible] def Jf := eps 447403 (by walk_at "nonempty") (CM Gw.1)
noncomputable def GH : Stg (F := Tok → Addr → Heap → Nat → Prop) Ch (CM Gw.1 Jf) := mk4 _ fun K4 => by
  intro X T hb hlt hd hu hret NR N0 y9 y10 y11 y12 y13 F' N'
  iterate 17 (first | walk_at "step" | skip)
  try dsimp (zetaDelta := true) only
  rename_i c4_1 _ z1 _ _ c4_5 _ _
  clear z1
  walk_at "rv"
  intro K4
  exact K4.p t' c4_1 c4_5 tk
@[irreducible] def JA := eps 447404 (by walk_at "nonempty") (Ch GH.1)
theorem Nc : Ch GH.1 JA := by
  intro X T hb hlt hd hu hret NR N0 y9 y10 y11 y12 y13 y14 y15
  k_steps
  refine hret _ _ _ ?_ (AM (BV N0 NR (by first | assumption | exact news_sub (by k_asm) (fun q hq => by repeat (first | with_reducible exact hq | apply List.mem_cons_of_mem))) (by assumption)) (by k_asm) (.head _)) (AU N0 (by assumption) (by assumption) (.head _) (by repeat (first | exact List.not_mem_nil | refine nm1 (by k_ne) ?_)))
  assumption
def Qo {w p loose mean mg mb dp un gd cn cs a ccd cl outer A₀ base h₀ L m s Q E led k ip id c0 c1 sid tc0 tc1 t t1 n b} :=
  (FN.eq_1 w p loose mean mg mb dp un gd cn cs a ccd cl outer A₀ base h₀ L m s Q E led k ip id c0 c1 sid tc0 tc1 t t1 n b).mp ((BH (P := ccx Dv FN) Bw (AQ GO Jy (AQ GE Jh (AQ Gw Jf (AQ GH JA Nc)))) ((⟨w, p, loose, mean, mg, mb, dp, un, gd, cn, cs, a, ccd, cl, outer, A₀, base, h₀, L, m, s, Q, E, led⟩ : Cx), (((k, ip), id), (c0, c1), sid), ((tc0, tc1), t), (t1, n), b)))
end
section
set_option rowWalk.seconds 0
theorem TJ : True := by
  k_with "K open" => (refine wpAny_call ?_; k_dflt (refine' Ij ?k1 ?k2 ?k3 ?k4 ?k5 ?kA ?kF ?kK ?k6 ?k7 ?k8 ?k9 ?kB ?_ ?c5 ?c2 ?c3 ?c4; (case kA => exact rfl); (case kF => exact rfl); (case kK => exact rfl); (case k1 => k_asm); (case k2 => k_asm); (case k3 => k_asm); (case k4 => k_asm); (case k5 => k_asm); (case k6 => k_is); (case k7 => k_is); (case k8 => first | walk_at "rm" | ktr_room); (case k9 => exact BindsTo.of_eq rfl); (case c5 => decide); (case kB => exact locs rfl); (case c2 => exact rfl); (case c3 => exact rfl); (case c4 => exact rfl); k_whole; intro _ _ _ _ _ _ _ _ _ _ _ _; (try dsimp only); (try k_fold)))
  trivial
theorem Ur : True := by
  k_with "call ref" => (k_here; (with_reducible show wpAny _ _ (PySem.call (Value.ref 579) _) _ _ _); (refine Qo (by k_asm) (by k_asm) (by k_asm) (by k_asm) (by rfl) (by k_asm) (by k_mem) (by k_mem) (by k_mem) (by assumption) (by assumption) (by (first | walk_at "rm" | omega | ktr_room)) (by (first | walk_at "rm" | omega | ktr_units)) ?_; intro D' h' tk' F' N' nd'; (try (have n1' := nd' _ (.head _); dsimp only at n1')); (try (have n2' := nd' _ (.tail _ (.head _)); dsimp only at n2')); (try (have n3' := nd' _ (.tail _ (.tail _ (.head _))); dsimp only at n3')); (try (have n4' := nd' _ (.tail _ (.tail _ (.tail _ (.head _)))); dsimp only at n4')); (try (have n5' := nd' _ (.tail _ (.tail _ (.tail _ (.tail _ (.head _))))); dsimp only at n5')); (try (have n6' := nd' _ (.tail _ (.tail _ (.tail _ (.tail _ (.tail _ (.head _)))))); dsimp only at n6')); (try (have n7' := nd' _ (.tail _ (.tail _ (.tail _ (.tail _ (.tail _ (.tail _ (.head _))))))); dsimp only at n7')); (try (have n8' := nd' _ (.tail _ (.tail _ (.tail _ (.tail _ (.tail _ (.tail _ (.tail _ (.head _)))))))); dsimp only at n8')); (try (have n9' := nd' _ (.tail _ (.tail _ (.tail _ (.tail _ (.tail _ (.tail _ (.tail _ (.tail _ (.head _))))))))); dsimp only at n9')); (try (have n10' := nd' _ (.tail _ (.tail _ (.tail _ (.tail _ (.tail _ (.tail _ (.tail _ (.tail _ (.tail _ (.head _)))))))))); dsimp only at n10')); (try (have n11' := nd' _ (.tail _ (.tail _ (.tail _ (.tail _ (.tail _ (.tail _ (.tail _ (.tail _ (.tail _ (.tail _ (.head _))))))))))); dsimp only at n11')); (clear nd')))
  k_with "call ref" => (k_here; (with_reducible show wpAny _ _ (PySem.call (Value.ref 425) _) _ _ _); (refine LV (by k_asm) (by k_asm) (by k_asm) (by k_asm) (by rfl) (by k_asm) (by k_mem) (by k_mem) (by k_updF) (by (first | walk_at "rm" | omega | ktr_room)) (by (first | walk_at "rm" | omega | ktr_units)) ?_; intro t' h' tk' F' N'))
  k_with "call ref" => (k_here; (first | (with_reducible show wpAny _ _ (PySem.call (Value.ref 705) _) _ _ _) | (with_reducible show wpAny _ _ (PySem.call (Value.ref 726) _) _ _ _)); walk_at "K open")
  trivial
noncomputable abbrev QR (sid v : Int) (t1 t2 t3 : Tok) : Obj := { cls := .type "tuple", dict := none, data := .seq #[.str (Str.ofString "max_stream_data") t1, .int sid t2, .int v t3] 0, slots := #[] }
noncomputable def GS : T24 (SD → IK → PS → Addr → Addr → Addr → Addr → Addr → Addr → Addr → Int → Int → Int → Int → Int → Int → Int → Tok → Tok → Tok → Tok → Tok → Tok → Tok → Tok → Tok → Tok → Nat → Bool → Obj → (List (Int × Value)) → Str → (Array UInt8) → (Obj → List (Addr × Obj)) → Prop) := fun w pgm loose mean mg mb dp un gd cn cs a ccd cl outer A₀ base h₀ L m s Q E led k ki kp f sp ds id p d lo turn sid v c0 c1 lim snt t0 t1 t2 t3 tc0 tc1 u1 u2 u3 u4 n b oS kS st wr g =>
  (Below A₀ base outer h₀) → (Fr h₀ L s.heap m) → ((KK w.params).In h₀) → (Top pgm loose mean mg mb h₀) → (cs.kind = .function) → (News h₀ L s.heap led) → ((f, QR sid v t1 t2 t3) ∈ led) → ((sp, instObj 790 ds) ∈ led) → ((ds, BF k turn t0) ∈ led) → ((k.ids, instObj 603 id) ∈ led) → ((id, Ev ki) ∈ led) → ((ki.om, pairO c0 tc0 c1 tc1 n) ∈ led) → ((k.se, oS) ∈ led) → (oS.IsDictOf (PySem.intKind pw w) kS) → (valueAt kS sid = some (.ref p)) → ((p, instObj 498 d) ∈ led) → ((d, Ca kp lim u1 st u2 wr u3 snt u4 lo) ∈ led) → (UpdF d (Ca kp lim u1 st u2 wr u3 snt u4 lo) led g) → (SidB sid b) → (¬ (sid.fdiv 4 ≥ (if b then c1 else c0))) → (k.se ≠ d) → (dp + 8 < recursionLimit) → (un + 60 < cLine) → (∀ (t : Tok) (h' : Heap) (tk' : Nat), Fr h₀ L h' m → News h₀ L h' (g (Ca kp (max lim v) t st u2 wr u3 snt u4 lo)) → Q .none { s with heap := h', toks := tk' }) →
  wpAny (model pw w) (ktrTop dp un gd cn cs L a ccd cl outer) (PySem.call (.ref 712) [.ref sp, .ref f]) Q E s
@[irreducible] def Aj := eps 7053500 (by walk_at "nonempty") (ccx PG GS)
namespace CH
def d := Aj.2.1.1.2.2.2
noncomputable def Kb : Stg (F := Heap → Addr → Heap → Nat → Prop) Ch (vcx GS Aj.1 Aj.2.1.1.1.1.1.1 Aj.2.1.1.1.1.1.2 Aj.2.1.1.1.1.2 Aj.2.1.1.1.2.1 Aj.2.1.1.1.2.2 Aj.2.1.1.2.1.1 Aj.2.1.1.2.1.2 Aj.2.1.1.2.2.1 d Aj.2.1.2.1.1.1 Aj.2.1.2.1.1.2 Aj.2.1.2.1.2.1 Aj.2.1.2.1.2.2 Aj.2.1.2.2.1.1 Aj.2.1.2.2.1.2 Aj.2.1.2.2.2.1 Aj.2.1.2.2.2.2 Aj.2.2.1.1.1.1.1 Aj.2.2.1.1.1.1.2 Aj.2.2.1.1.1.2 Aj.2.2.1.1.2.1 Aj.2.2.1.1.2.2 Aj.2.2.1.2.1.1 Aj.2.2.1.2.1.2 Aj.2.2.1.2.2.1 Aj.2.2.1.2.2.2 Aj.2.2.2.1.1.1 Aj.2.2.2.1.1.2 Aj.2.2.2.1.2.1 Aj.2.2.2.1.2.2 Aj.2.2.2.2.1.1 Aj.2.2.2.2.1.2 Aj.2.2.2.2.2.1 Aj.2.2.2.2.2.2) := mk4 _ fun K1 => by
  intro B F X T hk N m0 m1 m2 m3 m4 m5 m6 hS hv m7 m8 U hb hlt ne1 hd hu hret
  have NR : News Aj.1.h₀ Aj.1.L Aj.1.s.heap [(Aj.2.1.1.1.2.1, QR Aj.2.1.2.1.2.1 Aj.2.1.2.1.2.2 Aj.2.2.1.1.1.1.2 Aj.2.2.1.1.1.2 Aj.2.2.1.1.2.1), (Aj.2.1.1.1.2.2, instObj 790 Aj.2.1.1.2.1.1), (Aj.2.1.1.2.1.1, BF Aj.2.1.1.1.1.1.1 Aj.2.1.2.1.1.2 Aj.2.2.1.1.1.1.1), (Aj.2.1.1.1.1.1.1.ids, instObj 603 Aj.2.1.1.2.1.2), (Aj.2.1.1.2.1.2, Ev Aj.2.1.1.1.1.1.2), (Aj.2.1.1.1.1.1.2.om, pairO Aj.2.1.2.2.1.1 Aj.2.2.1.1.2.2 Aj.2.1.2.2.1.2 Aj.2.2.1.2.1.1 Aj.2.2.2.1.1.2), (Aj.2.1.1.1.1.1.1.se, Aj.2.2.2.1.2.2), (Aj.2.1.1.2.2.1, instObj 498 d), (d, Ca Aj.2.1.1.1.1.2 Aj.2.1.2.2.2.1 Aj.2.2.1.2.1.2 Aj.2.2.2.2.1.2 Aj.2.2.1.2.2.1 Aj.2.2.2.2.2.1 Aj.2.2.1.2.2.2 Aj.2.1.2.2.2.2 Aj.2.2.2.1.1.1 Aj.2.1.2.1.1.1)] := (by repeat (first | exact News.nil | refine Bh N (by first | assumption | exact m1) ?_))
  have N0 : Hid (News Aj.1.h₀ Aj.1.L Aj.1.s.heap Aj.1.led) := N
  have q1 : Aj.2.1.1.1.2.1 ≠ d := Ar N m0 m8 rfl
  have q2 : Aj.2.1.1.1.2.2 ≠ d := Ar N m1 m8 rfl
  have q3 : Aj.2.1.1.2.1.1 ≠ d := DD N m2 m8 (show (14 : Nat) ≠ 11 by decide)
  have q4 : Aj.2.1.1.1.1.1.1.ids ≠ d := Ar N m3 m8 rfl
  have q5 : Aj.2.1.1.2.1.2 ≠ d := DD N m4 m8 (show (7 : Nat) ≠ 11 by decide)
  have q6 : Aj.2.1.1.1.1.1.2.om ≠ d := Ar N m5 m8 rfl
  have q7 : Aj.2.1.1.2.2.1 ≠ d := Ar N m7 m8 rfl
  clear N
  walk_at "kt open"
  iterate 17 walk_at "step"
  try dsimp (zetaDelta := true) only
  rename_i c1_1 c1_2 _ z1 _ _ _ z2 z3 z4 c1_4 _ _
  clear B F hk m0 m1 m2 m3 m4 m5 m6 m7 m8 z1 z2 z3 z4
  walk_at "rv"
  intro K1
  exact K1.p c1_1 c1_2 c1_4 tk
@[irreducible] def OI := eps 7053501 (by walk_at "nonempty") (Ch Kb.1)
noncomputable def Ks : Stg (F := Nat → Addr → Heap → Nat → Prop) Ch (Ch Kb.1 OI) := mk4 _ fun K2 => by
  intro X T hS hv U hb hlt ne1 hd hu hret NR N0 q1 q2 q3 q4 q5 q6 q7 y20 y21 y22 y23 y24
  iterate 24 walk_at "step"
  try dsimp (zetaDelta := true) only
  rename_i c2_1 c2_2 c2_3 _ _ _
  walk_at "rv"
  intro K2
  exact K2.p c2_1 c2_2 c2_3 tk
@[irreducible] def Ov := eps 7053502 (by walk_at "nonempty") (Ch Ks.1)
noncomputable def Kv : Stg (F := Addr → Heap → Nat → Prop) CG (Ch Ks.1 Ov) := mk3 _ fun K3 => by
  intro X T hS hv U hb hlt ne1 hd hu hret NR N0 q1 q2 q3 q4 q5 q6 q7 y20 y21 y22 y23 y24 y25
  iterate 17 walk_at "step"
  try dsimp (zetaDelta := true) only
  rename_i c3_1 c3_2 _ _ _
  walk_at "rv"
  intro K3
  exact K3.p c3_1 c3_2 tk
@[irreducible] def Ox := eps 7053503 (by walk_at "nonempty") (CG Kv.1)
noncomputable def KF : Stg (F := Heap → Addr → Addr → Heap → Heap → Nat → Prop) CR (CG Kv.1 Ox) := mk6 _ fun K4 => by
  intro X T hS hv U hb hlt ne1 hd hu hret NR N0 q1 q2 q3 q4 q5 q6 q7 y20 y21 y22 y23 y24 y25 y26
  iterate 36 walk_at "step"
  try dsimp (zetaDelta := true) only
  rename_i c4_1 c4_2 _ z1 z2 z3 z4 _ z5 z6 z7 z8 _ z9 c4_5 c4_6 _ z10 _ _ _ _ z11
  clear hb hlt y21 y22 y24 y25 z1 z2 z3 z4 z5 z6 z7 z8 n1' n2' n3' n4' n5' n6' n7' n8' n9' n10' z9 z10 z11
  walk_at "rv"
  intro K4
  exact K4.p c4_1 c4_2 D' h' c4_5 c4_6
@[irreducible] def Ot := eps 7053504 (by walk_at "nonempty") (CR KF.1)
noncomputable def Ky : Stg (F := Heap → Addr → Addr → Heap → Nat → Prop) Cz (CR KF.1 Ot) := mk5 _ fun K5 => by
  intro X T hS hv U ne1 hd hu hret NR N0 q1 q2 q3 q4 q5 q6 q7 y18 y19 y20 y21 N' n11' y24 y25 y26 y27 y28
  iterate 35 walk_at "step"
  try dsimp (zetaDelta := true) only
  rename_i c5_1 c5_2 _ z1 _ _ _ z2 z3 z4 c5_4 _ _ _ _ c5_8 _ _
  clear y18 y21 y24 y25 y26 z1 z2 z3 z4
  walk_at "rv"
  intro K5
  exact K5.p c5_1 c5_2 c5_4 c5_8 tk
@[irreducible] def Nr := eps 7053505 (by walk_at "nonempty") (Cz Ky.1)
noncomputable def Ke : Stg (F := Heap → Nat → Prop) CM (Cz Ky.1 Nr) := mk2 _ fun K6 => by
  intro X T hS hv U ne1 hd hu hret NR N0 q1 q2 q3 q4 q5 q6 q7 y18 y19 N' n11' y22 y23 y24 y25 y26 y27 y28 y29
  iterate 19 walk_at "step"
  try dsimp (zetaDelta := true) only
  rename_i c6_1 _ _
  clear hS hv
  walk_at "rv"
  intro K6
  exact K6.p c6_1 tk
@[irreducible] def NV := eps 7053506 (by walk_at "nonempty") (CM Ke.1)
theorem Sj : CM Ke.1 NV := by
  intro X T U ne1 hd hu hret NR N0 q1 q2 q3 q4 q5 q6 q7 y16 y17 N' n11' y20 y21 y22 y23 y24 y25 y26 y27
  k_steps
  refine' hret _ _ _ ?rF ?rN
  case rN => exact CL N0 NR (by k_asm) (by assumption) U (by k_mem) (by repeat (first | exact fa0 | refine fa1 (fun hn => by first | k_mem | exact absurd rfl hn) ?_))
  case rF => assumption
end CH
def CH {w pgm loose mean mg mb dp un gd cn cs a ccd cl outer A₀ base h₀ L m s Q E led k ki kp f sp ds id p d lo turn sid v c0 c1 lim snt t0 t1 t2 t3 tc0 tc1 u1 u2 u3 u4 n b oS kS st wr g} :=
  (GS.eq_1 w pgm loose mean mg mb dp un gd cn cs a ccd cl outer A₀ base h₀ L m s Q E led k ki kp f sp ds id p d lo turn sid v c0 c1 lim snt t0 t1 t2 t3 tc0 tc1 u1 u2 u3 u4 n b oS kS st wr g).mp ((BH (P := ccx PG GS) Aj (AQ CH.Kb CH.OI (AQ CH.Ks CH.Ov (AQ CH.Kv CH.Ox (AQ CH.KF CH.Ot (AQ CH.Ky CH.Nr (AQ CH.Ke CH.NV CH.Sj)))))) ((⟨w, _, loose, mean, mg, mb, dp, un, gd, cn, cs, a, ccd, cl, outer, A₀, base, h₀, L, m, s, Q, E, led⟩ : Cx), (((((k, ki), kp), f, sp), (ds, id), p, d), ((lo, turn), sid, v), (c0, c1), lim, snt), ((((t0, t1), t2), t3, tc0), (tc1, u1), u2, u3), ((u4, n), b, oS), (kS, st), wr, g)))
end
section
set_option rowWalk.seconds 0
section
variable {w : World} {p : Program} {loose : List Str} {mean : ExcName → Option Value} {mg mb : Str → Option Value} {dp un : Nat} {gd : Option (List Code)} {cn : Str} {cs : Scope} {a : Addr} {ccd : Value} {cl : List (Str × Addr)} {outer : List Env} {A₀ : Around} {base h₀ : Heap} {L : Addr} {m : Str → Option Value} {s : Shared} {Q E : Value → Shared → Prop} {led led' : List (Addr × Obj)}
variable (B : Below A₀ base outer h₀) (F : Fr h₀ L s.heap m) (X : (KK w.params).In h₀) (T : Top p loose mean mg mb h₀) (hk : cs.kind = .function) (N : News h₀ L s.heap led)
include B F X T hk N
theorem Um : True := by
  k_with "call ref" => (k_here; (with_reducible show wpAny _ _ (PySem.call (Value.ref 98) _) _ _ _); (refine LB (by k_asm) (by k_asm) (by k_asm) (by k_asm) (by rfl) (by k_asm) (by k_mem) (by k_mem) (by k_updF) (by (first | walk_at "rm" | omega | ktr_room)) (by (first | walk_at "rm" | omega | ktr_units)) ?_; intro b' t' h' tk' F' N'))
  k_with "call ref" => (k_here; (with_reducible show wpAny _ _ (PySem.call (Value.ref 574) _) _ _ _); (refine HY (by k_asm) (by k_asm) (by k_asm) (by k_asm) (by rfl) (by k_asm) (by k_mem) (by k_mem) (by k_mem) (by k_updF) (by (first | walk_at "rm" | omega | ktr_room)) (by (first | walk_at "rm" | omega | ktr_units)) ?_; intro ta' tb' n' h' tk' F' N'))
  trivial
noncomputable abbrev mdO (v : Int) (t1 t3 : Tok) : Obj := { cls := .type "tuple", dict := none, data := .seq #[.str (Str.ofString "max_data") t1, .int v t3] 0, slots := #[] }
noncomputable abbrev msO (b : Bool) (v : Int) (t1 t3 : Tok) : Obj := { cls := .type "tuple", dict := none, data := .seq #[.str (Str.ofString "max_streams") t1, .bool b, .int v t3] 0, slots := #[] }
theorem RE {k : SD} {kc : CS} {f sp ds dc : Addr} {turn v lim used : Int} {t0 t1 t3 u1 u2 : Tok} {g : Obj → List (Addr × Obj)}
    (m0 : (f, mdO v t1 t3) ∈ led) (m1 : (sp, instObj 790 ds) ∈ led) (m2 : (ds, BF k turn t0) ∈ led) (m3 : (k.cr, instObj 115 dc) ∈ led) (m4 : (dc, AI kc lim u1 used u2) ∈ led) (U : UpdF dc (AI kc lim u1 used u2) led g)
    (hd : dp + 8 < recursionLimit) (hu : un + 60 < cLine)
    (hret : ∀ (t : Tok) (h' : Heap) (tk' : Nat), Fr h₀ L h' m → News h₀ L h' (g (AI kc (max lim v) t used u2)) → Q .none { s with heap := h', toks := tk' }) :
    wpAny (model pw w) (ktrTop dp un gd cn cs L a ccd cl outer) (PySem.call (.ref 712) [.ref sp, .ref f]) Q E s := by
  have NR : News h₀ L s.heap [(f, mdO v t1 t3), (sp, instObj 790 ds), (ds, BF k turn t0), (k.cr, instObj 115 dc), (dc, AI kc lim u1 used u2)] := (by repeat (first | exact News.nil | refine Bh N (by first | assumption | exact m1) ?_))
  have N0 : Hid (News h₀ L s.heap led) := N
  have q1 : f ≠ dc := Ar N m0 m4 rfl
  have q2 : sp ≠ dc := Ar N m1 m4 rfl
  have q3 : ds ≠ dc := DD N m2 m4 (show (14 : Nat) ≠ 3 by decide)
  have q4 : k.cr ≠ dc := Ar N m3 m4 rfl
  clear N
  walk_at "kt open"
  k_steps
  refine' hret _ _ _ ?rF ?rN
  case rN => exact CL N0 NR (by k_asm) (by assumption) U (by k_mem) (by repeat (first | exact fa0 | refine fa1 (fun hn => by first | k_mem | exact absurd rfl hn) ?_))
  case rF => assumption
theorem RG {k : SD} {ki : IK} {f sp ds id : Addr} {turn v a0 a1 : Int} {t0 t1 t3 ta0 ta1 : Tok} {n : Nat} {b : Bool} {g : Obj → List (Addr × Obj)}
    (m0 : (f, msO b v t1 t3) ∈ led) (m1 : (sp, instObj 790 ds) ∈ led) (m2 : (ds, BF k turn t0) ∈ led) (m3 : (k.ids, instObj 603 id) ∈ led) (m4 : (id, Ev ki) ∈ led) (m5 : (ki.ol, pairO a0 ta0 a1 ta1 n) ∈ led) (U : UpdF ki.ol (pairO a0 ta0 a1 ta1 n) led g)
    (hd : dp + 8 < recursionLimit) (hu : un + 60 < cLine)
    (hret : ∀ (ta tb : Tok) (n' : Nat) (h' : Heap) (tk' : Nat), Fr h₀ L h' m → News h₀ L h' (g (pairO (if b then a0 else max a0 v) ta (if b then max a1 v else a1) tb n')) → Q .none { s with heap := h', toks := tk' }) :
    wpAny (model pw w) (ktrTop dp un gd cn cs L a ccd cl outer) (PySem.call (.ref 712) [.ref sp, .ref f]) Q E s := by
  have NR : News h₀ L s.heap [(f, msO b v t1 t3), (sp, instObj 790 ds), (ds, BF k turn t0), (k.ids, instObj 603 id), (id, Ev ki), (ki.ol, pairO a0 ta0 a1 ta1 n)] := (by repeat (first | exact News.nil | refine Bh N (by first | assumption | exact m1) ?_))
  have N0 : Hid (News h₀ L s.heap led) := N
  have q1 : f ≠ ki.ol := Ar N m0 m5 rfl
  have q2 : sp ≠ ki.ol := Ar N m1 m5 rfl
  have q3 : ds ≠ ki.ol := Ar N m2 m5 rfl
  have q4 : k.ids ≠ ki.ol := Ar N m3 m5 rfl
  have q5 : id ≠ ki.ol := Ar N m4 m5 rfl
  clear N
  walk_at "kt open"
  k_steps
  refine' hret _ _ _ _ _ ?rF ?rN
  case rN => exact CL N0 NR (by k_asm) (by assumption) U (by k_mem) (by repeat (first | exact fa0 | refine fa1 (fun hn => by first | k_mem | exact absurd rfl hn) ?_))
  case rF => assumption
end
end
section
inductive Wd where
  | md (v : Int)
  | msd (i : Nat) (v : Int)
  | ms (b : Bool) (v : Int)
set_option genInjectivity false in
set_option genSizeOfSpec false in
structure Lim where
  d : Int
  l : List Int
  s0 : Int
  s1 : Int
noncomputable def Lim.up (m : Lim) : Wd → Lim
  | .md v => { m with d := max m.d v }
  | .msd i v => { m with l := m.l.set i (max (m.l.getD i 0) v) }
  | .ms b v => { m with s0 := if b then m.s0 else max m.s0 v, s1 := if b then max m.s1 v else m.s1 }
noncomputable def lim0 (d l u : Int) (n : Nat) : Lim := ⟨d, (List.range n).map fun i => if i = 1 then u else l, 2, 1⟩
noncomputable def limOf (m : Lim) (ws : List Wd) : Lim := ws.foldl Lim.up m
noncomputable def Wd.ok (n : Nat) : Wd → Prop
  | .msd i _ => i < n
  | _ => True
noncomputable def HG (led : List (Addr × Obj)) (a : Addr) : Wd → Prop
  | .md v => ∃ t1 t3, (a, mdO v t1 t3) ∈ led
  | .msd i v => ∃ t1 t2 t3, (a, QR (2 * (i : Int)) v t1 t2 t3) ∈ led
  | .ms b v => ∃ t1 t3, (a, msO b v t1 t3) ∈ led
theorem Fp {h₀ h : Heap} {L D : Addr} {led : List (Addr × Obj)} (N : News h₀ L h led) (hD : h.get? D = none) : ∀ q ∈ led, q.1 ≠ D := fun q hq e => by
  have := (N q hq).1
  rw [e, hD] at this; cases this
noncomputable def IsI (v : Int) (y : Value) : Prop := ∃ t, y = .int v t
theorem Fw {g : Nat → Int} : ∀ {ks : List Nat} {ys : List Value}, Paired (fun k y => IsI (g k) y) ks ys → IntsAre ys (ks.map g)
  | [], _, h => by cases h; exact .nil
  | k :: ks, _, h => by
    cases h with
    | cons a b =>
      obtain ⟨t, rfl⟩ := a
      exact .cons _ _ (Fw b)
inductive WordsAre (led : List (Addr × Obj)) : List Value → List Wd → Prop where
  | nil : WordsAre led [] []
  | cons {a : Addr} {x : Wd} {vs : List Value} {ws : List Wd} : HG led a x → WordsAre led vs ws → WordsAre led (.ref a :: vs) (x :: ws)
theorem WordsAre.length {led : List (Addr × Obj)} {vs : List Value} {ws : List Wd} (h : WordsAre led vs ws) : vs.length = ws.length := by
  induction h with
  | nil => rfl
  | cons _ _ ih => exact congrArg (· + 1) ih
theorem WordsAre.at {led : List (Addr × Obj)} {vs : List Value} {ws : List Wd} (h : WordsAre led vs ws) : ∀ {i : Nat} {v : Value}, vs[i]? = some v → ∃ a x, v = .ref a ∧ ws[i]? = some x ∧ HG led a x := by
  induction h with
  | nil => intro i v h; cases h
  | cons hw _ ih =>
    intro i v h
    cases i with
    | zero => cases h; exact ⟨_, _, rfl, rfl, hw⟩
    | succ i => exact ih h
theorem LG {m : Lim} {ws : List Wd} {i : Nat} {x : Wd} (h : ws[i]? = some x) : limOf m (ws.take (i + 1)) = (limOf m (ws.take i)).up x := by
  unfold limOf
  rw [List.take_add_one, h, List.foldl_append]
  rfl
theorem QO (m : Lim) (x : Wd) : (m.up x).l.length = m.l.length := by
  cases x <;> simp [Lim.up]
theorem DI : ∀ (ws : List Wd) (m : Lim), (limOf m ws).l.length = m.l.length
  | [], _ => rfl
  | x :: r, m => by
    show (limOf (m.up x) r).l.length = _
    rw [DI r, QO]
end
section
open Sem (wp)
theorem Kn {F : Nat → Value → Prop} : ∀ {vs : List Value} {ys : List Value} {i : Nat}, (∀ (j : Nat) v, vs[j]? = some v → ∃ t, v = .int ((i + j : Nat) : Int) t) → Paired (fun v y => ∃ (k : Nat) (t : Tok), v = .int (k : Int) t ∧ F k y) vs ys → Paired F (List.range' i vs.length) ys
  | [], ys, i, _, hp => by cases hp; exact .nil
  | v :: vs, ys, i, hk, hp => by
    cases hp with
    | cons a b =>
      obtain ⟨k, t, e, f⟩ := a
      obtain ⟨u, e2⟩ := hk 0 v rfl
      rw [e2] at e
      cases e
      have ih := Kn (F := F) (i := i + 1) (fun j u hu => by
        obtain ⟨t, ht⟩ := hk (j + 1) u hu
        exact ⟨t, by rw [ht]; congr 2; lia⟩) b
      exact .cons f ih
section
variable {prog : Program} {w : World} {A : Around} {E : Value → Shared → Prop} {s : Shared} {env : Env}
end
noncomputable def Hu : Program → World → Around → (Value → Shared → Prop) → Shared → Env → Expr → Expr → Str → Pos → Scope → (List (Str × Addr)) → Pos → (Value → Shared → Prop) → Nat → (Nat → Value → Prop) → Prop := fun prog w A E s env elt iter x px scope cl pos Q n G =>
  (A.handled = none) → (n < 64) → (closureFor scope env = pure cl) → (∀ y ∈ scope.names, y.2 ≠ .cell) → (scope.kind = .function) → (∀ y ∈ scope.names, y.2 = .local → scope.names.lookup y.1 = some .local) → (scope.names.lookup x = some .local) → (wpAny (model prog w) A (eval iter env) (fun v s₁ => ∃ r t u v', v = .ref r ∧ IsRange s₁.heap r 0 n 1 t u v' ∧ Keeps s s₁) E s) → (∀ C (i : Nat) t s₃ m₃ (E' : Value → Shared → Prop), i < n → s₃.heap.Ns C m₃ → m₃ x = some (.int (i : Int) t) → Up s.heap s₃.heap →
      wpAny (model prog w) A (eval elt (compEnvC scope cl C env)) (fun y s₄ => G i y ∧ Keeps s₃ s₄) E' s₃) → (∀ D h' tk ys, s.heap.get? D = none → h'.PlainList D ys → Paired G (List.range' 0 n) ys.toList → Up s.heap h' → Q (.ref D) { s with heap := h', toks := tk }) → (∀ x, foldedSetIterable iter env x = pure x) →
  wpAny (model prog w) A (eval (.ListComp elt [⟨.Name x px, iter, [], 0⟩] scope pos) env) Q E s
@[irreducible] def Bj := eps 5808700 (by walk_at "nonempty") (Dk Hu)
namespace Ip
def n := Bj.2.2.2.1
theorem RJ : Hu Bj.1.1.1.1 Bj.1.1.1.2 Bj.1.1.2.1 Bj.1.1.2.2 Bj.1.2.1.1 Bj.1.2.1.2 Bj.1.2.2.1 Bj.1.2.2.2 Bj.2.1.1.1 Bj.2.1.1.2 Bj.2.1.2.1 Bj.2.1.2.2 Bj.2.2.1.1 Bj.2.2.1.2 n Bj.2.2.2.2 := by
  intro hh hn hclos hcell hkind hnames hx hi helt hQ hs
  refine wpAny_ListComp_free (fun _ => true) (fun v y => ∃ (k : Nat) (t : Tok), v = .int (k : Int) t ∧ Bj.2.2.2.2 k y) hclos hcell hkind hnames hx (wpAny_mono hi (fun v s₁ h₁ => ?_) fun _ _ e => e) hs
  obtain ⟨r, t, u, v', rfl, hr, h₁, tk₁, rfl, k₁⟩ := h₁
  have hsm : Builtin.Range.small 0 n 1 = true := (by decide +kernel : ∀ n : Fin 64, Builtin.Range.small 0 ((n : Nat) : Int) 1 = true) ⟨n, hn⟩
  have hsz : Builtin.Range.rangeSize 0 n 1 = n := by rw [rangeSize_nat, Int.sub_zero, Int.toNat_natCast]
  refine wpAny_pyIter_range hr hsm ?_
  rw [hsz]
  have up2 : Up Bj.1.2.1.1.heap (h₁.push { cls := .type "range_iterator", data := .fields #[rawInt 0, rawInt (n : Int), rawInt 1] }) := fun b o e => Heap.get?_push_of_some _ (k₁ b o e)
  have low : ∀ b o, Bj.1.2.1.1.heap.get? b = some o → b ∉ [h₁.objs.size] := fun b o e hb => absurd (Heap.lt_size (k₁ b o e)) (by rw [List.mem_singleton.mp hb]; exact Nat.lt_irrefl _)
  refine ⟨h₁.objs.size, [h₁.objs.size], [h₁.objs.size], n, _, _, rfl, (LCg.range_walks hh 0 n).bound, by rw [sizeLine_eq]; lia, ?_, ?_, ?_, ?_⟩
  · show (h₁.push _).get? h₁.objs.size = _
    rw [Heap.get?_push_size _ rfl]
    simp
  · intro b hb
    show b < (h₁.push _).objs.size
    rw [Heap.size_push, List.mem_singleton.mp hb]
    exact Nat.lt_succ_self _
  · constructor
    · intro C i v s₃ m₃ E' _ hv hn3 hm3 hkeep _
      exact wpAny_tests_nil ⟨rfl, ⟨_, _, rfl, fun _ _ e => e⟩⟩
    · intro C i v s₃ m₃ E' _ hv _ hn3 hm3 hkeep _
      obtain ⟨hin, t, rfl⟩ := hv
      exact wpAny_mono (helt C i t s₃ m₃ E' hin hn3 (by rw [hm3, Int.zero_add]) fun b o e => hkeep b o (low b o e) (up2 b o e)) (fun y s₄ q => ⟨⟨i, t, by rw [Int.zero_add], q.1⟩, q.2⟩) fun _ _ e => e
  · intro D h' tk ys vs hD hl hpl hlen' hP hF hkeep
    rw [show vs.filter (fun _ => true) = vs from List.filter_eq_self.mpr fun _ _ => rfl] at hF
    refine hQ D h' tk ys ?_ hpl (hlen' ▸ Kn (i := 0) (fun j v e => by obtain ⟨_, t, ht⟩ := hP j v e; exact ⟨t, by rw [ht]; simp⟩) hF) fun b o e => hkeep b o (low b o e) (up2 b o e)
    cases q : Bj.1.2.1.1.heap.get? D with
    | none => rfl
    | some o => have := up2 _ _ q; rw [hD] at this; cases this
end Ip
section
variable {prog : Program} {w : World} {A : Around} {E : Value → Shared → Prop} {s : Shared} {env : Env}
theorem Ip {elt iter : Expr} {x : Str} {px : Pos} {scope : Scope} {cl : List (Str × Addr)} {pos : Pos} {Q : Value → Shared → Prop} {n : Nat}
    (G : Nat → Value → Prop) (hh : A.handled = none) (hn : n < 64)
    (hclos : closureFor scope env = pure cl) (hcell : ∀ y ∈ scope.names, y.2 ≠ .cell) (hkind : scope.kind = .function)
    (hnames : ∀ y ∈ scope.names, y.2 = .local → scope.names.lookup y.1 = some .local) (hx : scope.names.lookup x = some .local)
    (hi : wpAny (model prog w) A (eval iter env) (fun v s₁ => ∃ r t u v', v = .ref r ∧ IsRange s₁.heap r 0 n 1 t u v' ∧ Keeps s s₁) E s)
    (helt : ∀ C (i : Nat) t s₃ m₃ (E' : Value → Shared → Prop), i < n → s₃.heap.Ns C m₃ → m₃ x = some (.int (i : Int) t) → Up s.heap s₃.heap →
      wpAny (model prog w) A (eval elt (compEnvC scope cl C env)) (fun y s₄ => G i y ∧ Keeps s₃ s₄) E' s₃)
    (hQ : ∀ D h' tk ys, s.heap.get? D = none → h'.PlainList D ys → Paired G (List.range' 0 n) ys.toList → Up s.heap h' → Q (.ref D) { s with heap := h', toks := tk })
    (hs : autoParam (∀ x, foldedSetIterable iter env x = pure x) aRf) :
    wpAny (model prog w) A (eval (.ListComp elt [⟨.Name x px, iter, [], 0⟩] scope pos) env) Q E s := by
  exact (BH (P := Dk Hu) Bj Ip.RJ ((((prog, w), A, E), (s, env), elt, iter), ((x, px), scope, cl), (pos, Q), n, G)) hh hn hclos hcell hkind hnames hx hi helt hQ hs
theorem PC {h₀ : Heap} {L D : Addr} {m : Str → Option Value} {led : List (Addr × Obj)} {g : Obj → List (Addr × Obj)} {its : Array Value} {n : Nat} {i : Int} {t : Tok} {v : Value} {Q : Unit → Shared → Prop} (F : Fr h₀ L s.heap m) (N : News h₀ L s.heap led) (U : UpdF D (PySem.W.listOf its n) led g) (h0 : 0 ≤ i) (hb : i < 2 ^ 63) (h1 : i < its.size)
    (h : ∀ h', Fr h₀ L h' m → News h₀ L h' (g (PySem.W.listOf (its.setIfInBounds i.toNat v) n)) → Q () { s with heap := h' }) :
    wpAny (model prog w) A (setItem (.ref D) (.int i t) v) Q E s := by
  obtain ⟨pre, post, rfl, hg, a, c⟩ := U.split
  have z := N (D, PySem.W.listOf its n) (List.mem_append.mpr (.inr (.head _)))
  refine ki_setAt z.1 h0 hb h1 (h _ (F.change (Heap.SameBut.update ..) z.2.1 z.2.2) ?_)
  rw [hg]
  refine ki_turn _ N a c rfl ?_
  simp
end
end
section
open Mine renaming Es → hlt2, Es → hlt3
set_option rowWalk.seconds 0
theorem Tj : True := by
  k_with "setItem ref int" => (k_here; k_dflt (refine' Gh ?k1 ?k2 ?k3 ?k4 ?k5 ?k6 ?_; (case k1 => k_asm); (case k2 => k_asm); (case k3 => k_updF); (case k4 => rfl); (case k5 => (rw [Int.fmod_eq_emod_of_nonneg _ (by decide)]; omega)); (case k6 => (rw [Int.fmod_eq_emod_of_nonneg _ (by decide)]; omega)); k_whole; intro x' h' F' N'))
  k_with "CI open" => (refine HZ ?_; k_dflt (refine' OH ?k1 ?k2 ?k3 ?k4 ?k5 ?kA ?kF ?kK ?k6 ?k7 ?k8 ?k9 ?kB ?kD ?_ ?c2 ?c3 ?c4; (case kA => exact rfl); (case kF => exact rfl); (case kK => assumption); (case k1 => k_asm); (case k2 => k_asm); (case k3 => k_asm); (case k4 => k_asm); (case k5 => k_asm); (case k6 => k_is); (case k7 => k_is); (case k8 => first | walk_at "rm" | ktr_room); (case k9 => exact BindsTo.of_eq rfl); (case kB => exact rfl); (case kD => decide +kernel); (case c2 => exact rfl); (case c3 => exact rfl); (case c4 => exact rfl); k_whole; intro _ _ _ _ _ _ _ N' Y' _ _ _ l1 hgb'; (try k_lt l1); (try (revert hgb' l1; intro _ _)); k_cells Y'; (try simp only [List.cons_append, List.nil_append] at N'); (try dsimp only); (try k_fold)))
  trivial
theorem Tt : True := by
  k_with "setItem ref int" => (k_here; k_dflt (refine' Gh ?k1 ?k2 ?k3 ?k4 ?k5 ?k6 ?_; (case k1 => k_asm); (case k2 => k_asm); (case k3 => k_updF); (case k4 => rfl); (case k5 => (rw [Int.fmod_eq_emod_of_nonneg _ (by decide)]; omega)); (case k6 => (rw [Int.fmod_eq_emod_of_nonneg _ (by decide)]; omega)); k_whole; intro x' h' F' N'))
  k_with "setItem ref int" => (k_here; (with_reducible show wpAny _ _ (setItem (Value.ref _) (Value.int (if _ then _ else _) _) _) _ _ _); first | (refine' JQ (by rfl) ?F ?N ?U ?_; (case F => k_asm); (case N => k_asm); (case U => k_updF); intro h' F' N') | (refine' pair_set0 (by rfl) ?F ?N ?U ?_; (case F => k_asm); (case N => k_asm); (case U => k_updF); intro h' F' N'))
  k_with "setItem ref int" => (k_here; refine hlt3 ?_)
  k_with "all" => (assumption)
  k_with "all" => ((refine HA (by assumption) (by ((try dsimp only); omega))))
  trivial
noncomputable def GJ : T24 (Addr → Addr → Addr → Int → Int → Int → Tok → Tok → Tok → Nat → Nat → Nat → Nat → (List Value) → (List Value) → (List Wd) → (List (Addr × Obj)) → Prop) := fun w pgm loose mean mg mb dp un gdg cn cs a ccd cl outer A₀ base h₀ L m s Q E led fa sa wa d l u td tl tu nf ns nw n svs wvs ws wobjs =>
  (Below A₀ base outer h₀) → (Fr h₀ L s.heap m) → ((KK w.params).In h₀) → (Top pgm loose mean mg mb h₀) → (cs.kind = .function) → (News h₀ L s.heap led) → ((fa, PySem.W.listOf #[.int d td, .int l tl, .int u tu] nf) ∈ led) → ((sa, PySem.W.listOf svs.toArray ns) ∈ led) → ((wa, PySem.W.listOf wvs.toArray nw) ∈ led) → (∀ q ∈ wobjs, q ∈ led) → (svs.length = n) → (n ≤ 3) → (WordsAre wobjs wvs ws) → (∀ x ∈ ws, x.ok n) → (ws.length ≤ 16) → (dp + 4 < recursionLimit) → (un + 40 < cLine) → (∀ (D X Y : Addr) (t ta tb : Tok) (n1 n2 n3 : Nat) (vs2 : List Value) (h' : Heap) (tk' : Nat), IntsAre vs2 (limOf (lim0 d l u n) ws).l → Fr h₀ L h' m → (∀ q ∈ led, q.1 ≠ D) → (∀ q ∈ led, q.1 ≠ X) → (∀ q ∈ led, q.1 ≠ Y) →
      News h₀ L h' ((D, PySem.W.listOf #[.int (limOf (lim0 d l u n) ws).d t, .ref X, .ref Y] n1) :: (X, PySem.W.listOf vs2.toArray n2) :: (Y, pairO (limOf (lim0 d l u n) ws).s0 ta (limOf (lim0 d l u n) ws).s1 tb n3) :: led) → Q (.ref D) { s with heap := h', toks := tk' }) →
  wpI (model pw w) (ktrTop dp un gdg cn cs L a ccd cl outer) (PySem.call (.ref 819) [.ref fa, .ref sa, .ref wa]) Q E s
@[irreducible] def As := eps 8979000 (by walk_at "nonempty") (ccx Kz GJ)
namespace Ft
def d := As.2.1.1.2.1
def l := As.2.1.1.2.2
def u := As.2.1.2.1.1
def n := As.2.2.1.2.2
def ws := As.2.2.2.2.1
noncomputable def HV : Stg (F := Heap → Addr → Obj → Tok → Addr → Nat → (Array Value) → Nat → Addr → Heap → Addr → Heap → Heap → Prop) CT (vcx GJ As.1 As.2.1.1.1.1.1 As.2.1.1.1.1.2 As.2.1.1.1.2 d l u As.2.1.2.1.2 As.2.1.2.2.1 As.2.1.2.2.2 As.2.2.1.1.1 As.2.2.1.1.2 As.2.2.1.2.1 n As.2.2.2.1.1 As.2.2.2.1.2 ws As.2.2.2.2.2) := Qb _ fun K1 => by
  intro B F X T hk N m1 m2 m3 mw hn hn3 hw hok hwl hd hu hret
  have NR : News As.1.h₀ As.1.L As.1.s.heap ((As.2.1.1.1.1.1, PySem.W.listOf #[.int d As.2.1.2.1.2, .int l As.2.1.2.2.1, .int u As.2.1.2.2.2] As.2.2.1.1.1) :: (As.2.1.1.1.1.2, PySem.W.listOf As.2.2.2.1.1.toArray As.2.2.1.1.2) :: (As.2.1.1.1.2, PySem.W.listOf As.2.2.2.1.2.toArray As.2.2.1.2.1) :: As.2.2.2.2.2) := (by repeat (first | refine Bh N (by assumption) ?_ | exact news_sub N (fun q hq => mw q hq)))
  have N0 : Hid (News As.1.h₀ As.1.L As.1.s.heap As.1.led) := N
  clear N
  walk_at "CI open"
  walk_at "I any"
  have hsz : As.2.2.2.1.1.toArray.size = n := by rw [List.size_toArray]; exact hn
  delta Cg
  refine Ip (n := n) (fun i y => IsI (if i = 1 then u else l) y) rfl (by omega) (by with_unfolding_all rfl) (by decide) (by with_unfolding_all rfl) (by decide) (by with_unfolding_all rfl) ?hi ?he ?hq
  case hi =>
    k_steps
    exact CF (by assumption)
  case he =>
    intro C i t s₃ m₃ E' hin hn' hm up
    have F3 := Cw (by k_asm) up
    have N3 := Cf (by k_asm) up
    cases hb : ((i : Int) == 1)
    · have e : ¬ i = 1 := fun e => by rw [e] at hb; cases hb
      k_steps
      · exact ⟨_, by rw [if_neg e]; rfl⟩
      · exact CF (Fc _)
    · have e : i = 1 := by have := beq_iff_eq.mp hb; omega
      k_steps
      · exact ⟨_, by rw [if_pos e]; rfl⟩
      · exact CF (Fc _)
  case hq =>
    intro D h3 tk3 ys hD hpl hpr up
    obtain ⟨nD, hD2⟩ := hpl
    have fD := Fp (by k_asm) hD
    have fD1 := fD _ (.head _)
    have fD2 := fD _ (.tail _ (.head _))
    have fD3 := fD _ (.tail _ (.tail _ (.head _)))
    have fD4 := fD _ (.tail _ (.tail _ (.tail _ (.head _))))
    have fDw : ∀ q ∈ As.2.2.2.2.2, q.1 ≠ D := fun q hq => fD q (.tail _ (.tail _ (.tail _ (.tail _ hq))))
    dsimp only at fD1 fD2 fD3 fD4
    clear fD
    have F3 := Cw (by k_asm) up
    have N3 := Dq (o := PySem.W.listOf ys nD) (by k_asm) (by k_asm) up hD hD2
    k_steps
    have hiX := Fw hpr
    have hnX : ys.size = n := by rw [← Array.length_toList, ← hpr.length, List.length_range']
    refine Ai (GR ?_)
    k_steps
    rename_i gX LX hX1 tkX FGX BX XX TX hgbX lA oc dC tC Y hX2 lB X0 hX3 lC hX4 F5 N5
    obtain ⟨lA1, lA2, lA3, lA4⟩ := lA
    have lB' := lB
    obtain ⟨lB1, lB2, lB3, lB4, lB5, lB6⟩ := lB
    obtain ⟨lC1, lC2, lC3, lC4, lC5, lC6, lC7⟩ := lC
    clear B hk m1 m2 m3 mw hwl hd hu FGX BX dC hD hpr up hD2 lA1 lA2 lA3 lA4 lB1 lB2 lB3 lB4 lB5 lC3
    walk_at "rv"
    intro K1
    exact K1.p gX LX oc tC D tk3 ys nD Y hX2 X0 hX3 hX4
@[irreducible] def Ce := eps 8979001 (by walk_at "nonempty") (CT HV.1)
noncomputable def Dj : (R2 : Addr → Obj → Nat → Heap → Nat → (Str → Option Value) → Tok → Tok → Tok → Nat → Nat → Nat → (List Value) → Addr → Lim → Heap → Prop) ×' (R6 : Heap → Nat → (Str → Option Value) → Tok → Tok → Tok → Nat → Nat → Nat → (List Value) → Lim → Prop) ×' (Kp (∀ x0 x1 x2 x3 x4 x5 x6 x7 x8 x9 x10 x11 x12 x13 x14 x15, R2 x0 x1 x2 x3 x4 x5 x6 x7 x8 x9 x10 x11 x12 x13 x14 x15) → Kp (∀ x0 x1 x2 x3 x4 x5 x6 x7 x8 x9 x10, R6 x0 x1 x2 x3 x4 x5 x6 x7 x8 x9 x10) → (CT HV.1 Ce)) := ⟨_, _, fun K2 K6 => by
  intro F X T hn hn3 hw hok hret NR N0 XX TX hgbX hsz fD1 fD2 fD3 fD4 fDw F5 N5 hiX hnX lB' lB6 lC1 lC2 lC4 lC5 lC6 lC7
  refine PY rfl (show (As.2.1.1.1.2, PySem.W.listOf As.2.2.2.1.2.toArray As.2.2.1.2.1) ∈ _ by k_mem) [Str.ofString "word"] (fun i l' => ∃ (t1 t2 t3 : Tok) (n1 n2 n3 : Nat) (vs2 : List Value), l' = (Ce.2.2.1.1, PySem.W.listOf #[.int (limOf (lim0 d l u n) (ws.take i)).d t1, .ref Ce.1.2.1.1, .ref Ce.2.1.1.2] n1) :: (Ce.2.1.1.2, pairO (limOf (lim0 d l u n) (ws.take i)).s0 t2 (limOf (lim0 d l u n) (ws.take i)).s1 t3 n2) :: (Ce.1.2.1.1, PySem.W.listOf vs2.toArray n3) :: (Ce.1.1.1.2 + 1, Ce.1.1.2.1) :: (As.2.1.1.1.1.1, PySem.W.listOf #[.int d As.2.1.2.1.2, .int l As.2.1.2.2.1, .int u As.2.1.2.2.2] As.2.2.1.1.1) :: (As.2.1.1.1.1.2, PySem.W.listOf As.2.2.2.1.1.toArray As.2.2.1.1.2) :: (As.2.1.1.1.2, PySem.W.listOf As.2.2.2.1.2.toArray As.2.2.1.2.1) :: As.2.2.2.2.2 ∧ IntsAre vs2 (limOf (lim0 d l u n) (ws.take i)).l)
    (by rintro i l' ⟨_, _, _, _, _, _, _, e, _⟩; subst e; k_mem) F5 N5 ⟨_, _, _, _, _, _, Ce.1.2.2.toList, rfl, by rw [List.take_zero]; simpa [limOf, lim0, List.range_eq_range'] using hiX⟩ ?hstep ?hdone
  case hstep =>
    rintro I oI i v h tk m' led' hv ⟨t1, t2, t3, n1, n2, n3, vs2, rfl, hi2⟩ hapI Fi hm Ni
    obtain ⟨a', x, rfl, hx, hin⟩ := hw.at (by simpa using hv)
    have hM := LG (m := lim0 d l u n) hx
    have hlen : (limOf (lim0 d l u n) (ws.take i)).l.length = n := by rw [DI]; simp [lim0]
    generalize limOf (lim0 d l u n) (ws.take i) = M at Ni hi2 hM hlen
    have Fi2 := Ew Fi hm
    have i1 := hapI _ (.head _)
    have i2 := hapI _ (.tail _ (.head _))
    have i3 := hapI _ (.tail _ (.tail _ (.head _)))
    have i4 := fun q hq => hapI q (List.Mem.tail _ (List.Mem.tail _ (List.Mem.tail _ hq)))
    dsimp only at i1 i2 i3
    clear Fi
    k_steps
    rename News _ _ _ ((I, oI) :: _) => Nk
    rename_i c2_1 _
    clear X T hw hret NR N0 hgbX hiX lB6 lC4 lC5 lC6 lC7 hapI hv
    walk_at "rv"
    intro K2 K6
    revert x
    exact K2.p I oI i h tk m' t1 t2 t3 n1 n2 n3 vs2 a' M c2_1
  case hdone =>
    rintro h tk m' led' ⟨t1, t2, t3, n1, n2, n3, vs2, rfl, hi2⟩ Fi hm Ni
    have hsize : ws.take As.2.2.2.1.2.toArray.size = ws := List.take_of_length_le (by rw [List.size_toArray, hw.length]; exact Nat.le_refl _)
    rw [hsize] at Ni hi2
    generalize limOf (lim0 d l u n) ws = M at Ni hi2 hret
    have Fi2 := Ew Fi hm
    clear Fi
    clear F hn hn3 hw hok XX TX hsz fD1 F5 hiX hnX lC1 lC2 hm hsize
    walk_at "rv"
    intro K2 K6
    exact K6.p h tk m' t1 t2 t3 n1 n2 n3 vs2 M⟩
@[irreducible] def Ay := eps 8979002 (by walk_at "nonempty") (Dk Dj.1)
namespace kut2
def M := Ay.2.2.2.1
noncomputable def CJ : (R3 : Int → Tok → Tok → Prop) ×' (R4 : Nat → Int → Tok → Tok → Tok → Prop) ×' (R5 : Int → Tok → Tok → Prop) ×' (Kp (∀ x0 x1 x2, R3 x0 x1 x2) → Kp (∀ x0 x1 x2 x3 x4, R4 x0 x1 x2 x3 x4) → Kp (∀ x0 x1 x2, R5 x0 x1 x2) → (Dj.1 Ay.1.1.1.1 Ay.1.1.1.2 Ay.1.1.2.1 Ay.1.1.2.2 Ay.1.2.1.1 Ay.1.2.1.2 Ay.1.2.2.1 Ay.1.2.2.2 Ay.2.1.1.1 Ay.2.1.1.2 Ay.2.1.2.1 Ay.2.1.2.2 Ay.2.2.1.1 Ay.2.2.1.2 M Ay.2.2.2.2)) := ⟨_, _, _, fun K3 K4 K5 => by
  intro x F hn hn3 hok XX TX hsz fD1 fD2 fD3 fD4 fDw hnX lB' lC1 lC2 hm hx hin hi2 hM hlen i1 i2 i3 i4 y26 Nk
  cases x with
  | md v =>
    obtain ⟨w1, w3, hmem⟩ := hin
    have Nw := AM Nk Nk (List.Mem.tail _ (List.Mem.tail _ (List.Mem.tail _ (List.Mem.tail _ (List.Mem.tail _ (List.Mem.tail _ (List.Mem.tail _ (List.Mem.tail _ hmem))))))))
    have a1 : Ay.2.2.1.2 ≠ Ce.2.2.1.1 := Ar Nk (List.Mem.tail _ (List.Mem.tail _ (List.Mem.tail _ (List.Mem.tail _ (List.Mem.tail _ (List.Mem.tail _ (List.Mem.tail _ (List.Mem.tail _ hmem)))))))) (List.Mem.tail _ (List.Mem.head _)) rfl
    clear Nk
    clear hn hn3 hok hsz fD1 fD2 fD3 fD4 fDw hnX lC2 hlen hx hmem
    walk_at "rv"
    intro K3 K4 K5
    exact K3.p v w1 w3
  | msd j v =>
    obtain ⟨w1, w2, w3, hmem⟩ := hin
    have Nw := AM Nk Nk (List.Mem.tail _ (List.Mem.tail _ (List.Mem.tail _ (List.Mem.tail _ (List.Mem.tail _ (List.Mem.tail _ (List.Mem.tail _ (List.Mem.tail _ hmem))))))))
    have a1 : Ay.2.2.1.2 ≠ Ce.1.2.1.1 := Ar Nk (List.Mem.tail _ (List.Mem.tail _ (List.Mem.tail _ (List.Mem.tail _ (List.Mem.tail _ (List.Mem.tail _ (List.Mem.tail _ (List.Mem.tail _ hmem)))))))) (List.Mem.tail _ (List.Mem.tail _ (List.Mem.tail _ (List.Mem.head _)))) rfl
    have hfd : (2 * (j : Int)).fdiv 2 = j := by rw [Int.fdiv_eq_ediv_of_nonneg _ (by decide)]; omega
    have hj : j < n := hok _ (List.mem_of_getElem? hx)
    clear Nk
    clear hok lC1 hx hmem
    walk_at "rv"
    intro K3 K4 K5
    exact K4.p j v w1 w2 w3
  | ms b v =>
    obtain ⟨w1, w3, hmem⟩ := hin
    have Nw := AM Nk Nk (List.Mem.tail _ (List.Mem.tail _ (List.Mem.tail _ (List.Mem.tail _ (List.Mem.tail _ (List.Mem.tail _ (List.Mem.tail _ (List.Mem.tail _ hmem))))))))
    have a1 : Ay.2.2.1.2 ≠ Ce.2.1.1.2 := Ar Nk (List.Mem.tail _ (List.Mem.tail _ (List.Mem.tail _ (List.Mem.tail _ (List.Mem.tail _ (List.Mem.tail _ (List.Mem.tail _ (List.Mem.tail _ hmem)))))))) (List.Mem.tail _ (List.Mem.tail _ (List.Mem.head _))) rfl
    clear Nk
    clear hn hn3 hok hsz fD1 fD2 fD3 fD4 fDw hnX lC2 hlen
    walk_at "rv"
    intro K3 K4 K5
    revert b
    exact K5.p v w1 w3⟩
@[irreducible] def EJ := eps 8979003 (by walk_at "nonempty") (CG CJ.1)
theorem Oo : CG CJ.1 EJ := by
  intro F XX TX lB' lC1 hm hi2 i1 i2 i3 i4 y11 hM Nw a1
  refine Ae ?_
  k_steps
  delta Cg
  rw [show (if EJ.1.1 > M.d then EJ.1.1 else M.d) = max M.d EJ.1.1 by split <;> omega]
  refine' PC ?F ?N ?U (by decide) (by decide) ?sz ?_
  case F => k_asm
  case N => k_asm
  case U => k_updF
  case sz => simp
  intro h' F' N'
  k_steps
  refine DW.intro (by assumption) ?_ (news_sub (by k_asm) (fun q hq => .tail _ hq)) ⟨_, _, _, _, _, _, Ay.2.2.1.1, by rw [hM]; rfl, by rw [hM]; exact hi2⟩ (List.forall_mem_cons.mpr ⟨i1, List.forall_mem_cons.mpr ⟨i2, List.forall_mem_cons.mpr ⟨i3, i4⟩⟩⟩)
  intro z hz
  have hz2 := hm z hz
  simp only [List.mem_cons, List.not_mem_nil, or_false] at hz
  simp only [hz, if_false]
@[irreducible] def CK := eps 8979004 (by walk_at "nonempty") (Cz CJ.2.1)
theorem OM : Cz CJ.2.1 CK := by
  intro F hn hn3 XX TX hsz fD1 fD2 fD3 fD4 fDw hnX lB' lC2 hm hi2 hlen i1 i2 i3 i4 y21 hM Nw a1 hfd hj
  refine Ae ?_
  k_steps
  delta Cg
  rw [show (if CK.1.1.2 > M.l.getD ((2 * (CK.1.1.1 : Int)).fdiv 2).toNat 0 then CK.1.1.2 else M.l.getD ((2 * (CK.1.1.1 : Int)).fdiv 2).toNat 0) = max (M.l.getD CK.1.1.1 0) CK.1.1.2 by rw [hfd, Int.toNat_natCast]; split <;> omega, hfd]
  refine' PC ?F ?N ?U (by omega) (by omega) ?sz ?_
  case F => k_asm
  case N => k_asm
  case U => k_updF
  case sz => (rw [List.size_toArray, hi2.length]; omega)
  intro h' F' N'
  rw [Int.toNat_natCast, List.setIfInBounds_toArray] at N'
  k_steps
  refine DW.intro (by assumption) ?_ (news_sub (by k_asm) (fun q hq => .tail _ hq)) ⟨_, _, _, _, _, _, (Ay.2.2.1.1.set CK.1.1.1 _), by rw [hM]; rfl, by rw [hM]; exact ints_set hi2 CK.1.1.1⟩ (List.forall_mem_cons.mpr ⟨i1, List.forall_mem_cons.mpr ⟨i2, List.forall_mem_cons.mpr ⟨i3, i4⟩⟩⟩)
  intro z hz
  have hz2 := hm z hz
  simp only [List.mem_cons, List.not_mem_nil, or_false] at hz
  simp only [hz, if_false]
@[irreducible] def Dm := eps 8979005 (by walk_at "nonempty") (CG CJ.2.2.1)
theorem Nv : CG CJ.2.2.1 Dm := by
  intro b F XX TX lB' lC1 hm hi2 i1 i2 i3 i4 y11 hx hM hmem Nw a1
  cases b
  · refine Ae ?_
    k_steps
    delta Cg
    rw [show (if Dm.1.1 > M.s0 then Dm.1.1 else M.s0) = max M.s0 Dm.1.1 by split <;> omega]
    refine' pair_set0 (by rfl) ?F ?N ?U ?_
    case F => k_asm
    case N => k_asm
    case U => k_updF
    intro h' F' N'
    k_steps
    refine DW.intro (by assumption) ?_ (news_sub (by k_asm) (fun q hq => .tail _ hq)) ⟨_, _, _, _, _, _, Ay.2.2.1.1, by rw [hM]; rfl, by rw [hM]; exact hi2⟩ (List.forall_mem_cons.mpr ⟨i1, List.forall_mem_cons.mpr ⟨i2, List.forall_mem_cons.mpr ⟨i3, i4⟩⟩⟩)
    intro z hz
    have hz2 := hm z hz
    simp only [List.mem_cons, List.not_mem_nil, or_false] at hz
    simp only [hz, if_false]
  · refine Ae ?_
    k_steps
    delta Cg
    rw [show (if Dm.1.1 > M.s1 then Dm.1.1 else M.s1) = max M.s1 Dm.1.1 by split <;> omega]
    refine' JQ (by rfl) ?F ?N ?U ?_
    case F => k_asm
    case N => k_asm
    case U => k_updF
    intro h' F' N'
    k_steps
    refine DW.intro (by assumption) ?_ (news_sub (by k_asm) (fun q hq => .tail _ hq)) ⟨_, _, _, _, _, _, Ay.2.2.1.1, by rw [hM]; rfl, by rw [hM]; exact hi2⟩ (List.forall_mem_cons.mpr ⟨i1, List.forall_mem_cons.mpr ⟨i2, List.forall_mem_cons.mpr ⟨i3, i4⟩⟩⟩)
    intro z hz
    have hz2 := hm z hz
    simp only [List.mem_cons, List.not_mem_nil, or_false] at hz
    simp only [hz, if_false]
theorem Sk : Dj.1 Ay.1.1.1.1 Ay.1.1.1.2 Ay.1.1.2.1 Ay.1.1.2.2 Ay.1.2.1.1 Ay.1.2.1.2 Ay.1.2.2.1 Ay.1.2.2.2 Ay.2.1.1.1 Ay.2.1.1.2 Ay.2.1.2.1 Ay.2.1.2.2 Ay.2.2.1.1 Ay.2.2.1.2 M Ay.2.2.2.2 :=
  CJ.2.2.2 ⟨fun x0 x1 x2 => BH (P := CG CJ.1) EJ Oo ((x0, x1), x2)⟩ ⟨fun x0 x1 x2 x3 x4 => BH (P := Cz CJ.2.1) CK OM (((x0, x1), x2), x3, x4)⟩ ⟨fun x0 x1 x2 => BH (P := CG CJ.2.2.1) Dm Nv ((x0, x1), x2)⟩
end kut2
@[irreducible] def Kc := eps 8979006 (by walk_at "nonempty") (Du Dj.2.1)
theorem Ow : Du Dj.2.1 Kc := by
  intro X T NR N0 hgbX fD2 fD3 fD4 fDw N5 lB' lB6 lC4 lC5 lC6 lC7 Ni hi2 hret Fi2
  have g1 := AU N0 (by assumption) Ni (.head _) (by
    intro hx; simp only [List.map, List.mem_cons, List.mem_map] at hx
    rcases hx with hx | hx | hx | ⟨q, hq, hx⟩
    · exact absurd hx (by k_ne)
    · exact absurd hx (by k_ne)
    · exact absurd hx (by k_ne)
    · exact HA lC7 (Nat.le_refl _) q hq hx)
  have g2 := AU N0 (by assumption) Ni (.tail _ (.head _)) (by
    intro hx; simp only [List.map, List.mem_cons, List.mem_map] at hx
    rcases hx with hx | hx | hx | ⟨q, hq, hx⟩
    · exact absurd hx (by k_ne)
    · exact absurd hx (by k_ne)
    · exact absurd hx (by k_ne)
    · exact HA lB6 (Nat.le_refl _) q hq hx)
  have g3 := AU N0 (by assumption) Ni (.tail _ (.tail _ (.head _))) (by
    intro hx; simp only [List.map, List.mem_cons, List.mem_map] at hx
    rcases hx with hx | hx | hx | ⟨q, hq, hx⟩
    · exact absurd hx (by k_ne)
    · exact absurd hx (by k_ne)
    · exact absurd hx (by k_ne)
    · exact fDw q hq hx)
  dsimp only
  refine Ae ?_
  k_steps
  rename Off _ _ _ => off
  rename News As.1.h₀ As.1.L _ _ => Nb
  refine hret _ _ _ _ _ _ _ _ _ _ _ _ hi2 (by assumption) g1 g3 g2 (AM (AM (AM (BV N0 NR (news_sub Nb (fun q hq => .tail _ (.tail _ (.tail _ (.tail _ hq))))) off) Nb (.tail _ (.head _))) Nb (.tail _ (.tail _ (.head _)))) Nb (.head _))
theorem Sh : CT HV.1 Ce :=
  Dj.2.2 ⟨fun x0 x1 x2 x3 x4 x5 x6 x7 x8 x9 x10 x11 x12 x13 x14 x15 => BH (P := Dk Dj.1) Ay kut2.Sk ((((x0, x1), x2, x3), (x4, x5), x6, x7), ((x8, x9), x10, x11), (x12, x13), x14, x15)⟩ ⟨fun x0 x1 x2 x3 x4 x5 x6 x7 x8 x9 x10 => BH (P := Du Dj.2.1) Kc Ow ((((x0, x1), x2), (x3, x4), x5), ((x6, x7), x8), x9, x10)⟩
end Ft
def Ft {w p loose mean mg mb dp un gdg cn cs a ccd cl outer A₀ base h₀ L m s Q E led fa sa wa d l u td tl tu nf ns nw n svs wvs ws wobjs} :=
  (GJ.eq_1 w p loose mean mg mb dp un gdg cn cs a ccd cl outer A₀ base h₀ L m s Q E led fa sa wa d l u td tl tu nf ns nw n svs wvs ws wobjs).mp ((BH (P := ccx Kz GJ) As (AQ Ft.HV Ft.Ce Ft.Sh) ((⟨w, p, loose, mean, mg, mb, dp, un, gdg, cn, cs, a, ccd, cl, outer, A₀, base, h₀, L, m, s, Q, E, led⟩ : Cx), ((((fa, sa), wa), d, l), (u, td), tl, tu), ((nf, ns), nw, n), (svs, wvs), ws, wobjs)))
end
section
set_option rowWalk.seconds 0
theorem TL : True := by
  k_with "setItem ref int" => (k_here; k_dflt (refine' Gh ?k1 ?k2 ?k3 ?k4 ?k5 ?k6 ?_; (case k1 => k_asm); (case k2 => k_asm); (case k3 => k_updF); (case k4 => rfl); (case k5 => (rw [Int.fmod_eq_emod_of_nonneg _ (by decide)]; omega)); (case k6 => (rw [Int.fmod_eq_emod_of_nonneg _ (by decide)]; omega)); k_whole; intro x' h' F' N'))
  trivial
theorem Ug : True := by
  k_with "setItem ref int" => (k_here; (with_reducible show wpAny _ _ (setItem (Value.ref _) (Value.int _ _) _) _ _ _); (refine' kda_set (knd := PySem.intKind _ _) ?F ?N ?U ?d (intKind_is _ _ _ _) ?z ?_; (case F => k_asm); (case N => k_asm); (case U => k_updF); (case d => k_asm); (case z => assumption); intro h' o' F' N' hd'))
  k_with "call ref" => (k_here; (with_reducible show wpAny _ _ (PySem.call (Value.ref 614) _) _ _ _); (refine MP (by k_asm) (by k_asm) (by k_asm) (by k_asm) rfl (by k_asm) (by assumption) (by k_mem) (by assumption) (by assumption) (by assumption) (by walk_at "rm") (by walk_at "rm") ?_; intro v' t' h' tk' up'; walk_at "k upd"))
  k_with "call ref" => (k_here; (with_reducible show wpAny _ _ (PySem.call (Value.ref 621) _) _ _ _); (refine LR (by k_asm) (by k_asm) (by k_asm) (by k_asm) rfl (by k_asm) (by assumption) (by k_mem) (by assumption) (by assumption) (by assumption) (by walk_at "rm") (by walk_at "rm") ?_; intro t' h' tk' up'; walk_at "k upd"))
  k_with "call ref" => (k_here; (with_reducible show wpAny _ _ (PySem.call (Value.ref 539) _) _ _ _); (refine Lw (by k_asm) (by k_asm) (by k_asm) (by k_asm) rfl (by k_asm) (by assumption) (by walk_at "rm") (by walk_at "rm") ?_; intro h' tk' up'; walk_at "k upd"))
  k_with "call ref" => (k_here; (with_reducible show wpAny _ _ (PySem.call (Value.ref 546) _) _ _ _); (refine LQ (by k_asm) (by k_asm) (by k_asm) (by k_asm) rfl (by k_asm) (by assumption) (by walk_at "rm") (by walk_at "rm") ?_; intro h' tk' up'; walk_at "k upd"))
  k_with "call ref" => (k_here; (with_reducible show wpAny _ _ (PySem.call (Value.ref 498) _) _ _ _); (refine PO (by k_asm) (by k_asm) (by k_asm) (by k_asm) rfl (by k_asm) (by walk_at "rm") (by walk_at "rm") ?_; intro x' d' lo' k' t1' t2' t3' t4' h' tk' F' l1 l2 n1 n2 n3 N'; (have n4 := n3 _ (.head _)); (have n5 := n3 _ (.tail _ (.head _))); (have n6 := n3 _ (.tail _ (.tail _ (.head _)))); (have n7 := n3 _ (.tail _ (.tail _ (.tail _ (.head _))))); (have n8 := n3 _ (.tail _ (.tail _ (.tail _ (.tail _ (.head _)))))); (have n9 := n3 _ (.tail _ (.tail _ (.tail _ (.tail _ (.tail _ (.head _))))))); (dsimp only at n4 n5 n6 n7 n8 n9); (clear n3); k_lt l1; k_lt2 l2))
  k_with "call ref" => (k_here; (with_reducible show wpAny _ _ (PySem.call (Value.ref 371) _) _ _ _); (refine QL (by k_asm) (by k_asm) (by k_asm) (by k_asm) rfl (by k_asm) (by walk_at "rm") (by walk_at "rm") ?_; intro x' h' tk' F' N'))
  k_with "call ref" => (k_here; (with_reducible show wpAny _ _ (PySem.call (Value.ref 164) _) _ _ _); (refine OK (by k_asm) (by k_asm) (by k_asm) (by k_asm) rfl (by k_asm) (by walk_at "rm") (by walk_at "rm") ?_; intro x' h' tk' F' N'))
  trivial
section
variable {w : World} {p : Program} {loose : List Str} {mean : ExcName → Option Value} {mg mb : Str → Option Value} {dp un : Nat} {gd : Option (List Code)} {cn : Str} {cs : Scope} {a : Addr} {ccd : Value} {cl : List (Str × Addr)} {outer : List Env} {A₀ : Around} {base h₀ : Heap} {L : Addr} {m : Str → Option Value} {s : Shared} {Q E : Value → Shared → Prop} {led led' : List (Addr × Obj)}
variable (B : Below A₀ base outer h₀) (F : Fr h₀ L s.heap m) (X : (KK w.params).In h₀) (T : Top p loose mean mg mb h₀) (hk : cs.kind = .function) (N : News h₀ L s.heap led)
include B F X T hk N
omit B F X T hk N in
theorem IT {kvs : List (Int × Value)} {k : Int} {v : Value} : (stored kvs k v).length ≤ kvs.length + 1 := by
  unfold stored
  split
  · rw [List.length_map]; lia
  · rw [List.length_append]; simp
omit B F X T hk N in
theorem LL {h₀ h : Heap} {L : Addr} {a b c d e f : Addr × Obj} {big tl : List (Addr × Obj)} (Nb : News h₀ L h big) (Nt : News h₀ L h tl) (ha : a ∈ big) (hb : b ∈ big) (hc : c ∈ big) (hd : d ∈ big) (he : e ∈ big) (hf : f ∈ big) : News h₀ L h (a :: b :: c :: d :: e :: f :: tl) := fun q hq => by
  simp only [List.mem_cons] at hq
  rcases hq with rfl | rfl | rfl | rfl | rfl | rfl | hq
  · exact Nb _ ha
  · exact Nb _ hb
  · exact Nb _ hc
  · exact Nb _ hd
  · exact Nb _ he
  · exact Nb _ hf
  · exact Nt _ hq
end
noncomputable def Em : T24 (SD → Addr → Addr → Obj → Obj → Obj → Obj → Int → Tok → Tok → (List (Int × Value)) → (List (Int × Value)) → (List (Int × Value)) → (List (Str × Value)) → Int → Int → Int → Int → Tok → Tok → Tok → Bool → Prop) := fun w pgm loose mean mg mb dp un gd cn cs a ccd cl outer A₀ base h₀ L m s Q E led k sp ds oS oR oW oP turn t0 t1 kS kR kW kP sid v1 v2 v3 u1 u2 u3 b =>
  (Below A₀ base outer h₀) → (Fr h₀ L s.heap m) → ((KK w.params).In h₀) → (Top pgm loose mean mg mb h₀) → (cs.kind = .function) → (News h₀ L s.heap led) → (k.pe = .ref k.pa) → ([sp, ds, k.se, k.re, k.ws, k.pa].Nodup) → ((sp, instObj 790 ds) ∈ led) → ((ds, BF k turn t0) ∈ led) → ((k.se, oS) ∈ led) → (oS.IsDictOf (PySem.intKind pw w) kS) → ((k.re, oR) ∈ led) → (oR.IsDictOf (PySem.intKind pw w) kR) → ((k.ws, oW) ∈ led) → (oW.IsDictOf (PySem.intKind pw w) kW) → ((k.pa, oP) ∈ led) → (oP.IsDictOf (PySem.strKind pw w) kP) → (SidB sid b) → (valueAt kP (Str.ofString "initial_max_stream_data_uni") = some (.int v1 u1)) → (valueAt kP (Str.ofString "initial_max_stream_data_bidi_local") = some (.int v2 u2)) → (valueAt kP (Str.ofString "initial_max_stream_data_bidi_remote") = some (.int v3 u3)) → (kS.length ≤ sizeLine) → (kR.length ≤ sizeLine) → (kW.length ≤ sizeLine) → (dp + 4 < recursionLimit) → (un + 40 < cLine) → (∀ (p d lo : Addr) (kp : PS) (t1 t2 t3 t4 : Tok) (oS' oR' oW' : Obj) (kR' kW' : List (Int × Value)) (h' : Heap) (tk' : Nat), Fr h₀ L h' m → (∀ q ∈ led, q.1 ≠ p) → (∀ q ∈ led, q.1 ≠ d) → (∀ q ∈ led, q.1 ≠ lo) →
      oS'.IsDictOf (PySem.intKind pw w) (stored kS sid (.ref p)) → oR'.IsDictOf (PySem.intKind pw w) kR' → oW'.IsDictOf (PySem.intKind pw w) kW' → kR'.length ≤ kR.length + 1 → kW'.length ≤ kW.length + 1 →
      News h₀ L h' ((lo, listOf #[] 0) :: (p, instObj 498 d) :: (d, Ca kp (if b then v1 else v3) t1 (Str.ofString "ready") t2 #[] t3 0 t4 lo) :: (k.se, oS') :: (k.re, oR') :: (k.ws, oW') :: but led [k.se, k.re, k.ws]) → Q .none { s with heap := h', toks := tk' }) →
  wpAny (model pw w) (ktrTop dp un gd cn cs L a ccd cl outer) (PySem.call (.ref 649) [.ref sp, .int sid t1]) Q E s
@[irreducible] def AB := eps 89500 (by walk_at "nonempty") (ccx Lp Em)
noncomputable def ES : Stg (F := Heap → Addr → Heap → Nat → Prop) Ch (ccx Lp Em AB) := mk4 _ fun K1 => by
  intro B F X T hk N hpe hap m1 m2 m3 hS m4 hR m5 hW m6 hP hb h1 h2 h3 z1 z2 z3 hd hu hret
  have NR : News AB.1.h₀ AB.1.L AB.1.s.heap [(AB.2.1.1.1.1.2, instObj 790 AB.2.1.1.1.2), (AB.2.1.1.1.2, BF AB.2.1.1.1.1.1 AB.2.1.2.1.1.2 AB.2.1.2.1.2), (AB.2.1.1.1.1.1.se, AB.2.1.1.2.1.1), (AB.2.1.1.1.1.1.re, AB.2.1.1.2.1.2), (AB.2.1.1.1.1.1.ws, AB.2.1.1.2.2), (AB.2.1.1.1.1.1.pa, AB.2.1.2.1.1.1)] := (by repeat (first | exact News.nil | refine Bh N (by first | assumption | exact m1) ?_))
  have N0 : Hid (News AB.1.h₀ AB.1.L AB.1.s.heap AB.1.led) := N
  clear N
  simp only [List.nodup_cons, List.mem_cons, List.not_mem_nil, or_false, not_or, List.nodup_nil, and_true, not_false_eq_true] at hap
  obtain ⟨⟨a1, a2, a3, a4, a5⟩, ⟨a6, a7, a8, a9⟩, ⟨a10, a11, a12⟩, ⟨a13, a14⟩, a15⟩ := hap
  unfold BF at NR
  rw [hpe] at NR
  walk_at "kt open"
  iterate 21 walk_at "step"
  try dsimp (zetaDelta := true) only
  rename_i c1_1 c1_2 _ z1 _ _ _ z2 z3 _ _ _
  clear B F hk hpe m1 m2 m3 m4 m5 m6 a1 a5 a9 z1 z2 z3
  walk_at "rv"
  intro K1
  exact K1.p c1_1 c1_2 h tk
@[irreducible] def Hg := eps 89501 (by walk_at "nonempty") (Ch ES.1)
noncomputable def EQ : Stg (F := Heap → Addr → Addr → Addr → PS → Tok → Tok → Tok → Tok → Heap → Heap → Obj → Nat → Prop) CT (Ch ES.1 Hg) := Qb _ fun K2 => by
  intro X T hS hR hW hP hb h1 h2 h3 z1 z2 z3 hd hu hret NR N0 a2 a3 a4 a6 a7 a8 a10 a11 a12 a15 a13 a14 y30 y31 y32 y33 y34 y35
  iterate 32 walk_at "step"
  try dsimp (zetaDelta := true) only
  rename_i c2_1 _ z1 _ c2_3 z2 _
  clear hS h3 a2 a6 a12 y34 z1 z2 n1 n2
  walk_at "rv"
  intro K2
  exact K2.p c2_1 x' d' lo' k' t1' t2' t3' t4' c2_3 h' o' tk
@[irreducible] def Hj := eps 89502 (by walk_at "nonempty") (CT EQ.1)
theorem KN : CT EQ.1 Hj := by
  intro X T hR hW hP hb h1 h2 z1 z2 z3 hd hu hret NR N0 a3 a4 a7 a8 a10 a11 a15 a13 a14 y25 y26 y27 y28 y29 y30 y31 n4 n5 n6 n7 n8 n9 l1 l2 F' N' hd'
  k_steps
  · rename Off _ _ _ => off
    rename News AB.1.h₀ AB.1.L _ _ => Nb
    have f1 := AU N0 (by assumption) (by assumption) (.head _) (by repeat (first | exact List.not_mem_nil | refine nm1 (by k_ne) ?_))
    have f2 := AU N0 (by assumption) (by assumption) (.tail _ (.head _)) (by repeat (first | exact List.not_mem_nil | refine nm1 (by k_ne) ?_))
    have f3 := AU N0 (by assumption) (by assumption) (.tail _ (.tail _ (.head _))) (by repeat (first | exact List.not_mem_nil | refine nm1 (by k_ne) ?_))
    refine' hret _ _ _ _ _ _ _ _ _ _ _ _ _ _ _ ?rF f2 f3 f1 ?d1 ?d2 ?d3 ?z1 ?z2 (LL Nb (Fo N0 NR Nb off ?hr) (.head _) (.tail _ (.head _)) (.tail _ (.tail _ (.head _))) (.tail _ (.tail _ (.tail _ (.tail _ (.tail _ (.head _)))))) (.tail _ (.tail _ (.tail _ (.tail _ (.tail _ (.tail _ (.head _))))))) (.tail _ (.tail _ (.tail _ (.tail _ (.tail _ (.tail _ (.tail _ (.head _)))))))))
    case hr =>
      repeat (first | exact fa0 | refine fa1 (fun hn => by first | k_mem | exact absurd (by simp) hn) ?_)
    case d1 => assumption
    case d2 => exact hR
    case d3 => exact hW
    case z1 => exact Nat.le_succ _
    case z2 => exact Nat.le_succ _
    case rF => assumption
  · rename Off _ _ _ => off
    rename News AB.1.h₀ AB.1.L _ _ => Nb
    have f1 := AU N0 (by assumption) (by assumption) (.head _) (by repeat (first | exact List.not_mem_nil | refine nm1 (by k_ne) ?_))
    have f2 := AU N0 (by assumption) (by assumption) (.tail _ (.head _)) (by repeat (first | exact List.not_mem_nil | refine nm1 (by k_ne) ?_))
    have f3 := AU N0 (by assumption) (by assumption) (.tail _ (.tail _ (.head _))) (by repeat (first | exact List.not_mem_nil | refine nm1 (by k_ne) ?_))
    refine' hret _ _ _ _ _ _ _ _ _ _ _ _ _ _ _ ?rF f2 f3 f1 ?d1 ?d2 ?d3 ?z1 ?z2 (LL Nb (Fo N0 NR Nb off ?hr) (.head _) (.tail _ (.head _)) (.tail _ (.tail _ (.head _))) (.tail _ (.tail _ (.tail _ (.tail _ (.tail _ (.head _)))))) (.tail _ (.tail _ (.tail _ (.tail _ (.tail _ (.tail _ (.head _))))))) (.tail _ (.tail _ (.tail _ (.tail _ (.tail _ (.tail _ (.tail _ (.head _)))))))))
    case hr =>
      repeat (first | exact fa0 | refine fa1 (fun hn => by first | k_mem | exact absurd (by simp) hn) ?_)
    case d1 => assumption
    case d2 => assumption
    case d3 => assumption
    case z1 => exact IT
    case z2 => exact IT
    case rF => assumption
def ML {w p loose mean mg mb dp un gd cn cs a ccd cl outer A₀ base h₀ L m s Q E led k sp ds oS oR oW oP turn t0 t1 kS kR kW kP sid v1 v2 v3 u1 u2 u3 b} :=
  (Em.eq_1 w p loose mean mg mb dp un gd cn cs a ccd cl outer A₀ base h₀ L m s Q E led k sp ds oS oR oW oP turn t0 t1 kS kR kW kP sid v1 v2 v3 u1 u2 u3 b).mp ((BH (P := ccx Lp Em) AB (AQ ES Hg (AQ EQ Hj KN)) ((⟨w, p, loose, mean, mg, mb, dp, un, gd, cn, cs, a, ccd, cl, outer, A₀, base, h₀, L, m, s, Q, E, led⟩ : Cx), ((((k, sp), ds), (oS, oR), oW), ((oP, turn), t0), t1, kS), (((kR, kW), kP), (sid, v1), v2), ((v3, u1), u2), u3, b)))
end
section
set_option rowWalk.seconds 0
section
variable {w : World} {p : Program} {loose : List Str} {mean : ExcName → Option Value} {mg mb : Str → Option Value} {dp un : Nat} {gd : Option (List Code)} {cn : Str} {cs : Scope} {a : Addr} {ccd : Value} {cl : List (Str × Addr)} {outer : List Env} {A₀ : Around} {base h₀ : Heap} {L : Addr} {m : Str → Option Value} {s : Shared} {Q E : Value → Shared → Prop} {led led' : List (Addr × Obj)}
variable (B : Below A₀ base outer h₀) (F : Fr h₀ L s.heap m) (X : (KK w.params).In h₀) (T : Top p loose mean mg mb h₀) (hk : cs.kind = .function) (N : News h₀ L s.heap led)
include B F X T hk N
theorem Uj : True := by
  k_with "call type:bytes" => (k_here; (with_reducible show wpAny _ _ (call (Value.type "bytes") [Value.bytes _ _]) _ _ _); refine JO ?_)
  trivial
theorem RO {k : PS} {p d lo : Addr} {lim snt : Int} {t1 t2 t3 t4 t5 : Tok} {st : Str} {wr data : Array UInt8} {g : Obj → List (Addr × Obj)}
    (m1 : (p, instObj 498 d) ∈ led) (m2 : (d, Ca k lim t1 st t2 wr t3 snt t4 lo) ∈ led) (U : UpdF d (Ca k lim t1 st t2 wr t3 snt t4 lo) led g) (hst : st = Str.ofString "ready") (hw : wr.size ≤ 6) (hdt : data.size ≤ 6)
    (hd : dp + 2 < recursionLimit) (hu : un + 20 < cLine)
    (hret : ∀ (t : Tok) (h' : Heap) (tk' : Nat), Fr h₀ L h' m → News h₀ L h' (g (Ca k lim t1 st t2 (wr ++ data) t snt t4 lo)) → Q .none { s with heap := h', toks := tk' }) :
    wpAny (model pw w) (ktrTop dp un gd cn cs L a ccd cl outer) (PySem.call (.ref 397) [.ref p, .bytes data t5]) Q E s := by
  have NR : News h₀ L s.heap [(p, instObj 498 d), (d, Ca k lim t1 st t2 wr t3 snt t4 lo)] := (by repeat (first | exact News.nil | refine Bh N (by first | assumption | exact m1) ?_))
  have N0 : Hid (News h₀ L s.heap led) := N
  have hne : p ≠ d := Ar N m1 m2 rfl
  clear N
  subst hst
  walk_at "kt open"
  k_steps
  refine' hret _ _ _ ?rF ?rN
  case rN => exact CL N0 NR (by k_asm) (by assumption) U (by k_mem) (by repeat (first | exact fa0 | refine fa1 (fun hn => by first | k_mem | exact absurd rfl hn) ?_))
  case rF => assumption
theorem Nn {at' : Int} {n : Nat} {t t2 : Tok} (ha : 0 ≤ at' ∧ at' ≤ 2) (hn : n ≤ 6)
    (hd : dp + 2 < recursionLimit) (hu : un + 20 < cLine)
    (hret : ∀ (t : Tok) (h' : Heap) (tk' : Nat), Up s.heap h' → Q (.bytes (byteArr ((rangeKs 0 n).map fun k => 40 * at' + k + 1)) t) { s with heap := h', toks := tk' }) :
    wpAny (model pw w) (ktrTop dp un gd cn cs L a ccd cl outer) (PySem.call (.ref 807) [.int at' t, .int (n : Int) t2]) Q E s := by
  have NR : News h₀ L s.heap [] := News.nil
  clear N
  walk_at "C open"
  k_steps
  rw [show ((n : Int) - 0).toNat = n by omega]
  exact hret _ _ _ (IB (by assumption))
end
end
section
open Mine renaming Es → hlt5, Es → hlt6
set_option rowWalk.seconds 0
theorem Ts : True := by
  k_with "call ref" => (k_here; (with_reducible show wpAny _ _ (PySem.call (Value.ref 567) _) _ _ _); refine hlt5 ?_)
  k_with "call ref" => (k_here; (with_reducible show wpAny _ _ (PySem.call (Value.ref 649) _) _ _ _); refine hlt6 ?_)
  trivial
section
variable {w : World} {p : Program} {loose : List Str} {mean : ExcName → Option Value} {mg mb : Str → Option Value} {dp un : Nat} {gd : Option (List Code)} {cn : Str} {cs : Scope} {a : Addr} {ccd : Value} {cl : List (Str × Addr)} {outer : List Env} {A₀ : Around} {base h₀ : Heap} {L : Addr} {m : Str → Option Value} {s : Shared} {Q E : Value → Shared → Prop} {led led' : List (Addr × Obj)}
variable (B : Below A₀ base outer h₀) (F : Fr h₀ L s.heap m) (X : (KK w.params).In h₀) (T : Top p loose mean mg mb h₀) (hk : cs.kind = .function) (N : News h₀ L s.heap led)
include B F X T hk N
omit B F X T hk N in
theorem AN {h : Heap} {a b : Addr} {o : Obj} {its : Array Value} {n : Nat} {K : Type} [DecidableEq K] {knd : KeyKind pw w K} {kvs : List (K × Value)} (N : News h₀ L h led) (ha : (a, o) ∈ led) (hb : (b, PySem.W.listOf its n) ∈ led) (hd : o.IsDictOf knd kvs) : a ≠ b := by
  obtain ⟨es, ep, hex, _⟩ := hd
  refine Ar N ha hb ?_
  rw [hex.1]; rfl
omit B F X T hk N in
theorem Cr {h : Heap} {a b : Addr} {o : Obj} {C x : Addr} {K : Type} [DecidableEq K] {knd : KeyKind pw w K} {kvs : List (K × Value)} (N : News h₀ L h led) (ha : (a, instObj C x) ∈ led) (hb : (b, o) ∈ led) (hd : o.IsDictOf knd kvs) : a ≠ b := by
  obtain ⟨es, ep, hex, _⟩ := hd
  refine Ar N ha hb ?_
  rw [hex.1]; rfl
omit B F X T hk N in
theorem QS (c : Int) (b : Bool) : SidB (4 * c + (if b then 2 else 0)) b := by
  constructor
  · rw [Int.fmod_eq_emod_of_nonneg _ (by decide)]
    have : (4 * c + (if b then 2 else 0)) % 2 = 0 := by cases b <;> simp <;> lia
    rw [this]; rfl
  · rw [Int.fmod_eq_emod_of_nonneg _ (by decide), Int.fdiv_eq_ediv_of_nonneg _ (by decide)]
    cases b
    · have : (4 * c + (if false = true then 2 else 0)) / 2 % 2 = 0 := by simp; lia
      rw [this]; rfl
    · have : (4 * c + (if true = true then 2 else 0)) / 2 % 2 = 1 := by simp; lia
      rw [this]; rfl
end
noncomputable def DP : T24 (SD → IK → Addr → Addr → Addr → Obj → Obj → Obj → Obj → Int → Tok → (List (Int × Value)) → (List (Int × Value)) → (List (Int × Value)) → (List (Str × Value)) → Int → Int → Int → Int → Int → Int → Int → Tok → Tok → Tok → Tok → Tok → Tok → Tok → Nat → Nat → Bool → Prop) := fun w pgm loose mean mg mb dp un gd cn cs a ccd cl outer A₀ base h₀ L m s Q E led k ki sp ds id oS oR oW oP turn t0 kS kR kW kP v1 v2 v3 a0 a1 c0 c1 u1 u2 u3 ta0 ta1 tc0 tc1 n1 n2 b =>
  (Below A₀ base outer h₀) → (Fr h₀ L s.heap m) → ((KK w.params).In h₀) → (Top pgm loose mean mg mb h₀) → (cs.kind = .function) → (News h₀ L s.heap led) → (k.pe = .ref k.pa) → ([ds, id, k.se, k.re, k.ws, k.pa].Nodup) → (ki.ol ≠ ki.om) → ((sp, instObj 790 ds) ∈ led) → ((ds, BF k turn t0) ∈ led) → ((k.se, oS) ∈ led) → (oS.IsDictOf (PySem.intKind pw w) kS) → ((k.re, oR) ∈ led) → (oR.IsDictOf (PySem.intKind pw w) kR) → ((k.ws, oW) ∈ led) → (oW.IsDictOf (PySem.intKind pw w) kW) → ((k.pa, oP) ∈ led) → (oP.IsDictOf (PySem.strKind pw w) kP) → ((k.ids, instObj 603 id) ∈ led) → ((id, Ev ki) ∈ led) → ((ki.ol, pairO a0 ta0 a1 ta1 n1) ∈ led) → ((ki.om, pairO c0 tc0 c1 tc1 n2) ∈ led) → (valueAt kP (Str.ofString "initial_max_stream_data_uni") = some (.int v1 u1)) → (valueAt kP (Str.ofString "initial_max_stream_data_bidi_local") = some (.int v2 u2)) → (valueAt kP (Str.ofString "initial_max_stream_data_bidi_remote") = some (.int v3 u3)) → (kS.length ≤ sizeLine) → (kR.length ≤ sizeLine) → (kW.length ≤ sizeLine) → (dp + 8 < recursionLimit) → (un + 60 < cLine) → ((if b then a1 else a0) ≤ (if b then c1 else c0) → ∀ (h' : Heap) (tk' : Nat), Up s.heap h' → Q .none { s with heap := h', toks := tk' }) → (∀ sid, sid = 4 * (if b then c1 else c0) + (if b then 2 else 0) → (if b then c1 else c0) < (if b then a1 else a0) → ∀ (p d lo : Addr) (kp : PS) (t t1 t2 t3 t4 ta tb : Tok) (n3 : Nat) (oS' oR' oW' : Obj) (kR' kW' : List (Int × Value)) (h' : Heap) (tk' : Nat), Fr h₀ L h' m → (∀ q ∈ led, q.1 ≠ p) → (∀ q ∈ led, q.1 ≠ d) → (∀ q ∈ led, q.1 ≠ lo) →
      oS'.IsDictOf (PySem.intKind pw w) (stored kS sid (.ref p)) → oR'.IsDictOf (PySem.intKind pw w) kR' → oW'.IsDictOf (PySem.intKind pw w) kW' → kR'.length ≤ kR.length + 1 → kW'.length ≤ kW.length + 1 →
      News h₀ L h' ((lo, listOf #[] 0) :: (p, instObj 498 d) :: (d, Ca kp (if b then v1 else v3) t1 (Str.ofString "ready") t2 #[] t3 0 t4 lo) :: (k.se, oS') :: (k.re, oR') :: (k.ws, oW') :: (ki.om, pairO (if b then c0 else c0 + 1) ta (if b then c1 + 1 else c1) tb n3) :: but led [k.se, k.re, k.ws, ki.om]) → Q (.int sid t) { s with heap := h', toks := tk' }) →
  wpAny (model pw w) (ktrTop dp un gd cn cs L a ccd cl outer) (PySem.call (.ref 642) [.ref sp, .bool b]) Q E s
@[irreducible] def Ad := eps 7833100 (by walk_at "nonempty") (ccx PI DP)
namespace CZ
def k := Ad.2.1.1.1.1.1
def ki := Ad.2.1.1.1.1.2
noncomputable def Gn : Stg (F := Heap → Addr → Heap → Tok → Tok → Tok → Nat → Heap → Nat → Prop) ET (vcx DP Ad.1 k ki Ad.2.1.1.1.2.1 Ad.2.1.1.1.2.2 Ad.2.1.1.2.1.1 Ad.2.1.1.2.1.2 Ad.2.1.1.2.2.1 Ad.2.1.1.2.2.2 Ad.2.1.2.1.1.1 Ad.2.1.2.1.1.2 Ad.2.1.2.1.2.1 Ad.2.1.2.1.2.2 Ad.2.1.2.2.1.1 Ad.2.1.2.2.1.2 Ad.2.1.2.2.2.1 Ad.2.1.2.2.2.2 Ad.2.2.1.1.1.1 Ad.2.2.1.1.1.2 Ad.2.2.1.1.2.1 Ad.2.2.1.1.2.2 Ad.2.2.1.2.1.1 Ad.2.2.1.2.1.2 Ad.2.2.1.2.2.1 Ad.2.2.1.2.2.2 Ad.2.2.2.1.1.1 Ad.2.2.2.1.1.2 Ad.2.2.2.1.2.1 Ad.2.2.2.1.2.2 Ad.2.2.2.2.1.1 Ad.2.2.2.2.1.2 Ad.2.2.2.2.2.1 Ad.2.2.2.2.2.2) := mk9 _ fun K1 => by
  intro B F X T hk N hpe hap hap2 m1 m2 m3 hS m4 hR m5 hW m6 hP m7 m8 m9 m10 h1 h2 h3 z1 z2 z3 hd hu hret0 hret1
  have NR : News Ad.1.h₀ Ad.1.L Ad.1.s.heap [(Ad.2.1.1.1.2.1, instObj 790 Ad.2.1.1.1.2.2), (Ad.2.1.1.1.2.2, BF k Ad.2.1.2.1.1.2 Ad.2.1.2.1.2.1), (k.se, Ad.2.1.1.2.1.2), (k.re, Ad.2.1.1.2.2.1), (k.ws, Ad.2.1.1.2.2.2), (k.pa, Ad.2.1.2.1.1.1), (k.ids, instObj 603 Ad.2.1.1.2.1.1), (Ad.2.1.1.2.1.1, Ev ki), (ki.ol, pairO Ad.2.2.1.1.2.1 Ad.2.2.2.1.1.2 Ad.2.2.1.1.2.2 Ad.2.2.2.1.2.1 Ad.2.2.2.2.1.2), (ki.om, pairO Ad.2.2.1.2.1.1 Ad.2.2.2.1.2.2 Ad.2.2.1.2.1.2 Ad.2.2.2.2.1.1 Ad.2.2.2.2.2.1)] := (by repeat (first | exact News.nil | refine Bh N (by first | assumption | exact m1) ?_))
  have N0 : Hid (News Ad.1.h₀ Ad.1.L Ad.1.s.heap Ad.1.led) := N
  have q1 : Ad.2.1.1.1.2.1 ≠ ki.om := Ar N m1 m10 rfl
  have q2 : Ad.2.1.1.1.2.2 ≠ ki.om := Ar N m2 m10 rfl
  have q3 : k.se ≠ ki.om := AN N m3 m10 hS
  have q4 : k.re ≠ ki.om := AN N m4 m10 hR
  have q5 : k.ws ≠ ki.om := AN N m5 m10 hW
  have q6 : k.pa ≠ ki.om := AN N m6 m10 hP
  have q7 : k.ids ≠ ki.om := Ar N m7 m10 rfl
  have q8 : Ad.2.1.1.2.1.1 ≠ ki.om := Ar N m8 m10 rfl
  have q9 : Ad.2.1.1.1.2.1 ≠ k.se := Cr N m1 m3 hS
  have q10 : Ad.2.1.1.1.2.1 ≠ k.re := Cr N m1 m4 hR
  have q11 : Ad.2.1.1.1.2.1 ≠ k.ws := Cr N m1 m5 hW
  have q12 : Ad.2.1.1.1.2.1 ≠ k.pa := Cr N m1 m6 hP
  have q13 : Ad.2.1.1.1.2.1 ≠ Ad.2.1.1.1.2.2 := Ar N m1 m2 rfl
  have hap3 : [Ad.2.1.1.1.2.1, Ad.2.1.1.1.2.2, k.se, k.re, k.ws, k.pa].Nodup := by
    simp only [List.nodup_cons, List.mem_cons, List.not_mem_nil, or_false, not_or, List.nodup_nil, and_true, not_false_eq_true] at hap ⊢
    exact ⟨⟨q13, q9, q10, q11, q12⟩, ⟨hap.1.2.1, hap.1.2.2.1, hap.1.2.2.2.1, hap.1.2.2.2.2⟩, hap.2.2.1, hap.2.2.2.1, hap.2.2.2.2⟩
  clear N
  walk_at "kt open"
  dsimp (zetaDelta := true) only
  k_steps
  delta Cg
  refine' Pb ?B ?F ?X ?T ?kq ?N ?m1 ?m2 ?m3 ?m4 ?U hap2 ?hd ?hu ?h0 ?h1
  case B => k_asm
  case F => k_asm
  case X => k_asm
  case T => k_asm
  case kq => rfl
  case N => k_asm
  case m1 => k_mem
  case m2 => k_mem
  case m3 => k_mem
  case m4 => k_mem
  case U => k_updF
  case hd => (first | walk_at "rm" | omega | ktr_room)
  case hu => (first | walk_at "rm" | omega | ktr_units)
  case h0 =>
    intro hle h' tk' up'
    have F' := Cw (by k_asm) up'
    have N' := Cf (by k_asm) up'
    k_steps
    exact hret0 hle _ _ (Ee NR (by assumption) (by assumption))
  case h1 =>
    intro hlt ta tb t n'' h' tk' F' N'
    rename_i c1_1 c1_2 c1_3 z1 z2 _ _ _ _ z3 z4 _
    clear hk hap hap2 m7 m8 m9 m10 hret0 q1 q2 q6 q7 q8 q9 q10 q11 q12 q13 z1 z2 z3 z4
    walk_at "rv"
    intro K1
    exact K1.p c1_1 c1_2 c1_3 ta tb t n'' h' tk'
@[irreducible] def Bn := eps 7833101 (by walk_at "nonempty") (ET Gn.1)
namespace kut1
def tk' := Bn.2.2.2
theorem Qi : Gn.1 Bn.1.1.1.1 Bn.1.1.1.2 Bn.1.1.2 Bn.1.2.1 Bn.1.2.2 Bn.2.1.1 Bn.2.1.2 Bn.2.2.1 tk' := by
  intro B F X T hpe m1 m2 m3 hS m4 hR m5 hW m6 hP h1 h2 h3 z1 z2 z3 hd hu hret1 NR N0 q3 q4 q5 hap3 y30 y31 y32 y33 y34 hlt F' N'
  k_steps
  delta Cg
  refine' ML ?B ?F ?X ?T ?kq ?N hpe ?ap ?m1 ?m2 ?m3 hS ?m4 hR ?m5 hW ?m6 hP (QS _ Ad.2.2.2.2.2.2) h1 h2 h3 z1 z2 z3 ?hd ?hu ?hr
  case B => k_asm
  case F => k_asm
  case X => k_asm
  case T => k_asm
  case kq => rfl
  case N => k_asm
  case m1 => k_mem
  case m2 => k_mem
  case m3 => k_mem
  case m4 => k_mem
  case m5 => k_mem
  case m6 => k_mem
  case hd => (first | walk_at "rm" | omega | ktr_room)
  case hu => (first | walk_at "rm" | omega | ktr_units)
  case ap => exact hap3
  case hr =>
    intro p d lo kp t1 t2 t3 t4 oS' oR' oW' kR' kW' h' tk' F' f1 f2 f3 d1 d2 d3 z1' z2' N'
    have g1 := AU N0 (by assumption) N' (.tail _ (.head _)) (by intro hx; simp only [List.map, List.mem_cons, List.not_mem_nil, or_false] at hx; rcases hx with hx | hx | hx | hx | hx | hx | hx | hx | hx | hx <;> first | exact f1 _ (.head _) hx.symm | exact f1 _ (.tail _ (.head _)) hx.symm | exact f1 _ (.tail _ (.tail _ (.head _))) hx.symm | exact f1 _ (.tail _ (.tail _ (.tail _ (.head _)))) hx.symm | exact f1 _ (.tail _ (.tail _ (.tail _ (.tail _ (.head _))))) hx.symm | exact f1 _ (.tail _ (.tail _ (.tail _ (.tail _ (.tail _ (.head _)))))) hx.symm | exact f1 _ (.tail _ (.tail _ (.tail _ (.tail _ (.tail _ (.tail _ (.head _))))))) hx.symm | exact f1 _ (.tail _ (.tail _ (.tail _ (.tail _ (.tail _ (.tail _ (.tail _ (.head _)))))))) hx.symm | exact f1 _ (.tail _ (.tail _ (.tail _ (.tail _ (.tail _ (.tail _ (.tail _ (.tail _ (.head _))))))))) hx.symm | exact f1 _ (.tail _ (.tail _ (.tail _ (.tail _ (.tail _ (.tail _ (.tail _ (.tail _ (.tail _ (.head _)))))))))) hx.symm)
    have g2 := AU N0 (by assumption) N' (.tail _ (.tail _ (.head _))) (by intro hx; simp only [List.map, List.mem_cons, List.not_mem_nil, or_false] at hx; rcases hx with hx | hx | hx | hx | hx | hx | hx | hx | hx | hx <;> first | exact f2 _ (.head _) hx.symm | exact f2 _ (.tail _ (.head _)) hx.symm | exact f2 _ (.tail _ (.tail _ (.head _))) hx.symm | exact f2 _ (.tail _ (.tail _ (.tail _ (.head _)))) hx.symm | exact f2 _ (.tail _ (.tail _ (.tail _ (.tail _ (.head _))))) hx.symm | exact f2 _ (.tail _ (.tail _ (.tail _ (.tail _ (.tail _ (.head _)))))) hx.symm | exact f2 _ (.tail _ (.tail _ (.tail _ (.tail _ (.tail _ (.tail _ (.head _))))))) hx.symm | exact f2 _ (.tail _ (.tail _ (.tail _ (.tail _ (.tail _ (.tail _ (.tail _ (.head _)))))))) hx.symm | exact f2 _ (.tail _ (.tail _ (.tail _ (.tail _ (.tail _ (.tail _ (.tail _ (.tail _ (.head _))))))))) hx.symm | exact f2 _ (.tail _ (.tail _ (.tail _ (.tail _ (.tail _ (.tail _ (.tail _ (.tail _ (.tail _ (.head _)))))))))) hx.symm)
    have g3 := AU N0 (by assumption) N' (.head _) (by intro hx; simp only [List.map, List.mem_cons, List.not_mem_nil, or_false] at hx; rcases hx with hx | hx | hx | hx | hx | hx | hx | hx | hx | hx <;> first | exact f3 _ (.head _) hx.symm | exact f3 _ (.tail _ (.head _)) hx.symm | exact f3 _ (.tail _ (.tail _ (.head _))) hx.symm | exact f3 _ (.tail _ (.tail _ (.tail _ (.head _)))) hx.symm | exact f3 _ (.tail _ (.tail _ (.tail _ (.tail _ (.head _))))) hx.symm | exact f3 _ (.tail _ (.tail _ (.tail _ (.tail _ (.tail _ (.head _)))))) hx.symm | exact f3 _ (.tail _ (.tail _ (.tail _ (.tail _ (.tail _ (.tail _ (.head _))))))) hx.symm | exact f3 _ (.tail _ (.tail _ (.tail _ (.tail _ (.tail _ (.tail _ (.tail _ (.head _)))))))) hx.symm | exact f3 _ (.tail _ (.tail _ (.tail _ (.tail _ (.tail _ (.tail _ (.tail _ (.tail _ (.head _))))))))) hx.symm | exact f3 _ (.tail _ (.tail _ (.tail _ (.tail _ (.tail _ (.tail _ (.tail _ (.tail _ (.tail _ (.head _)))))))))) hx.symm)
    clear f1 f2 f3
    k_steps
    rename Off _ _ _ => off
    rename News Ad.1.h₀ Ad.1.L _ _ => Nb
    refine' hret1 _ rfl hlt p d lo kp Bn.2.1.1 _ _ _ _ Bn.1.2.1 Bn.1.2.2 Bn.2.1.2 oS' oR' oW' kR' kW' _ _ ?rF g1 g2 g3 d1 d2 d3 z1' z2' (AM (AM (AM (AM (AM (AM (AM (Fo N0 NR Nb off ?hr) Nb ?mo) Nb (.tail _ (.tail _ (.tail _ (.tail _ (.tail _ (.head _))))))) Nb (.tail _ (.tail _ (.tail _ (.tail _ (.head _)))))) Nb (.tail _ (.tail _ (.tail _ (.head _))))) Nb (.tail _ (.tail _ (.head _)))) Nb (.tail _ (.head _))) Nb (.head _))
    case hr =>
      intro q hq hn
      simp only [List.mem_cons, List.not_mem_nil, or_false, not_or] at hn
      have hb : ∀ l, q ∈ l → q ∈ but l [k.se, k.re, k.ws] := fun l hl => CA.mpr ⟨hl, by simp only [List.mem_cons, List.not_mem_nil, or_false, not_or]; exact ⟨hn.1, hn.2.1, hn.2.2.1⟩⟩
      refine .tail _ (.tail _ (.tail _ (.tail _ (.tail _ (.tail _ (hb _ ?_))))))
      simp only [List.mem_cons, List.not_mem_nil, or_false] at hq
      rcases hq with rfl | rfl | rfl | rfl | rfl | rfl | rfl | rfl | rfl | rfl <;> first | k_mem | exact absurd rfl hn.2.2.2
    case mo => exact .tail _ (.tail _ (.tail _ (.tail _ (.tail _ (.tail _ (CA.mpr ⟨(.tail _ (.tail _ (.tail _ (.tail _ (.tail _ (.tail _ (.tail _ (.tail _ (.tail _ (.head _)))))))))), by simp only [List.mem_cons, List.not_mem_nil, or_false, not_or]; exact ⟨q3.symm, q4.symm, q5.symm⟩⟩))))))
    case rF => assumption
end kut1
end CZ
def CZ {w p loose mean mg mb dp un gd cn cs a ccd cl outer A₀ base h₀ L m s Q E led k ki sp ds id oS oR oW oP turn t0 kS kR kW kP v1 v2 v3 a0 a1 c0 c1 u1 u2 u3 ta0 ta1 tc0 tc1 n1 n2 b} :=
  (DP.eq_1 w p loose mean mg mb dp un gd cn cs a ccd cl outer A₀ base h₀ L m s Q E led k ki sp ds id oS oR oW oP turn t0 kS kR kW kP v1 v2 v3 a0 a1 c0 c1 u1 u2 u3 ta0 ta1 tc0 tc1 n1 n2 b).mp ((BH (P := ccx PI DP) Ad (AQ CZ.Gn CZ.Bn CZ.kut1.Qi) ((⟨w, p, loose, mean, mg, mb, dp, un, gd, cn, cs, a, ccd, cl, outer, A₀, base, h₀, L, m, s, Q, E, led⟩ : Cx), ((((k, ki), sp, ds), (id, oS), oR, oW), ((oP, turn), t0, kS), (kR, kW), kP, v1), (((v2, v3), a0, a1), (c0, c1), u1, u2), ((u3, ta0), ta1, tc0), (tc1, n1), n2, b)))
end
section
open Mine renaming Es → hlt4, Es → hlt7
set_option rowWalk.seconds 0
theorem Tl : True := by
  k_with "subscriptTail" => (k_here; (with_reducible show wpAny _ _ (subscriptTail _ (Expr.Slice _ _ none _) (Value.bytes _ _) (Value.ref _)) _ _ _); (with_reducible rename Fr _ _ _ _ => F'); (with_reducible rename News _ _ _ _ => N'); (refine KBc.slice_K (s := ⟨_, _, _, _, _⟩) F' N' rfl (by constructor) (by constructor) (by rw [KBw.ints_length]; omega) ?_); intro h' t' k' F' N' _)
  k_with "subscriptTail" => (k_here; (with_reducible show wpAny _ _ (subscriptTail _ _ (Value.ref _) (Value.int _ _)) _ _ _); (refine kda_item (knd := PySem.intKind _ _) (by k_asm) (by k_mem) (by k_asm) (intKind_is _ _ _ _) (by first | assumption | rfl) ?_))
  trivial
theorem TB : True := by
  k_with "subscriptTail" => (k_here; (with_reducible show wpAny _ _ (subscriptTail _ (Expr.Slice _ _ none _) (Value.bytes _ _) (Value.ref _)) _ _ _); (with_reducible rename Fr _ _ _ _ => F'); (with_reducible rename News _ _ _ _ => N'); (refine KBc.slice_K (s := ⟨_, _, _, _, _⟩) F' N' rfl (by constructor) (by constructor) (by rw [KBw.ints_length]; omega) ?_); intro h' t' k' F' N' _)
  k_with "subscriptTail" => (k_here; (with_reducible show wpAny _ _ (subscriptTail _ _ (Value.ref _) (Value.int _ _)) _ _ _); (refine kda_item (knd := PySem.intKind _ _) (by k_asm) (by k_mem) (by k_asm) (intKind_is _ _ _ _) (by first | assumption | rfl) ?_))
  k_with "subscriptTail" => (k_here; (with_reducible show wpAny _ _ (subscriptTail _ _ (Value.ref _) (Value.str _ _)) _ _ _); (refine kda_item (knd := PySem.strKind _ _) (by k_asm) (by k_mem) (by k_asm) (strKind_is _ _ _ _) (by assumption) ?_))
  k_with "exec For Name Attribute cons nil" => (k_here; refine hlt7 ?_)
  trivial
noncomputable def EA : T24 (SD → CS → IK → Addr → Addr → Addr → Addr → Obj → Obj → Int → Int → Int → Int → Int → Int → Tok → Tok → Tok → Tok → Tok → Tok → Tok → Tok → Nat → (List (Str × Value)) → Prop) := fun w pgm loose mean mg mb dp un gd cn cs a ccd cl outer A₀ base h₀ L m s Q E led k kc ki sp ds dc id oS oP turn lim used a0 a1 v t0 u1 u2 ta0 ta1 t1 t2 t3 n kP =>
  (Below A₀ base outer h₀) → (Fr h₀ L s.heap m) → ((KK w.params).In h₀) → (Top pgm loose mean mg mb h₀) → (cs.kind = .function) → (News h₀ L s.heap led) → ([ds, dc, id, k.se, k.pa].Nodup) → ((k.se == sysModules) = false) → ((sp, instObj 790 ds) ∈ led) → ((ds, BF k turn t0) ∈ led) → ((k.cr, instObj 115 dc) ∈ led) → ((dc, AI kc lim u1 used u2) ∈ led) → ((k.ids, instObj 603 id) ∈ led) → ((id, Ev ki) ∈ led) → ((ki.ol, pairO a0 ta0 a1 ta1 n) ∈ led) → ((k.se, oS) ∈ led) → (oS.IsDictOf (PySem.intKind pw w) []) → ((k.pa, oP) ∈ led) → (oP.IsDictOf (PySem.strKind pw w) kP) → (valueAt kP (Str.ofString "initial_max_streams_bidi") = some (.int 2 t1)) → (valueAt kP (Str.ofString "initial_max_streams_uni") = some (.int 1 t2)) → (valueAt kP (Str.ofString "initial_max_data") = some (.int v t3)) → (dp + 6 < recursionLimit) → (un + 40 < cLine) → (∀ (ta tb tc : Tok) (n' : Nat) (h' : Heap) (tk' : Nat), Fr h₀ L h' m →
      News h₀ L h' ((ds, BF { k with pe := .ref k.pa } turn t0) :: (dc, AI kc (max lim v) tc used u2) :: (ki.ol, pairO (max a0 2) ta (max a1 1) tb n') :: but led [ds, dc, ki.ol]) → Q .none { s with heap := h', toks := tk' }) →
  wpAny (model pw w) (ktrTop dp un gd cn cs L a ccd cl outer) (PySem.call (.ref 698) [.ref sp, .ref k.pa]) Q E s
@[irreducible] def Ag := eps 1376600 (by walk_at "nonempty") (ccx PD EA)
namespace CI
def k := Ag.2.1.1.1.1.1
def ki := Ag.2.1.1.1.2.1
noncomputable def HR : Stg (F := Heap → Addr → Heap → Tok → Heap → Nat → Prop) CR (vcx EA Ag.1 k Ag.2.1.1.1.1.2 ki Ag.2.1.1.1.2.2 Ag.2.1.1.2.1.1 Ag.2.1.1.2.1.2 Ag.2.1.1.2.2 Ag.2.1.2.1.1.1 Ag.2.1.2.1.1.2 Ag.2.1.2.1.2 Ag.2.1.2.2.1.1 Ag.2.1.2.2.1.2 Ag.2.1.2.2.2 Ag.2.2.1.1.1.1 Ag.2.2.1.1.1.2 Ag.2.2.1.1.2 Ag.2.2.1.2.1.1 Ag.2.2.1.2.1.2 Ag.2.2.1.2.2 Ag.2.2.2.1.1.1 Ag.2.2.2.1.1.2 Ag.2.2.2.1.2 Ag.2.2.2.2.1.1 Ag.2.2.2.2.1.2 Ag.2.2.2.2.2) := mk6 _ fun K1 => by
  intro B F X T hk N hap hsys m1 m2 m3 m4 m5 m6 m7 m8 hS m9 hP h1 h2 h3 hd hu hret
  have NR : News Ag.1.h₀ Ag.1.L Ag.1.s.heap [(Ag.2.1.1.1.2.2, instObj 790 Ag.2.1.1.2.1.1), (Ag.2.1.1.2.1.1, BF k Ag.2.1.2.1.2 Ag.2.2.1.1.2), (k.cr, instObj 115 Ag.2.1.1.2.1.2), (Ag.2.1.1.2.1.2, AI Ag.2.1.1.1.1.2 Ag.2.1.2.2.1.1 Ag.2.2.1.2.1.1 Ag.2.1.2.2.1.2 Ag.2.2.1.2.1.2), (k.ids, instObj 603 Ag.2.1.1.2.2), (Ag.2.1.1.2.2, Ev ki), (ki.ol, pairO Ag.2.1.2.2.2 Ag.2.2.1.2.2 Ag.2.2.1.1.1.1 Ag.2.2.2.1.1.1 Ag.2.2.2.2.1.2), (k.se, Ag.2.1.2.1.1.1), (k.pa, Ag.2.1.2.1.1.2)] := (by repeat (first | exact News.nil | refine Bh N (by first | assumption | exact m1) ?_))
  have N0 : Hid (News Ag.1.h₀ Ag.1.L Ag.1.s.heap Ag.1.led) := N
  simp only [List.nodup_cons, List.mem_cons, List.not_mem_nil, or_false, not_or, List.nodup_nil, and_true, not_false_eq_true] at hap
  obtain ⟨⟨a1', a2', a3', a4'⟩, ⟨a5', a6', a7'⟩, ⟨a8', a9'⟩, a10'⟩ := hap
  have q1 : Ag.2.1.1.1.2.2 ≠ Ag.2.1.1.2.1.1 := Ar N m1 m2 rfl
  have q2 : k.cr ≠ Ag.2.1.1.2.1.1 := Ar N m3 m2 rfl
  have q3 : k.ids ≠ Ag.2.1.1.2.1.1 := Ar N m5 m2 rfl
  have q4 : ki.ol ≠ Ag.2.1.1.2.1.1 := Ar N m7 m2 rfl
  have q5 : Ag.2.1.1.1.2.2 ≠ Ag.2.1.1.2.1.2 := Ar N m1 m4 rfl
  have q6 : k.cr ≠ Ag.2.1.1.2.1.2 := Ar N m3 m4 rfl
  have q7 : k.ids ≠ Ag.2.1.1.2.1.2 := Ar N m5 m4 rfl
  have q8 : ki.ol ≠ Ag.2.1.1.2.1.2 := Ar N m7 m4 rfl
  have q9 : Ag.2.1.1.1.2.2 ≠ ki.ol := Ar N m1 m7 rfl
  have q10 : k.cr ≠ ki.ol := Ar N m3 m7 rfl
  have q11 : k.ids ≠ ki.ol := Ar N m5 m7 rfl
  have q12 : Ag.2.1.1.2.2 ≠ ki.ol := Ar N m6 m7 rfl
  have q13 : k.se ≠ ki.ol := AN N m8 m7 hS
  have q14 : k.pa ≠ ki.ol := AN N m9 m7 hP
  clear N
  walk_at "kt open"
  dsimp (zetaDelta := true) only
  k_steps
  delta Cg
  refine LB (by k_asm) (by k_asm) (by k_asm) (by k_asm) rfl (by k_asm) (by k_mem) (by k_mem) (by k_updF) (by walk_at "rm") (by walk_at "rm") ?_
  intro b' t' h' tk' F' N'
  rename_i c1_1 c1_2 _ z1 _ _ _ z2 z3 z4 c1_4 z5 _
  clear B F hk m1 m2 m3 m4 m5 m6 m7 m8 m9 h3 a1' a2' a3' a4' a5' a6' a7' a10' a8' a9' q1 q2 q3 q5 q6 q7 z1 z2 z3 z4 z5
  walk_at "rv"
  intro K1
  exact K1.p c1_1 c1_2 c1_4 t' h' tk'
@[irreducible] def Dg := eps 1376601 (by walk_at "nonempty") (CR HR.1)
namespace kut1
def tk' := Dg.2.2
noncomputable def HU : Stg (F := Tok → Tok → Nat → Heap → Nat → Prop) Cz (HR.1 Dg.1.1.1 Dg.1.1.2 Dg.1.2 Dg.2.1.1 Dg.2.1.2 tk') := mk5 _ fun K2 => by
  intro X T hsys hS hP h1 h2 hd hu hret NR N0 q4 q8 q9 q10 q11 q12 q13 q14 y20 y21 y22 y23 F' N'
  k_steps
  delta Cg
  refine HY (by k_asm) (by k_asm) (by k_asm) (by k_asm) rfl (by k_asm) (by k_mem) (by k_mem) (by k_mem) (by k_updF) (by walk_at "rm") (by walk_at "rm") ?_
  intro ta tb n' h' tk' F' N'
  rename_i z1 _
  clear h1 z1
  walk_at "rv"
  intro K2
  exact K2.p ta tb n' h' tk'
@[irreducible] def DC := eps 1376602 (by walk_at "nonempty") (Cz HU.1)
namespace kut2
def tk' := DC.2.2
noncomputable def HB : Stg (F := Tok → Tok → Nat → Heap → Nat → Prop) Cz (HU.1 DC.1.1.1 DC.1.1.2 DC.1.2 DC.2.1 tk') := mk5 _ fun K3 => by
  intro X T hsys hS hP h2 hd hu hret NR N0 q4 q8 q9 q10 q11 q12 q13 q14 y19 y20 y21 y22 y23 F' N'
  k_steps
  delta Cg
  refine HY (by k_asm) (by k_asm) (by k_asm) (by k_asm) rfl (by k_asm) (by k_mem) (by k_mem) (by k_mem) (by k_updF) (by walk_at "rm") (by walk_at "rm") ?_
  intro ta tb n' h' tk' F' N'
  rename_i z1 _
  clear hP h2 hd hu q4 q8 q9 q10 q11 q12 q13 q14 y19 y21 z1
  walk_at "rv"
  intro K3
  exact K3.p ta tb n' h' tk'
@[irreducible] def Lt := eps 1376603 (by walk_at "nonempty") (Cz HB.1)
theorem QY : Cz HB.1 Lt := by
  intro X T hsys hS hret NR N0 y7 y8 y9 y10 F' N'
  k_steps
  delta Cg
  refine wpAny_For ?_
  k_steps
  refine Ql rfl (by k_asm) (show (k.se, Ag.2.1.2.1.1.1) ∈ _ by k_mem) hS hsys ?_
  intro h' up'
  walk_at "k upd"
  k_steps
  rename Off _ _ _ => off
  rename News Ag.1.h₀ Ag.1.L _ _ => Nb
  refine' hret _ _ _ _ _ _ ?rF (AM (AM (AM (Fo N0 NR Nb off ?hr) Nb (.tail _ (.tail _ (.tail _ (.tail _ (.tail _ (.tail _ (.head _)))))))) Nb (.tail _ (.tail _ (.tail _ (.head _))))) Nb (.tail _ (.head _)))
  case rF => assumption
  case hr =>
    repeat (first | exact fa0 | refine fa1 (fun hn => by first | k_mem | exact absurd (by simp) hn) ?_)
end kut2
end kut1
end CI
def CI {w p loose mean mg mb dp un gd cn cs a ccd cl outer A₀ base h₀ L m s Q E led k kc ki sp ds dc id oS oP turn lim used a0 a1 v t0 u1 u2 ta0 ta1 t1 t2 t3 n kP} :=
  (EA.eq_1 w p loose mean mg mb dp un gd cn cs a ccd cl outer A₀ base h₀ L m s Q E led k kc ki sp ds dc id oS oP turn lim used a0 a1 v t0 u1 u2 ta0 ta1 t1 t2 t3 n kP).mp ((BH (P := ccx PD EA) Ag (AQ CI.HR CI.Dg (AQ CI.kut1.HU CI.kut1.DC (AQ CI.kut1.kut2.HB CI.kut1.kut2.Lt CI.kut1.kut2.QY))) ((⟨w, p, loose, mean, mg, mb, dp, un, gd, cn, cs, a, ccd, cl, outer, A₀, base, h₀, L, m, s, Q, E, led⟩ : Cx), ((((k, kc), ki, sp), (ds, dc), id), ((oS, oP), turn), (lim, used), a0), (((a1, v), t0), (u1, u2), ta0), ((ta1, t1), t2), (t3, n), kP)))
end
section
theorem nxh {α : Type} {x a : α} {l : List α} (h : x ∉ a :: l) : x ≠ a := fun e => h (e ▸ .head _)
theorem nxt {α : Type} {x a : α} {l : List α} (h : x ∉ a :: l) : x ∉ l := fun m => h (.tail _ m)
theorem nyc {α : Type} {x a : α} {l : List α} (h : x ≠ a) (r : x ∉ l) : x ∉ a :: l := fun m => (List.mem_cons.mp m).elim h r
theorem QI {α : Type} {A r r' : List α} (h : ∀ q ∈ r, q ∈ r') {y : α} (hy : y ∈ A ++ r) : y ∈ A ++ r' := (List.mem_append.mp hy).elim (fun m => List.mem_append.mpr (.inl m)) fun m => List.mem_append.mpr (.inr (h y m))
theorem nx1 {α : Type} {x a0 a1 : α} {l : List α} (h : x ∉ a0 :: a1 :: l) : x ≠ a1 := nxh (nxt h)
theorem nx2 {α : Type} {x a0 a1 a2 : α} {l : List α} (h : x ∉ a0 :: a1 :: a2 :: l) : x ≠ a2 := nxh (nxt (nxt h))
theorem nx3 {α : Type} {x a0 a1 a2 a3 : α} {l : List α} (h : x ∉ a0 :: a1 :: a2 :: a3 :: l) : x ≠ a3 := nxh (nxt (nxt (nxt h)))
theorem nx4 {α : Type} {x a0 a1 a2 a3 a4 : α} {l : List α} (h : x ∉ a0 :: a1 :: a2 :: a3 :: a4 :: l) : x ≠ a4 := nxh (nxt (nxt (nxt (nxt h))))
theorem nx5 {α : Type} {x a0 a1 a2 a3 a4 a5 : α} {l : List α} (h : x ∉ a0 :: a1 :: a2 :: a3 :: a4 :: a5 :: l) : x ≠ a5 := nxh (nxt (nxt (nxt (nxt (nxt h)))))
theorem nx6 {α : Type} {x a0 a1 a2 a3 a4 a5 a6 : α} {l : List α} (h : x ∉ a0 :: a1 :: a2 :: a3 :: a4 :: a5 :: a6 :: l) : x ≠ a6 := nxh (nxt (nxt (nxt (nxt (nxt (nxt h))))))
theorem nx7 {α : Type} {x a0 a1 a2 a3 a4 a5 a6 a7 : α} {l : List α} (h : x ∉ a0 :: a1 :: a2 :: a3 :: a4 :: a5 :: a6 :: a7 :: l) : x ≠ a7 := nxh (nxt (nxt (nxt (nxt (nxt (nxt (nxt h)))))))
theorem nx8 {α : Type} {x a0 a1 a2 a3 a4 a5 a6 a7 a8 : α} {l : List α} (h : x ∉ a0 :: a1 :: a2 :: a3 :: a4 :: a5 :: a6 :: a7 :: a8 :: l) : x ≠ a8 := nxh (nxt (nxt (nxt (nxt (nxt (nxt (nxt (nxt h))))))))
theorem nx9 {α : Type} {x a0 a1 a2 a3 a4 a5 a6 a7 a8 a9 : α} {l : List α} (h : x ∉ a0 :: a1 :: a2 :: a3 :: a4 :: a5 :: a6 :: a7 :: a8 :: a9 :: l) : x ≠ a9 := nxh (nxt (nxt (nxt (nxt (nxt (nxt (nxt (nxt (nxt h)))))))))
theorem SY {α : Type} {x a0 a1 a2 a3 a4 a5 a6 a7 a8 a9 a10 : α} {l : List α} (h : x ∉ a0 :: a1 :: a2 :: a3 :: a4 :: a5 :: a6 :: a7 :: a8 :: a9 :: a10 :: l) : x ≠ a10 := nxh (nxt (nxt (nxt (nxt (nxt (nxt (nxt (nxt (nxt (nxt h))))))))))
noncomputable abbrev BC (k : SD) (kc : CS) (ki : IK) (sp ds dc id : Addr) (oS oR oW oP : Obj) (turn dl used a0 a1 c0 c1 : Int) (t0 t5 t6 ta0 ta1 tc0 tc1 : Tok) (n1 n2 : Nat) (rest : List (Addr × Obj)) : List (Addr × Obj) :=
  (sp, instObj 790 ds) :: (ds, BF k turn t0) :: (k.se, oS) :: (k.cr, instObj 115 dc) :: (dc, AI kc dl t5 used t6) :: (k.ids, instObj 603 id) :: (id, Ev ki) :: (ki.ol, pairO a0 ta0 a1 ta1 n1) :: (ki.om, pairO c0 tc0 c1 tc1 n2) :: (k.re, oR) :: (k.ws, oW) :: (k.pa, oP) :: rest
noncomputable def GV : Heap → Heap → Heap → Addr → SD → CS → IK → Addr → Addr → Addr → Addr → Obj → Obj → Obj → Obj → Int → Int → Int → Int → Int → Int → Int → Int → Int → Int → Tok → Tok → Tok → Tok → Tok → Tok → Tok → Tok → Tok → Tok → Nat → Nat → Nat → (List (Addr × Obj)) → World → (List (Int × Value)) → (List (Int × Value)) → (List (Int × Value)) → (List (Str × Value)) → Prop := fun h₀ h h' L k kc ki sp ds dc id oS oR oW oP turn dl used a0 a1 c0 c1 dl' a0' a1' t0 t5 t6 ta0 ta1 tc0 tc1 t5' ta0' ta1' n1 n2 n1' rest w kS kR kW kP =>
  (News h₀ L h (BC k kc ki sp ds dc id oS oR oW oP turn dl used a0 a1 c0 c1 t0 t5 t6 ta0 ta1 tc0 tc1 n1 n2 rest)) → ([ds, dc, id, k.se, k.re, k.ws, k.pa].Nodup) → (ki.ol ≠ ki.om) → (oS.IsDictOf (PySem.intKind pw w) kS) → (oR.IsDictOf (PySem.intKind pw w) kR) → (oW.IsDictOf (PySem.intKind pw w) kW) → (oP.IsDictOf (PySem.strKind pw w) kP) → (∀ q ∈ rest, q.1 ≠ ds ∧ q.1 ≠ dc ∧ q.1 ≠ ki.ol) → (News h₀ L h' ((ds, BF { k with pe := .ref k.pa } turn t0) :: (dc, AI kc dl' t5' used t6) :: (ki.ol, pairO a0' ta0' a1' ta1' n1') :: but (BC k kc ki sp ds dc id oS oR oW oP turn dl used a0 a1 c0 c1 t0 t5 t6 ta0 ta1 tc0 tc1 n1 n2 rest) [ds, dc, ki.ol])) →
  News h₀ L h' (BC { k with pe := .ref k.pa } kc ki sp ds dc id oS oR oW oP turn dl' used a0' a1' c0 c1 t0 t5' t6 ta0' ta1' tc0 tc1 n1' n2 rest)
@[irreducible] def Aa := eps 3952200 (by walk_at "nonempty") (Sm GV)
namespace GG
def k := Aa.1.1.1.2.1.2
theorem Rk : GV Aa.1.1.1.1.1.1 Aa.1.1.1.1.1.2 Aa.1.1.1.1.2 Aa.1.1.1.2.1.1 k Aa.1.1.1.2.2 Aa.1.1.2.1.1.1 Aa.1.1.2.1.1.2 Aa.1.1.2.1.2 Aa.1.1.2.2.1 Aa.1.1.2.2.2 Aa.1.2.1.1.1.1 Aa.1.2.1.1.1.2 Aa.1.2.1.1.2 Aa.1.2.1.2.1.1 Aa.1.2.1.2.1.2 Aa.1.2.1.2.2 Aa.1.2.2.1.1.1 Aa.1.2.2.1.1.2 Aa.1.2.2.1.2 Aa.1.2.2.2.1 Aa.1.2.2.2.2 Aa.2.1.1.1.1.1 Aa.2.1.1.1.1.2 Aa.2.1.1.1.2 Aa.2.1.1.2.1.1 Aa.2.1.1.2.1.2 Aa.2.1.1.2.2 Aa.2.1.2.1.1.1 Aa.2.1.2.1.1.2 Aa.2.1.2.1.2 Aa.2.1.2.2.1 Aa.2.1.2.2.2 Aa.2.2.1.1.1.1 Aa.2.2.1.1.1.2 Aa.2.2.1.1.2 Aa.2.2.1.2.1.1 Aa.2.2.1.2.1.2 Aa.2.2.1.2.2 Aa.2.2.2.1.1.1 Aa.2.2.2.1.1.2 Aa.2.2.2.1.2 Aa.2.2.2.2.1 Aa.2.2.2.2.2 := by
  intro N0 hap hnl dS dR dW dP hrest N'
  simp only [List.nodup_cons, List.mem_cons, List.not_mem_nil, or_false, not_or, List.nodup_nil, and_true, not_false_eq_true] at hap
  obtain ⟨⟨y1, y2, y3, y4, y5, y6⟩, ⟨z1, z2, z3, z4, z5⟩, _⟩ := hap
  have low : ∀ q ∈ BC k Aa.1.1.1.2.2 Aa.1.1.2.1.1.1 Aa.1.1.2.1.1.2 Aa.1.1.2.1.2 Aa.1.1.2.2.1 Aa.1.1.2.2.2 Aa.1.2.1.1.1.1 Aa.1.2.1.1.1.2 Aa.1.2.1.1.2 Aa.1.2.1.2.1.1 Aa.1.2.1.2.1.2 Aa.1.2.1.2.2 Aa.1.2.2.1.1.1 Aa.1.2.2.1.1.2 Aa.1.2.2.1.2 Aa.1.2.2.2.1 Aa.1.2.2.2.2 Aa.2.1.1.2.1.1 Aa.2.1.1.2.1.2 Aa.2.1.1.2.2 Aa.2.1.2.1.1.1 Aa.2.1.2.1.1.2 Aa.2.1.2.1.2 Aa.2.1.2.2.1 Aa.2.2.1.1.2 Aa.2.2.1.2.1.1 Aa.2.2.1.2.2, q.1 ≠ Aa.1.1.2.1.2 → q.1 ≠ Aa.1.1.2.2.1 → q.1 ≠ Aa.1.1.2.1.1.1.ol → News Aa.1.1.1.1.1.1 Aa.1.1.1.2.1.1 Aa.1.1.1.1.2 [q] := fun q hq h1 h2 h3 r hr => by
    rw [List.mem_singleton.mp hr]
    exact N' q (.tail _ (.tail _ (.tail _ (CA.mpr ⟨hq, by simp only [List.mem_cons, List.not_mem_nil, or_false, not_or]; exact ⟨h1, h2, h3⟩⟩))))
  have mD : (Aa.1.1.2.1.2, BF k Aa.1.2.1.2.1.2 Aa.2.1.1.2.1.1) ∈ BC k Aa.1.1.1.2.2 Aa.1.1.2.1.1.1 Aa.1.1.2.1.1.2 Aa.1.1.2.1.2 Aa.1.1.2.2.1 Aa.1.1.2.2.2 Aa.1.2.1.1.1.1 Aa.1.2.1.1.1.2 Aa.1.2.1.1.2 Aa.1.2.1.2.1.1 Aa.1.2.1.2.1.2 Aa.1.2.1.2.2 Aa.1.2.2.1.1.1 Aa.1.2.2.1.1.2 Aa.1.2.2.1.2 Aa.1.2.2.2.1 Aa.1.2.2.2.2 Aa.2.1.1.2.1.1 Aa.2.1.1.2.1.2 Aa.2.1.1.2.2 Aa.2.1.2.1.1.1 Aa.2.1.2.1.1.2 Aa.2.1.2.1.2 Aa.2.1.2.2.1 Aa.2.2.1.1.2 Aa.2.2.1.2.1.1 Aa.2.2.1.2.2 := by k_mem
  have mC : (Aa.1.1.2.2.1, AI Aa.1.1.1.2.2 Aa.1.2.1.2.2 Aa.2.1.1.2.1.2 Aa.1.2.2.1.1.1 Aa.2.1.1.2.2) ∈ BC k Aa.1.1.1.2.2 Aa.1.1.2.1.1.1 Aa.1.1.2.1.1.2 Aa.1.1.2.1.2 Aa.1.1.2.2.1 Aa.1.1.2.2.2 Aa.1.2.1.1.1.1 Aa.1.2.1.1.1.2 Aa.1.2.1.1.2 Aa.1.2.1.2.1.1 Aa.1.2.1.2.1.2 Aa.1.2.1.2.2 Aa.1.2.2.1.1.1 Aa.1.2.2.1.1.2 Aa.1.2.2.1.2 Aa.1.2.2.2.1 Aa.1.2.2.2.2 Aa.2.1.1.2.1.1 Aa.2.1.1.2.1.2 Aa.2.1.1.2.2 Aa.2.1.2.1.1.1 Aa.2.1.2.1.1.2 Aa.2.1.2.1.2 Aa.2.1.2.2.1 Aa.2.2.1.1.2 Aa.2.2.1.2.1.1 Aa.2.2.1.2.2 := by k_mem
  have mO : (Aa.1.1.2.1.1.1.ol, pairO Aa.1.2.2.1.1.2 Aa.2.1.2.1.1.1 Aa.1.2.2.1.2 Aa.2.1.2.1.1.2 Aa.2.2.1.1.2) ∈ BC k Aa.1.1.1.2.2 Aa.1.1.2.1.1.1 Aa.1.1.2.1.1.2 Aa.1.1.2.1.2 Aa.1.1.2.2.1 Aa.1.1.2.2.2 Aa.1.2.1.1.1.1 Aa.1.2.1.1.1.2 Aa.1.2.1.1.2 Aa.1.2.1.2.1.1 Aa.1.2.1.2.1.2 Aa.1.2.1.2.2 Aa.1.2.2.1.1.1 Aa.1.2.2.1.1.2 Aa.1.2.2.1.2 Aa.1.2.2.2.1 Aa.1.2.2.2.2 Aa.2.1.1.2.1.1 Aa.2.1.1.2.1.2 Aa.2.1.1.2.2 Aa.2.1.2.1.1.1 Aa.2.1.2.1.1.2 Aa.2.1.2.1.2 Aa.2.1.2.2.1 Aa.2.2.1.1.2 Aa.2.2.1.2.1.1 Aa.2.2.1.2.2 := by k_mem
  refine Bp (low _ (show (Aa.1.1.2.1.1.2, _) ∈ _ by k_mem) (Ar N0 (by k_mem) mD rfl) (Ar N0 (by k_mem) mC rfl) (Ar N0 (by k_mem) mO rfl)) ?_
  refine Bh N' (.head _) ?_
  refine Bp (low _ (show (k.se, Aa.1.2.1.1.1.1) ∈ _ by k_mem) (Ne.symm y3) (Ne.symm z2) (AN N0 (by k_mem) mO dS)) ?_
  refine Bp (low _ (show (k.cr, _) ∈ _ by k_mem) (Ar N0 (by k_mem) mD rfl) (Ar N0 (by k_mem) mC rfl) (Ar N0 (by k_mem) mO rfl)) ?_
  refine Bh N' (.tail _ (.head _)) ?_
  refine Bp (low _ (show (k.ids, _) ∈ _ by k_mem) (Ar N0 (by k_mem) mD rfl) (Ar N0 (by k_mem) mC rfl) (Ar N0 (by k_mem) mO rfl)) ?_
  refine Bp (low _ (show (Aa.1.1.2.2.2, Ev Aa.1.1.2.1.1.1) ∈ _ by k_mem) (Ne.symm y2) (Ne.symm z1) (Ar N0 (by k_mem) mO rfl)) ?_
  refine Bh N' (.tail _ (.tail _ (.head _))) ?_
  refine Bp (low _ (show (Aa.1.1.2.1.1.1.om, _) ∈ _ by k_mem) (Ar N0 (by k_mem) mD rfl) (Ar N0 (by k_mem) mC rfl) hnl.symm) ?_
  refine Bp (low _ (show (k.re, Aa.1.2.1.1.1.2) ∈ _ by k_mem) (Ne.symm y4) (Ne.symm z3) (AN N0 (by k_mem) mO dR)) ?_
  refine Bp (low _ (show (k.ws, Aa.1.2.1.1.2) ∈ _ by k_mem) (Ne.symm y5) (Ne.symm z4) (AN N0 (by k_mem) mO dW)) ?_
  refine Bp (low _ (show (k.pa, Aa.1.2.1.2.1.1) ∈ _ by k_mem) (Ne.symm y6) (Ne.symm z5) (AN N0 (by k_mem) mO dP)) ?_
  intro q hq
  have := hrest q hq
  exact low q (.tail _ (.tail _ (.tail _ (.tail _ (.tail _ (.tail _ (.tail _ (.tail _ (.tail _ (.tail _ (.tail _ (.tail _ hq)))))))))))) this.1 this.2.1 this.2.2 _ (.head _)
end GG
theorem GG {h₀ h h' : Heap} {L : Addr} {k : SD} {kc : CS} {ki : IK} {sp ds dc id : Addr} {oS oR oW oP : Obj} {turn dl used a0 a1 c0 c1 dl' a0' a1' : Int} {t0 t5 t6 ta0 ta1 tc0 tc1 t5' ta0' ta1' : Tok} {n1 n2 n1' : Nat} {rest : List (Addr × Obj)} {w : World} {kS kR kW : List (Int × Value)} {kP : List (Str × Value)}
    (N0 : News h₀ L h (BC k kc ki sp ds dc id oS oR oW oP turn dl used a0 a1 c0 c1 t0 t5 t6 ta0 ta1 tc0 tc1 n1 n2 rest)) (hap : [ds, dc, id, k.se, k.re, k.ws, k.pa].Nodup) (hnl : ki.ol ≠ ki.om)
    (dS : oS.IsDictOf (PySem.intKind pw w) kS) (dR : oR.IsDictOf (PySem.intKind pw w) kR) (dW : oW.IsDictOf (PySem.intKind pw w) kW) (dP : oP.IsDictOf (PySem.strKind pw w) kP) (hrest : ∀ q ∈ rest, q.1 ≠ ds ∧ q.1 ≠ dc ∧ q.1 ≠ ki.ol)
    (N' : News h₀ L h' ((ds, BF { k with pe := .ref k.pa } turn t0) :: (dc, AI kc dl' t5' used t6) :: (ki.ol, pairO a0' ta0' a1' ta1' n1') :: but (BC k kc ki sp ds dc id oS oR oW oP turn dl used a0 a1 c0 c1 t0 t5 t6 ta0 ta1 tc0 tc1 n1 n2 rest) [ds, dc, ki.ol])) :
    News h₀ L h' (BC { k with pe := .ref k.pa } kc ki sp ds dc id oS oR oW oP turn dl' used a0' a1' c0 c1 t0 t5' t6 ta0' ta1' tc0 tc1 n1' n2 rest) := by
  exact (BH (P := Sm GV) Aa GG.Rk ((((((h₀, h), h'), (L, k), kc), ((ki, sp), ds), dc, id), (((oS, oR), oW), (oP, turn), dl), ((used, a0), a1), c0, c1), ((((dl', a0'), a1'), (t0, t5), t6), ((ta0, ta1), tc0), tc1, t5'), (((ta0', ta1'), n1), (n2, n1'), rest), ((w, kS), kR), kW, kP)) N0 hap hnl dS dR dW dP hrest N'
noncomputable def HI : Heap → Heap → Heap → Addr → SD → CS → IK → Addr → Addr → Addr → Addr → Addr → Addr → Addr → Obj → Obj → Obj → Obj → Obj → Obj → Obj → Obj → Obj → Obj → Int → Int → Int → Int → Int → Int → Int → Int → Int → Tok → Tok → Tok → Tok → Tok → Tok → Tok → Tok → Tok → Nat → Nat → Nat → (Addr × Obj) → (Addr × Obj) → (List (Addr × Obj)) → World → (List (Int × Value)) → (List (Int × Value)) → (List (Int × Value)) → (List (Str × Value)) → Prop := fun h₀ h h' L k kc ki sp ds dc id lo p d oS oR oW oP oS' oR' oW' L0 P0 D0 turn dl used a0 a1 c0 c1 c0' c1' t0 t5 t6 ta0 ta1 tc0 tc1 tc0' tc1' n1 n2 n2' a b rest w kS kR kW kP =>
  (News h₀ L h (a :: b :: BC k kc ki sp ds dc id oS oR oW oP turn dl used a0 a1 c0 c1 t0 t5 t6 ta0 ta1 tc0 tc1 n1 n2 rest)) → ([ds, dc, id, k.se, k.re, k.ws, k.pa].Nodup) → (ki.ol ≠ ki.om) → (oS.IsDictOf (PySem.intKind pw w) kS) → (oR.IsDictOf (PySem.intKind pw w) kR) → (oW.IsDictOf (PySem.intKind pw w) kW) → (oP.IsDictOf (PySem.strKind pw w) kP) → (a.1 ≠ k.se ∧ a.1 ≠ k.re ∧ a.1 ≠ k.ws ∧ a.1 ≠ ki.om) → (b.1 ≠ k.se ∧ b.1 ≠ k.re ∧ b.1 ≠ k.ws ∧ b.1 ≠ ki.om) → (∀ q ∈ rest, q.1 ≠ k.se ∧ q.1 ≠ k.re ∧ q.1 ≠ k.ws ∧ q.1 ≠ ki.om) → (News h₀ L h' ((lo, L0) :: (p, P0) :: (d, D0) :: (k.se, oS') :: (k.re, oR') :: (k.ws, oW') :: (ki.om, pairO c0' tc0' c1' tc1' n2') :: but (a :: b :: BC k kc ki sp ds dc id oS oR oW oP turn dl used a0 a1 c0 c1 t0 t5 t6 ta0 ta1 tc0 tc1 n1 n2 rest) [k.se, k.re, k.ws, ki.om])) →
  News h₀ L h' ((lo, L0) :: (p, P0) :: (d, D0) :: a :: b :: BC k kc ki sp ds dc id oS' oR' oW' oP turn dl used a0 a1 c0' c1' t0 t5 t6 ta0 ta1 tc0' tc1' n1 n2' rest)
@[irreducible] def Ab := eps 669400 (by walk_at "nonempty") (So HI)
namespace Go
def k := Ab.1.1.1.2.1.1
def kc := Ab.1.1.1.2.1.2
def ki := Ab.1.1.1.2.2
def ds := Ab.1.1.2.1.1.2
def dc := Ab.1.1.2.1.2.1
def id := Ab.1.1.2.1.2.2
def oP := Ab.1.2.1.1.2.2
def turn := Ab.1.2.2.2.1.1
def dl := Ab.1.2.2.2.1.2
def used := Ab.1.2.2.2.2
def t0 := Ab.2.1.1.2.2
def t5 := Ab.2.1.2.1.1.1
def t6 := Ab.2.1.2.1.1.2
theorem Rz : HI Ab.1.1.1.1.1.1 Ab.1.1.1.1.1.2 Ab.1.1.1.1.2.1 Ab.1.1.1.1.2.2 k kc ki Ab.1.1.2.1.1.1 ds dc id Ab.1.1.2.2.1.1 Ab.1.1.2.2.1.2 Ab.1.1.2.2.2 Ab.1.2.1.1.1.1 Ab.1.2.1.1.1.2 Ab.1.2.1.1.2.1 oP Ab.1.2.1.2.1.1 Ab.1.2.1.2.1.2 Ab.1.2.1.2.2 Ab.1.2.2.1.1.1 Ab.1.2.2.1.1.2 Ab.1.2.2.1.2 turn dl used Ab.2.1.1.1.1.1 Ab.2.1.1.1.1.2 Ab.2.1.1.1.2.1 Ab.2.1.1.1.2.2 Ab.2.1.1.2.1.1 Ab.2.1.1.2.1.2 t0 t5 t6 Ab.2.1.2.1.2 Ab.2.1.2.2.1.1 Ab.2.1.2.2.1.2 Ab.2.1.2.2.2 Ab.2.2.1.1.1.1 Ab.2.2.1.1.1.2 Ab.2.2.1.1.2.1 Ab.2.2.1.1.2.2 Ab.2.2.1.2.1.1 Ab.2.2.1.2.1.2 Ab.2.2.1.2.2 Ab.2.2.2.1.1.1 Ab.2.2.2.1.1.2 Ab.2.2.2.1.2 Ab.2.2.2.2.1.1 Ab.2.2.2.2.1.2 Ab.2.2.2.2.2 := by
  intro N0 hap hnl dS dR dW dP ha hb hrest N'
  simp only [List.nodup_cons, List.mem_cons, List.not_mem_nil, or_false, not_or, List.nodup_nil, and_true, not_false_eq_true] at hap
  obtain ⟨⟨y1, y2, y3, y4, y5, y6⟩, ⟨z1, z2, z3, z4, z5⟩, ⟨x1, x2, x3, x4⟩, ⟨v1, v2, v3⟩, ⟨u1, u2⟩, r1⟩ := hap
  have low : ∀ q ∈ Ab.2.2.1.2.1.2 :: Ab.2.2.1.2.2 :: BC k kc ki Ab.1.1.2.1.1.1 ds dc id Ab.1.2.1.1.1.1 Ab.1.2.1.1.1.2 Ab.1.2.1.1.2.1 oP turn dl used Ab.2.1.1.1.1.1 Ab.2.1.1.1.1.2 Ab.2.1.1.1.2.1 Ab.2.1.1.1.2.2 t0 t5 t6 Ab.2.1.2.1.2 Ab.2.1.2.2.1.1 Ab.2.1.2.2.1.2 Ab.2.1.2.2.2 Ab.2.2.1.1.2.1 Ab.2.2.1.1.2.2 Ab.2.2.2.1.1.1, (q.1 ≠ k.se ∧ q.1 ≠ k.re ∧ q.1 ≠ k.ws ∧ q.1 ≠ ki.om) → News Ab.1.1.1.1.1.1 Ab.1.1.1.1.2.2 Ab.1.1.1.1.2.1 [q] := fun q hq hh r hr => by
    rw [List.mem_singleton.mp hr]
    exact N' q (.tail _ (.tail _ (.tail _ (.tail _ (.tail _ (.tail _ (.tail _ (CA.mpr ⟨hq, by simp only [List.mem_cons, List.not_mem_nil, or_false, not_or]; exact hh⟩))))))))
  have mS : (k.se, Ab.1.2.1.1.1.1) ∈ Ab.2.2.1.2.1.2 :: Ab.2.2.1.2.2 :: BC k kc ki Ab.1.1.2.1.1.1 ds dc id Ab.1.2.1.1.1.1 Ab.1.2.1.1.1.2 Ab.1.2.1.1.2.1 oP turn dl used Ab.2.1.1.1.1.1 Ab.2.1.1.1.1.2 Ab.2.1.1.1.2.1 Ab.2.1.1.1.2.2 t0 t5 t6 Ab.2.1.2.1.2 Ab.2.1.2.2.1.1 Ab.2.1.2.2.1.2 Ab.2.1.2.2.2 Ab.2.2.1.1.2.1 Ab.2.2.1.1.2.2 Ab.2.2.2.1.1.1 := by k_mem
  have mR : (k.re, Ab.1.2.1.1.1.2) ∈ Ab.2.2.1.2.1.2 :: Ab.2.2.1.2.2 :: BC k kc ki Ab.1.1.2.1.1.1 ds dc id Ab.1.2.1.1.1.1 Ab.1.2.1.1.1.2 Ab.1.2.1.1.2.1 oP turn dl used Ab.2.1.1.1.1.1 Ab.2.1.1.1.1.2 Ab.2.1.1.1.2.1 Ab.2.1.1.1.2.2 t0 t5 t6 Ab.2.1.2.1.2 Ab.2.1.2.2.1.1 Ab.2.1.2.2.1.2 Ab.2.1.2.2.2 Ab.2.2.1.1.2.1 Ab.2.2.1.1.2.2 Ab.2.2.2.1.1.1 := by k_mem
  have mW : (k.ws, Ab.1.2.1.1.2.1) ∈ Ab.2.2.1.2.1.2 :: Ab.2.2.1.2.2 :: BC k kc ki Ab.1.1.2.1.1.1 ds dc id Ab.1.2.1.1.1.1 Ab.1.2.1.1.1.2 Ab.1.2.1.1.2.1 oP turn dl used Ab.2.1.1.1.1.1 Ab.2.1.1.1.1.2 Ab.2.1.1.1.2.1 Ab.2.1.1.1.2.2 t0 t5 t6 Ab.2.1.2.1.2 Ab.2.1.2.2.1.1 Ab.2.1.2.2.1.2 Ab.2.1.2.2.2 Ab.2.2.1.1.2.1 Ab.2.2.1.1.2.2 Ab.2.2.2.1.1.1 := by k_mem
  have mM : (ki.om, pairO Ab.2.1.1.1.2.1 Ab.2.1.2.2.1.2 Ab.2.1.1.1.2.2 Ab.2.1.2.2.2 Ab.2.2.1.1.2.2) ∈ Ab.2.2.1.2.1.2 :: Ab.2.2.1.2.2 :: BC k kc ki Ab.1.1.2.1.1.1 ds dc id Ab.1.2.1.1.1.1 Ab.1.2.1.1.1.2 Ab.1.2.1.1.2.1 oP turn dl used Ab.2.1.1.1.1.1 Ab.2.1.1.1.1.2 Ab.2.1.1.1.2.1 Ab.2.1.1.1.2.2 t0 t5 t6 Ab.2.1.2.1.2 Ab.2.1.2.2.1.1 Ab.2.1.2.2.1.2 Ab.2.1.2.2.2 Ab.2.2.1.1.2.1 Ab.2.2.1.1.2.2 Ab.2.2.2.1.1.1 := by k_mem
  have inst : ∀ {y : Addr} {C x : Addr}, (y, instObj C x) ∈ Ab.2.2.1.2.1.2 :: Ab.2.2.1.2.2 :: BC k kc ki Ab.1.1.2.1.1.1 ds dc id Ab.1.2.1.1.1.1 Ab.1.2.1.1.1.2 Ab.1.2.1.1.2.1 oP turn dl used Ab.2.1.1.1.1.1 Ab.2.1.1.1.1.2 Ab.2.1.1.1.2.1 Ab.2.1.1.1.2.2 t0 t5 t6 Ab.2.1.2.1.2 Ab.2.1.2.2.1.1 Ab.2.1.2.2.1.2 Ab.2.1.2.2.2 Ab.2.2.1.1.2.1 Ab.2.2.1.1.2.2 Ab.2.2.2.1.1.1 → News Ab.1.1.1.1.1.1 Ab.1.1.1.1.2.2 Ab.1.1.1.1.2.1 [(y, instObj C x)] := fun {y C x} hm => low _ hm ⟨Cr N0 hm mS dS, Cr N0 hm mR dR, Cr N0 hm mW dW, Ar N0 hm mM rfl⟩
  refine Bh N' (.head _) ?_
  refine Bh N' (.tail _ (.head _)) ?_
  refine Bh N' (.tail _ (.tail _ (.head _))) ?_
  refine Bp (low _ (.head _) ha) ?_
  refine Bp (low _ (.tail _ (.head _)) hb) ?_
  refine Bp (inst (show (Ab.1.1.2.1.1.1, _) ∈ _ by k_mem)) ?_
  refine Bp (low _ (show (ds, BF k turn t0) ∈ _ by k_mem) ⟨y3, y4, y5, Ar N0 (show (ds, BF k turn t0) ∈ _ by k_mem) mM rfl⟩) ?_
  refine Bh N' (.tail _ (.tail _ (.tail _ (.head _)))) ?_
  refine Bp (inst (show (k.cr, _) ∈ _ by k_mem)) ?_
  refine Bp (low _ (show (dc, AI kc dl t5 used t6) ∈ _ by k_mem) ⟨z2, z3, z4, Ar N0 (show (dc, AI kc dl t5 used t6) ∈ _ by k_mem) mM rfl⟩) ?_
  refine Bp (inst (show (k.ids, _) ∈ _ by k_mem)) ?_
  refine Bp (low _ (show (id, Ev ki) ∈ _ by k_mem) ⟨x1, x2, x3, Ar N0 (show (id, Ev ki) ∈ _ by k_mem) mM rfl⟩) ?_
  have mO : (ki.ol, pairO Ab.2.1.1.1.1.1 Ab.2.1.2.1.2 Ab.2.1.1.1.1.2 Ab.2.1.2.2.1.1 Ab.2.2.1.1.2.1) ∈ Ab.2.2.1.2.1.2 :: Ab.2.2.1.2.2 :: BC k kc ki Ab.1.1.2.1.1.1 ds dc id Ab.1.2.1.1.1.1 Ab.1.2.1.1.1.2 Ab.1.2.1.1.2.1 oP turn dl used Ab.2.1.1.1.1.1 Ab.2.1.1.1.1.2 Ab.2.1.1.1.2.1 Ab.2.1.1.1.2.2 t0 t5 t6 Ab.2.1.2.1.2 Ab.2.1.2.2.1.1 Ab.2.1.2.2.1.2 Ab.2.1.2.2.2 Ab.2.2.1.1.2.1 Ab.2.2.1.1.2.2 Ab.2.2.2.1.1.1 := by k_mem
  refine Bp (low _ mO ⟨(AN N0 mS mO dS).symm, (AN N0 mR mO dR).symm, (AN N0 mW mO dW).symm, hnl⟩) ?_
  refine Bh N' (.tail _ (.tail _ (.tail _ (.tail _ (.tail _ (.tail _ (.head _))))))) ?_
  refine Bh N' (.tail _ (.tail _ (.tail _ (.tail _ (.head _))))) ?_
  refine Bh N' (.tail _ (.tail _ (.tail _ (.tail _ (.tail _ (.head _)))))) ?_
  refine Bp (low _ (show (k.pa, oP) ∈ _ by k_mem) ⟨Ne.symm v3, Ne.symm u2, Ne.symm r1, AN N0 (show (k.pa, oP) ∈ _ by k_mem) mM dP⟩) ?_
  intro q hq
  exact low q (.tail _ (.tail _ (.tail _ (.tail _ (.tail _ (.tail _ (.tail _ (.tail _ (.tail _ (.tail _ (.tail _ (.tail _ (.tail _ (.tail _ hq)))))))))))))) (hrest q hq) _ (.head _)
end Go
theorem Go {h₀ h h' : Heap} {L : Addr} {k : SD} {kc : CS} {ki : IK} {sp ds dc id lo p d : Addr} {oS oR oW oP oS' oR' oW' L0 P0 D0 : Obj} {turn dl used a0 a1 c0 c1 c0' c1' : Int} {t0 t5 t6 ta0 ta1 tc0 tc1 tc0' tc1' : Tok} {n1 n2 n2' : Nat} {a b : Addr × Obj} {rest : List (Addr × Obj)} {w : World} {kS kR kW : List (Int × Value)} {kP : List (Str × Value)}
    (N0 : News h₀ L h (a :: b :: BC k kc ki sp ds dc id oS oR oW oP turn dl used a0 a1 c0 c1 t0 t5 t6 ta0 ta1 tc0 tc1 n1 n2 rest)) (hap : [ds, dc, id, k.se, k.re, k.ws, k.pa].Nodup) (hnl : ki.ol ≠ ki.om)
    (dS : oS.IsDictOf (PySem.intKind pw w) kS) (dR : oR.IsDictOf (PySem.intKind pw w) kR) (dW : oW.IsDictOf (PySem.intKind pw w) kW) (dP : oP.IsDictOf (PySem.strKind pw w) kP) (ha : a.1 ≠ k.se ∧ a.1 ≠ k.re ∧ a.1 ≠ k.ws ∧ a.1 ≠ ki.om) (hb : b.1 ≠ k.se ∧ b.1 ≠ k.re ∧ b.1 ≠ k.ws ∧ b.1 ≠ ki.om) (hrest : ∀ q ∈ rest, q.1 ≠ k.se ∧ q.1 ≠ k.re ∧ q.1 ≠ k.ws ∧ q.1 ≠ ki.om)
    (N' : News h₀ L h' ((lo, L0) :: (p, P0) :: (d, D0) :: (k.se, oS') :: (k.re, oR') :: (k.ws, oW') :: (ki.om, pairO c0' tc0' c1' tc1' n2') :: but (a :: b :: BC k kc ki sp ds dc id oS oR oW oP turn dl used a0 a1 c0 c1 t0 t5 t6 ta0 ta1 tc0 tc1 n1 n2 rest) [k.se, k.re, k.ws, ki.om])) :
    News h₀ L h' ((lo, L0) :: (p, P0) :: (d, D0) :: a :: b :: BC k kc ki sp ds dc id oS' oR' oW' oP turn dl used a0 a1 c0' c1' t0 t5 t6 ta0 ta1 tc0' tc1' n1 n2' rest) := by
  exact (BH (P := So HI) Ab Go.Rz ((((((h₀, h), h', L), (k, kc), ki), ((sp, ds), dc, id), (lo, p), d), (((oS, oR), oW, oP), (oS', oR'), oW'), ((L0, P0), D0), (turn, dl), used), ((((a0, a1), c0, c1), (c0', c1'), t0), ((t5, t6), ta0), (ta1, tc0), tc1), (((tc0', tc1'), n1, n2), (n2', a), b), ((rest, w), kS), (kR, kW), kP)) N0 hap hnl dS dR dW dP ha hb hrest N'
noncomputable def octs (i n : Nat) : Array UInt8 := byteArr ((rangeKs 0 n).map fun k => 40 * (i : Int) + k + 1)
theorem Ez (i n : Nat) : (octs i n).size = n := by
  unfold octs
  rw [byteArr_size, List.length_map, rangeKs_length]
structure MadePs (l u : Int) (zs : List Int) (ps : List (Int × Part)) : Prop where
  len : ps.length = zs.length
  part : ∀ (j : Nat) x, ps[j]? = some x → x.1 = 2 * (j : Int) ∧ x.2.lim = (if j = 1 then u else l) ∧ x.2.wr = octs j (zs.getD j 0).toNat ∧ x.2.snt = 0 ∧ x.2.st = Str.ofString "ready"
theorem MadePs.nil {l u : Int} : MadePs l u [] [] := ⟨rfl, fun j x h => by simp at h⟩
theorem MadePs.snoc {l u z : Int} {zs : List Int} {ps : List (Int × Part)} {x : Int × Part} {i : Nat} (h : MadePs l u (zs.take i) ps) (hi : zs[i]? = some z) (h1 : x.1 = 2 * (i : Int)) (h2 : x.2.lim = (if i = 1 then u else l)) (h3 : x.2.wr = octs i z.toNat) (h4 : x.2.snt = 0) (h5 : x.2.st = Str.ofString "ready") : MadePs l u (zs.take (i + 1)) (ps ++ [x]) := by
  have hlt : i < zs.length := (List.getElem?_eq_some_iff.mp hi).1
  have hl : ps.length = i := by rw [h.len, List.length_take]; lia
  refine ⟨by rw [List.length_append, hl, List.length_take]; simp; lia, fun j y hy => ?_⟩
  rcases Nat.lt_trichotomy j i with hj | rfl | hj
  · rw [List.getElem?_append_left (by lia)] at hy
    have := h.part j y hy
    have e1 : (zs.take i).getD j 0 = zs.getD j 0 := by
      rw [List.getD_eq_getElem?_getD, List.getD_eq_getElem?_getD, List.getElem?_take_of_lt hj]
    have e2 : (zs.take (i + 1)).getD j 0 = zs.getD j 0 := by
      rw [List.getD_eq_getElem?_getD, List.getD_eq_getElem?_getD, List.getElem?_take_of_lt (by lia)]
    rw [e1] at this
    rw [e2]; exact this
  · rw [List.getElem?_append_right (by lia), hl, Nat.sub_self] at hy
    simp only [List.getElem?_cons_zero, Option.some.injEq] at hy
    subst hy
    have e2 : (zs.take (j + 1)).getD j 0 = z := by
      rw [List.getD_eq_getElem?_getD, List.getElem?_take_of_lt (by lia), hi]; rfl
    rw [e2]
    exact ⟨h1, h2, h3, h4, h5⟩
  · rw [List.getElem?_eq_none (by rw [List.length_append, hl]; simp; lia)] at hy
    cases hy
theorem MadePs.keys {l u : Int} {zs : List Int} {ps : List (Int × Part)} (h : MadePs l u zs ps) : (ps.map (·.1)).Nodup := by
  refine List.pairwise_iff_getElem.mpr fun i j hi hj hij e => ?_
  rw [List.length_map] at hi hj
  rw [List.getElem_map, List.getElem_map] at e
  have := (h.part i _ (List.getElem?_eq_getElem hi)).1
  have := (h.part j _ (List.getElem?_eq_getElem hj)).1
  omega
theorem Rt {h₀ h : Heap} {L : Addr} {m m' : Str → Option Value} {a b : Str} {x y : Option Value} (F : Fr h₀ L h (fun z => if z = b then y else if z = a then x else m' z)) (hm : ∀ z, z ∉ [a, b] → m' z = m z) : Fr h₀ L h (fun z => if z = b then y else if z = a then x else m z) := by
  have e : (fun z => if z = b then y else if z = a then x else m' z) = (fun z => if z = b then y else if z = a then x else m z) := by
    funext z
    by_cases h1 : z = b
    · rw [if_pos h1, if_pos h1]
    · by_cases h2 : z = a
      · rw [if_neg h1, if_neg h1, if_pos h2, if_pos h2]
      · rw [if_neg h1, if_neg h1, if_neg h2, if_neg h2]
        exact hm z (by simp only [List.mem_cons, List.not_mem_nil, or_false, not_or]; exact ⟨h2, h1⟩)
  rw [e] at F
  exact F
theorem LC {kvs : List (Int × Value)} {k : Int} {v : Value} (h : k ∉ kvs.map (·.1)) : stored kvs k v = kvs ++ [(k, v)] := by
  have hany : kvs.any (fun kv => decide (kv.1 = k)) = false := by
    rw [List.any_eq_false]
    intro y hy e
    exact h (List.mem_map.mpr ⟨y, hy, of_decide_eq_true e⟩)
  unfold stored
  rw [if_neg (by rw [hany]; exact Bool.false_ne_true)]
theorem Py (ps : List (Int × Part)) (x : Int × Part) : Cj (ps ++ [x]) = Cj ps ++ [(x.1, .ref x.2.p)] := by simp [Cj]
theorem Lf (ps : List (Int × Part)) (x : Int × Part) : Bv (ps ++ [x]) = Bv ps ++ x.2.objs := by simp [Bv]
theorem MadePs.notin {l u : Int} {zs : List Int} {ps : List (Int × Part)} {i : Nat} (h : MadePs l u (zs.take i) ps) (hi : i ≤ zs.length) : 2 * (i : Int) ∉ ps.map (·.1) := by
  intro hm
  obtain ⟨x, hx, e⟩ := List.mem_map.mp hm
  obtain ⟨j, hj, ej⟩ := List.mem_iff_getElem.mp hx
  have := (h.part j x (by rw [List.getElem?_eq_getElem hj, ej])).1
  have hl : ps.length = i := by rw [h.len, List.length_take]; lia
  lia
theorem QP {h₀ h : Heap} {L : Addr} {m m' : Str → Option Value} {a b : Str} (F : Fr h₀ L h m') (hm : ∀ z, z ∉ [a, b] → m' z = m z) : Fr h₀ L h (fun z => if z = b then m' b else if z = a then m' a else m z) := by
  have e : m' = (fun z => if z = b then m' b else if z = a then m' a else m z) := by
    funext z
    by_cases h1 : z = b
    · rw [if_pos h1, h1]
    · by_cases h2 : z = a
      · rw [if_neg h1, if_pos h2, h2]
      · rw [if_neg h1, if_neg h2]
        exact hm z (by simp only [List.mem_cons, List.not_mem_nil, or_false, not_or]; exact ⟨h2, h1⟩)
  rw [e] at F
  exact F
end
section
open Sem (wp)
section
variable {prog : Program} {w : World} {A : Around} {E : Value → Shared → Prop} {R : Result → Shared → Prop} {s : Shared}
theorem LD {target it body env} (I : Nat → Shared → Prop)
    (turn : ∀ n s, I n s → wpAny (model prog w) A (pyNext it) (fun r s₁ => match r with
      | none => R (.ok .next) s₁
      | some v => wpAny (model prog w) A (letOwnedTupleGo target it v) (fun _ s₁' => wpAny (model prog w) A (assign target env v) (fun _ s₂ => wpI (model prog w) A (execs body env) (fun f s₃ => match f with
          | .next | .cont => ∃ m, m < n ∧ I m s₃
          | .brk => R (.ok .next) s₃
          | .ret v => R (.ok (.ret v)) s₃) (notedBy (model prog w) A env fun e s' => R (.error e) s') s₂) (notedBy (model prog w) A env fun e s' => R (.error e) s') s₁') (notedBy (model prog w) A env fun e s' => R (.error e) s') s₁) (notedBy (model prog w) A env fun e s' => R (.error e) s') s)
    (n : Nat) (h : I n s) : BY (model prog w) A (.forLoop target it body [] env) R s := by
  refine GC rfl I (fun n s hI => ?_) n h
  show wpI _ _ ((forTurn target it body [] env).onRaise (fun x => do noteFrame x env; theTreesLotGoes x)) _ _ s
  refine Ir ?_
  simp only [forTurn]
  refine Al (BB (Al (Eb (Dr (Ae (turn n s hI)) (fun r s₁ h₁ => ?_) fun _ _ h' => wpAny_standAt h'))))
  cases r with
  | none => exact AD (.inr ⟨rfl, Jn (codeAny_block (wpAny_execs_nil h₁))⟩)
  | some v =>
    refine Al (Ae (wpAny_mono h₁ (fun _ s₁' h₁' => ?_) fun _ _ h' => h'))
    refine Al (Ae (wpAny_mono h₁' (fun _ s₂ h₂ => Al (AR h₂ fun f s₃ h₃ => ?_)) fun _ _ h' => h'))
    cases f with
    | next => exact AD (.inl ⟨rfl, h₃⟩)
    | cont => exact AD (.inl ⟨rfl, h₃⟩)
    | brk => exact AD h₃
    | ret v => exact AD h₃
variable {h₀ : Heap} {L : Addr} {m : Str → Option Value}
noncomputable def FO (s : Shared) (h₀ : Heap) (L : Addr) (m : Str → Option Value) (names : List Str) (e it : Addr) (oe oi : Obj) (K : List (Addr × Obj) → Prop) (s₃ : Shared) : Prop :=
  ∃ h' tk' m'' led'', s₃ = { s with heap := h', toks := tk' } ∧ Fr h₀ L h' m'' ∧ (∀ z, z ∉ names → m'' z = m z) ∧ News h₀ L h' ((e, oe) :: (it, oi) :: led'') ∧ K led'' ∧ ∀ q ∈ led'', q.1 ≠ e ∧ q.1 ≠ it
theorem FO.intro {m'' : Str → Option Value} {names : List Str} {e it : Addr} {oe oi : Obj} {K : List (Addr × Obj) → Prop} {h' : Heap} {tk' : Nat} {led'' : List (Addr × Obj)} (F : Fr h₀ L h' m'') (hm : ∀ z, z ∉ names → m'' z = m z) (N : News h₀ L h' ((e, oe) :: (it, oi) :: led'')) (k : K led'') (ap : ∀ q ∈ led'', q.1 ≠ e ∧ q.1 ≠ it) :
    FO s h₀ L m names e it oe oi K { s with heap := h', toks := tk' } := ⟨h', tk', m'', led'', rfl, F, hm, N, k, ap⟩
noncomputable def UY (it : Addr) (i : Nat) (o : Obj) : Prop := ∃ old, o = { cls := .type "enumerate", dict := none, data := .fields #[.none, .bool false, .ref it, rawInt ((i : Nat) : Int), .none, old], slots := #[] }
end
noncomputable def GI : Program → World → Around → (Value → Shared → Prop) → (Result → Shared → Prop) → Shared → Heap → (Str → Option Value) → Str → Str → Pos → Pos → Pos → Nat → (List Stmt) → Env → Addr → (Array Value) → Nat → (List (Addr × Obj)) → (List Str) → (Nat → List (Addr × Obj) → Prop) → Prop := fun prog w A E R s h₀ m xi xv pi pv pt x1 body env l its c led names K =>
  (A.handled = none) → ((l, PySem.W.listOf its c) ∈ led) → (env.kindOf xi = some .local) → (env.kindOf xv = some .local) → ((env.scope.kind == .class || (env.scope.kind == .module && env.locals != env.globals)) = false) → (xi ∈ names) → (xv ∈ names) → (∀ i led', K i led' → (l, PySem.W.listOf its c) ∈ led') → (Fr h₀ env.locals s.heap m) → (News h₀ env.locals s.heap led) → (K 0 led) → (∀ e it oe oi i v (t : Tok) h tk (m' : Str → Option Value) led', its[i]? = some v → K i led' → (∀ q ∈ led', q.1 ≠ e ∧ q.1 ≠ it) → (∀ z, z ∉ names → m' z = m z) → Fr h₀ env.locals h (fun z => if z = xv then some v else if z = xi then some (.int ((i : Nat) : Int) t) else m' z) → News h₀ env.locals h ((e, oe) :: (it, oi) :: led') →
      wpI (model prog w) A (execs body env) (fun f s₃ => match f with
          | .next | .cont => FO s h₀ env.locals m names e it oe oi (K (i + 1)) s₃
          | .brk => R (.ok .next) s₃
          | .ret v => R (.ok (.ret v)) s₃) (notedBy (model prog w) A env fun e s' => R (.error e) s') { s with heap := h, toks := tk }) → (∀ h tk m' led', K its.size led' → Fr h₀ env.locals h m' → (∀ z, z ∉ names → m' z = m z) → News h₀ env.locals h led' → R (.ok .next) { s with heap := h, toks := tk }) →
  wpAny (model prog w) A (call (.type "enumerate") [.ref l]) (fun x s₁ => wpAny (model prog w) A (pyIter x) (fun it s₂ => BY (model prog w) A (.forLoop (.Tuple [.Name xi pi, .Name xv pv] x1 pt) it body [] env) R s₂) E s₁) E s
@[irreducible] def Aq := eps 4010200 (by walk_at "nonempty") (Lp GI)
namespace CY
def h₀ := Aq.1.2.1.1.1
def env := Aq.2.1.2.1.2
def its := Aq.2.2.1.1.1
noncomputable def IE : Stg (F := Heap → Nat → Prop) CM (GI Aq.1.1.1.1.1 Aq.1.1.1.1.2 Aq.1.1.1.2 Aq.1.1.2.1.1 Aq.1.1.2.1.2 Aq.1.1.2.2 h₀ Aq.1.2.1.1.2 Aq.1.2.1.2 Aq.1.2.2.1 Aq.1.2.2.2 Aq.2.1.1.1.1 Aq.2.1.1.1.2 Aq.2.1.1.2 Aq.2.1.2.1.1 env Aq.2.1.2.2 its Aq.2.2.1.1.2 Aq.2.2.1.2 Aq.2.2.2.1 Aq.2.2.2.2) := mk2 _ fun K1 => by
  intro hh hl hxi hxv hp ni nv hK F N h0 hstep hdone
  refine call_enumerate_1 (N _ hl).1 fun h₁ he hit hz hk => ?_
  refine wpAny_pyIter_enum he ?_
  have hlt : ∀ q ∈ Aq.2.2.1.2, q.1 < Aq.1.1.2.2.heap.objs.size := fun q hq => Heap.lt_size (N q hq).1
  generalize hE : Aq.1.1.2.2.heap.objs.size = I at he hit hz hlt
  have F1 := Cw F hk
  have N1 := Cf N hk
  have fresh : ∀ b, I ≤ b → ∀ o, h₀.get? b = some o → False := fun b hb o e => by
    have := Heap.lt_size (F.keep _ _ e)
    rw [hE] at this
    exact absurd this (Nat.not_lt.mpr hb)
  have hLI : env.locals < I := by have := F.ns.lt; rw [hE] at this; exact this
  clear hl ni nv N hk hE hz
  walk_at "rv"
  intro K1
  exact K1.p h₁ I
@[irreducible] def FY := eps 4010201 (by walk_at "nonempty") (CM IE.1)
namespace kut1
def I := FY.2
noncomputable def IG : Stg (F := Heap → Nat → (Str → Option Value) → (List (Addr × Obj)) → Value → Prop) Cz (IE.1 FY.1 I) := mk5 _ fun K2 => by
  intro hh hxi hxv hp hK F h0 hstep hdone he hit hlt F1 N1 fresh hLI
  refine LD (fun k s' => ∃ h' tk m' led' i, s' = { Aq.1.1.2.2 with heap := h', toks := tk } ∧ i ≤ its.size ∧ k = its.size + 1 - i ∧ Aq.2.2.2.2 i led' ∧ Fr h₀ env.locals h' m' ∧ (∀ z, z ∉ Aq.2.2.2.1 → m' z = Aq.1.2.1.1.2 z) ∧ News h₀ env.locals h' led' ∧ (∃ old, IsEnum h' (I + 1) I ((i : Nat) : Int) old) ∧ h'.IsListIter I Aq.2.1.2.2 i ∧ (∀ q ∈ led', q.1 ≠ I + 1 ∧ q.1 ≠ I)) ?_ (its.size + 1)
    ⟨FY.1, Aq.1.1.2.2.toks, Aq.1.2.1.1.2, Aq.2.2.1.2, 0, rfl, Nat.zero_le _, rfl, h0, F1, fun _ _ => rfl, N1, ⟨_, he⟩, hit, fun q hq => ⟨Nat.ne_of_lt (Nat.lt_succ_of_lt (hlt q hq)), Nat.ne_of_lt (hlt q hq)⟩⟩
  rintro k s' ⟨H, tk, m', led', i, rfl, hi, rfl, hKi, F', hm, N', ⟨old, he'⟩, hit', hap⟩
  clear h0 he hit hlt F1 N1
  walk_at "rv"
  intro K2
  revert i
  exact K2.p H tk m' led' old
@[irreducible] def Bb := eps 4010202 (by walk_at "nonempty") (Cz IG.1)
namespace kut2
def tk := Bb.1.1.2
noncomputable def Ix : Stg (F := Nat → Value → Heap → Heap → Heap → Obj → Prop) CR (IG.1 Bb.1.1.1 tk Bb.1.2 Bb.2.1 Bb.2.2) := mk6 _ fun K3 => by
  intro i hh hxi hxv hp hK F hstep hdone fresh hLI hi hKi F' hm N' he' hit' hap
  have hl' : Bb.1.1.1.IsList Aq.2.1.2.2 its := ⟨_, (N' _ (hK _ _ hKi)).1, rfl, Aq.2.2.1.1.2, rfl⟩
  have nLe : env.locals ≠ I + 1 := Nat.ne_of_lt (Nat.lt_succ_of_lt hLI)
  have nLi : env.locals ≠ I := Nat.ne_of_lt hLI
  have nei : (I + 1 : Nat) ≠ I := Nat.succ_ne_self _
  have keepF : ∀ {h h' : Heap} {mm : Str → Option Value}, Fr h₀ env.locals h mm → (∀ b o, b ≠ I + 1 → b ≠ I → h.get? b = some o → h'.get? b = some o) → Fr h₀ env.locals h' mm := fun {h h' mm} F kk => by
    obtain ⟨oL, e1, e2, hL, e3⟩ := F.ns
    exact ⟨⟨oL, e1, e2, kk _ _ nLe nLi hL, e3⟩, fun b o e => kk b o (fun x => fresh b (by rw [x]; exact Nat.le_succ _) o e) (fun x => fresh b (by rw [x]; exact Nat.le_refl _) o e) (F.keep b o e), F.above⟩
  cases hv : its[i]? with
  | none =>
    have hsz : i = its.size := Nat.le_antisymm hi (by simpa using hv)
    subst hsz
    refine wpAny_pyNext_enum_end hh he' hit' hl' hv fun h₂ he₂ => ?_
    exact hdone h₂ tk Bb.1.2 Bb.2.1 hKi (keepF F' fun b o _ hb e => he₂ b o hb e) hm fun q hq => ⟨he₂ _ _ (hap q hq).2 (N' q hq).1, (N' q hq).2⟩
  | some v =>
    have hlt' : i < its.size := (Array.getElem?_eq_some_iff.mp hv).1
    refine wpAny_pyNext_enum_item he' hit' hl' hv nei fun h₂ heo hit₂ ht₂ hz₂ hk₂ => ?_
    have heH : I + 1 < Bb.1.1.1.objs.size := Heap.lt_size he'
    refine wpAny_letOwnedTupleGo_enum heo fun h₃ he₃ hs₃ => ?_
    replace hs₃ : Heap.SameBut (I + 1) h₂ h₃ := hs₃
    have ht₃ : h₃.IsTuple Bb.1.1.1.objs.size #[.int i tk, v] := ⟨_, (hs₃.2 _ (Nat.ne_of_gt heH)).trans ht₂, rfl, _, rfl⟩
    have hz₃ : h₃.objs.size = Bb.1.1.1.objs.size + 1 := hs₃.1.trans hz₂
    refine wpAny_assign_Tuple hh ht₃ rfl rfl fun h₄ hx₄ => ?_
    replace hx₄ : Heap.ExtBut h₃.objs.size h₃ h₄ := hx₄
    have up : ∀ b o, b ≠ I + 1 → b ≠ I → Bb.1.1.1.get? b = some o → h₄.get? b = some o := fun b o hbe hbi e => by
      have hb : b < Bb.1.1.1.objs.size := Heap.lt_size e
      exact hx₄ b o (by rw [hz₃]; exact Nat.ne_of_lt (Nat.lt_succ_of_lt hb)) ((hs₃.2 b hbe).trans (hk₂ b o hbe hbi e))
    have F4 := keepF F' up
    have N4 : News h₀ env.locals h₄ Bb.2.1 := fun q hq => ⟨up _ _ (hap q hq).1 (hap q hq).2 (N' q hq).1, (N' q hq).2⟩
    have heI : h₄.get? (I + 1) = some { cls := .type "enumerate", dict := none, data := .fields #[.none, .bool false, .ref I, rawInt ((i : Int) + 1), .none, v], slots := #[] } := hx₄ _ _ (by rw [hz₃]; exact Nat.ne_of_lt (Nat.lt_succ_of_lt heH)) he₃
    obtain ⟨oi, hoi, hoi1, hoi2⟩ := hit₂
    clear hh hK F hdone hLI hi F' N' he' hit' hl' keepF heo ht₂ hz₂ hk₂ he₃ ht₃ up
    walk_at "rv"
    intro K3
    exact K3.p i v h₂ h₃ h₄ oi
@[irreducible] def Bi := eps 4010203 (by walk_at "nonempty") (CR Ix.1)
namespace kut3
def i := Bi.1.1.1
theorem Rl : Ix.1 i Bi.1.1.2 Bi.1.2 Bi.2.1.1 Bi.2.1.2 Bi.2.2 := by
  intro hxi hxv hp hstep fresh hKi hm hap nLe nLi nei hv hlt' heH hs₃ hz₃ hx₄ F4 N4 heI hoi hoi1 hoi2
  have hiH : I < Bb.1.1.1.objs.size := Nat.lt_of_succ_lt heH
  have hiI : Bi.2.1.2.get? I = some Bi.2.2 := hx₄ _ _ (by rw [hz₃]; exact Nat.ne_of_lt (Nat.lt_succ_of_lt hiH)) ((hs₃.2 _ nei.symm).trans hoi)
  have N5 : News h₀ env.locals Bi.2.1.2 ((I + 1, _) :: (I, Bi.2.2) :: Bb.2.1) := fun q hq => by
    rcases List.mem_cons.mp hq with rfl | hq
    · refine ⟨heI, nLe.symm, ?_⟩
      cases z : h₀.get? (I + 1) with
      | none => rfl
      | some o => exact (fresh _ (Nat.le_succ _) _ z).elim
    · rcases List.mem_cons.mp hq with rfl | hq
      · refine ⟨hiI, nLi.symm, ?_⟩
        cases z : h₀.get? I with
        | none => rfl
        | some o => exact (fresh _ (Nat.le_refl _) _ z).elim
      · exact N4 q hq
  show wpAny _ Aq.1.1.1.2 (do holding [Bi.1.1.2] (assign (.Name Aq.1.2.1.2 Aq.1.2.2.2) env (.int i tk)); do holding [] (assign (.Name Aq.1.2.2.1 Aq.2.1.1.1.1) env Bi.1.1.2); pure ()) _ _ _
  refine wpAny_bind (wpAny_holding (wpAny_assign_Name (wpAny_storeName_local hxi F4.ns (fun h₅ hn₅ hs₅ => ?_) hp)))
  have F5 := F4.set hn₅ hs₅
  have N6 := N5.set hs₅
  refine wpAny_bind (wpAny_holding (wpAny_assign_Name (wpAny_storeName_local hxv F5.ns (fun h₆ hn₆ hs₆ => wpAny_pure ?_) hp)))
  have F6 := F5.set hn₆ hs₆
  have N7 := N6.set hs₆
  refine AR (hstep (I + 1) I _ Bi.2.2 i Bi.1.1.2 tk h₆ _ Bb.1.2 Bb.2.1 hv hKi hap hm F6 N7) fun f s₃ h₃' => ?_
  have fin : FO Aq.1.1.2.2 h₀ env.locals Aq.1.2.1.1.2 Aq.2.2.2.1 (I + 1) I _ Bi.2.2 (Aq.2.2.2.2 (i + 1)) s₃ → ∃ m_1, m_1 < its.size + 1 - i ∧ ∃ h' tk m' led' i, s₃ = { Aq.1.1.2.2 with heap := h', toks := tk } ∧ i ≤ its.size ∧ m_1 = its.size + 1 - i ∧ Aq.2.2.2.2 i led' ∧ Fr h₀ env.locals h' m' ∧ (∀ z, z ∉ Aq.2.2.2.1 → m' z = Aq.1.2.1.1.2 z) ∧ News h₀ env.locals h' led' ∧ (∃ old, IsEnum h' (I + 1) I ((i : Nat) : Int) old) ∧ h'.IsListIter I Aq.2.1.2.2 i ∧ (∀ q ∈ led', q.1 ≠ I + 1 ∧ q.1 ≠ I) := fun ⟨h7, tk7, m7, led7, e7, F7, n7, N7', k7, a7⟩ =>
    ⟨its.size + 1 - (i + 1), by omega, h7, tk7, m7, led7, i + 1, e7, hlt', rfl, k7, F7, n7, fun q hq => N7' q (.tail _ (.tail _ hq)), ⟨Bi.1.1.2, (N7' _ (.head _)).1⟩, ⟨Bi.2.2, (N7' _ (.tail _ (.head _))).1, hoi1, hoi2⟩, a7⟩
  cases f with
  | next => exact fin h₃'
  | cont => exact fin h₃'
  | brk => exact h₃'
  | ret v => exact h₃'
end kut3
end kut2
end kut1
end CY
section
variable {prog : Program} {w : World} {A : Around} {E : Value → Shared → Prop} {R : Result → Shared → Prop} {s : Shared}
variable {h₀ : Heap} {L : Addr} {m : Str → Option Value}
theorem CY {xi xv : Str} {pi pv pt : Pos} {x1 : Nat} {body : List Stmt} {env : Env} {l : Addr} {its : Array Value} {c : Nat} {led : List (Addr × Obj)} (hh : A.handled = none) (hl : (l, PySem.W.listOf its c) ∈ led) (hxi : env.kindOf xi = some .local) (hxv : env.kindOf xv = some .local) (hp : (env.scope.kind == .class || (env.scope.kind == .module && env.locals != env.globals)) = false)
    (names : List Str) (ni : xi ∈ names) (nv : xv ∈ names) (K : Nat → List (Addr × Obj) → Prop) (hK : ∀ i led', K i led' → (l, PySem.W.listOf its c) ∈ led') (F : Fr h₀ env.locals s.heap m) (N : News h₀ env.locals s.heap led) (h0 : K 0 led)
    (hstep : ∀ e it oe oi i v (t : Tok) h tk (m' : Str → Option Value) led', its[i]? = some v → K i led' → (∀ q ∈ led', q.1 ≠ e ∧ q.1 ≠ it) → (∀ z, z ∉ names → m' z = m z) → Fr h₀ env.locals h (fun z => if z = xv then some v else if z = xi then some (.int ((i : Nat) : Int) t) else m' z) → News h₀ env.locals h ((e, oe) :: (it, oi) :: led') →
      wpI (model prog w) A (execs body env) (fun f s₃ => match f with
          | .next | .cont => FO s h₀ env.locals m names e it oe oi (K (i + 1)) s₃
          | .brk => R (.ok .next) s₃
          | .ret v => R (.ok (.ret v)) s₃) (notedBy (model prog w) A env fun e s' => R (.error e) s') { s with heap := h, toks := tk })
    (hdone : ∀ h tk m' led', K its.size led' → Fr h₀ env.locals h m' → (∀ z, z ∉ names → m' z = m z) → News h₀ env.locals h led' → R (.ok .next) { s with heap := h, toks := tk }) :
    wpAny (model prog w) A (call (.type "enumerate") [.ref l]) (fun x s₁ => wpAny (model prog w) A (pyIter x) (fun it s₂ => BY (model prog w) A (.forLoop (.Tuple [.Name xi pi, .Name xv pv] x1 pt) it body [] env) R s₂) E s₁) E s := by
  exact (BH (P := Lp GI) Aq (AQ CY.IE CY.FY (AQ CY.kut1.IG CY.kut1.Bb (AQ CY.kut1.kut2.Ix CY.kut1.kut2.Bi CY.kut1.kut2.kut3.Rl))) (((((prog, w), A), (E, R), s), ((h₀, m), xi), xv, pi), (((pv, pt), x1), (body, env), l), ((its, c), led), names, K)) hh hl hxi hxv hp ni nv hK F N h0 hstep hdone
theorem Mr {xi xv : Str} {pi pv pt : Pos} {x1 : Nat} {body : List Stmt} {env : Env} {l : Addr} {its : Array Value} {c : Nat} {led : List (Addr × Obj)} (hh : A.handled = none) (hl : (l, PySem.W.listOf its c) ∈ led) (hL : env.locals = L) (hxi : env.kindOf xi = some .local) (hxv : env.kindOf xv = some .local) (hp : (env.scope.kind == .class || (env.scope.kind == .module && env.locals != env.globals)) = false)
    (names : List Str) (ni : xi ∈ names) (nv : xv ∈ names) (K : Nat → List (Addr × Obj) → Prop) (hK : ∀ i led', K i led' → (l, PySem.W.listOf its c) ∈ led') (F : Fr h₀ L s.heap m) (N : News h₀ L s.heap led) (h0 : K 0 led)
    (hstep : ∀ e it oe oi i v (t : Tok) h tk (m' : Str → Option Value) led', its[i]? = some v → K i led' → (∀ q ∈ led', q.1 ≠ e ∧ q.1 ≠ it) → (∀ z, z ∉ names → m' z = m z) → Fr h₀ L h (fun z => if z = xv then some v else if z = xi then some (.int ((i : Nat) : Int) t) else m' z) → News h₀ L h ((e, oe) :: (it, oi) :: led') →
      wpI (model prog w) A (execs body env) (fun f s₃ => match f with
          | .next | .cont => FO s h₀ L m names e it oe oi (K (i + 1)) s₃
          | .brk => R (.ok .next) s₃
          | .ret v => R (.ok (.ret v)) s₃) (notedBy (model prog w) A env fun e s' => R (.error e) s') { s with heap := h, toks := tk })
    (hdone : ∀ h tk m' led', K its.size led' → Fr h₀ L h m' → (∀ z, z ∉ names → m' z = m z) → News h₀ L h led' → R (.ok .next) { s with heap := h, toks := tk }) :
    wpAny (model prog w) A (call (.type "enumerate") [.ref l]) (fun x s₁ => wpAny (model prog w) A (pyIter x) (fun it s₂ => BY (model prog w) A (.forLoop (.Tuple [.Name xi pi, .Name xv pv] x1 pt) it body [] env) R s₂) E s₁) E s := by
  subst hL
  exact CY hh hl hxi hxv hp names ni nv K hK F N h0 hstep hdone
end
end
section
open Mine renaming Es → hlt4, Es → hlt8
set_option rowWalk.seconds 0
theorem TG : True := by
  k_with "call type:enumerate" => (k_here; refine hlt8 ?_)
  trivial
noncomputable def HQ : T24 (Addr → Addr → Int → Int → Int → Tok → Tok → Tok → Nat → Nat → Nat → (List Value) → (List Int) → Prop) := fun w pgm loose mean mg mb dp un gdg cn cs a ccd cl outer A₀ base h₀ L m s Q E led fa sa d l u td tl tu nf ns n svs zs =>
  (Below A₀ base outer h₀) → (Fr h₀ L s.heap m) → ((KK w.params).In h₀) → (Top pgm loose mean mg mb h₀) → (cs.kind = .function) → (News h₀ L s.heap led) → ((fa, PySem.W.listOf #[.int d td, .int l tl, .int u tu] nf) ∈ led) → ((sa, PySem.W.listOf svs.toArray ns) ∈ led) → (IntsAre svs zs) → (zs.length ≤ 3) → (∀ z ∈ zs, 1 ≤ z ∧ z ≤ 6) → (dp + 12 < recursionLimit) → (un + 100 < cLine) → (∀ (sp ds dc id : Addr) (k : SD) (kc : CS) (ki : IK) (oS oR oW oP : Obj) (kR kW : List (Int × Value)) (kP : List (Str × Value)) (t0 t5 t6 ta0 ta1 tc0 tc1 : Tok) (n1 n2 : Nat) (ps : List (Int × Part)) (h' : Heap) (tk' : Nat), k.pe = .ref k.pa → [ds, dc, id, k.se, k.re, k.ws, k.pa].Nodup → ki.ol ≠ ki.om → (k.se == sysModules) = false →
      oS.IsDictOf (PySem.intKind pw w) (Cj ps) → oR.IsDictOf (PySem.intKind pw w) kR → oW.IsDictOf (PySem.intKind pw w) kW → kR.length ≤ 3 → kW.length ≤ 3 → oP.IsDictOf (PySem.strKind pw w) kP →
      (∃ v t, valueAt kP (Str.ofString "initial_max_stream_data_uni") = some (.int v t)) → (∃ v t, valueAt kP (Str.ofString "initial_max_stream_data_bidi_local") = some (.int v t)) → (∃ v t, valueAt kP (Str.ofString "initial_max_stream_data_bidi_remote") = some (.int v t)) →
      MadePs l u zs ps → (∀ x ∈ ps, x.2.d ∉ [ds, dc, id, k.se, k.re, k.ws, k.pa]) → (ps.map (·.2.d)).Nodup → (∀ x ∈ ps, x.2.lo ≠ ki.om) → Fr h₀ L h' m →
      (∀ y ∈ BC k kc ki sp ds dc id oS oR oW oP 0 (max 0 d) 0 (max 0 2) (max 0 1) (((zs.length + 1) / 2 : Nat) : Int) ((zs.length / 2 : Nat) : Int) t0 t5 t6 ta0 ta1 tc0 tc1 n1 n2 (Bv ps), ∀ q ∈ led, q.1 ≠ y.1) →
      News h₀ L h' (BC k kc ki sp ds dc id oS oR oW oP 0 (max 0 d) 0 (max 0 2) (max 0 1) (((zs.length + 1) / 2 : Nat) : Int) ((zs.length / 2 : Nat) : Int) t0 t5 t6 ta0 ta1 tc0 tc1 n1 n2 (Bv ps) ++ led) → Q (.ref sp) { s with heap := h', toks := tk' }) →
  wpI (model pw w) (ktrTop dp un gdg cn cs L a ccd cl outer) (PySem.call (.ref 814) [.ref fa, .ref sa]) Q E s
@[irreducible] def Bl := eps 7485800 (by walk_at "nonempty") (ccx CT HQ)
namespace MT
def fa := Bl.2.1.1.1.1
def sa := Bl.2.1.1.1.2
def d := Bl.2.1.1.2.1
def l := Bl.2.1.1.2.2
def u := Bl.2.1.2.1.1
def td := Bl.2.1.2.1.2
def tl := Bl.2.1.2.2
def tu := Bl.2.2.1.1.1
def nf := Bl.2.2.1.1.2
def ns := Bl.2.2.1.2
def svs := Bl.2.2.2.1.2
def zs := Bl.2.2.2.2
noncomputable def Iq : (R1 : Heap → Addr → Nat → Tok → Heap → Obj → (List (Str × Value)) → Tok → Tok → Tok → Tok → Tok → Tok → Addr → Addr → Addr → Addr → SD → CS → IK → Obj → Obj → Obj → Tok → Tok → Tok → Tok → Tok → Tok → Tok → Nat → Nat → Heap → Nat → Prop) ×' (Kp (∀ x0 x1 x2 x3 x4 x5 x6 x7 x8 x9 x10 x11 x12 x13 x14 x15 x16 x17 x18 x19 x20 x21 x22 x23 x24 x25 x26 x27 x28 x29 x30 x31 x32 x33, R1 x0 x1 x2 x3 x4 x5 x6 x7 x8 x9 x10 x11 x12 x13 x14 x15 x16 x17 x18 x19 x20 x21 x22 x23 x24 x25 x26 x27 x28 x29 x30 x31 x32 x33) → (vcx HQ Bl.1 fa sa d l u td tl tu nf ns Bl.2.2.2.1.1 svs zs)) := ⟨_, fun K1 => by
  intro B F X T hk N m1 m2 hz hn hzr hd hu hret
  have NR : News Bl.1.h₀ Bl.1.L Bl.1.s.heap [(fa, PySem.W.listOf #[.int d td, .int l tl, .int u tu] nf), (sa, PySem.W.listOf svs.toArray ns)] := fun q hq => N q (by
    simp only [List.mem_cons, List.not_mem_nil, or_false] at hq; rcases hq with rfl | rfl <;> assumption)
  have N0 : Hid (News Bl.1.h₀ Bl.1.L Bl.1.s.heap Bl.1.led) := N
  clear N
  walk_at "I open"
  generalize Bl.1.s.toks + List.length _ = tk0
  walk_at "I any"
  walk_at "I any"
  walk_at "I any"
  rename_i g' L' h8 FG B' X' T' hg hl hgb pa h7 o4 lo4 hd4 l1b t2 h6 o3 hd3 hf3 h5 t1 D h4 l1a h3 h2 o2 hd2 hf2 h1 o1 hd1 hf1 tt hh oP FA NA hP hfP
  obtain ⟨kP, hkP, ⟨t3, e1⟩, ⟨t4, e2⟩, ⟨t5, e3⟩, ⟨t6, e4⟩, ⟨t7, e5⟩, ⟨t8, e6⟩⟩ : ∃ kP, oP.IsDictOf (PySem.strKind pw Bl.1.w) kP ∧ (∃ t, valueAt kP (Str.ofString "initial_max_streams_bidi") = some (.int 2 t)) ∧ (∃ t, valueAt kP (Str.ofString "initial_max_streams_uni") = some (.int 1 t)) ∧ (∃ t, valueAt kP (Str.ofString "initial_max_data") = some (.int d t)) ∧ (∃ t, valueAt kP (Str.ofString "initial_max_stream_data_uni") = some (.int u t)) ∧ (∃ t, valueAt kP (Str.ofString "initial_max_stream_data_bidi_local") = some (.int 9 t)) ∧ (∃ t, valueAt kP (Str.ofString "initial_max_stream_data_bidi_remote") = some (.int l t)) := ⟨_, hP, ⟨_, rfl⟩, ⟨_, rfl⟩, ⟨_, rfl⟩, ⟨_, rfl⟩, ⟨_, rfl⟩, ⟨_, rfl⟩⟩
  have N1 : News g' L' hh [(pa, oP), (fa, PySem.W.listOf #[.int d td, .int l tl, .int u tu] nf), (sa, PySem.W.listOf svs.toArray ns)] := (by repeat (first | exact News.nil | refine Bh NA (by k_mem) ?_))
  clear NA hP hfP hf1 hd1 hf2 hd2 hf3 hd3 hd4
  refine Ai (Ae ?_)
  k_steps
  delta Cg
  refine PV (by k_asm) (by k_asm) (by k_asm) (by k_asm) rfl (by k_asm) (show (pa, oP) ∈ _ by k_mem) hkP e1 e2 e3 (by walk_at "rm") (by walk_at "rm") ?_
  intro sp ds dc id k kc ki oS oR oW u1 u2 u3 u4 u5 u6 u7 n1 n2 h' tk' hpa hpe F' hap hnl hsys dS dR dW hfr N'
  subst hpa
  clear B F hk m1 m2 FG hg hl lo4 l1b l1a FA
  walk_at "rv"
  intro K1
  exact K1.p g' L' tk0 t2 hh oP kP t3 t4 t5 t6 t7 t8 sp ds dc id k kc ki oS oR oW u1 u2 u3 u4 u5 u6 u7 n1 n2 h' tk'⟩
@[irreducible] def Ax := eps 7485801 (by walk_at "nonempty") (PG Iq.1)
namespace kut1
def tk0 := Ax.1.1.1.1.2
def oP := Ax.1.1.2.1.1
def sp := Ax.1.2.2.1.1
def ds := Ax.1.2.2.1.2
def dc := Ax.1.2.2.2.1
def id := Ax.1.2.2.2.2
def k := Ax.2.1.1.1.1.1
def kc := Ax.2.1.1.1.1.2
def ki := Ax.2.1.1.1.2
def u1 := Ax.2.1.2.1.2
def u3 := Ax.2.1.2.2.2
def h' := Ax.2.2.2.2.1
def tk' := Ax.2.2.2.2.2
noncomputable def JS : Stg (F := Heap → Tok → Tok → Tok → Nat → Heap → Nat → SD → Prop) Da (Iq.1 Ax.1.1.1.1.1.1 Ax.1.1.1.1.1.2 tk0 Ax.1.1.1.2.1 Ax.1.1.1.2.2 oP Ax.1.1.2.1.2 Ax.1.1.2.2.1 Ax.1.1.2.2.2 Ax.1.2.1.1.1 Ax.1.2.1.1.2 Ax.1.2.1.2.1 Ax.1.2.1.2.2 sp ds dc id k kc ki Ax.2.1.1.2.1 Ax.2.1.1.2.2 Ax.2.1.2.1.1 u1 Ax.2.1.2.2.1 u3 Ax.2.2.1.1.1 Ax.2.2.1.1.2 Ax.2.2.1.2.1 Ax.2.2.1.2.2 Ax.2.2.2.1.1 Ax.2.2.2.1.2 h' tk') := mk8 _ fun K2 => by
  intro X
  walk_at "in"
  k_steps
  dsimp only
  refine Ai (Ae ?_)
  k_steps
  delta Cg
  have hap5 : [ds, dc, id, k.se, k.pa].Nodup := List.Nodup.sublist (.cons₂ _ (.cons₂ _ (.cons₂ _ (.cons₂ _ (.cons _ (.cons _ (.cons₂ _ .slnil))))))) hap
  rename News Ax.1.1.1.1.1.1 Ax.1.1.1.1.1.2 _ (_ :: _ :: (k.se, Ax.2.1.1.2.1) :: _) => N7
  have N7H : Hid (News Ax.1.1.1.1.1.1 Ax.1.1.1.1.1.2 _ (BC k kc ki sp ds dc id Ax.2.1.1.2.1 Ax.2.1.1.2.2 Ax.2.1.2.1.1 oP 0 0 0 0 0 0 0 u1 Ax.2.1.2.2.1 u3 Ax.2.2.1.1.1 Ax.2.2.1.1.2 Ax.2.2.1.2.1 Ax.2.2.1.2.2 Ax.2.2.2.1.1 Ax.2.2.2.1.2 [(fa, PySem.W.listOf #[.int d td, .int l tl, .int u tu] nf), (sa, PySem.W.listOf svs.toArray ns)])) := N7
  refine CI (by k_asm) (by k_asm) (by k_asm) (by k_asm) rfl (by k_asm) hap5 hsys (by k_mem) (by k_mem) (by k_mem) (by k_mem) (by k_mem) (by k_mem) (by k_mem) (by k_mem) dS (by k_mem) hkP e1 e2 e3 (by walk_at "rm") (by walk_at "rm") ?_
  intro ta tb tc n' h' tk' F' N'
  have hr2 : ∀ q ∈ [(fa, PySem.W.listOf #[.int d td, .int l tl, .int u tu] nf), (sa, PySem.W.listOf svs.toArray ns)], q.1 ≠ ds ∧ q.1 ≠ dc ∧ q.1 ≠ ki.ol := fun q hq => by
    have h11 := hfr q (.tail _ hq)
    exact ⟨nx1 h11, nx4 h11, nx7 h11⟩
  have N8 := GG N7H hap hnl dS dR dW hkP hr2 N'
  clear N' N7
  k_steps
  dsimp only
  obtain ⟨k2, hk2⟩ : ∃ k2 : SD, k2 = { k with pe := Value.ref k.pa } := ⟨_, rfl⟩
  rw [← hk2] at N8
  have hpe2 : k2.pe = .ref k2.pa := by rw [hk2]
  have hap2 : [ds, dc, id, k2.se, k2.re, k2.ws, k2.pa].Nodup := by rw [hk2]; exact hap
  have hsys2 : (k2.se == sysModules) = false := by rw [hk2]; exact hsys
  have hfr2 : ∀ q ∈ [(fa, PySem.W.listOf #[.int d td, .int l tl, .int u tu] nf), (sa, PySem.W.listOf svs.toArray ns)], q.1 ≠ k2.se ∧ q.1 ≠ k2.re ∧ q.1 ≠ k2.ws ∧ q.1 ≠ ki.om := fun q hq => by
    have h11 := hfr q (.tail _ hq)
    rw [hk2]
    exact ⟨nx2 h11, nx9 h11, SY h11, nx8 h11⟩
  have hfr3 : ∀ q ∈ [(fa, PySem.W.listOf #[.int d td, .int l tl, .int u tu] nf), (sa, PySem.W.listOf svs.toArray ns)], q.1 ∉ [sp, ds, k2.se, k2.cr, dc, k2.ids, id, ki.ol, ki.om, k2.re, k2.ws] := fun q hq => by
    rw [hk2]
    exact hfr q (.tail _ hq)
  clear hk2 hap hap5 hsys hfr hr2 N7H hpe
  clear e1 e2 e3
  walk_at "rv"
  intro K2
  rename_i c2_1
  exact K2.p c2_1 ta tb tc n' h' tk' k2
@[irreducible] def Dw := eps 7485802 (by walk_at "nonempty") (Da JS.1)
namespace kut2
def ta := Dw.1.1.2
def tb := Dw.1.2.1
def tc := Dw.1.2.2
def n' := Dw.2.1.1
def tk' := Dw.2.2.1
def k2 := Dw.2.2.2
noncomputable def DY : (R3 : Addr → Addr → Obj → Obj → Nat → Tok → Heap → Nat → (Str → Option Value) → Obj → Obj → Obj → (List (Int × Value)) → (List (Int × Value)) → Tok → Tok → Nat → (List (Int × Part)) → Tok → Nat → Prop) ×' (R7 : Heap → Nat → (Str → Option Value) → Obj → Obj → Obj → (List (Int × Value)) → (List (Int × Value)) → Tok → Tok → Nat → (List (Int × Part)) → Prop) ×' (Kp (∀ x0 x1 x2 x3 x4 x5 x6 x7 x8 x9 x10 x11 x12 x13 x14 x15 x16 x17 x18 x19, R3 x0 x1 x2 x3 x4 x5 x6 x7 x8 x9 x10 x11 x12 x13 x14 x15 x16 x17 x18 x19) → Kp (∀ x0 x1 x2 x3 x4 x5 x6 x7 x8 x9 x10 x11, R7 x0 x1 x2 x3 x4 x5 x6 x7 x8 x9 x10 x11) → (JS.1 Dw.1.1.1 ta tb tc n' Dw.2.1.2 tk' k2)) := ⟨_, _, fun K3 K7 => by
  intro X
  walk_at "in"
  have F' := F'_1
  clear F'_1
  refine Ai (GR ?_)
  k_steps
  delta Cg
  refine Mr rfl (show (sa, PySem.W.listOf svs.toArray ns) ∈ _ by k_mem) rfl rfl rfl rfl [Str.ofString "at", Str.ofString "size"] (by simp) (by simp)
    (fun i l' => ∃ (oS' oR' oW' : Obj) (kR kW : List (Int × Value)) (tc0 tc1 : Tok) (n3 : Nat) (ps : List (Int × Part)), l' = BC k2 kc ki sp ds dc id oS' oR' oW' oP 0 (max 0 d) 0 (max 0 2) (max 0 1) ((((i + 1) / 2 : Nat) : Int)) (((i / 2 : Nat) : Int)) u1 tc u3 ta tb tc0 tc1 n' n3 ((fa, PySem.W.listOf #[.int d td, .int l tl, .int u tu] nf) :: (sa, PySem.W.listOf svs.toArray ns) :: Bv ps) ∧
      oS'.IsDictOf (PySem.intKind pw Bl.1.w) (Cj ps) ∧ oR'.IsDictOf (PySem.intKind pw Bl.1.w) kR ∧ oW'.IsDictOf (PySem.intKind pw Bl.1.w) kW ∧ kR.length ≤ i ∧ kW.length ≤ i ∧ MadePs l u (zs.take i) ps ∧ (∀ x ∈ ps, x.2.d ∉ [ds, dc, id, k2.se, k2.re, k2.ws, k2.pa]) ∧ (ps.map (·.2.d)).Nodup ∧ (∀ x ∈ ps, x.2.lo ≠ ki.om ∧ x.2.lo ≠ fa ∧ x.2.lo ≠ sa))
    (by rintro i l' ⟨_, _, _, _, _, _, _, _, _, e, _⟩; subst e; k_mem) (by assumption) N8 ⟨Ax.2.1.1.2.1, Ax.2.1.1.2.2, Ax.2.1.2.1.1, [], [], _, _, _, [], rfl, dS, dR, dW, Nat.le_refl _, Nat.le_refl _, by simpa using MadePs.nil, (fun x hx => nomatch hx), List.nodup_nil, (fun x hx => nomatch hx)⟩ ?hstep ?hdone
  case hstep =>
    rintro e it oe oi i v t h tk m' led' hv ⟨oS', oR', oW', kR, kW, tc0, tc1, n3, ps, rfl, dS', dR', dW', lR, lW, hps, had, hdn, hlo⟩ hap3 hm Fi Ni
    obtain ⟨z, tz, rfl, hzi⟩ := IntsAre.at hz i v (by simpa using hv)
    have hil : i < zs.length := (List.getElem?_eq_some_iff.mp hzi).1
    have hzb := hzr z (List.mem_of_getElem? hzi)
    obtain ⟨nz, hnz⟩ : ∃ nz : Nat, z = nz := ⟨z.toNat, by omega⟩
    subst hnz
    clear T hz hzr hret NR N0 hgb dR dW N8 hfr3 hv
    walk_at "rv"
    intro K3 K7
    exact K3.p e it oe oi i t h tk m' oS' oR' oW' kR kW tc0 tc1 n3 ps tz nz
  case hdone =>
    rintro h tk m' led' ⟨oS', oR', oW', kR, kW, tc0, tc1, n3, ps, rfl, dS', dR', dW', lR, lW, hps, had, hdn, hlo⟩ Fi hm Ni
    clear hzr hd hu B' X' T' dS dR dW hfr2
    walk_at "rv"
    intro K3 K7
    exact K7.p h tk m' oS' oR' oW' kR kW tc0 tc1 n3 ps⟩
@[irreducible] def AX := eps 7485803 (by walk_at "nonempty") (Mj DY.1)
namespace kut3
def e := AX.1.1.1.1.1
def it := AX.1.1.1.1.2
def oe := AX.1.1.1.2
def oi := AX.1.1.2.1
def i := AX.1.1.2.2
def h := AX.1.2.1.1.2
def tk := AX.1.2.1.2
def oS' := AX.1.2.2.2
def oR' := AX.2.1.1.1.1
def oW' := AX.2.1.1.1.2
def tc0 := AX.2.1.2.2
def tc1 := AX.2.2.1.1.1
def n3 := AX.2.2.1.1.2
def ps := AX.2.2.1.2
noncomputable def Io : (R4 : Int → Addr → Addr → Addr → PS → Tok → Tok → Tok → Tok → Tok → Tok → Tok → Nat → Obj → Obj → Obj → (List (Int × Value)) → (List (Int × Value)) → Heap → Nat → Prop) ×' (Kp (∀ x0 x1 x2 x3 x4 x5 x6 x7 x8 x9 x10 x11 x12 x13 x14 x15 x16 x17 x18 x19, R4 x0 x1 x2 x3 x4 x5 x6 x7 x8 x9 x10 x11 x12 x13 x14 x15 x16 x17 x18 x19) → (DY.1 e it oe oi i AX.1.2.1.1.1 h tk AX.1.2.2.1 oS' oR' oW' AX.2.1.1.2 AX.2.1.2.1 tc0 tc1 n3 ps AX.2.2.2.1 AX.2.2.2.2)) := ⟨_, fun K4 => by
  intro X
  walk_at "in"
  have F' := F'_1
  clear F'_1
  have NiH : Hid (News Ax.1.1.1.1.1.1 Ax.1.1.1.1.1.2 h ((e, oe) :: (it, oi) :: BC k2 kc ki sp ds dc id oS' oR' oW' oP 0 (max 0 d) 0 (max 0 2) (max 0 1) ((((i + 1) / 2 : Nat) : Int)) (((i / 2 : Nat) : Int)) u1 tc u3 ta tb tc0 tc1 n' n3 ((fa, PySem.W.listOf #[.int d td, .int l tl, .int u tu] nf) :: (sa, PySem.W.listOf svs.toArray ns) :: Bv ps))) := Ni
  have Fi2 := Rt Fi hm
  clear Fi
  have hapA : [ds, id, k2.se, k2.re, k2.ws, k2.pa].Nodup := List.Nodup.sublist (.cons₂ _ (.cons _ (.cons₂ _ (.cons₂ _ (.cons₂ _ (.cons₂ _ (.cons₂ _ .slnil))))))) hap2
  refine Ae ?_
  k_steps
  delta Cg
  refine CZ (by k_asm) (by k_asm) (by k_asm) (by k_asm) rfl (by k_asm) hpe2 hapA hnl (by k_mem) (by k_mem) (by k_mem) dS' (by k_mem) dR' (by k_mem) dW' (by k_mem) hkP (by k_mem) (by k_mem) (by k_mem) (by k_mem) e4 e5 e6 ?z1 ?z2 ?z3 (by walk_at "rm") (by walk_at "rm") ?h0 ?h1
  case z1 => (rw [sizeLine_eq]; have := hps.len; rw [List.length_take] at this; simp only [Cj, List.length_map]; omega)
  case z2 => (rw [sizeLine_eq]; omega)
  case z3 => (rw [sizeLine_eq]; omega)
  case h0 =>
    intro hle
    exfalso
    cases hb : ((i : Int) == 1)
    · rw [hb] at hle
      have hle2 : max (0 : Int) 2 ≤ (((i + 1) / 2 : Nat) : Int) := hle
      omega
    · rw [hb] at hle
      have hle2 : max (0 : Int) 1 ≤ ((i / 2 : Nat) : Int) := hle
      have := beq_iff_eq.mp hb
      omega
  case h1 =>
    intro sid hsid hlt p d' lo kp t' t1' t2' t3' t4' ta' tb' n3' oS2 oR2 oW2 kR2 kW2 h' tk' F' f1 f2 f3 dS2 dR2 dW2 lR2 lW2 N'
    clear e4 e5 e6 hpe2 Ni Fi2 hapA hlt
    walk_at "rv"
    intro K4
    exact K4.p sid p d' lo kp t' t1' t2' t3' t4' ta' tb' n3' oS2 oR2 oW2 kR2 kW2 h' tk'⟩
@[irreducible] def Az := eps 7485804 (by walk_at "nonempty") (Mj Io.1)
namespace kut4
def ta' := Az.2.1.1.1.1
def tb' := Az.2.1.1.1.2
def n3' := Az.2.1.1.2
def oS2 := Az.2.1.2.1
def oR2 := Az.2.1.2.2
def oW2 := Az.2.2.1.1.1
def tk' := Az.2.2.2.2
noncomputable def Mg : Stg (F := Heap → Nat → Tok → Heap → Nat → Prop) Cz (Io.1 Az.1.1.1.1.1 Az.1.1.1.1.2 Az.1.1.1.2 Az.1.1.2.1 Az.1.1.2.2 Az.1.2.1.1.1 Az.1.2.1.1.2 Az.1.2.1.2 Az.1.2.2.1 Az.1.2.2.2 ta' tb' n3' oS2 oR2 oW2 Az.2.2.1.1.2 Az.2.2.1.2 Az.2.2.2.1 tk') := mk5 _ fun K5 => by
  intro X
  walk_at "in"
  have F' := F'_2
  clear F'_2
  have hi3 : i < 3 := by omega
  have hsid2 : Az.1.1.1.1.1 = 2 * (i : Int) := by
    rw [hsid]
    cases hb : ((i : Int) == 1)
    · show 4 * (((i + 1) / 2 : Nat) : Int) + 0 = 2 * (i : Int)
      have : ¬ i = 1 := fun e => by rw [e] at hb; cases hb
      omega
    · show 4 * ((i / 2 : Nat) : Int) + 2 = 2 * (i : Int)
      have := beq_iff_eq.mp hb
      omega
  have ec0 : (if ((i : Int) == 1) = true then (((i + 1) / 2 : Nat) : Int) else (((i + 1) / 2 : Nat) : Int) + 1) = (((i + 1 + 1) / 2 : Nat) : Int) := by
    cases hb : ((i : Int) == 1)
    · have : ¬ i = 1 := fun e => by rw [e] at hb; cases hb
      simp only [Bool.false_eq_true, if_false]; omega
    · have := beq_iff_eq.mp hb
      simp only [if_true]; omega
  have ec1 : (if ((i : Int) == 1) = true then ((i / 2 : Nat) : Int) + 1 else ((i / 2 : Nat) : Int)) = (((i + 1) / 2 : Nat) : Int) := by
    cases hb : ((i : Int) == 1)
    · have : ¬ i = 1 := fun e => by rw [e] at hb; cases hb
      simp only [Bool.false_eq_true, if_false]; omega
    · have := beq_iff_eq.mp hb
      simp only [if_true]; omega
  have elim' : (if ((i : Int) == 1) = true then u else l) = (if i = 1 then u else l) := by
    cases hb : ((i : Int) == 1)
    · have : ¬ i = 1 := fun e => by rw [e] at hb; cases hb
      simp only [Bool.false_eq_true, if_false, this]
    · have h1 := beq_iff_eq.mp hb
      have : i = 1 := by omega
      simp only [if_true, this]
  rw [ec0, ec1, elim'] at N'
  have mem2 : ∀ q ∈ BC k2 kc ki sp ds dc id oS' oR' oW' oP 0 (max 0 d) 0 (max 0 2) (max 0 1) ((((i + 1) / 2 : Nat) : Int)) (((i / 2 : Nat) : Int)) u1 tc u3 ta tb tc0 tc1 n' n3 ((fa, PySem.W.listOf #[.int d td, .int l tl, .int u tu] nf) :: (sa, PySem.W.listOf svs.toArray ns) :: Bv ps), q.1 ≠ e ∧ q.1 ≠ it := hap3
  have hab : ∀ y, (∃ o, (y, o) ∈ BC k2 kc ki sp ds dc id oS' oR' oW' oP 0 (max 0 d) 0 (max 0 2) (max 0 1) ((((i + 1) / 2 : Nat) : Int)) (((i / 2 : Nat) : Int)) u1 tc u3 ta tb tc0 tc1 n' n3 ((fa, PySem.W.listOf #[.int d td, .int l tl, .int u tu] nf) :: (sa, PySem.W.listOf svs.toArray ns) :: Bv ps)) → e ≠ y ∧ it ≠ y := fun y ⟨o, ho⟩ => ⟨(mem2 _ ho).1.symm, (mem2 _ ho).2.symm⟩
  have hbS := hab k2.se ⟨_, by k_mem⟩
  have hbR := hab k2.re ⟨_, by k_mem⟩
  have hbW := hab k2.ws ⟨_, by k_mem⟩
  have hbM := hab ki.om ⟨_, by k_mem⟩
  have hrest : ∀ q ∈ (fa, PySem.W.listOf #[.int d td, .int l tl, .int u tu] nf) :: (sa, PySem.W.listOf svs.toArray ns) :: Bv ps, q.1 ≠ k2.se ∧ q.1 ≠ k2.re ∧ q.1 ≠ k2.ws ∧ q.1 ≠ ki.om := fun q hq => by
    rcases List.mem_cons.mp hq with rfl | hq
    · exact hfr2 _ (.head _)
    rcases List.mem_cons.mp hq with rfl | hq
    · exact hfr2 _ (.tail _ (.head _))
    have mq : q ∈ (e, oe) :: (it, oi) :: BC k2 kc ki sp ds dc id oS' oR' oW' oP 0 (max 0 d) 0 (max 0 2) (max 0 1) ((((i + 1) / 2 : Nat) : Int)) (((i / 2 : Nat) : Int)) u1 tc u3 ta tb tc0 tc1 n' n3 ((fa, PySem.W.listOf #[.int d td, .int l tl, .int u tu] nf) :: (sa, PySem.W.listOf svs.toArray ns) :: Bv ps) := by repeat (first | with_reducible exact hq | apply List.mem_cons_of_mem)
    obtain ⟨x, hx, hqx⟩ := List.mem_flatMap.mp hq
    have had' := had x hx
    simp only [Part.objs, List.mem_cons, List.not_mem_nil, or_false] at hqx
    rcases hqx with rfl | rfl | rfl
    · exact ⟨Cr NiH mq (by k_mem) dS', Cr NiH mq (by k_mem) dR', Cr NiH mq (by k_mem) dW', Ar NiH mq (show (ki.om, _) ∈ _ by k_mem) rfl⟩
    · exact ⟨nx3 had', nx4 had', nx5 had', Ar NiH mq (show (ki.om, _) ∈ _ by k_mem) rfl⟩
    · exact ⟨(AN NiH (show (k2.se, oS') ∈ _ by k_mem) mq dS').symm, (AN NiH (show (k2.re, oR') ∈ _ by k_mem) mq dR').symm, (AN NiH (show (k2.ws, oW') ∈ _ by k_mem) mq dW').symm, (hlo x hx).1⟩
  have N9 := Go NiH hap2 hnl dS' dR' dW' hkP ⟨hbS.1, hbR.1, hbW.1, hbM.1⟩ ⟨hbS.2, hbR.2, hbW.2, hbM.2⟩ hrest N'
  clear N'
  have N9H : Hid (News Ax.1.1.1.1.1.1 Ax.1.1.1.1.1.2 _ ((Az.1.1.2.1, PySem.W.listOf #[] 0) :: (Az.1.1.1.1.2, instObj 498 Az.1.1.1.2) :: (Az.1.1.1.2, Ca Az.1.1.2.2 (if i = 1 then u else l) Az.1.2.1.1.2 (Str.ofString "ready") Az.1.2.1.2 #[] Az.1.2.2.1 0 Az.1.2.2.2 Az.1.1.2.1) :: (e, oe) :: (it, oi) :: BC k2 kc ki sp ds dc id oS2 oR2 oW2 oP 0 (max 0 d) 0 (max 0 2) (max 0 1) ((((i + 1 + 1) / 2 : Nat) : Int)) ((((i + 1) / 2 : Nat) : Int)) u1 tc u3 ta tb ta' tb' n' n3' ((fa, PySem.W.listOf #[.int d td, .int l tl, .int u tu] nf) :: (sa, PySem.W.listOf svs.toArray ns) :: Bv ps))) := N9
  have hvp : valueAt (stored (Cj ps) Az.1.1.1.1.1 (.ref Az.1.1.1.1.2)) Az.1.1.1.1.1 = some (.ref Az.1.1.1.1.2) := by
    rw [hsid2, LC (by rw [CX]; exact hps.notin (Nat.le_of_lt hil))]
    unfold valueAt
    rw [List.find?_append]
    have : (Cj ps).find? (fun kv => decide (kv.1 = 2 * (i : Int))) = none := by
      rw [List.find?_eq_none]
      intro y hy hd'
      have hm2 : y.1 ∈ (Cj ps).map (·.1) := List.mem_map.mpr ⟨y, hy, rfl⟩
      rw [of_decide_eq_true hd', CX] at hm2
      exact hps.notin (Nat.le_of_lt hil) hm2
    rw [this]
    simp
  k_steps
  delta Cg
  refine Of (by k_asm) (by k_asm) (by k_asm) (by k_asm) rfl (by k_asm) (by k_mem) (by k_mem) (by k_mem) dS2 hvp hsys2 (by walk_at "rm") (by walk_at "rm") ?_
  intro h' tk' up'
  walk_at "k upd"
  k_steps
  delta Cg
  refine Nn (by k_asm) (by k_asm) (by k_asm) (by k_asm) rfl (by k_asm) ⟨by omega, by omega⟩ (by omega) (by walk_at "rm") (by walk_at "rm") ?_
  intro to h' tk' up'
  walk_at "k upd"
  clear hn hkP hnl hap2 hsys2 hfr2 dS' dR' dW' NiH hsid hi3 ec0 ec1 elim' mem2 hab hbS hbR hbW hbM hrest N9 hvp
  walk_at "rv"
  intro K5
  rename_i c5_1 c5_2
  exact K5.p c5_1 c5_2 to h' tk'
@[irreducible] def Gk := eps 7485805 (by walk_at "nonempty") (Cz Mg.1)
namespace kut5
def tk' := Gk.2.2
noncomputable def Mp : Stg (F := Tok → Heap → Nat → Prop) CG (Mg.1 Gk.1.1.1 Gk.1.1.2 Gk.1.2 Gk.2.1 tk') := mk3 _ fun K6 => by
  intro X
  walk_at "in"
  have F' := F'_4
  clear F'_4
  have N' := N'_1
  clear N'_1
  k_steps
  delta Cg
  have same : ∀ q ∈ (e, oe) :: (it, oi) :: BC k2 kc ki sp ds dc id oS2 oR2 oW2 oP 0 (max 0 d) 0 (max 0 2) (max 0 1) ((((i + 1 + 1) / 2 : Nat) : Int)) ((((i + 1) / 2 : Nat) : Int)) u1 tc u3 ta tb ta' tb' n' n3' ((fa, PySem.W.listOf #[.int d td, .int l tl, .int u tu] nf) :: (sa, PySem.W.listOf svs.toArray ns) :: Bv ps), ∃ o, (q.1, o) ∈ (e, oe) :: (it, oi) :: BC k2 kc ki sp ds dc id oS' oR' oW' oP 0 (max 0 d) 0 (max 0 2) (max 0 1) ((((i + 1) / 2 : Nat) : Int)) (((i / 2 : Nat) : Int)) u1 tc u3 ta tb tc0 tc1 n' n3 ((fa, PySem.W.listOf #[.int d td, .int l tl, .int u tu] nf) :: (sa, PySem.W.listOf svs.toArray ns) :: Bv ps) := fun q hq => by
    have h1 : q.1 ∈ ((e, oe) :: (it, oi) :: BC k2 kc ki sp ds dc id oS' oR' oW' oP 0 (max 0 d) 0 (max 0 2) (max 0 1) ((((i + 1) / 2 : Nat) : Int)) (((i / 2 : Nat) : Int)) u1 tc u3 ta tb tc0 tc1 n' n3 ((fa, PySem.W.listOf #[.int d td, .int l tl, .int u tu] nf) :: (sa, PySem.W.listOf svs.toArray ns) :: Bv ps)).map (·.1) := by
      rw [show ((e, oe) :: (it, oi) :: BC k2 kc ki sp ds dc id oS' oR' oW' oP 0 (max 0 d) 0 (max 0 2) (max 0 1) ((((i + 1) / 2 : Nat) : Int)) (((i / 2 : Nat) : Int)) u1 tc u3 ta tb tc0 tc1 n' n3 ((fa, PySem.W.listOf #[.int d td, .int l tl, .int u tu] nf) :: (sa, PySem.W.listOf svs.toArray ns) :: Bv ps)).map (·.1) = ((e, oe) :: (it, oi) :: BC k2 kc ki sp ds dc id oS2 oR2 oW2 oP 0 (max 0 d) 0 (max 0 2) (max 0 1) ((((i + 1 + 1) / 2 : Nat) : Int)) ((((i + 1) / 2 : Nat) : Int)) u1 tc u3 ta tb ta' tb' n' n3' ((fa, PySem.W.listOf #[.int d td, .int l tl, .int u tu] nf) :: (sa, PySem.W.listOf svs.toArray ns) :: Bv ps)).map (·.1) from rfl]
      exact List.mem_map.mpr ⟨q, hq, rfl⟩
    obtain ⟨r, hr, er⟩ := List.mem_map.mp h1
    exact ⟨r.2, er ▸ hr⟩
  have hlod : Az.1.1.2.1 ≠ Az.1.1.1.2 := Ar N9H (.head _) (.tail _ (.tail _ (.head _))) rfl
  have hpd : Az.1.1.1.1.2 ≠ Az.1.1.1.2 := Ar N9H (.tail _ (.head _)) (.tail _ (.tail _ (.head _))) rfl
  have hrd : ∀ q ∈ (e, oe) :: (it, oi) :: BC k2 kc ki sp ds dc id oS2 oR2 oW2 oP 0 (max 0 d) 0 (max 0 2) (max 0 1) ((((i + 1 + 1) / 2 : Nat) : Int)) ((((i + 1) / 2 : Nat) : Int)) u1 tc u3 ta tb ta' tb' n' n3' ((fa, PySem.W.listOf #[.int d td, .int l tl, .int u tu] nf) :: (sa, PySem.W.listOf svs.toArray ns) :: Bv ps), q.1 ≠ Az.1.1.1.2 := fun q hq => by
    obtain ⟨o, ho⟩ := same q hq
    exact f2 (q.1, o) ho
  refine RO (by k_asm) (by k_asm) (by k_asm) (by k_asm) rfl (by k_asm) (by k_mem) (by k_mem) (.tail hlod (.tail hpd (.head hrd))) rfl (Nat.zero_le _) (by rw [byteArr_size, List.length_map, rangeKs_length]; omega) (by walk_at "rm") (by walk_at "rm") ?_
  intro t9 h' tk' F' N'
  clear hd hu B' X' T' hzb N9H hlod hpd hrd
  walk_at "rv"
  intro K6
  exact K6.p t9 h' tk'
@[irreducible] def Gm := eps 7485806 (by walk_at "nonempty") (CG Mp.1)
namespace kut6
def tk' := Gm.2
theorem Tw : Mp.1 Gm.1.1 Gm.1.2 tk' := by
  intro X
  walk_at "in"
  have F' := F'_5
  clear F'_5
  have N' := N'_2
  clear N'_2
  have hX : ((#[] : Array UInt8) ++ byteArr ((rangeKs 0 AX.2.2.2.2).map fun k => 40 * (i : Int) + k + 1)) = octs i AX.2.2.2.2 := by simp [octs]
  rw [hX] at N'
  obtain ⟨X, hXe⟩ : ∃ X : Part, X = ⟨Az.1.1.2.2, Az.1.1.1.1.2, Az.1.1.1.2, Az.1.1.2.1, 0, if i = 1 then u else l, Az.1.2.1.1.2, Str.ofString "ready", Az.1.2.1.2, octs i AX.2.2.2.2, Gm.1.1, 0, Az.1.2.2.2⟩ := ⟨_, rfl⟩
  have eL : (e, oe) :: (it, oi) :: BC k2 kc ki sp ds dc id oS2 oR2 oW2 oP 0 (max 0 d) 0 (max 0 2) (max 0 1) ((((i + 1 + 1) / 2 : Nat) : Int)) ((((i + 1) / 2 : Nat) : Int)) u1 tc u3 ta tb ta' tb' n' n3' ((fa, PySem.W.listOf #[.int d td, .int l tl, .int u tu] nf) :: (sa, PySem.W.listOf svs.toArray ns) :: Bv (ps ++ [(2 * (i : Int), X)])) = ((e, oe) :: (it, oi) :: BC k2 kc ki sp ds dc id oS2 oR2 oW2 oP 0 (max 0 d) 0 (max 0 2) (max 0 1) ((((i + 1 + 1) / 2 : Nat) : Int)) ((((i + 1) / 2 : Nat) : Int)) u1 tc u3 ta tb ta' tb' n' n3' ((fa, PySem.W.listOf #[.int d td, .int l tl, .int u tu] nf) :: (sa, PySem.W.listOf svs.toArray ns) :: Bv ps)) ++ X.objs := by rw [Lf]; rfl
  have NX : News Ax.1.1.1.1.1.1 Ax.1.1.1.1.1.2 Gm.1.2 ((e, oe) :: (it, oi) :: BC k2 kc ki sp ds dc id oS2 oR2 oW2 oP 0 (max 0 d) 0 (max 0 2) (max 0 1) ((((i + 1 + 1) / 2 : Nat) : Int)) ((((i + 1) / 2 : Nat) : Int)) u1 tc u3 ta tb ta' tb' n' n3' ((fa, PySem.W.listOf #[.int d td, .int l tl, .int u tu] nf) :: (sa, PySem.W.listOf svs.toArray ns) :: Bv (ps ++ [(2 * (i : Int), X)]))) := fun q hq => by
    rw [eL] at hq
    rcases List.mem_append.mp hq with hq | hq
    · exact N' q (.tail _ (.tail _ (.tail _ hq)))
    · rw [hXe] at hq
      simp only [Part.objs, List.mem_cons, List.not_mem_nil, or_false] at hq
      rcases hq with rfl | rfl | rfl
      · exact N' _ (.tail _ (.head _))
      · exact N' _ (.tail _ (.tail _ (.head _)))
      · exact N' _ (.head _)
  clear N'
  k_steps
  refine FO.intro (by assumption) ?hm (by assumption) ⟨oS2, oR2, oW2, Az.2.2.1.1.2, Az.2.2.1.2, ta', tb', n3', ps ++ [(2 * (i : Int), X)], rfl, ?dS, dR2, dW2, by omega, by omega, hps.snoc hzi rfl (by rw [hXe]) (by rw [hXe]; rfl) (by rw [hXe]) (by rw [hXe]), ?had, ?hdn, ?hlo⟩ ?ap
  case hm =>
    intro z hz2
    simp only [List.mem_cons, List.not_mem_nil, or_false, not_or] at hz2
    simp only [hz2.1, hz2.2, if_false]
  case dS =>
    rw [Py, ← LC (by rw [CX]; exact hps.notin (Nat.le_of_lt hil)), ← hsid2]
    rw [hXe]
    exact dS2
  case had =>
    intro x hx
    rcases List.mem_append.mp hx with hx | hx
    · exact had x hx
    · rw [List.mem_singleton.mp hx, hXe]
      exact nyc (fun h => f2 (ds, _) (by k_mem) h.symm) (nyc (fun h => f2 (dc, _) (by k_mem) h.symm) (nyc (fun h => f2 (id, _) (by k_mem) h.symm) (nyc (fun h => f2 (k2.se, _) (by k_mem) h.symm) (nyc (fun h => f2 (k2.re, _) (by k_mem) h.symm) (nyc (fun h => f2 (k2.ws, _) (by k_mem) h.symm) (nyc (fun h => f2 (k2.pa, _) (by k_mem) h.symm) List.not_mem_nil))))))
  case hdn =>
    rw [List.map_append, List.nodup_append]
    refine ⟨hdn, by simp, fun y hy z hz3 e' => ?_⟩
    obtain ⟨x, hx, rfl⟩ := List.mem_map.mp hy
    simp only [List.map_cons, List.map_nil, List.mem_singleton] at hz3
    rw [hz3, hXe] at e'
    have hmx := Bs hx (List.Mem.tail _ (List.Mem.head _))
    exact f2 (x.2.d, _) (by repeat (first | with_reducible exact hmx | apply List.mem_cons_of_mem)) e'
  case hlo =>
    intro x hx
    rcases List.mem_append.mp hx with hx | hx
    · exact hlo x hx
    · rw [List.mem_singleton.mp hx, hXe]
      exact ⟨fun h => f3 (ki.om, _) (by k_mem) h.symm, fun h => f3 (fa, _) (by k_mem) h.symm, fun h => f3 (sa, _) (by k_mem) h.symm⟩
  case ap =>
    intro q hq
    have hq2 : q ∈ ((e, oe) :: (it, oi) :: BC k2 kc ki sp ds dc id oS2 oR2 oW2 oP 0 (max 0 d) 0 (max 0 2) (max 0 1) ((((i + 1 + 1) / 2 : Nat) : Int)) ((((i + 1) / 2 : Nat) : Int)) u1 tc u3 ta tb ta' tb' n' n3' ((fa, PySem.W.listOf #[.int d td, .int l tl, .int u tu] nf) :: (sa, PySem.W.listOf svs.toArray ns) :: Bv ps)) ++ X.objs := by rw [← eL]; exact .tail _ (.tail _ hq)
    have eL2 : BC k2 kc ki sp ds dc id oS2 oR2 oW2 oP 0 (max 0 d) 0 (max 0 2) (max 0 1) ((((i + 1 + 1) / 2 : Nat) : Int)) ((((i + 1) / 2 : Nat) : Int)) u1 tc u3 ta tb ta' tb' n' n3' ((fa, PySem.W.listOf #[.int d td, .int l tl, .int u tu] nf) :: (sa, PySem.W.listOf svs.toArray ns) :: Bv (ps ++ [(2 * (i : Int), X)])) = (BC k2 kc ki sp ds dc id oS2 oR2 oW2 oP 0 (max 0 d) 0 (max 0 2) (max 0 1) ((((i + 1 + 1) / 2 : Nat) : Int)) ((((i + 1) / 2 : Nat) : Int)) u1 tc u3 ta tb ta' tb' n' n3' ((fa, PySem.W.listOf #[.int d td, .int l tl, .int u tu] nf) :: (sa, PySem.W.listOf svs.toArray ns) :: Bv ps)) ++ X.objs := by rw [Lf]; rfl
    rw [eL2] at hq
    rcases List.mem_append.mp hq with hq | hq
    · obtain ⟨o, ho⟩ := same q (.tail _ (.tail _ hq))
      have h1 : q.1 ∈ (BC k2 kc ki sp ds dc id oS' oR' oW' oP 0 (max 0 d) 0 (max 0 2) (max 0 1) ((((i + 1) / 2 : Nat) : Int)) (((i / 2 : Nat) : Int)) u1 tc u3 ta tb tc0 tc1 n' n3 ((fa, PySem.W.listOf #[.int d td, .int l tl, .int u tu] nf) :: (sa, PySem.W.listOf svs.toArray ns) :: Bv ps)).map (·.1) := by
        rw [show (BC k2 kc ki sp ds dc id oS' oR' oW' oP 0 (max 0 d) 0 (max 0 2) (max 0 1) ((((i + 1) / 2 : Nat) : Int)) (((i / 2 : Nat) : Int)) u1 tc u3 ta tb tc0 tc1 n' n3 ((fa, PySem.W.listOf #[.int d td, .int l tl, .int u tu] nf) :: (sa, PySem.W.listOf svs.toArray ns) :: Bv ps)).map (·.1) = (BC k2 kc ki sp ds dc id oS2 oR2 oW2 oP 0 (max 0 d) 0 (max 0 2) (max 0 1) ((((i + 1 + 1) / 2 : Nat) : Int)) ((((i + 1) / 2 : Nat) : Int)) u1 tc u3 ta tb ta' tb' n' n3' ((fa, PySem.W.listOf #[.int d td, .int l tl, .int u tu] nf) :: (sa, PySem.W.listOf svs.toArray ns) :: Bv ps)).map (·.1) from rfl]
        exact List.mem_map.mpr ⟨q, hq, rfl⟩
      obtain ⟨r, hr, er⟩ := List.mem_map.mp h1
      rw [← er]; exact hap3 r hr
    · rw [hXe] at hq
      simp only [Part.objs, List.mem_cons, List.not_mem_nil, or_false] at hq
      rcases hq with rfl | rfl | rfl
      · exact ⟨fun h => f1 (e, oe) (by k_mem) h.symm, fun h => f1 (it, oi) (by k_mem) h.symm⟩
      · exact ⟨fun h => f2 (e, oe) (by k_mem) h.symm, fun h => f2 (it, oi) (by k_mem) h.symm⟩
      · exact ⟨fun h => f3 (e, oe) (by k_mem) h.symm, fun h => f3 (it, oi) (by k_mem) h.symm⟩
end kut6
end kut5
end kut4
theorem TY : DY.1 e it oe oi i AX.1.2.1.1.1 h tk AX.1.2.2.1 oS' oR' oW' AX.2.1.1.2 AX.2.1.2.1 tc0 tc1 n3 ps AX.2.2.2.1 AX.2.2.2.2 :=
  Io.2 ⟨fun x0 x1 x2 x3 x4 x5 x6 x7 x8 x9 x10 x11 x12 x13 x14 x15 x16 x17 x18 x19 => BH (P := Mj Io.1) Az (AQ kut4.Mg kut4.Gk (AQ kut4.kut5.Mp kut4.kut5.Gm kut4.kut5.kut6.Tw)) (((((x0, x1), x2), x3, x4), ((x5, x6), x7), x8, x9), (((x10, x11), x12), x13, x14), ((x15, x16), x17), x18, x19)⟩
end kut3
@[irreducible] def Av := eps 7485807 (by walk_at "nonempty") (Dv DY.2.1)
namespace kut7
def tk := Av.1.1.1.2
def ps := Av.2.2.2
theorem TT : DY.2.1 Av.1.1.1.1 tk Av.1.1.2 Av.1.2.1.1 Av.1.2.1.2 Av.1.2.2 Av.2.1.1.1 Av.2.1.1.2 Av.2.1.2 Av.2.2.1.1 Av.2.2.1.2 ps := by
  intro X
  walk_at "in"
  have F' := F'_1
  clear F'_1
  have hsize : svs.toArray.size = zs.length := by rw [List.size_toArray, hz.length]
  rw [hsize] at Ni lR lW hps
  rw [List.take_length] at hps
  have Fi2 := QP Fi hm
  clear Fi
  have inNi : ∀ y ∈ BC k2 kc ki sp ds dc id Av.1.2.1.1 Av.1.2.1.2 Av.1.2.2 oP 0 (max 0 d) 0 (max 0 2) (max 0 1) (((zs.length + 1) / 2 : Nat) : Int) ((zs.length / 2 : Nat) : Int) u1 tc u3 ta tb Av.2.1.2 Av.2.2.1.1 n' Av.2.2.1.2 (Bv ps), y ∈ BC k2 kc ki sp ds dc id Av.1.2.1.1 Av.1.2.1.2 Av.1.2.2 oP 0 (max 0 d) 0 (max 0 2) (max 0 1) (((zs.length + 1) / 2 : Nat) : Int) ((zs.length / 2 : Nat) : Int) u1 tc u3 ta tb Av.2.1.2 Av.2.2.1.1 n' Av.2.2.1.2 ((fa, PySem.W.listOf #[.int d td, .int l tl, .int u tu] nf) :: (sa, PySem.W.listOf svs.toArray ns) :: Bv ps) := fun y hy => by
    exact QI (A := (BC k2 kc ki sp ds dc id Av.1.2.1.1 Av.1.2.1.2 Av.1.2.2 oP 0 (max 0 d) 0 (max 0 2) (max 0 1) (((zs.length + 1) / 2 : Nat) : Int) ((zs.length / 2 : Nat) : Int) u1 tc u3 ta tb Av.2.1.2 Av.2.2.1.1 n' Av.2.2.1.2 [])) (r := Bv ps) (r' := (fa, PySem.W.listOf #[.int d td, .int l tl, .int u tu] nf) :: (sa, PySem.W.listOf svs.toArray ns) :: Bv ps) (fun q h => .tail _ (.tail _ h)) hy
  have notFS : ∀ y ∈ BC k2 kc ki sp ds dc id Av.1.2.1.1 Av.1.2.1.2 Av.1.2.2 oP 0 (max 0 d) 0 (max 0 2) (max 0 1) (((zs.length + 1) / 2 : Nat) : Int) ((zs.length / 2 : Nat) : Int) u1 tc u3 ta tb Av.2.1.2 Av.2.2.1.1 n' Av.2.2.1.2 (Bv ps), y.1 ≠ fa ∧ y.1 ≠ sa := by
    have hF := hfr3 _ (.head _)
    have hS' := hfr3 _ (.tail _ (.head _))
    have mF : (fa, PySem.W.listOf #[.int d td, .int l tl, .int u tu] nf) ∈ BC k2 kc ki sp ds dc id Av.1.2.1.1 Av.1.2.1.2 Av.1.2.2 oP 0 (max 0 d) 0 (max 0 2) (max 0 1) (((zs.length + 1) / 2 : Nat) : Int) ((zs.length / 2 : Nat) : Int) u1 tc u3 ta tb Av.2.1.2 Av.2.2.1.1 n' Av.2.2.1.2 ((fa, PySem.W.listOf #[.int d td, .int l tl, .int u tu] nf) :: (sa, PySem.W.listOf svs.toArray ns) :: Bv ps) := by k_mem
    have mS : (sa, PySem.W.listOf svs.toArray ns) ∈ BC k2 kc ki sp ds dc id Av.1.2.1.1 Av.1.2.1.2 Av.1.2.2 oP 0 (max 0 d) 0 (max 0 2) (max 0 1) (((zs.length + 1) / 2 : Nat) : Int) ((zs.length / 2 : Nat) : Int) u1 tc u3 ta tb Av.2.1.2 Av.2.2.1.1 n' Av.2.2.1.2 ((fa, PySem.W.listOf #[.int d td, .int l tl, .int u tu] nf) :: (sa, PySem.W.listOf svs.toArray ns) :: Bv ps) := by k_mem
    refine fa1 ⟨Ne.symm (nxh hF), Ne.symm (nxh hS')⟩ ?_
    refine fa1 ⟨Ne.symm (nx1 hF), Ne.symm (nx1 hS')⟩ ?_
    refine fa1 ⟨Ne.symm (nx2 hF), Ne.symm (nx2 hS')⟩ ?_
    refine fa1 ⟨Ne.symm (nx3 hF), Ne.symm (nx3 hS')⟩ ?_
    refine fa1 ⟨Ne.symm (nx4 hF), Ne.symm (nx4 hS')⟩ ?_
    refine fa1 ⟨Ne.symm (nx5 hF), Ne.symm (nx5 hS')⟩ ?_
    refine fa1 ⟨Ne.symm (nx6 hF), Ne.symm (nx6 hS')⟩ ?_
    refine fa1 ⟨Ne.symm (nx7 hF), Ne.symm (nx7 hS')⟩ ?_
    refine fa1 ⟨Ne.symm (nx8 hF), Ne.symm (nx8 hS')⟩ ?_
    refine fa1 ⟨Ne.symm (nx9 hF), Ne.symm (nx9 hS')⟩ ?_
    refine fa1 ⟨Ne.symm (SY hF), Ne.symm (SY hS')⟩ ?_
    refine fa1 ⟨AN Ni (inNi _ (by k_mem)) mF hkP, AN Ni (inNi _ (by k_mem)) mS hkP⟩ ?_
    intro y hy
    have my := inNi y (.tail _ (.tail _ (.tail _ (.tail _ (.tail _ (.tail _ (.tail _ (.tail _ (.tail _ (.tail _ (.tail _ (.tail _ (hy)))))))))))))
    obtain ⟨x, hx, hqx⟩ := List.mem_flatMap.mp hy
    simp only [Part.objs, List.mem_cons, List.not_mem_nil, or_false] at hqx
    rcases hqx with rfl | rfl | rfl
    · exact ⟨Ar Ni my mF rfl, Ar Ni my mS rfl⟩
    · exact ⟨Ar Ni my mF rfl, Ar Ni my mS rfl⟩
    · exact ⟨(hlo x hx).2.1, (hlo x hx).2.2⟩
  have fresh : ∀ y ∈ BC k2 kc ki sp ds dc id Av.1.2.1.1 Av.1.2.1.2 Av.1.2.2 oP 0 (max 0 d) 0 (max 0 2) (max 0 1) (((zs.length + 1) / 2 : Nat) : Int) ((zs.length / 2 : Nat) : Int) u1 tc u3 ta tb Av.2.1.2 Av.2.2.1.1 n' Av.2.2.1.2 (Bv ps), ∀ q ∈ Bl.1.led, q.1 ≠ y.1 := fun y hy => AU N0 hgb Ni (inNi y hy) (by
    intro hx
    simp only [List.map, List.mem_cons, List.not_mem_nil, or_false] at hx
    rcases hx with hx | hx
    · exact (notFS y hy).1 hx
    · exact (notFS y hy).2 hx)
  dsimp only
  refine Ae ?_
  k_steps
  rename Off _ _ _ => off
  rename News Bl.1.h₀ Bl.1.L _ _ => Nb
  refine hret sp ds dc id k2 kc ki Av.1.2.1.1 Av.1.2.1.2 Av.1.2.2 oP Av.2.1.1.1 Av.2.1.1.2 Ax.1.1.2.1.2 u1 tc u3 ta tb Av.2.1.2 Av.2.2.1.1 n' Av.2.2.1.2 ps _ _ hpe2 hap2 hnl hsys2 dS' dR' dW' (by omega) (by omega) hkP ⟨_, _, e4⟩ ⟨_, _, e5⟩ ⟨_, _, e6⟩ hps had hdn (fun x hx => (hlo x hx).1) (by assumption) fresh (fun q hq => ?_)
  rcases List.mem_append.mp hq with hq | hq
  · exact Nb q (inNi q hq)
  · exact BV N0 NR ((by repeat (first | exact News.nil | refine Bh Nb (by k_mem) ?_))) off q hq
end kut7
theorem Ua : JS.1 Dw.1.1.1 ta tb tc n' Dw.2.1.2 tk' k2 :=
  DY.2.2 ⟨fun x0 x1 x2 x3 x4 x5 x6 x7 x8 x9 x10 x11 x12 x13 x14 x15 x16 x17 x18 x19 => BH (P := Mj DY.1) AX kut3.TY (((((x0, x1), x2), x3, x4), ((x5, x6), x7), x8, x9), (((x10, x11), x12), x13, x14), ((x15, x16), x17), x18, x19)⟩ ⟨fun x0 x1 x2 x3 x4 x5 x6 x7 x8 x9 x10 x11 => BH (P := Dv DY.2.1) Av kut7.TT ((((x0, x1), x2), (x3, x4), x5), ((x6, x7), x8), (x9, x10), x11)⟩
end kut2
end kut1
theorem TC : vcx HQ Bl.1 fa sa d l u td tl tu nf ns Bl.2.2.2.1.1 svs zs :=
  Iq.2 ⟨fun x0 x1 x2 x3 x4 x5 x6 x7 x8 x9 x10 x11 x12 x13 x14 x15 x16 x17 x18 x19 x20 x21 x22 x23 x24 x25 x26 x27 x28 x29 x30 x31 x32 x33 => BH (P := PG Iq.1) Ax (AQ kut1.JS kut1.Dw kut1.kut2.Ua) ((((((x0, x1), x2), x3, x4), (x5, x6), x7, x8), ((x9, x10), x11, x12), (x13, x14), x15, x16), ((((x17, x18), x19), x20, x21), (x22, x23), x24, x25), ((x26, x27), x28, x29), (x30, x31), x32, x33)⟩
end MT
def MT {w p loose mean mg mb dp un gdg cn cs a ccd cl outer A₀ base h₀ L m s Q E led fa sa d l u td tl tu nf ns n svs zs} :=
  (HQ.eq_1 w p loose mean mg mb dp un gdg cn cs a ccd cl outer A₀ base h₀ L m s Q E led fa sa d l u td tl tu nf ns n svs zs).mp ((BH (P := ccx CT HQ) Bl MT.TC ((⟨w, p, loose, mean, mg, mb, dp, un, gdg, cn, cs, a, ccd, cl, outer, A₀, base, h₀, L, m, s, Q, E, led⟩ : Cx), (((fa, sa), d, l), (u, td), tl), ((tu, nf), ns), (n, svs), zs)))
end
section
open Sem (wp)
section
variable {prog : Program} {w : World} {A : Around} {E : Value → Shared → Prop} {R : Result → Shared → Prop} {s : Shared} {env : Env}
theorem El {elt target iter : Expr} {scope : Scope} {pos : Pos} {it acc : Value} {env : Env} (I : Nat → Shared → Prop)
    (turn : ∀ n s, I n s → wpAny (model prog w) A (pyNext it) (fun r s₁ => match r with
      | none => R (.ok .next) s₁
      | some v => wpAny (model prog w) A (letOwnedTupleGo target it v) (fun _ s₁' => wpAny (model prog w) A (assign target env v) (fun _ s₂ =>
          wpAny (model prog w) A (eval elt env) (fun x s₄ =>
              wpAny (model prog w) A (call (.builtin "list.append") [acc, x]) (fun _ s₅ => ∃ m, m < n ∧ I m s₅) (notedBy (model prog w) A env fun e s' => R (.error e) s') s₄) (notedBy (model prog w) A env fun e s' => R (.error e) s') s₂)
            (notedBy (model prog w) A env fun e s' => R (.error e) s') s₁') (notedBy (model prog w) A env fun e s' => R (.error e) s') s₁) (notedBy (model prog w) A env fun e s' => R (.error e) s') s)
    (n : Nat) (h : I n s) :
    codeAny (model prog w) A (.compLoop (.ListComp elt [⟨target, iter, [], 0⟩] scope pos) 0 it acc env) R s := by
  refine codeAny_loop rfl I (fun n s hI => ?_) n h
  show wpAny _ A ((compTurn (.ListComp elt [⟨target, iter, [], 0⟩] scope pos) 0 it acc env).onRaise (fun x => do noteFrame x env; theTreesLotGoes x)) _ _ s
  refine wpAny_noted ?_
  rw [compTurn_list]
  refine wpAny_bind (wpAny_standAt (wpAny_bind (wpAny_mono (turn n s hI) (fun r s₁ h₁ => ?_) fun _ _ h' => h')))
  cases r with
  | none => exact wpAny_pure h₁
  | some v =>
    refine wpAny_bind (wpAny_mono h₁ (fun _ s₁' h₁' => wpAny_bind (wpAny_mono h₁' (fun _ s₂ h₂ => ?_) fun _ _ h' => h')) fun _ _ h' => h')
    refine wpAny_bind (wpAny_tests_nil ?_)
    exact wpAny_bind (wpAny_bind (wpAny_mono h₂ (fun x s₄ h₄ => wpAny_bind (wpAny_mono h₄ (fun _ s₅ h₅ => wpAny_pure (wpAny_pure ⟨rfl, h₅⟩)) fun _ _ h' => h')) fun _ _ h' => h'))
theorem RZ (I : Nat) : I + 3 ≠ I ∧ I + 3 ≠ I + 1 ∧ I + 2 ≠ I ∧ I + 2 ≠ I + 1 ∧ I + 2 ≠ I + 3 := by lia
theorem Ri (I b : Nat) (h : b < I) : b ≠ I + 3 ∧ b ≠ I + 2 ∧ b ≠ I ∧ b ≠ I + 1 := by lia
theorem Ek {G : Nat → Value → Prop} {i : Nat} {ys : List Value} {y : Value} (h : Paired G (List.range' 0 i) ys) (g : G i y) : Paired G (List.range' 0 (i + 1)) (ys ++ [y]) := by
  rw [List.range'_concat]
  simpa using Paired.snoc h (by simpa using g)
end
noncomputable def IM : Program → World → Around → (Value → Shared → Prop) → Shared → Env → Expr → Expr → Str → Str → Pos → Pos → Pos → Nat → Scope → (List (Str × Addr)) → Pos → (Value → Shared → Prop) → Addr → (Array Value) → Nat → Heap → Addr → (List (Addr × Obj)) → (Nat → Value → Prop) → Prop := fun prog w A E s env elt iter xi xv pi pv pt x1 scope cl pos Q l its c h₀ L led G =>
  (A.handled = none) → (its.size < 64) → (News h₀ L s.heap led) → ((l, PySem.W.listOf its c) ∈ led) → (closureFor scope env = pure cl) → (∀ y ∈ scope.names, y.2 ≠ .cell) → (scope.kind = .function) → (∀ y ∈ scope.names, y.2 = .local → scope.names.lookup y.1 = some .local) → (scope.names.lookup xi = some .local) → (scope.names.lookup xv = some .local) → (xi ≠ xv) → (∀ Q' : Value → Shared → Prop, wpAny (model prog w) A (call (.type "enumerate") [.ref l]) Q' E s → wpAny (model prog w) A (eval iter env) Q' E s) → (∀ C (i : Nat) v t s₃ m₃ (E' : Value → Shared → Prop), its[i]? = some v → s₃.heap.Ns C m₃ → m₃ xi = some (.int (i : Int) t) → m₃ xv = some v → Up s.heap s₃.heap →
      wpAny (model prog w) A (eval elt (compEnvC scope cl C env)) (fun y s₄ => G i y ∧ Keeps s₃ s₄) E' s₃) → (∀ D h' tk ys, s.heap.get? D = none → h'.PlainList D ys → Paired G (List.range' 0 its.size) ys.toList → Up s.heap h' → Q (.ref D) { s with heap := h', toks := tk }) → (∀ x, foldedSetIterable iter env x = pure x) →
  wpAny (model prog w) A (eval (.ListComp elt [⟨.Tuple [.Name xi pi, .Name xv pv] x1 pt, iter, [], 0⟩] scope pos) env) Q E s
@[irreducible] def Au := eps 7365600 (by walk_at "nonempty") (PD IM)
namespace Ds
def s := Au.1.1.2.1.1
def env := Au.1.1.2.1.2
def x1 := Au.2.1.1.1.1
def scope := Au.2.1.1.1.2
def cl := Au.2.1.1.2
def its := Au.2.2.1.1.1
noncomputable def Kh : Stg (F := Heap → Nat → Heap → Heap → Nat → Nat → Prop) CR (IM Au.1.1.1.1.1 Au.1.1.1.1.2 Au.1.1.1.2.1 Au.1.1.1.2.2 s env Au.1.1.2.2 Au.1.2.1.1.1 Au.1.2.1.1.2 Au.1.2.1.2 Au.1.2.2.1.1 Au.1.2.2.1.2 Au.1.2.2.2 x1 scope cl Au.2.1.2.1.1 Au.2.1.2.1.2 Au.2.1.2.2 its Au.2.2.1.1.2 Au.2.2.1.2 Au.2.2.2.1.1 Au.2.2.2.1.2 Au.2.2.2.2) := mk6 _ fun K1 => by
  intro hh hn N hl hclos hcell hkind hnames hxi hxv hne hi helt hQ hs
  rw [eval_ListComp]
  refine wpAny_comprehension_free (use := none) rfl hs hclos hkind hnames (hi _ ?_)
  refine call_enumerate_1 (N _ hl).1 fun h₁ he hit hz hk => ?_
  refine wpAny_pyIter_enum he ?_
  generalize hE : s.heap.objs.size = I at he hit hz
  have he' := he
  have hlI : Au.2.1.2.2 ≠ I := fun e => by have := Heap.lt_size (N _ hl).1; rw [hE] at this; dsimp only at this; rw [e] at this; exact Nat.lt_irrefl _ this
  refine wpAny_newObj_type (wpAny_newFunctionEnv hcell (by intro y hy; simp at hy) (fun h₂ hns₂ hsb₂ => ?_) hkind)
  dsimp only at hns₂ hsb₂ ⊢
  generalize hH2 : h₁.push { cls := .type "list", dict := none, data := .seq ([] : List Value).toArray } = H2 at hns₂ hsb₂ ⊢
  have hC : H2.objs.size = h₁.objs.size + 1 := by rw [← hH2, Heap.size_push]
  have hD0 : ∃ D, D = h₁.objs.size := ⟨_, rfl⟩
  obtain ⟨D, hD⟩ := hD0
  have hC0 : ∃ C, C = H2.objs.size := ⟨_, rfl⟩
  obtain ⟨C, hCe⟩ := hC0
  have hDv : D = I + 2 := hD.trans hz
  have hCv : C = I + 3 := by rw [hCe, hC, hz]
  have old : ∀ b o, h₁.get? b = some o → h₂.get? b = some o := fun b o e =>
    hsb₂.extBut b o (by have := Heap.lt_size e; rw [hC]; exact Nat.ne_of_lt (Nat.lt_succ_of_lt this)) (Heap.get?_push_of_some _ (hH2 ▸ Heap.get?_push_of_some _ e))
  have hacc : h₂.PlainList D #[] := ⟨_, hsb₂.extBut _ _ (by rw [hD, hC]; exact Nat.ne_of_lt (Nat.lt_succ_self _)) (Heap.get?_push_of_some _ (hD ▸ hH2 ▸ Heap.get?_push_size _ rfl))⟩
  rw [← hCe] at hns₂ hsb₂ ⊢
  rw [← hD] at ⊢
  have hfD : s.heap.get? D = none := by
    cases e : s.heap.get? D with
    | none => rfl
    | some o' => have := Heap.lt_size e; rw [hE, hDv] at this; exact absurd this (Nat.not_lt.mpr (Nat.le_add_right I 2))
  have he2 := old _ _ he
  have hit2 : h₂.IsListIter I Au.2.1.2.2 0 := by obtain ⟨oi, a1, a2, a3⟩ := hit; exact ⟨oi, old _ _ a1, a2, a3⟩
  have up2 : Up s.heap h₂ := fun b o e => old b o (hk b o e)
  clear he hit hk old
  have nIC : C ≠ I ∧ C ≠ I + 1 ∧ D ≠ I ∧ D ≠ I + 1 ∧ D ≠ C := by rw [hDv, hCv]; exact RZ I
  have lowC : ∀ b, (∃ o, s.heap.get? b = some o) → b ≠ C ∧ b ≠ D ∧ b ≠ I ∧ b ≠ I + 1 := fun b ⟨o, e⟩ => by
    have := Heap.lt_size e; rw [hE] at this; rw [hDv, hCv]; exact Ri I b this
  have kC : Env.kindOf (compEnvC scope cl C env) Au.1.2.1.1.2 = some .local := lookup_relabel_local hxi
  have kV : Env.kindOf (compEnvC scope cl C env) Au.1.2.1.2 = some .local := lookup_relabel_local hxv
  have hp : ((compEnvC scope cl C env).scope.kind == .class || ((compEnvC scope cl C env).scope.kind == .module && (compEnvC scope cl C env).locals != (compEnvC scope cl C env).globals)) = false := by simp [compEnvC, relabel, hkind]
  clear hclos hcell hkind hnames hxi hxv hi hs hE hz hlI hH2 hC hD hsb₂ hCe hDv hCv
  walk_at "rv"
  intro K1
  exact K1.p h₁ I h₂ H2 D C
@[irreducible] def DX := eps 7365601 (by walk_at "nonempty") (CR Kh.1)
namespace kut1
def I := DX.1.1.2
def h₂ := DX.1.2
def D := DX.2.1.2
def C := DX.2.2
noncomputable def Km : Stg (F := Heap → Nat → (Str → Option Value) → (Array Value) → Value → Prop) Cz (Kh.1 DX.1.1.1 I h₂ DX.2.1.1 D C) := mk5 _ fun K2 => by
  intro hh hn N hl hne helt hQ he' hns₂ hacc hfD he2 hit2 up2 nIC lowC kC kV hp
  have loop : ∀ s₃ : Shared, s₃ = { s with heap := h₂, toks := s.toks + ([] : List (Str × Value)).length } →
      codeAny (model Au.1.1.1.1.1 Au.1.1.1.1.2) Au.1.1.1.2.1 (.compLoop (.ListComp Au.1.1.2.2 [⟨.Tuple [.Name Au.1.2.1.1.2 Au.1.2.2.1.1, .Name Au.1.2.1.2 Au.1.2.2.1.2] x1 Au.1.2.2.2, Au.1.2.1.1.1, [], 0⟩] scope Au.2.1.2.1.1) 0 (.ref (I + 1)) (.ref D) (compEnvC scope cl C env)) (compPost (model Au.1.1.1.1.1 Au.1.1.1.1.2) Au.1.1.1.2.1 Au.1.1.1.2.2 none Au.2.1.2.1.2 (.ref D) C) s₃ := by
    rintro s₃ rfl
    refine El (fun k s' => ∃ h' tk m' ys i, s' = { s with heap := h', toks := tk } ∧ i ≤ its.size ∧ k = its.size + 1 - i ∧ h'.Ns C m' ∧ h'.PlainList D ys ∧ Paired Au.2.2.2.2 (List.range' 0 i) ys.toList ∧ (∃ old, IsEnum h' (I + 1) I ((i : Nat) : Int) old) ∧ h'.IsListIter I Au.2.1.2.2 i ∧ Up s.heap h') ?_ (its.size + 1)
      ⟨h₂, _, _, #[], 0, rfl, Nat.zero_le _, rfl, hns₂, hacc, .nil, ⟨_, he2⟩, hit2, up2⟩
    rintro k s' ⟨H, tk, m', ys, i, rfl, hi', rfl, hns, hpl, hpr, ⟨old, he'⟩, hit', hup⟩
    rename_i z1
    clear z1 hns₂ hacc he2 hit2 up2
    walk_at "rv"
    intro K2
    revert i
    exact K2.p H tk m' ys old
  exact codeAny_compStart_list (loop _ rfl) (wpAny_pyIter_enum he2 (loop _ rfl))
@[irreducible] def CD := eps 7365602 (by walk_at "nonempty") (Cz Km.1)
namespace kut2
def H := CD.1.1.1
def tk := CD.1.1.2
noncomputable def Kj : Stg (F := Nat → Value → Heap → Heap → Heap → Obj → Prop) CR (Km.1 H tk CD.1.2 CD.2.1 CD.2.2) := mk6 _ fun K3 => by
  intro i hh hn N hl hne helt hQ hfD nIC lowC kC kV hp hi' hns hpl hpr he' hit' hup
  have hl' : H.IsList Au.2.1.2.2 its := ⟨_, hup _ _ (N _ hl).1, rfl, Au.2.2.1.1.2, rfl⟩
  have nei : (I + 1 : Nat) ≠ I := Nat.succ_ne_self _
  cases hv : its[i]? with
  | none =>
    have hsz : i = its.size := Nat.le_antisymm hi' (by simpa using hv)
    subst hsz
    refine wpAny_pyNext_enum_end hh he' hit' hl' hv fun h₂ he₂ => ?_
    refine ⟨CD.1.2, hns.at' fun o e => he₂ _ o nIC.1 e, fun h₃ hs₃ => ?_⟩
    refine hQ D h₃ tk CD.2.1 hfD ?_ hpr fun b o e => ?_
    · obtain ⟨n, e⟩ := hpl
      exact ⟨n, hs₃.extBut _ _ nIC.2.2.2.2 (he₂ _ _ nIC.2.2.1 e)⟩
    · have q := lowC b ⟨o, e⟩
      exact hs₃.extBut b o q.1 (he₂ _ _ q.2.2.1 (hup b o e))
  | some v =>
    have hlt' : i < its.size := (Array.getElem?_eq_some_iff.mp hv).1
    refine wpAny_pyNext_enum_item he' hit' hl' hv nei fun h₂ heo hit₂ ht₂ hz₂ hk₂ => ?_
    have heH : I + 1 < H.objs.size := Heap.lt_size he'
    refine wpAny_letOwnedTupleGo_enum heo fun h₃ he₃ hs₃ => ?_
    replace hs₃ : Heap.SameBut (I + 1) h₂ h₃ := hs₃
    have ht₃ : h₃.IsTuple H.objs.size #[.int i tk, v] := ⟨_, (hs₃.2 _ (Nat.ne_of_gt heH)).trans ht₂, rfl, _, rfl⟩
    have hz₃ : h₃.objs.size = H.objs.size + 1 := hs₃.1.trans hz₂
    refine wpAny_assign_Tuple hh ht₃ rfl rfl fun h₄ hx₄ => ?_
    replace hx₄ : Heap.ExtBut h₃.objs.size h₃ h₄ := hx₄
    have up : ∀ b o, b ≠ I + 1 → b ≠ I → H.get? b = some o → h₄.get? b = some o := fun b o hbe hbi e => by
      have hb : b < H.objs.size := Heap.lt_size e
      exact hx₄ b o (by rw [hz₃]; exact Nat.ne_of_lt (Nat.lt_succ_of_lt hb)) ((hs₃.2 b hbe).trans (hk₂ b o hbe hbi e))
    have ns4 : h₄.Ns C CD.1.2 := hns.at' fun o e => up _ o nIC.2.1 nIC.1 e
    have heI : h₄.get? (I + 1) = some { cls := .type "enumerate", dict := none, data := .fields #[.none, .bool false, .ref I, rawInt ((i : Int) + 1), .none, v], slots := #[] } := hx₄ _ _ (by rw [hz₃]; exact Nat.ne_of_lt (Nat.lt_succ_of_lt heH)) he₃
    obtain ⟨oi, hoi, hoi1, hoi2⟩ := hit₂
    clear hh N hl hQ hfD hns hit' hl' heo ht₂ hz₂ hk₂ he₃ ht₃
    walk_at "rv"
    intro K3
    exact K3.p i v h₂ h₃ h₄ oi
@[irreducible] def BO := eps 7365603 (by walk_at "nonempty") (CR Kj.1)
noncomputable def Ko : Stg (F := Heap → Heap → Value → Heap → Nat → Prop) Cz (CR Kj.1 BO) := mk5 _ fun K4 => by
  intro hn hne helt nIC lowC kC kV hp hi' hpl hpr he' hup nei hv hlt' heH hs₃ hz₃ hx₄ up ns4 heI hoi hoi1 hoi2
  have hiH : I < H.objs.size := Nat.lt_of_succ_lt heH
  have hiI : BO.2.1.2.get? I = some BO.2.2 := hx₄ _ _ (by rw [hz₃]; exact Nat.ne_of_lt (Nat.lt_succ_of_lt hiH)) ((hs₃.2 _ nei.symm).trans hoi)
  have hpl4 : BO.2.1.2.PlainList D CD.2.1 := by obtain ⟨n, e⟩ := hpl; exact ⟨n, up _ _ nIC.2.2.2.1 nIC.2.2.1 e⟩
  show wpAny _ Au.1.1.1.2.1 (do holding [BO.1.1.2] (assign (.Name Au.1.2.1.1.2 Au.1.2.2.1.1) (compEnvC scope cl C env) (.int BO.1.1.1 tk)); do holding [] (assign (.Name Au.1.2.1.2 Au.1.2.2.1.2) (compEnvC scope cl C env) BO.1.1.2); pure ()) _ _ _
  refine wpAny_bind (wpAny_holding (wpAny_assign_Name (wpAny_storeName_local kC ns4 (fun h₅ hn₅ hs₅ => ?_) hp)))
  refine wpAny_bind (wpAny_holding (wpAny_assign_Name (wpAny_storeName_local kV hn₅ (fun h₆ hn₆ hs₆ => wpAny_pure ?_) hp)))
  replace hs₅ : Heap.SameBut C BO.2.1.2 h₅ := hs₅
  replace hs₆ : Heap.SameBut C h₅ h₆ := hs₆
  have k6 : ∀ b o, b ≠ C → BO.2.1.2.get? b = some o → h₆.get? b = some o := fun b o hb e => hs₆.extBut b o hb (hs₅.extBut b o hb e)
  have up6 : Up s.heap h₆ := fun b o e => by
    have q := lowC b ⟨o, e⟩
    exact k6 b o q.1 (up b o q.2.2.2 q.2.2.1 (hup b o e))
  refine wpAny_mono (helt C BO.1.1.1 BO.1.1.2 tk _ _ _ hv hn₆ (by simp [hne]) (by simp) up6) (fun y s₄ ⟨hg, hkp⟩ => ?_) fun _ _ e => e
  obtain ⟨h₇, tk₇, rfl, k₇⟩ := hkp
  rename_i z1
  clear hne helt kC kV hp hpl nei hv heH hs₃ hz₃ hx₄ ns4 hoi hiH hn₅ hs₅ hs₆ up6 z1
  walk_at "rv"
  intro K4
  exact K4.p h₅ h₆ y h₇ tk₇
@[irreducible] def EH := eps 7365604 (by walk_at "nonempty") (Cz Ko.1)
theorem Sf : Cz Ko.1 EH := by
  intro hn nIC lowC hi' hpr he' hup hlt' up heI hoi1 hoi2 hiI hpl4 hn₆ k6 hg k₇
  have hpl7 : EH.2.1.PlainList D CD.2.1 := by obtain ⟨n, e⟩ := hpl4; exact ⟨n, k₇ _ _ (k6 _ _ nIC.2.2.2.2 e)⟩
  refine wpAny_list_append_plain hpl7 (fun h₈ hpl8 hs₈ => ?_) (by
    have := hpr.length
    rw [List.length_range', Array.length_toList] at this
    rw [sizeLine_eq]; lia)
  replace hs₈ : Heap.SameBut D EH.2.1 h₈ := hs₈
  have k8 : ∀ b o, b ≠ C → b ≠ D → BO.2.1.2.get? b = some o → h₈.get? b = some o := fun b o hb hb2 e => hs₈.extBut b o hb2 (k₇ _ _ (k6 b o hb e))
  refine ⟨its.size + 1 - (BO.1.1.1 + 1), by lia, h₈, EH.2.2, _, CD.2.1.push EH.1.2, BO.1.1.1 + 1, rfl, hlt', rfl, (hn₆.at' fun o e => hs₈.extBut _ o nIC.2.2.2.2.symm (k₇ _ _ e)), hpl8, by rw [Array.toList_push]; exact Ek hpr hg, ⟨BO.1.1.2, k8 _ _ nIC.2.1.symm nIC.2.2.2.1.symm heI⟩, ⟨BO.2.2, k8 _ _ nIC.1.symm nIC.2.2.1.symm hiI, hoi1, hoi2⟩, fun b o e => ?_⟩
  have q := lowC b ⟨o, e⟩
  exact k8 b o q.1 q.2.1 (up b o q.2.2.2 q.2.2.1 (hup b o e))
end kut2
end kut1
end Ds
section
variable {prog : Program} {w : World} {A : Around} {E : Value → Shared → Prop} {R : Result → Shared → Prop} {s : Shared} {env : Env}
theorem Ds {elt iter : Expr} {xi xv : Str} {pi pv pt : Pos} {x1 : Nat} {scope : Scope} {cl : List (Str × Addr)} {pos : Pos} {Q : Value → Shared → Prop} {l : Addr} {its : Array Value} {c : Nat} {h₀ : Heap} {L : Addr} {led : List (Addr × Obj)}
    (G : Nat → Value → Prop) (hh : A.handled = none) (hn : its.size < 64) (N : News h₀ L s.heap led) (hl : (l, PySem.W.listOf its c) ∈ led)
    (hclos : closureFor scope env = pure cl) (hcell : ∀ y ∈ scope.names, y.2 ≠ .cell) (hkind : scope.kind = .function)
    (hnames : ∀ y ∈ scope.names, y.2 = .local → scope.names.lookup y.1 = some .local) (hxi : scope.names.lookup xi = some .local) (hxv : scope.names.lookup xv = some .local) (hne : xi ≠ xv)
    (hi : ∀ Q' : Value → Shared → Prop, wpAny (model prog w) A (call (.type "enumerate") [.ref l]) Q' E s → wpAny (model prog w) A (eval iter env) Q' E s)
    (helt : ∀ C (i : Nat) v t s₃ m₃ (E' : Value → Shared → Prop), its[i]? = some v → s₃.heap.Ns C m₃ → m₃ xi = some (.int (i : Int) t) → m₃ xv = some v → Up s.heap s₃.heap →
      wpAny (model prog w) A (eval elt (compEnvC scope cl C env)) (fun y s₄ => G i y ∧ Keeps s₃ s₄) E' s₃)
    (hQ : ∀ D h' tk ys, s.heap.get? D = none → h'.PlainList D ys → Paired G (List.range' 0 its.size) ys.toList → Up s.heap h' → Q (.ref D) { s with heap := h', toks := tk })
    (hs : autoParam (∀ x, foldedSetIterable iter env x = pure x) aRf) :
    wpAny (model prog w) A (eval (.ListComp elt [⟨.Tuple [.Name xi pi, .Name xv pv] x1 pt, iter, [], 0⟩] scope pos) env) Q E s := by
  exact (BH (P := PD IM) Au (AQ Ds.Kh Ds.DX (AQ Ds.kut1.Km Ds.kut1.CD (AQ Ds.kut1.kut2.Kj Ds.kut1.kut2.BO (AQ Ds.kut1.kut2.Ko Ds.kut1.kut2.EH Ds.kut1.kut2.Sf)))) (((((prog, w), A, E), (s, env), elt), ((iter, xi), xv), (pi, pv), pt), (((x1, scope), cl), (pos, Q), l), ((its, c), h₀), (L, led), G)) hh hn N hl hclos hcell hkind hnames hxi hxv hne hi helt hQ hs
end
end
section
open Sem (wp)
theorem Qq : typeLookup (.type "list") "keys" = pure none := am_miss_of_fast (by kernel_rfl)
theorem Hd : entryFor table "dict.update.loop" = some Builtin.«dict.update.loop» := entryFor_of_tree (by kernel_rfl)
theorem DN : plainId "dict.update.loop" = true := by decide +kernel
section
variable {prog : Program} {w : World} {A : Around} {E : Value → Shared → Prop} {s : Shared}
theorem IS {a : Addr} {xs : Array Value} {k : Nat} {Q : Option Value → Shared → Prop} (hx : s.heap.get? a = some (PySem.W.listOf xs k)) (hA : A.handled = none)
    (h : ∀ h' tk e, Heap.NewExcOf s.heap h' e "AttributeError" → Q none { s with heap := h', toks := tk }) :
    wpAny (model prog w) A (getAttr? (.ref a) "keys") Q E s := by
  unfold PySem.W.listOf at hx
  obtain ⟨hp, g, d, tk, os⟩ := s
  have hT : ∀ tk', (⟨hp, g, d, tk', os⟩ : Shared).TypeIs (.ref a) "list" := fun _ => ⟨_, hx, rfl⟩
  have f1 := sub_AttributeError
  have f3 := PySem.F.slot_list_getattribute.lookup
  have f4 := PySem.F.slot_list_getattribute.bind (.ref a)
  have f5 := am_list_getattr_none
  have hmiss := Qq
  have hname : (["__module__", "__name__", "__qualname__", "__doc__", "__annotations__"] : List Str).contains "keys" = false := by decide +kernel
  unfold getAttr? getAttrBy? getAttrBy
  repeat (any_goals (first | assumption | exact hT _ | ((with_reducible show wpAny _ _ (call (Value.builtin "list.__getattribute__") _ _) _ _ _); refine call_meets PySem.F.slot_list_getattribute (hT _) am_entry_list_getattribute (PySem.F.args_list_getattribute_2 _ _) (meets_getattribute_miss_list a xs k #[] "keys" _ hmiss hname) ⟨hx, hA, fun h' tk' e hx' => ?_⟩) | wp_step))
  obtain ⟨t', u', he⟩ := hx'.there
  show wpAny _ _ (getattributeRaised _ _ _ _ _ _ _) _ _ _
  unfold getattributeRaised
  repeat (any_goals (first | assumption | wp_step))
  exact h _ _ _ hx'.of
end
noncomputable def HW : Program → World → Around → Shared → Addr → Addr → Addr → (Array Value) → (List (Int × Value)) → (Result → Shared → Prop) → Heap → Prop := fun prog w A s l it d ys kvs R h0 =>
  (A.handled = none) → (kvs.length = ys.size) → ((kvs.map (·.1)).Nodup) → (kvs.length ≤ sizeLine) → (∀ (i : Nat) y, ys[i]? = some y → ∃ a k v t, y = .ref a ∧ kvs[i]? = some (k, v) ∧ h0.IsTuple a #[.int k t, v]) → (h0.IsList l ys) → (it ≠ d) → (h0.get? it = none) → (h0.get? d = none) → (∀ h' tk, h'.DictOf (PySem.intKind prog w) d kvs → (∀ b o, h0.get? b = some o → h'.get? b = some o) → R (.ok (.ret .none)) { s with heap := h', toks := tk }) →
  ∀ (n i : Nat) (h : Heap) (tk : Nat), kvs.length - i = n → i ≤ kvs.length → h.IsListIter it l i → h.DictOf (PySem.intKind prog w) d (kvs.take i) → (∀ b o, h0.get? b = some o → h.get? b = some o) →
    codeAny (model prog w) A (.builtin "dict.update.loop" ⟨[.ref d, .ref it, rawInt (i : Int), .none], []⟩) R { s with heap := h, toks := tk }
@[irreducible] def AP := eps 8475300 (by walk_at "nonempty") (Du HW)
theorem Nh : Du HW AP := by
  intro hh hlen hnd hsz hpairs hl hid hni hnd2 hR
  have up : ∀ {h : Heap}, (∀ b o, AP.2.2.2.get? b = some o → h.get? b = some o) → h.IsList AP.1.2.1.2 AP.2.1.1.2 := fun k => let ⟨o, ho, r⟩ := hl; ⟨o, k _ _ ho, r⟩
  intro n
  induction n with
  | zero =>
    intro i h tk hn hi hit hd hk
    have hin : i = AP.2.1.2.length := by lia
    subst hin
    refine codeAny_builtin Hd ?_
    rw [Around.under_plainId DN _]
    show wpAny _ AP.1.1.2.in1 (pyNext (.ref AP.1.2.2) >>= _) _ _ _
    refine wpAny_bind (wpAny_pyNext_list_end hh hit (up hk) (by rw [hlen]; simp) fun h' he => ?_)
    refine wpAny_bind (wpAny_pure ?_)
    refine wpAny_pure (hR h' tk ?_ fun b o e => he b o (fun x => by rw [x, hni] at e; cases e) (hk b o e))
    rw [List.take_length] at hd
    obtain ⟨o, es, ep, e1, e2⟩ := hd
    exact ⟨o, es, ep, he _ _ (Ne.symm hid) e1, e2⟩
  | succ n ih =>
    intro i h tk hn hi hit hd hk
    have hlt : i < AP.2.1.1.2.size := by lia
    have hy : AP.2.1.1.2[i]? = some AP.2.1.1.2[i] := Array.getElem?_eq_getElem hlt
    obtain ⟨a, k, v, t, ea, ek, ta⟩ := hpairs i _ hy
    rw [ea] at hy
    refine codeAny_builtin Hd ?_
    rw [Around.under_plainId DN _]
    show wpAny _ AP.1.1.2.in1 (pyNext (.ref AP.1.2.2) >>= _) _ _ _
    refine wpAny_bind (wpAny_pyNext_list_item hit (up hk) hy fun h' hit' hs => ?_)
    have hk' : ∀ b o, AP.2.2.2.get? b = some o → h'.get? b = some o := fun b o e => hs.extBut b o (fun x => by rw [x, hni] at e; cases e) (hk b o e)
    have ta' : h'.IsTuple a #[.int k t, v] := let ⟨o, ho, r⟩ := ta; ⟨o, hk' _ _ ho, r⟩
    have hd' : h'.DictOf (PySem.intKind AP.1.1.1.1 AP.1.1.1.2) AP.2.1.1.1 (AP.2.1.2.take i) := by
      obtain ⟨o, es, ep, e1, e2⟩ := hd
      exact ⟨o, es, ep, hs.extBut _ _ (Ne.symm hid) e1, e2⟩
    have est : stored (AP.2.1.2.take i) k v = AP.2.1.2.take (i + 1) := by
      have hki : i < AP.2.1.2.length := by lia
      rw [List.take_add_one, ek]
      unfold stored
      rw [if_neg]
      · rfl
      · intro hany
        obtain ⟨z, hz, e⟩ := List.any_eq_true.mp hany
        obtain ⟨j, hj, ej⟩ := List.mem_iff_getElem.mp hz
        rw [List.length_take] at hj
        rw [List.getElem_take] at ej
        have e2 : (AP.2.1.2[i]).1 = k := by
          have := List.getElem?_eq_getElem hki
          rw [ek] at this
          rw [← Option.some.inj this]
        have := List.pairwise_iff_getElem.mp hnd j i (by rw [List.length_map]; lia) (by rw [List.length_map]; lia) (by lia)
        apply this
        rw [List.getElem_map, List.getElem_map, ej, e2]
        exact of_decide_eq_true e
    refine wpAny_bind (wpAny_holding (wpAny_bind (wpAny_tryCatch ?_)))
    unfold Builtin.Dict.pairItems
    obtain ⟨oa, hoa, hca, ca, hda⟩ := ta'
    refine wpAny_bind (wpAny_typeOf (T := "tuple") ⟨oa, hoa, hca⟩ ?_)
    rw [if_pos (by decide)]
    refine wpAny_bind (wpAny_seqItems hoa hda (wpAny_pure ?_))
    show wpAny _ _ (holding [Value.int k t, v] (dictSet AP.2.1.1.1 (Value.int k t) v)) _ _ _
    refine wpAny_holding ?_
    refine wpAny_dictSet_pairs (knd := PySem.intKind AP.1.1.1.1 AP.1.1.1.2) (intKind_is _ _ _ _) hd' (fun h2 hd2 hs2 => ?_) (by rw [List.length_take]; lia)
    rw [est] at hd2
    refine wpAny_pure ⟨plainId_quiet DN _, ?_⟩
    have e1 : rawInt ((i : Int) + 1) = rawInt (((i + 1 : Nat) : Nat) : Int) := by rw [Int.natCast_add]; rfl
    rw [e1]
    refine ih (i + 1) h2 _ (by lia) (by lia) ?_ hd2 fun b o e => hs2.extBut b o (fun x => by rw [x, hnd2] at e; cases e) (hk' b o e)
    obtain ⟨oi, i1, i2⟩ := hit'
    exact ⟨oi, hs2.extBut _ _ hid i1, i2⟩
section
variable {prog : Program} {w : World} {A : Around} {E : Value → Shared → Prop} {s : Shared}
theorem PM {l it d : Addr} {ys : Array Value} {kvs : List (Int × Value)} {R : Result → Shared → Prop} (hh : A.handled = none)
    (hlen : kvs.length = ys.size) (hnd : (kvs.map (·.1)).Nodup) (hsz : kvs.length ≤ sizeLine) (h0 : Heap)
    (hpairs : ∀ (i : Nat) y, ys[i]? = some y → ∃ a k v t, y = .ref a ∧ kvs[i]? = some (k, v) ∧ h0.IsTuple a #[.int k t, v])
    (hl : h0.IsList l ys) (hid : it ≠ d) (hni : h0.get? it = none) (hnd2 : h0.get? d = none)
    (hR : ∀ h' tk, h'.DictOf (PySem.intKind prog w) d kvs → (∀ b o, h0.get? b = some o → h'.get? b = some o) → R (.ok (.ret .none)) { s with heap := h', toks := tk }) :
    ∀ (n i : Nat) (h : Heap) (tk : Nat), kvs.length - i = n → i ≤ kvs.length → h.IsListIter it l i → h.DictOf (PySem.intKind prog w) d (kvs.take i) → (∀ b o, h0.get? b = some o → h.get? b = some o) →
    codeAny (model prog w) A (.builtin "dict.update.loop" ⟨[.ref d, .ref it, rawInt (i : Int), .none], []⟩) R { s with heap := h, toks := tk } := by
  exact (BH (P := Du HW) AP Nh ((((prog, w), A), (s, l), it), ((d, ys), kvs), R, h0)) hh hlen hnd hsz hpairs hl hid hni hnd2 hR
theorem Qk {l : Addr} {ys : Array Value} {c : Nat} {kvs : List (Int × Value)} {Q : Value → Shared → Prop} (hh : A.handled = none) (hl : s.heap.get? l = some (PySem.W.listOf ys c))
    (hpairs : ∀ (i : Nat) y, ys[i]? = some y → ∃ a k v t, y = .ref a ∧ kvs[i]? = some (k, v) ∧ s.heap.IsTuple a #[.int k t, v]) (hlen : kvs.length = ys.size) (hnd : (kvs.map (·.1)).Nodup) (hsz : kvs.length ≤ sizeLine)
    (h : ∀ h' tk d, h'.DictOf (PySem.intKind prog w) d kvs → (∀ b o, s.heap.get? b = some o → h'.get? b = some o) → s.heap.get? d = none → d = s.heap.objs.size → Q (.ref d) { s with heap := h', toks := tk }) :
    wpAny (model prog w) A (call (.type "dict") [.ref l]) Q E s := by
  refine callType_codes (Q₁ := fun obj s₁ => obj = .ref s.heap.objs.size ∧ s₁ = { s with heap := s.heap.push { cls := .type "dict", data := .dict #[] } }) PySem.F.kt_called_dict (PySem.F.kt_typeCall_dict_1 _) PySem.F.entry_dict_init (kt_code_dict_new _ ⟨rfl, rfl⟩) ?_
  rintro obj s₁ ⟨rfl, rfl⟩
  have hnew : (s.heap.push { cls := .type "dict", data := .dict #[] }).DictOf (PySem.intKind prog w) s.heap.objs.size [] := Heap.DictOf.new s.heap
  have hl' : (s.heap.push { cls := .type "dict", data := .dict #[] }).get? l = some (PySem.W.listOf ys c) := Heap.get?_push_of_some _ hl
  refine ⟨hnew.typeIs, PySem.F.args_dict_init_2 _ _, ?_⟩
  unfold Builtin.«dict.__init__»
  refine wpAny_bind ?_
  unfold Builtin.Dict.selfAndRest
  refine wpAny_bind (wpAny_notOrdered_dict hnew.typeIs ?_)
  show wpAny _ _ (pure (s.heap.objs.size, [Value.ref l])) _ _ _
  refine wpAny_pure ?_
  show wpAny _ _ (Builtin.Dict.updateFrom "dict.__init__" s.heap.objs.size (.ref l) [] .none) _ _ _
  unfold Builtin.Dict.updateFrom
  refine wpAny_bind (wpAny_typeOf (T := "list") ⟨_, hl', rfl⟩ ?_)
  rw [if_pos (by decide)]
  refine wpAny_bind (IS hl' hh fun h₁ tk₁ e₁ hx => ?_)
  refine wpAny_ite ?_
  rw [if_pos (show (none : Option Value).isNone = true from rfl)]
  refine wpAny_bind (wpAny_rule ?_)
  have kp : ∀ b o, s.heap.get? b = some o → h₁.get? b = some o := fun b o e => hx.keeps b o (Heap.get?_push_of_some _ e)
  have hlL : h₁.IsList l ys := ⟨_, kp _ _ hl, rfl, c, rfl⟩
  refine wpAny_bind (wpAny_pyIter_list hlL ?_)
  have hd1 : (h₁.push { cls := .type "list_iterator", data := .fields #[.ref l, .int 0 0] }).DictOf (PySem.intKind prog w) s.heap.objs.size [] := by
    obtain ⟨o, es, ep, e1, e2⟩ := hnew
    exact ⟨o, es, ep, Heap.get?_push_of_some _ (hx.keeps _ _ e1), e2⟩
  have up2 : ∀ b o, s.heap.get? b = some o → (h₁.push { cls := .type "list_iterator", data := .fields #[.ref l, .int 0 0] }).get? b = some o := fun b o e => Heap.get?_push_of_some _ (kp b o e)
  have hDlt : s.heap.objs.size < h₁.objs.size := by
    obtain ⟨o, es, ep, e1, e2⟩ := hnew
    exact Heap.lt_size (hx.keeps _ _ e1)
  refine wpAny_pure ⟨plainId_quiet DN _, ?_⟩
  rw [show rawInt 0 = rawInt ((0 : Nat) : Int) from rfl]
  exact PM (R := wants (fun r s₂ => r = Value.none ∧ Q (Value.ref s.heap.objs.size) s₂) E) (A := A.in1) (s := { s with heap := h₁, toks := tk₁ }) (it := h₁.objs.size) (d := s.heap.objs.size) hh hlen hnd hsz s.heap hpairs ⟨_, hl, rfl, c, rfl⟩ (Nat.ne_of_gt hDlt) (Heap.get?_none_of_le (Nat.le_of_lt hDlt)) (Heap.get?_none_of_le (Nat.le_refl _))
    (fun h' tk hd' hk' => ⟨rfl, h h' tk _ hd' hk' (Heap.get?_none_of_le (Nat.le_refl _)) rfl⟩) kvs.length 0 _ _ (Nat.sub_zero _) (Nat.zero_le _) ⟨_, Heap.get?_push_size _ rfl, rfl, rfl⟩ (by rw [List.take_zero]; exact hd1) up2
end
end
section
open Sem (wp)
section
variable {prog : Program} {w : World} {A : Around} {E : Value → Shared → Prop} {s : Shared} {h₀ : Heap} {L : Addr} {m : Str → Option Value}
theorem Jb {P : Params} {value slice : PySem.Expr} {t : Tok} {i : Nat} {Q : Value → Shared → Prop} (X : (KK P).In h₀) (F : Fr h₀ L s.heap m) (hi : i < 3) (h : ∀ tk, Q (.int (2 * (i : Int)) tk) s)
    (hs : autoParam (subscripted slice false (.ref 795) (.int (i : Int) t) = operate [.ref 795, .int (i : Int) t] (getItem (.ref 795) (.int (i : Int) t))) aUn) :
    wpAny (model prog w) A (subscriptTail value slice (.ref 795) (.int (i : Int) t)) Q E s := by
  have hl : s.heap.IsList 795 #[.int 0 1403, .int 2 1404, .int 4 1405] := ⟨_, RA X F rfl, rfl, 0, rfl⟩
  obtain ⟨tk, hv⟩ : ∃ tk, (#[Value.int 0 1403, .int 2 1404, .int 4 1405] : Array Value)[(i : Int).toNat]? = some (.int (2 * (i : Int)) tk) := by
    rw [Int.toNat_natCast]
    obtain rfl | rfl | rfl : i = 0 ∨ i = 1 ∨ i = 2 := by lia
    · exact ⟨_, rfl⟩
    · exact ⟨_, rfl⟩
    · exact ⟨_, rfl⟩
  exact tail_any hl.typeIs PySem.slot_list_getitem.lookup (wpAny_getItem_list hl (by lia) (by lia) hv (h tk)) hs
end
end
section
open Mine renaming Es → hlt10, Es → hlt4, Es → hlt8, Es → hlt2, Es → hlt9
set_option rowWalk.seconds 0
theorem TI : True := by
  k_with "subscriptTail" => (k_here; (with_reducible show wpAny _ _ (subscriptTail _ (Expr.Slice _ _ none _) (Value.bytes _ _) (Value.ref _)) _ _ _); (with_reducible rename Fr _ _ _ _ => F'); (with_reducible rename News _ _ _ _ => N'); (refine KBc.slice_K (s := ⟨_, _, _, _, _⟩) F' N' rfl (by constructor) (by constructor) (by rw [KBw.ints_length]; omega) ?_); intro h' t' k' F' N' _)
  k_with "subscriptTail" => (k_here; (with_reducible show wpAny _ _ (subscriptTail _ _ (Value.ref _) (Value.int _ _)) _ _ _); (refine kda_item (knd := PySem.intKind _ _) (by k_asm) (by k_mem) (by k_asm) (intKind_is _ _ _ _) (by first | assumption | rfl) ?_))
  trivial
theorem TU : True := by
  k_with "subscriptTail" => (k_here; (with_reducible show wpAny _ _ (subscriptTail _ _ (Value.ref _) (Value.int _ _)) _ _ _); refine hlt9 ?_)
  k_with "mem" => (assumption)
  k_with "all" => ((refine HA (allLt_of (by assumption)) (by ((try dsimp only); omega))))
  trivial
section
variable {w : World} {p : Program} {loose : List Str} {mean : ExcName → Option Value} {mg mb : Str → Option Value} {dp un : Nat} {gdg : Option (List Code)} {cn : Str} {cs : Scope} {a : Addr} {ccd : Value} {cl : List (Str × Addr)} {outer : List Env} {A₀ : Around} {base h₀ : Heap} {L : Addr} {m : Str → Option Value} {s : Shared} {Q E : Value → Shared → Prop} {led led' : List (Addr × Obj)}
variable (B : Below A₀ base outer h₀) (F : Fr h₀ L s.heap m) (X : (KK w.params).In h₀) (T : Top p loose mean mg mb h₀) (hk : cs.kind = .function) (N : News h₀ L s.heap led)
include B F X T hk N
omit B F X T hk N in
theorem JN {vs : List Value} {ns : List Int} (h : IntsAre vs ns) : ∀ {i : Nat}, i < ns.length → ∃ t, vs[i]? = some (.int (ns.getD i 0) t) := by
  induction h with
  | nil => intro i h; cases h
  | cons n t _ ih =>
    intro i h
    cases i with
    | zero => exact ⟨t, rfl⟩
    | succ i => exact ih (Nat.lt_of_succ_lt_succ h)
end
theorem TM : True := by
  k_with "call builtin:min" => (k_here; refine hlt10 ?_)
  trivial
section
variable {w : World} {p : Program} {loose : List Str} {mean : ExcName → Option Value} {mg mb : Str → Option Value} {dp un : Nat} {gdg : Option (List Code)} {cn : Str} {cs : Scope} {a : Addr} {ccd : Value} {cl : List (Str × Addr)} {outer : List Env} {A₀ : Around} {base h₀ : Heap} {L : Addr} {m : Str → Option Value} {s : Shared} {Q E : Value → Shared → Prop} {led led' : List (Addr × Obj)}
variable (B : Below A₀ base outer h₀) (F : Fr h₀ L s.heap m) (X : (KK w.params).In h₀) (T : Top p loose mean mg mb h₀) (hk : cs.kind = .function) (N : News h₀ L s.heap led)
include B F X T hk N
omit B F X T hk N in
theorem Si {A : Around} {a b : Int} {t u : Tok} {Q : Value → Shared → Prop} (hh : A.handled = none) (h : ∀ tk h' tk', Up s.heap h' → Q (.int (min a b) tk) { s with heap := h', toks := tk' }) :
    wpAny (model pw w) A (call (.builtin "min") [.int a t, .int b u]) Q E s :=
  min_two_ints hh fun h' tk hk => by
    have := fun t => h t h' tk hk
    by_cases c : b < a
    · have e : min a b = b := by omega
      rw [e] at this
      first | exact this _ | simpa only [if_pos c] using this u
    · have e : min a b = a := by omega
      rw [e] at this
      first | exact this _ | simpa only [if_neg c] using this t
omit B F X T hk N in
theorem FU {α : Type} {p : Int × α → Int} {ps : List (Int × α)} : ∀ {qs : List (Int × α)} {ys : List Value}, (∀ x ∈ qs, x ∈ ps) → Paired (fun key y => ∀ x ∈ ps, x.1 = key → IsI (p x) y) (qs.map (·.1)) ys → IntsAre ys (qs.map p)
  | [], _, _, h => by cases h; exact .nil
  | q :: qs, _, hs, h => by
    cases h with
    | cons a b =>
      obtain ⟨t, rfl⟩ := a q (hs q (.head _)) rfl
      exact .cons _ _ (FU (fun x hx => hs x (.tail _ hx)) b)
omit B F X T hk N in
theorem QU {h₀ h : Heap} {L : Addr} {m m' : Str → Option Value} {a b c : Str} {x y : Option Value} (F : Fr h₀ L h (fun z => if z = b then y else if z = a then x else m' z)) (hm : ∀ z, z ∉ [a, b, c] → m' z = m z) : Fr h₀ L h (fun z => if z = b then y else if z = a then x else if z = c then m' c else m z) := by
  have e : (fun z => if z = b then y else if z = a then x else m' z) = (fun z => if z = b then y else if z = a then x else if z = c then m' c else m z) := by
    funext z
    by_cases h1 : z = b
    · rw [if_pos h1, if_pos h1]
    · by_cases h2 : z = a
      · rw [if_neg h1, if_neg h1, if_pos h2, if_pos h2]
      · by_cases h3 : z = c
        · rw [if_neg h1, if_neg h1, if_neg h2, if_neg h2, if_pos h3, h3]
        · rw [if_neg h1, if_neg h1, if_neg h2, if_neg h2, if_neg h3]
          exact hm z (by simp only [List.mem_cons, List.not_mem_nil, or_false, not_or]; exact ⟨h2, h1, h3⟩)
  rw [e] at F
  exact F
omit B F X T hk N in
theorem Pl {wr : Array UInt8} {n : Int} (h0 : 0 ≤ n) (h1 : n ≤ wr.size) : KBy.picked wr none (some ((pre wr n).size : Int)) = pre wr n := by
  rw [Js h0 h1, KBc.picked_eq]
  have e1 : clipAt wr.size n = n.toNat := Lh h0 h1
  simp only [Option.elim, e1, pre, List.drop_zero, Nat.sub_zero]
end
noncomputable def EI : T24 (SD → CS → Addr → Addr → Addr → Addr → Addr → Addr → Addr → Obj → Obj → Int → Int → Int → Int → Int → Tok → Tok → Tok → Tok → Tok → Tok → Nat → Nat → Nat → (List (Int × Part)) → (List (Int × Value)) → (List Value) → (List Value) → (List Int) → (List Wd) → (List (Addr × Obj)) → Prop) := fun w pgm loose mean mg mb dp un gdg cn cs a ccd cl outer A₀ base h₀ L m s Q E led k kc sp ds dc gd fa sa wa oS oG turn used d l u t0 t5 t6 td tl tu nf ns nw ps gvs svs wvs zs ws wobjs =>
  (Below A₀ base outer h₀) → (Fr h₀ L s.heap m) → ((KK w.params).In h₀) → (Top pgm loose mean mg mb h₀) → (cs.kind = .function) → (News h₀ L s.heap led) → ((sp, instObj 790 ds) ∈ led) → ((ds, BF k turn t0) ∈ led) → ((k.se, oS) ∈ led) → ((k.cr, instObj 115 dc) ∈ led) → ((dc, AI kc (limOf (lim0 d l u zs.length) ws).d t5 used t6) ∈ led) → ((gd, oG) ∈ led) → (∀ q ∈ Bv ps, q ∈ led) → ((fa, PySem.W.listOf #[.int d td, .int l tl, .int u tu] nf) ∈ led) → ((sa, PySem.W.listOf svs.toArray ns) ∈ led) → ((wa, PySem.W.listOf wvs.toArray nw) ∈ led) → (∀ q ∈ wobjs, q ∈ led) → (IntsAre svs zs) → (zs.length ≤ 3) → (WordsAre wobjs wvs ws) → (∀ x ∈ ws, x.ok zs.length) → (ws.length ≤ 16) → (∀ (j : Nat) x, ps[j]? = some x → x.1 = 2 * (j : Int) ∧ x.2.lim = (limOf (lim0 d l u zs.length) ws).l.getD j 0 ∧ x.2.wr = octs j (zs.getD j 0).toNat) → (ps.length = zs.length) → (GotOk gvs ps) → (∀ x ∈ ps, 0 ≤ x.2.snt ∧ x.2.snt ≤ x.2.wr.size ∧ x.2.snt ≤ x.2.lim) → (∀ z ∈ zs, 1 ≤ z ∧ z ≤ 6) → (used = FW ps) → (used = min (limOf (lim0 d l u zs.length) ws).d ((List.range' 0 zs.length).map fun i => min ((limOf (lim0 d l u zs.length) ws).l.getD i 0) (zs.getD i 0)).sum) → (oS.IsDictOf (PySem.intKind pw w) (Cj ps)) → ((k.se == sysModules) = false) → (oG.IsDictOf (PySem.intKind pw w) gvs) → ((gd == sysModules) = false) → (dp + 14 < recursionLimit) → (un + 140 < cLine) → (∀ (h' : Heap) (tk' : Nat), Up s.heap h' → Q (.bool true) { s with heap := h', toks := tk' }) →
  wpI (model pw w) (ktrTop dp un gdg cn cs L a ccd cl outer) (PySem.call (.ref 831) [.ref sp, .ref gd, .ref fa, .ref sa, .ref wa]) Q E s
@[irreducible] def Ao := eps 4594100 (by walk_at "nonempty") (ccx PI EI)
namespace Im
def k := Ao.2.1.1.1.1.1
def gd := Ao.2.1.1.2.1.2
def sa := Ao.2.1.1.2.2.2
def oG := Ao.2.1.2.1.2.1
def used := Ao.2.1.2.2.1.1
def d := Ao.2.1.2.2.1.2
def l := Ao.2.1.2.2.2.1
def u := Ao.2.1.2.2.2.2
def ns := Ao.2.2.1.2.2.2
def ps := Ao.2.2.2.1.1.2
def svs := Ao.2.2.2.1.2.2
def zs := Ao.2.2.2.2.1.2
def ws := Ao.2.2.2.2.2.1
noncomputable def Fl : (R1 : Heap → Addr → Heap → Nat → Obj → Obj → Obj → Lim → Addr → Addr → Addr → Tok → Tok → Tok → Nat → Nat → Nat → (List Value) → Heap → Nat → Prop) ×' (Kp (∀ x0 x1 x2 x3 x4 x5 x6 x7 x8 x9 x10 x11 x12 x13 x14 x15 x16 x17 x18 x19, R1 x0 x1 x2 x3 x4 x5 x6 x7 x8 x9 x10 x11 x12 x13 x14 x15 x16 x17 x18 x19) → (vcx EI Ao.1 k Ao.2.1.1.1.1.2 Ao.2.1.1.1.2.1 Ao.2.1.1.1.2.2 Ao.2.1.1.2.1.1 gd Ao.2.1.1.2.2.1 sa Ao.2.1.2.1.1.1 Ao.2.1.2.1.1.2 oG Ao.2.1.2.1.2.2 used d l u Ao.2.2.1.1.1.1 Ao.2.2.1.1.1.2 Ao.2.2.1.1.2.1 Ao.2.2.1.1.2.2 Ao.2.2.1.2.1.1 Ao.2.2.1.2.1.2 Ao.2.2.1.2.2.1 ns Ao.2.2.2.1.1.1 ps Ao.2.2.2.1.2.1 svs Ao.2.2.2.2.1.1 zs ws Ao.2.2.2.2.2.2)) := ⟨_, fun K1 => by
  intro B F X T hk N mS mD mE mC mK mG mp m1 m2 m3 mw hz hn3 hw hwok hwl hps hpl hgot hsnt hzr hsum hmost hS hsys hG hgsys hd hu hret
  have hnz := hz.length
  have hnd : (ps.map (·.1)).Nodup := by
    refine List.pairwise_iff_getElem.mpr fun i j hi hj hij e => ?_
    rw [List.length_map] at hi hj
    rw [List.getElem_map, List.getElem_map] at e
    have := (hps i _ (List.getElem?_eq_getElem hi)).1
    have := (hps j _ (List.getElem?_eq_getElem hj)).1
    omega
  have hwle : ∀ x ∈ ps, x.2.wr.size ≤ 6 := fun x hx => by
    obtain ⟨j, hj, ej⟩ := List.mem_iff_getElem.mp hx
    have h1 := hps j x (by rw [List.getElem?_eq_getElem hj, ej])
    have h2 := hzr (zs.getD j 0) (by
      rw [List.getD_eq_getElem?_getD, List.getElem?_eq_getElem (by omega)]
      exact List.getElem_mem _)
    rw [h1.2.2, Ez]
    omega
  walk_at "CI open"
  refine Ai (Cb ?_)
  refine AK ?_
  k_steps
  walk_at "I callF"
  walk_at "I arg"
  walk_at "I arg"
  walk_at "I fn"
  refine Ft (n := zs.length) (by k_asm) (by k_asm) (by k_asm) (by k_asm) rfl (by k_asm) (by k_mem) (by k_mem) (by k_mem) (fun q hq => List.mem_cons_of_mem _ (List.mem_cons_of_mem _ (List.mem_cons_of_mem _ (mw q hq)))) hnz hn3 hw hwok hwl (by walk_at "rm") (by walk_at "rm") ?_
  have hMl : (limOf (lim0 d l u zs.length) ws).l.length = zs.length := by rw [DI]; simp [lim0]
  generalize limOf (lim0 d l u zs.length) ws = M at mK hps hmost hMl
  intro D Xa Ya tD ta tb nD1 nD2 nD3 vs2 h' tk' hiv F' g1 g2 g3 N'
  have c1 := g1 _ (.head _)
  have c2 := g1 _ (.tail _ (.head _))
  have c3 := g1 _ (.tail _ (.tail _ (.head _)))
  have c4 := g2 _ (.head _)
  have c5 := g2 _ (.tail _ (.head _))
  have c6 := g2 _ (.tail _ (.tail _ (.head _)))
  have c7 := g3 _ (.head _)
  have c8 := g3 _ (.tail _ (.head _))
  have c9 := g3 _ (.tail _ (.tail _ (.head _)))
  dsimp only at c1 c2 c3 c4 c5 c6 c7 c8 c9
  clear g1 g2 g3
  rename_i c1_1 c1_2 c1_3 c1_4 z1 z2 _ _ _ _ z3 c1_5 c1_6 c1_7 _ _ _ _
  clear B F hk m1 m3 mw hw hwok hwl z1 z2 z3 c2 c3 c5 c6 c8 c9
  walk_at "rv"
  intro K1
  exact K1.p c1_1 c1_2 c1_3 c1_4 c1_5 c1_6 c1_7 M D Xa Ya tD ta tb nD1 nD2 nD3 vs2 h' tk'⟩
@[irreducible] def AW := eps 4594101 (by walk_at "nonempty") (Mj Fl.1)
namespace kut1
def M := AW.1.2.1.2
def D := AW.1.2.2.1
def Xa := AW.1.2.2.2
def Ya := AW.2.1.1.1.1
def tD := AW.2.1.1.1.2
def nD1 := AW.2.1.2.2
def nD2 := AW.2.2.1.1.1
def vs2 := AW.2.2.1.2
noncomputable def JB : Stg (F := Heap → Obj → Addr → Heap → Nat → (Array Value) → Nat → Prop) Fe (Fl.1 AW.1.1.1.1.1 AW.1.1.1.1.2 AW.1.1.1.2 AW.1.1.2.1 AW.1.1.2.2 AW.1.2.1.1.1 AW.1.2.1.1.2 M D Xa Ya tD AW.2.1.1.2 AW.2.1.2.1 nD1 nD2 AW.2.2.1.1.2 vs2 AW.2.2.2.1 AW.2.2.2.2) := mk7 _ fun K2 => by
  intro X T N mS mD mE mC mG mp m2 hz hn3 hpl hgot hsnt hzr hsum hS hsys hG hgsys hd hu hret hnz hnd hwle y27 y28 y29 y30 y31 y32 y33 y34 mK hps hmost hMl hiv F' N' c1 c4 c7
  k_steps
  try dsimp only
  refine Ai (Ae ?_)
  k_steps
  delta Cg
  refine Ds (fun i y => IsI (min (M.l.getD i 0) (zs.getD i 0)) y) rfl (its := svs.toArray) (l := sa) (by rw [List.size_toArray, hnz]; omega) (by k_asm) (by k_mem) (by with_unfolding_all rfl) (by decide) (by with_unfolding_all rfl) (by decide) (by with_unfolding_all rfl) (by with_unfolding_all rfl) (by decide) ?hi ?he ?hq
  case hi =>
    intro Q' hQ'
    k_steps
    exact hQ'
  case he =>
    intro C i v t s₃ m₃ E' hv hn' hm1 hm2 up
    obtain ⟨z, tz, rfl, hzi⟩ := IntsAre.at hz i v (by simpa using hv)
    have F3 := Cw (by k_asm) up
    have N3 := Cf (by k_asm) up
    have hil : i < zs.length := (List.getElem?_eq_some_iff.mp hzi).1
    obtain ⟨tv, hvi⟩ := JN hiv (by rw [hMl]; exact hil)
    have hzg : zs.getD i 0 = z := by rw [List.getD_eq_getElem?_getD, hzi]; rfl
    k_steps
    delta Cg
    refine Fk (v := Value.ref Xa) (by k_asm) (by k_mem) (by decide) (by decide) rfl ?_
    k_steps
    delta Cg
    refine Fk (v := .int (M.l.getD i 0) tv) (by k_asm) (by k_mem) (by omega) (by omega) (by simpa using hvi) ?_
    k_steps
    delta Cg
    refine Si rfl (fun tm hm tkm upm => ?_)
    k_steps
    · exact ⟨_, by rw [hzg]⟩
    · exact CF upm
  case hq =>
    intro D1 h3 tk3 ys hD hpl' hpr up
    dsimp only at hD
    obtain ⟨nD, hD2⟩ := hpl'
    have fD := Fp (by k_asm) hD
    have F3 := Cw (by k_asm) up
    have N3 := Dq (o := PySem.W.listOf ys nD) (by k_asm) (by k_asm) up hD hD2
    have hiM := Fw hpr
    rw [List.size_toArray, hnz] at hiM
    clear hpr
    rename_i c2_1 c2_2 z1 _ _
    clear y30 y31 c1 c4 c7 z1 hD fD
    walk_at "rv"
    intro K2
    exact K2.p c2_1 c2_2 D1 h3 tk3 ys nD
@[irreducible] def MS := eps 4594102 (by walk_at "nonempty") (Fe JB.1)
noncomputable def JC : Stg (F := Nat → Tok → Heap → Heap → Nat → Prop) Cz (Fe JB.1 MS) := mk5 _ fun K3 => by
  intro X T N mS mD mE mC mG mp m2 hz hn3 hpl hgot hsnt hzr hsum hS hsys hG hgsys hd hu hret hnz hnd hwle y27 y28 y29 y30 y31 mK hps hmost hMl hiv y37 y38 up hD2 F3 N3 hiM
  k_steps
  refine Ai (FV (Ae ?_))
  k_steps
  delta Cg
  refine Fk (v := .int M.d tD) (by k_asm) (by k_mem) (by decide) (by decide) rfl ?_
  k_steps
  delta Cg
  refine Si rfl (fun tm hm tkm upm => ?_)
  walk_at "k upd"
  rw [← hmost]
  have hne : (used != used) = false := by simp
  k_steps
  delta Cg
  have hgl := congrArg List.length hgot.keys
  rw [List.length_map, List.length_map] at hgl
  rename_i c3_1 c3_2 c3_3 z1 _
  clear z1
  walk_at "rv"
  intro K3
  exact K3.p c3_1 c3_2 c3_3 hm tkm
@[irreducible] def Ej := eps 4594103 (by walk_at "nonempty") (Cz JC.1)
namespace kut3
def hm := Ej.2.1
noncomputable def Gs : Stg (F := Addr → Heap → (Array Value) → Nat → Heap → Nat → Prop) CR (JC.1 Ej.1.1.1 Ej.1.1.2 Ej.1.2 hm Ej.2.2) := mk6 _ fun K4 => by
  intro X T N mS mD mE mC mG mp m2 hz hn3 hpl hgot hsnt hzr hsum hS hsys hG hgsys hd hu hret hnz hnd hwle y27 y28 y29 y30 y31 mK hps hmost hMl hiv y37 up hD2 hiM y41 F' N' hne hgl
  refine Lk (fun _ => true) (fun key y => ∀ x ∈ ps, x.1 = key → IsI x.2.snt y) rfl (by k_asm) (show (gd, oG) ∈ _ by k_mem) hG hgsys (by rw [sizeLine_eq]; omega) (by with_unfolding_all rfl) (by decide) (by with_unfolding_all rfl) (by decide) (by with_unfolding_all rfl) ?hi ?ht ?he ?hq
  case hi =>
    k_steps
    exact CF (Fc _)
  case ht =>
    intro C key t s₃ m₃ E' hkey hn hm up
    exact wpAny_tests_nil ⟨rfl, ⟨_, _, rfl, fun _ _ e => e⟩⟩
  case he =>
    intro C key t s₃ m₃ E' hkey _ hn' hm1 up
    rw [hgot.keys] at hkey
    obtain ⟨x, hx, rfl⟩ := List.mem_map.mp hkey
    obtain ⟨tv, hv⟩ := hgot.val x hx
    have F4 := Cw (by k_asm) up
    have N4 := Cf (by k_asm) up
    have hok := hsnt x hx
    have hsz := Js hok.1 hok.2.1
    have hszle : (pre x.2.wr x.2.snt).size ≤ 6 := by
      have := hwle x hx
      omega
    k_steps
    delta Cg
    refine kda_item (knd := PySem.intKind _ _) (by k_asm) (show (gd, oG) ∈ _ by k_mem) hG (intKind_is _ _ _ _) hv ?_
    k_steps
    · rename_i y hy e
      have := Di hnd hy hx e
      subst this
      exact ⟨_, by rw [hsz]⟩
    · exact CF (Fc _)
  case hq =>
    intro D2 h4 tk4 ys2 hD2 hpl2 hpr2 up
    obtain ⟨nD2', hD2'⟩ := hpl2
    have fD2 := Fp (by k_asm) hD2
    have F4 := Cw (by k_asm) up
    have N4 := Dq (o := PySem.W.listOf ys2 nD2') (by k_asm) (by k_asm) up hD2 hD2'
    have hiS : IntsAre ys2.toList (ps.map fun (x : Int × Part) => x.2.snt) := by
      refine FU (p := fun (x : Int × Part) => x.2.snt) (fun x hx => hx) ?_
      rw [hgot.keys, List.filter_eq_self.mpr fun _ _ => rfl] at hpr2
      exact hpr2
    have hsum2 : ((ps.map fun (x : Int × Part) => x.2.snt).sum != used) = false := by
      rw [show (ps.map fun (x : Int × Part) => x.2.snt).sum = used from hsum.symm]; simp
    clear hpr2
    k_steps
    refine Bc ?_
    dsimp only
    clear hsum2 hne hmost hsum hiS
    have N5 : News _ _ _ ((D, PySem.W.listOf #[Value.int M.d tD, Value.ref Xa, Value.ref Ya] nD1) :: (Xa, PySem.W.listOf vs2.toArray nD2) :: _) := news_sub (by k_asm) (fun q hq => .tail _ (.tail _ hq))
    rename_i z1 z2 c4_1 c4_2 _ _ _
    clear z1 z2
    walk_at "rv"
    intro K4
    exact K4.p D2 h4 ys2 nD2' c4_1 c4_2
@[irreducible] def CU := eps 4594104 (by walk_at "nonempty") (CR Gs.1)
namespace kut4
def D2 := CU.1.1.1
def h4 := CU.1.1.2
def ys2 := CU.1.2
def nD2' := CU.2.1.1
noncomputable def Do : (R5 : Addr → Addr → Obj → Obj → Nat → Tok → Heap → Nat → (Str → Option Value) → Tok → Tok → (Int × Part) → Tok → Nat → (Array UInt8) → Prop) ×' (R7 : Heap → Nat → (Str → Option Value) → Prop) ×' (Kp (∀ x0 x1 x2 x3 x4 x5 x6 x7 x8 x9 x10 x11 x12 x13 x14, R5 x0 x1 x2 x3 x4 x5 x6 x7 x8 x9 x10 x11 x12 x13 x14) → Kp (∀ x0 x1 x2, R7 x0 x1 x2) → (Gs.1 D2 h4 ys2 nD2' CU.2.1.2 CU.2.2)) := ⟨_, _, fun K5 K7 => by
  intro X T N mS mD mE mC mG mp m2 hz hn3 hpl hgot hsnt hzr hS hsys hG hgsys hd hu hret hnz hnd hwle y26 y27 y28 y29 y30 mK hps hMl hiv y35 hiM y37 F' N' hgl hD2 up hD2' fD2 F4 N4 y47 y48 N5
  refine Ai (GR ?_)
  k_steps
  try delta Cg
  refine Mr (K := fun _ l' => l' = _) rfl (show (sa, PySem.W.listOf svs.toArray ns) ∈ _ by k_mem) rfl rfl rfl rfl [Str.ofString "at", Str.ofString "size", Str.ofString "some"] (by simp) (by simp) (fun i l' e => by subst e; k_mem) (by assumption) N5 rfl ?hstep ?hdone
  case hstep =>
    rintro e it oe oi i v t h tk m' led' hv rfl hap3 hm Fi Ni
    obtain ⟨z, tz, rfl, hzi⟩ := IntsAre.at hz i v (by simpa using hv)
    have hil : i < zs.length := (List.getElem?_eq_some_iff.mp hzi).1
    have Fi2 := QU Fi hm
    clear Fi
    refine Ai (Ae ?_)
    k_steps
    delta Cg
    refine Jb (by k_asm) (by k_asm) (by omega) (fun tq => ?_)
    have hx := List.getElem?_eq_getElem (show i < ps.length by omega)
    obtain ⟨x1, x2, x3⟩ := hps i _ hx
    have hxm := List.getElem_mem (show i < ps.length by omega)
    generalize ps[i]'(by omega) = x at hx x1 x2 x3 hxm
    obtain ⟨tv, hv2⟩ := hgot.val x hxm
    have hzg : zs.getD i 0 = z := by rw [List.getD_eq_getElem?_getD, hzi]; rfl
    have hok := hsnt x hxm
    have hw6 := hwle x hxm
    rw [x3, hzg] at hv2 hok
    rw [x1] at hv2
    obtain ⟨nz, hnz2⟩ : ∃ nz : Nat, z = nz := ⟨z.toNat, by have := hzr z (List.mem_of_getElem? hzi); omega⟩
    have hz6 := hzr z (List.mem_of_getElem? hzi)
    subst hnz2
    simp only [Int.toNat_natCast] at hok hv2
    rw [Ez] at hok
    have hsz := Js (wr := octs i nz) hok.1 (by rw [Ez]; exact hok.2.1)
    generalize hpre : pre (octs i nz) x.2.snt = some0 at hsz hv2
    have hsz6 : some0.size ≤ 6 := by omega
    clear X T N mS mD mE mC mp m2 hgot hsnt hzr hS hsys hgsys hret hnd hwle y29 y30 mK hps y37 hD2' fD2 F4 N4 y47 y48 N5 hx x1 x3 hxm hw6 hzi hv hzg
    walk_at "rv"
    intro K5 K7
    exact K5.p e it oe oi i t h tk m' tz tq x tv nz some0
  case hdone =>
    rintro h tk m' led' rfl Fi hm Ni
    have Fi2 := Mi Fi hm
    clear Fi
    clear m2 hz hsnt hzr hwle hiM y47
    walk_at "rv"
    intro K5 K7
    exact K7.p h tk m'⟩
@[irreducible] def BD := eps 4594105 (by walk_at "nonempty") (Jc Do.1)
namespace kut5
def i := BD.1.2.1.1
def nz := BD.2.2.1.2
def some0 := BD.2.2.2
noncomputable def Ja : Stg (F := Heap → Tok → Heap → Nat → Prop) Ch (Do.1 BD.1.1.1.1 BD.1.1.1.2 BD.1.1.2.1 BD.1.1.2.2 i BD.1.2.1.2 BD.1.2.2.1 BD.1.2.2.2 BD.2.1.1.1 BD.2.1.1.2 BD.2.1.2.1 BD.2.1.2.2 BD.2.2.1.1 nz some0) := mk4 _ fun K6 => by
  intro mG hz hn3 hpl hG hd hu hnz y8 y9 y10 hMl hiv y13 hiM F' N' hgl hD2 up hap3 hm Ni hil x2 Fi2 hok hz6 hpre hsz hv2 hsz6
  k_steps
  delta Cg
  refine kda_item (knd := PySem.intKind _ _) (by k_asm) (show (gd, oG) ∈ _ by k_mem) hG (intKind_is _ _ _ _) hv2 ?_
  k_steps
  dsimp only
  refine Ai (FV (Ae ?_))
  k_steps
  delta Cg
  refine Nn (n := nz) (by k_asm) (by k_asm) (by k_asm) (by k_asm) rfl (by k_asm) (by omega) (by omega) (by walk_at "rm") (by walk_at "rm") ?_
  intro to h5 tk5 up5
  walk_at "k upd"
  have hoz := Ez i nz
  have hpk := Pl (wr := octs i nz) hok.1 (by rw [Ez]; exact hok.2.1)
  rw [hpre] at hpk
  unfold octs at hoz hpk
  have hne : (some0.toList != (KBy.picked (byteArr (List.map (fun k => 40 * (i : Int) + k + 1) (rangeKs 0 nz))) none (some (some0.size : Int))).toList) = false := by rw [hpk]; simp
  have hgt : ¬ ((some0.size : Int) > M.l.getD i 0) := by rw [hsz, ← x2]; omega
  rename_i c6_1 z1 z2
  clear mG hG hd hu y8 Ni x2 Fi2 hpre hv2 z1 z2 hpk
  walk_at "rv"
  intro K6
  exact K6.p c6_1 to h5 tk5
@[irreducible] def MX := eps 4594106 (by walk_at "nonempty") (Ch Ja.1)
theorem Rv : Ch Ja.1 MX := by
  intro hz hn3 hpl hnz y4 y5 hMl hiv y8 hiM hgl hD2 up hap3 hm hil hok hz6 hsz hsz6 F' N' hoz hne hgt
  k_steps
  delta Cg
  refine Fk (v := Value.ref Xa) (by k_asm) (by k_mem) (by decide) (by decide) rfl ?_
  k_steps
  delta Cg
  obtain ⟨tv2, hvi⟩ := JN hiv (by rw [hMl]; exact hil)
  refine Fk (v := .int (M.l.getD i 0) tv2) (by k_asm) (by k_mem) (by omega) (by omega) (by simpa using hvi) ?_
  k_steps
  dsimp only
  refine Bc ?_
  refine Bc ?_
  try dsimp only
  refine FO.intro (K := fun l' => l' = _) (by assumption) ?_ (by k_asm) rfl hap3
  intro z hz
  have hz2 := hm z hz
  simp only [List.mem_cons, List.not_mem_nil, or_false, not_or] at hz
  simp only [hz.1, hz.2.1, hz.2.2, if_false]
end kut5
@[irreducible] def Ji := eps 4594107 (by walk_at "nonempty") (CG Do.2.1)
noncomputable def Jo : (R8 : Prop) ×' (Kp R8 → (CG Do.2.1 Ji)) := ⟨_, fun K8 => by
  intro X T N mS mD mE mC mG mp hn3 hpl hgot hS hsys hG hgsys hd hu hret hnz hnd y21 y22 y23 y24 y25 mK hps hMl hiv y30 y31 F' N' hgl hD2 up hD2' fD2 F4 N4 y41 N5 hm Ni Fi2
  have hll : ps.map (fun (x : Int × Part) => x.2.lim) = M.l := by
    refine List.ext_getElem (by rw [List.length_map]; omega) fun j h1 h2 => ?_
    rw [List.length_map] at h1
    rw [List.getElem_map, (hps j _ (List.getElem?_eq_getElem h1)).2.1, List.getD_eq_getElem?_getD, List.getElem?_eq_getElem h2]
    rfl
  dsimp only
  refine Ai (Ae ?_)
  k_steps
  try dsimp only
  delta Cg
  refine Fk (v := .int M.d tD) (by k_asm) (by k_mem) (by decide) (by decide) rfl ?_
  have hmm : (M.d == M.d) = true := by simp
  k_steps
  try dsimp only
  delta Cg
  have hgl2 := congrArg List.length hgot.keys
  rw [List.length_map, List.length_map] at hgl2
  clear mC mK hps hmm hgl2
  walk_at "rv"
  intro K8
  exact K8.p ⟩
noncomputable def GM : Stg (F := Addr → Heap → Nat → (Array Value) → Nat → Prop) Cz (Jo.1) := mk5 _ fun K9 => by
  intro X T N mS mD mE mG mp hn3 hpl hgot hS hsys hG hgsys hd hu hret hnz hnd y20 y21 y22 y23 y24 hMl hiv y27 y28 F' N' hgl hD2 up hD2' fD2 F4 N4 y38 N5 hm Ni Fi2 hll
  refine Lk (fun _ => true) (fun key y => ∀ x ∈ ps, x.1 = key → IsI x.2.lim y) rfl (by k_asm) (show (gd, oG) ∈ _ by k_mem) hG hgsys (by rw [sizeLine_eq]; omega) (by with_unfolding_all rfl) (by decide) (by with_unfolding_all rfl) (by decide) (by with_unfolding_all rfl) ?hi ?ht ?he ?hq
  case hi =>
    k_steps
    exact CF (Fc _)
  case ht =>
    intro C key t s₃ m₃ E' hkey hn hm up
    exact wpAny_tests_nil ⟨rfl, ⟨_, _, rfl, fun _ _ e => e⟩⟩
  case he =>
    intro C key t s₃ m₃ E' hkey _ hn' hm1 up
    rw [hgot.keys] at hkey
    obtain ⟨x, hx, rfl⟩ := List.mem_map.mp hkey
    have F4 := Cw (by k_asm) up
    have N4 := Cf (by k_asm) up
    have mp1 : (x.2.p, instObj 498 x.2.d) ∈ Ao.1.led := mp _ (Bs hx (.head _))
    have mp2 : (x.2.d, Ca x.2.k x.2.lim x.2.t1 x.2.st x.2.t2 x.2.wr x.2.t3 x.2.snt x.2.t4 x.2.lo) ∈ Ao.1.led := mp _ (Bs hx (.tail _ (.head _)))
    k_steps
    delta Cg
    refine Of (by k_asm) (by k_asm) (by k_asm) (by k_asm) rfl (by k_asm) (by k_mem) (by k_mem) (by k_mem) hS (Hq ps x.1 x.2 hnd hx) hsys (by walk_at "rm") (by walk_at "rm") ?_
    intro h5 tk5 up5
    have F5 := Cw (by k_asm) up5
    have N5 := Cf (by k_asm) up5
    k_steps
    · rename_i y hy e
      have := Di hnd hy hx e
      subst this
      exact ⟨_, rfl⟩
    · exact CF up5
  case hq =>
    intro D2 h4 tk4 ys2 hD2 hpl2 hpr2 up
    obtain ⟨nD2', hD2'⟩ := hpl2
    have fD2 := Fp (by k_asm) hD2
    have F4 := Cw (by k_asm) up
    have N4 := Dq (o := PySem.W.listOf ys2 nD2') (by k_asm) (by k_asm) up hD2 hD2'
    have hiS : IntsAre ys2.toList M.l := by
      rw [← hll]
      refine FU (p := fun (x : Int × Part) => x.2.lim) (fun x hx => hx) ?_
      rw [hgot.keys, List.filter_eq_self.mpr fun _ _ => rfl] at hpr2
      exact hpr2
    clear hpr2
    rename_i z1 z2 z3 z4 z5 _
    clear mS mD mE mG mp hn3 hpl hgot hS hsys hG hgsys hd hnz hnd y20 y21 y22 y23 y24 hMl hgl z1 z2 z3 z4 z5 hm Fi2 hll
    walk_at "rv"
    intro K9
    exact K9.p D2 h4 tk4 ys2 nD2'
@[irreducible] def DH := eps 4594109 (by walk_at "nonempty") (Cz GM.1)
namespace kut9
def h4 := DH.1.1.2
theorem Rw : GM.1 DH.1.1.1 h4 DH.1.2 DH.2.1 DH.2.2 := by
  intro X T N hu hret hiv y6 y7 F' N' y10 y11 N5 Ni hD2 up hD2' fD2 F4 N4 hiS
  k_steps
  delta Cg
  refine Fk (v := .ref Xa) (by k_asm) (by k_mem) (by decide) (by decide) rfl ?_
  k_steps
  rename Off _ _ _ => off
  rename News Ao.1.h₀ Ao.1.L h4 _ => Nb
  exact hret _ _ (Ee N (news_sub Nb (fun q hq => by repeat (first | with_reducible exact hq | apply List.mem_cons_of_mem))) off)
end kut9
theorem Rs : Gs.1 D2 h4 ys2 nD2' CU.2.1.2 CU.2.2 :=
  Do.2.2 ⟨fun x0 x1 x2 x3 x4 x5 x6 x7 x8 x9 x10 x11 x12 x13 x14 => BH (P := Jc Do.1) BD (AQ kut5.Ja kut5.MX kut5.Rv) ((((x0, x1), x2, x3), (x4, x5), x6, x7), ((x8, x9), x10, x11), (x12, x13), x14)⟩ ⟨fun x0 x1 x2 => BH (P := CG Do.2.1) Ji (Jo.2 ⟨(AQ GM DH kut9.Rw)⟩) ((x0, x1), x2)⟩
end kut4
end kut3
end kut1
theorem RK : vcx EI Ao.1 k Ao.2.1.1.1.1.2 Ao.2.1.1.1.2.1 Ao.2.1.1.1.2.2 Ao.2.1.1.2.1.1 gd Ao.2.1.1.2.2.1 sa Ao.2.1.2.1.1.1 Ao.2.1.2.1.1.2 oG Ao.2.1.2.1.2.2 used d l u Ao.2.2.1.1.1.1 Ao.2.2.1.1.1.2 Ao.2.2.1.1.2.1 Ao.2.2.1.1.2.2 Ao.2.2.1.2.1.1 Ao.2.2.1.2.1.2 Ao.2.2.1.2.2.1 ns Ao.2.2.2.1.1.1 ps Ao.2.2.2.1.2.1 svs Ao.2.2.2.2.1.1 zs ws Ao.2.2.2.2.2.2 :=
  Fl.2 ⟨fun x0 x1 x2 x3 x4 x5 x6 x7 x8 x9 x10 x11 x12 x13 x14 x15 x16 x17 x18 x19 => BH (P := Mj Fl.1) AW (AQ kut1.JB kut1.MS (AQ kut1.JC kut1.Ej (AQ kut1.kut3.Gs kut1.kut3.CU kut1.kut3.kut4.Rs))) (((((x0, x1), x2), x3, x4), ((x5, x6), x7), x8, x9), (((x10, x11), x12), x13, x14), ((x15, x16), x17), x18, x19)⟩
end Im
def Im {w p loose mean mg mb dp un gdg cn cs a ccd cl outer A₀ base h₀ L m s Q E led k kc sp ds dc gd fa sa wa oS oG turn used d l u t0 t5 t6 td tl tu nf ns nw ps gvs svs wvs zs ws wobjs} :=
  (EI.eq_1 w p loose mean mg mb dp un gdg cn cs a ccd cl outer A₀ base h₀ L m s Q E led k kc sp ds dc gd fa sa wa oS oG turn used d l u t0 t5 t6 td tl tu nf ns nw ps gvs svs wvs zs ws wobjs).mp ((BH (P := ccx PI EI) Ao Im.RK ((⟨w, p, loose, mean, mg, mb, dp, un, gdg, cn, cs, a, ccd, cl, outer, A₀, base, h₀, L, m, s, Q, E, led⟩ : Cx), ((((k, kc), sp, ds), (dc, gd), fa, sa), ((wa, oS), oG, turn), (used, d), l, u), (((t0, t5), t6, td), (tl, tu), nf, ns), ((nw, ps), gvs, svs), (wvs, zs), ws, wobjs)))
end
section
structure SOk (w : World) (kP : List (Str × Value)) (zs : List Int) (M : Lim) (S : Side) : Prop where
  pe : S.k.pe = .ref S.k.pa
  nd : [S.ds, S.dc, S.id, S.k.se, S.k.re, S.k.ws, S.k.pa].Nodup
  nl : S.ki.ol ≠ S.ki.om
  sys : (S.k.se == sysModules) = false
  dS : S.oS.IsDictOf (PySem.intKind pw w) (Cj S.ps)
  dR : ∃ kR : List (Int × Value), S.oR.IsDictOf (PySem.intKind pw w) kR ∧ kR.length ≤ 3
  dW : ∃ kW : List (Int × Value), S.oW.IsDictOf (PySem.intKind pw w) kW ∧ kW.length ≤ 3
  dP : S.oP.IsDictOf (PySem.strKind pw w) kP
  len : S.ps.length = zs.length
  l : M.l.length = zs.length
  part : ∀ (j : Nat) x, S.ps[j]? = some x → x.1 = 2 * (j : Int) ∧ x.2.lim = M.l.getD j 0 ∧ x.2.wr = octs j (zs.getD j 0).toNat
  pd : ∀ x ∈ S.ps, x.2.d ∉ [S.ds, S.dc, S.id, S.k.se, S.k.re, S.k.ws, S.k.pa]
  pdd : (S.ps.map (·.2.d)).Nodup
  d : S.dl = M.d
  a0 : S.a0 = M.s0
  a1 : S.a1 = M.s1
  c0 : S.c0 = (((zs.length + 1) / 2 : Nat) : Int)
  c1 : S.c1 = ((zs.length / 2 : Nat) : Int)
  us : S.used = FW S.ps
  le : S.used ≤ S.dl
  pk : ∀ x ∈ S.ps, x.2.ok ∧ 0 ≤ x.2.snt ∧ x.2.snt ≤ x.2.wr.size ∧ x.2.snt ≤ x.2.lim
noncomputable def FT (l1 l2 : List (Addr × Obj)) : Prop := ∀ q ∈ l1, ∀ y ∈ l2, q.1 ≠ y.1
theorem SOk.keys {w : World} {kP : List (Str × Value)} {zs : List Int} {M : Lim} {S : Side} (ok : SOk w kP zs M S) : (S.ps.map (·.1)).Nodup := by
  refine List.pairwise_iff_getElem.mpr fun i j hi hj hij e => ?_
  rw [List.length_map] at hi hj
  rw [List.getElem_map, List.getElem_map] at e
  have := (ok.part i _ (List.getElem?_eq_getElem hi)).1
  have := (ok.part j _ (List.getElem?_eq_getElem hj)).1
  lia
theorem SOk.inv {w : World} {kP : List (Str × Value)} {zs : List Int} {M : Lim} {S : Side} (ok : SOk w kP zs M S) : Inv S.dl S.ps S.ps S.used := ⟨rfl, ok.us, ok.le, ok.pk⟩
theorem BA {S : Side} {q : Addr × Obj} (h : q ∈ S.fix) : q ∈ S.objs := List.mem_append.mpr (.inl h)
theorem Dp {S : Side} {q : Addr × Obj} (h : q ∈ Bv S.ps) : q ∈ S.objs := List.mem_append.mpr (.inr h)
section
variable {w : World} {kP : List (Str × Value)} {zs : List Int} {M : Lim} {S : Side} {h₀ h h' : Heap} {L : Addr} {led rest : List (Addr × Obj)}
theorem SOk.nd' (ok : SOk w kP zs M S) : (S.ds ≠ S.dc ∧ S.ds ≠ S.id ∧ S.ds ≠ S.k.se ∧ S.ds ≠ S.k.re ∧ S.ds ≠ S.k.ws ∧ S.ds ≠ S.k.pa) ∧ (S.dc ≠ S.id ∧ S.dc ≠ S.k.se ∧ S.dc ≠ S.k.re ∧ S.dc ≠ S.k.ws ∧ S.dc ≠ S.k.pa) ∧ (S.id ≠ S.k.se ∧ S.id ≠ S.k.re ∧ S.id ≠ S.k.ws ∧ S.id ≠ S.k.pa) ∧ (S.k.se ≠ S.k.re ∧ S.k.se ≠ S.k.ws ∧ S.k.se ≠ S.k.pa) ∧ (S.k.re ≠ S.k.ws ∧ S.k.re ≠ S.k.pa) ∧ S.k.ws ≠ S.k.pa := by
  have := ok.nd
  simpa only [List.nodup_cons, List.mem_cons, List.not_mem_nil, or_false, not_or, List.nodup_nil, and_true, not_false_eq_true] using this
theorem SOk.pd' (ok : SOk w kP zs M S) {x : Int × Part} (hx : x ∈ S.ps) : x.2.d ≠ S.ds ∧ x.2.d ≠ S.dc ∧ x.2.d ≠ S.id ∧ x.2.d ≠ S.k.se ∧ x.2.d ≠ S.k.re ∧ x.2.d ≠ S.k.ws ∧ x.2.d ≠ S.k.pa := by
  have := ok.pd x hx
  simpa only [List.mem_cons, List.not_mem_nil, or_false, not_or] using this
theorem Qu (ok : SOk w kP zs M S) (N : News h₀ L h led) (hm : ∀ q ∈ S.objs, q ∈ led) : S.sp ≠ S.dc ∧ S.k.cr ≠ S.dc ∧ S.k.ids ≠ S.dc ∧ S.ki.ol ≠ S.dc ∧ S.ki.om ≠ S.dc ∧ ∀ q ∈ Bv S.ps, q.1 ≠ S.dc := by
  have mC : (S.dc, AI S.kc S.dl S.t5 S.used S.t6) ∈ led := hm _ (BA (by simp only [Side.fix]; k_mem))
  refine ⟨Ar N (hm _ (BA (show (S.sp, instObj 790 S.ds) ∈ S.fix by simp only [Side.fix]; k_mem))) mC rfl, Ar N (hm _ (BA (show (S.k.cr, instObj 115 S.dc) ∈ S.fix by simp only [Side.fix]; k_mem))) mC rfl, Ar N (hm _ (BA (show (S.k.ids, instObj 603 S.id) ∈ S.fix by simp only [Side.fix]; k_mem))) mC rfl, Ar N (hm _ (BA (show (S.ki.ol, pairO S.a0 S.ta0 S.a1 S.ta1 S.n1) ∈ S.fix by simp only [Side.fix]; k_mem))) mC rfl, Ar N (hm _ (BA (show (S.ki.om, pairO S.c0 S.tc0 S.c1 S.tc1 S.n2) ∈ S.fix by simp only [Side.fix]; k_mem))) mC rfl, fun q hq => ?_⟩
  obtain ⟨x, hx, hqx⟩ := List.mem_flatMap.mp hq
  have mq := hm q (Dp hq)
  simp only [Part.objs, List.mem_cons, List.not_mem_nil, or_false] at hqx
  rcases hqx with rfl | rfl | rfl
  · exact Ar N mq mC rfl
  · exact (ok.pd' hx).2.1
  · exact Ar N mq mC rfl
end
noncomputable def JL : World → (List (Str × Value)) → (List Int) → Lim → Side → Heap → Heap → Heap → Addr → (List (Addr × Obj)) → (List (Addr × Obj)) → Int → Tok → Prop := fun w kP zs M S h₀ h h' L led rest dl' t' =>
  (SOk w kP zs M S) → (News h₀ L h led) → (∀ q ∈ S.objs ++ rest, q ∈ led) → (FT rest S.objs) → (News h₀ L h' ((S.dc, AI S.kc dl' t' S.used S.t6) :: but led [S.dc])) →
  News h₀ L h' (({ S with dl := dl', t5 := t' } : Side).objs ++ rest)
@[irreducible] def Bz := eps 2921700 (by walk_at "nonempty") (CT JL)
namespace KV
def S := Bz.1.2.1.1
theorem Sy : JL Bz.1.1.1.1 Bz.1.1.1.2 Bz.1.1.2.1 Bz.1.1.2.2 S Bz.1.2.1.2 Bz.1.2.2 Bz.2.1.1.1 Bz.2.1.1.2 Bz.2.1.2 Bz.2.2.1.1 Bz.2.2.1.2 Bz.2.2.2 := by
  intro ok N hm ap N'
  obtain ⟨⟨y1, y2, y3, y4, y5, y6⟩, ⟨z1, z2, z3, z4, z5⟩, _⟩ := ok.nd'
  obtain ⟨f1, f2, f3, f4, f5, f6⟩ := Qu ok N fun q hq => hm q (List.mem_append.mpr (.inl hq))
  have keep : ∀ q ∈ S.objs ++ Bz.2.2.1.1, q.1 ≠ S.dc → News Bz.1.2.1.2 Bz.2.1.1.2 Bz.2.1.1.1 [q] := fun q hq hn r hr => by
    rw [List.mem_singleton.mp hr]
    exact N' q (.tail _ (CA.mpr ⟨hm q hq, by simpa using hn⟩))
  have keepF : ∀ q ∈ S.fix, q.1 ≠ S.dc → News Bz.1.2.1.2 Bz.2.1.1.2 Bz.2.1.1.1 [q] := fun q hq hn => keep q (List.mem_append.mpr (.inl (BA hq))) hn
  intro q hq
  rcases List.mem_append.mp hq with hq | hq
  · rcases List.mem_append.mp hq with hq | hq
    · exact (by
        refine Bp (keepF _ (by delta Side.fix; k_mem) f1) ?_
        refine Bp (keepF (S.ds, BF S.k S.turn S.t0) (by delta Side.fix; k_mem) y1) ?_
        refine Bp (keepF (S.k.se, S.oS) (by delta Side.fix; k_mem) z2.symm) ?_
        refine Bp (keepF (S.k.cr, instObj 115 S.dc) (by delta Side.fix; k_mem) f2) ?_
        refine Bh N' (.head _) ?_
        refine Bp (keepF (S.k.ids, instObj 603 S.id) (by delta Side.fix; k_mem) f3) ?_
        refine Bp (keepF (S.id, Ev S.ki) (by delta Side.fix; k_mem) z1.symm) ?_
        refine Bp (keepF (S.ki.ol, pairO S.a0 S.ta0 S.a1 S.ta1 S.n1) (by delta Side.fix; k_mem) f4) ?_
        refine Bp (keepF (S.ki.om, pairO S.c0 S.tc0 S.c1 S.tc1 S.n2) (by delta Side.fix; k_mem) f5) ?_
        refine Bp (keepF (S.k.re, S.oR) (by delta Side.fix; k_mem) z3.symm) ?_
        refine Bp (keepF (S.k.ws, S.oW) (by delta Side.fix; k_mem) z4.symm) ?_
        refine Bp (keepF (S.k.pa, S.oP) (by delta Side.fix; k_mem) z5.symm) ?_
        exact News.nil : News Bz.1.2.1.2 Bz.2.1.1.2 Bz.2.1.1.1 _) q hq
    · exact keep q (List.mem_append.mpr (.inl (Dp hq))) (f6 q hq) _ (.head _)
  · exact keep q (List.mem_append.mpr (.inr hq)) (ap q hq (S.dc, AI S.kc S.dl S.t5 S.used S.t6) (BA (by simp only [Side.fix]; k_mem))) _ (.head _)
end KV
section
variable {w : World} {kP : List (Str × Value)} {zs : List Int} {M : Lim} {S : Side} {h₀ h h' : Heap} {L : Addr} {led rest : List (Addr × Obj)}
theorem KV {dl' : Int} {t' : Tok} (ok : SOk w kP zs M S) (N : News h₀ L h led) (hm : ∀ q ∈ S.objs ++ rest, q ∈ led) (ap : FT rest S.objs)
    (N' : News h₀ L h' ((S.dc, AI S.kc dl' t' S.used S.t6) :: but led [S.dc])) : News h₀ L h' (({ S with dl := dl', t5 := t' } : Side).objs ++ rest) := by
  exact (BH (P := CT JL) Bz KV.Sy ((((w, kP), zs, M), (S, h₀), h), ((h', L), led), (rest, dl'), t')) ok N hm ap N'
end
end
section
section
variable {w : World} {kP : List (Str × Value)} {zs : List Int} {M : Lim} {S : Side} {h₀ h h' : Heap} {L : Addr} {led rest : List (Addr × Obj)}
theorem Td (ok : SOk w kP zs M S) (N : News h₀ L h led) (hm : ∀ q ∈ S.objs, q ∈ led) : (∀ q ∈ S.fix, q.1 = S.ki.ol → q = (S.ki.ol, pairO S.a0 S.ta0 S.a1 S.ta1 S.n1)) ∧ ∀ q ∈ Bv S.ps, q.1 ≠ S.ki.ol := by
  have mO : (S.ki.ol, pairO S.a0 S.ta0 S.a1 S.ta1 S.n1) ∈ led := hm _ (BA (by simp only [Side.fix]; k_mem))
  refine ⟨fun q hq e => Ex N (hm q (BA hq)) mO e, fun q hq e => ?_⟩
  have := Ex N (hm q (Dp hq)) mO e
  obtain ⟨x, hx, hqx⟩ := List.mem_flatMap.mp hq
  subst this
  simp only [Part.objs, List.mem_cons, List.not_mem_nil, or_false, Prod.mk.injEq] at hqx
  rcases hqx with ⟨_, e⟩ | ⟨_, e⟩ | ⟨_, e⟩
  · exact absurd (congrArg Obj.cls e) (by simp [pairO, PySem.W.listOf])
  · exact absurd (congrArg Obj.cls e) (by simp [pairO, PySem.W.listOf])
  · exact absurd (congrArg Obj.data e) (by simp [pairO, PySem.W.listOf])
end
noncomputable def JI : World → (List (Str × Value)) → (List Int) → Lim → Side → Heap → Heap → Heap → Addr → (List (Addr × Obj)) → (List (Addr × Obj)) → Int → Int → Tok → Tok → Nat → Prop := fun w kP zs M S h₀ h h' L led rest a0' a1' t0' t1' n' =>
  (SOk w kP zs M S) → (News h₀ L h led) → (∀ q ∈ S.objs ++ rest, q ∈ led) → (FT rest S.objs) → (News h₀ L h' ((S.ki.ol, pairO a0' t0' a1' t1' n') :: but led [S.ki.ol])) →
  News h₀ L h' (({ S with a0 := a0', ta0 := t0', a1 := a1', ta1 := t1', n1 := n' } : Side).objs ++ rest)
@[irreducible] def AO := eps 8701000 (by walk_at "nonempty") (Dk JI)
namespace KZ
def S := AO.1.2.1.1
theorem Sx : JI AO.1.1.1.1 AO.1.1.1.2 AO.1.1.2.1 AO.1.1.2.2 S AO.1.2.1.2 AO.1.2.2.1 AO.1.2.2.2 AO.2.1.1.1 AO.2.1.1.2 AO.2.1.2.1 AO.2.1.2.2 AO.2.2.1.1 AO.2.2.1.2 AO.2.2.2.1 AO.2.2.2.2 := by
  intro ok N hm ap N'
  have hmS : ∀ q ∈ S.objs, q ∈ AO.2.1.1.2 := fun q hq => hm q (List.mem_append.mpr (.inl hq))
  obtain ⟨f1, f6⟩ := Td ok N hmS
  have mO : (S.ki.ol, pairO S.a0 S.ta0 S.a1 S.ta1 S.n1) ∈ AO.2.1.1.2 := hmS _ (BA (by simp only [Side.fix]; k_mem))
  obtain ⟨kR, dR, _⟩ := ok.dR
  obtain ⟨kW, dW, _⟩ := ok.dW
  have keep : ∀ q ∈ S.objs ++ AO.2.1.2.1, q.1 ≠ S.ki.ol → News AO.1.2.1.2 AO.2.1.1.1 AO.1.2.2.2 [q] := fun q hq hn r hr => by
    rw [List.mem_singleton.mp hr]
    exact N' q (.tail _ (CA.mpr ⟨hm q hq, by simpa using hn⟩))
  have keepF : ∀ q ∈ S.fix, q.1 ≠ S.ki.ol → News AO.1.2.1.2 AO.2.1.1.1 AO.1.2.2.2 [q] := fun q hq hn => keep q (List.mem_append.mpr (.inl (BA hq))) hn
  have lm : ∀ q ∈ S.fix, q ∈ AO.2.1.1.2 := fun q hq => hmS q (BA hq)
  have cls : ∀ q ∈ S.fix, (q.2.cls == (pairO S.a0 S.ta0 S.a1 S.ta1 S.n1).cls) = false → News AO.1.2.1.2 AO.2.1.1.1 AO.1.2.2.2 [q] := fun q hq hc => keepF q hq (Ar N (lm q hq) mO hc)
  intro q hq
  rcases List.mem_append.mp hq with hq | hq
  · rcases List.mem_append.mp hq with hq | hq
    · exact (by
        refine Bp (cls _ (by delta Side.fix; k_mem) rfl) ?_
        refine Bp (cls (S.ds, BF S.k S.turn S.t0) (by delta Side.fix; k_mem) rfl) ?_
        refine Bp (keepF (S.k.se, S.oS) (by delta Side.fix; k_mem) (AN N (lm (S.k.se, S.oS) (by delta Side.fix; k_mem)) mO ok.dS)) ?_
        refine Bp (cls (S.k.cr, instObj 115 S.dc) (by delta Side.fix; k_mem) rfl) ?_
        refine Bp (cls (S.dc, AI S.kc S.dl S.t5 S.used S.t6) (by delta Side.fix; k_mem) rfl) ?_
        refine Bp (cls (S.k.ids, instObj 603 S.id) (by delta Side.fix; k_mem) rfl) ?_
        refine Bp (cls (S.id, Ev S.ki) (by delta Side.fix; k_mem) rfl) ?_
        refine Bh N' (.head _) ?_
        refine Bp (keepF (S.ki.om, pairO S.c0 S.tc0 S.c1 S.tc1 S.n2) (by delta Side.fix; k_mem) ok.nl.symm) ?_
        refine Bp (keepF (S.k.re, S.oR) (by delta Side.fix; k_mem) (AN N (lm (S.k.re, S.oR) (by delta Side.fix; k_mem)) mO dR)) ?_
        refine Bp (keepF (S.k.ws, S.oW) (by delta Side.fix; k_mem) (AN N (lm (S.k.ws, S.oW) (by delta Side.fix; k_mem)) mO dW)) ?_
        refine Bp (keepF (S.k.pa, S.oP) (by delta Side.fix; k_mem) (AN N (lm (S.k.pa, S.oP) (by delta Side.fix; k_mem)) mO ok.dP)) ?_
        exact News.nil : News AO.1.2.1.2 AO.2.1.1.1 AO.1.2.2.2 _) q hq
    · exact keep q (List.mem_append.mpr (.inl (Dp hq))) (f6 q hq) _ (.head _)
  · exact keep q (List.mem_append.mpr (.inr hq)) (ap q hq (S.ki.ol, pairO S.a0 S.ta0 S.a1 S.ta1 S.n1) (BA (by simp only [Side.fix]; k_mem))) _ (.head _)
end KZ
section
variable {w : World} {kP : List (Str × Value)} {zs : List Int} {M : Lim} {S : Side} {h₀ h h' : Heap} {L : Addr} {led rest : List (Addr × Obj)}
theorem KZ {a0' a1' : Int} {t0' t1' : Tok} {n' : Nat} (ok : SOk w kP zs M S) (N : News h₀ L h led) (hm : ∀ q ∈ S.objs ++ rest, q ∈ led) (ap : FT rest S.objs)
    (N' : News h₀ L h' ((S.ki.ol, pairO a0' t0' a1' t1' n') :: but led [S.ki.ol])) : News h₀ L h' (({ S with a0 := a0', ta0 := t0', a1 := a1', ta1 := t1', n1 := n' } : Side).objs ++ rest) := by
  exact (BH (P := Dk JI) AO KZ.Sx ((((w, kP), zs, M), (S, h₀), h, h'), ((L, led), rest, a0'), (a1', t0'), t1', n')) ok N hm ap N'
theorem QH {ps : List (Int × Part)} {x y : Int × Part} (hn : (ps.map (·.2.d)).Nodup) (hx : x ∈ ps) (hy : y ∈ ps) (e : y.2.d = x.2.d) : y = x := by
  obtain ⟨i, hi, ei⟩ := List.mem_iff_getElem.mp hx
  obtain ⟨j, hj, ej⟩ := List.mem_iff_getElem.mp hy
  have key : i = j := by
    refine (List.getElem_inj (h₀ := by rw [List.length_map]; exact hi) (h₁ := by rw [List.length_map]; exact hj) hn).mp ?_
    rw [List.getElem_map, List.getElem_map, ei, ej, e]
  subst key
  rw [← ei, ← ej]
end
noncomputable def IW : World → (List (Str × Value)) → (List Int) → Lim → Side → Heap → Heap → Heap → Addr → (List (Addr × Obj)) → (List (Addr × Obj)) → (Int × Part) → Int → Tok → Prop := fun w kP zs M S h₀ h h' L led rest x l' t' =>
  (SOk w kP zs M S) → (x ∈ S.ps) → (News h₀ L h led) → (∀ q ∈ S.objs ++ rest, q ∈ led) → (FT rest S.objs) → (News h₀ L h' ((x.2.d, Ca x.2.k l' t' x.2.st x.2.t2 x.2.wr x.2.t3 x.2.snt x.2.t4 x.2.lo) :: but led [x.2.d])) →
  News h₀ L h' (({ S with ps := upP S.ps x.1 { x.2 with lim := l', t1 := t' } } : Side).objs ++ rest)
@[irreducible] def AJ := eps 267100 (by walk_at "nonempty") (FJ IW)
namespace Jl
def x := AJ.2.2.1.1
theorem Se : IW AJ.1.1.1.1 AJ.1.1.1.2 AJ.1.1.2.1 AJ.1.1.2.2 AJ.1.2.1.1 AJ.1.2.1.2 AJ.1.2.2 AJ.2.1.1.1 AJ.2.1.1.2 AJ.2.1.2.1 AJ.2.1.2.2 x AJ.2.2.1.2 AJ.2.2.2 := by
  intro ok hx N hm ap N'
  have hmS : ∀ q ∈ AJ.1.2.1.1.objs, q ∈ AJ.2.1.2.1 := fun q hq => hm q (List.mem_append.mpr (.inl hq))
  have mX : (x.2.d, Ca x.2.k x.2.lim x.2.t1 x.2.st x.2.t2 x.2.wr x.2.t3 x.2.snt x.2.t4 x.2.lo) ∈ AJ.1.2.1.1.objs := Dp (Bs hx (.tail _ (.head _)))
  obtain ⟨g1, g2, g3, g4, g5, g6, g7⟩ := ok.pd' hx
  have keep : ∀ q ∈ AJ.1.2.1.1.objs ++ AJ.2.1.2.2, q.1 ≠ x.2.d → News AJ.1.2.1.2 AJ.2.1.1.2 AJ.2.1.1.1 [q] := fun q hq hn r hr => by
    rw [List.mem_singleton.mp hr]
    exact N' q (.tail _ (CA.mpr ⟨hm q hq, by simpa using hn⟩))
  have keepF : ∀ q ∈ AJ.1.2.1.1.objs, q.1 ≠ x.2.d → News AJ.1.2.1.2 AJ.2.1.1.2 AJ.2.1.1.1 [q] := fun q hq hn => keep q (List.mem_append.mpr (.inl hq)) hn
  have cls : ∀ q ∈ AJ.1.2.1.1.objs, (q.2.cls == Value.type "dict") = false → News AJ.1.2.1.2 AJ.2.1.1.2 AJ.2.1.1.1 [q] := fun q hq hc => keepF q hq (Ar N (hmS q hq) (hmS _ mX) hc)
  intro q hq
  rcases List.mem_append.mp hq with hq | hq
  · rcases List.mem_append.mp hq with hq | hq
    · have hq2 := hq
      replace hq : q ∈ AJ.1.2.1.1.fix := hq
      exact (by
        refine Bp (cls _ (BA (by delta Side.fix; k_mem)) rfl) ?_
        refine Bp (keepF _ (BA (by delta Side.fix; k_mem)) g1.symm) ?_
        refine Bp (keepF _ (BA (by delta Side.fix; k_mem)) g4.symm) ?_
        refine Bp (cls _ (BA (by delta Side.fix; k_mem)) rfl) ?_
        refine Bp (keepF _ (BA (by delta Side.fix; k_mem)) g2.symm) ?_
        refine Bp (cls _ (BA (by delta Side.fix; k_mem)) rfl) ?_
        refine Bp (keepF _ (BA (by delta Side.fix; k_mem)) g3.symm) ?_
        refine Bp (cls _ (BA (by delta Side.fix; k_mem)) rfl) ?_
        refine Bp (cls _ (BA (by delta Side.fix; k_mem)) rfl) ?_
        refine Bp (keepF _ (BA (by delta Side.fix; k_mem)) g5.symm) ?_
        refine Bp (keepF _ (BA (by delta Side.fix; k_mem)) g6.symm) ?_
        refine Bp (keepF _ (BA (by delta Side.fix; k_mem)) g7.symm) ?_
        exact News.nil : News AJ.1.2.1.2 AJ.2.1.1.2 AJ.2.1.1.1 _) q hq
    · obtain ⟨y, hy, hqy⟩ := List.mem_flatMap.mp hq
      rcases Gu hy with ⟨rfl, _⟩ | ⟨hy, hne⟩
      · simp only [Part.objs, List.mem_cons, List.not_mem_nil, or_false] at hqy
        rcases hqy with rfl | rfl | rfl
        · exact cls _ (Dp (Bs hx (.head _))) rfl _ (.head _)
        · exact N' _ (.head _)
        · exact cls _ (Dp (Bs hx (.tail _ (.tail _ (.head _))))) rfl _ (.head _)
      · simp only [Part.objs, List.mem_cons, List.not_mem_nil, or_false] at hqy
        rcases hqy with rfl | rfl | rfl
        · exact cls _ (Dp (Bs hy (.head _))) rfl _ (.head _)
        · exact keepF _ (Dp (Bs hy (.tail _ (.head _)))) (fun e => hne (by rw [QH ok.pdd hx hy e])) _ (.head _)
        · exact cls _ (Dp (Bs hy (.tail _ (.tail _ (.head _))))) rfl _ (.head _)
  · exact keep q (List.mem_append.mpr (.inr hq)) (ap q hq _ mX) _ (.head _)
end Jl
section
variable {w : World} {kP : List (Str × Value)} {zs : List Int} {M : Lim} {S : Side} {h₀ h h' : Heap} {L : Addr} {led rest : List (Addr × Obj)}
theorem Jl {x : Int × Part} {l' : Int} {t' : Tok} (ok : SOk w kP zs M S) (hx : x ∈ S.ps) (N : News h₀ L h led) (hm : ∀ q ∈ S.objs ++ rest, q ∈ led) (ap : FT rest S.objs)
    (N' : News h₀ L h' ((x.2.d, Ca x.2.k l' t' x.2.st x.2.t2 x.2.wr x.2.t3 x.2.snt x.2.t4 x.2.lo) :: but led [x.2.d])) : News h₀ L h' (({ S with ps := upP S.ps x.1 { x.2 with lim := l', t1 := t' } } : Side).objs ++ rest) := by
  exact (BH (P := FJ IW) AJ Jl.Se ((((w, kP), zs, M), (S, h₀), h), ((h', L), led, rest), (x, l'), t')) ok hx N hm ap N'
end
theorem SOk.md {w : World} {kP : List (Str × Value)} {zs : List Int} {M : Lim} {S : Side} (ok : SOk w kP zs M S) {v : Int} {t : Tok} : SOk w kP zs (M.up (.md v)) { S with dl := max S.dl v, t5 := t } :=
  { ok with
    d := by show max S.dl v = max M.d v; rw [ok.d]
    le := by have := ok.le; show S.used ≤ max S.dl v; lia }
theorem SOk.ms {w : World} {kP : List (Str × Value)} {zs : List Int} {M : Lim} {S : Side} (ok : SOk w kP zs M S) {b : Bool} {v : Int} {ta tb : Tok} {n : Nat} : SOk w kP zs (M.up (.ms b v)) { S with a0 := if b then S.a0 else max S.a0 v, ta0 := ta, a1 := if b then max S.a1 v else S.a1, ta1 := tb, n1 := n } :=
  { ok with
    a0 := by show (if b then S.a0 else max S.a0 v) = if b then M.s0 else max M.s0 v; rw [ok.a0]
    a1 := by show (if b then max S.a1 v else S.a1) = if b then max M.s1 v else M.s1; rw [ok.a1] }
theorem SO {ps : List (Int × Part)} {sid : Int} {x' : Part} {j : Nat} {y : Int × Part} (h : (upP ps sid x')[j]? = some y) : ∃ z, ps[j]? = some z ∧ y = if z.1 = sid then (z.1, x') else z := by
  unfold upP at h
  rw [List.getElem?_map] at h
  cases hz : ps[j]? with
  | none => rw [hz] at h; cases h
  | some z => rw [hz] at h; exact ⟨z, rfl, (Option.some.inj h).symm⟩
theorem SOk.msd {w : World} {kP : List (Str × Value)} {zs : List Int} {M : Lim} {S : Side} (ok : SOk w kP zs M S) {i : Nat} {v : Int} {t : Tok} {x : Int × Part} (hx : S.ps[i]? = some x) : SOk w kP zs (M.up (.msd i v)) { S with ps := upP S.ps x.1 { x.2 with lim := max x.2.lim v, t1 := t } } := by
  have hxm := List.mem_of_getElem? hx
  have hil : i < zs.length := by rw [← ok.len]; exact (List.getElem?_eq_some_iff.mp hx).1
  have hxi := ok.part i x hx
  have hkv : Cj (upP S.ps x.1 { x.2 with lim := max x.2.lim v, t1 := t }) = Cj S.ps := by
    unfold Cj upP
    rw [List.map_map]
    refine List.map_congr_left fun y hy => ?_
    show (_, Value.ref _) = (y.1, Value.ref y.2.p)
    by_cases c : y.1 = x.1
    · have := Di ok.keys hy hxm c
      subst this
      simp
    · simp [c]
  have hds : (upP S.ps x.1 { x.2 with lim := max x.2.lim v, t1 := t }).map (·.2.d) = S.ps.map (·.2.d) := by
    unfold upP
    rw [List.map_map]
    refine List.map_congr_left fun y hy => ?_
    show (if y.1 = x.1 then (y.1, ({ x.2 with lim := max x.2.lim v, t1 := t } : Part)) else y).2.d = y.2.d
    by_cases c : y.1 = x.1
    · have := Di ok.keys hy hxm c
      subst this
      simp
    · simp [c]
  exact { ok with
    dS := by show S.oS.IsDictOf _ (Cj (upP S.ps x.1 _)); rw [hkv]; exact ok.dS
    len := by
      show (upP S.ps x.1 _).length = _
      unfold upP
      rw [List.length_map]; exact ok.len
    l := by rw [QO]; exact ok.l
    part := fun j y hy => by
      obtain ⟨z, hz, e⟩ := SO hy
      have hzj := ok.part j z hz
      show _ ∧ _ = (M.l.set i (max (M.l.getD i 0) v)).getD j 0 ∧ _
      by_cases c : z.1 = x.1
      · have hij : j = i := by rw [hzj.1, hxi.1] at c; lia
        subst hij
        have hzx : z = x := Option.some.inj (hz.symm.trans hx)
        clear hx
        subst hzx
        rw [if_pos rfl] at e
        subst e
        refine ⟨hzj.1, ?_, hzj.2.2⟩
        show max z.2.lim v = _
        rw [hzj.2.1, List.getD_eq_getElem?_getD (l := M.l.set _ _), List.getElem?_set_self (by rw [ok.l]; exact hil)]
        rfl
      · rw [if_neg c] at e
        subst e
        refine ⟨hzj.1, ?_, hzj.2.2⟩
        have hij : i ≠ j := fun e => c (by rw [hzj.1, hxi.1, e])
        rw [hzj.2.1, List.getD_eq_getElem?_getD, List.getD_eq_getElem?_getD (l := M.l.set _ _), List.getElem?_set_ne hij]
    pd := fun y hy => by
      rcases Gu hy with ⟨rfl, _⟩ | ⟨hy, _⟩
      · exact ok.pd x hxm
      · exact ok.pd y hy
    pdd := by show ((upP S.ps x.1 _).map (·.2.d)).Nodup; rw [hds]; exact ok.pdd
    us := by
      show S.used = FW (upP S.ps x.1 _)
      rw [Ls ok.keys hxm, ok.us]
      show FW S.ps = FW S.ps - x.2.snt + x.2.snt
      lia
    pk := fun y hy => by
      rcases Gu hy with ⟨rfl, _⟩ | ⟨hy, _⟩
      · have := ok.pk x hxm
        refine ⟨this.1, this.2.1, this.2.2.1, ?_⟩
        show x.2.snt ≤ max x.2.lim v
        lia
      · exact ok.pk y hy }
theorem GotOk.up {gvs : List (Int × Value)} {ps : List (Int × Part)} {x : Int × Part} {x' : Part} (h : GotOk gvs ps) (hx : x ∈ ps) (ew : x'.wr = x.2.wr) (es : x'.snt = x.2.snt) : GotOk gvs (upP ps x.1 x') := by
  refine ⟨by rw [OB, h.keys], fun q hq => ?_⟩
  rcases Gu hq with ⟨rfl, _⟩ | ⟨hq, hne⟩
  · obtain ⟨t, ht⟩ := h.val x hx
    exact ⟨t, by rw [ht]; show some (Value.bytes (pre x.2.wr x.2.snt) t) = some (Value.bytes (pre x'.wr x'.snt) t); rw [ew, es]⟩
  · exact h.val q hq
end
section
theorem Pc {f g : Int × Part → Int} : ∀ {ps : List (Int × Part)}, (∀ x ∈ ps, f x ≤ g x) → (ps.map f).sum ≤ (ps.map g).sum
  | [], _ => Int.le_refl _
  | x :: r, h => by
    have := h x (.head _)
    have := Pc (ps := r) fun y hy => h y (.tail _ hy)
    rw [List.map_cons, List.map_cons, List.sum_cons, List.sum_cons]
    lia
theorem PX {w : World} {kP : List (Str × Value)} {zs : List Int} {M : Lim} {S : Side} (ok : SOk w kP zs M S) (hz : ∀ z ∈ zs, 0 ≤ z) (h : ∀ x ∈ S.ps, ¬ 0 < x.2.room (S.dl - S.used)) :
    S.used = min M.d ((List.range' 0 zs.length).map fun i => min (M.l.getD i 0) (zs.getD i 0)).sum := by
  have e1 : ((List.range' 0 zs.length).map fun i => min (M.l.getD i 0) (zs.getD i 0)) = S.ps.map fun x => min x.2.lim (x.2.wr.size : Int) := by
    refine List.ext_getElem (by rw [List.length_map, List.length_map, List.length_range', ok.len]) fun j h1 h2 => ?_
    rw [List.length_map] at h1 h2
    rw [List.getElem_map, List.getElem_map]
    have hp := ok.part j _ (List.getElem?_eq_getElem h2)
    have hj : (List.range' 0 zs.length)[j] = j := by simp
    rw [hj, hp.2.1, hp.2.2, Ez]
    have : 0 ≤ zs.getD j 0 := by
      rw [List.getD_eq_getElem?_getD, List.getElem?_eq_getElem (by rw [← ok.len]; exact h2)]
      exact hz _ (List.getElem_mem _)
    rw [Int.toNat_of_nonneg this]
  rw [e1, ← ok.d, ok.us]
  have hle : FW S.ps ≤ (S.ps.map fun x => min x.2.lim (x.2.wr.size : Int)).sum := Pc fun x hx => by
    have := ok.pk x hx
    omega
  have hd := ok.le
  rw [ok.us] at hd h
  by_cases c : S.dl - FW S.ps ≤ 0
  · omega
  · have hge : (S.ps.map fun x => min x.2.lim (x.2.wr.size : Int)).sum ≤ FW S.ps := Pc fun x hx => by
      have h1 := h x hx
      have h2 := ok.pk x hx
      unfold Part.room DE at h1
      omega
    omega
section
variable {w : World} {kP : List (Str × Value)} {zs : List Int} {M : Lim} {S : Side} {h₀ h h' : Heap} {L : Addr} {led rest : List (Addr × Obj)}
theorem Rc {q y : Addr × Obj} (N : News h₀ L h led) (hq : q ∈ led) (hmp : ∀ q ∈ Bv S.ps, q ∈ led) (hy : y ∈ Bv S.ps) (h1 : ∀ d, q.2 ≠ instObj 498 d) (h2 : ∀ n, q.2 ≠ PySem.W.listOf #[] n) (h3 : ∀ x ∈ S.ps, q.1 ≠ x.2.d) : q.1 ≠ y.1 := fun e => by
  obtain ⟨x, hx, hyx⟩ := List.mem_flatMap.mp hy
  have hyl := hmp y hy
  simp only [Part.objs, List.mem_cons, List.not_mem_nil, or_false] at hyx
  rcases hyx with rfl | rfl | rfl
  · exact h1 _ (congrArg Prod.snd (Ex N hq hyl e))
  · exact h3 x hx e
  · exact h2 _ (congrArg Prod.snd (Ex N hq hyl e))
theorem Gg {knd : Type} [DecidableEq knd] {K : KeyKind pw w knd} {o : Obj} {kvs : List (knd × Value)} (hd : o.IsDictOf K kvs) : (∀ d, o ≠ instObj 498 d) ∧ ∀ n, o ≠ PySem.W.listOf #[] n := by
  obtain ⟨es, ep, hex, _⟩ := hd
  exact ⟨fun d e => by rw [e] at hex; exact absurd hex.1 (by simp [instObj]), fun d e => by rw [e] at hex; exact absurd hex.1 (by simp [PySem.W.listOf])⟩
end
noncomputable def FS : World → (List (Str × Value)) → (List Int) → Lim → Side → Heap → Heap → Heap → Addr → (List (Addr × Obj)) → (List (Addr × Obj)) → (List (Int × Part)) → Int → Int → Tok → Tok → Addr → Obj → Obj → Prop := fun w kP zs M S h₀ h h' L led rest ps' turn' used' t0' t6' gd oG oG' =>
  (SOk w kP zs M S) → (News h₀ L h led) → (∀ q ∈ S.objs ++ (gd, oG) :: rest, q ∈ led) → (FT rest S.objs) → (∀ q ∈ rest, q.1 ≠ gd) → (∀ y ∈ S.objs, gd ≠ y.1) → (News h₀ L h' (CV S.k S.kc S.sp S.ds S.dc gd S.oS oG' turn' S.dl used' t0' S.t5 t6' ps' ++ but led (S.ds :: S.dc :: gd :: (Bv S.ps).map (·.1)))) →
  News h₀ L h' (({ S with turn := turn', t0 := t0', used := used', t6 := t6', ps := ps' } : Side).objs ++ (gd, oG') :: rest)
@[irreducible] def AE := eps 8827100 (by walk_at "nonempty") (Nu FS)
namespace Ii
def S := AE.1.1.2.2
theorem RQ : FS AE.1.1.1.1.1 AE.1.1.1.1.2 AE.1.1.1.2 AE.1.1.2.1 S AE.1.2.1.1.1 AE.1.2.1.1.2 AE.1.2.1.2 AE.1.2.2.1 AE.1.2.2.2 AE.2.1.1.1.1 AE.2.1.1.1.2 AE.2.1.1.2 AE.2.1.2.1 AE.2.1.2.2 AE.2.2.1.1 AE.2.2.1.2 AE.2.2.2.1 AE.2.2.2.2 := by
  intro ok N hm ap hgr hgS N'
  have hmS : ∀ q ∈ S.objs, q ∈ AE.1.2.2.2 := fun q hq => hm q (List.mem_append.mpr (.inl hq))
  have hmp : ∀ q ∈ Bv S.ps, q ∈ AE.1.2.2.2 := fun q hq => hmS q (Dp hq)
  obtain ⟨⟨y1, y2, y3, y4, y5, y6⟩, ⟨z1, z2, z3, z4, z5⟩, _⟩ := ok.nd'
  obtain ⟨f1, f2, f3, f4, f5, f6⟩ := Qu ok N hmS
  have mD : (S.ds, BF S.k S.turn S.t0) ∈ AE.1.2.2.2 := hmS _ (BA (by simp only [Side.fix]; k_mem))
  obtain ⟨kR, dR, _⟩ := ok.dR
  obtain ⟨kW, dW, _⟩ := ok.dW
  have keep : ∀ q ∈ S.fix, q.1 ≠ S.ds → q.1 ≠ S.dc → (∀ d, q.2 ≠ instObj 498 d) → (∀ n, q.2 ≠ PySem.W.listOf #[] n) → (∀ x ∈ S.ps, q.1 ≠ x.2.d) → News AE.1.2.1.1.1 AE.1.2.2.1 AE.1.2.1.2 [q] := fun q hq h1 h2 h3 h4 h5 r hr => by
    rw [List.mem_singleton.mp hr]
    refine N' q (List.mem_append.mpr (.inr (CA.mpr ⟨hmS q (BA hq), ?_⟩)))
    simp only [List.mem_cons, not_or]
    refine ⟨h1, h2, (hgS q (BA hq)).symm, fun hp => ?_⟩
    obtain ⟨y, hy, e⟩ := List.mem_map.mp hp
    exact Rc N (hmS q (BA hq)) hmp hy h3 h4 h5 e.symm
  have mX : ∀ x ∈ S.ps, (x.2.d, Ca x.2.k x.2.lim x.2.t1 x.2.st x.2.t2 x.2.wr x.2.t3 x.2.snt x.2.t4 x.2.lo) ∈ AE.1.2.2.2 := fun x hx => hmp _ (Bs hx (.tail _ (.head _)))
  intro q hq
  rcases List.mem_append.mp hq with hq | hq
  · rcases List.mem_append.mp hq with hq | hq
    · exact (by
        refine Bh N' (.head _) ?_
        refine Bh N' (.tail _ (.head _)) ?_
        refine Bh N' (.tail _ (.tail _ (.head _))) ?_
        refine Bh N' (.tail _ (.tail _ (.tail _ (.head _)))) ?_
        refine Bh N' (.tail _ (.tail _ (.tail _ (.tail _ (.head _))))) ?_
        have mI : (S.k.ids, instObj 603 S.id) ∈ AE.1.2.2.2 := hmS _ (BA (by simp only [Side.fix]; k_mem))
        refine Bp (keep (S.k.ids, instObj 603 S.id) (by delta Side.fix; k_mem) (Ar N mI mD rfl) f3 (fun d e => absurd (congrArg Obj.cls e) (by simp [instObj])) (fun n e => absurd (congrArg Obj.cls e) (by simp [instObj, PySem.W.listOf])) (fun x hx => Ar N mI (mX x hx) rfl)) ?_
        have mI : (S.id, Ev S.ki) ∈ AE.1.2.2.2 := hmS _ (BA (by simp only [Side.fix]; k_mem))
        refine Bp (keep (S.id, Ev S.ki) (by delta Side.fix; k_mem) y2.symm z1.symm (fun d e => absurd (congrArg Obj.cls e) (by simp [instObj])) (fun n e => absurd (congrArg Obj.cls e) (by simp [PySem.W.listOf])) (fun x hx => ((ok.pd' hx).2.2.1).symm)) ?_
        have mI : (S.ki.ol, pairO S.a0 S.ta0 S.a1 S.ta1 S.n1) ∈ AE.1.2.2.2 := hmS _ (BA (by simp only [Side.fix]; k_mem))
        refine Bp (keep (S.ki.ol, pairO S.a0 S.ta0 S.a1 S.ta1 S.n1) (by delta Side.fix; k_mem) (Ar N mI mD rfl) f4 (fun d e => absurd (congrArg Obj.cls e) (by simp [instObj, PySem.W.listOf])) (fun n e => absurd (congrArg Obj.data e) (by simp [PySem.W.listOf])) (fun x hx => Ar N mI (mX x hx) rfl)) ?_
        have mI : (S.ki.om, pairO S.c0 S.tc0 S.c1 S.tc1 S.n2) ∈ AE.1.2.2.2 := hmS _ (BA (by simp only [Side.fix]; k_mem))
        refine Bp (keep (S.ki.om, pairO S.c0 S.tc0 S.c1 S.tc1 S.n2) (by delta Side.fix; k_mem) (Ar N mI mD rfl) f5 (fun d e => absurd (congrArg Obj.cls e) (by simp [instObj, PySem.W.listOf])) (fun n e => absurd (congrArg Obj.data e) (by simp [PySem.W.listOf])) (fun x hx => Ar N mI (mX x hx) rfl)) ?_
        refine Bp (keep (S.k.re, S.oR) (by delta Side.fix; k_mem) y4.symm z3.symm (Gg dR).1 (Gg dR).2 (fun x hx => ((ok.pd' hx).2.2.2.2.1).symm)) ?_
        refine Bp (keep (S.k.ws, S.oW) (by delta Side.fix; k_mem) y5.symm z4.symm (Gg dW).1 (Gg dW).2 (fun x hx => ((ok.pd' hx).2.2.2.2.2.1).symm)) ?_
        refine Bp (keep (S.k.pa, S.oP) (by delta Side.fix; k_mem) y6.symm z5.symm (Gg ok.dP).1 (Gg ok.dP).2 (fun x hx => ((ok.pd' hx).2.2.2.2.2.2).symm)) ?_
        exact News.nil : News AE.1.2.1.1.1 AE.1.2.2.1 AE.1.2.1.2 _) q hq
    · exact N' q (List.mem_append.mpr (.inl (by repeat (first | with_reducible exact hq | apply List.mem_cons_of_mem))))
  · rcases List.mem_cons.mp hq with rfl | hq
    · exact N' _ (.tail _ (.tail _ (.tail _ (.tail _ (.tail _ (.head _))))))
    · refine N' q (List.mem_append.mpr (.inr (CA.mpr ⟨hm q (List.mem_append.mpr (.inr (.tail _ hq))), ?_⟩)))
      simp only [List.mem_cons, not_or]
      refine ⟨ap q hq (S.ds, BF S.k S.turn S.t0) (BA (by simp only [Side.fix]; k_mem)), ap q hq (S.dc, AI S.kc S.dl S.t5 S.used S.t6) (BA (by simp only [Side.fix]; k_mem)), hgr q hq, fun hp => ?_⟩
      obtain ⟨y, hy, e⟩ := List.mem_map.mp hp
      exact ap q hq y (Dp hy) e.symm
end Ii
def Ii {w kP zs M S h₀ h h' L led rest ps' turn' used' t0' t6' gd oG oG'} :=
  (FS.eq_1 w kP zs M S h₀ h h' L led rest ps' turn' used' t0' t6' gd oG oG').mp ((BH (P := Nu FS) AE Ii.RQ (((((w, kP), zs), M, S), ((h₀, h), h'), L, led), (((rest, ps'), turn'), used', t0'), (t6', gd), oG, oG')))
section
variable {w : World} {kP : List (Str × Value)} {zs : List Int} {M : Lim} {S : Side} {h₀ h h' : Heap} {L : Addr} {led rest : List (Addr × Obj)}
end
end
section
section
variable {w : World} {kP : List (Str × Value)} {zs : List Int} {M : Lim} {S : Side} {h₀ h h' : Heap} {L : Addr} {led rest : List (Addr × Obj)}
theorem SOk.goes {ps' : List (Int × Part)} {turn' used' : Int} {t0' t6' : Tok} (ok : SOk w kP zs M S) (hi : Inv S.dl S.ps ps' used') : SOk w kP zs M { S with turn := turn', t0 := t0', used := used', t6 := t6', ps := ps' } :=
  { ok with
    dS := by show S.oS.IsDictOf _ (Cj ps'); rw [hi.kvs]; exact ok.dS
    len := by
      have := congrArg List.length hi.keys
      rw [List.length_map, List.length_map] at this
      exact this.trans ok.len
    part := fun j x hx => by
      have h1 : (ps'.map sig)[j]? = some (sig x) := by rw [List.getElem?_map, hx]; rfl
      rw [hi.sg, List.getElem?_map] at h1
      cases hy : S.ps[j]? with
      | none => rw [hy] at h1; cases h1
      | some y =>
        rw [hy] at h1
        have e : sig y = sig x := Option.some.inj h1
        have hp := ok.part j y hy
        have e1 : y.1 = x.1 := congrArg (·.1) e
        have e2 : y.2.lim = x.2.lim := congrArg (fun q => q.2.2.2.1) e
        have e3 : y.2.wr = x.2.wr := congrArg (fun q => q.2.2.2.2) e
        exact ⟨e1 ▸ hp.1, e2 ▸ hp.2.1, e3 ▸ hp.2.2⟩
    pd := fun x hx => by
      obtain ⟨y, hy, e⟩ := hi.key_mem hx
      have e1 : y.2.d = x.2.d := congrArg (fun q => q.2.2.1) e
      show x.2.d ∉ _
      rw [← e1]; exact ok.pd y hy
    pdd := by show (ps'.map (·.2.d)).Nodup; rw [hi.ds]; exact ok.pdd
    us := hi.us
    le := hi.le
    pk := hi.ok }
theorem NQ {S S' : Side} {y : Addr × Obj} (hy : y ∈ S'.fix) (e : S'.fix.map (·.1) = S.fix.map (·.1)) : ∃ z ∈ S.objs, z.1 = y.1 := by
  have : y.1 ∈ S.fix.map (·.1) := by rw [← e]; exact List.mem_map.mpr ⟨y, hy, rfl⟩
  obtain ⟨z, hz, ez⟩ := List.mem_map.mp this
  exact ⟨z, BA hz, ez⟩
theorem OW {ps' : List (Int × Part)} {turn' used' : Int} {t0' t6' : Tok} {gd : Addr} {oG' : Obj} (ap : FT rest S.objs) (hgr : ∀ q ∈ rest, q.1 ≠ gd)
    (fr : ∀ y ∈ CV S.k S.kc S.sp S.ds S.dc gd S.oS oG' turn' S.dl used' t0' S.t5 t6' ps', ∀ q ∈ led, q.1 ∉ (CV S.k S.kc S.sp S.ds S.dc gd S.oS oG turn S.dl used t0 S.t5 t6 S.ps).map (·.1) → q.1 ≠ y.1) (hr : ∀ q ∈ rest, q ∈ led) :
    FT rest ({ S with turn := turn', t0 := t0', used := used', t6 := t6', ps := ps' } : Side).objs := fun q hq y hy => by
  rcases List.mem_append.mp hy with hy | hy
  · obtain ⟨z, hz, e⟩ := NQ (S := S) hy rfl
    rw [← e]; exact ap q hq z hz
  · refine fr y (by repeat (first | with_reducible exact hy | apply List.mem_cons_of_mem)) q (hr q hq) fun hm => ?_
    simp only [CV, List.map_cons, List.mem_cons] at hm
    rcases hm with e | e | e | e | e | e | hm
    · exact ap q hq (S.sp, instObj 790 S.ds) (BA (by simp only [Side.fix]; k_mem)) e
    · exact ap q hq (S.ds, BF S.k S.turn S.t0) (BA (by simp only [Side.fix]; k_mem)) e
    · exact ap q hq (S.k.se, S.oS) (BA (by simp only [Side.fix]; k_mem)) e
    · exact ap q hq (S.k.cr, instObj 115 S.dc) (BA (by simp only [Side.fix]; k_mem)) e
    · exact ap q hq (S.dc, AI S.kc S.dl S.t5 S.used S.t6) (BA (by simp only [Side.fix]; k_mem)) e
    · exact hgr q hq e
    · obtain ⟨z, hz, e⟩ := List.mem_map.mp hm
      exact ap q hq z (Dp hz) e.symm
theorem OC {ps' : List (Int × Part)} {turn' used' : Int} {t0' t6' : Tok} {gd : Addr} {oG' : Obj} {gvs : List (Int × Value)} (hi : Inv S.dl S.ps ps' used') (hG : oG'.IsDictOf (PySem.intKind pw w) gvs) (hgS : ∀ y ∈ S.objs, gd ≠ y.1)
    (N' : News h₀ L h' (({ S with turn := turn', t0 := t0', used := used', t6 := t6', ps := ps' } : Side).objs ++ (gd, oG') :: rest)) :
    ∀ y ∈ ({ S with turn := turn', t0 := t0', used := used', t6 := t6', ps := ps' } : Side).objs, gd ≠ y.1 := fun y hy => by
  have hyl : y ∈ ({ S with turn := turn', t0 := t0', used := used', t6 := t6', ps := ps' } : Side).objs ++ (gd, oG') :: rest := List.mem_append.mpr (.inl hy)
  have hgl : (gd, oG') ∈ ({ S with turn := turn', t0 := t0', used := used', t6 := t6', ps := ps' } : Side).objs ++ (gd, oG') :: rest := List.mem_append.mpr (.inr (.head _))
  rcases List.mem_append.mp hy with hy | hy
  · obtain ⟨z, hz, e⟩ := NQ (S := S) hy rfl
    rw [← e]; exact hgS z hz
  · obtain ⟨x, hx, hyx⟩ := List.mem_flatMap.mp hy
    simp only [Part.objs, List.mem_cons, List.not_mem_nil, or_false] at hyx
    rcases hyx with rfl | rfl | rfl
    · exact (Cr N' hyl hgl hG).symm
    · obtain ⟨z, hz, e⟩ := hi.key_mem hx
      have e1 : z.2.d = x.2.d := congrArg (fun q => q.2.2.1) e
      show gd ≠ x.2.d
      rw [← e1]
      exact hgS (z.2.d, _) (Dp (Bs hz (.tail _ (.head _))))
    · exact AN N' hgl hyl hG
end
end
section
set_option rowWalk.seconds 0
section
variable {w : World} {p : Program} {loose : List Str} {mean : ExcName → Option Value} {mg mb : Str → Option Value} {dp un : Nat} {gdg : Option (List Code)} {cn : Str} {cs : Scope} {a : Addr} {ccd : Value} {cl : List (Str × Addr)} {outer : List Env} {A₀ : Around} {base h₀ : Heap} {L : Addr} {m : Str → Option Value} {s : Shared} {Q E : Value → Shared → Prop} {led led' : List (Addr × Obj)}
variable (B : Below A₀ base outer h₀) (F : Fr h₀ L s.heap m) (X : (KK w.params).In h₀) (T : Top p loose mean mg mb h₀) (hk : cs.kind = .function) (N : News h₀ L s.heap led)
include B F X T hk N
omit B F X T hk N in
theorem Lr {d : Addr} {o : Obj} : UpdF d o ((d, o) :: but led [d]) (fun o' => (d, o') :: but led [d]) := UpdF.head (Na (.head _))
omit B F X T hk N in
theorem PP {ps : List (Int × Part)} {x : Int × Part} {l' : Int} {t' : Tok} (hn : (ps.map (·.1)).Nodup) (hx : x ∈ ps) : (Bv (upP ps x.1 { x.2 with lim := l', t1 := t' })).map (·.1) = (Bv ps).map (·.1) := by
  unfold Bv upP
  rw [List.flatMap_map, List.map_flatMap, List.map_flatMap]
  refine congrArg List.flatten (List.map_congr_left fun y hy => ?_)
  by_cases c : y.1 = x.1
  · have := Di hn hy hx c
    subst this
    simp [Part.objs]
  · simp [c]
theorem SW {S : Side} {sp0 : Addr} {gd : Addr} {oG : Obj} {gvs : List (Int × Value)} {zs : List Int} {M : Lim} {rest : List (Addr × Obj)} {kP : List (Str × Value)} (hm : ∀ q ∈ S.objs ++ (gd, oG) :: rest, q ∈ led) (hsp : S.sp = sp0) (ok : SOk w kP zs M S) (hz3 : zs.length ≤ 3) (hG : oG.IsDictOf (PySem.intKind pw w) gvs) (hgsys : (gd == sysModules) = false)
    (hgot : GotOk gvs S.ps) (ap : FT rest S.objs) (hgr : ∀ q ∈ rest, q.1 ≠ gd) (hgS : ∀ y ∈ S.objs, gd ≠ y.1) (hd : dp + 14 < recursionLimit) (hu : un + 140 < cLine)
    (hret : ∀ (S' : Side) (oG' : Obj) (gvs' : List (Int × Value)) (h' : Heap) (tk' : Nat), SOk w kP zs M S' → S'.sp = sp0 → oG'.IsDictOf (PySem.intKind pw w) gvs' → GotOk gvs' S'.ps → (∀ x ∈ S'.ps, ¬ 0 < x.2.room (S'.dl - S'.used)) → FT rest S'.objs → (∀ y ∈ S'.objs, gd ≠ y.1) → Fr h₀ L h' m → News h₀ L h' (S'.objs ++ (gd, oG') :: rest) → Q (.bool true) { s with heap := h', toks := tk' }) :
    wpI (model pw w) (ktrTop dp un gdg cn cs L a ccd cl outer) (PySem.call (.ref 826) [.ref sp0, .ref gd]) Q E s := by
  subst hsp
  have hmS : ∀ q ∈ S.objs, q ∈ led := fun q hq => hm q (List.mem_append.mpr (.inl hq))
  have hmF : ∀ q ∈ S.fix, q ∈ led := fun q hq => hmS q (BA hq)
  obtain ⟨⟨y1, y2, y3, y4, y5, y6⟩, ⟨z1, z2, z3, z4, z5⟩, _⟩ := ok.nd'
  refine EV B F X T hk N (k := S.k) (kc := S.kc) (sp := S.sp) (ds := S.ds) (dc := S.dc) (gd := gd) (oS := S.oS) (oG := oG) (turn := S.turn) (dl := S.dl) (used := S.used) (t0 := S.t0) (t5 := S.t5) (t6 := S.t6) (ps := S.ps) (gvs := gvs) ?hm ok.dS ok.sys hG hgsys ok.inv hgot ok.keys (by rw [ok.len]; lia) ?hs (fun x hx => ((ok.pd' hx).2.2.2.1).symm) z2.symm (fun x hx => hgS (x.2.d, _) (Dp (Bs hx (.tail _ (.head _))))) ?ne7 y3.symm ok.pdd hd hu ?hr
  case hm =>
    intro q hq
    simp only [CV, List.mem_cons] at hq
    rcases hq with rfl | rfl | rfl | rfl | rfl | rfl | hq
    · exact hmF _ (by simp only [Side.fix]; k_mem)
    · exact hmF (S.ds, BF S.k S.turn S.t0) (by simp only [Side.fix]; k_mem)
    · exact hmF (S.k.se, S.oS) (by simp only [Side.fix]; k_mem)
    · exact hmF (S.k.cr, instObj 115 S.dc) (by simp only [Side.fix]; k_mem)
    · exact hmF (S.dc, AI S.kc S.dl S.t5 S.used S.t6) (by simp only [Side.fix]; k_mem)
    · exact hm _ (List.mem_append.mpr (.inr (.head _)))
    · exact hmS q (Dp hq)
  case hs =>
    intro x hx
    obtain ⟨j, hj, ej⟩ := List.mem_iff_getElem.mp hx
    have := (ok.part j x (by rw [List.getElem?_eq_getElem hj, ej])).1
    have := ok.len
    lia
  case ne7 => exact ⟨hgS (S.dc, AI S.kc S.dl S.t5 S.used S.t6) (BA (by simp only [Side.fix]; k_mem)), hgS (S.ds, BF S.k S.turn S.t0) (BA (by simp only [Side.fix]; k_mem)), hgS (S.k.se, S.oS) (BA (by simp only [Side.fix]; k_mem))⟩
  case hr =>
    intro turn' used' t0' t6' oG' gvs' ps' h' tk' hG' hi' hgot' hfull fr F' N'
    have N2 := Ii ok N hm ap hgr hgS N'
    exact hret { S with turn := turn', t0 := t0', used := used', t6 := t6', ps := ps' } oG' gvs' h' tk' (ok.goes hi') rfl hG' hgot' hfull (OW ap hgr fr fun q hq => hm q (List.mem_append.mpr (.inr (.tail _ hq)))) (OC hi' hG' hgS N2) F' N2
theorem Pf {S : Side} {sp0 : Addr} {f : Addr} {x : Wd} {zs : List Int} {M : Lim} {rest : List (Addr × Obj)} {kP : List (Str × Value)} (hm : ∀ q ∈ S.objs ++ rest, q ∈ led) (hsp : S.sp = sp0) (ok : SOk w kP zs M S) (hz3 : zs.length ≤ 3) (hw : HG rest f x) (hx : x.ok zs.length) (ap : FT rest S.objs) (hd : dp + 8 < recursionLimit) (hu : un + 60 < cLine)
    (hret : ∀ (S' : Side) (h' : Heap) (tk' : Nat), SOk w kP zs (M.up x) S' → S'.sp = sp0 → (∀ gvs, GotOk gvs S.ps → GotOk gvs S'.ps) → S'.objs.map (·.1) = S.objs.map (·.1) → Fr h₀ L h' m → News h₀ L h' (S'.objs ++ rest) → Q .none { s with heap := h', toks := tk' }) :
    wpAny (model pw w) (ktrTop dp un gd cn cs L a ccd cl outer) (PySem.call (.ref 712) [.ref sp0, .ref f]) Q E s := by
  subst hsp
  have hmS : ∀ q ∈ S.objs, q ∈ led := fun q hq => hm q (List.mem_append.mpr (.inl hq))
  have hmR : ∀ q ∈ rest, q ∈ led := fun q hq => hm q (List.mem_append.mpr (.inr hq))
  have hmF : ∀ q ∈ S.fix, q ∈ led := fun q hq => hmS q (BA hq)
  cases x with
  | md v =>
    obtain ⟨t1, t3, mw⟩ := hw
    have mC : (S.dc, AI S.kc S.dl S.t5 S.used S.t6) ∈ led := hmF _ (by simp only [Side.fix]; k_mem)
    have all := LK N mC
    refine RE B F X T hk (led := (S.dc, AI S.kc S.dl S.t5 S.used S.t6) :: but led [S.dc]) (fun q hq => ?_) (all _ (hmR _ mw)) (all (S.sp, instObj 790 S.ds) (hmF _ (by simp only [Side.fix]; k_mem))) (all (S.ds, BF S.k S.turn S.t0) (hmF _ (by simp only [Side.fix]; k_mem))) (all (S.k.cr, instObj 115 S.dc) (hmF _ (by simp only [Side.fix]; k_mem))) (.head _) Lr hd hu fun t h' tk' F' N' => ?_
    · rcases List.mem_cons.mp hq with rfl | hq
      · exact N _ mC
      · exact N _ (CA.mp hq).1
    · exact hret { S with dl := max S.dl v, t5 := t } h' tk' ok.md rfl (fun _ g => g) rfl F' (KV ok N hm ap N')
  | ms b v =>
    obtain ⟨t1, t3, mw⟩ := hw
    have mO : (S.ki.ol, pairO S.a0 S.ta0 S.a1 S.ta1 S.n1) ∈ led := hmF _ (by simp only [Side.fix]; k_mem)
    have all := LK N mO
    refine RG B F X T hk (led := (S.ki.ol, pairO S.a0 S.ta0 S.a1 S.ta1 S.n1) :: but led [S.ki.ol]) (fun q hq => ?_) (all _ (hmR _ mw)) (all (S.sp, instObj 790 S.ds) (hmF _ (by simp only [Side.fix]; k_mem))) (all (S.ds, BF S.k S.turn S.t0) (hmF _ (by simp only [Side.fix]; k_mem))) (all (S.k.ids, instObj 603 S.id) (hmF _ (by simp only [Side.fix]; k_mem))) (all (S.id, Ev S.ki) (hmF _ (by simp only [Side.fix]; k_mem))) (.head _) Lr hd hu fun ta tb n' h' tk' F' N' => ?_
    · rcases List.mem_cons.mp hq with rfl | hq
      · exact N _ mO
      · exact N _ (CA.mp hq).1
    · exact hret { S with a0 := if b then S.a0 else max S.a0 v, ta0 := ta, a1 := if b then max S.a1 v else S.a1, ta1 := tb, n1 := n' } h' tk' ok.ms rfl (fun _ g => g) rfl F' (KZ ok N hm ap N')
  | msd i v =>
    obtain ⟨t1, t2, t3, mw⟩ := hw
    replace hx : i < zs.length := hx
    have hil : i < S.ps.length := by rw [ok.len]; exact hx
    have hxi := List.getElem?_eq_getElem hil
    generalize S.ps[i]'hil = x at hxi
    have hxm := List.mem_of_getElem? hxi
    have hp := ok.part i x hxi
    have mX : (x.2.d, Ca x.2.k x.2.lim x.2.t1 x.2.st x.2.t2 x.2.wr x.2.t3 x.2.snt x.2.t4 x.2.lo) ∈ led := hmS _ (Dp (Bs hxm (.tail _ (.head _))))
    have all := LK N mX
    have hb : SidB (2 * (i : Int)) (decide (i % 2 = 1)) := by
      have := QS ((i / 2 : Nat) : Int) (decide (i % 2 = 1))
      rw [show 4 * ((i / 2 : Nat) : Int) + (if decide (i % 2 = 1) then 2 else 0) = 2 * (i : Int) by
        by_cases c : i % 2 = 1 <;> simp [c] <;> lia] at this
      exact this
    have hlt : ¬ ((2 * (i : Int)).fdiv 4 ≥ (if decide (i % 2 = 1) then S.c1 else S.c0)) := by
      rw [ok.c0, ok.c1, Int.fdiv_eq_ediv_of_nonneg _ (by decide)]
      by_cases c : i % 2 = 1 <;> simp [c] <;> lia
    refine CH B F X T hk (led := (x.2.d, Ca x.2.k x.2.lim x.2.t1 x.2.st x.2.t2 x.2.wr x.2.t3 x.2.snt x.2.t4 x.2.lo) :: but led [x.2.d]) (fun q hq => ?_) (all _ (hmR _ mw)) (all (S.sp, instObj 790 S.ds) (hmF _ (by simp only [Side.fix]; k_mem))) (all (S.ds, BF S.k S.turn S.t0) (hmF _ (by simp only [Side.fix]; k_mem))) (all (S.k.ids, instObj 603 S.id) (hmF _ (by simp only [Side.fix]; k_mem))) (all (S.id, Ev S.ki) (hmF _ (by simp only [Side.fix]; k_mem)))
      (all (S.ki.om, pairO S.c0 S.tc0 S.c1 S.tc1 S.n2) (hmF _ (by simp only [Side.fix]; k_mem))) (all (S.k.se, S.oS) (hmF _ (by simp only [Side.fix]; k_mem))) ok.dS (by rw [← hp.1]; exact Hq S.ps x.1 x.2 ok.keys hxm) (all (x.2.p, instObj 498 x.2.d) (hmS _ (Dp (Bs hxm (.head _))))) (.head _) Lr hb hlt ((ok.pd' hxm).2.2.2.1).symm hd hu fun t h' tk' F' N' => ?_
    · rcases List.mem_cons.mp hq with rfl | hq
      · exact N _ mX
      · exact N _ (CA.mp hq).1
    · refine hret { S with ps := upP S.ps x.1 { x.2 with lim := max x.2.lim v, t1 := t } } h' tk' (ok.msd hxi) rfl (fun gvs g => g.up hxm rfl rfl) ?_ F' (Jl ok hxm N hm ap N')
      show (Side.fix _ ++ Bv (upP S.ps x.1 _)).map _ = (Side.fix _ ++ Bv S.ps).map _
      rw [List.map_append, List.map_append]
      congr 1
      exact PP ok.keys hxm
end
end
section
noncomputable def total (M : Lim) (zs : List Int) : Int := min M.d ((List.range' 0 zs.length).map fun i => min (M.l.getD i 0) (zs.getD i 0)).sum
theorem RH {d l u : Int} {n j : Nat} (h : j < n) : (lim0 d l u n).l.getD j 0 = if j = 1 then u else l := by
  unfold lim0
  rw [List.getD_eq_getElem?_getD, List.getElem?_map, List.getElem?_range h]
  rfl
theorem RU {w : World} {kP : List (Str × Value)} {zs : List Int} {d l u : Int} {sp ds dc id : Addr} {k : SD} {kc : CS} {ki : IK} {oS oR oW oP : Obj} {kR kW : List (Int × Value)} {t0 t5 t6 ta0 ta1 tc0 tc1 : Tok} {n1 n2 : Nat} {ps : List (Int × Part)}
    (hpe : k.pe = .ref k.pa) (hap : [ds, dc, id, k.se, k.re, k.ws, k.pa].Nodup) (hnl : ki.ol ≠ ki.om) (hsys : (k.se == sysModules) = false) (dS : oS.IsDictOf (PySem.intKind pw w) (Cj ps)) (dR : oR.IsDictOf (PySem.intKind pw w) kR) (dW : oW.IsDictOf (PySem.intKind pw w) kW) (lR : kR.length ≤ 3) (lW : kW.length ≤ 3) (dP : oP.IsDictOf (PySem.strKind pw w) kP)
    (hps : MadePs l u zs ps) (had : ∀ x ∈ ps, x.2.d ∉ [ds, dc, id, k.se, k.re, k.ws, k.pa]) (hdn : (ps.map (·.2.d)).Nodup) (hd : 0 ≤ d) (hl : 0 ≤ l) (hu : 0 ≤ u) (hzr : ∀ z ∈ zs, 1 ≤ z ∧ z ≤ 6) :
    SOk w kP zs (lim0 d l u zs.length) { sp := sp, ds := ds, dc := dc, id := id, k := k, kc := kc, ki := ki, turn := 0, t0 := t0, dl := max 0 d, t5 := t5, used := 0, t6 := t6, oS := oS, oR := oR, oW := oW, a0 := max 0 2, ta0 := ta0, a1 := max 0 1, ta1 := ta1, n1 := n1, c0 := (((zs.length + 1) / 2 : Nat) : Int), tc0 := tc0, c1 := ((zs.length / 2 : Nat) : Int), tc1 := tc1, n2 := n2, oP := oP, ps := ps } where
  pe := hpe
  nd := hap
  nl := hnl
  sys := hsys
  dS := dS
  dR := ⟨kR, dR, lR⟩
  dW := ⟨kW, dW, lW⟩
  dP := dP
  len := hps.len
  l := by simp [lim0]
  part := fun j x hx => by
    have h := hps.part j x hx
    have hj : j < zs.length := by rw [← hps.len]; exact (List.getElem?_eq_some_iff.mp hx).1
    exact ⟨h.1, h.2.1.trans (RH hj).symm, h.2.2.1⟩
  pd := had
  pdd := hdn
  d := by show max 0 d = d; lia
  a0 := rfl
  a1 := rfl
  c0 := rfl
  c1 := rfl
  us := by
    have : ps.map (fun x => x.2.snt) = ps.map fun _ => (0 : Int) := List.map_congr_left fun x hx => by
      obtain ⟨j, hj, ej⟩ := List.mem_iff_getElem.mp hx
      exact (hps.part j x (by rw [List.getElem?_eq_getElem hj, ej])).2.2.2.1
    show (0 : Int) = FW ps
    unfold FW
    rw [this]
    clear this
    have z : ∀ qs : List (Int × Part), (qs.map fun _ => (0 : Int)).sum = 0 := fun qs => by
      induction qs with
      | nil => rfl
      | cons _ _ ih => rw [List.map_cons, List.sum_cons, ih]; rfl
    exact (z ps).symm
  le := by show 0 ≤ max 0 d; lia
  pk := fun x hx => by
    obtain ⟨j, hj, ej⟩ := List.mem_iff_getElem.mp hx
    have h := hps.part j x (by rw [List.getElem?_eq_getElem hj, ej])
    have hz := hzr (zs.getD j 0) (by
      rw [List.getD_eq_getElem?_getD, List.getElem?_eq_getElem (by rw [← hps.len]; exact hj)]
      exact List.getElem_mem _)
    have hw : x.2.wr.size = (zs.getD j 0).toNat := by rw [h.2.2.1, Ez]
    refine ⟨⟨by rw [h.2.2.2.2]; exact .inl rfl, by lia⟩, by rw [h.2.2.2.1]; exact Int.le_refl 0, by rw [h.2.2.2.1]; lia, ?_⟩
    rw [h.2.2.2.1, h.2.1]
    split <;> assumption
end
section
open Sem (wp)
section
variable {M : Model} {A : Around} {E : Value → Shared → Prop} {s : Shared} {env : Env}
theorem KL {elts k tpos value pos} {names : List Str} {Q : Flow → Shared → Prop}
    (h : wpI M A (eval value env) (fun v s₁ => wpAny M A (unpackItems v names.length none) (fun items s₂ =>
      wpAny M A (assignInOrder (names.reverse.map fun n => bindName env n) items.reverse) (fun _ => Q .next) E s₂) E s₁) E s)
    (hs : autoParam (swapsWithSole [.Tuple elts k tpos] value pos.line env = pure false) aRf)
    (hw : autoParam (swappedStores [.Tuple elts k tpos] value env = pure (some names)) aRf) :
    wpI M A (exec (.Assign [.Tuple elts k tpos] value pos) env) Q E s := by
  rw [exec_Assign]
  refine Al (BB ?_)
  rw [hs]
  refine Al (AD ?_)
  rw [if_neg (by decide)]
  refine Al (Dr h (fun v s₁ h₁ => ?_) fun _ _ x => x)
  rw [hw]
  refine Al (AD ?_)
  show wpI M A (do rule "assign.swapped-stores"; let items ← unpackItems v names.length none; assignInOrder (names.reverse.map fun n => bindName env n) items.reverse; pure .next) Q E s₁
  exact Ae (wpAny_bind (wpAny_rule (wpAny_bind (wpAny_mono h₁ (fun items s₂ h₂ => wpAny_bind (wpAny_mono h₂ (fun _ _ x => wpAny_pure x) fun _ _ x => x)) fun _ _ x => x))))
theorem OY {a b : PySem.Expr} {x1 pos} {Q : Value → Shared → Prop}
    (h : wpI M A (eval a env) (fun u s₁ => wpI M A (eval b env) (fun v s₂ => Q (.ref s₂.heap.objs.size) { s₂ with heap := s₂.heap.push { cls := .type "tuple", data := .seq #[u, v] } }) E s₁) E s)
    (ha : autoParam (backTo pos (starEach [a, b] env) = [(false, eval a env), (false, eval b env)]) aRf) :
    wpI M A (eval (.Tuple [a, b] x1 pos) env) Q E s := by
  rw [arm_eval_Tuple, ha]
  refine Al (BB (Al (Et (AR h fun u s₁ h₁ => Et (AR h₁ fun v s₂ h₂ => EP (Ae ?_))))))
  exact wpAny_newTuple h₂
end
section
variable {prog : Program} {w : World} {A : Around} {E : Value → Shared → Prop} {R : Result → Shared → Prop} {s : Shared} {h₀ : Heap} {L : Addr} {m : Str → Option Value}
noncomputable def Qa (its : Array Value) (c : Nat) : Obj := { cls := .type "tuple", dict := none, data := .seq its c, slots := #[] }
noncomputable def Rp (ax : Addr) (i : Nat) (o : Obj) : Prop := o.cls = .type "tuple_iterator" ∧ o.data = .fields #[.ref ax, .int i 0]
theorem Qn {I ax : Addr} {its : Array Value} {c : Nat} : Iters h₀ L [I] (fun i h => h.IsTupleIter I ax i ∧ h.IsTuple ax its) (fun i io => ∃ o, io = [(I, o)] ∧ Rp ax i o) (fun led => (ax, Qa its c) ∈ led) where
  st := fun i h io led ⟨o, e, ok⟩ N hm => by
    subst e
    exact ⟨⟨o, (N _ (.head _)).1, ok⟩, ⟨_, (N _ (List.mem_append.mpr (.inr hm))).1, rfl, c, rfl⟩⟩
  io := fun i h st => by
    obtain ⟨⟨o, h1, h2⟩, _⟩ := st
    exact ⟨_, ⟨o, rfl, h2⟩, fun q hq => by rw [List.mem_singleton.mp hq]; exact h1⟩
  wr := fun i io ⟨o, e, _⟩ b => by
    subst e
    simp only [List.mem_singleton, Prod.mk.injEq]
    exact ⟨fun e => ⟨_, e, rfl⟩, fun ⟨o, e, _⟩ => e⟩
theorem QK {target : PySem.Expr} {body : List Stmt} {env : Env} {ax : Addr} {its : Array Value} {c : Nat} {led : List (Addr × Obj)} (hh : A.handled = none) (hl : (ax, Qa its c) ∈ led) (names : List Str) (K : Nat → List (Addr × Obj) → Prop) (hK : ∀ i led', K i led' → (ax, Qa its c) ∈ led') (F : Fr h₀ L s.heap m) (N : News h₀ L s.heap led) (h0 : K 0 led)
    (hstep : ∀ I oI i v h tk m' led', its[i]? = some v → K i led' → (∀ q ∈ led', q.1 ≠ I) → Fr h₀ L h m' → (∀ z, z ∉ names → m' z = m z) → News h₀ L h ((I, oI) :: led') →
      wpAny (model prog w) A (assign target env v) (fun _ s₂ => wpI (model prog w) A (execs body env) (fun f s₃ => match f with
          | .next | .cont => DW s h₀ L m names I oI (K (i + 1)) s₃
          | .brk => R (.ok .next) s₃
          | .ret v => R (.ok (.ret v)) s₃) (notedBy (model prog w) A env fun e s' => R (.error e) s') s₂) (notedBy (model prog w) A env fun e s' => R (.error e) s') { s with heap := h, toks := tk })
    (hdone : ∀ h tk m' led', K its.size led' → Fr h₀ L h m' → (∀ z, z ∉ names → m' z = m z) → News h₀ L h led' → R (.ok .next) { s with heap := h, toks := tk })
    (ht : autoParam (∀ I v, letOwnedTupleGo target (.ref I) v = pure ()) aRf) :
    wpAny (model prog w) A (pyIter (.ref ax)) (fun it s₂ => BY (model prog w) A (.forLoop target it body [] env) R s₂) E s := by
  have hL : s.heap.IsTuple ax its := ⟨_, (N _ hl).1, rfl, c, rfl⟩
  refine wpAny_pyIter_tuple hL ?_
  have up : ∀ b o, s.heap.get? b = some o → (s.heap.push { cls := .type "tuple_iterator", data := .fields #[.ref ax, .int 0 0] }).get? b = some o := fun b o e => Heap.get?_push_of_some _ e
  have F' := Cw F up
  have N' := Dq (S := s.heap.objs.size) F N up (by
    cases q : s.heap.get? s.heap.objs.size with
    | none => rfl
    | some o => exact absurd (Heap.lt_size q) (Nat.lt_irrefl _)) (Heap.get?_push_size _ rfl)
  have nI : ∀ q ∈ led, q.1 ≠ s.heap.objs.size := fun q hq => Nat.ne_of_lt (Heap.lt_size (N q hq).1)
  have one : ∀ {l : List (Addr × Obj)} {I : Addr}, (∀ q ∈ l, q.1 ∉ [I]) ↔ ∀ q ∈ l, q.1 ≠ I := fun {l I} => by simp only [List.mem_singleton]
  refine OT (s := { s with heap := _ }) (Walks.tuple hh _ ax (nI _ hl) its) names Qn K (fun i l k => hK i l k) ?_ (fun h tk m' led' => hdone h tk m' led') F' ⟨_, rfl, rfl, rfl⟩ N' h0 (one.mpr nI) (ht _)
  rintro i v h tk m' io led' hi ⟨oI, rfl, hok⟩ hKi hap hv F2 hm N2
  refine wpAny_mono (hstep _ oI i v h tk m' led' hv hKi (one.mp hap) F2 hm N2) (fun _ s₂ h₂ => AR h₂ fun f s₃ h₃ => ?_) fun _ _ e => e
  cases f with
  | next => obtain ⟨h7, tk7, m7, led7, e7, F7, n7, N7, k7, a7⟩ := h₃; exact ⟨h7, tk7, m7, led7, e7, F7, n7, N7, k7, one.mpr a7⟩
  | cont => obtain ⟨h7, tk7, m7, led7, e7, F7, n7, N7, k7, a7⟩ := h₃; exact ⟨h7, tk7, m7, led7, e7, F7, n7, N7, k7, one.mpr a7⟩
  | brk => exact h₃
  | ret v => exact h₃
end
end
section
open Sem (wp)
section
variable {prog : Program} {w : World} {A : Around} {E : Value → Shared → Prop} {R : Result → Shared → Prop} {s : Shared} {env : Env}
noncomputable def Mk (G : Obj → Prop) (s₃ : Shared) (y : Value) (s₄ : Shared) : Prop := (∃ T o, y = .ref T ∧ s₃.heap.get? T = none ∧ s₄.heap.get? T = some o ∧ G o) ∧ Keeps s₃ s₄
theorem Mk.push {G : Obj → Prop} {s₃ : Shared} {h : Heap} {tk : Nat} {o : Obj} (up : Up s₃.heap h) (g : G o) (hf : o.isFreed = false) : Mk G s₃ (.ref h.objs.size) { s₃ with heap := h.push o, toks := tk } :=
  ⟨⟨_, o, rfl, by
    cases q : s₃.heap.get? h.objs.size with
    | none => rfl
    | some o' => exact absurd (Heap.lt_size (up _ _ q)) (Nat.lt_irrefl _), Heap.get?_push_size _ hf, g⟩, ⟨_, _, rfl, fun b o' e => Heap.get?_push_of_some _ (up b o' e)⟩⟩
end
noncomputable def Gy : Program → World → Around → (Value → Shared → Prop) → Shared → Env → PySem.Expr → PySem.Expr → Str → Pos → Scope → (List (Str × Addr)) → Pos → (Value → Shared → Prop) → Nat → (Nat → Obj → Prop) → Prop := fun prog w A E s env elt iter x px scope cl pos Q n G =>
  (A.handled = none) → (n < 64) → (closureFor scope env = pure cl) → (∀ y ∈ scope.names, y.2 ≠ .cell) → (scope.kind = .function) → (∀ y ∈ scope.names, y.2 = .local → scope.names.lookup y.1 = some .local) → (scope.names.lookup x = some .local) → (wpAny (model prog w) A (eval iter env) (fun v s₁ => ∃ r t u v', v = .ref r ∧ IsRange s₁.heap r 0 n 1 t u v' ∧ Keeps s s₁) E s) → (∀ C (i : Nat) t s₃ m₃ (E' : Value → Shared → Prop), i < n → s₃.heap.Ns C m₃ → m₃ x = some (.int (i : Int) t) → Up s.heap s₃.heap →
      wpAny (model prog w) A (eval elt (compEnvC scope cl C env)) (fun y s₄ => Mk (G i) s₃ y s₄) E' s₃) → (∀ D h' tk ys, s.heap.get? D = none → h'.PlainList D ys → Paired (fun i y => ∃ T o, y = .ref T ∧ T ≠ D ∧ s.heap.get? T = none ∧ h'.get? T = some o ∧ G i o) (List.range' 0 n) ys.toList → Up s.heap h' → Q (.ref D) { s with heap := h', toks := tk }) → (∀ x, foldedSetIterable iter env x = pure x) →
  wpAny (model prog w) A (eval (.ListComp elt [⟨.Name x px, iter, [], 0⟩] scope pos) env) Q E s
@[irreducible] def Am := eps 8290700 (by walk_at "nonempty") (Dk Gy)
namespace CO
def s := Am.1.2.1.1
def n := Am.2.2.2.1
noncomputable def II : Stg (F := Tok → Nat → Nat → Heap → Nat → Nat → Prop) CR (Gy Am.1.1.1.1 Am.1.1.1.2 Am.1.1.2.1 Am.1.1.2.2 s Am.1.2.1.2 Am.1.2.2.1 Am.1.2.2.2 Am.2.1.1.1 Am.2.1.1.2 Am.2.1.2.1 Am.2.1.2.2 Am.2.2.1.1 Am.2.2.1.2 n Am.2.2.2.2) := mk6 _ fun K1 => by
  intro hh hn hclos hcell hkind hnames hx hi helt hQ hs
  rw [eval_ListComp]
  refine wpAny_comprehension_free (use := none) rfl hs hclos hkind hnames (wpAny_mono hi (fun v s₁ h₁ => ?_) fun _ _ e => e)
  obtain ⟨r, t, u, v', rfl, hr, h₁, tk₁, rfl, k₁⟩ := h₁
  have hsm : Builtin.Range.small 0 n 1 = true := (by decide +kernel : ∀ n : Fin 64, Builtin.Range.small 0 ((n : Nat) : Int) 1 = true) ⟨n, hn⟩
  have hsz : Builtin.Range.rangeSize 0 n 1 = n := by rw [rangeSize_nat, Int.sub_zero, Int.toNat_natCast]
  refine wpAny_pyIter_range hr hsm ?_
  rw [hsz]
  generalize hI : h₁.objs.size = I
  have W := LCg.range_walks (prog := Am.1.1.1.1) (w := Am.1.1.1.2) (I := I) hh 0 n (A := Am.1.1.2.1)
  refine wpAny_newObj_type (wpAny_newFunctionEnv hcell (by intro y hy; simp at hy) (fun h₂ hns₂ hsb₂ => ?_) hkind)
  dsimp only at hns₂ hsb₂ ⊢
  generalize hH1 : h₁.push { cls := .type "range_iterator", data := .fields #[rawInt 0, rawInt (n : Int), rawInt 1] } = H1 at hns₂ hsb₂ ⊢
  generalize hH2 : H1.push { cls := .type "list", dict := none, data := .seq ([] : List Value).toArray } = H2 at hns₂ hsb₂ ⊢
  have hD1 : H1.objs.size = I + 1 := by rw [← hH1, Heap.size_push, hI]
  have hC1 : H2.objs.size = I + 2 := by rw [← hH2, Heap.size_push, hD1]
  obtain ⟨D, hD⟩ : ∃ D, D = H1.objs.size := ⟨_, rfl⟩
  obtain ⟨C, hCe⟩ : ∃ C, C = H2.objs.size := ⟨_, rfl⟩
  rw [← hCe] at hns₂ hsb₂ ⊢
  rw [← hD] at ⊢
  have hDv : D = I + 1 := hD.trans hD1
  have hCv : C = I + 2 := hCe.trans hC1
  have nDI : D ≠ I := by rw [hDv]; exact Nat.succ_ne_self _
  have nCI : C ≠ I := by rw [hCv]; exact Nat.ne_of_gt (Nat.lt_succ_of_lt (Nat.lt_succ_self _))
  have nDC : D ≠ C := by rw [hDv, hCv]; exact Nat.ne_of_lt (Nat.lt_succ_self _)
  have itS : IsRangeIter h₂ I (0 + ((0 : Nat) : Nat) * 1) ((n : Int) - ((0 : Nat) : Nat)) 1 := by
    have e : H1.get? I = some { cls := .type "range_iterator", data := .fields #[rawInt 0, rawInt (n : Int), rawInt 1] } := by rw [← hH1, ← hI]; exact Heap.get?_push_size _ rfl
    have e2 : h₂.get? I = some { cls := .type "range_iterator", data := .fields #[rawInt 0, rawInt (n : Int), rawInt 1] } := hsb₂.extBut _ _ (Ne.symm nCI) (Heap.get?_push_of_some _ (by rw [← hH2]; exact Heap.get?_push_of_some _ e))
    unfold IsRangeIter
    rw [e2]
    simp
  have hacc0 : H2.get? D = some { cls := .type "list", dict := none, data := .seq ([] : List Value).toArray } := by rw [← hH2, hD]; exact Heap.get?_push_size _ rfl
  have hacc : h₂.PlainList D #[] := ⟨_, hsb₂.extBut _ _ nDC (Heap.get?_push_of_some _ hacc0)⟩
  have low : ∀ b, (∃ o, s.heap.get? b = some o) → b ≠ I ∧ b ≠ D ∧ b ≠ C := fun b ⟨o, e⟩ => by
    have hb := Heap.lt_size (k₁ b o e)
    rw [hI] at hb
    rw [hDv, hCv]
    exact ⟨Nat.ne_of_lt hb, Nat.ne_of_lt (Nat.lt_succ_of_lt hb), Nat.ne_of_lt (Nat.lt_succ_of_lt (Nat.lt_succ_of_lt hb))⟩
  have up2 : Up s.heap h₂ := fun b o e => by
    have q := low b ⟨o, e⟩
    have e1 : H1.get? b = some o := by rw [← hH1]; exact Heap.get?_push_of_some _ (k₁ b o e)
    have e2 : H2.get? b = some o := by rw [← hH2]; exact Heap.get?_push_of_some _ e1
    exact hsb₂.extBut b o q.2.2 (Heap.get?_push_of_some _ e2)
  have hfD : s.heap.get? D = none := by
    cases e : s.heap.get? D with
    | none => rfl
    | some o => exact absurd rfl (low D ⟨o, e⟩).2.1
  have kC : Env.kindOf (compEnvC Am.2.1.2.1 Am.2.1.2.2 C Am.1.2.1.2) Am.2.1.1.1 = some .local := lookup_relabel_local hx
  have hp : ((compEnvC Am.2.1.2.1 Am.2.1.2.2 C Am.1.2.1.2).scope.kind == .class || ((compEnvC Am.2.1.2.1 Am.2.1.2.2 C Am.1.2.1.2).scope.kind == .module && (compEnvC Am.2.1.2.1 Am.2.1.2.2 C Am.1.2.1.2).locals != (compEnvC Am.2.1.2.1 Am.2.1.2.2 C Am.1.2.1.2).globals)) = false := by simp [compEnvC, relabel, hkind]
  clear hh hclos hcell hkind hnames hx hi hs k₁ hr hsm hsz hI hH1 hH2 hD1 hC1 hD hsb₂ hCe hDv hCv hacc0
  walk_at "rv"
  intro K1
  exact K1.p t tk₁ I h₂ D C
@[irreducible] def CC := eps 8290701 (by walk_at "nonempty") (CR II.1)
namespace kut1
def I := CC.1.2
def D := CC.2.1.2
def C := CC.2.2
noncomputable def ID : Stg (F := Heap → Nat → (Str → Option Value) → (Array Value) → Prop) Ch (II.1 CC.1.1.1 CC.1.1.2 I CC.2.1.1 D C) := mk4 _ fun K2 => by
  intro hn helt hQ W hns₂ nDI nCI nDC itS hacc low up2 hfD kC hp
  have loop : ∀ s₃ : Shared, s₃ = { s with heap := CC.2.1.1, toks := CC.1.1.2 + ([] : List (Str × Value)).length } →
      codeAny (model Am.1.1.1.1 Am.1.1.1.2) Am.1.1.2.1 (.compLoop (.ListComp Am.1.2.2.1 [⟨.Name Am.2.1.1.1 Am.2.1.1.2, Am.1.2.2.2, [], 0⟩] Am.2.1.2.1 Am.2.2.1.1) 0 (.ref I) (.ref D) (compEnvC Am.2.1.2.1 Am.2.1.2.2 C Am.1.2.1.2)) (compPost (model Am.1.1.1.1 Am.1.1.1.2) Am.1.1.2.1 Am.1.1.2.2 none Am.2.2.1.2 (.ref D) C) s₃ := by
    rintro s₃ rfl
    refine El (fun k s' => ∃ h' tk m' ys i, s' = { s with heap := h', toks := tk } ∧ i ≤ n ∧ k = n + 1 - i ∧ h'.Ns C m' ∧ h'.PlainList D ys ∧ Paired (fun i y => ∃ T o, y = .ref T ∧ T ≠ D ∧ T ≠ C ∧ T ≠ I ∧ s.heap.get? T = none ∧ h'.get? T = some o ∧ Am.2.2.2.2 i o) (List.range' 0 i) ys.toList ∧ IsRangeIter h' I (0 + (i : Nat) * 1) ((n : Int) - (i : Nat)) 1 ∧ Up s.heap h') ?_ (n + 1)
      ⟨CC.2.1.1, _, _, #[], 0, rfl, Nat.zero_le _, rfl, hns₂, hacc, .nil, itS, up2⟩
    rintro k s' ⟨H, tk, m', ys, i, rfl, hi', rfl, hns, hpl, hpr, hit, hup⟩
    clear hns₂ itS hacc up2
    walk_at "rv"
    intro K2
    revert i
    exact K2.p H tk m' ys
  exact codeAny_compStart_list (loop _ rfl) (W.self 0 _ _ _ itS (loop _ rfl))
@[irreducible] def Ck := eps 8290702 (by walk_at "nonempty") (Ch ID.1)
noncomputable def IF : Stg (F := Nat → Heap → Nat → Tok → Heap → Heap → Nat → Addr → Obj → Prop) ET (Ch ID.1 Ck) := mk9 _ fun K3 => by
  intro i hn helt hQ W nDI nCI nDC low hfD kC hp hi' hns hpl hpr hit hup
  have mono : ∀ {h h' : Heap}, (∀ b o, b ≠ D → b ≠ C → b ≠ I → h.get? b = some o → h'.get? b = some o) → ∀ j y, (∃ T o, y = Value.ref T ∧ T ≠ D ∧ T ≠ C ∧ T ≠ I ∧ s.heap.get? T = none ∧ h.get? T = some o ∧ Am.2.2.2.2 j o) → ∃ T o, y = Value.ref T ∧ T ≠ D ∧ T ≠ C ∧ T ≠ I ∧ s.heap.get? T = none ∧ h'.get? T = some o ∧ Am.2.2.2.2 j o := by
    rintro h h' kk j y ⟨T, o, e, a1, a2, a3, a4, a5, a6⟩
    exact ⟨T, o, e, a1, a2, a3, a4, kk T o a1 a2 a3 a5, a6⟩
  rcases Nat.lt_or_ge i n with hlt | hge
  · refine W.item i _ _ _ hlt hit fun v h₃ tk₃ hv hit₃ hk₃ => ?_
    obtain ⟨t, rfl⟩ := hv
    have k3 : ∀ b o, b ≠ I → Ck.1.1.get? b = some o → h₃.get? b = some o := fun b o hb e => hk₃ b o (by simpa using hb) e
    show wpAny _ Am.1.1.2.1 (letOwnedTupleGo (.Name Am.2.1.1.1 Am.2.1.1.2) (.ref I) _) _ _ _
    refine wpAny_of_eq (a := ()) rfl ?_
    refine wpAny_assign_Name (wpAny_storeName_local kC (hns.at' fun o e => k3 _ o nCI e) (fun h₅ hn₅ hs₅ => ?_) hp)
    replace hs₅ : Heap.SameBut C h₃ h₅ := hs₅
    have k5 : ∀ b o, b ≠ C → b ≠ I → Ck.1.1.get? b = some o → h₅.get? b = some o := fun b o hb hb2 e => hs₅.extBut b o hb (k3 b o hb2 e)
    have up5 : Up s.heap h₅ := fun b o e => by
      have q := low b ⟨o, e⟩
      exact k5 b o q.2.2 q.1 (hup b o e)
    refine wpAny_mono (helt C i t _ _ _ hlt hn₅ (by simp) up5) (fun y s₄ ⟨hg, hkp⟩ => ?_) fun _ _ e => e
    obtain ⟨h₇, tk₇, rfl, k₇⟩ := hkp
    obtain ⟨T, o, rfl, hTn, hTo, hTG⟩ := hg
    rename_i z1
    clear helt hQ W hfD kC hp hns hit hk₃ k3 z1
    walk_at "rv"
    intro K3
    exact K3.p i h₃ tk₃ t h₅ h₇ tk₇ T o
  · obtain rfl : i = n := Nat.le_antisymm hi' hge
    refine W.done _ _ _ hit fun h₃ tk₃ hk₃ => ?_
    have k3 : ∀ b o, b ≠ I → Ck.1.1.get? b = some o → h₃.get? b = some o := fun b o hb e => hk₃ b o (by simpa using hb) e
    refine ⟨Ck.2.1, hns.at' fun o e => k3 _ o nCI e, fun h₄ hs₄ => ?_⟩
    have k4 : ∀ b o, b ≠ C → b ≠ I → Ck.1.1.get? b = some o → h₄.get? b = some o := fun b o hb hb2 e => hs₄.extBut b o hb (k3 b o hb2 e)
    refine hQ D h₄ tk₃ Ck.2.2 hfD ?_ (Paired.mono (fun j y h => ?_) hpr) fun b o e => ?_
    · obtain ⟨c, e⟩ := hpl
      exact ⟨c, k4 _ _ nDC nDI e⟩
    · obtain ⟨T, o, e, a1, a2, a3, a4, a5, a6⟩ := h
      exact ⟨T, o, e, a1, a4, k4 T o a2 a3 a5, a6⟩
    · have q := low b ⟨o, e⟩
      exact k4 b o q.2.2 q.1 (hup b o e)
@[irreducible] def AG := eps 8290703 (by walk_at "nonempty") (ET IF.1)
namespace kut3
def o := AG.2.2.2
theorem Rm : IF.1 AG.1.1.1.1 AG.1.1.1.2 AG.1.1.2 AG.1.2.1 AG.1.2.2 AG.2.1.1 AG.2.1.2 AG.2.2.1 o := by
  intro hn nDI nCI nDC low hi' hpl hpr hup mono hlt hit₃ hn₅ hs₅ k5 up5 k₇ hTn hTo hTG
  have hpl7 : AG.2.1.1.PlainList D Ck.2.2 := by obtain ⟨c, e⟩ := hpl; exact ⟨c, k₇ _ _ (k5 _ _ nDC nDI e)⟩
  refine wpAny_list_append_plain hpl7 (fun h₈ hpl8 hs₈ => ?_) (by
    have := hpr.length
    rw [List.length_range', Array.length_toList] at this
    rw [sizeLine_eq]; lia)
  replace hs₈ : Heap.SameBut D AG.2.1.1 h₈ := hs₈
  have k8 : ∀ b o, b ≠ D → b ≠ C → b ≠ I → Ck.1.1.get? b = some o → h₈.get? b = some o := fun b o b1 b2 b3 e => hs₈.extBut b o b1 (k₇ _ _ (k5 b o b2 b3 e))
  have hTn' : AG.1.2.2.get? AG.2.2.1 = none := hTn
  have tD : AG.2.2.1 ≠ D := fun e => by obtain ⟨c, e2⟩ := hpl; rw [e, k5 _ _ nDC nDI e2] at hTn'; cases hTn'
  have tC : AG.2.2.1 ≠ C := fun e => by obtain ⟨oL, e1, e2, hL, e3⟩ := hn₅; have q : (none : Option Obj) = some oL := hTn'.symm.trans ((congrArg AG.1.2.2.get? e).trans hL); cases q
  have itI : IsRangeIter AG.1.2.2 I (0 + ((AG.1.1.1.1 + 1 : Nat) : Nat) * 1) ((n : Int) - ((AG.1.1.1.1 + 1 : Nat) : Nat)) 1 := hs₅.extBut _ _ (Ne.symm nCI) hit₃
  have tI : AG.2.2.1 ≠ I := fun e => by rw [e, itI] at hTn'; cases hTn'
  have tS : s.heap.get? AG.2.2.1 = none := by
    cases e : s.heap.get? AG.2.2.1 with
    | none => rfl
    | some o => rw [up5 _ _ e] at hTn'; cases hTn'
  refine ⟨n + 1 - (AG.1.1.1.1 + 1), by lia, h₈, AG.2.1.2, _, Ck.2.2.push (.ref AG.2.2.1), AG.1.1.1.1 + 1, rfl, hlt, rfl, (hn₅.at' fun o e => hs₈.extBut _ o nDC.symm (k₇ _ _ e)), hpl8, ?_, hs₈.extBut _ _ (Ne.symm nDI) (k₇ _ _ itI), fun b o e => ?_⟩
  · rw [Array.toList_push]
    exact Ek (Paired.mono (mono k8) hpr) ⟨AG.2.2.1, o, rfl, tD, tC, tI, tS, hs₈.extBut _ _ tD hTo, hTG⟩
  · have q := low b ⟨o, e⟩
    exact k8 b o q.2.1 q.2.2 q.1 (hup b o e)
end kut3
end kut1
end CO
section
variable {prog : Program} {w : World} {A : Around} {E : Value → Shared → Prop} {R : Result → Shared → Prop} {s : Shared} {env : Env}
theorem CO {elt iter : PySem.Expr} {x : Str} {px : Pos} {scope : Scope} {cl : List (Str × Addr)} {pos : Pos} {Q : Value → Shared → Prop} {n : Nat}
    (G : Nat → Obj → Prop) (hh : A.handled = none) (hn : n < 64)
    (hclos : closureFor scope env = pure cl) (hcell : ∀ y ∈ scope.names, y.2 ≠ .cell) (hkind : scope.kind = .function)
    (hnames : ∀ y ∈ scope.names, y.2 = .local → scope.names.lookup y.1 = some .local) (hx : scope.names.lookup x = some .local)
    (hi : wpAny (model prog w) A (eval iter env) (fun v s₁ => ∃ r t u v', v = .ref r ∧ IsRange s₁.heap r 0 n 1 t u v' ∧ Keeps s s₁) E s)
    (helt : ∀ C (i : Nat) t s₃ m₃ (E' : Value → Shared → Prop), i < n → s₃.heap.Ns C m₃ → m₃ x = some (.int (i : Int) t) → Up s.heap s₃.heap →
      wpAny (model prog w) A (eval elt (compEnvC scope cl C env)) (fun y s₄ => Mk (G i) s₃ y s₄) E' s₃)
    (hQ : ∀ D h' tk ys, s.heap.get? D = none → h'.PlainList D ys → Paired (fun i y => ∃ T o, y = .ref T ∧ T ≠ D ∧ s.heap.get? T = none ∧ h'.get? T = some o ∧ G i o) (List.range' 0 n) ys.toList → Up s.heap h' → Q (.ref D) { s with heap := h', toks := tk })
    (hs : autoParam (∀ x, foldedSetIterable iter env x = pure x) aRf) :
    wpAny (model prog w) A (eval (.ListComp elt [⟨.Name x px, iter, [], 0⟩] scope pos) env) Q E s := by
  exact (BH (P := Dk Gy) Am (AQ CO.II CO.CC (AQ CO.kut1.ID CO.kut1.Ck (AQ CO.kut1.IF CO.kut1.AG CO.kut1.kut3.Rm))) ((((prog, w), A, E), (s, env), elt, iter), ((x, px), scope, cl), (pos, Q), n, G)) hh hn hclos hcell hkind hnames hx hi helt hQ hs
end
end
section
theorem NY {h : Heap} {D : Addr} {P : Addr → Prop} : ∀ {n a : Nat} {ys : List Value}, Paired (fun (i : Nat) y => ∃ T o, y = .ref T ∧ T ≠ D ∧ P T ∧ h.get? T = some o ∧ ∃ t1 t2, o = Qa #[.int (2 * (i : Int)) t1, .bytes #[] t2] 0) (List.range' a n) ys →
    ∃ kvs : List (Int × Value), kvs.length = n ∧ kvs.map (·.1) = (List.range' a n).map (fun (i : Nat) => 2 * (i : Int)) ∧ ys.length = n ∧ (∀ (i : Nat) y, ys[i]? = some y → ∃ a k v t, y = .ref a ∧ kvs[i]? = some (k, v) ∧ h.IsTuple a #[.int k t, v]) ∧ ∀ kv ∈ kvs, ∃ t, kv.2 = .bytes #[] t
  | 0, a, ys, hp => by
    cases hp
    exact ⟨[], rfl, rfl, rfl, fun i y e => by simp at e, fun kv h => nomatch h⟩
  | n + 1, a, ys, hp => by
    rw [List.range'_succ] at hp
    cases hp with
    | cons x r =>
      obtain ⟨T, o, e, _, _, hT, t1, t2, rfl⟩ := x
      subst e
      obtain ⟨kvs, h1, h2, h3, h4, h5⟩ := NY r
      refine ⟨(2 * (a : Int), .bytes #[] t2) :: kvs, by simp [h1], by rw [List.range'_succ, List.map_cons, List.map_cons, h2], by simp [h3], fun i y e => ?_, fun kv hkv => ?_⟩
      · cases i with
        | zero =>
          rw [List.getElem?_cons_zero] at e
          cases e
          exact ⟨T, 2 * (a : Int), .bytes #[] t2, t1, rfl, rfl, ⟨_, hT, rfl, 0, rfl⟩⟩
        | succ i => exact h4 i y (by simpa using e)
      · rcases List.mem_cons.mp hkv with rfl | hkv
        · exact ⟨t2, rfl⟩
        · exact h5 kv hkv
theorem Qe (a n : Nat) : ((List.range' a n).map (fun (i : Nat) => 2 * (i : Int))).Nodup := by
  refine List.pairwise_iff_getElem.mpr fun i j hi hj hij e => ?_
  simp only [List.getElem_map, List.getElem_range', Nat.one_mul] at e
  lia
theorem UR {w : World} {kP : List (Str × Value)} {zs : List Int} {M : Lim} {S : Side} {gvs : List (Int × Value)} (ok : SOk w kP zs M S) (hsn : ∀ x ∈ S.ps, x.2.snt = 0) (hk : gvs.map (·.1) = (List.range' 0 zs.length).map (fun (i : Nat) => 2 * (i : Int))) (hv : ∀ kv ∈ gvs, ∃ t, kv.2 = .bytes #[] t) : GotOk gvs S.ps where
  keys := by
    rw [hk]
    refine List.ext_getElem (by rw [List.length_map, List.length_map, List.length_range', ok.len]) fun j h1 h2 => ?_
    rw [List.length_map] at h2
    rw [List.getElem_map, List.getElem_map, (ok.part j _ (List.getElem?_eq_getElem h2)).1]
    simp
  val := fun x hx => by
    have hm : x.1 ∈ gvs.map (·.1) := by
      obtain ⟨j, hj, ej⟩ := List.mem_iff_getElem.mp hx
      rw [hk]
      refine List.mem_map.mpr ⟨j, ?_, ?_⟩
      · rw [List.mem_range'_1]
        have := ok.len
        lia
      · exact (ok.part j x (by rw [List.getElem?_eq_getElem hj, ej])).1.symm
    rw [hsn x hx, Re]
    unfold valueAt
    cases hf : gvs.find? (fun kv => decide (kv.1 = x.1)) with
    | none =>
      obtain ⟨kv, hkv, e⟩ := List.mem_map.mp hm
      have := List.find?_eq_none.mp hf kv hkv
      simp [e] at this
    | some kv =>
      obtain ⟨t, ht⟩ := hv kv (List.mem_of_find?_eq_some hf)
      exact ⟨t, by show some kv.2 = _; rw [ht]⟩
end
section
theorem reordG {g : Addr × Obj} {R O : List (Addr × Obj)} (q : Addr × Obj) : q ∈ O ++ g :: R ↔ q ∈ g :: (R ++ O) := by
  simp only [List.mem_append, List.mem_cons]
  constructor
  · rintro (h | h | h)
    · exact .inr (.inr h)
    · exact .inl h
    · exact .inr (.inl h)
  · rintro (h | h | h)
    · exact .inr (.inl h)
    · exact .inr (.inr h)
    · exact .inl h
theorem HG.mono {l1 l2 : List (Addr × Obj)} {a : Addr} (h : ∀ q ∈ l1, q ∈ l2) {x : Wd} (hx : HG l1 a x) : HG l2 a x := by
  cases x with
  | md _ => obtain ⟨t1, t3, hm⟩ := hx; exact ⟨t1, t3, h _ hm⟩
  | msd _ _ => obtain ⟨t1, t2, t3, hm⟩ := hx; exact ⟨t1, t2, t3, h _ hm⟩
  | ms _ _ => obtain ⟨t1, t3, hm⟩ := hx; exact ⟨t1, t3, h _ hm⟩
theorem WordsAre.mono {l1 l2 : List (Addr × Obj)} (h : ∀ q ∈ l1, q ∈ l2) {vs : List Value} {ws : List Wd} (k : WordsAre l1 vs ws) : WordsAre l2 vs ws := by
  induction k with
  | nil => exact .nil
  | cons hw _ ih => exact .cons (hw.mono h) ih
theorem WordsAre.take {led : List (Addr × Obj)} {vs : List Value} {ws : List Wd} (k : WordsAre led vs ws) : ∀ n : Nat, WordsAre led (vs.take n) (ws.take n) := by
  induction k with
  | nil => intro n; rw [List.take_nil, List.take_nil]; exact .nil
  | cons hw _ ih =>
    intro n
    cases n with
    | zero => exact .nil
    | succ n => exact .cons hw (ih n)
theorem WordsAre.append {led : List (Addr × Obj)} {vs us : List Value} {ws xs : List Wd} (k : WordsAre led vs ws) (h : WordsAre led us xs) : WordsAre led (vs ++ us) (ws ++ xs) := by
  induction k with
  | nil => exact h
  | cons hw _ ih => exact .cons hw ih
theorem WordsAre.reverse {led : List (Addr × Obj)} {vs : List Value} {ws : List Wd} (k : WordsAre led vs ws) : WordsAre led vs.reverse ws.reverse := by
  induction k with
  | nil => exact .nil
  | cons hw _ ih =>
    rw [List.reverse_cons, List.reverse_cons]
    exact ih.append (.cons hw .nil)
structure RunOk (w : World) (kP : List (Str × Value)) (zs : List Int) (M : Lim) (sp0 gd : Addr) (R : List (Addr × Obj)) (S : Side) (oG : Obj) (gvs : List (Int × Value)) : Prop where
  ok : SOk w kP zs M S
  sp : S.sp = sp0
  dG : oG.IsDictOf (PySem.intKind pw w) gvs
  got : GotOk gvs S.ps
  ap : FT R S.objs
  gS : ∀ y ∈ S.objs, gd ≠ y.1
noncomputable def Mid (s : Shared) (h₀ : Heap) (L : Addr) (mm : Str → Option Value) (w : World) (kP : List (Str × Value)) (zs : List Int) (M : Lim) (sp0 gd : Addr) (R : List (Addr × Obj)) (P : Side → Prop) (s₂ : Shared) : Prop :=
  ∃ h tk S oG gvs, s₂ = { s with heap := h, toks := tk } ∧ Fr h₀ L h mm ∧ News h₀ L h ((gd, oG) :: (R ++ S.objs)) ∧ RunOk w kP zs M sp0 gd R S oG gvs ∧ P S
theorem Mid.intro {s : Shared} {h₀ h : Heap} {L : Addr} {mm : Str → Option Value} {w : World} {kP : List (Str × Value)} {zs : List Int} {M : Lim} {sp0 gd : Addr} {R : List (Addr × Obj)} {P : Side → Prop} {S : Side} {oG : Obj} {gvs : List (Int × Value)} {tk : Nat}
    (F : Fr h₀ L h mm) (N : News h₀ L h ((gd, oG) :: (R ++ S.objs))) (ok : RunOk w kP zs M sp0 gd R S oG gvs) (hP : P S) : Mid s h₀ L mm w kP zs M sp0 gd R P { s with heap := h, toks := tk } := ⟨h, tk, S, oG, gvs, rfl, F, N, ok, hP⟩
end
section
structure OpenOk (w : World) (S : Side) (oS oR oW : Obj) (c0 c1 : Int) : Prop where
  dS : ∃ kS : List (Int × Value), oS.IsDictOf (PySem.intKind pw w) kS ∧ kS.length + (S.a0 - c0).toNat + (S.a1 - c1).toNat ≤ 64
  dR : ∃ kR : List (Int × Value), oR.IsDictOf (PySem.intKind pw w) kR ∧ kR.length + (S.a0 - c0).toNat + (S.a1 - c1).toNat ≤ 64
  dW : ∃ kW : List (Int × Value), oW.IsDictOf (PySem.intKind pw w) kW ∧ kW.length + (S.a0 - c0).toNat + (S.a1 - c1).toNat ≤ 64
  l0 : c0 ≤ S.a0
  l1 : c1 ≤ S.a1
noncomputable abbrev Lb (S : Side) (sp0 : Addr) (oS oR oW : Obj) (c0 c1 : Int) (tc0 tc1 : Tok) (n2 : Nat) (rest : List (Addr × Obj)) : List (Addr × Obj) :=
  BC S.k S.kc S.ki sp0 S.ds S.dc S.id oS oR oW S.oP S.turn S.dl S.used S.a0 S.a1 c0 c1 S.t0 S.t5 S.t6 S.ta0 S.ta1 tc0 tc1 S.n1 n2 rest
theorem ST (M : Lim) (x : Wd) : M.s0 ≤ (M.up x).s0 ∧ M.s1 ≤ (M.up x).s1 ∧ M.d ≤ (M.up x).d := by
  cases x with
  | md v => refine ⟨Int.le_refl _, Int.le_refl _, ?_⟩; show M.d ≤ max M.d v; lia
  | msd i v => exact ⟨Int.le_refl _, Int.le_refl _, Int.le_refl _⟩
  | ms b v =>
    refine ⟨?_, ?_, Int.le_refl _⟩
    · show M.s0 ≤ if b then M.s0 else max M.s0 v
      split <;> lia
    · show M.s1 ≤ if b then max M.s1 v else M.s1
      split <;> lia
theorem QV : ∀ (ws : List Wd) (M : Lim), M.s0 ≤ (limOf M ws).s0 ∧ M.s1 ≤ (limOf M ws).s1 ∧ M.d ≤ (limOf M ws).d
  | [], M => ⟨Int.le_refl _, Int.le_refl _, Int.le_refl _⟩
  | x :: r, M => by
    have h1 := ST M x
    have h2 := QV r (M.up x)
    exact ⟨Int.le_trans h1.1 h2.1, Int.le_trans h1.2.1 h2.2.1, Int.le_trans h1.2.2 h2.2.2⟩
theorem OpenOk.start {w : World} {kP : List (Str × Value)} {zs : List Int} {d l u : Int} {ws : List Wd} {S : Side} (ok : SOk w kP zs (limOf (lim0 d l u zs.length) ws) S) (hn3 : zs.length ≤ 3)
    (h : (limOf (lim0 d l u zs.length) ws).s0 ≤ 16 ∧ (limOf (lim0 d l u zs.length) ws).s1 ≤ 16) : OpenOk w S S.oS S.oR S.oW S.c0 S.c1 := by
  have hg := QV ws (lim0 d l u zs.length)
  have e0 : (lim0 d l u zs.length).s0 = 2 := rfl
  have e1 : (lim0 d l u zs.length).s1 = 1 := rfl
  have a0 := ok.a0
  have a1 := ok.a1
  have c0 := ok.c0
  have c1 := ok.c1
  obtain ⟨kR, dR, lR⟩ := ok.dR
  obtain ⟨kW, dW, lW⟩ := ok.dW
  have lS : (Cj S.ps).length ≤ 3 := by
    have := ok.len
    simp only [Cj, List.length_map]
    omega
  exact ⟨⟨_, ok.dS, by omega⟩, ⟨kR, dR, by omega⟩, ⟨kW, dW, by omega⟩, by omega, by omega⟩
theorem Pu {a0 a1 c0 c1 : Int} {i : Nat} {bb : Bool} (hbb : bb = decide (i = 1)) (hi : i < 2) (hlt : (if bb then c1 else c0) < (if bb then a1 else a0)) (h0 : c0 ≤ a0) (h1 : c1 ≤ a1) (hi1 : 1 ≤ i → c0 = a0) :
    (a0 - (if bb then c0 else c0 + 1)).toNat + (a1 - (if bb then c1 + 1 else c1)).toNat + 1 = (a0 - c0).toNat + (a1 - c1).toNat ∧ (if bb then c0 else c0 + 1) ≤ a0 ∧ (if bb then c1 + 1 else c1) ≤ a1 ∧ (1 ≤ i → (if bb then c0 else c0 + 1) = a0) ∧ (2 ≤ i → (if bb then c1 + 1 else c1) = a1) := by
  by_cases h : i = 1
  · subst h
    have : bb = true := by rw [hbb]; rfl
    subst this
    simp only [if_true] at hlt ⊢
    have := hi1 (Nat.le_refl 1)
    lia
  · have h0' : i = 0 := by lia
    subst h0'
    have : bb = false := by rw [hbb]; rfl
    subst this
    simp only [Bool.false_eq_true, if_false] at hlt ⊢
    lia
theorem Qc {h₀ h h' : Heap} {L : Addr} {w : World} {kP : List (Str × Value)} {zs : List Int} {M : Lim} {S : Side} {sp0 lo p d : Addr} {oS oR oW oS' oR' oW' P0 D0 : Obj} {c0 c1 c0' c1' : Int} {tc0 tc1 tc0' tc1' : Tok} {n2 n2' : Nat} {a b : Addr × Obj} {kS kR kW : List (Int × Value)} {rest : List (Addr × Obj)} (apR : ∀ q ∈ rest, ∀ y ∈ S.objs, q.1 ≠ y.1) (ok : SOk w kP zs M S) (hO : oS.IsDictOf (PySem.intKind pw w) kS) (hR : oR.IsDictOf (PySem.intKind pw w) kR) (hW : oW.IsDictOf (PySem.intKind pw w) kW)
    (ha : a.1 ≠ S.k.se ∧ a.1 ≠ S.k.re ∧ a.1 ≠ S.k.ws ∧ a.1 ≠ S.ki.om) (hb : b.1 ≠ S.k.se ∧ b.1 ≠ S.k.re ∧ b.1 ≠ S.k.ws ∧ b.1 ≠ S.ki.om) (N : News h₀ L h (a :: b :: Lb S sp0 oS oR oW c0 c1 tc0 tc1 n2 rest))
    (N' : News h₀ L h' ((lo, PySem.W.listOf #[] 0) :: (p, P0) :: (d, D0) :: (S.k.se, oS') :: (S.k.re, oR') :: (S.k.ws, oW') :: (S.ki.om, pairO c0' tc0' c1' tc1' n2') :: but (a :: b :: Lb S sp0 oS oR oW c0 c1 tc0 tc1 n2 rest) [S.k.se, S.k.re, S.k.ws, S.ki.om])) :
    News h₀ L h' (a :: b :: Lb S sp0 oS' oR' oW' c0' c1' tc0' tc1' n2' rest) :=
  news_sub (Go N ok.nd ok.nl hO hR hW ok.dP ha hb (fun q hq => ⟨apR q hq (S.k.se, S.oS) (BA (by simp only [Side.fix]; k_mem)), apR q hq (S.k.re, S.oR) (BA (by simp only [Side.fix]; k_mem)), apR q hq (S.k.ws, S.oW) (BA (by simp only [Side.fix]; k_mem)), apR q hq (S.ki.om, pairO S.c0 S.tc0 S.c1 S.tc1 S.n2) (BA (by simp only [Side.fix]; k_mem))⟩) N') fun q hq => .tail _ (.tail _ (.tail _ hq))
end
section
open Mine renaming Es → hlt4, Es → hlt11, Es → hlt2, Es → hlt9
set_option rowWalk.seconds 0
theorem Tc : True := by
  k_with "subscriptTail" => (k_here; (with_reducible show wpAny _ _ (subscriptTail _ (Expr.Slice _ _ none _) (Value.bytes _ _) (Value.ref _)) _ _ _); (with_reducible rename Fr _ _ _ _ => F'); (with_reducible rename News _ _ _ _ => N'); (refine KBc.slice_K (s := ⟨_, _, _, _, _⟩) F' N' rfl (by constructor) (by constructor) (by rw [KBw.ints_length]; omega) ?_); intro h' t' k' F' N' _)
  k_with "subscriptTail" => (k_here; (with_reducible show wpAny _ _ (subscriptTail _ _ (Value.ref _) (Value.int _ _)) _ _ _); (refine kda_item (knd := PySem.intKind _ _) (by k_asm) (by k_mem) (by k_asm) (intKind_is _ _ _ _) (by first | assumption | rfl) ?_))
  trivial
theorem SV : True := by
  k_with "subscriptTail" => (k_here; (with_reducible show wpAny _ _ (subscriptTail _ (Expr.Slice _ _ none _) (Value.bytes _ _) (Value.ref _)) _ _ _); (with_reducible rename Fr _ _ _ _ => F'); (with_reducible rename News _ _ _ _ => N'); (refine KBc.slice_K (s := ⟨_, _, _, _, _⟩) F' N' rfl (by constructor) (by constructor) (by rw [KBw.ints_length]; omega) ?_); intro h' t' k' F' N' _)
  k_with "subscriptTail" => (k_here; (with_reducible show wpAny _ _ (subscriptTail _ _ (Value.ref _) (Value.int _ _)) _ _ _); (refine kda_item (knd := PySem.intKind _ _) (by k_asm) (by k_mem) (by k_asm) (intKind_is _ _ _ _) (by first | assumption | rfl) ?_))
  k_with "subscriptTail" => (k_here; (with_reducible show wpAny _ _ (subscriptTail _ _ (Value.ref _) (Value.int _ _)) _ _ _); refine hlt9 ?_)
  k_with "call type:dict" => (k_here; refine hlt11 ?_)
  trivial
section
variable {w : World} {p : Program} {loose : List Str} {mean : ExcName → Option Value} {mg mb : Str → Option Value} {dp un : Nat} {gdg : Option (List Code)} {cn : Str} {cs : Scope} {a : Addr} {ccd : Value} {cl : List (Str × Addr)} {outer : List Env} {A₀ : Around} {base h₀ : Heap} {L : Addr} {m : Str → Option Value} {s : Shared} {Q E : Value → Shared → Prop} {led led' : List (Addr × Obj)}
variable (B : Below A₀ base outer h₀) (F : Fr h₀ L s.heap m) (X : (KK w.params).In h₀) (T : Top p loose mean mg mb h₀) (hk : cs.kind = .function) (N : News h₀ L s.heap led)
include B F X T hk N
omit B F X T hk N in
theorem Sp {a b c : Addr × Obj} {W O : List (Addr × Obj)} (q : Addr × Obj) : q ∈ O ++ a :: b :: c :: W ↔ q ∈ a :: b :: c :: (W ++ O) := by
  simp only [List.mem_append, List.mem_cons]
  constructor
  · rintro (h | h | h | h | h)
    · exact .inr (.inr (.inr (.inr h)))
    · exact .inl h
    · exact .inr (.inl h)
    · exact .inr (.inr (.inl h))
    · exact .inr (.inr (.inr (.inl h)))
  · rintro (h | h | h | h | h)
    · exact .inr (.inl h)
    · exact .inr (.inr (.inl h))
    · exact .inr (.inr (.inr (.inl h)))
    · exact .inr (.inr (.inr (.inr h)))
    · exact .inl h
omit B F X T hk N in
theorem Uv {A : Around} {D : Addr} {vs : List Value} {n c : Nat} {Q : Value → Shared → Prop} (N : News h₀ L s.heap led) (hm : (D, PySem.W.listOf vs.toArray c) ∈ led) (hn : vs.length = n) (hz : n ≤ 64) (h : ∀ tk tk', Q (.int (n : Int) tk) { s with toks := tk' }) :
    wpAny (model pw w) A (PySem.call (.builtin "len") [.ref D]) Q E s := by
  subst hn
  exact call_len_list (PySem.IsL.isList (n := c) (N _ hm).1) (by rw [List.size_toArray]; omega) (by rw [List.size_toArray]; exact h _ _)
end
theorem SP : True := by
  k_with "call builtin:len" => (k_here; (with_reducible show wpAny _ _ (PySem.call (Value.builtin "len") [Value.ref _]) _ _ _); refine Uv (by k_asm) (by k_mem) (by assumption) (by omega) (fun _ _ => ?_))
  trivial
section
variable {w : World} {p : Program} {loose : List Str} {mean : ExcName → Option Value} {mg mb : Str → Option Value} {dp un : Nat} {gdg : Option (List Code)} {cn : Str} {cs : Scope} {a : Addr} {ccd : Value} {cl : List (Str × Addr)} {outer : List Env} {A₀ : Around} {base h₀ : Heap} {L : Addr} {m : Str → Option Value} {s : Shared} {Q E : Value → Shared → Prop} {led led' : List (Addr × Obj)}
variable (B : Below A₀ base outer h₀) (F : Fr h₀ L s.heap m) (X : (KK w.params).In h₀) (T : Top p loose mean mg mb h₀) (hk : cs.kind = .function) (N : News h₀ L s.heap led)
include B F X T hk N
omit B F X T hk N in
theorem Oa {P : Prop} {h₀ h : Heap} {L : Addr} {m : Str → Option Value} (_ : Fr h₀ L h m) (k : ∀ mm, mm = m → P) : P := k m rfl
omit B F X T hk N in
theorem news_swap {h₀ h : Heap} {L : Addr} {x y : Addr × Obj} {l : List (Addr × Obj)} (N : News h₀ L h (x :: y :: l)) : News h₀ L h (y :: x :: l) := fun q hq => by
  rcases List.mem_cons.mp hq with rfl | hq
  · exact N _ (.tail _ (.head _))
  · rcases List.mem_cons.mp hq with rfl | hq
    · exact N _ (.head _)
    · exact N _ (.tail _ (.tail _ hq))
omit B F X T hk N in
theorem SL {x y i g a b c : Addr × Obj} {W O : List (Addr × Obj)} {q : Addr × Obj} (h : q ∈ O ++ g :: i :: a :: b :: c :: W) : q ∈ x :: y :: i :: g :: a :: b :: c :: (W ++ O) := by
  simp only [List.mem_append, List.mem_cons] at h ⊢
  rcases h with h | h | h | h | h | h | h
  · exact .inr (.inr (.inr (.inr (.inr (.inr (.inr (.inr h)))))))
  · exact .inr (.inr (.inr (.inl h)))
  · exact .inr (.inr (.inl h))
  · exact .inr (.inr (.inr (.inr (.inl h))))
  · exact .inr (.inr (.inr (.inr (.inr (.inl h)))))
  · exact .inr (.inr (.inr (.inr (.inr (.inr (.inl h))))))
  · exact .inr (.inr (.inr (.inr (.inr (.inr (.inr (.inl h)))))))
omit B F X T hk N in
theorem addr_all {l l' : List (Addr × Obj)} (e : l'.map (·.1) = l.map (·.1)) {P : Addr → Prop} (h : ∀ y ∈ l, P y.1) : ∀ y ∈ l', P y.1 := fun y hy => by
  have : y.1 ∈ l.map (·.1) := by rw [← e]; exact List.mem_map.mpr ⟨y, hy, rfl⟩
  obtain ⟨z, hz, ez⟩ := List.mem_map.mp this
  rw [← ez]; exact h z hz
omit B F X T hk N in
theorem PH {I gd : Addr} {oG : Obj} {a b c : Addr × Obj} {W O : List (Addr × Obj)} (h1 : gd ≠ I) (h2 : ∀ q ∈ a :: b :: c :: W, q.1 ≠ I) (h3 : ∀ y ∈ O, I ≠ y.1) : ∀ q ∈ (gd, oG) :: (a :: b :: c :: W ++ O), q.1 ≠ I := fun q hq => by
  rcases List.mem_cons.mp hq with rfl | hq
  · exact h1
  · rcases List.mem_append.mp hq with hq | hq
    · exact h2 q hq
    · exact (h3 q hq).symm
omit B F X T hk N in
theorem addr_all' {l l' : List (Addr × Obj)} {P : Addr → Prop} (h : ∀ y ∈ l, P y.1) (e : l'.map (·.1) = l.map (·.1)) : ∀ y ∈ l', P y.1 := addr_all e h
end
noncomputable def KW : T24 (Addr → Addr → Addr → Int → Int → Int → Tok → Tok → Tok → Nat → Nat → Nat → (List Value) → (List Value) → (List Int) → (List Wd) → (List (Addr × Obj)) → Bool → Prop) := fun w pgm loose mean mg mb dp un gdg cn cs a ccd cl outer A₀ base h₀ L m s Q E led fa sa wa d l u td tl tu nf ns nw svs wvs zs ws wobjs b =>
  (Below A₀ base outer h₀) → (Fr h₀ L s.heap m) → ((KK w.params).In h₀) → (Top pgm loose mean mg mb h₀) → (cs.kind = .function) → (News h₀ L s.heap led) → ((fa, PySem.W.listOf #[.int d td, .int l tl, .int u tu] nf) ∈ led) → ((sa, PySem.W.listOf svs.toArray ns) ∈ led) → ((wa, PySem.W.listOf wvs.toArray nw) ∈ led) → (∀ q ∈ wobjs, q ∈ led) → (IntsAre svs zs) → (1 ≤ zs.length) → (zs.length ≤ 3) → (∀ z ∈ zs, 1 ≤ z ∧ z ≤ 6) → (WordsAre wobjs wvs ws) → (∀ x ∈ ws, x.ok zs.length) → (ws.length ≤ 16) → (0 ≤ d) → (0 ≤ l) → (0 ≤ u) → ((limOf (lim0 d l u zs.length) ws).s0 ≤ 16 ∧ (limOf (lim0 d l u zs.length) ws).s1 ≤ 16) → (dp + 16 < recursionLimit) → (un + 160 < cLine) → (∀ (D om : Addr) (t1 t2 ta tb : Tok) (n1 n2 : Nat) (h' : Heap) (tk' : Nat), Fr h₀ L h' m → (∀ q ∈ led, q.1 ≠ D) → (∀ q ∈ led, q.1 ≠ om) →
      News h₀ L h' ((D, Qa #[.int (total (limOf (lim0 d l u zs.length) ws) zs) t1, .int (limOf (lim0 d l u zs.length) ws).d t2, .ref om] n1) :: (om, pairO (limOf (lim0 d l u zs.length) ws).s0 ta (limOf (lim0 d l u zs.length) ws).s1 tb n2) :: led) → Q (.ref D) { s with heap := h', toks := tk' }) →
  wpI (model pw w) (ktrTop dp un gdg cn cs L a ccd cl outer) (PySem.call (.ref 836) [.ref fa, .ref sa, .ref wa, .bool b]) Q E s
@[irreducible] def Ba := eps 8200900 (by walk_at "nonempty") (ccx Nj KW)
namespace FP
def fa := Ba.2.1.1.1.1.1
def sa := Ba.2.1.1.1.1.2
def wa := Ba.2.1.1.1.2
def d := Ba.2.1.1.2.1
def l := Ba.2.1.1.2.2
def u := Ba.2.1.2.1.1
def td := Ba.2.1.2.1.2
def tl := Ba.2.1.2.2.1
def tu := Ba.2.1.2.2.2
def nf := Ba.2.2.1.1.1.1
def ns := Ba.2.2.1.1.1.2
def nw := Ba.2.2.1.1.2
def svs := Ba.2.2.1.2.1
def wvs := Ba.2.2.1.2.2
def zs := Ba.2.2.2.1.1
def ws := Ba.2.2.2.1.2
def wobjs := Ba.2.2.2.2.1
noncomputable def Oe : Stg (F := Heap → Addr → Heap → (List (Str × Value)) → Heap → Nat → Side → Prop) Fe (vcx KW Ba.1 fa sa wa d l u td tl tu nf ns nw svs wvs zs ws wobjs Ba.2.2.2.2.2) := mk7 _ fun K1 => by
  intro B F X T hk N m1 m2 m3 mw hz hn1 hn3 hzr hw hwok hwl h0d h0l h0u hs16 hd hu hret
  have NR : News Ba.1.h₀ Ba.1.L Ba.1.s.heap ((fa, PySem.W.listOf #[.int d td, .int l tl, .int u tu] nf) :: (sa, PySem.W.listOf svs.toArray ns) :: (wa, PySem.W.listOf wvs.toArray nw) :: wobjs) := (by repeat (first | refine Bh N (by assumption) ?_ | exact news_sub N (fun q hq => mw q hq)))
  have N0 : Hid (News Ba.1.h₀ Ba.1.L Ba.1.s.heap Ba.1.led) := N
  have hnz := hz.length
  have hwz := hw.length
  clear N
  walk_at "I open"
  rename_i g' L' hA FG' FA NA B' X' T' hg' hl' hgb'
  refine Ai (KL (names := [Str.ofString "side", Str.ofString "got"]) (OY (AK ?_)))
  k_steps
  walk_at "I callF"
  walk_at "I arg"
  walk_at "I fn"
  refine MT (n := 0) (by k_asm) (by k_asm) (by k_asm) (by k_asm) rfl (by k_asm) (by k_mem) (by k_mem) hz hn3 hzr (by walk_at "rm") (by walk_at "rm") ?_
  intro sp ds dc id k kc ki oS oR oW oP kR kW kP t0 t5 t6 ta0 ta1 tc0 tc1 n1 n2 ps h' tk' hpe hap hnl hsys dS dR dW lR lW dP e1 e2 e3 hps had hdn hlo F' fr N'
  have ok := RU (sp := sp) (kc := kc) (t0 := t0) (t5 := t5) (t6 := t6) (ta0 := ta0) (ta1 := ta1) (tc0 := tc0) (tc1 := tc1) (n1 := n1) (n2 := n2) hpe hap hnl hsys dS dR dW lR lW dP hps had hdn h0d h0l h0u hzr
  generalize hS : ({ sp := sp, ds := ds, dc := dc, id := id, k := k, kc := kc, ki := ki, turn := 0, t0 := t0, dl := max 0 d, t5 := t5, used := 0, t6 := t6, oS := oS, oR := oR, oW := oW, a0 := max 0 2, ta0 := ta0, a1 := max 0 1, ta1 := ta1, n1 := n1, c0 := (((zs.length + 1) / 2 : Nat) : Int), tc0 := tc0, c1 := ((zs.length / 2 : Nat) : Int), tc1 := tc1, n2 := n2, oP := oP, ps := ps } : Side) = S at ok
  have hSo : BC k kc ki sp ds dc id oS oR oW oP 0 (max 0 d) 0 (max 0 2) (max 0 1) (((zs.length + 1) / 2 : Nat) : Int) ((zs.length / 2 : Nat) : Int) t0 t5 t6 ta0 ta1 tc0 tc1 n1 n2 (Bv ps) = S.objs := by rw [← hS]; rfl
  rw [hSo] at fr N'
  have N1 := news_sub N' (fun q hq => (Sp q).mpr hq)
  clear N'
  have hsp : sp = S.sp := by rw [← hS]
  have hsn : ∀ x ∈ S.ps, x.2.snt = 0 := fun x hx => by
    rw [← hS] at hx
    obtain ⟨j, hj, ej⟩ := List.mem_iff_getElem.mp hx
    exact (hps.part j x (by rw [List.getElem?_eq_getElem hj, ej])).2.2.2.1
  rw [hsp]
  clear hSo hS hpe hap hnl hsys dS dR dW lR lW dP hps had hdn hlo hsp
  clear B hk m1 m2 mw h0d h0l h0u hg' hl'
  walk_at "rv"
  intro K1
  exact K1.p g' L' hA kP h' tk' S
@[irreducible] def BZ := eps 8200901 (by walk_at "nonempty") (Fe Oe.1)
namespace kut1
def tk' := BZ.2.1.2
def S := BZ.2.2
noncomputable def Op : Stg (F := Addr → Heap → Nat → (Array Value) → Nat → (List (Int × Value)) → Prop) CR (Oe.1 BZ.1.1.1 BZ.1.1.2 BZ.1.2.1 BZ.1.2.2 BZ.2.1.1 tk' S) := mk6 _ fun K2 => by
  intro F
  walk_at "in"
  refine Ae ?_
  k_steps
  delta Cg
  refine CO (n := zs.length) (fun i o => ∃ t1 t2, o = Qa #[.int (2 * (i : Int)) t1, .bytes #[] t2] 0) rfl (by omega) (by with_unfolding_all rfl) (by decide) (by with_unfolding_all rfl) (by decide) (by with_unfolding_all rfl) ?hi ?he ?hq
  case hi =>
    k_steps
    exact CF (by assumption)
  case he =>
    intro C i t s₃ m₃ E' hin hn' hm1 up
    have F3 := Cw (by k_asm) up
    have N3 := Cf (by k_asm) up
    refine wpAny_Tuple ?_
    k_steps
    delta Cg
    refine Jb (by k_asm) (by k_asm) (by omega) (fun tq => ?_)
    k_steps
    try dsimp only
    refine Mk.push (Fc _) ⟨_, _, rfl⟩ rfl
  case hq =>
    intro D h3 tk3 ys hD hpl hpr up
    obtain ⟨cD, hpl⟩ := hpl
    obtain ⟨gvs, hgl, hgk, hyl, hgp, hgv⟩ := NY hpr
    clear hpr
    rw [Array.length_toList] at hyl
    have hgot := UR ok hsn hgk hgv
    clear hgv hsn
    clear hD
    walk_at "rv"
    intro K2
    exact K2.p D h3 tk3 ys cD gvs
@[irreducible] def EM := eps 8200902 (by walk_at "nonempty") (CR Op.1)
namespace kut2
def gvs := EM.2.2
noncomputable def Oc : Stg (F := Heap → Nat → Addr → Obj → Prop) Ch (Op.1 EM.1.1.1 EM.1.1.2 EM.1.2 EM.2.1.1 EM.2.1.2 gvs) := mk4 _ fun K3 => by
  intro F
  walk_at "in"
  walk_at "k upd"
  k_steps
  delta Cg
  refine Qk (kvs := gvs) rfl hpl (fun i y hy => hgp i y (by simpa using hy)) (hgl.trans hyl.symm) (by rw [hgk]; exact Qe _ _) (by rw [sizeLine_eq]; omega) (fun h4 tk4 gd hG up hgn hgs => ?_)
  obtain ⟨oG, esG, epG, hG1, hG2⟩ := hG
  have hG3 : oG.IsDictOf (PySem.intKind pw Ba.1.w) gvs := ⟨esG, epG, hG2⟩
  rename Fr _ _ EM.1.1.2 _ => F0
  rename News _ _ EM.1.1.2 _ => Nh3
  have hgsys : (gd == sysModules) = false := by
    rw [hgs]
    exact F0.notModules (modules_low (Top.nolimit (by k_asm)))
  have hgf := Fp Nh3 hgn
  have F4 := Cw F0 up
  have N4 := Dq (o := oG) F0 Nh3 up hgn hG1
  have N5 := News.push F4 N4 { cls := .type "tuple", dict := none, data := .seq #[.ref S.sp, .ref gd] 0, slots := #[] }
  have F5 := F4.push { cls := .type "tuple", dict := none, data := .seq #[.ref S.sp, .ref gd] 0, slots := #[] }
  dsimp only [List.length]
  clear hG1 hG2 hgs hgp hgn
  clear hn1 hnz hpl hgl hgk hyl up
  walk_at "rv"
  intro K3
  exact K3.p h4 tk4 gd oG
@[irreducible] def HX := eps 8200903 (by walk_at "nonempty") (Ch Oc.1)
namespace kut3
def gd := HX.2.1
def oG := HX.2.2
noncomputable def LI : Stg (F := Heap → Heap → Heap → Addr → Prop) Ch (Oc.1 HX.1.1 HX.1.2 gd oG) := mk4 _ fun K4 => by
  intro F
  walk_at "in"
  k_steps
  rename News _ _ _ ((HX.1.1.objs.size, _) :: _) => N6
  have N7 := news_sub N6 (fun q hq => .tail _ hq)
  clear N6
  try clear N4
  try clear F4
  try clear N1
  try clear Nh3
  try clear F0
  try clear N5
  try clear F5
  have rok0 : RunOk Ba.1.w BZ.1.2.2 zs (lim0 d l u zs.length) S.sp gd ((fa, PySem.W.listOf #[.int d td, .int l tl, .int u tu] nf) :: (sa, PySem.W.listOf svs.toArray ns) :: (wa, PySem.W.listOf wvs.toArray nw) :: wobjs) S oG gvs := ⟨ok, rfl, hG3, hgot, fun q hq y hy => fr y hy q hq, fun y hy => (hgf y (by repeat (first | exact List.mem_append.mpr (.inr hy) | apply List.mem_cons_of_mem))).symm⟩
  have hgr : ∀ q ∈ (fa, PySem.W.listOf #[.int d td, .int l tl, .int u tu] nf) :: (sa, PySem.W.listOf svs.toArray ns) :: (wa, PySem.W.listOf wvs.toArray nw) :: wobjs, q.1 ≠ gd := fun q hq => hgf q (by
    rw [← List.cons_append, ← List.cons_append, ← List.cons_append]
    exact List.mem_append.mpr (.inl hq))
  clear ok hG3 hgot fr hgf
  generalize S.sp = sp0 at *
  walk_at "rv"
  intro K4
  rename_i c4_1 c4_2 c4_3
  exact K4.p c4_1 c4_2 c4_3 sp0
@[irreducible] def Fx := eps 8200904 (by walk_at "nonempty") (Ch LI.1)
namespace kut4
def sp0 := Fx.2.2
noncomputable def EK : (R5 : Nat → Heap → Nat → Tok → Tok → Tok → Addr → Tok → Heap → Nat → (Str → Option Value) → Side → Obj → (List (Int × Value)) → Heap → (Str → Option Value) → Prop) ×' (R13 : Nat → Heap → Nat → Tok → Tok → Tok → Heap → Nat → (Str → Option Value) → Side → Prop) ×' (Kp (∀ x0 x1 x2 x3 x4 x5 x6 x7 x8 x9 x10 x11 x12 x13 x14 x15, R5 x0 x1 x2 x3 x4 x5 x6 x7 x8 x9 x10 x11 x12 x13 x14 x15) → Kp (∀ x0 x1 x2 x3 x4 x5 x6 x7 x8 x9, R13 x0 x1 x2 x3 x4 x5 x6 x7 x8 x9) → (LI.1 Fx.1.1 Fx.1.2 Fx.2.1 sp0)) := ⟨_, _, fun K5 K13 => by
  intro F
  walk_at "in"
  refine Ai (GR ?_)
  k_steps
  refine IR (n := ws.length + 1) rfl (by assumption) (by omega) [Str.ofString "many"] (fun i l' => ∃ S oG gvs, l' = (gd, oG) :: (((fa, PySem.W.listOf #[.int d td, .int l tl, .int u tu] nf) :: (sa, PySem.W.listOf svs.toArray ns) :: (wa, PySem.W.listOf wvs.toArray nw) :: wobjs) ++ S.objs) ∧
    RunOk Ba.1.w BZ.1.2.2 zs (limOf (lim0 d l u zs.length) (ws.take (i - 1))) sp0 gd ((fa, PySem.W.listOf #[.int d td, .int l tl, .int u tu] nf) :: (sa, PySem.W.listOf svs.toArray ns) :: (wa, PySem.W.listOf wvs.toArray nw) :: wobjs) S oG gvs ∧ (i = ws.length + 1 → S.used = total (limOf (lim0 d l u zs.length) ws) zs)) (by k_asm) (by k_asm) ⟨S, oG, gvs, rfl, by rw [List.take_zero]; exact rok0, fun h => absurd h (by omega)⟩ ?hstep ?hdone
  case hstep =>
    clear rok0
    rintro I i t h tk m' led' hi ⟨S, oG, gvs, rfl, rok, _⟩ hap Fi hm Ni
    have Fi2 := Ew Fi hm
    clear Fi
    simp only [List.cons_append] at Ni hap
    k_steps
    rename Fr _ _ _ _ => F5
    rename News _ _ _ ((I, _) :: _) => N5
    have apI : FT ((I, Dy 0 (ws.length + 1) (i + 1)) :: (fa, PySem.W.listOf #[.int d td, .int l tl, .int u tu] nf) :: (sa, PySem.W.listOf svs.toArray ns) :: (wa, PySem.W.listOf wvs.toArray nw) :: wobjs) S.objs := fun q hq y hy => by
      rcases List.mem_cons.mp hq with rfl | hq
      · exact (hap y (by repeat (first | exact List.mem_append.mpr (.inr hy) | apply List.mem_cons_of_mem))).symm
      · exact rok.ap q hq y hy
    have hgrI : ∀ q ∈ (I, Dy 0 (ws.length + 1) (i + 1)) :: (fa, PySem.W.listOf #[.int d td, .int l tl, .int u tu] nf) :: (sa, PySem.W.listOf svs.toArray ns) :: (wa, PySem.W.listOf wvs.toArray nw) :: wobjs, q.1 ≠ gd := fun q hq => by
      rcases List.mem_cons.mp hq with rfl | hq
      · exact (hap _ (.head _)).symm
      · exact hgr q hq
    have hIR : ∀ q ∈ (fa, PySem.W.listOf #[.int d td, .int l tl, .int u tu] nf) :: (sa, PySem.W.listOf svs.toArray ns) :: (wa, PySem.W.listOf wvs.toArray nw) :: wobjs, q.1 ≠ I := fun q hq => hap q (.tail _ (by
      rw [← List.cons_append, ← List.cons_append, ← List.cons_append]
      exact List.mem_append.mpr (.inl hq)))
    have hgI := hap _ (.head _)
    clear hap
    obtain ⟨rok1, rok2, rok3, rok4, _, rok6⟩ := rok
    refine Oa F5 ?_
    intro mm hmm
    rw [← hmm] at F5
    clear F X T m3 hs16 hret N0 FG' hgb' e1 e2 e3 hgr
    walk_at "rv"
    intro K5 K13
    rename_i c5_1 c5_2 c5_3 c5_4 c5_5 c5_6 c5_7
    revert i
    exact K5.p c5_1 c5_2 c5_3 c5_4 c5_5 c5_6 I t h tk m' S oG gvs c5_7 mm
  case hdone =>
    clear rok0
    rintro h tk m' led' ⟨S, oG, gvs, rfl, rok, hlast⟩ Fi hm Ni
    have Fi2 := Ew Fi hm
    clear Fi
    have hused := hlast rfl
    have ok := rok.ok
    rw [Nat.add_sub_cancel, List.take_length] at ok
    have hsp := rok.sp
    have apR := rok.ap
    clear rok hlast
    have N2 : News BZ.1.1.1 BZ.1.1.2 h (S.fix ++ ((fa, PySem.W.listOf #[.int d td, .int l tl, .int u tu] nf) :: (sa, PySem.W.listOf svs.toArray ns) :: (wa, PySem.W.listOf wvs.toArray nw) :: wobjs)) := news_sub Ni (fun q hq => by
      rcases List.mem_append.mp hq with hq | hq
      · exact .tail _ (List.mem_append.mpr (.inr (BA hq)))
      · exact .tail _ (List.mem_append.mpr (.inl hq)))
    clear Ni
    simp only [Side.fix, List.cons_append, List.nil_append] at N2
    rw [hsp] at N2
    clear hzr hw hwok hwl hwz hgsys hgr hsp
    walk_at "rv"
    intro K5 K13
    rename_i c13_1 c13_2 c13_3 c13_4 c13_5 c13_6
    exact K13.p c13_1 c13_2 c13_3 c13_4 c13_5 c13_6 h tk m' S⟩
@[irreducible] def AZ := eps 8200905 (by walk_at "nonempty") (Dk EK.1)
namespace kut5
def I := AZ.1.2.2.1
def S := AZ.2.1.2.2
noncomputable def Fv : (R6 : Nat → Addr → Wd → Prop) ×' (R8 : Nat → Heap → Nat → Side → Obj → (List (Int × Value)) → Prop) ×' (Kp (∀ x0 x1 x2, R6 x0 x1 x2) → Kp (∀ x0 x1 x2 x3 x4 x5, R8 x0 x1 x2 x3 x4 x5) → (EK.1 AZ.1.1.1.1 AZ.1.1.1.2 AZ.1.1.2.1 AZ.1.1.2.2 AZ.1.2.1.1 AZ.1.2.1.2 I AZ.1.2.2.2 AZ.2.1.1.1 AZ.2.1.1.2 AZ.2.1.2.1 S AZ.2.2.1.1 AZ.2.2.1.2 AZ.2.2.2.1 AZ.2.2.2.2)) := ⟨_, _, fun K6 K8 => by
  intro i
  walk_at "in"
  refine Ai (AR (Q := fun f s₂ => f = Flow.next ∧ Mid Ba.1.s BZ.1.1.1 BZ.1.1.2 AZ.2.2.2.2 Ba.1.w BZ.1.2.2 zs (limOf (lim0 d l u zs.length) (ws.take i)) sp0 gd ((I, Dy 0 (ws.length + 1) (i + 1)) :: (fa, PySem.W.listOf #[.int d td, .int l tl, .int u tu] nf) :: (sa, PySem.W.listOf svs.toArray ns) :: (wa, PySem.W.listOf wvs.toArray nw) :: wobjs) (fun _ => True) s₂) ?one ?two)
  case one =>
    cases i with
    | zero =>
      have hgt : ¬ (((0 : Nat) : Int) > 0) := by decide
      rw [hmm] at F5
      refine FV (Ae ?_)
      k_steps
      refine Bc ⟨rfl, ?_⟩
      dsimp only
      refine Mid.intro (by rw [hmm]; assumption) (news_swap (by assumption)) ⟨rok1, rok2, rok3, rok4, apI, rok6⟩ trivial
    | succ i =>
      have hgt : ((i + 1 : Nat) : Int) > 0 := by omega
      rw [hmm] at F5
      refine FV (Ae ?_)
      k_steps
      dsimp only
      have hiw : i < wvs.length := by rw [hwz]; omega
      obtain ⟨f, x, hfx, hx, hin⟩ := hw.at (List.getElem?_eq_getElem hiw)
      have hM := LG (m := lim0 d l u zs.length) hx
      rename News _ _ _ ((I, _) :: _) => N6
      have mSp : (sp0, instObj 790 S.ds) ∈ S.objs := by rw [← rok2]; exact BA (.head _)
      have mDs : (S.ds, BF S.k S.turn S.t0) ∈ S.objs := BA (.tail _ (.head _))
      have N7 := AM (AM N6 N6 (show (sp0, instObj 790 S.ds) ∈ _ by repeat (first | exact List.mem_append.mpr (.inr mSp) | apply List.mem_cons_of_mem))) N6 (show (S.ds, BF S.k S.turn S.t0) ∈ _ by repeat (first | exact List.mem_append.mpr (.inr mDs) | apply List.mem_cons_of_mem))
      clear N6
      clear hz hzr hw NR hgsys hm hIR hgI hgrI hgt mSp mDs
      walk_at "rv"
      intro K6 K8
      exact K6.p i f x
  case two =>
    clear rok1 rok2 rok3 rok4 rok6 apI F5 N5
    rintro f s₂ ⟨rfl, h5, tk5, S5, oG5, gvs5, rfl, F6, N6, rok5, _⟩
    dsimp only
    simp only [List.cons_append] at N6
    walk_at "rv"
    intro K6 K8
    exact K8.p i h5 tk5 S5 oG5 gvs5⟩
@[irreducible] def FM := eps 8200906 (by walk_at "nonempty") (CG Fv.1)
noncomputable def Lv : Stg (F := Side → Heap → Nat → Prop) CG (CG Fv.1 FM) := mk3 _ fun K7 => by
  intro hn3
  walk_at "in"
  refine Ai (Ae ?_)
  k_steps
  delta Cg
  refine Fk (v := .ref FM.1.2) (by k_asm) (by k_mem) (by omega) (by omega) ?hv ?_
  case hv =>
    rw [show (((FM.1.1 + 1 : Nat) : Int) - 1).toNat = FM.1.1 by omega, List.getElem?_toArray, List.getElem?_eq_getElem hiw, hfx]
  k_steps
  delta Cg
  refine Pf (S := S) (M := limOf (lim0 d l u zs.length) (ws.take FM.1.1)) (rest := (gd, AZ.2.2.1.1) :: (I, Dy 0 (ws.length + 1) (FM.1.1 + 1 + 1)) :: (fa, PySem.W.listOf #[.int d td, .int l tl, .int u tu] nf) :: (sa, PySem.W.listOf svs.toArray ns) :: (wa, PySem.W.listOf wvs.toArray nw) :: wobjs) (by k_asm) (by k_asm) (by k_asm) (by k_asm) rfl (by k_asm) (fun q hq => SL hq) rok2 rok1 hn3 (hin.mono fun q hq => by repeat (first | with_reducible exact hq | apply List.mem_cons_of_mem)) (hwok _ (List.mem_of_getElem? hx)) ?ap (by walk_at "rm") (by walk_at "rm") ?_
  case ap =>
    intro q hq y hy
    rcases List.mem_cons.mp hq with rfl | hq
    · exact rok6 y hy
    · exact apI q hq y hy
  intro S' h' tk' ok' hsp' hgo' had' F' N'
  clear hn3 hwok hwl hd hu hwz B' X' T' rok2 F5 hi rok1 hiw hfx hx hin N7
  walk_at "rv"
  intro K7
  exact K7.p S' h' tk'
@[irreducible] def Np := eps 8200907 (by walk_at "nonempty") (CG Lv.1)
theorem QD : CG Lv.1 Np := by
  intro _
  walk_at "in"
  k_steps
  refine Bc ⟨rfl, ?_⟩
  dsimp only
  rw [hM]
  refine Mid.intro (by rw [hmm]; assumption) (news_sub (by assumption) (fun q hq => (reordG q).mpr hq)) ⟨ok', hsp', rok3, hgo' _ rok4, fun q hq => addr_all had' (P := fun z => q.1 ≠ z) (apI q hq), addr_all had' (P := fun z => gd ≠ z) rok6⟩ trivial
@[irreducible] def FL := eps 8200908 (by walk_at "nonempty") (CR Fv.2.1)
namespace kut8
def i := FL.1.1.1
noncomputable def NT : Stg (F := Heap → Nat → Side → Obj → (List (Int × Value)) → Prop) Cz (Fv.2.1 i FL.1.1.2 FL.1.2 FL.2.1.1 FL.2.1.2 FL.2.2) := mk5 _ fun K9 => by
  intro hz
  walk_at "in"
  refine Ai (FV (AR (Q := fun c s₂ => Cg (c = (!Ba.2.2.2.2.2 || decide (i = ws.length)) ∧ Mid Ba.1.s BZ.1.1.1 BZ.1.1.2 AZ.2.2.2.2 Ba.1.w BZ.1.2.2 zs (limOf (lim0 d l u zs.length) (ws.take i)) sp0 gd ((I, Dy 0 (ws.length + 1) (i + 1)) :: (fa, PySem.W.listOf #[.int d td, .int l tl, .int u tu] nf) :: (sa, PySem.W.listOf svs.toArray ns) :: (wa, PySem.W.listOf wvs.toArray nw) :: wobjs) (fun _ => True) s₂)) ?c1 ?c2))
  case c1 =>
    refine Ae ?_
    rw [hmm] at F6
    generalize Ba.2.2.2.2.2 = bq at F6 hmm ⊢
    cases bq
    · k_steps
      delta Cg
      try dsimp only
      refine ⟨rfl, Mid.intro (by rw [hmm]; assumption) (by assumption) rok5 trivial⟩
    · cases hil : ((i : Int) == (ws.length : Int))
      · have hil2 : ¬ i = ws.length := fun e => by rw [e] at hil; simp at hil
        k_steps
        delta Cg
        try dsimp only
        refine ⟨by simp [hil2], Mid.intro (by rw [hmm]; assumption) (by assumption) rok5 trivial⟩
      · have hil2 : i = ws.length := by have := beq_iff_eq.mp hil; omega
        k_steps
        delta Cg
        try dsimp only
        refine ⟨by simp [hil2], Mid.intro (by rw [hmm]; assumption) (by assumption) rok5 trivial⟩
  case c2 =>
    clear F6 N6 rok5
    rintro c s₂ ⟨rfl, h6, tk6, S6, oG6, gvs6, rfl, F6, N6, rok6, _⟩
    simp only [List.cons_append] at N6
    walk_at "rv"
    intro K9
    exact K9.p h6 tk6 S6 oG6 gvs6
@[irreducible] def Ib := eps 8200909 (by walk_at "nonempty") (Cz NT.1)
noncomputable def NF : Stg (F := Side → Obj → (List (Int × Value)) → Heap → Nat → Prop) Cz (Cz NT.1 Ib) := mk5 _ fun K10 => by
  intro hz
  walk_at "in"
  cases hc : (!Ba.2.2.2.2.2 || decide (i = ws.length))
  · simp only [Bool.false_eq_true, if_false]
    refine Bc ?_
    try dsimp only
    refine Bc ?_
    try dsimp only
    have hne : i ≠ ws.length := fun e => by rw [e] at hc; simp at hc
    refine DW.intro (by assumption) ?hm (news_swap N6) ⟨Ib.1.2, Ib.2.1, Ib.2.2, rfl, ⟨rok6.ok, rok6.sp, rok6.dG, rok6.got, fun q hq => rok6.ap q (.tail _ hq), rok6.gS⟩, fun h => absurd (by omega) hne⟩ ?ap
    case hm =>
      intro z hz
      rw [hmm]
      simp only [List.mem_cons, List.not_mem_nil, or_false] at hz
      simp only [hz, if_false]
    case ap => exact fun q hq => PH hgI hIR (rok6.ap _ (.head _)) q hq
  · simp only [if_true]
    refine Ai (FV (Lq (Hz (Gj (AK ?_)))))
    rw [hmm] at F6
    k_steps
    walk_at "I callF"
    walk_at "I arg"
    walk_at "I fn"
    dsimp only [List.nil_append]
    refine SW (S := Ib.1.2) (rest := (I, Dy 0 (ws.length + 1) (i + 1)) :: (fa, PySem.W.listOf #[.int d td, .int l tl, .int u tu] nf) :: (sa, PySem.W.listOf svs.toArray ns) :: (wa, PySem.W.listOf wvs.toArray nw) :: wobjs) (by k_asm) (by k_asm) (by k_asm) (by k_asm) rfl (by k_asm) (fun q hq => (reordG q).mp hq) rok6.sp rok6.ok hn3 rok6.dG hgsys rok6.got rok6.ap hgrI rok6.gS (by walk_at "rm") (by walk_at "rm") ?_
    intro S7 oG7 gvs7 h7 tk7 ok7 hsp7 dG7 got7 full7 ap7 gS7 F7 N7
    have N8 := news_sub N7 (fun q hq => (reordG q).mpr hq)
    clear N7 F6 N6
    have hum := PX ok7 (fun z hz => by have := hzr z hz; omega) full7
    clear rok6
    clear hgrI hmm hc full7
    walk_at "rv"
    intro K10
    exact K10.p S7 oG7 gvs7 h7 tk7
@[irreducible] def Dx := eps 8200910 (by walk_at "nonempty") (Cz NF.1)
namespace kut10
def S7 := Dx.1.1.1
noncomputable def Mf : Stg (F := Addr → Heap → Prop) CM (NF.1 S7 Dx.1.1.2 Dx.1.2 Dx.2.1 Dx.2.2) := mk2 _ fun K11 => by
  intro hz
  walk_at "in"
  k_steps
  refine Hz (Gj (AK ?_))
  simp only [List.cons_append] at N8
  k_steps
  walk_at "I callF"
  walk_at "I arg"
  walk_at "I arg"
  walk_at "I arg"
  walk_at "I arg"
  dsimp only
  refine kms_slice_lit (s := ⟨_, _, _, _, _⟩) (its := wvs.toArray) (zs := wvs.take i) F7 N8 (PySem.IsL.isList (n := nw) (N8 (wa, PySem.W.listOf wvs.toArray nw) (by k_mem)).1) (by constructor) (by constructor) ?e ?_ (by with_unfolding_all rfl) (by intro _; with_unfolding_all rfl) (by rw [sizeLine_eq, List.size_toArray, hwz]; omega)
  case e =>
    have hle : i ≤ wvs.length := by rw [hwz]; omega
    show kms_pick wvs none (some (i : Int)) = _
    simp [kms_pick, kms_lo, kms_hi]
    rw [if_neg (by omega : ¬ (i : Int) < 0)]
    omega
  intro W8 h8 F8 N9 l8
  clear l8
  walk_at "rv"
  intro K11
  exact K11.p W8 h8
@[irreducible] def Mz := eps 8200911 (by walk_at "nonempty") (CM Mf.1)
noncomputable def ME : Stg (F := Heap → Nat → Prop) CM (CM Mf.1 Mz) := mk2 _ fun K12 => by
  intro hz
  walk_at "in"
  walk_at "I fn"
  dsimp only [List.nil_append]
  have mF : ∀ q ∈ S7.fix, q ∈ (Mz.1, PySem.W.listOf (wvs.take i).toArray 0) :: (gd, Dx.1.1.2) :: (I, Dy 0 (ws.length + 1) (i + 1)) :: (fa, PySem.W.listOf #[.int d td, .int l tl, .int u tu] nf) :: (sa, PySem.W.listOf svs.toArray ns) :: (wa, PySem.W.listOf wvs.toArray nw) :: (wobjs ++ S7.objs) := fun q hq => by repeat (first | exact List.mem_append.mpr (.inr (BA hq)) | apply List.mem_cons_of_mem)
  refine Im (sp := sp0) (k := S7.k) (kc := S7.kc) (ds := S7.ds) (dc := S7.dc) (oS := S7.oS) (oG := Dx.1.1.2) (turn := S7.turn) (used := S7.used) (t0 := S7.t0) (t5 := S7.t5) (t6 := S7.t6) (ps := S7.ps) (gvs := Dx.1.2) (ws := ws.take i) (wvs := wvs.take i) (wobjs := wobjs) (by k_asm) (by k_asm) (by k_asm) (by k_asm) rfl (by k_asm) (by rw [← hsp7]; exact mF _ (.head _)) (mF (S7.ds, BF S7.k S7.turn S7.t0) (.tail _ (.head _))) (mF (S7.k.se, S7.oS) (.tail _ (.tail _ (.head _)))) (mF (S7.k.cr, instObj 115 S7.dc) (.tail _ (.tail _ (.tail _ (.head _))))) (by rw [← ok7.d]; exact mF (S7.dc, AI S7.kc S7.dl S7.t5 S7.used S7.t6) (.tail _ (.tail _ (.tail _ (.tail _ (.head _)))))) (by k_mem)
    (fun q hq => by repeat (first | exact List.mem_append.mpr (.inr (Dp hq)) | apply List.mem_cons_of_mem)) (by k_mem) (by k_mem) (by k_mem) (fun q hq => by repeat (first | exact List.mem_append.mpr (.inl hq) | apply List.mem_cons_of_mem)) hz hn3 (hw.take i) (fun x hx => hwok x (List.mem_of_mem_take hx)) (by rw [List.length_take]; omega) ok7.part ok7.len got7 (fun x hx => (ok7.pk x hx).2) hzr ok7.us hum ok7.dS ok7.sys dG7 hgsys (by walk_at "rm") (by walk_at "rm") ?_
  intro h9 tk9 up9
  have F9 := Cw F8 up9
  have N10 := Cf (news_sub N9 (fun q hq => .tail _ hq)) up9
  clear F8 N9 N8 F7 mF
  clear hn3 hzr hw hwok hwl hd hu B' X' T' hgsys hi up9
  walk_at "rv"
  intro K12
  exact K12.p h9 tk9
@[irreducible] def Ml := eps 8200912 (by walk_at "nonempty") (CM ME.1)
theorem UJ : CM ME.1 Ml := by
  intro hz
  walk_at "in"
  k_steps
  refine Bc ?_
  try dsimp only
  refine Bc ?_
  try dsimp only
  refine Bc ?_
  try dsimp only
  rename News _ _ Ml.1 _ => N11
  refine DW.intro (by assumption) ?hm (news_swap N11) ⟨S7, Dx.1.1.2, Dx.1.2, rfl, ⟨ok7, hsp7, dG7, got7, fun q hq => ap7 q (.tail _ hq), gS7⟩, fun h => ?_⟩ ?ap
  case hm =>
    intro z hz
    simp only [List.mem_cons, List.not_mem_nil, or_false] at hz
    simp only [hz, if_false]
  case ap => exact fun q hq => PH hgI hIR (ap7 _ (.head _)) q hq
  rw [hum, show i = ws.length by omega, List.take_length]
  rfl
end kut10
end kut8
theorem UG : EK.1 AZ.1.1.1.1 AZ.1.1.1.2 AZ.1.1.2.1 AZ.1.1.2.2 AZ.1.2.1.1 AZ.1.2.1.2 I AZ.1.2.2.2 AZ.2.1.1.1 AZ.2.1.1.2 AZ.2.1.2.1 S AZ.2.2.1.1 AZ.2.2.1.2 AZ.2.2.2.1 AZ.2.2.2.2 :=
  Fv.2.2 ⟨fun x0 x1 x2 => BH (P := CG Fv.1) FM (AQ Lv Np QD) ((x0, x1), x2)⟩ ⟨fun x0 x1 x2 x3 x4 x5 => BH (P := CR Fv.2.1) FL (AQ kut8.NT kut8.Ib (AQ kut8.NF kut8.Dx (AQ kut8.kut10.Mf kut8.kut10.Mz (AQ kut8.kut10.ME kut8.kut10.Ml kut8.kut10.UJ)))) (((x0, x1), x2), (x3, x4), x5)⟩
end kut5
@[irreducible] def Db := eps 8200913 (by walk_at "nonempty") (Df EK.2.1)
namespace kut13
def h := Db.2.1.1.2
def tk := Db.2.1.2
def S := Db.2.2.2
noncomputable def JP : Stg (F := Addr → Heap → Int → Tok → Int → Tok → Int → Tok → Prop) Da (EK.2.1 Db.1.1.1.1 Db.1.1.1.2 Db.1.1.2 Db.1.2.1 Db.1.2.2 Db.2.1.1.1 h tk Db.2.2.1 S) := mk8 _ fun K14 => by
  intro F
  walk_at "in"
  dsimp only
  refine Ai (GR ?_)
  k_steps
  rename News _ _ _ ((_, Obj.mk (Value.type "tuple") _ _ _) :: _) => N3
  rename _ < _ ∧ _ => l1
  obtain ⟨_, _, l1c, _, _, _, _, _, l1i, l1j, l1k, _⟩ := l1
  obtain ⟨v1, u1, e1⟩ := e1
  obtain ⟨v2, u2, e2⟩ := e2
  obtain ⟨v3, u3, e3⟩ := e3
  walk_at "rv"
  intro K14
  rename_i c14_1 c14_2
  exact K14.p c14_1 c14_2 v1 u1 v2 u2 v3 u3
@[irreducible] def My := eps 8200914 (by walk_at "nonempty") (Da JP.1)
noncomputable def Eu : (R15 : Addr → Obj → Heap → Nat → (Str → Option Value) → Obj → Obj → Obj → Int → Int → Tok → Tok → Nat → Bool → Heap → (Str → Option Value) → Prop) ×' (R18 : Heap → Nat → (Str → Option Value) → Obj → Obj → Obj → Int → Int → Tok → Tok → Nat → Prop) ×' (Kp (∀ x0 x1 x2 x3 x4 x5 x6 x7 x8 x9 x10 x11 x12 x13 x14 x15, R15 x0 x1 x2 x3 x4 x5 x6 x7 x8 x9 x10 x11 x12 x13 x14 x15) → Kp (∀ x0 x1 x2 x3 x4 x5 x6 x7 x8 x9 x10, R18 x0 x1 x2 x3 x4 x5 x6 x7 x8 x9 x10) → (Da JP.1 My)) := ⟨_, _, fun K15 K18 => by
  intro F
  walk_at "in"
  dsimp only
  refine QK (its := #[.bool false, .bool true]) (c := 0) rfl (by first | exact List.mem_cons_self) [Str.ofString "is_uni"] (fun i l' => ∃ oS oR oW c0 c1 tc0 tc1 n2, l' = _ :: Lb S sp0 oS oR oW c0 c1 tc0 tc1 n2 ((fa, PySem.W.listOf #[.int d td, .int l tl, .int u tu] nf) :: (sa, PySem.W.listOf svs.toArray ns) :: (wa, PySem.W.listOf wvs.toArray nw) :: wobjs) ∧ OpenOk Ba.1.w S oS oR oW c0 c1 ∧ (1 ≤ i → c0 = S.a0) ∧ (2 ≤ i → c1 = S.a1)) ?hK (by k_asm) N3 ⟨_, _, _, _, _, _, _, _, rfl, OpenOk.start ok hn3 hs16, fun h => absurd h (by decide), fun h => absurd h (by decide)⟩ ?hstep ?hdone
  case hK =>
    rintro i l' ⟨_, _, _, _, _, _, _, _, rfl, _⟩
    exact .head _
  case hstep =>
    rintro I oI i v h tk m' led' hv ⟨oS, oR, oW, c0, c1, tc0, tc1, n2, rfl, oo, hi1, hi2⟩ hap Fi hm Ni
    have Fi2 := Ew Fi hm
    clear Fi
    have hi : i < 2 := by
      have := (Array.getElem?_eq_some_iff.mp hv).1
      simpa using this
    obtain ⟨bb, hbb, rfl⟩ : ∃ bb : Bool, bb = decide (i = 1) ∧ v = .bool bb := by
      match i, hi with
      | 0, _ => exact ⟨false, rfl, by simpa using hv.symm⟩
      | 1, _ => exact ⟨true, rfl, by simpa using hv.symm⟩
    clear hv
    have hI : I ≠ S.k.se ∧ I ≠ S.k.re ∧ I ≠ S.k.ws ∧ I ≠ S.ki.om := ⟨(hap (S.k.se, oS) (by k_mem)).symm, (hap (S.k.re, oR) (by k_mem)).symm, (hap (S.k.ws, oW) (by k_mem)).symm, (hap (S.ki.om, pairO c0 tc0 c1 tc1 n2) (by k_mem)).symm⟩
    k_steps
    rename Fr _ _ _ _ => F5
    rename News _ _ _ ((I, _) :: _) => N5
    refine Oa F5 ?_
    intro mm hmm
    rw [← hmm] at F5
    clear F X T hn3 hs16 hret N0 FG' hgb' hused
    walk_at "rv"
    intro K15 K18
    rename_i c15_1
    revert i
    exact K15.p I oI h tk m' oS oR oW c0 c1 tc0 tc1 n2 bb c15_1 mm
  case hdone =>
    rintro h tk m' led' ⟨oS, oR, oW, c0, c1, tc0, tc1, n2, rfl, oo, hi1, hi2⟩ Fi hm Ni
    have Fi2 := Ew Fi hm
    clear Fi
    have ec0 : c0 = _ := (hi1 (by decide)).trans ok.a0
    have ec1 : c1 = _ := (hi2 (by decide)).trans ok.a1
    clear F m3 hz hn3 FG' B' T' e1 e2 e3 oo hi1 hi2
    walk_at "rv"
    intro K15 K18
    exact K18.p h tk m' oS oR oW c0 c1 tc0 tc1 n2⟩
@[irreducible] def Bg := eps 8200915 (by walk_at "nonempty") (Dk Eu.1)
namespace kut15
def tk := Bg.1.1.2.2
def c0 := Bg.2.1.1.1
def c1 := Bg.2.1.1.2
noncomputable def MD : Stg (F := Heap → Nat → Obj → Obj → Obj → Int → Int → Tok → Tok → Nat → Prop) Df (Eu.1 Bg.1.1.1.1 Bg.1.1.1.2 Bg.1.1.2.1 tk Bg.1.2.1.1 Bg.1.2.1.2 Bg.1.2.2.1 Bg.1.2.2.2 c0 c1 Bg.2.1.2.1 Bg.2.1.2.2 Bg.2.2.1.1 Bg.2.2.1.2 Bg.2.2.2.1 Bg.2.2.2.2) := Qp _ fun K16 => by
  intro i
  walk_at "in"
  have hm := hm_1
  clear hm_1
  refine Ai (MB ?_)
  refine NU [] (fun n lx => ∃ oS oR oW c0 c1 tc0 tc1 n2, lx = (Bg.1.1.1.1, Bg.1.1.1.2) :: _ :: Lb S sp0 oS oR oW c0 c1 tc0 tc1 n2 ((fa, PySem.W.listOf #[.int d td, .int l tl, .int u tu] nf) :: (sa, PySem.W.listOf svs.toArray ns) :: (wa, PySem.W.listOf wvs.toArray nw) :: wobjs) ∧ OpenOk Ba.1.w S oS oR oW c0 c1 ∧ (1 ≤ i → c0 = S.a0) ∧ (2 ≤ i → c1 = S.a1) ∧ n = ((S.a0 - c0).toNat + (S.a1 - c1).toNat)) _ F5 N5 ⟨_, _, _, _, _, _, _, _, rfl, oo, hi1, hi2, rfl⟩ ?turn
  clear oo hi1 hi2 N5 F5
  rintro n h tk m3 led3 ⟨oS, oR, oW, c0, c1, tc0, tc1, n2, rfl, oo, hi1, hi2, rfl⟩ Fi hm3 Ni
  have em : Bg.2.2.2.2 = m3 := (funext fun z => hm3 z (by simp)).symm
  subst em
  rw [hmm] at Fi
  clear m3 hm3
  walk_at "rv"
  intro K16
  revert i
  exact K16.p h tk oS oR oW c0 c1 tc0 tc1 n2
@[irreducible] def Br := eps 8200916 (by walk_at "nonempty") (Df MD.1)
noncomputable def Mn : Stg (F := Nat → (List (Int × Value)) → (List (Int × Value)) → (List (Int × Value)) → Int → Addr → Tok → Tok → Tok → Nat → Obj → Obj → Obj → (List (Int × Value)) → (List (Int × Value)) → Heap → Nat → Prop) Kz (Df MD.1 Br) := UP _ fun K17 => by
  intro i
  walk_at "in"
  have hm := hm_1
  clear hm_1
  obtain ⟨kS, hS, zS⟩ := oo.dS
  obtain ⟨kR, hR, zR⟩ := oo.dR
  obtain ⟨kW, hW, zW⟩ := oo.dW
  have NiH : Hid (News BZ.1.1.1 BZ.1.1.2 Br.1.1.1.1 ((Bg.1.1.1.1, Bg.1.1.1.2) :: _ :: Lb S sp0 Br.1.1.2 Br.1.2.1 Br.1.2.2 Br.2.1.1.1 Br.2.1.1.2 Br.2.1.2 Br.2.2.1 Br.2.2.2 ((fa, PySem.W.listOf #[.int d td, .int l tl, .int u tu] nf) :: (sa, PySem.W.listOf svs.toArray ns) :: (wa, PySem.W.listOf wvs.toArray nw) :: wobjs))) := Ni
  have hap6 : [S.ds, S.id, S.k.se, S.k.re, S.k.ws, S.k.pa].Nodup := List.Nodup.sublist (.cons₂ _ (.cons _ (.cons₂ _ (.cons₂ _ (.cons₂ _ (.cons₂ _ (.cons₂ _ .slnil))))))) ok.nd
  refine Ae ?_
  k_steps
  delta Cg
  refine CZ (k := S.k) (ki := S.ki) (sp := sp0) (ds := S.ds) (id := S.id) (b := Bg.2.2.1.2) (by k_asm) (by k_asm) (by k_asm) (by k_asm) rfl (by k_asm) ok.pe hap6 ok.nl (by k_mem) (by k_mem) (by k_mem) hS (by k_mem) hR (by k_mem) hW (by k_mem) ok.dP (by k_mem) (by k_mem) (by k_mem) (by k_mem) e1 e2 e3 (by rw [sizeLine_eq]; omega) (by rw [sizeLine_eq]; omega) (by rw [sizeLine_eq]; omega) (by walk_at "rm") (by walk_at "rm") ?h0 ?h1
  case h0 =>
    intro hle h5 tk5 up5
    have F6 := Cw (by k_asm) up5
    have N6 := Cf NiH up5
    clear Ni
    k_steps
    refine Bc ?_
    try dsimp only
    refine Bc ?_
    try dsimp only
    have hend : (1 ≤ i + 1 → Br.2.1.1.1 = S.a0) ∧ (2 ≤ i + 1 → Br.2.1.1.2 = S.a1) := by
      have h1 := oo.l0
      have h2 := oo.l1
      rw [hbb] at hle
      by_cases hi1' : i = 1
      · subst hi1'
        have hle2 : S.a1 ≤ Br.2.1.1.2 := hle
        have := hi1 (Nat.le_refl 1)
        exact ⟨fun _ => this, fun _ => by omega⟩
      · have : i = 0 := by omega
        subst this
        have hle2 : S.a0 ≤ Br.2.1.1.1 := hle
        exact ⟨fun _ => by omega, fun h => absurd h (by decide)⟩
    refine DW.intro (by assumption) ?hm (by assumption) ⟨Br.1.1.2, Br.1.2.1, Br.1.2.2, Br.2.1.1.1, Br.2.1.1.2, Br.2.1.2, Br.2.2.1, Br.2.2.2, rfl, oo, hend.1, hend.2⟩ (addr_all' (P := fun z => z ≠ Bg.1.1.1.1) hap rfl)
    intro z hz
    simp only [List.mem_cons, List.not_mem_nil, or_false] at hz
    simp only [hz, if_false]
  case h1 =>
    intro sid hsid hlt p d' lo kp t' t1' t2' t3' t4' ta' tb' n3' oS2 oR2 oW2 kR2 kW2 h5 tk5 F6 f1 f2 f3 dS2 dR2 dW2 lR2 lW2 N6
    have N7 := Qc (a := (Bg.1.1.1.1, Bg.1.1.1.2)) apR ok hS hR hW hI ⟨Nat.ne_of_gt l1c, Nat.ne_of_gt l1j, Nat.ne_of_gt l1k, Nat.ne_of_gt l1i⟩ NiH N6
    clear Ni N6 f1 f2 f3
    clear hz hd hu B' X' T' ok apR l1c l1i l1j l1k e1 e2 e3 hap hI hi2 Fi hS hR hW NiH hap6 hsid
    walk_at "rv"
    intro K17
    exact K17.p i kS kR kW sid p t' ta' tb' n3' oS2 oR2 oW2 kR2 kW2 h5 tk5
@[irreducible] def Dd := eps 8200917 (by walk_at "nonempty") (Kz Mn.1)
theorem UH : Kz Mn.1 Dd := by
  intro NR
  walk_at "in"
  have hm := hm_1
  clear hm_1
  k_steps
  refine Ai (Ae ?_)
  k_steps
  refine Bc ?_
  try dsimp only
  obtain ⟨A1, A2, A3, A4, A5⟩ := Pu hbb hi hlt oo.l0 oo.l1 hi1
  have h3 := IT (kvs := Dd.1.1.1.1.2) (k := Dd.1.1.2.2) (v := Value.ref Dd.1.2.1.1)
  rename News _ _ Dd.2.2.2.1 _ => N8
  generalize (if Bg.2.2.1.2 = true then Br.2.1.1.1 else Br.2.1.1.1 + 1) = c0' at N8 A1 A2 A4
  generalize (if Bg.2.2.1.2 = true then Br.2.1.1.2 + 1 else Br.2.1.1.2) = c1' at N8 A1 A3 A5
  exact Ig.intro (by assumption) (fun z _ => by rw [hmm]) N8 ⟨_, by omega, Dd.2.1.1.2, Dd.2.1.2.1, Dd.2.1.2.2, _, _, Dd.1.2.2.1, Dd.1.2.2.2, Dd.2.1.1.1, rfl, ⟨⟨_, dS2, by omega⟩, ⟨_, dR2, by omega⟩, ⟨_, dW2, by omega⟩, A2, A3⟩, A4, A5, rfl⟩
end kut15
@[irreducible] def Cy := eps 8200918 (by walk_at "nonempty") (Du Eu.2.1)
theorem QZ : Du Eu.2.1 Cy := by
  intro X
  walk_at "in"
  have hm := hm_1
  clear hm_1
  try dsimp only
  refine Ai (Ae ?_)
  k_steps
  rename Off _ _ _ => off
  rename News Ba.1.h₀ Ba.1.L _ _ => Nb
  rename News BZ.1.1.1 BZ.1.1.2 _ ((_, Obj.mk (Value.type "tuple") _ (Data.seq #[Value.int _ _, _, _] _) _) :: _) => Nf
  rename _ < _ ∧ _ => l2
  obtain ⟨_, _, _, _, _, _, _, _, _, _, _, _, _, l2a, l2b, l2c, l2d⟩ := l2
  have g1 := AU N0 hgb' Nf (.head _) (by
    intro hx; simp only [List.map, List.mem_cons, List.mem_map] at hx
    rcases hx with hx | hx | hx | ⟨q, hq, hx⟩
    · exact Nat.ne_of_gt l2a hx
    · exact Nat.ne_of_gt l2b hx
    · exact Nat.ne_of_gt l2c hx
    · exact HA l2d (Nat.le_refl _) q hq hx)
  have mOm : ∀ {x y : Addr × Obj}, (S.ki.om, pairO Cy.2.1.1.1 Cy.2.1.2 Cy.2.1.1.2 Cy.2.2.1 Cy.2.2.2) ∈ x :: y :: Lb S sp0 Cy.1.2.1.1 Cy.1.2.1.2 Cy.1.2.2 Cy.2.1.1.1 Cy.2.1.1.2 Cy.2.1.2 Cy.2.2.1 Cy.2.2.2 ((fa, PySem.W.listOf #[.int d td, .int l tl, .int u tu] nf) :: (sa, PySem.W.listOf svs.toArray ns) :: (wa, PySem.W.listOf wvs.toArray nw) :: wobjs) := fun {x y} => by k_mem
  have g2 := AU N0 hgb' Nf mOm (fun hx => by
    obtain ⟨q, hq, e⟩ := List.mem_map.mp hx
    exact apR q hq (S.ki.om, pairO S.c0 S.tc0 S.c1 S.tc1 S.n2) (BA (by simp only [Side.fix]; k_mem)) e)
  have hfin := AM (AM (BV N0 NR (news_sub Nb (fun q hq => by repeat (first | with_reducible exact hq | apply List.mem_cons_of_mem))) off) Nb mOm) Nb (.head _)
  rw [hused, ok.d, ec0, ec1] at hfin
  exact hret _ _ _ _ _ _ _ _ _ _ (by assumption) g1 g2 hfin
theorem UK : Da JP.1 My :=
  Eu.2.2 ⟨fun x0 x1 x2 x3 x4 x5 x6 x7 x8 x9 x10 x11 x12 x13 x14 x15 => BH (P := Dk Eu.1) Bg (AQ kut15.MD kut15.Br (AQ kut15.Mn kut15.Dd kut15.UH)) ((((x0, x1), x2, x3), (x4, x5), x6, x7), ((x8, x9), x10, x11), (x12, x13), x14, x15)⟩ ⟨fun x0 x1 x2 x3 x4 x5 x6 x7 x8 x9 x10 => BH (P := Du Eu.2.1) Cy QZ ((((x0, x1), x2), (x3, x4), x5), ((x6, x7), x8), x9, x10)⟩
end kut13
theorem Uu : LI.1 Fx.1.1 Fx.1.2 Fx.2.1 sp0 :=
  EK.2.2 ⟨fun x0 x1 x2 x3 x4 x5 x6 x7 x8 x9 x10 x11 x12 x13 x14 x15 => BH (P := Dk EK.1) AZ kut5.UG ((((x0, x1), x2, x3), (x4, x5), x6, x7), ((x8, x9), x10, x11), (x12, x13), x14, x15)⟩ ⟨fun x0 x1 x2 x3 x4 x5 x6 x7 x8 x9 => BH (P := Df EK.2.1) Db (AQ kut13.JP kut13.My kut13.UK) ((((x0, x1), x2), x3, x4), ((x5, x6), x7), x8, x9)⟩
end kut4
end kut3
end kut2
end kut1
end FP
def FP {w p loose mean mg mb dp un gdg cn cs a ccd cl outer A₀ base h₀ L m s Q E led fa sa wa d l u td tl tu nf ns nw svs wvs zs ws wobjs b} :=
  (KW.eq_1 w p loose mean mg mb dp un gdg cn cs a ccd cl outer A₀ base h₀ L m s Q E led fa sa wa d l u td tl tu nf ns nw svs wvs zs ws wobjs b).mp ((BH (P := ccx Nj KW) Ba (AQ FP.Oe FP.BZ (AQ FP.kut1.Op FP.kut1.EM (AQ FP.kut1.kut2.Oc FP.kut1.kut2.HX (AQ FP.kut1.kut2.kut3.LI FP.kut1.kut2.kut3.Fx FP.kut1.kut2.kut3.kut4.Uu)))) ((⟨w, p, loose, mean, mg, mb, dp, un, gdg, cn, cs, a, ccd, cl, outer, A₀, base, h₀, L, m, s, Q, E, led⟩ : Cx), ((((fa, sa), wa), d, l), (u, td), tl, tu), (((nf, ns), nw), svs, wvs), (zs, ws), wobjs, b)))
end
section
set_option rowWalk.seconds 0
theorem Uq : True := by
  k_with "setItem ref int" => (k_here; k_dflt (refine' Gh ?k1 ?k2 ?k3 ?k4 ?k5 ?k6 ?_; (case k1 => k_asm); (case k2 => k_asm); (case k3 => k_updF); (case k4 => rfl); (case k5 => (rw [Int.fmod_eq_emod_of_nonneg _ (by decide)]; omega)); (case k6 => (rw [Int.fmod_eq_emod_of_nonneg _ (by decide)]; omega)); k_whole; intro x' h' F' N'))
  trivial
theorem Ui : True := by
  k_with "setItem ref int" => (k_here; first | (refine' JQ (by rfl) ?F ?N ?U ?_; (case F => k_asm); (case N => k_asm); (case U => k_updF); intro h' F' N') | (refine' pair_set0 (by rfl) ?F ?N ?U ?_; (case F => k_asm); (case N => k_asm); (case U => k_updF); intro h' F' N'))
  trivial
noncomputable def Jq : T24 (Addr → Addr → (List Value) → (List Int) → Int → Int → Nat → Nat → Tok → Tok → (Obj → List (Addr × Obj)) → Prop) := fun w pgm loose mean mg mb dp un gd cn cs a ccd cl outer A₀ base h₀ L m s Q E led bx l vs ns n many c c2 t t1 g =>
  (Below A₀ base outer h₀) → (Fr h₀ L s.heap m) → ((KK w.params).In h₀) → (Top pgm loose mean mg mb h₀) → (cs.kind = .function) → (News h₀ L s.heap led) → ((bx, PySem.W.listOf #[.ref l, .int n t] c) ∈ led) → ((l, PySem.W.listOf vs.toArray c2) ∈ led) → (IntsAre vs ns) → (UpdF bx (PySem.W.listOf #[.ref l, .int n t] c) led g) → (l ≠ bx) → (0 ≤ n) → (0 < many) → (ns.length ≤ 64) → (dp + 2 < recursionLimit) → (un + 20 < cLine) → (∀ (r : Int) (t2 t3 : Tok) (h' : Heap) (tk' : Nat), 0 ≤ r → r < many → Fr h₀ L h' m → News h₀ L h' (g (PySem.W.listOf #[.ref l, .int (n + 1) t3] c)) → Q (.int r t2) { s with heap := h', toks := tk' }) →
  wpAny (model pw w) (ktrTop dp un gd cn cs L a ccd cl outer) (PySem.call (.ref 802) [.ref bx, .int many t1]) Q E s
@[irreducible] def CE := eps 5464100 (by walk_at "nonempty") (ccx Du Jq)
noncomputable def JX : Stg (F := Heap → Addr → Heap → Heap → Prop) Ch (ccx Du Jq CE) := mk4 _ fun K1 => by
  intro B F X T hk N m1 m2 hv U hne hn hm hlen hd hu hret
  have NR : News CE.1.h₀ CE.1.L CE.1.s.heap [(CE.2.1.1.1.1, PySem.W.listOf #[.ref CE.2.1.1.1.2, .int CE.2.1.2.1.2 CE.2.2.1.2] CE.2.2.1.1.1), (CE.2.1.1.1.2, PySem.W.listOf CE.2.1.1.2.toArray CE.2.2.1.1.2)] := (by repeat (first | exact News.nil | refine Bh N (by first | assumption | exact m1) ?_))
  have N0 : Hid (News CE.1.h₀ CE.1.L CE.1.s.heap CE.1.led) := N
  have hlen2 := hv.length
  clear N
  walk_at "kt open"
  iterate 12 (first | walk_at "step" | skip)
  try dsimp (zetaDelta := true) only
  rename_i c1_1 c1_2 c1_3 z1 z2 z3 z4 _ _ z5 z6 z7
  clear B F hk m1 m2 hne hd hu z1 z2 z3 z4 z5 z6 z7
  walk_at "rv"
  intro K1
  exact K1.p c1_1 c1_2 c1_3 h'
@[irreducible] def Mm := eps 5464101 (by walk_at "nonempty") (Ch JX.1)
theorem PU : Ch JX.1 Mm := by
  intro X T hv U hn hm hlen hret NR N0 hlen2 y11 y12 F' N'
  k_steps
  all_goals
    refine' hret _ _ _ _ _ (Int.fmod_nonneg_of_pos _ hm) (Int.fmod_lt_of_pos _ hm) ?rF ?rN
    case rN => exact CL N0 NR (by k_asm) (by assumption) U (by k_mem) (by repeat (first | exact fa0 | refine fa1 (fun hn => by first | k_mem | exact absurd rfl hn) ?_))
    case rF => assumption
def Ta {w p loose mean mg mb dp un gd cn cs a ccd cl outer A₀ base h₀ L m s Q E led bx l vs ns n many c c2 t t1 g} :=
  (Jq.eq_1 w p loose mean mg mb dp un gd cn cs a ccd cl outer A₀ base h₀ L m s Q E led bx l vs ns n many c c2 t t1 g).mp ((BH (P := ccx Du Jq) CE (AQ JX Mm PU) ((⟨w, p, loose, mean, mg, mb, dp, un, gd, cn, cs, a, ccd, cl, outer, A₀, base, h₀, L, m, s, Q, E, led⟩ : Cx), (((bx, l), vs), (ns, n), many), ((c, c2), t), t1, g)))
end
section
open Sem (wp)
section
variable {prog : Program} {w : World} {A : Around} {E : Value → Shared → Prop} {R : Result → Shared → Prop} {s : Shared} {env : Env} {h₀ : Heap} {L : Addr} {m : Str → Option Value}
noncomputable def MC (s : Shared) (h₀ : Heap) (L : Addr) (m : Str → Option Value) (C : Addr) (oC : Obj) (D : Addr) (oD : Obj) (I : Addr) (oI : Obj) (K : List (Addr × Obj) → Prop) (s₄ : Shared) : Prop :=
  ∃ h tk led'', s₄ = { s with heap := h, toks := tk } ∧ Fr h₀ L h m ∧ News h₀ L h ((C, oC) :: (D, oD) :: (I, oI) :: led'') ∧ K led'' ∧ ∀ q ∈ led'', q.1 ≠ C ∧ q.1 ≠ D ∧ q.1 ≠ I
theorem MC.intro {C D I : Addr} {oC oD oI : Obj} {K : List (Addr × Obj) → Prop} {h : Heap} {tk : Nat} {led'' : List (Addr × Obj)} (F : Fr h₀ L h m) (N : News h₀ L h ((C, oC) :: (D, oD) :: (I, oI) :: led'')) (k : K led'') (ap : ∀ q ∈ led'', q.1 ≠ C ∧ q.1 ≠ D ∧ q.1 ≠ I) :
    MC s h₀ L m C oC D oD I oI K { s with heap := h, toks := tk } := ⟨h, tk, led'', rfl, F, N, k, ap⟩
end
noncomputable def FI : Program → World → Around → (Value → Shared → Prop) → Shared → Env → Heap → (Str → Option Value) → PySem.Expr → PySem.Expr → Str → Str → Pos → Pos → Scope → (List (Str × Addr)) → Pos → Pos → (Flow → Shared → Prop) → Nat → (List (Addr × Obj)) → (Nat → List (Addr × Obj) → Prop) → (Nat → Value → Prop) → Prop := fun prog w A E s env h₀ m elt iter x y px py scope cl pos spos Q n led K G =>
  (swapsWith (.ListComp elt [⟨.Name x px, iter, [], 0⟩] scope pos) (some (.Name y py)) spos.line env = pure true) → (env.kindOf y = some .local) → ((env.scope.kind == .class || (env.scope.kind == .module && env.locals != env.globals)) = false) → (A.handled = none) → (n < 64) → (closureFor scope env = pure cl) → (∀ y ∈ scope.names, y.2 ≠ .cell) → (scope.kind = .function) → (∀ y ∈ scope.names, y.2 = .local → scope.names.lookup y.1 = some .local) → (scope.names.lookup x = some .local) → (Fr h₀ env.locals s.heap m) → (News h₀ env.locals s.heap led) → (K 0 led) → (wpAny (model prog w) A (eval iter env) (fun v s₁ => ∃ r t u v', v = .ref r ∧ IsRange s₁.heap r 0 n 1 t u v' ∧ Keeps s s₁) E s) → (∀ C oC D oD I oI (i : Nat) t h tk m₃ led' (E' : Value → Shared → Prop), i < n → K i led' → (∀ q ∈ led', q.1 ≠ C ∧ q.1 ≠ D ∧ q.1 ≠ I) → h.Ns C m₃ → m₃ x = some (.int (i : Int) t) → Fr h₀ env.locals h m → News h₀ env.locals h ((C, oC) :: (D, oD) :: (I, oI) :: led') →
      wpAny (model prog w) A (eval elt (compEnvC scope cl C env)) (fun y s₄ => Cg (G i y ∧ MC s h₀ env.locals m C oC D oD I oI (K (i + 1)) s₄)) E' { s with heap := h, toks := tk }) → (∀ D h' tk ys c led', K n led' → Paired G (List.range' 0 n) ys.toList → (∀ q ∈ led', q.1 ≠ D) → Fr h₀ env.locals h' (fun z => if z = y then some (.ref D) else m z) → News h₀ env.locals h' ((D, PySem.W.listOf ys c) :: led') → Q .next { s with heap := h', toks := tk }) → (∀ x, foldedSetIterable iter env x = pure x) →
  wpAny (model prog w) A (exec (.Assign [.Name y py] (.ListComp elt [⟨.Name x px, iter, [], 0⟩] scope pos) spos) env) Q E s
@[irreducible] def Af := eps 7130800 (by walk_at "nonempty") (OL FI)
namespace CB
def env := Af.1.1.2.2
def h₀ := Af.1.2.1.1.1
def x := Af.1.2.2.1.2
def y := Af.1.2.2.2
def scope := Af.2.1.1.2
def n := Af.2.2.1.1.2
noncomputable def GZ : Stg (F := Addr → Tok → Tok → Tok → Heap → Nat → Nat → Heap → Heap → Heap → Nat → Nat → Prop) Dv (FI Af.1.1.1.1.1 Af.1.1.1.1.2 Af.1.1.1.2 Af.1.1.2.1.1 Af.1.1.2.1.2 env h₀ Af.1.2.1.1.2 Af.1.2.1.2 Af.1.2.2.1.1 x y Af.2.1.1.1.1 Af.2.1.1.1.2 scope Af.2.1.2.1.1 Af.2.1.2.1.2 Af.2.1.2.2 Af.2.2.1.1.1 n Af.2.2.1.2 Af.2.2.2.1 Af.2.2.2.2) := RR _ fun K1 => by
  intro hsw hy hpe hh hn hclos hcell hkind hnames hx F N h0 hi helt hQ hs
  rw [exec_Assign_Name_used _ _ _ _ hsw]
  refine wpAny_bind (wpAny_standAt (wpAny_bind ?_))
  show wpAny _ Af.1.1.1.2 (do let _ ← comprehension (.ListComp Af.1.2.1.2 [⟨.Name x Af.2.1.1.1.1, Af.1.2.2.1.1, [], 0⟩] scope Af.2.1.2.1.2) scope env _ (newList []) false (eval Af.1.2.2.1.1 env) (some (assign (.Name y Af.2.1.1.1.2) env))) _ _ Af.1.1.2.1.2
  refine wpAny_bind (wpAny_mono (wpAny_comprehension_free (use := some (assign (.Name y Af.2.1.1.1.2) env)) (Q := fun _ s' => Af.2.2.1.1.1 .next s') rfl hs hclos hkind hnames
    (wpAny_mono hi (fun v s₁ h₁ => ?_) fun _ _ e => e)) (fun _ s' hq => wpAny_pure (wpAny_pure hq)) fun _ _ e => e)
  obtain ⟨r, t, u, v', rfl, hr, h₁, tk₁, rfl, k₁⟩ := h₁
  have hsm : Builtin.Range.small 0 n 1 = true := (by decide +kernel : ∀ n : Fin 64, Builtin.Range.small 0 ((n : Nat) : Int) 1 = true) ⟨n, hn⟩
  have hsz : Builtin.Range.rangeSize 0 n 1 = n := by rw [rangeSize_nat, Int.sub_zero, Int.toNat_natCast]
  refine wpAny_pyIter_range hr hsm ?_
  rw [hsz]
  have F1 := Cw F k₁
  have N1 := Cf N k₁
  generalize hI : h₁.objs.size = I
  have W := LCg.range_walks (prog := Af.1.1.1.1.1) (w := Af.1.1.1.1.2) (I := I) hh 0 n (A := Af.1.1.1.2)
  refine wpAny_newObj_type (wpAny_newFunctionEnv hcell (by intro y hy; simp at hy) (fun h₂ hns₂ hsb₂ => ?_) hkind)
  dsimp only at hns₂ hsb₂ ⊢
  generalize hH1 : h₁.push { cls := .type "range_iterator", data := .fields #[rawInt 0, rawInt (n : Int), rawInt 1] } = H1 at hns₂ hsb₂ ⊢
  generalize hH2 : H1.push { cls := .type "list", dict := none, data := .seq ([] : List Value).toArray } = H2 at hns₂ hsb₂ ⊢
  have hD1 : H1.objs.size = I + 1 := by rw [← hH1, Heap.size_push, hI]
  have hC1 : H2.objs.size = I + 2 := by rw [← hH2, Heap.size_push, hD1]
  obtain ⟨D, hD⟩ : ∃ D, D = H1.objs.size := ⟨_, rfl⟩
  obtain ⟨C, hCe⟩ : ∃ C, C = H2.objs.size := ⟨_, rfl⟩
  rw [← hCe] at hns₂ hsb₂ ⊢
  rw [← hD] at ⊢
  have hDv : D = I + 1 := hD.trans hD1
  have hCv : C = I + 2 := hCe.trans hC1
  have nDI : D ≠ I := by rw [hDv]; exact Nat.succ_ne_self _
  have nCI : C ≠ I := by rw [hCv]; exact Nat.ne_of_gt (Nat.lt_succ_of_lt (Nat.lt_succ_self _))
  have nDC : D ≠ C := by rw [hDv, hCv]; exact Nat.ne_of_lt (Nat.lt_succ_self _)
  have itS : IsRangeIter h₂ I (0 + ((0 : Nat) : Nat) * 1) ((n : Int) - ((0 : Nat) : Nat)) 1 := by
    have e : H1.get? I = some { cls := .type "range_iterator", data := .fields #[rawInt 0, rawInt (n : Int), rawInt 1] } := by rw [← hH1, ← hI]; exact Heap.get?_push_size _ rfl
    have e2 : h₂.get? I = some { cls := .type "range_iterator", data := .fields #[rawInt 0, rawInt (n : Int), rawInt 1] } := hsb₂.extBut _ _ (Ne.symm nCI) (Heap.get?_push_of_some _ (by rw [← hH2]; exact Heap.get?_push_of_some _ e))
    unfold IsRangeIter
    rw [e2]
    simp
  have hacc0 : H2.get? D = some { cls := .type "list", dict := none, data := .seq ([] : List Value).toArray } := by rw [← hH2, hD]; exact Heap.get?_push_size _ rfl
  have hacc : h₂.PlainList D #[] := ⟨_, hsb₂.extBut _ _ nDC (Heap.get?_push_of_some _ hacc0)⟩
  have lowI : ∀ b, b < I → b ≠ C ∧ b ≠ D ∧ b ≠ I := fun b hb => by
    rw [hDv, hCv]
    exact ⟨Nat.ne_of_lt (Nat.lt_succ_of_lt (Nat.lt_succ_of_lt hb)), Nat.ne_of_lt (Nat.lt_succ_of_lt hb), Nat.ne_of_lt hb⟩
  have up2 : ∀ b o, h₁.get? b = some o → h₂.get? b = some o := fun b o e => by
    have hb := Heap.lt_size e
    rw [hI] at hb
    have e1 : H1.get? b = some o := by rw [← hH1]; exact Heap.get?_push_of_some _ e
    have e2 : H2.get? b = some o := by rw [← hH2]; exact Heap.get?_push_of_some _ e1
    exact hsb₂.extBut b o (lowI b hb).1 (Heap.get?_push_of_some _ e2)
  have F2 := Cw F1 up2
  have N2 := Cf N1 up2
  have hLI : env.locals < I := by have := F1.ns.lt; rw [hI] at this; exact this
  have nLC := (lowI env.locals hLI).1
  have nLD := (lowI env.locals hLI).2.1
  have nLI := (lowI env.locals hLI).2.2
  have fresh : ∀ b, I ≤ b → h₀.get? b = none := fun b hb => by
    cases z : h₀.get? b with
    | none => rfl
    | some o =>
      have := Heap.lt_size (F1.keep _ _ z)
      rw [hI] at this
      exact absurd this (Nat.not_lt.mpr hb)
  have fC : h₀.get? C = none := fresh C (by rw [hCv]; exact Nat.le_add_right _ _)
  have fD : h₀.get? D = none := fresh D (by rw [hDv]; exact Nat.le_add_right _ _)
  have fI : h₀.get? I = none := fresh I (Nat.le_refl _)
  have apL : ∀ q ∈ Af.2.2.1.2, q.1 ≠ C ∧ q.1 ≠ D ∧ q.1 ≠ I := fun q hq => lowI _ (by
    have := Heap.lt_size (N1 q hq).1
    rw [hI] at this
    exact this)
  have keepF : ∀ {h h' : Heap}, Fr h₀ env.locals h Af.1.2.1.1.2 → (∀ b o, b ≠ C → b ≠ D → b ≠ I → h.get? b = some o → h'.get? b = some o) → Fr h₀ env.locals h' Af.1.2.1.1.2 := fun {h h'} F kk => by
    obtain ⟨oL, e1, e2, hL, e3⟩ := F.ns
    exact ⟨⟨oL, e1, e2, kk _ _ nLC nLD nLI hL, e3⟩, fun b o e => kk b o (fun x => by rw [x, fC] at e; cases e) (fun x => by rw [x, fD] at e; cases e) (fun x => by rw [x, fI] at e; cases e) (F.keep b o e), F.above⟩
  have keepN : ∀ {h h' : Heap} {led' : List (Addr × Obj)}, News h₀ env.locals h led' → (∀ q ∈ led', q.1 ≠ C ∧ q.1 ≠ D ∧ q.1 ≠ I) → (∀ b o, b ≠ C → b ≠ D → b ≠ I → h.get? b = some o → h'.get? b = some o) → News h₀ env.locals h' led' := fun N ap kk q hq => ⟨kk _ _ (ap q hq).1 (ap q hq).2.1 (ap q hq).2.2 (N q hq).1, (N q hq).2⟩
  have kC : Env.kindOf (compEnvC scope Af.2.1.2.1.1 C env) x = some .local := lookup_relabel_local hx
  have hp : ((compEnvC scope Af.2.1.2.1.1 C env).scope.kind == .class || ((compEnvC scope Af.2.1.2.1.1 C env).scope.kind == .module && (compEnvC scope Af.2.1.2.1.1 C env).locals != (compEnvC scope Af.2.1.2.1.1 C env).globals)) = false := by simp [compEnvC, relabel, hkind]
  clear hsw hh hclos hcell hkind hnames hx F N hi hs k₁ hr hsm hsz F1 N1 hI hH1 hH2 hD1 hC1 hD hsb₂ hCe hDv hCv hacc0 lowI up2 hLI fresh
  walk_at "rv"
  intro K1
  exact K1.p r t u v' h₁ tk₁ I h₂ H1 H2 D C
@[irreducible] def Be := eps 7130801 (by walk_at "nonempty") (Dv GZ.1)
namespace kut1
def I := Be.2.1.1.1
def D := Be.2.2.1.2
def C := Be.2.2.2
noncomputable def Hn : Stg (F := Heap → Nat → (Str → Option Value) → (Array Value) → (List (Addr × Obj)) → Prop) Cz (GZ.1 Be.1.1.1.1 Be.1.1.1.2 Be.1.1.2 Be.1.2.1.1 Be.1.2.1.2 Be.1.2.2 I Be.2.1.1.2 Be.2.1.2 Be.2.2.1.1 D C) := mk5 _ fun K2 => by
  intro hy hpe hn h0 helt hQ W hns₂ nDI nCI nDC itS hacc F2 N2 nLC nLD nLI fC fD fI apL keepF keepN kC hp
  have loop : ∀ s₃ : Shared, s₃ = { Af.1.1.2.1.2 with heap := Be.2.1.1.2, toks := Be.1.2.2 + ([] : List (Str × Value)).length } →
      codeAny (model Af.1.1.1.1.1 Af.1.1.1.1.2) Af.1.1.1.2 (.compLoop (.ListComp Af.1.2.1.2 [⟨.Name x Af.2.1.1.1.1, Af.1.2.2.1.1, [], 0⟩] scope Af.2.1.2.1.2) 0 (.ref I) (.ref D) (compEnvC scope Af.2.1.2.1.1 C env)) (compPost (model Af.1.1.1.1.1 Af.1.1.1.1.2) Af.1.1.1.2 Af.1.1.2.1.1 (some (assign (.Name y Af.2.1.1.1.2) env)) (fun _ s' => Af.2.2.1.1.1 .next s') (.ref D) C) s₃ := by
    rintro s₃ rfl
    refine El (fun k s' => ∃ h' tk m' ys i led', s' = { Af.1.1.2.1.2 with heap := h', toks := tk } ∧ i ≤ n ∧ k = n + 1 - i ∧ h'.Ns C m' ∧ h'.PlainList D ys ∧ Paired Af.2.2.2.2 (List.range' 0 i) ys.toList ∧ IsRangeIter h' I (0 + (i : Nat) * 1) ((n : Int) - (i : Nat)) 1 ∧ Af.2.2.2.1 i led' ∧ Fr h₀ env.locals h' Af.1.2.1.1.2 ∧ News h₀ env.locals h' led' ∧ ∀ q ∈ led', q.1 ≠ C ∧ q.1 ≠ D ∧ q.1 ≠ I) ?_ (n + 1)
      ⟨Be.2.1.1.2, _, _, #[], 0, Af.2.2.1.2, rfl, Nat.zero_le _, rfl, hns₂, hacc, .nil, itS, h0, F2, N2, apL⟩
    rintro k s' ⟨H, tk, m', ys, i, led', rfl, hi', rfl, hns, hpl, hpr, hit, hK, FH, NH, ap⟩
    clear h0 hns₂ itS hacc F2 N2 apL
    walk_at "rv"
    intro K2
    revert i
    exact K2.p H tk m' ys led'
  exact codeAny_compStart_list (loop _ rfl) (W.self 0 _ _ _ itS (loop _ rfl))
@[irreducible] def Bd := eps 7130802 (by walk_at "nonempty") (Cz Hn.1)
noncomputable def Hb : Stg (F := Nat → Heap → Tok → Heap → Nat → Obj → (Array DictEntry) → Nat → Value → Heap → Nat → (List (Addr × Obj)) → Prop) Dv (Cz Hn.1 Bd) := RR _ fun K3 => by
  intro i hy hpe hn helt hQ W nDI nCI nDC nLC nLD nLI fC fD fI keepF keepN kC hp hi' hns hpl hpr hit hK FH NH ap
  rcases Nat.lt_or_ge i n with hlt | hge
  · refine W.item i _ _ _ hlt hit fun v h₃ tk₃ hv hit₃ hk₃ => ?_
    obtain ⟨t, rfl⟩ := hv
    have k3 : ∀ b o, b ≠ I → Bd.1.1.1.get? b = some o → h₃.get? b = some o := fun b o hb e => hk₃ b o (by simpa using hb) e
    show wpAny _ Af.1.1.1.2 (letOwnedTupleGo (.Name x Af.2.1.1.1.1) (.ref I) _) _ _ _
    refine wpAny_of_eq (a := ()) rfl ?_
    refine wpAny_assign_Name (wpAny_storeName_local kC (hns.at' fun o e => k3 _ o nCI e) (fun h₅ hn₅ hs₅ => ?_) hp)
    replace hs₅ : Heap.SameBut C h₃ h₅ := hs₅
    have k5 : ∀ b o, b ≠ C → b ≠ I → Bd.1.1.1.get? b = some o → h₅.get? b = some o := fun b o hb hb2 e => hs₅.extBut b o hb (k3 b o hb2 e)
    have k5' : ∀ b o, b ≠ C → b ≠ D → b ≠ I → Bd.1.1.1.get? b = some o → h₅.get? b = some o := fun b o b1 _ b3 e => k5 b o b1 b3 e
    have F5 := keepF FH k5'
    have N5 := keepN NH ap k5'
    obtain ⟨cD, hcD⟩ := hpl
    have hD5 := k5 _ _ nDC nDI hcD
    have itI : IsRangeIter h₅ I (0 + ((i + 1 : Nat) : Nat) * 1) ((n : Int) - ((i + 1 : Nat) : Nat)) 1 := hs₅.extBut _ _ (Ne.symm nCI) hit₃
    obtain ⟨oC, esC, epC, hgC, hrC⟩ := id hn₅
    replace hgC : h₅.get? C = some oC := hgC
    have N5' : News h₀ env.locals h₅ ((C, oC) :: (D, _) :: (I, _) :: Bd.2.2) := fun q hq => by
      rcases List.mem_cons.mp hq with rfl | hq
      · exact ⟨hgC, nLC.symm, fC⟩
      rcases List.mem_cons.mp hq with rfl | hq
      · exact ⟨hD5, nLD.symm, fD⟩
      rcases List.mem_cons.mp hq with rfl | hq
      · exact ⟨itI, nLI.symm, fI⟩
      · exact N5 q hq
    refine wpAny_mono (helt C oC D _ I _ i t h₅ _ _ Bd.2.2 _ hlt hK ap hn₅ (by simp) F5 N5') (fun y s₄ hy => ?_) fun _ _ e => e
    obtain ⟨hg, h₇, tk₇, led7, rfl, F7, N7, K7, ap7⟩ := hy
    clear hy hpe helt hQ W nCI nLC nLD nLI fC fD fI kC hp hns hit hK FH NH ap hit₃ hk₃ k3 hn₅ hs₅ k5 k5' F5 N5 hcD hD5 itI hgC N5'
    walk_at "rv"
    intro K3
    exact K3.p i h₃ t h₅ cD oC esC epC y h₇ tk₇ led7
  · obtain rfl : i = n := Nat.le_antisymm hi' hge
    refine W.done _ _ _ hit fun h₃ tk₃ hk₃ => ?_
    have k3 : ∀ b o, b ≠ I → Bd.1.1.1.get? b = some o → h₃.get? b = some o := fun b o hb e => hk₃ b o (by simpa using hb) e
    have k3' : ∀ b o, b ≠ C → b ≠ D → b ≠ I → Bd.1.1.1.get? b = some o → h₃.get? b = some o := fun b o _ _ b3 e => k3 b o b3 e
    have F3 := keepF FH k3'
    have N3 := keepN NH ap k3'
    obtain ⟨cD, hcD⟩ := hpl
    show wpAny _ Af.1.1.1.2 (assign (.Name y Af.2.1.1.1.2) env (.ref D)) _ _ _
    refine wpAny_assign_Name (wpAny_storeName_local hy F3.ns (fun h₅ hn₅ hs₅ => ?_) hpe)
    have F5 := F3.set hn₅ hs₅
    have N5 := N3.set hs₅
    have hn3 : h₃.Ns C Bd.1.2 := hns.at' fun o e => k3 _ o nCI e
    refine ⟨Bd.1.2, hn3.sameBut hs₅ nLC.symm, fun h₄ hs₄ => ?_⟩
    have k4 : ∀ b o, b ≠ C → h₅.get? b = some o → h₄.get? b = some o := fun b o hb e => hs₄.extBut b o hb e
    have k4' : ∀ b o, b ≠ C → b ≠ D → b ≠ I → h₅.get? b = some o → h₄.get? b = some o := fun b o b1 _ _ e => k4 b o b1 e
    have F6 : Fr h₀ env.locals h₄ (fun z => if z = y then some (.ref D) else Af.1.2.1.1.2 z) := by
      obtain ⟨oL, e1, e2, hL, e3⟩ := F5.ns
      exact ⟨⟨oL, e1, e2, k4' _ _ nLC nLD nLI hL, e3⟩, fun b o e => k4' b o (fun x => by rw [x, fC] at e; cases e) (fun x => by rw [x, fD] at e; cases e) (fun x => by rw [x, fI] at e; cases e) (F5.keep b o e), F5.above⟩
    refine hQ D h₄ _ Bd.2.1 cD Bd.2.2 hK hpr (fun q hq => (ap q hq).2.1) F6 fun q hq => ?_
    rcases List.mem_cons.mp hq with rfl | hq
    · exact ⟨k4 _ _ nDC (hs₅.extBut _ _ nLD.symm (k3 _ _ nDI hcD)), nLD.symm, fD⟩
    · exact keepN N5 ap k4' q hq
@[irreducible] def Bf := eps 7130803 (by walk_at "nonempty") (Dv Hb.1)
theorem Qs : Dv Hb.1 Bf := by
  intro hn nDI nDC keepF keepN hi' hpr hlt hrC hg F7 N7 K7 ap7
  have hpl7 : Bf.2.2.1.1.PlainList D Bd.2.1 := ⟨Bf.1.2.1.2, (N7 _ (.tail _ (.head _))).1⟩
  refine wpAny_list_append_plain hpl7 (fun h₈ hpl8 hs₈ => ?_) (by
    have := hpr.length
    rw [List.length_range', Array.length_toList] at this
    rw [sizeLine_eq]; lia)
  replace hs₈ : Heap.SameBut D Bf.2.2.1.1 h₈ := hs₈
  have k8 : ∀ b o, b ≠ C → b ≠ D → b ≠ I → Bf.2.2.1.1.get? b = some o → h₈.get? b = some o := fun b o _ b2 _ e => hs₈.extBut b o b2 e
  have nsC : h₈.Ns C (fun z => if z = x then some (.int (0 + (Bf.1.1.1.1 : Int)) Bf.1.1.2) else Bd.1.2 z) := by
    refine ⟨Bf.1.2.2, Bf.2.1.1.1, Bf.2.1.1.2, hs₈.extBut _ _ nDC.symm (N7 _ (.head _)).1, ?_⟩
    exact hrC
  refine ⟨n + 1 - (Bf.1.1.1.1 + 1), by lia, h₈, Bf.2.2.1.2, _, Bd.2.1.push Bf.2.1.2, Bf.1.1.1.1 + 1, Bf.2.2.2, rfl, hlt, rfl, nsC, hpl8, ?_, hs₈.extBut _ _ (Ne.symm nDI) (N7 _ (.tail _ (.tail _ (.head _)))).1, K7, keepF F7 k8, keepN (news_sub N7 fun q hq => .tail _ (.tail _ (.tail _ hq))) ap7 k8, ap7⟩
  rw [Array.toList_push]
  exact Ek hpr hg
end kut1
end CB
section
variable {prog : Program} {w : World} {A : Around} {E : Value → Shared → Prop} {R : Result → Shared → Prop} {s : Shared} {env : Env} {h₀ : Heap} {L : Addr} {m : Str → Option Value}
theorem CB {elt iter : PySem.Expr} {x y : Str} {px py : Pos} {scope : Scope} {cl : List (Str × Addr)} {pos spos : Pos} {Q : Flow → Shared → Prop} {n : Nat} {led : List (Addr × Obj)}
    (hsw : swapsWith (.ListComp elt [⟨.Name x px, iter, [], 0⟩] scope pos) (some (.Name y py)) spos.line env = pure true) (hy : env.kindOf y = some .local) (hpe : (env.scope.kind == .class || (env.scope.kind == .module && env.locals != env.globals)) = false)
    (K : Nat → List (Addr × Obj) → Prop) (G : Nat → Value → Prop) (hh : A.handled = none) (hn : n < 64)
    (hclos : closureFor scope env = pure cl) (hcell : ∀ y ∈ scope.names, y.2 ≠ .cell) (hkind : scope.kind = .function)
    (hnames : ∀ y ∈ scope.names, y.2 = .local → scope.names.lookup y.1 = some .local) (hx : scope.names.lookup x = some .local)
    (F : Fr h₀ env.locals s.heap m) (N : News h₀ env.locals s.heap led) (h0 : K 0 led)
    (hi : wpAny (model prog w) A (eval iter env) (fun v s₁ => ∃ r t u v', v = .ref r ∧ IsRange s₁.heap r 0 n 1 t u v' ∧ Keeps s s₁) E s)
    (helt : ∀ C oC D oD I oI (i : Nat) t h tk m₃ led' (E' : Value → Shared → Prop), i < n → K i led' → (∀ q ∈ led', q.1 ≠ C ∧ q.1 ≠ D ∧ q.1 ≠ I) → h.Ns C m₃ → m₃ x = some (.int (i : Int) t) → Fr h₀ env.locals h m → News h₀ env.locals h ((C, oC) :: (D, oD) :: (I, oI) :: led') →
      wpAny (model prog w) A (eval elt (compEnvC scope cl C env)) (fun y s₄ => Cg (G i y ∧ MC s h₀ env.locals m C oC D oD I oI (K (i + 1)) s₄)) E' { s with heap := h, toks := tk })
    (hQ : ∀ D h' tk ys c led', K n led' → Paired G (List.range' 0 n) ys.toList → (∀ q ∈ led', q.1 ≠ D) → Fr h₀ env.locals h' (fun z => if z = y then some (.ref D) else m z) → News h₀ env.locals h' ((D, PySem.W.listOf ys c) :: led') → Q .next { s with heap := h', toks := tk })
    (hs : autoParam (∀ x, foldedSetIterable iter env x = pure x) aRf) :
    wpAny (model prog w) A (exec (.Assign [.Name y py] (.ListComp elt [⟨.Name x px, iter, [], 0⟩] scope pos) spos) env) Q E s := by
  exact (BH (P := OL FI) Af (AQ CB.GZ CB.Be (AQ CB.kut1.Hn CB.kut1.Bd (AQ CB.kut1.Hb CB.kut1.Bf CB.kut1.Qs))) (((((prog, w), A), (E, s), env), ((h₀, m), elt), (iter, x), y), (((px, py), scope), (cl, pos), spos), ((Q, n), led), K, G)) hsw hy hpe hh hn hclos hcell hkind hnames hx F N h0 hi helt hQ hs
theorem NS {elt iter : PySem.Expr} {x y : Str} {px py : Pos} {scope : Scope} {cl : List (Str × Addr)} {pos spos : Pos} {Q : Flow → Shared → Prop} {n : Nat} {led : List (Addr × Obj)}
    (hsw : swapsWith (.ListComp elt [⟨.Name x px, iter, [], 0⟩] scope pos) (some (.Name y py)) spos.line env = pure true) (hLe : env.locals = L) (hy : env.kindOf y = some .local) (hpe : (env.scope.kind == .class || (env.scope.kind == .module && env.locals != env.globals)) = false)
    (K : Nat → List (Addr × Obj) → Prop) (G : Nat → Value → Prop) (hh : A.handled = none) (hn : n < 64)
    (hclos : closureFor scope env = pure cl) (hcell : ∀ y ∈ scope.names, y.2 ≠ .cell) (hkind : scope.kind = .function)
    (hnames : ∀ y ∈ scope.names, y.2 = .local → scope.names.lookup y.1 = some .local) (hx : scope.names.lookup x = some .local)
    (F : Fr h₀ L s.heap m) (N : News h₀ L s.heap led) (h0 : K 0 led)
    (hi : wpAny (model prog w) A (eval iter env) (fun v s₁ => ∃ r t u v', v = .ref r ∧ IsRange s₁.heap r 0 n 1 t u v' ∧ Keeps s s₁) E s)
    (helt : ∀ C oC D oD I oI (i : Nat) t h tk m₃ led' (E' : Value → Shared → Prop), i < n → K i led' → (∀ q ∈ led', q.1 ≠ C ∧ q.1 ≠ D ∧ q.1 ≠ I) → h.Ns C m₃ → m₃ x = some (.int (i : Int) t) → Fr h₀ L h m → News h₀ L h ((C, oC) :: (D, oD) :: (I, oI) :: led') →
      wpAny (model prog w) A (eval elt (compEnvC scope cl C env)) (fun y s₄ => Cg (G i y ∧ MC s h₀ L m C oC D oD I oI (K (i + 1)) s₄)) E' { s with heap := h, toks := tk })
    (hQ : ∀ D h' tk ys c led', K n led' → Paired G (List.range' 0 n) ys.toList → (∀ q ∈ led', q.1 ≠ D) → Fr h₀ L h' (fun z => if z = y then some (.ref D) else m z) → News h₀ L h' ((D, PySem.W.listOf ys c) :: led') → Q .next { s with heap := h', toks := tk })
    (hs : autoParam (∀ x, foldedSetIterable iter env x = pure x) aRf) :
    wpAny (model prog w) A (exec (.Assign [.Name y py] (.ListComp elt [⟨.Name x px, iter, [], 0⟩] scope pos) spos) env) Q E s := by
  subst hLe
  exact CB hsw hy hpe K G hh hn hclos hcell hkind hnames hx F N h0 hi helt hQ hs
end
end
section
open Sem (wp)
section
variable {prog : Program} {w : World} {s : Shared} {K : Frag}
  {R : Result → Shared → Prop} {name qual : Str} {params : Arguments} {body : List Stmt} {scope : Scope} {dV kV doc pm cdv ct : Value} {an : Option Addr} {o : Obj} {f : Addr} {args : Args} {binds : List (Str × Value)}
  {p : Program} {loose : List Str} {mean : ExcName → Option Value} {mg mb : Str → Option Value}
theorem OX (X₀ : K.In s.heap) (T : Top p loose mean mg mb s.heap)
    (ho : s.heap.get? f = some o) (hd : o.data = .func (fnOf name qual params body scope dV kV doc pm an cdv ct)) (hcd : s.heap.CodeRec cdv qual)
    (hbind : BindsTo s (fnOf name qual params body scope dV kV doc pm an cdv ct) args binds) (hkind : (binds.all fun y => scope.names.lookup y.1 == some .local || scope.names.lookup y.1 == some .cell) = true)
    (hnd : ((cellsFrom 0 scope.names []).map (·.1)).Nodup)
    (h : ∀ L' h₁ tk cells, Fr s.heap L' h₁ (bindL (envOfC qual scope L' f cdv).kindOf binds fun _ => none) → News s.heap L' h₁ cells →
      CellsAre (bindC (envOfC qual scope L' f cdv).kindOf binds fun _ => none) (cellsFrom (L' + 1) scope.names []) cells → Below callerA s.heap [] s.heap → K.In s.heap → Top p loose mean mg mb s.heap →
      wpI (model prog w) (callerA.deeper (envOfC qual scope L' f cdv)) (execs body (envOfC qual scope L' f cdv))
        (fun fl s' => R (.ok (.ret (match fl with | .ret v => v | _ => .none))) s')
        (fun e s' => wpAny (model prog w) (callerA.deeper (envOfC qual scope L' f cdv)) (leaving (envOfC qual scope L' f cdv) e) (fun _ s'' => R (.error e) s'') (fun e' s'' => R (.error e') s'') s')
        { s with heap := h₁, toks := tk })
    (hco : scope.isCoroutine = false) (hgen : scope.isGenerator = false) (hk : scope.kind = .function) : BY (model prog w) callerA (.call (.ref f) args) R s := by
  refine DK (fd := fnOf name qual params body scope dV kV doc pm an cdv ct) (body := body) (by decide) ho hd hco hgen rfl hcd (hbind _ _ _ _ ?_)
  refine wpAny_newFunctionEnv_cells hk (kindsX hkind _) fun env' he s' x => ?_
  subst he
  refine ⟨T.nolimit.keeps x.toInCall.keep, IQ ?_⟩
  obtain ⟨h₁, tk, rfl, _⟩ := x.done
  have hk₁ := x.toInCall.keep
  obtain ⟨cells, NC, Y⟩ := Cl.news (h₀ := s.heap) (Nat.le_refl _) fun n c hm => ⟨x.cell n c (lookup_of_mem_nodup (cellsFrom_names scope.names 0 (s.heap.objs.size + 1) [] [] rfl ▸ hnd) hm), x.above n c hm⟩
  exact h s.heap.objs.size h₁ tk cells ⟨x.toInCall.ns, hk₁, Nat.le_refl _⟩ NC Y (below_caller _) X₀ T
end
end
section
noncomputable def Ge (M : Lim) : Wd → Prop
  | .md v => v ≤ M.d
  | .msd i v => v ≤ M.l.getD i 0
  | .ms b v => v ≤ if b then M.s1 else M.s0
structure Lim.le (N M : Lim) : Prop where
  d : N.d ≤ M.d
  l : ∀ i, N.l.getD i 0 ≤ M.l.getD i 0
  s0 : N.s0 ≤ M.s0
  s1 : N.s1 ≤ M.s1
theorem JH {l : List Int} {i j : Nat} {v : Int} : (l.set i v).getD j 0 = if i = j ∧ i < l.length then v else l.getD j 0 := by
  rw [List.getD_eq_getElem?_getD, List.getD_eq_getElem?_getD, List.getElem?_set]
  by_cases h : i = j
  · by_cases h2 : i < l.length
    · rw [if_pos h, if_pos h2, if_pos ⟨h, h2⟩]; rfl
    · rw [if_pos h, if_neg h2, if_neg (fun q => h2 q.2), List.getElem?_eq_none (by lia)]
  · rw [if_neg h, if_neg (fun q => h q.1)]
theorem Lim.le_up {M N : Lim} {x : Wd} (h : N.le M) (g : Ge M x) : (N.up x).le M := by
  obtain ⟨h1, h2, h3, h4⟩ := h
  cases x with
  | md v => exact ⟨Int.max_le.mpr ⟨h1, g⟩, h2, h3, h4⟩
  | msd i v =>
    refine ⟨h1, fun j => ?_, h3, h4⟩
    show (N.l.set i _).getD j 0 ≤ _
    rw [JH]
    split
    · rename_i e
      rw [← e.1]
      exact Int.max_le.mpr ⟨h2 i, g⟩
    · exact h2 j
  | ms b v =>
    cases b
    · exact ⟨h1, h2, Int.max_le.mpr ⟨h3, g⟩, h4⟩
    · exact ⟨h1, h2, h3, Int.max_le.mpr ⟨h4, g⟩⟩
theorem Lim.le_rfl {M : Lim} : M.le M := ⟨Int.le_refl _, fun _ => Int.le_refl _, Int.le_refl _, Int.le_refl _⟩
theorem Lim.le_trans {A M N : Lim} (h : A.le M) (g : M.le N) : A.le N := ⟨Int.le_trans h.d g.d, fun i => Int.le_trans (h.l i) (g.l i), Int.le_trans h.s0 g.s0, Int.le_trans h.s1 g.s1⟩
theorem Lim.up_ge {M : Lim} {x : Wd} : M.le (M.up x) := by
  cases x with
  | md v => exact ⟨Int.le_max_left .., fun _ => Int.le_refl _, Int.le_refl _, Int.le_refl _⟩
  | msd i v =>
    refine ⟨Int.le_refl _, fun j => ?_, Int.le_refl _, Int.le_refl _⟩
    show _ ≤ (M.l.set i _).getD j 0
    rw [JH]
    split
    · rename_i e
      rw [← e.1]
      exact Int.le_max_left ..
    · exact Int.le_refl _
  | ms b v =>
    cases b
    · exact ⟨Int.le_refl _, fun _ => Int.le_refl _, Int.le_max_left .., Int.le_refl _⟩
    · exact ⟨Int.le_refl _, fun _ => Int.le_refl _, Int.le_refl _, Int.le_max_left ..⟩
theorem Ge.mono {M N : Lim} {x : Wd} (h : Ge M x) (g : M.le N) : Ge N x := by
  cases x with
  | md v => exact Int.le_trans h g.d
  | msd i v => exact Int.le_trans h (g.l i)
  | ms b v => cases b <;> first | exact Int.le_trans h g.s0 | exact Int.le_trans h g.s1
theorem Il : ∀ (ws : List Wd) (M : Lim), M.le (limOf M ws)
  | [], _ => Lim.le_rfl
  | x :: r, M => Lim.le_trans (Lim.up_ge (x := x)) (Il r (M.up x))
theorem Gp : ∀ {ws : List Wd} {M : Lim} {x : Wd}, x ∈ ws → x.ok M.l.length → Ge (limOf M ws) x
  | [], _, _ => fun hx _ => nomatch hx
  | y :: r, M, x => fun hx ok => by
    rcases List.mem_cons.mp hx with rfl | hx
    · refine Ge.mono ?_ (Il r (M.up x))
      cases x with
      | md v => exact Int.le_max_right ..
      | msd i v =>
        show v ≤ (M.l.set i _).getD i 0
        rw [JH, if_pos ⟨rfl, ok⟩]
        exact Int.le_max_right ..
      | ms b v => cases b <;> exact Int.le_max_right ..
    · refine Gp (M := M.up y) hx ?_
      have := DI [y] M
      rw [show (M.up y).l.length = M.l.length from this]
      exact ok
theorem LF : ∀ (ws : List Wd) {M N : Lim}, N.le M → (∀ x ∈ ws, Ge M x) → (limOf N ws).le M
  | [], _, _, h, _ => h
  | x :: r, M, N, h, g => LF r (N := N.up x) (Lim.le_up h (g x (.head _))) (fun y hy => g y (.tail _ hy))
theorem Lim.le_antisymm {M N : Lim} (h : M.le N) (g : N.le M) (hl : M.l.length = N.l.length) : M = N := by
  obtain ⟨d, l, s0, s1⟩ := M
  obtain ⟨d', l', s0', s1'⟩ := N
  have e1 : d = d' := Int.le_antisymm h.d g.d
  have e2 : s0 = s0' := Int.le_antisymm h.s0 g.s0
  have e3 : s1 = s1' := Int.le_antisymm h.s1 g.s1
  have e4 : l = l' := List.ext_getElem hl fun i a b => by
    have p := h.l i
    have q := g.l i
    have := Int.le_antisymm p q
    dsimp only at this
    rw [List.getD_eq_getElem?_getD, List.getD_eq_getElem?_getD, List.getElem?_eq_getElem a, List.getElem?_eq_getElem b] at this
    exact this
  rw [e1, e2, e3, e4]
theorem Oq {M : Lim} {a b : List Wd} (h : ∀ x ∈ a, Ge (limOf M b) x) (g : ∀ x ∈ b, Ge (limOf M a) x) : limOf M a = limOf M b :=
  Lim.le_antisymm (LF a (Il b M) h) (LF b (Il a M) g) (by rw [DI, DI])
theorem Oh {M : Lim} {xs : List Wd} (ok : ∀ x ∈ xs, x.ok M.l.length) : limOf M (xs.reverse ++ xs) = limOf M xs :=
  Oq (fun x hx => Gp (by rcases List.mem_append.mp hx with h | h <;> first | exact h | exact List.mem_reverse.mp h) (ok x (by rcases List.mem_append.mp hx with h | h <;> first | exact h | exact List.mem_reverse.mp h)))
    (fun x hx => Gp (List.mem_append_right _ hx) (ok x hx))
noncomputable def greatest (M : Lim) (n : Nat) : List Wd := [.ms true M.s1, .ms false M.s0, .md M.d] ++ (List.range' 0 n).map fun i => .msd i (M.l.getD i 0)
theorem Ki {M : Lim} {n : Nat} : ∀ x ∈ greatest M n, x.ok n := fun x hx => by
  rcases List.mem_append.mp hx with hx | hx
  · simp only [List.mem_cons, List.not_mem_nil, or_false] at hx
    rcases hx with rfl | rfl | rfl <;> trivial
  · obtain ⟨i, hi, rfl⟩ := List.mem_map.mp hx
    have := List.mem_range'_1.mp hi
    show i < n
    lia
theorem Li {M : Lim} {xs : List Wd} {n : Nat} (hn : M.l.length = n) (ok : ∀ x ∈ xs, x.ok n) : limOf M (greatest (limOf M xs) n) = limOf M xs := by
  subst hn
  have hR : (limOf M xs).le (limOf M (greatest (limOf M xs) M.l.length)) := by
    generalize hr : limOf M (greatest (limOf M xs) M.l.length) = R
    have hs := fun x hx => hr ▸ Gp (M := M) (x := x) hx (Ki x hx)
    have e1 := hs (.ms true (limOf M xs).s1) (by simp [greatest])
    have e2 := hs (.ms false (limOf M xs).s0) (by simp [greatest])
    have e3 := hs (.md (limOf M xs).d) (by simp [greatest])
    refine ⟨e3, fun i => ?_, e2, e1⟩
    by_cases hi : i < M.l.length
    · exact hs (.msd i ((limOf M xs).l.getD i 0)) (List.mem_append_right _ (List.mem_map.mpr ⟨i, List.mem_range'_1.mpr ⟨Nat.zero_le _, by lia⟩, rfl⟩))
    · have h1 : (limOf M xs).l.getD i 0 = 0 := by rw [List.getD_eq_getElem?_getD, List.getElem?_eq_none (by rw [DI]; lia)]; rfl
      have h2 : R.l.getD i 0 = 0 := by rw [← hr, List.getD_eq_getElem?_getD, List.getElem?_eq_none (by rw [DI]; lia)]; rfl
      rw [h1, h2]; exact Int.le_refl _
  refine Oq (fun x hx => ?_) (fun x hx => (Gp hx (ok x hx)).mono hR)
  rcases List.mem_append.mp hx with hx | hx
  · simp only [List.mem_cons, List.not_mem_nil, or_false] at hx
    rcases hx with rfl | rfl | rfl <;> exact Int.le_refl _
  · obtain ⟨i, hi, rfl⟩ := List.mem_map.mp hx
    exact Int.le_refl _
theorem Mh : ∀ (ws : List Wd) (M : Lim), (∀ x ∈ ws, ∀ b v, x = .ms b v → v ≤ 4) → M.s0 ≤ 4 → M.s1 ≤ 4 → (limOf M ws).s0 ≤ 4 ∧ (limOf M ws).s1 ≤ 4
  | [], _, _, a, b => ⟨a, b⟩
  | x :: r, M, h, a, b => by
    refine Mh r (M.up x) (fun y hy => h y (.tail _ hy)) ?_ ?_
    · cases x with
      | md v => exact a
      | msd i v => exact a
      | ms b' v =>
        have := h _ (.head _) b' v rfl
        cases b'
        · exact Int.max_le.mpr ⟨a, this⟩
        · exact a
    · cases x with
      | md v => exact b
      | msd i v => exact b
      | ms b' v =>
        have := h _ (.head _) b' v rfl
        cases b'
        · exact b
        · exact Int.max_le.mpr ⟨b, this⟩
end
section
open Mine renaming Es → hlt14, Es → hlt4, Es → hlt2, Es → hlt16, Es → hlt15, Es → hlt12, Es → hlt13
set_option rowWalk.seconds 0
theorem Sv : True := by
  k_with "subscriptTail" => (k_here; (with_reducible show wpAny _ _ (subscriptTail _ _ (Value.ref 795) (Value.int _ _)) _ _ _); refine hlt12 ?_)
  k_with "subscriptTail" => (k_here; (with_reducible show wpAny _ _ (subscriptTail _ _ (Value.ref _) (Value.int (Nat.cast _) _)) _ _ _); refine hlt13 ?_)
  k_with "all" => (assumption)
  k_with "all" => ((refine HA (by assumption) (by ((try dsimp only); omega))))
  k_with "binaryOp Add ref ref" => (k_here; refine hlt14 ?_)
  k_with "subscriptTail Name Slice ref ref" => (k_here; (with_reducible show wpAny _ _ (subscriptTail _ (PySem.Expr.Slice none none (some _) _) _ _) _ _ _); refine hlt15 ?_)
  k_with "exec Assign cons ListComp" => (k_here; refine hlt16 ?_)
  k_with "take" => (delta Cg; refine Ta (by k_asm) (by k_asm) (by k_asm) (by k_asm) rfl (by k_asm) (by k_mem) (by k_mem) (by assumption) (by k_updF) (by k_ne) (by omega) (by decide) (by omega) (by decide) (by decide) ?_)
  trivial
structure WordsMade (n i : Nat) (wobjs : List (Addr × Obj)) (wvs : List Value) (xs : List Wd) : Prop where
  are : WordsAre wobjs wvs xs
  len : xs.length = i
  ok : ∀ x ∈ xs, x.ok n
  low : ∀ x ∈ xs, ∀ b v, x = .ms b v → v ≤ 4
section
variable {w : World} {p : Program} {loose : List Str} {mean : ExcName → Option Value} {mg mb : Str → Option Value} {dp un : Nat} {gd : Option (List Code)} {cn : Str} {cs : Scope} {a : Addr} {ccd : Value} {cl : List (Str × Addr)} {outer : List Env} {A₀ : Around} {base h₀ : Heap} {L : Addr} {m : Str → Option Value} {s : Shared} {Q E : Value → Shared → Prop} {led led' : List (Addr × Obj)}
variable (B : Below A₀ base outer h₀) (F : Fr h₀ L s.heap m) (X : (KK w.params).In h₀) (T : Top p loose mean mg mb h₀) (hk : cs.kind = .function) (N : News h₀ L s.heap led)
include B F X T hk N
omit B F X T hk N in
theorem WordsMade.nil {n : Nat} : WordsMade n 0 [] [] [] := ⟨.nil, rfl, fun _ h => (nomatch h), fun _ h => nomatch h⟩
omit B F X T hk N in
theorem WordsMade.snoc {n i : Nat} {wobjs : List (Addr × Obj)} {wvs : List Value} {xs : List Wd} (h : WordsMade n i wobjs wvs xs) {T : Addr} {o : Obj} {x : Wd} (hx : HG ((T, o) :: wobjs) T x) (hok : x.ok n) (hl : ∀ b v, x = .ms b v → v ≤ 4) : WordsMade n (i + 1) ((T, o) :: wobjs) (wvs ++ [.ref T]) (xs ++ [x]) where
  are := (h.are.mono fun q hq => .tail _ hq).append (.cons hx .nil)
  len := by rw [List.length_append, h.len]; rfl
  ok := fun y hy => by
    rcases List.mem_append.mp hy with hy | hy
    · exact h.ok y hy
    · rw [List.mem_singleton.mp hy]; exact hok
  low := fun y hy => by
    rcases List.mem_append.mp hy with hy | hy
    · exact h.low y hy
    · rw [List.mem_singleton.mp hy]; exact hl
omit B F X T hk N in
theorem Mt {h₀ h : Heap} {L : Addr} {m m' : Str → Option Value} {a b c e : Str} (F : Fr h₀ L h m') (hm : ∀ z, z ∉ [a, b, c, e] → m' z = m z) : Fr h₀ L h (fun z => if z = a then m' a else if z = b then m' b else if z = c then m' c else if z = e then m' e else m z) := by
  have q : m' = (fun z => if z = a then m' a else if z = b then m' b else if z = c then m' c else if z = e then m' e else m z) := by
    funext z
    by_cases h1 : z = a
    · rw [if_pos h1, h1]
    · by_cases h2 : z = b
      · rw [if_neg h1, if_pos h2, h2]
      · by_cases h3 : z = c
        · rw [if_neg h1, if_neg h2, if_pos h3, h3]
        · by_cases h4 : z = e
          · rw [if_neg h1, if_neg h2, if_neg h3, if_pos h4, h4]
          · rw [if_neg h1, if_neg h2, if_neg h3, if_neg h4]
            exact hm z (by simp only [List.mem_cons, List.not_mem_nil, or_false, not_or]; exact ⟨h1, h2, h3, h4⟩)
  rw [q] at F
  exact F
omit B F X T hk N in
theorem NL : ∀ {n a : Nat} {ys : List Value}, Paired (fun (i : Nat) y => ∃ z, 1 ≤ z ∧ z ≤ 6 ∧ IsI z y) (List.range' a n) ys → ∃ zs : List Int, IntsAre ys zs ∧ (∀ z ∈ zs, 1 ≤ z ∧ z ≤ 6) ∧ zs.length = n
  | 0, a, ys, hp => by
    cases hp
    exact ⟨[], .nil, fun z h => (nomatch h), rfl⟩
  | n + 1, a, ys, hp => by
    rw [List.range'_succ] at hp
    cases hp with
    | cons x r =>
      obtain ⟨z, h1, h2, t, rfl⟩ := x
      obtain ⟨zs, h3, h4, h5⟩ := NL r
      refine ⟨z :: zs, .cons _ _ h3, fun y hy => ?_, by rw [List.length_cons, h5]⟩
      rcases List.mem_cons.mp hy with rfl | hy
      · exact ⟨h1, h2⟩
      · exact h4 y hy
omit B F X T hk N in
theorem KY {h : Heap} {l : List (Addr × Obj)} (N : News h₀ L h l) {p q : Addr × Obj} (hp : p ∈ l) (hq : q ∈ l) (hne : p.2 ≠ q.2) : p.1 ≠ q.1 := fun e => by
  have a := (N p hp).1
  rw [e, (N q hq).1] at a
  exact hne (Option.some.inj a).symm
end
noncomputable def Ux (fl sz wl bx lx : Addr) (oF oS oX : Obj) (c1 c2 : Addr × Obj) (n i : Nat) (l' : List (Addr × Obj)) : Prop :=
  ∃ (c : Int) (t : Tok) (wvs : List Value) (xs : List Wd) (nw : Nat) (wobjs : List (Addr × Obj)), l' = (fl, oF) :: (sz, oS) :: (wl, PySem.W.listOf wvs.toArray nw) :: (bx, PySem.W.listOf #[.ref lx, .int c t] 0) :: (lx, oX) :: c1 :: c2 :: wobjs ∧ WordsMade n i wobjs wvs xs ∧ 0 ≤ c ∧ (∀ q ∈ wobjs, q.1 ≠ bx) ∧ (∀ q ∈ wobjs, q.1 ≠ wl) ∧ ∀ q ∈ wobjs, q.1 ≠ c1.1
section
variable {w : World} {p : Program} {loose : List Str} {mean : ExcName → Option Value} {mg mb : Str → Option Value} {dp un : Nat} {gd : Option (List Code)} {cn : Str} {cs : Scope} {a : Addr} {ccd : Value} {cl : List (Str × Addr)} {outer : List Env} {A₀ : Around} {base h₀ : Heap} {L : Addr} {m : Str → Option Value} {s : Shared} {Q E : Value → Shared → Prop} {led led' : List (Addr × Obj)}
variable (B : Below A₀ base outer h₀) (F : Fr h₀ L s.heap m) (X : (KK w.params).In h₀) (T : Top p loose mean mg mb h₀) (hk : cs.kind = .function) (N : News h₀ L s.heap led)
include B F X T hk N
omit B F X T hk N in
theorem Lx {fl sz wl bx lx I D D2 : Addr} {oF oS oX o o2 oI : Obj} {c1 c2 : Addr × Obj} {n i nw nw' : Nat} {c c' : Int} {t t' : Tok} {wvs : List Value} {xs : List Wd} {x : Wd} {wobjs : List (Addr × Obj)} {h' : Heap} {tk' : Nat} {m'' : Str → Option Value} {names : List Str}
    (N : News h₀ L h' ((D, o) :: (D2, o2) :: (I, oI) :: (fl, oF) :: (sz, oS) :: (wl, PySem.W.listOf (wvs.toArray.push (.ref D)) nw') :: (bx, PySem.W.listOf #[.ref lx, .int c' t'] 0) :: (lx, oX) :: c1 :: c2 :: wobjs))
    (F : Fr h₀ L h' m'') (hm : ∀ z, z ∉ names → m'' z = m z)
    (ap : ∀ q ∈ (fl, oF) :: (sz, oS) :: (wl, PySem.W.listOf wvs.toArray nw) :: (bx, PySem.W.listOf #[.ref lx, .int c t] 0) :: (lx, oX) :: c1 :: c2 :: wobjs, q.1 ≠ I) (hI : oI.cls ≠ .type "tuple") (ho : o.cls = .type "tuple")
    (hw : WordsMade n i wobjs wvs xs) (hx : HG ((D, o) :: wobjs) D x) (hok : x.ok n) (hl : ∀ b v, x = .ms b v → v ≤ 4) (hc : 0 ≤ c') (hb : ∀ q ∈ wobjs, q.1 ≠ bx) (hw2 : ∀ q ∈ wobjs, q.1 ≠ wl) (hw3 : ∀ q ∈ wobjs, q.1 ≠ c1.1) (hcell : ∃ v, c1.2.data = .cell v) (hdat : ∃ a b, o.data = .seq a b) :
    DW s h₀ L m names I oI (Ux fl sz wl bx lx oF oS oX c1 c2 n (i + 1)) { s with heap := h', toks := tk' } := by
  have n1 : D ≠ bx := KY N (p := (D, o)) (q := (bx, PySem.W.listOf #[.ref lx, .int c' t'] 0)) (by k_mem) (by k_mem) (fun e => absurd (Value.type.inj (ho.symm.trans (congrArg Obj.cls e))) (by decide))
  have n2 : D ≠ wl := KY N (p := (D, o)) (q := (wl, PySem.W.listOf (wvs.toArray.push (.ref D)) nw')) (by k_mem) (by k_mem) (fun e => absurd (Value.type.inj (ho.symm.trans (congrArg Obj.cls e))) (by decide))
  have n3 : D ≠ I := KY N (p := (D, o)) (q := (I, oI)) (by k_mem) (by k_mem) (fun e => hI ((congrArg Obj.cls e).symm.trans ho))
  have n4 : D ≠ c1.1 := KY N (p := (D, o)) (q := c1) (by k_mem) (by k_mem) (fun e => by
    obtain ⟨v, hv⟩ := hcell
    obtain ⟨a, b, hd⟩ := hdat
    have e' := congrArg Obj.data e
    dsimp only at e'
    rw [hv, hd] at e'
    cases e')
  rw [List.push_toArray] at N
  refine DW.intro (led'' := (fl, oF) :: (sz, oS) :: (wl, PySem.W.listOf (wvs ++ [Value.ref D]).toArray nw') :: (bx, PySem.W.listOf #[.ref lx, .int c' t'] 0) :: (lx, oX) :: c1 :: c2 :: (D, o) :: wobjs) F hm (by repeat (first | refine Bh N (by repeat (first | with_reducible exact List.mem_cons_self | apply List.mem_cons_of_mem)) ?_ | exact news_sub N (fun q hq => by repeat (first | exact hq | apply List.mem_cons_of_mem)))) ⟨c', t', _, _, _, (D, o) :: wobjs, rfl, hw.snoc hx hok hl, hc, List.forall_mem_cons.mpr ⟨n1, hb⟩, List.forall_mem_cons.mpr ⟨n2, hw2⟩, List.forall_mem_cons.mpr ⟨n4, hw3⟩⟩ (fa1 (ap _ (.head _)) (fa1 (ap _ (.tail _ (.head _))) (fa1 (ap (wl, PySem.W.listOf wvs.toArray nw) (.tail _ (.tail _ (.head _)))) (fa1 (ap (bx, PySem.W.listOf #[.ref lx, .int c t] 0) (.tail _ (.tail _ (.tail _ (.head _))))) (fa1 (ap _ (.tail _ (.tail _ (.tail _ (.tail _ (.head _)))))) (fa1 (ap _ (.tail _ (.tail _ (.tail _ (.tail _ (.tail _ (.head _))))))) (fa1 (ap _ (.tail _ (.tail _ (.tail _ (.tail _ (.tail _ (.tail _ (.head _)))))))) (fa1 (n3) (fun q hq => ap q (.tail _ (.tail _ (.tail _ (.tail _ (.tail _ (.tail _ (.tail _ hq))))))))))))))))
omit B F X T hk N in
theorem Sq {h₀ h : Heap} {L : Addr} {big l : List (Addr × Obj)} (_ : News h₀ L h big) (r : News h₀ L h l) : News h₀ L h l := r
omit B F X T hk N in
theorem NJ {h : Heap} {a b : List (Addr × Obj)} (A : News h₀ L h a) (C : News h₀ L h b) : News h₀ L h (a ++ b) := fun q hq => by
  rcases List.mem_append.mp hq with hq | hq
  · exact A q hq
  · exact C q hq
omit B F X T hk N in
theorem Os {h h' : Heap} {D : Addr} {g : Nat → Int} (F : Fr h₀ L h m) (up : ∀ b o, h.get? b = some o → h'.get? b = some o) : ∀ {n a : Nat} {ys : List Value}, Paired (fun (i : Nat) y => ∃ T o, y = .ref T ∧ T ≠ D ∧ h.get? T = none ∧ h'.get? T = some o ∧ ∃ t1 t2 t3, o = QR (2 * (i : Int)) (g i) t1 t2 t3) (List.range' a n) ys →
    ∃ gobjs : List (Addr × Obj), News h₀ L h' gobjs ∧ WordsAre gobjs ys ((List.range' a n).map fun i : Nat => Wd.msd i (g i))
  | 0, a, ys, hp => by
    cases hp
    exact ⟨[], fun _ h => (nomatch h), .nil⟩
  | n + 1, a, ys, hp => by
    rw [List.range'_succ] at hp ⊢
    cases hp with
    | cons x r =>
      obtain ⟨D', o, rfl, _, h1, h2, t1, t2, t3, rfl⟩ := x
      obtain ⟨gobjs, h3, h4⟩ := Os F up r
      refine ⟨(D', _) :: gobjs, ?_, .cons ⟨t1, t2, t3, .head _⟩ (h4.mono fun q hq => .tail _ hq)⟩
      intro q hq
      rcases List.mem_cons.mp hq with rfl | hq
      · exact Dq F (led := []) (fun _ e => by cases e) up h1 h2 _ (.head _)
      · exact h3 q hq
omit B F X T hk N in
end
noncomputable def Ik : World → Program → (List Str) → (ExcName → Option Value) → (Str → Option Value) → (Str → Option Value) → Shared → (Value → Shared → Prop) → (Value → Shared → Prop) → Obj → Addr → Addr → Value → Value → Value → Value → (Option Addr) → (List Value) → (List Int) → Prop := fun w pgm loose mean mg mb s Q E o f script cdv doc pm ct an vs ns =>
  ((KK w.params).In s.heap) → (Top pgm loose mean mg mb s.heap) → (s.heap.get? f = some o) → (o.data = .func (fnOf (Str.ofString "law") (Str.ofString "law") (dT 105).1 (dT 105).2.1 (dT 105).2.2 .none .none doc pm an cdv ct)) → (s.heap.CodeRec cdv (Str.ofString "law")) → (s.heap.IsList script vs.toArray) → (IntsAre vs ns) → (ns.length ≤ 63) → (∀ (L : Addr) (m : Str → Option Value) (h' : Heap) (tk' : Nat), Fr s.heap L h' m → Q (.bool true) { s with heap := h', toks := tk' }) →
  wpI (model pw w) callerA (PySem.call (.ref f) [.ref script]) Q E s
@[irreducible] def Gf := eps 9437100 (by walk_at "nonempty") (Nu Ik)
noncomputable def IU : Stg (F := Addr → Nat → Obj → Obj → (List Value) → Addr → Nat → Addr → Addr → Heap → Heap → Heap → Heap → Obj → Heap → Prop) Jc (Nu Ik Gf) := UT _ fun K1 => by
  intro X T ho hdt hcd hl hv hn hret
  refine HZ (OX X T ho hdt hcd (BindsTo.of_eq rfl) (by rfl) (by decide +kernel) ?_ rfl rfl rfl)
  intro L' h' tk' cells' F' N' Y' B' X' T'
  k_cells Y'
  refine Ai (Ae ?_)
  k_steps
  rename_i sl ws hA hI hC hL lA lx cx hB lB bx hB2 lB2 wl hB3 lB3 tp hB4 lB4 hB5 hB6 oB dB hB7 FB NB
  rename_i oC oD dC dD
  have nlb : lx ≠ bx := Nat.ne_of_lt lB2.1
  have nwb : wl ≠ bx := Nat.ne_of_gt lB3.1
  have nwl : wl ≠ lx := Nat.ne_of_gt lB3.2.1
  have hns : (Gf.2.2.2.2.take 20).length ≤ 64 := by omega
  have NC : News Gf.1.2.1.1.2.heap L' hB7 ((wl, PySem.W.listOf #[] 0) :: (bx, PySem.W.listOf #[.ref lx, .int 0 (tk' + 1)] 0) :: (lx, PySem.W.listOf ws.toArray cx) :: (L' + 1 + 1, oC) :: (L' + 1, oB) :: []) := (by repeat (first | exact News.nil | refine Bh NB (by repeat (first | with_reducible exact List.mem_cons_self | apply List.mem_cons_of_mem)) ?_))
  have n1b : L' + 1 ≠ bx := Nat.ne_of_lt lB2.2.2.2
  have n2b : L' + 1 + 1 ≠ bx := Nat.ne_of_lt lB2.2.2.1
  have n1w : L' + 1 ≠ wl := Nat.ne_of_lt lB3.2.2.2.2
  have n2w : L' + 1 + 1 ≠ wl := Nat.ne_of_lt lB3.2.2.2.1
  have n2x : L' + 1 + 1 ≠ lx := Nat.ne_of_lt lB.2.1
  have n1x : L' + 1 ≠ lx := Nat.ne_of_lt lB.2.2
  clear NB hC hL lA lB lB2 lB3 lB4
  clear hcd hl hn n1x
  walk_at "rv"
  intro K1
  exact K1.p L' tk' oC oD ws lx cx bx wl hB3 hB4 hB5 hB6 oB hB7
@[irreducible] def AA := eps 9437101 (by walk_at "nonempty") (Jc IU.1)
namespace kut1
def L' := AA.1.1.1.1
def tk' := AA.1.1.1.2
def wl := AA.2.1.1.1
noncomputable def IN : Stg (F := Int → Tok → Heap → Nat → Heap → Nat → Prop) CR (IU.1 L' tk' AA.1.1.2.1 AA.1.1.2.2 AA.1.2.1.1 AA.1.2.1.2 AA.1.2.2.1 AA.1.2.2.2 wl AA.2.1.1.2 AA.2.1.2.1 AA.2.1.2.2 AA.2.2.1.1 AA.2.2.1.2 AA.2.2.2) := mk6 _ fun K2 => by
  intro X
  walk_at "in"
  try dsimp only
  refine Ai (Ae ?_)
  k_steps
  walk_at "take"
  intro r1 u1 u2 h1 tk1 hr1 hr1' F1 N1
  k_steps
  try dsimp only
  obtain ⟨nm, hnm⟩ : ∃ nm : Nat, 1 + r1 = (nm : Int) := ⟨(1 + r1).toNat, by omega⟩
  refine Ai (Ae ?_)
  k_steps
  delta Cg
  rename Fr _ _ _ _ => F2
  rw [hnm] at F2
  rename News _ _ _ _ => N2
  walk_at "rv"
  intro K2
  rename_i c2_1
  exact K2.p r1 u2 h1 tk1 c2_1 nm
@[irreducible] def DS := eps 9437102 (by walk_at "nonempty") (CR IN.1)
noncomputable def DU : (R3 : Addr → Obj → Addr → Obj → Addr → Obj → Nat → Tok → Heap → Nat → (Str → Option Value) → (Value → Shared → Prop) → Int → Tok → Prop) ×' (R4 : Addr → Heap → Nat → Nat → Int → Tok → (List Int) → (List Value) → Prop) ×' (Kp (∀ x0 x1 x2 x3 x4 x5 x6 x7 x8 x9 x10 x11 x12 x13, R3 x0 x1 x2 x3 x4 x5 x6 x7 x8 x9 x10 x11 x12 x13) → Kp (∀ x0 x1 x2 x3 x4 x5 x6 x7, R4 x0 x1 x2 x3 x4 x5 x6 x7) → (CR IN.1 DS)) := ⟨_, _, fun K3 K4 => by
  intro X
  walk_at "in"
  refine NS (n := DS.2.2) (K := fun i l' => ∃ c t, l' = (wl, PySem.W.listOf #[] 0) :: (AA.1.2.2.2, PySem.W.listOf #[.ref AA.1.2.1.2, .int c t] 0) :: (AA.1.2.1.2, PySem.W.listOf AA.1.2.1.1.toArray AA.1.2.2.1) :: (L' + 1 + 1, AA.1.1.2.1) :: (L' + 1, AA.2.2.1.2) :: [] ∧ 0 ≤ c) (G := fun i y => ∃ z, 1 ≤ z ∧ z ≤ 6 ∧ IsI z y) (by with_unfolding_all rfl) rfl rfl rfl rfl (by omega) (by with_unfolding_all rfl) (by decide) (by with_unfolding_all rfl) (by decide) (by with_unfolding_all rfl) F2 N2 ⟨_, _, rfl, by decide⟩ ?hi ?he ?hq
  case hi =>
    k_steps
    exact CF (by assumption)
  case he =>
    rintro C oC' D oD' I oI i t h tk m₃ led' E' hin ⟨c, tc, rfl, hc⟩ hap hn3 hm3 F3 N3
    have b1 := hap (AA.1.2.2.2, PySem.W.listOf #[.ref AA.1.2.1.2, .int c tc] 0) (by k_mem)
    obtain ⟨b1, b2, b3⟩ := b1
    dsimp only at b1 b2 b3
    clear hv nwl n1w n2w n2x hr1 hr1' hin hn3
    walk_at "rv"
    intro K3 K4
    exact K3.p C oC' D oD' I oI i t h tk m₃ E' c tc
  case hq =>
    rintro sz h5 tk5 ys c5 led' ⟨c, tc, rfl, hc⟩ hpr hapS F5 N5
    obtain ⟨zs, hz, hzr, hzl⟩ := NL hpr
    clear hpr
    rw [← Array.toArray_toList (xs := ys)] at N5
    generalize ys.toList = svs at N5 hz
    have b1 := (hapS (AA.1.2.2.2, PySem.W.listOf #[.ref AA.1.2.1.2, .int c tc] 0) (by k_mem)).symm
    have b2 := (hapS (wl, PySem.W.listOf #[] 0) (by k_mem)).symm
    have b3 := (hapS (L' + 1 + 1, AA.1.1.2.1) (by k_mem)).symm
    have b4 := (hapS (L' + 1, AA.2.2.1.2) (by k_mem)).symm
    dsimp only at b1 b2 b3 b4
    clear hapS
    walk_at "rv"
    intro K3 K4
    exact K4.p sz h5 tk5 c5 c tc zs svs⟩
@[irreducible] def FK := eps 9437103 (by walk_at "nonempty") (FJ DU.1)
theorem OV : FJ DU.1 FK := by
  intro X
  walk_at "in"
  k_steps
  walk_at "take"
  intro r v1 v2 h' tk' hr hr' F' N'
  k_steps
  delta Cg
  exact ⟨⟨1 + r, by omega, by omega, _, rfl⟩, MC.intro F' N' ⟨_, _, rfl, by omega⟩ (addr_all' (P := fun z => z ≠ FK.1.1.1.1 ∧ z ≠ FK.1.1.2.1 ∧ z ≠ FK.1.2.1.1) hap rfl)⟩
@[irreducible] def By := eps 9437104 (by walk_at "nonempty") (Da DU.2.1)
namespace kut4
def tk5 := By.1.2.1
def zs := By.2.2.1
noncomputable def Lu : Stg (F := Int → Tok → Heap → Nat → Addr → Heap → Heap → Prop) Fe (DU.2.1 By.1.1.1 By.1.1.2 tk5 By.1.2.2 By.2.1.1 By.2.1.2 zs By.2.2.2) := mk7 _ fun K5 => by
  intro X
  walk_at "in"
  try dsimp only
  refine Ai (Ae ?_)
  k_steps
  walk_at "take"
  intro r2 v1 v2 h6 tk6 hr2 hr2' F6 N6
  k_steps
  rename News _ _ _ ((_, PySem.W.listOf _ _) :: (By.1.1.1, _) :: _) => N7
  rename _ < _ ∧ _ => l7
  rename_i fl hX2 hX FX
  obtain ⟨l7a, l7b, l7c, l7d, l7e, l7f⟩ := l7
  have d1 : fl ≠ By.1.1.1 := Nat.ne_of_gt l7a
  have d2 : fl ≠ wl := Nat.ne_of_gt l7b
  have d3 : fl ≠ AA.1.2.2.2 := Nat.ne_of_gt l7c
  have d4 : fl ≠ AA.1.2.1.2 := Nat.ne_of_gt l7d
  have d5 : fl ≠ L' + 1 + 1 := Nat.ne_of_gt l7e
  have d6 : fl ≠ L' + 1 := Nat.ne_of_gt l7f
  clear l7a l7b l7c l7d l7e l7f
  walk_at "rv"
  intro K5
  exact K5.p r2 v2 h6 tk6 fl hX2 hX
@[irreducible] def Cp := eps 9437105 (by walk_at "nonempty") (Fe Lu.1)
namespace kut5
def tk6 := Cp.1.2.2
noncomputable def Ly : Stg (F := Int → Tok → Int → Tok → Tok → Nat → Heap → Int → Int → Nat → Prop) Df (Lu.1 Cp.1.1.1 Cp.1.1.2 Cp.1.2.1 tk6 Cp.2.1.1 Cp.2.1.2 Cp.2.2) := Qp _ fun K6 => by
  intro X
  walk_at "in"
  try dsimp only
  refine Ai (Ae ?_)
  k_steps
  walk_at "take"
  intro r3 v3 v4 h8 tk8 hr3 hr3' F8 N8
  k_steps
  try dsimp only
  refine Ai (Ae ?_)
  k_steps
  walk_at "take"
  intro r4 v5 v6 h9 tk9 hr4 hr4' F9 N9
  k_steps
  try dsimp only
  rename News _ _ _ ((Cp.2.1.1, _) :: _) => N10
  rw [show ((#[Value.int (1 + Cp.1.1.1) tk6].push (Value.int r3 v3)).push (Value.int r4 v5)) = #[Value.int (1 + Cp.1.1.1) tk6, Value.int r3 v3, Value.int r4 v5] from rfl] at N10
  obtain ⟨d, hd⟩ : ∃ d, 1 + Cp.1.1.1 = d := ⟨_, rfl⟩
  obtain ⟨c', hcc⟩ : ∃ c' : Int, By.2.1.1 + 1 + 1 + 1 = c' := ⟨_, rfl⟩
  rw [hd, hcc] at N10
  have h0d : 0 ≤ d := by omega
  have hc' : 0 ≤ c' := by omega
  clear hcc hc
  generalize 0 + 1 + 1 = nf at N10
  clear hr2 d1 d4 d6
  walk_at "rv"
  intro K6
  rename_i c6_1
  exact K6.p r3 v3 r4 v5 v6 tk9 c6_1 d c' nf
@[irreducible] def AC := eps 9437106 (by walk_at "nonempty") (Df Ly.1)
namespace kut6
def tk9 := AC.2.1.1.1
noncomputable def IZ : Stg (F := Int → Tok → Heap → Nat → Heap → Nat → Tok → Tok → Tok → Nat → Prop) Df (Ly.1 AC.1.1.1.1 AC.1.1.1.2 AC.1.1.2 AC.1.2.1 AC.1.2.2 tk9 AC.2.1.1.2 AC.2.1.2 AC.2.2.1 AC.2.2.2) := Qp _ fun K7 => by
  intro X
  walk_at "in"
  refine Ai (GR ?_)
  k_steps
  walk_at "take"
  intro r5 w1 w2 hh tkh hr5 hr5' FF NN
  k_steps
  obtain ⟨nn, hnn⟩ : ∃ nn : Nat, 2 + r5 = (nn : Int) := ⟨(2 + r5).toNat, by omega⟩
  rename IsRange _ _ _ _ _ _ _ _ => hR
  rw [hnn] at hR
  walk_at "rv"
  intro K7
  rename_i c7_1 c7_2 c7_3 c7_4 c7_5
  exact K7.p r5 w2 hh tkh c7_1 c7_2 c7_3 c7_4 c7_5 nn
@[irreducible] def IV := eps 9437107 (by walk_at "nonempty") (Df IZ.1)
noncomputable def DT : (R8 : Addr → Nat → Tok → Heap → Nat → (Str → Option Value) → Int → Tok → (List Value) → (List Wd) → Nat → (List (Addr × Obj)) → Prop) ×' (R10 : Heap → Nat → (Str → Option Value) → Int → Tok → (List Value) → (List Wd) → Nat → (List (Addr × Obj)) → Prop) ×' (Kp (∀ x0 x1 x2 x3 x4 x5 x6 x7 x8 x9 x10 x11, R8 x0 x1 x2 x3 x4 x5 x6 x7 x8 x9 x10 x11) → Kp (∀ x0 x1 x2 x3 x4 x5 x6 x7 x8, R10 x0 x1 x2 x3 x4 x5 x6 x7 x8) → (Df IZ.1 IV)) := ⟨_, _, fun K8 K10 => by
  intro X
  walk_at "in"
  refine IR (n := IV.2.2.2) rfl hR (by omega) [Str.ofString "turn", Str.ofString "form", Str.ofString "which", Str.ofString "value"] (Ux Cp.2.1.1 By.1.1.1 wl AA.1.2.2.2 AA.1.2.1.2 (PySem.W.listOf #[.int AC.2.1.2 tk6, .int AC.1.1.1.1 AC.1.1.1.2, .int AC.1.1.2 AC.1.2.1] AC.2.2.2) (PySem.W.listOf By.2.2.2.toArray By.1.2.2) (PySem.W.listOf AA.1.2.1.1.toArray AA.1.2.2.1) (L' + 1 + 1, AA.1.1.2.1) (L' + 1, AA.2.2.1.2) zs.length) (by k_asm) (by k_asm) ⟨_, _, [], [], _, [], rfl, WordsMade.nil, by omega, fun _ h => (nomatch h), fun _ h => (nomatch h), fun _ h => nomatch h⟩ ?hstep ?hdone
  case hstep =>
    rintro I i t h tk m' led' hi ⟨c, tc, wvs, xs, nw, wobjs, rfl, hwm, hc, hwb, hww, hwc⟩ hap Fi hm Ni
    have Fi2 := Mt Fi hm
    clear Fi
    have hwl64 : wvs.length ≤ 64 := by have := hwm.are.length; have := hwm.len; omega
    have hI1 := hap (wl, PySem.W.listOf wvs.toArray nw) (by k_mem)
    have hI2 := hap (AA.1.2.2.2, PySem.W.listOf #[.ref AA.1.2.1.2, .int c tc] 0) (by k_mem)
    dsimp only at hI1 hI2
    clear n2x b3 b4 d5 hr3 hr4 h0d hc' hr5 hR
    walk_at "rv"
    intro K8 K10
    exact K8.p I i t h tk m' c tc wvs xs nw wobjs
  case hdone =>
    rintro h tk m' led' ⟨c, tc, wvs, xs, nw, wobjs, rfl, hwm, hc, hwb, hww, hwc⟩ Fd hm Nd
    have Fd2 := Mt Fd hm
    clear Fd
    have hwl64 : wvs.length ≤ 64 := by have := hwm.are.length; have := hwm.len; omega
    clear hv hI nlb nwb nwl hns n1b n1w hr2' d2 d3 hr3' hr4' hc' hR hc hwl64
    walk_at "rv"
    intro K8 K10
    exact K10.p h tk m' c tc wvs xs nw wobjs⟩
@[irreducible] def Lo := eps 9437108 (by walk_at "nonempty") (Dv DT.1)
noncomputable def IL : Stg (F := Int → Tok → Int → Tok → Int → Tok → Tok → Nat → Addr → Heap → Nat → Prop) Du (Dv DT.1 Lo) := UB _ fun K9 => by
  intro X
  walk_at "in"
  k_steps
  refine Ai (Ae ?_)
  k_steps
  walk_at "take"
  intro rf x1 x2 hf tkf hrf hrf' FF1 NF1
  k_steps
  walk_at "take"
  intro rw x3 x4 hw tkw hrw hrw' FF2 NF2
  k_steps
  walk_at "take"
  intro rv x5 x6 hv tkv hrv hrv' FF3 NF3
  k_steps
  try dsimp only
  have hz1 : (0 : Int) < DS.2.2 := by omega
  obtain ⟨j, hj, hj3, hjn⟩ : ∃ j : Nat, rw.fmod (DS.2.2 : Int) = (j : Int) ∧ j < 3 ∧ j < zs.length := by
    have h1 := Int.fmod_nonneg_of_pos rw hz1
    have h2 := Int.fmod_lt_of_pos rw hz1
    exact ⟨(rw.fmod DS.2.2).toNat, by omega, by omega, by omega⟩
  clear hI nlb hns n1b n2b b1 d3 hI2 hrf hrw hrv
  walk_at "rv"
  intro K9
  rename_i c9_1 c9_2 c9_3 c9_4 c9_5 c9_6
  exact K9.p rf x1 rw x3 rv x5 x6 tkv c9_1 c9_6 j
@[irreducible] def BQ := eps 9437109 (by walk_at "nonempty") (Du IL.1)
namespace kut9
def rw := BQ.1.1.2
theorem SH : IL.1 BQ.1.1.1.1 BQ.1.1.1.2 rw BQ.1.2.1.1 BQ.1.2.1.2 BQ.1.2.2 BQ.2.1.1.1 BQ.2.1.1.2 BQ.2.1.2 BQ.2.2.1 BQ.2.2.2 := by
  intro X
  walk_at "in"
  refine Ai (FV (Ae ?_))
  k_steps
  · refine Ai (Ae ?_)
    k_steps
    delta Cg
    rw [hj]
    refine Jb (by k_asm) (by k_asm) hj3 (fun tq => ?_)
    k_steps
    rename News _ _ _ ((_, Obj.mk (Value.type "tuple") _ (Data.seq #[Value.str _ _, _, _] _) _) :: _) => N20
    rename _ < _ ∧ _ => l20
    (repeat (refine Bc ?_; (try dsimp only)))
    refine Lx N20 (by assumption) ?hm1 hap (fun e => absurd (Value.type.inj e) (by decide)) rfl hwm (x := .msd BQ.2.2.2 (1 + BQ.1.2.1.2.fmod 7)) ⟨_, _, _, .head _⟩ hjn (fun b v e => by cases e) (by omega) hwb hww hwc ⟨_, dC⟩ ⟨_, _, rfl⟩
    intro z hz
    simp only [List.mem_cons, List.not_mem_nil, or_false, not_or] at hz
    simp only [hz.1, hz.2.1, hz.2.2.1, hz.2.2.2, if_false]
  · refine Ai (FV (Ae ?_))
    k_steps
    · refine Ai (Ae ?_)
      k_steps
      (repeat (refine Bc ?_; (try dsimp only)))
      refine Lx (by assumption) (by assumption) ?hm2 hap (fun e => absurd (Value.type.inj e) (by decide)) rfl hwm (x := .md BQ.1.2.1.2) ⟨_, _, .head _⟩ trivial (fun b v e => by cases e) (by omega) hwb hww hwc ⟨_, dC⟩ ⟨_, _, rfl⟩
      intro z hz
      simp only [List.mem_cons, List.not_mem_nil, or_false, not_or] at hz
      simp only [hz.1, hz.2.1, hz.2.2.1, hz.2.2.2, if_false]
    · refine Ai (Ae ?_)
      k_steps
      (repeat (refine Bc ?_; (try dsimp only)))
      refine Lx (by assumption) (by assumption) ?hm3 hap (fun e => absurd (Value.type.inj e) (by decide)) rfl hwm (x := .ms (rw.fmod 2 == 1) (1 + BQ.1.2.1.2.fmod 4)) ⟨_, _, .head _⟩ trivial (fun b v e => by cases e; have := Int.fmod_lt_of_pos BQ.1.2.1.2 (show (0 : Int) < 4 by decide); omega) (by omega) hwb hww hwc ⟨_, dC⟩ ⟨_, _, rfl⟩
      intro z hz
      simp only [List.mem_cons, List.not_mem_nil, or_false, not_or] at hz
      simp only [hz.1, hz.2.1, hz.2.2.1, hz.2.2.2, if_false]
end kut9
@[irreducible] def Bt := eps 9437110 (by walk_at "nonempty") (ET DT.2.1)
namespace kut10
def wvs := Bt.2.1.1
def xs := Bt.2.1.2
noncomputable def KC : Stg (F := Addr → Addr → Addr → Tok → Tok → Tok → Nat → Nat → Nat → (List Value) → Heap → Nat → Lim → Prop) CT (DT.2.1 Bt.1.1.1.1 Bt.1.1.1.2 Bt.1.1.2 Bt.1.2.1 Bt.1.2.2 wvs xs Bt.2.2.1 Bt.2.2.2) := Qb _ fun K11 => by
  intro X
  walk_at "in"
  k_steps
  refine Ai (Cb (AK ?_))
  k_steps
  walk_at "I callF"
  walk_at "I arg"
  walk_at "I arg"
  walk_at "I fn"
  refine Ft (n := zs.length) (by k_asm) (by k_asm) (by k_asm) (by k_asm) rfl (by k_asm) (by k_mem) (by k_mem) (by k_mem) (fun q hq => by repeat (first | with_reducible exact hq | apply List.mem_cons_of_mem)) hz.length (by omega) hwm.are hwm.ok (by have := hwm.len; omega) (by decide) (by decide) ?_
  intro li lm lsx t ta tb n1 n2 n3 ms h' tk' hms F' a1 a2 a3 N'
  try dsimp only at hwc
  have c1 := (a1 (L' + 1 + 1, AA.1.1.2.1) (by k_mem)).symm
  have c2 := (a2 (L' + 1 + 1, AA.1.1.2.1) (by k_mem)).symm
  have c3 := (a3 (L' + 1 + 1, AA.1.1.2.1) (by k_mem)).symm
  have c4 := (a1 (L' + 1, AA.2.2.1.2) (by k_mem)).symm
  dsimp only at c1 c2 c3 c4
  generalize hlim : limOf (lim0 AC.2.1.2 AC.1.1.1.1 AC.1.1.2 zs.length) xs = lim at N' hms
  clear c4
  walk_at "rv"
  intro K11
  exact K11.p li lm lsx t ta tb n1 n2 n3 ms h' tk' lim
@[irreducible] def At := eps 9437111 (by walk_at "nonempty") (CT KC.1)
namespace kut11
def t := At.1.1.2.2
def tk' := At.2.2.1.2
def lim := At.2.2.2
noncomputable def Ka : Stg (F := Obj → Addr → Addr → Addr → Addr → Heap → Tok → Tok → Tok → Prop) ET (KC.1 At.1.1.1.1 At.1.1.1.2 At.1.1.2.1 t At.1.2.1.1 At.1.2.1.2 At.1.2.2 At.2.1.1.1 At.2.1.1.2 At.2.1.2 At.2.2.1.1 tk' lim) := mk9 _ fun K12 => by
  intro X
  walk_at "in"
  have F' := F'_2
  clear F'_2
  have N' := N'_1
  clear N'_1
  k_steps
  clear a1 a2 a3
  rename News _ _ _ _ => NC2
  rename Fr _ _ _ _ => FC2
  try dsimp only
  refine Ai (Ae ?_)
  k_steps
  rename News _ _ _ ((_, PySem.W.listOf _ _) :: _ :: _ :: _ :: (At.1.1.1.1, _) :: _) => NG
  rename_i oC' dC' g1 hg1 lg1 g2 hg2 lg2 g3 hg3 lg3 gl hgl lgl hG FG
  try dsimp only
  obtain ⟨u1, u2, u3, NG2⟩ : ∃ u1 u2 u3, News Gf.1.2.1.1.2.heap L' hG ((gl, PySem.W.listOf #[.ref g1, .ref g2, .ref g3] 0) :: (g3, mdO lim.d u1 t) :: (g2, msO false lim.s0 u2 At.1.2.1.1) :: (g1, msO true lim.s1 u3 At.1.2.1.2) :: (At.1.1.1.1, PySem.W.listOf #[.int lim.d t, .ref At.1.1.1.2, .ref At.1.1.2.1] At.1.2.2) :: (At.1.1.1.2, PySem.W.listOf At.2.1.2.toArray At.2.1.1.1) :: (At.1.1.2.1, pairO lim.s0 At.1.2.1.1 lim.s1 At.1.2.1.2 At.2.1.1.2) ::
    (Cp.2.1.1, PySem.W.listOf #[.int AC.2.1.2 tk6, .int AC.1.1.1.1 AC.1.1.1.2, .int AC.1.1.2 AC.1.2.1] AC.2.2.2) :: (By.1.1.1, PySem.W.listOf By.2.2.2.toArray By.1.2.2) :: (wl, PySem.W.listOf wvs.toArray Bt.2.2.1) :: (L' + 1 + 1, oC') :: Bt.2.2.2) := by
    refine ⟨tk' + 1 + 1 + 1 + 1 + 1 + 1, tk' + 1 + 1 + 1, tk', ?_⟩
    repeat (first | refine Bh NG (by repeat (first | with_reducible exact List.mem_cons_self | apply List.mem_cons_of_mem)) ?_ | exact news_sub NG (fun q hq => by repeat (first | exact hq | apply List.mem_cons_of_mem)))
  clear NG lg1 lg2 lg3 lgl
  clear n2b n2w n2x d5 c1 c2 c3
  walk_at "rv"
  intro K12
  exact K12.p oC' g1 g2 g3 gl hG u1 u2 u3
@[irreducible] def Aw := eps 9437112 (by walk_at "nonempty") (ET Ka.1)
namespace kut12
def hG := Aw.2.1.1
noncomputable def Kx : Stg (F := Addr → Heap → Nat → (Array Value) → Nat → (List (Addr × Obj)) → Prop) CR (Ka.1 Aw.1.1.1.1 Aw.1.1.1.2 Aw.1.1.2 Aw.1.2.1 Aw.1.2.2 hG Aw.2.1.2 Aw.2.2.1 Aw.2.2.2) := mk6 _ fun K13 => by
  intro X
  walk_at "in"
  refine Ai (Ae ?_)
  k_steps
  delta Cg
  have hmsz : At.2.1.2.length = zs.length := by rw [hms.length, ← hlim, DI]; simp [lim0]
  have hlz : lim.l.length = zs.length := by rw [← hms.length, hmsz]
  refine CO (n := DS.2.2) (fun i o => ∃ t1 t2 t3, o = QR (2 * (i : Int)) (lim.l.getD i 0) t1 t2 t3) rfl (by omega) (by with_unfolding_all rfl) (by decide) (by with_unfolding_all rfl) (by decide) (by with_unfolding_all rfl) ?gi ?ge ?gq
  case gi =>
    k_steps
    exact CF (by assumption)
  case ge =>
    intro C i tI s₃ m₃ E' hin hn' hm1 up
    have F3 := Cw (by k_asm) up
    have N3 := Cf (by k_asm) up
    obtain ⟨tv, hvi⟩ := JN hms (i := i) (by omega)
    refine wpAny_Tuple ?_
    k_steps
    delta Cg
    refine Jb (by k_asm) (by k_asm) (by omega) (fun tq => ?_)
    walk1
    walk1
    walk1
    walk1
    walk1
    refine item_litK (vs := [.int lim.d t, .ref At.1.1.1.2, .ref At.1.1.2.1]) (PySem.IsL.isList (n := At.1.2.2) (N3 (At.1.1.1.1, PySem.W.listOf #[.int lim.d t, .ref At.1.1.1.2, .ref At.1.1.2.1] At.1.2.2) (by k_mem)).1) (by decide) (by decide) rfl ?_ (by with_unfolding_all rfl)
    k_steps
    delta Cg
    refine Fk (v := .int (lim.l.getD i 0) tv) (by k_asm) (by k_mem) (by omega) (by omega) (by simpa using hvi) ?_
    k_steps
    try dsimp only
    refine Mk.push (Fc _) ⟨_, _, _, rfl⟩ rfl
  case gq =>
    intro D h3 tk3 ys hD hpl hpr up
    obtain ⟨cD, hpl⟩ := hpl
    have FD := Cw FG up
    obtain ⟨gobjs, NW, hgw⟩ := Os FG up hpr
    have ND := NJ (Dq FG NG2 up hD hpl) NW
    clear NW
    simp only [List.cons_append] at ND
    clear hms hpr up
    walk_at "rv"
    intro K13
    exact K13.p D h3 tk3 ys cD gobjs
@[irreducible] def Cu := eps 9437113 (by walk_at "nonempty") (CR Kx.1)
noncomputable def KA : Stg (F := Addr → Heap → Prop) CM (CR Kx.1 Cu) := mk2 _ fun K14 => by
  intro X
  walk_at "in"
  k_steps
  delta Cg
  refine kmk_add_lit (its := #[.ref Aw.1.1.1.2, .ref Aw.1.1.2, .ref Aw.1.2.1]) (its2 := Cu.2.1.1) FD ND (PySem.IsL.isList (n := 0) (ND (Aw.1.2.2, PySem.W.listOf #[.ref Aw.1.1.1.2, .ref Aw.1.1.2, .ref Aw.1.2.1] 0) (by k_mem)).1) (PySem.IsL.isList (n := Cu.2.1.2) (ND (Cu.1.1.1, PySem.W.listOf Cu.2.1.1 Cu.2.1.2) (by k_mem)).1) (zs := [Value.ref Aw.1.1.1.2, Value.ref Aw.1.1.2, Value.ref Aw.1.2.1] ++ Cu.2.1.1.toList) rfl (fun gr h4 F4 N4 l4 => ?_) (by rw [sizeLine_eq]; have := hgw.length; simp at this; simp [this]; omega)
  have NE := Sq N4 (l := (gr, PySem.W.listOf ([Value.ref Aw.1.1.1.2, Value.ref Aw.1.1.2, Value.ref Aw.1.2.1] ++ Cu.2.1.1.toList).toArray 0) :: (At.1.1.1.1, PySem.W.listOf #[.int lim.d t, .ref At.1.1.1.2, .ref At.1.1.2.1] At.1.2.2) :: (At.1.1.2.1, pairO lim.s0 At.1.2.1.1 lim.s1 At.1.2.1.2 At.2.1.1.2) :: (Cp.2.1.1, PySem.W.listOf #[.int AC.2.1.2 tk6, .int AC.1.1.1.1 AC.1.1.1.2, .int AC.1.1.2 AC.1.2.1] AC.2.2.2) :: (By.1.1.1, PySem.W.listOf By.2.2.2.toArray By.1.2.2) :: (wl, PySem.W.listOf wvs.toArray Bt.2.2.1) :: (L' + 1 + 1, Aw.1.1.1.1) :: (Bt.2.2.2 ++ ((Aw.1.2.1, mdO lim.d Aw.2.1.2 t) :: (Aw.1.1.2, msO false lim.s0 Aw.2.2.1 At.1.2.1.1) :: (Aw.1.1.1.2, msO true lim.s1 Aw.2.2.2 At.1.2.1.2) :: Cu.2.2))) (by
    repeat refine Bh N4 (by repeat (first | with_reducible exact List.mem_cons_self | apply List.mem_cons_of_mem)) ?_
    refine NJ (news_sub N4 (fun q hq => by repeat (first | exact List.mem_append.mpr (.inl hq) | exact List.mem_append.mpr (.inr hq) | apply List.mem_cons_of_mem))) ?_
    repeat refine Bh N4 (by repeat (first | with_reducible exact List.mem_cons_self | apply List.mem_cons_of_mem)) ?_
    exact news_sub N4 (fun q hq => by repeat (first | exact List.mem_append.mpr (.inl hq) | exact List.mem_append.mpr (.inr hq) | apply List.mem_cons_of_mem)))
  clear N4 ND
  walk_at "rv"
  intro K14
  exact K14.p gr h4
@[irreducible] def NZ := eps 9437114 (by walk_at "nonempty") (CM KA.1)
noncomputable def Kd : Stg (F := Heap → Addr → Addr → Tok → Tok → Tok → Tok → Nat → Nat → Heap → Nat → Int → Prop) Dv (CM KA.1 NZ) := RR _ fun K15 => by
  intro X
  walk_at "in"
  k_steps
  refine Ai (Cb (AK ?_))
  k_steps
  walk_at "I callF"
  walk_at "I arg"
  walk_at "I arg"
  walk_at "I arg"
  walk_at "I fn"
  have hs16 : lim.s0 ≤ 4 ∧ lim.s1 ≤ 4 := by
    rw [← hlim]
    exact Mh xs _ (fun x hx b v e => hwm.low x hx b v e) (show (2 : Int) ≤ 4 by decide) (show (1 : Int) ≤ 4 by decide)
  refine FP (zs := zs) (ws := xs) (wobjs := Bt.2.2.2) (by k_asm) (by k_asm) (by k_asm) (by k_asm) rfl (by k_asm) (by k_mem) (by k_mem) (by k_mem) (fun q hq => by repeat (first | with_reducible exact hq | exact List.mem_append.mpr (.inl hq) | apply List.mem_cons_of_mem)) hz (by omega) (by omega) hzr hwm.are hwm.ok (by have := hwm.len; omega) h0d hr3 hr4 (by rw [hlim]; omega) (by decide) (by decide) ?_
  rw [hlim]
  intro D1 om1 p1 p2 pa pb k1 k2 h5 tk5 F5 b1 b2 N5
  generalize htot : total lim zs = tot at N5
  walk_at "rv"
  intro K15
  rename_i c15_1
  exact K15.p c15_1 D1 om1 p1 p2 pa pb k1 k2 h5 tk5 tot
@[irreducible] def Hw := eps 9437115 (by walk_at "nonempty") (Dv Kd.1)
noncomputable def Kl : Stg (F := Heap → Nat → Addr → Heap → Addr → Heap → Prop) CR (Dv Kd.1 Hw) := mk6 _ fun K16 => by
  intro X
  walk_at "in"
  have F5 := F5_1
  clear F5_1
  have b1 := b1_1
  clear b1_1
  have b2 := b2_1
  clear b2_1
  have N5 := N5_1
  clear N5_1
  have hdd : (lim.d != lim.d) = false := by simp
  have hde : (lim.d == lim.d) = true := by simp
  k_steps
  refine Ai (Ae ?_)
  k_steps
  try dsimp only
  rename News _ _ _ _ => NB5
  have hwz := hwm.are.length
  have hxz := hwm.len
  refine Ai (DA (QJ (Jd (AK ?_))))
  k_steps
  walk_at "I callF"
  walk_at "I arg"
  walk_at "I arg"
  delta Cg
  refine krv_lit (its := wvs.toArray) (zs := wvs.reverse) (by k_asm) (by k_asm) (PySem.IsL.isList (n := Bt.2.2.1) (NB5 (wl, PySem.W.listOf wvs.toArray Bt.2.2.1) (by k_mem)).1) (IsPart.int _ _) rfl (fun rv0 h6 F6 N6 l6 => ?_) (by with_unfolding_all rfl) (by kmk_pure) (by rw [sizeLine_eq, List.size_toArray]; omega)
  k_steps
  delta Cg
  refine kmk_add_lit (its := wvs.reverse.toArray) (its2 := wvs.toArray) (zs := wvs.reverse ++ wvs) (by k_asm) (by k_asm) (PySem.IsL.isList (n := 0) (N6 (rv0, PySem.W.listOf wvs.reverse.toArray 0) (by k_mem)).1) (PySem.IsL.isList (n := Bt.2.2.1) (N6 (wl, PySem.W.listOf wvs.toArray Bt.2.2.1) (by k_mem)).1) rfl (fun tw h7 F7 N7 l7 => ?_) (by rw [sizeLine_eq]; simp; omega)
  k_steps
  walk_at "I arg"
  walk_at "I fn"
  have hM0 : (lim0 AC.2.1.2 AC.1.1.1.1 AC.1.1.2 zs.length).l.length = zs.length := by simp [lim0]
  have hM2 := Oh (M := lim0 AC.2.1.2 AC.1.1.1.1 AC.1.1.2 zs.length) (xs := xs) (fun x hx => hM0.symm ▸ hwm.ok x hx)
  rename News _ _ _ _ => N8
  walk_at "rv"
  intro K16
  rename_i c16_1
  exact K16.p c16_1 tk rv0 h6 tw h7
@[irreducible] def Oi := eps 9437116 (by walk_at "nonempty") (CR Kl.1)
noncomputable def Kf : Stg (F := Addr → Addr → Tok → Tok → Tok → Tok → Nat → Nat → Heap → Nat → Prop) Df (CR Kl.1 Oi) := Qp _ fun K17 => by
  intro X
  walk_at "in"
  have b1 := b1_1
  clear b1_1
  have b2 := b2_1
  clear b2_1
  refine FP (zs := zs) (ws := xs.reverse ++ xs) (wobjs := Bt.2.2.2) (by k_asm) (by k_asm) (by k_asm) (by k_asm) rfl (by k_asm) (by k_mem) (by k_mem) (by k_mem) (fun q hq => by repeat (first | with_reducible exact hq | exact List.mem_append.mpr (.inl hq) | apply List.mem_cons_of_mem)) hz (by omega) (by omega) hzr (hwm.are.reverse.append hwm.are) (fun x hx => hwm.ok x (by rcases List.mem_append.mp hx with h | h <;> first | exact h | exact List.mem_reverse.mp h)) (by rw [List.length_append, List.length_reverse]; omega) h0d hr3 hr4 (by rw [hM2, hlim]; omega) (by decide) (by decide) ?_
  rw [hM2, hlim]
  intro D2 om2 p3 p4 pc pe k3 k4 h8 tk8 F8 b3 b4 N8
  rw [htot] at N8
  clear hr5 hr5'
  walk_at "rv"
  intro K17
  exact K17.p D2 om2 p3 p4 pc pe k3 k4 h8 tk8
@[irreducible] def Ol := eps 9437117 (by walk_at "nonempty") (Df Kf.1)
noncomputable def OR : (R18 : Prop) ×' (Kp R18 → (Df Kf.1 Ol)) := ⟨_, fun K18 => by
  intro X
  walk_at "in"
  have b1 := b1_1
  clear b1_1
  have b2 := b2_1
  clear b2_1
  have b3 := b3_1
  clear b3_1
  have b4 := b4_1
  clear b4_1
  have N8 := N8_1
  clear N8_1
  have htt : (Hw.2.2.2 == Hw.2.2.2) = true := by simp
  refine Ae ?_
  k_steps
  refine Ae ?_
  k_steps
  have hG := Li (M := lim0 AC.2.1.2 AC.1.1.1.1 AC.1.1.2 zs.length) (xs := xs) hM0 hwm.ok
  rw [hlim] at hG
  have hGw : WordsAre ((Aw.1.2.1, mdO lim.d Aw.2.1.2 t) :: (Aw.1.1.2, msO false lim.s0 Aw.2.2.1 At.1.2.1.1) :: (Aw.1.1.1.2, msO true lim.s1 Aw.2.2.2 At.1.2.1.2) :: Cu.2.2) ([Value.ref Aw.1.1.1.2, Value.ref Aw.1.1.2, Value.ref Aw.1.2.1] ++ Cu.2.1.1.toList) (greatest lim zs.length) := by
    rw [← hzl] at hgw
    exact .cons ⟨Aw.2.2.2, At.1.2.1.2, .tail _ (.tail _ (.head _))⟩ (.cons ⟨Aw.2.2.1, At.1.2.1.1, .tail _ (.head _)⟩ (.cons ⟨Aw.2.1.2, t, .head _⟩ (hgw.mono fun q hq => .tail _ (.tail _ (.tail _ hq)))))
  refine Jd (AK ?_)
  k_steps
  walk_at "I callF"
  walk_at "I arg"
  walk_at "I arg"
  walk_at "I arg"
  walk_at "I fn"
  rename News _ _ _ _ => N9
  clear hwm hgw
  walk_at "rv"
  intro K18
  exact K18.p ⟩
noncomputable def Kk : Stg (F := Addr → Addr → Tok → Tok → Tok → Tok → Nat → Nat → Heap → Nat → Prop) Df (OR.1) := Qp _ fun K19 => by
  intro X
  walk_at "in"
  have b1 := b1_1
  clear b1_1
  have b2 := b2_1
  clear b2_1
  have b3 := b3_1
  clear b3_1
  have b4 := b4_1
  clear b4_1
  refine FP (zs := zs) (ws := greatest lim zs.length) (wobjs := (Aw.1.2.1, mdO lim.d Aw.2.1.2 t) :: (Aw.1.1.2, msO false lim.s0 Aw.2.2.1 At.1.2.1.1) :: (Aw.1.1.1.2, msO true lim.s1 Aw.2.2.2 At.1.2.1.2) :: Cu.2.2) (by k_asm) (by k_asm) (by k_asm) (by k_asm) rfl (by k_asm) (by k_mem) (by k_mem) (by k_mem) (fun q hq => by repeat (first | with_reducible exact hq | exact List.mem_append.mpr (.inr hq) | apply List.mem_cons_of_mem)) hz (by omega) (by omega) hzr hGw Ki (by simp [greatest]; omega) h0d hr3 hr4 (by rw [hG]; omega) (by decide) (by decide) ?_
  rw [hG]
  intro D3 om3 p5 p6 pg ph k5 k6 h9 tk9 F9 b5 b6 N9
  rw [htot] at N9
  clear hr1 hr1' hz hr3 hr4 h0d hs16 hGw
  walk_at "rv"
  intro K19
  exact K19.p D3 om3 p5 p6 pg ph k5 k6 h9 tk9
@[irreducible] def NM := eps 9437119 (by walk_at "nonempty") (Df Kk.1)
theorem SA : Df Kk.1 NM := by
  intro X
  walk_at "in"
  have b1 := b1_1
  clear b1_1
  have b2 := b2_1
  clear b2_1
  have b3 := b3_1
  clear b3_1
  have b4 := b4_1
  clear b4_1
  have N9 := N9_1
  clear N9_1
  refine Ae ?_
  k_steps
  refine Ae ?_
  k_steps
  exact hret _ _ _ _ (by assumption)
end kut12
end kut11
end kut10
theorem SB : Df IZ.1 IV :=
  DT.2.2 ⟨fun x0 x1 x2 x3 x4 x5 x6 x7 x8 x9 x10 x11 => BH (P := Dv DT.1) Lo (AQ IL BQ kut9.SH) ((((x0, x1), x2), (x3, x4), x5), ((x6, x7), x8), (x9, x10), x11)⟩ ⟨fun x0 x1 x2 x3 x4 x5 x6 x7 x8 => BH (P := ET DT.2.1) Bt (AQ kut10.KC kut10.At (AQ kut10.kut11.Ka kut10.kut11.Aw (AQ kut10.kut11.kut12.Kx kut10.kut11.kut12.Cu (AQ kut10.kut11.kut12.KA kut10.kut11.kut12.NZ (AQ kut10.kut11.kut12.Kd kut10.kut11.kut12.Hw (AQ kut10.kut11.kut12.Kl kut10.kut11.kut12.Oi (AQ kut10.kut11.kut12.Kf kut10.kut11.kut12.Ol (kut10.kut11.kut12.OR.2 ⟨(AQ kut10.kut11.kut12.Kk kut10.kut11.kut12.NM kut10.kut11.kut12.SA)⟩)))))))) ((((x0, x1), x2), x3, x4), (x5, x6), x7, x8)⟩
end kut6
end kut5
end kut4
theorem SX : CR IN.1 DS :=
  DU.2.2 ⟨fun x0 x1 x2 x3 x4 x5 x6 x7 x8 x9 x10 x11 x12 x13 => BH (P := FJ DU.1) FK OV ((((x0, x1), x2, x3), (x4, x5), x6), ((x7, x8), x9, x10), (x11, x12), x13)⟩ ⟨fun x0 x1 x2 x3 x4 x5 x6 x7 => BH (P := Da DU.2.1) By (AQ kut4.Lu kut4.Cp (AQ kut4.kut5.Ly kut4.kut5.AC (AQ kut4.kut5.kut6.IZ kut4.kut5.kut6.IV kut4.kut5.kut6.SB))) (((x0, x1), x2, x3), (x4, x5), x6, x7)⟩
end kut1
def Sa {w p loose mean mg mb s Q E o f script cdv doc pm ct an vs ns} :=
  (Ik.eq_1 w p loose mean mg mb s Q E o f script cdv doc pm ct an vs ns).mp ((BH (P := Nu Ik) Gf (AQ IU AA (AQ kut1.IN kut1.DS kut1.SX)) (((((w, p), loose), mean, mg), ((mb, s), Q), E, o), (((f, script), cdv), doc, pm), (ct, an), vs, ns)))
end
section
set_option maxRecDepth 1000000
set_option rowWalk.seconds 0
theorem UA : WalkTI := by
  k_fill
  intro w s₀ s₁ mg mb G Y fa o pm cd doc dV kV ho hd hcd hD hmg hg args vals as hpre hlay hrd hwl hlo
  have KX := kIn_of Y
  have X := (Ground.X G).1
  have V := (Ground.X G).2
  refine Ground.open G ?_
  intro T B D TE TW
  try (refine guard_noD D (by decide +kernel) ?_; clear D)
  obtain ⟨_, _, M⟩ := bmod_of_top T
  have TA := at_of_top T
  obtain ⟨_, _, he, B0⟩ := based_of_top T rfl hmg ho hd
  have he' : cd = _ := he
  subst he'
  clear he
  clear hmg
  wrow_args hpre hlay hrd hwl hlo
  rename_i ns hs hlay0 hL1 hr1 hl2 ws1 ws2 sc vs wsx hL ra w1 r0 hI hr hcond hcond'
  have hdV : dV = .none := by
    rcases hD.pos with h | h
    · exact h.2
    · exact absurd rfl h.1
  have hkV : kV = .none := by
    rcases hD.kw with h | h
    · exact h.2
    · exact absurd rfl h.1
  subst hdV hkV
  refine Sa KX T ho (hd.trans rfl) hcd hL hI (by omega) (fun L m h' tk' F => GoodW.toG ?_)
  refine goodW_bool F hg (raisesW_false ?_) ?_
  · wrow_none_raised
  · kc_post
theorem holdsX : rwO.Holds := hdI UA
end
end Mine
end
theorem PySem.Challenge.cw_sj0123_01_holds : PySem.Challenge.rw_sj0123_01.Holds := by
  exact Mine.holdsX
