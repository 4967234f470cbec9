import PyProof.Rows.All
import Wide.All
import OpenK.AllK
import Wide.FinOn
import PySem.Challenge.RW_xw0266_01
open PySem PySem.W PyProof.Rows
set_option Elab.async false
set_option maxRecDepth 100000
set_option maxHeartbeats 8000000
set_option linter.unusedVariables false
set_option linter.unusedSimpArgs false
set_option compiler.extract_closed false
set_option genSizeOf false
set_option genSizeOfSpec false
namespace Mine
open PySem.Calls PySem.Spec
def runT (tb : String → Option Builtin) (p : Program) (w : World) (n₀ : Nat) (ann : Option Value) : Nat → SharedT → Thread → Option SharedT
  | 0, _, _ => none
  | n + 1, s, t => match through t with
    | true => some s
    | false => match stepOk n₀ ann t with
      | false => none
      | true => match stepT (denote tb) p w s t with
        | some (s', t') => runT tb p w n₀ ann n s' t'
        | none => none
theorem run_of {tb : String → Option Builtin} {p : Program} {w : World} {n₀ : Nat} {ann : Option Value} : ∀ {n : Nat} {s s' : SharedT} {t : Thread}, runT tb p w n₀ ann n s t = some s' → topRun tb p w n₀ ann n s.abs t = some s'.abs
  | 0, _, _, _, h => by cases h
  | n + 1, s, s', t, h => by
    unfold runT at h
    unfold topRun
    cases he : through t with
    | true => rw [he] at h; cases h; rfl
    | false =>
      rw [he] at h
      cases hk : stepOk n₀ ann t with
      | false => rw [hk] at h; cases h
      | true =>
        rw [hk] at h
        cases hs : stepT (denote tb) p w s t with
        | none => rw [hs] at h; cases h
        | some r => obtain ⟨s₂, t₂⟩ := r; rw [hs] at h; rw [stepT_spec hs]; exact run_of h
noncomputable def insAll : List Obj → Nat → BT → BT
  | [], _, t => t
  | o :: l, n, t => insAll l (n + 1) (t.ins n o)
noncomputable def T0 (P : Params) : BT := insAll (boot_heap P).objs.toList 0 .nil
theorem t0 : ∀ P : Params, absHeap (T0 P) (boot_heap P).objs.size (boot_heap P).life = boot_heap P := fun P => by kernel_rfl
theorem openEnds_map {p : Program} {N : Nat} {β : Type} {F : Shared → β} {b : World → β} (e : opening p = plainProg p.main.scope.names) (hN : Nat.ble 600 N = true) (f : ∀ s, fenceModules? p s = some s)
    (h : ∀ w : World, (fun os : OsState => (topFrom treeTable p w N ⟨boot_heap w.params, #[], boot_drawn, boot_toks, os⟩).map F) = fun _ => some (b w)) : ∀ w, (openEnds treeTable p w N).map F = some (b w) := fun w => by
  obtain ⟨⟨hh, gs, d, k, os⟩, e1, e2⟩ := Option.map_eq_some_iff.mp (boot_open e hN f w)
  obtain ⟨rfl, rfl, rfl, rfl⟩ : hh = boot_heap w.params ∧ gs = #[] ∧ d = boot_drawn ∧ k = boot_toks := by simpa using e2
  unfold openEnds
  rw [e1]
  exact congrFun (h w) os
noncomputable def S0 (P : Params) (os : OsState) : SharedT := ⟨T0 P, (boot_heap P).objs.size, (boot_heap P).life, #[], boot_drawn, boot_toks, os⟩
theorem S0_abs (P : Params) (os : OsState) : (S0 P os).abs = ⟨boot_heap P, #[], boot_drawn, boot_toks, os⟩ := by
  show Shared.mk (absHeap (T0 P) (boot_heap P).objs.size (boot_heap P).life) _ _ _ _ = _
  rw [t0]; rfl
theorem topFrom_map {p : Program} {N : Nat} {β : Type} {F : Shared → β} {w : World} {b : β} {os : OsState}
    (h0 : ((boot_heap w.params).isNs mainGlobals && (#[] : Array GenState).size == 0) = true)
    (h : (runT treeTable p w (boot_heap w.params).objs.size ((boot_heap w.params).nsMap mainGlobals "__annotations__") N (S0 w.params os) (topStub p)).map
      (fun s => (staticsOk (importedModules p.main.body) (boot_heap w.params) s.abs.heap && namesBound p s.abs.heap && gensDone s.abs && laidKept (boot_heap w.params) s.abs.heap, F s.abs)) = some (true, b)) :
    (topFrom treeTable p w N ⟨boot_heap w.params, #[], boot_drawn, boot_toks, os⟩).map F = some b := by
  obtain ⟨s, h1, h2⟩ := Option.map_eq_some_iff.mp h
  obtain ⟨h3, h4⟩ := Prod.mk.inj h2
  have r := run_of h1
  rw [S0_abs] at r
  unfold topFrom
  dsimp only
  rw [h0, r]
  show Option.map F (match staticsOk (importedModules p.main.body) (boot_heap w.params) s.abs.heap && namesBound p s.abs.heap && gensDone s.abs && laidKept (boot_heap w.params) s.abs.heap with | true => some s.abs | false => none) = some b
  rw [h3]
  exact congrArg some h4
abbrev pw : Program := PySem.Challenge.pw_xw0266_01
noncomputable def stOf (i : Nat) : Stmt := (PySem.Challenge.pw_xw0266_01.main.body[i]?).getD (.Pass default)
noncomputable def stIn (i j : Nat) : Stmt := match stOf i with
  | .ClassDef _ _ _ b _ _ _ _ _ _ _ => (b[j]?).getD (.Pass default)
  | _ => .Pass default
noncomputable def sV (x : String) (t : Nat) : Value := .str (Str.ofString x) t
noncomputable def kE (P : Params) (k : String) (t : Nat) (v : Value) : DictEntry := { hash := PyData.keyHash P (Str.ofString k), key := .str (Str.ofString k) t, val := v }
noncomputable def dO (c : Value) (es : List DictEntry) (n : Nat) : Obj := { cls := c, data := .dict es.toArray n }
noncomputable def cO (vs : List Value) : Obj := { cls := .type "code", data := .fields vs.toArray }
noncomputable def fO (D : Stmt) (q m : String) (t : Nat) (c : Addr) : Obj := match D with
  | .FunctionDef name args body _ _ _ scope _ _ _ => { cls := .type "function", data := .func { name := name, qualname := Str.ofString q, params := args, body := .stmts body, scope := scope, globals := 3, closure := [], defaults := .none, kwdefaults := .none, doc := .none, pyModule := sV m t, annotations := none, code := .ref c, closureTuple := .none, builtins := 0 } }
  | _ => { cls := .none, data := .fields #[] }
noncomputable def heapK (P : Params) : Frag := [
  (3, dO (.type "dict") [kE P "__name__" 165 (sV "law_xw0266_01" 754), kE P "__doc__" 166 (.none), kE P "__package__" 167 (.none), kE P "__loader__" 168 (.builtin "__main__.__loader__#opaque"), kE P "__spec__" 169 (.none), kE P "__annotations__" 170 (.ref 6), kE P "__builtins__" 171 (.ref 4), kE P "__file__" 173 (sV "/claim/cut.py" 172), kE P "__cached__" 174 (.none), kE P "_wall" 193 (.ref 21), kE P "KeepError" 215 (.ref 31), kE P "StoreError" 231 (.ref 44), kE P "Corrupt" 247 (.ref 56), kE P "ShortOctets" 263 (.ref 68), kE P "BadOption" 279 (.ref 80), kE P "RaftError" 295 (.ref 92), kE P "LogPanic" 311 (.ref 104), kE P "MAX_32" 315 (.int 4294967295 314), kE P "MAX_64" 317 (.int 18446744073709551615 316), kE P "put_fixed32" 324 (.ref 113), kE P "put_fixed64" 331 (.ref 120), kE P "read_fixed32" 339 (.ref 127), kE P "read_fixed64" 347 (.ref 134), kE P "NONE" 351 (.int 0 350), kE P "MSG_READ_INDEX" 353 (.int 15 352), kE P "rising" 362 (.ref 141), kE P "Message" 418 (.ref 170), kE P "VOTE_PENDING" 422 (.int 1 421), kE P "VOTE_LOST" 424 (.int 2 423), kE P "VOTE_WON" 426 (.int 3 425), kE P "majority_vote" 438 (.ref 181), kE P "joint_vote" 449 (.ref 188), kE P "Config" 552 (.ref 268), kE P "SAFE" 556 (.int 0 555), kE P "LEASE" 558 (.int 1 557), kE P "read_context" 565 (.ref 279), kE P "ReadStatus" 597 (.ref 296), kE P "Lease" 671 (.ref 352), kE P "ReadOnly" 753 (.ref 408), kE P "_law_draw" 763 (.ref 419), kE P "_law_eight" 769 (.ref 424), kE P "_law_back" 775 (.ref 429), kE P "_law_ids" 781 (.ref 434), kE P "_law_wins" 787 (.ref 439), kE P "_law_strange" 793 (.ref 444), kE P "_law_near" 799 (.ref 449), kE P "law" 805 (.ref 454)] 47),
  (112, cO [sV "put_fixed32" 318, sV "put_fixed32" 319, sV "/claim/cut.py" 320, .int 22 0, .int 1 0, .int 0 0, .int 0 0, .int 3 0, .ref 107, .bool true, .int 181 0, .ref 108, .none, .ref 109, .ref 110, .ref 111, .int 322 0, .int 22 0, sV "/claim/cut.py" 323]),
  (113, fO (stOf 12) "put_fixed32" "raftkeep.octets" 312 112),
  (119, cO [sV "put_fixed64" 325, sV "put_fixed64" 326, sV "/claim/cut.py" 327, .int 26 0, .int 1 0, .int 0 0, .int 0 0, .int 3 0, .ref 114, .bool true, .int 181 0, .ref 115, .none, .ref 116, .ref 117, .ref 118, .int 329 0, .int 26 0, sV "/claim/cut.py" 330]),
  (120, fO (stOf 13) "put_fixed64" "raftkeep.octets" 312 119),
  (126, cO [sV "read_fixed32" 332, sV "read_fixed32" 333, sV "/claim/cut.py" 334, .int 30 0, .int 2 0, .int 0 0, .int 0 0, .int 3 0, .ref 121, .bool true, .int 181 0, .ref 122, .none, .ref 123, .ref 124, .ref 125, .int 337 0, .int 30 0, sV "/claim/cut.py" 338]),
  (127, fO (stOf 14) "read_fixed32" "raftkeep.octets" 312 126),
  (133, cO [sV "read_fixed64" 340, sV "read_fixed64" 341, sV "/claim/cut.py" 342, .int 34 0, .int 2 0, .int 0 0, .int 0 0, .int 3 0, .ref 128, .bool true, .int 181 0, .ref 129, .none, .ref 130, .ref 131, .ref 132, .int 345 0, .int 34 0, sV "/claim/cut.py" 346]),
  (134, fO (stOf 15) "read_fixed64" "raftkeep.octets" 312 133),
  (140, cO [sV "rising" 354, sV "rising" 355, sV "/claim/cut.py" 356, .int 41 0, .int 1 0, .int 0 0, .int 0 0, .int 3 0, .ref 135, .bool true, .int 181 0, .ref 136, .none, .ref 137, .ref 138, .ref 139, .int 360 0, .int 41 0, sV "/claim/cut.py" 361]),
  (141, fO (stOf 19) "rising" "raftkeep.messages" 348 140),
  (154, cO [sV "__init__" 375, sV "Message.__init__" 376, sV "/claim/cut.py" 377, .int 49 0, .int 5 0, .int 0 0, .int 0 0, .int 3 0, .ref 149, .bool true, .int 181 0, .ref 150, .none, .ref 151, .ref 152, .ref 153, .int 383 0, .int 49 0, sV "/claim/cut.py" 384]),
  (155, fO (stIn 20 0) "Message.__init__" "raftkeep.messages" 348 154),
  (159, cO [sV "row" 386, sV "Message.row" 387, sV "/claim/cut.py" 388, .int 63 0, .int 1 0, .int 0 0, .int 0 0, .int 3 0, .ref 156, .bool true, .int 181 0, .ref 157, .none, .none, .none, .ref 158, .int 389 0, .int 63 0, sV "/claim/cut.py" 390]),
  (160, fO (stIn 20 1) "Message.row" "raftkeep.messages" 348 159),
  (169, dO (.type "dict") [kE P "__module__" 370 (sV "raftkeep.messages" 348), kE P "__firstlineno__" 374 (.int 47 373), kE P "__init__" 385 (.ref 155), kE P "row" 391 (.ref 160), kE P "copy" 398 (.ref 167), kE P "__static_attributes__" 411 (.ref 168), kE P "__dict__" 413 (.ref 171), kE P "__weakref__" 415 (.ref 172), kE P "__doc__" 416 (.none)] 4),
  (170, { cls := .type "type", data := Data.cls { name := Str.ofString "Message", bases := [.type "object"], mro := [.ref 170, .type "object"], ns := 169, qualname := Str.ofString "Message" }, slots := #[none, none, some (sV "Message" 363), some (sV "Message" 371), some (.builtin "object.__new__"), some (.bool true)] }),
  (180, cO [sV "majority_vote" 427, sV "majority_vote" 428, sV "/claim/cut.py" 429, .int 76 0, .int 2 0, .int 0 0, .int 0 0, .int 3 0, .ref 175, .bool true, .int 181 0, .ref 176, .none, .ref 177, .ref 178, .ref 179, .int 436 0, .int 76 0, sV "/claim/cut.py" 437]),
  (181, fO (stOf 25) "majority_vote" "raftkeep.quorum" 419 180),
  (187, cO [sV "joint_vote" 439, sV "joint_vote" 440, sV "/claim/cut.py" 441, .int 92 0, .int 3 0, .int 0 0, .int 0 0, .int 3 0, .ref 182, .bool true, .int 181 0, .ref 183, .none, .ref 184, .ref 185, .ref 186, .int 447 0, .int 92 0, sV "/claim/cut.py" 448]),
  (188, fO (stOf 26) "joint_vote" "raftkeep.quorum" 419 187),
  (201, cO [sV "__init__" 462, sV "Config.__init__" 463, sV "/claim/cut.py" 464, .int 102 0, .int 6 0, .int 0 0, .int 0 0, .int 3 0, .ref 196, .bool true, .int 181 0, .ref 197, .none, .ref 198, .ref 199, .ref 200, .int 471 0, .int 102 0, sV "/claim/cut.py" 472]),
  (202, fO (stIn 27 0) "Config.__init__" "raftkeep.quorum" 419 201),
  (250, cO [sV "vote" 517, sV "Config.vote" 518, sV "/claim/cut.py" 519, .int 127 0, .int 2 0, .int 0 0, .int 0 0, .int 3 0, .ref 245, .bool true, .int 181 0, .ref 246, .none, .ref 247, .ref 248, .ref 249, .int 522 0, .int 127 0, sV "/claim/cut.py" 523]),
  (251, fO (stIn 27 7) "Config.vote" "raftkeep.quorum" 419 250),
  (267, dO (.type "dict") [kE P "__module__" 457 (sV "raftkeep.quorum" 419), kE P "__firstlineno__" 461 (.int 100 460), kE P "__init__" 473 (.ref 202), kE P "row" 480 (.ref 209), kE P "copy" 487 (.ref 216), kE P "joint" 494 (.ref 223), kE P "all_voters" 501 (.ref 230), kE P "members" 508 (.ref 237), kE P "committed" 516 (.ref 244), kE P "vote" 524 (.ref 251), kE P "conf_state" 531 (.ref 258), kE P "check" 539 (.ref 265), kE P "__static_attributes__" 545 (.ref 266), kE P "__dict__" 547 (.ref 269), kE P "__weakref__" 549 (.ref 270), kE P "__doc__" 550 (.none)] 4),
  (268, { cls := .type "type", data := Data.cls { name := Str.ofString "Config", bases := [.type "object"], mro := [.ref 268, .type "object"], ns := 267, qualname := Str.ofString "Config" }, slots := #[none, none, some (sV "Config" 450), some (sV "Config" 458), some (.builtin "object.__new__"), some (.bool true)] }),
  (278, cO [sV "read_context" 559, sV "read_context" 560, sV "/claim/cut.py" 561, .int 154 0, .int 1 0, .int 0 0, .int 0 0, .int 3 0, .ref 273, .bool true, .int 181 0, .ref 274, .none, .ref 275, .ref 276, .ref 277, .int 563 0, .int 154 0, sV "/claim/cut.py" 564]),
  (279, fO (stOf 31) "read_context" "raftkeep.tracker" 553 278),
  (292, cO [sV "__init__" 578, sV "ReadStatus.__init__" 579, sV "/claim/cut.py" 580, .int 160 0, .int 3 0, .int 0 0, .int 0 0, .int 3 0, .ref 287, .bool true, .int 181 0, .ref 288, .none, .ref 289, .ref 290, .ref 291, .int 584 0, .int 160 0, sV "/claim/cut.py" 585]),
  (293, fO (stIn 32 0) "ReadStatus.__init__" "raftkeep.tracker" 553 292),
  (295, dO (.type "dict") [kE P "__module__" 573 (sV "raftkeep.tracker" 553), kE P "__firstlineno__" 577 (.int 158 576), kE P "__init__" 586 (.ref 293), kE P "__static_attributes__" 590 (.ref 294), kE P "__dict__" 592 (.ref 297), kE P "__weakref__" 594 (.ref 298), kE P "__doc__" 595 (.none)] 4),
  (296, { cls := .type "type", data := Data.cls { name := Str.ofString "ReadStatus", bases := [.type "object"], mro := [.ref 296, .type "object"], ns := 295, qualname := Str.ofString "ReadStatus" }, slots := #[none, none, some (sV "ReadStatus" 566), some (sV "ReadStatus" 574), some (.builtin "object.__new__"), some (.bool true)] }),
  (313, cO [sV "__init__" 610, sV "Lease.__init__" 611, sV "/claim/cut.py" 612, .int 166 0, .int 2 0, .int 0 0, .int 0 0, .int 3 0, .ref 308, .bool true, .int 181 0, .ref 309, .none, .ref 310, .ref 311, .ref 312, .int 615 0, .int 166 0, sV "/claim/cut.py" 616]),
  (314, fO (stIn 33 0) "Lease.__init__" "raftkeep.tracker" 553 313),
  (320, cO [sV "tick" 618, sV "Lease.tick" 619, sV "/claim/cut.py" 620, .int 172 0, .int 1 0, .int 0 0, .int 0 0, .int 3 0, .ref 315, .bool true, .int 181 0, .ref 316, .none, .ref 317, .ref 318, .ref 319, .int 622 0, .int 172 0, sV "/claim/cut.py" 623]),
  (321, fO (stIn 33 1) "Lease.tick" "raftkeep.tracker" 553 320),
  (327, cO [sV "stamp" 625, sV "Lease.stamp" 626, sV "/claim/cut.py" 627, .int 175 0, .int 1 0, .int 0 0, .int 0 0, .int 3 0, .ref 322, .bool true, .int 181 0, .ref 323, .none, .ref 324, .ref 325, .ref 326, .int 629 0, .int 175 0, sV "/claim/cut.py" 630]),
  (328, fO (stIn 33 2) "Lease.stamp" "raftkeep.tracker" 553 327),
  (334, cO [sV "hear" 632, sV "Lease.hear" 633, sV "/claim/cut.py" 634, .int 178 0, .int 3 0, .int 0 0, .int 0 0, .int 3 0, .ref 329, .bool true, .int 181 0, .ref 330, .none, .ref 331, .ref 332, .ref 333, .int 639 0, .int 178 0, sV "/claim/cut.py" 640]),
  (335, fO (stIn 33 3) "Lease.hear" "raftkeep.tracker" 553 334),
  (348, cO [sV "holds" 649, sV "Lease.holds" 650, sV "/claim/cut.py" 651, .int 189 0, .int 3 0, .int 0 0, .int 0 0, .int 3 0, .ref 343, .bool true, .int 181 0, .ref 344, .none, .ref 345, .ref 346, .ref 347, .int 657 0, .int 189 0, sV "/claim/cut.py" 658]),
  (349, fO (stIn 33 5) "Lease.holds" "raftkeep.tracker" 553 348),
  (351, dO (.type "dict") [kE P "__module__" 605 (sV "raftkeep.tracker" 553), kE P "__firstlineno__" 609 (.int 164 608), kE P "__init__" 617 (.ref 314), kE P "tick" 624 (.ref 321), kE P "stamp" 631 (.ref 328), kE P "hear" 641 (.ref 335), kE P "give_up" 648 (.ref 342), kE P "holds" 659 (.ref 349), kE P "__static_attributes__" 664 (.ref 350), kE P "__dict__" 666 (.ref 353), kE P "__weakref__" 668 (.ref 354), kE P "__doc__" 669 (.none)] 4),
  (352, { cls := .type "type", data := Data.cls { name := Str.ofString "Lease", bases := [.type "object"], mro := [.ref 352, .type "object"], ns := 351, qualname := Str.ofString "Lease" }, slots := #[none, none, some (sV "Lease" 598), some (sV "Lease" 606), some (.builtin "object.__new__"), some (.bool true)] }),
  (369, cO [sV "__init__" 684, sV "ReadOnly.__init__" 685, sV "/claim/cut.py" 686, .int 197 0, .int 2 0, .int 0 0, .int 0 0, .int 3 0, .ref 364, .bool true, .int 181 0, .ref 365, .none, .ref 366, .ref 367, .ref 368, .int 689 0, .int 197 0, sV "/claim/cut.py" 690]),
  (370, fO (stIn 34 0) "ReadOnly.__init__" "raftkeep.tracker" 553 369),
  (376, cO [sV "add" 692, sV "ReadOnly.add" 693, sV "/claim/cut.py" 694, .int 203 0, .int 3 0, .int 0 0, .int 0 0, .int 3 0, .ref 371, .bool true, .int 181 0, .ref 372, .none, .ref 373, .ref 374, .ref 375, .int 699 0, .int 203 0, sV "/claim/cut.py" 700]),
  (377, fO (stIn 34 1) "ReadOnly.add" "raftkeep.tracker" 553 376),
  (383, cO [sV "ack" 702, sV "ReadOnly.ack" 703, sV "/claim/cut.py" 704, .int 210 0, .int 3 0, .int 0 0, .int 0 0, .int 3 0, .ref 378, .bool true, .int 181 0, .ref 379, .none, .ref 380, .ref 381, .ref 382, .int 709 0, .int 210 0, sV "/claim/cut.py" 710]),
  (384, fO (stIn 34 2) "ReadOnly.ack" "raftkeep.tracker" 553 383),
  (390, cO [sV "advance" 712, sV "ReadOnly.advance" 713, sV "/claim/cut.py" 714, .int 217 0, .int 2 0, .int 0 0, .int 0 0, .int 3 0, .ref 385, .bool true, .int 181 0, .ref 386, .none, .ref 387, .ref 388, .ref 389, .int 722 0, .int 217 0, sV "/claim/cut.py" 723]),
  (391, fO (stIn 34 3) "ReadOnly.advance" "raftkeep.tracker" 553 390),
  (397, cO [sV "last_context" 725, sV "ReadOnly.last_context" 726, sV "/claim/cut.py" 727, .int 232 0, .int 1 0, .int 0 0, .int 0 0, .int 3 0, .ref 392, .bool true, .int 181 0, .ref 393, .none, .ref 394, .ref 395, .ref 396, .int 729 0, .int 232 0, sV "/claim/cut.py" 730]),
  (398, fO (stIn 34 4) "ReadOnly.last_context" "raftkeep.tracker" 553 397),
  (404, cO [sV "row" 732, sV "ReadOnly.row" 733, sV "/claim/cut.py" 734, .int 237 0, .int 1 0, .int 0 0, .int 0 0, .int 3 0, .ref 399, .bool true, .int 181 0, .ref 400, .none, .ref 401, .ref 402, .ref 403, .int 739 0, .int 237 0, sV "/claim/cut.py" 740]),
  (405, fO (stIn 34 5) "ReadOnly.row" "raftkeep.tracker" 553 404),
  (407, dO (.type "dict") [kE P "__module__" 679 (sV "raftkeep.tracker" 553), kE P "__firstlineno__" 683 (.int 195 682), kE P "__init__" 691 (.ref 370), kE P "add" 701 (.ref 377), kE P "ack" 711 (.ref 384), kE P "advance" 724 (.ref 391), kE P "last_context" 731 (.ref 398), kE P "row" 741 (.ref 405), kE P "__static_attributes__" 746 (.ref 406), kE P "__dict__" 748 (.ref 409), kE P "__weakref__" 750 (.ref 410), kE P "__doc__" 751 (.none)] 4),
  (408, { cls := .type "type", data := Data.cls { name := Str.ofString "ReadOnly", bases := [.type "object"], mro := [.ref 408, .type "object"], ns := 407, qualname := Str.ofString "ReadOnly" }, slots := #[none, none, some (sV "ReadOnly" 672), some (sV "ReadOnly" 680), some (.builtin "object.__new__"), some (.bool true)] }),
  (418, cO [sV "_law_draw" 756, sV "_law_draw" 757, sV "/claim/cut.py" 758, .int 244 0, .int 2 0, .int 0 0, .int 0 0, .int 3 0, .ref 413, .bool true, .int 181 0, .ref 414, .none, .ref 415, .ref 416, .ref 417, .int 761 0, .int 244 0, sV "/claim/cut.py" 762]),
  (419, fO (stOf 36) "_law_draw" "law_xw0266_01" 754 418),
  (423, cO [sV "_law_eight" 764, sV "_law_eight" 765, sV "/claim/cut.py" 766, .int 246 0, .int 1 0, .int 0 0, .int 0 0, .int 3 0, .ref 420, .bool true, .int 181 0, .ref 421, .none, .none, .none, .ref 422, .int 767 0, .int 246 0, sV "/claim/cut.py" 768]),
  (424, fO (stOf 37) "_law_eight" "law_xw0266_01" 754 423),
  (428, cO [sV "_law_back" 770, sV "_law_back" 771, sV "/claim/cut.py" 772, .int 248 0, .int 1 0, .int 0 0, .int 0 0, .int 3 0, .ref 425, .bool true, .int 181 0, .ref 426, .none, .none, .none, .ref 427, .int 773 0, .int 248 0, sV "/claim/cut.py" 774]),
  (429, fO (stOf 38) "_law_back" "law_xw0266_01" 754 428),
  (433, cO [sV "_law_ids" 776, sV "_law_ids" 777, sV "/claim/cut.py" 778, .int 250 0, .int 1 0, .int 0 0, .int 0 0, .int 3 0, .ref 430, .bool true, .int 181 0, .ref 431, .none, .none, .none, .ref 432, .int 779 0, .int 250 0, sV "/claim/cut.py" 780]),
  (434, fO (stOf 39) "_law_ids" "law_xw0266_01" 754 433),
  (438, cO [sV "_law_wins" 782, sV "_law_wins" 783, sV "/claim/cut.py" 784, .int 252 0, .int 2 0, .int 0 0, .int 0 0, .int 3 0, .ref 435, .bool true, .int 181 0, .ref 436, .none, .none, .none, .ref 437, .int 785 0, .int 252 0, sV "/claim/cut.py" 786]),
  (439, fO (stOf 40) "_law_wins" "law_xw0266_01" 754 438),
  (443, cO [sV "_law_strange" 788, sV "_law_strange" 789, sV "/claim/cut.py" 790, .int 254 0, .int 4 0, .int 0 0, .int 0 0, .int 3 0, .ref 440, .bool true, .int 181 0, .ref 441, .none, .none, .none, .ref 442, .int 791 0, .int 254 0, sV "/claim/cut.py" 792]),
  (444, fO (stOf 41) "_law_strange" "law_xw0266_01" 754 443),
  (448, cO [sV "_law_near" 794, sV "_law_near" 795, sV "/claim/cut.py" 796, .int 279 0, .int 3 0, .int 0 0, .int 0 0, .int 3 0, .ref 445, .bool true, .int 181 0, .ref 446, .none, .none, .none, .ref 447, .int 797 0, .int 279 0, sV "/claim/cut.py" 798]),
  (449, fO (stOf 42) "_law_near" "law_xw0266_01" 754 448),
  (453, cO [sV "law" 800, sV "law" 801, sV "/claim/cut.py" 802, .int 281 0, .int 1 0, .int 0 0, .int 0 0, .int 3 0, .ref 450, .bool true, .int 181 0, .ref 451, .none, .none, .none, .ref 452, .int 803 0, .int 281 0, sV "/claim/cut.py" 804]),
  (454, fO (stOf 43) "law" "law_xw0266_01" 754 453)]
noncomputable def heapA : List Addr := [3, 112, 113, 119, 120, 126, 127, 133, 134, 140, 141, 154, 155, 159, 160, 169, 170, 180, 181, 187, 188, 201, 202, 250, 251, 267, 268, 278, 279, 292, 293, 295, 296, 313, 314, 320, 321, 327, 328, 334, 335, 348, 349, 351, 352, 369, 370, 376, 377, 383, 384, 390, 391, 397, 398, 404, 405, 407, 408, 418, 419, 423, 424, 428, 429, 433, 434, 438, 439, 443, 444, 448, 449, 453, 454]
theorem op : opening pw = plainProg pw.main.scope.names := by with_unfolding_all rfl
theorem fe : ∀ s, fenceModules? pw s = some s := fun s => by with_unfolding_all rfl
theorem h00 : ∀ P : Params, ((boot_heap P).isNs mainGlobals && (#[] : Array GenState).size == 0) = true := fun P => by kernel_rfl
noncomputable def Q : Program := view pw [43]
noncomputable def Lo : List Str := ([("_wall" : Str), "KeepError", "StoreError", "Corrupt", "ShortOctets", "BadOption", "RaftError", "LogPanic", "MAX_32", "MAX_64", "put_fixed32", "put_fixed64", "read_fixed32", "read_fixed64", "NONE", "MSG_READ_INDEX", "rising", "Message", "VOTE_PENDING", "VOTE_LOST", "VOTE_WON"] : List Str) ++ ([("majority_vote" : Str), "joint_vote", "Config", "SAFE", "LEASE", "read_context", "ReadStatus", "Lease", "ReadOnly", "_law_draw", "_law_eight", "_law_back", "_law_ids", "_law_wins", "_law_strange", "_law_near"] : List Str)
abbrev rW := (OpenLaw.row PySem.Challenge.rw_xw0266_01).toRowW
noncomputable def Hk : Hook := kHook heapK heapA (fun _ => by kernel_rfl)
theorem main_ : ∀ w : World, (fun os : OsState => (runT treeTable pw w (boot_heap w.params).objs.size ((boot_heap w.params).nsMap mainGlobals "__annotations__") 8084 (S0 w.params os) (topStub pw)).map
      (fun s => (staticsOk (importedModules pw.main.body) (boot_heap w.params) s.abs.heap && namesBound pw s.abs.heap && gensDone s.abs && laidKept (boot_heap w.params) s.abs.heap,
        (openSeen Q Lo (importedModules pw.main.body) (fun s => xlAt Q [] s && recOk (RowW.records rW) s) true s.abs, Hk.obs s.abs)))) = fun _ => some (true, (openGood Q Lo, Hk.val w)) := fun w => by kernel_rfl
theorem left : LeftO pw Q Lo (fun s => xlAt Q [] s && recOk (RowW.records rW) s) (Hook.obs Hk) (Hook.val Hk) 8084 :=
  openEnds_map op rfl fe fun w => funext fun os => topFrom_map (h00 _) (congrFun (main_ w) os)

/-- values without their tokens -/
inductive MV where
  | none
  | bool (b : Bool)
  | int (i : Int)
  | bytes (b : List UInt8)
  | ref (a : Addr)
  | val (v : Value)

noncomputable def MV.Is : MV → Value → Prop
  | .none, v => v = .none
  | .bool b, v => v = .bool b
  | .int i, v => ∃ t, v = .int i t
  | .bytes b, v => ∃ t, v = .bytes b.toArray t
  | .ref a, v => v = .ref a
  | .val x, v => v = x

inductive All2 {α β : Type} (R : α → β → Prop) : List α → List β → Prop
  | nil : All2 R [] []
  | cons {a b l r} : R a b → All2 R l r → All2 R (a :: l) (b :: r)

namespace All2
variable {α β : Type} {R : α → β → Prop}
theorem length {l : List α} {r : List β} (h : All2 R l r) : l.length = r.length := by
  induction h with
  | nil => rfl
  | cons _ _ ih => simp [ih]
theorem append {l₁ l₂ : List α} {r₁ r₂ : List β} (h : All2 R l₁ r₁) (k : All2 R l₂ r₂) : All2 R (l₁ ++ l₂) (r₁ ++ r₂) := by
  induction h with
  | nil => exact k
  | cons a _ ih => exact .cons a ih
theorem get {l : List α} {r : List β} (h : All2 R l r) : ∀ {i : Nat} {a : α}, l[i]? = some a → ∃ b, r[i]? = some b ∧ R a b := by
  induction h with
  | nil => intro i a e; simp at e
  | cons x _ ih =>
    intro i a e
    cases i with
    | zero => simp at e; subst e; exact ⟨_, rfl, x⟩
    | succ i => simp at e; obtain ⟨b, hb, r⟩ := ih e; exact ⟨b, by simpa using hb, r⟩
theorem get' {l : List α} {r : List β} (h : All2 R l r) : ∀ {i : Nat} {b : β}, r[i]? = some b → ∃ a, l[i]? = some a ∧ R a b := by
  induction h with
  | nil => intro i a e; simp at e
  | cons x _ ih =>
    intro i a e
    cases i with
    | zero => simp at e; subst e; exact ⟨_, rfl, x⟩
    | succ i => simp at e; obtain ⟨b, hb, r⟩ := ih e; exact ⟨b, by simpa using hb, r⟩
theorem take {l : List α} {r : List β} (h : All2 R l r) : ∀ n, All2 R (l.take n) (r.take n) := by
  induction h with
  | nil => intro n; simp; exact .nil
  | cons x _ ih =>
    intro n
    cases n with
    | zero => exact .nil
    | succ n => exact .cons x (ih n)
theorem drop {l : List α} {r : List β} (h : All2 R l r) : ∀ n, All2 R (l.drop n) (r.drop n) := by
  induction h with
  | nil => intro n; simp; exact .nil
  | cons x t ih =>
    intro n
    cases n with
    | zero => exact .cons x t
    | succ n => exact ih n
theorem set {l : List α} {r : List β} (h : All2 R l r) {a : α} {b : β} (hab : R a b) : ∀ n, All2 R (l.set n a) (r.set n b) := by
  induction h with
  | nil => intro n; simp; exact .nil
  | cons x t ih =>
    intro n
    cases n with
    | zero => exact .cons hab t
    | succ n => exact .cons x (ih n)
theorem mono {R' : α → β → Prop} {l : List α} {r : List β} (h : All2 R l r) (k : ∀ a b, R a b → R' a b) : All2 R' l r := by
  induction h with
  | nil => exact .nil
  | cons x _ ih => exact .cons (k _ _ x) ih
theorem one {a : α} {b : β} (h : R a b) : All2 R [a] [b] := .cons h .nil
theorem replicate {a : α} {b : β} (h : R a b) : ∀ n, All2 R (List.replicate n a) (List.replicate n b)
  | 0 => .nil
  | n + 1 => .cons h (replicate h n)
theorem map_left {γ : Type} {f : γ → α} {l : List γ} {r : List β} (h : All2 (fun c b => R (f c) b) l r) : All2 R (l.map f) r := by
  induction h with
  | nil => exact .nil
  | cons x _ ih => exact .cons x ih
theorem of_map_left {γ : Type} {f : γ → α} {l : List γ} {r : List β} (h : All2 R (l.map f) r) : All2 (fun c b => R (f c) b) l r := by
  induction l generalizing r with
  | nil => cases h; exact .nil
  | cons x l ih => cases h with | cons a b => exact .cons a (ih b)
end All2

/-- an int list's values -/
theorem ints_of {ns : List Int} {vs : List Value} (h : All2 MV.Is (ns.map MV.int) vs) : IntsAre vs ns := by
  induction ns generalizing vs with
  | nil => cases h; exact .nil
  | cons n r ih =>
    cases h with
    | cons a b => obtain ⟨t, rfl⟩ := a; exact .cons _ _ (ih b)
theorem of_ints {ns : List Int} {vs : List Value} (h : IntsAre vs ns) : All2 MV.Is (ns.map MV.int) vs := by
  induction h with
  | nil => exact .nil
  | cons _ _ _ ih => exact .cons ⟨_, rfl⟩ ih

/-- objects without tokens and counters -/
inductive MO where
  | lst (xs : List MV)
  | lsi (xs : List MV)
  | tup (xs : List MV)
  | dici (es : List (Int × MV))
  | dicb (es : List (List UInt8 × MV))
  | ins (C d : Addr)
  | ns (fs : List (Str × MV))
  | rng (a b : Int)
  | raw (o : Obj)

noncomputable abbrev Os := List (Addr × MO)
noncomputable abbrev Lm := List (Str × MV)
structure St where
  lm : Lm
  os : Os

structure G where
  prog : Program
  w : World
  K : Frag
  h₀ : Heap
  p : Program
  loose : List Str
  mg : Str → Option Value
  mb : Str → Option Value
  core : Shared
  X : K.In h₀
  lim : h₀.NoLimit
  T : TopRead p loose mg mb h₀
  sm : sysModules < h₀.objs.size

structure NsEs (fs : List (Str × MV)) (es : List DictEntry) : Prop where
  len : es.length ≤ fs.length
  keys : ∀ e ∈ es, ∃ x t, e.key = .str x t
  have_ : ∀ x mv, (x, mv) ∈ fs → ∃ v, getL x es = some (some v) ∧ mv.Is v
  lack : ∀ x, x ∉ fs.map (·.1) → getL x es = some none
  nd : (fs.map (·.1)).Nodup
noncomputable def NsObj (fs : List (Str × MV)) (o : Obj) : Prop := ∃ es n, o = dictOf es n ∧ NsEs fs es

noncomputable def At (g : G) (h : Heap) (a : Addr) : MO → Prop
  | .lst xs => ∃ vs, h.PlainList a vs.toArray ∧ All2 MV.Is xs vs
  | .lsi xs => ∃ vs, h.IsList a vs.toArray ∧ All2 MV.Is xs vs
  | .tup xs => ∃ vs, h.get? a = some { cls := .type "tuple", data := .seq vs.toArray } ∧ All2 MV.Is xs vs
  | .dici es => ∃ kvs, h.DictOf (intKind g.prog g.w) a kvs ∧ All2 (fun (e : Int × MV) (p : Int × Value) => e.1 = p.1 ∧ e.2.Is p.2) es kvs
  | .dicb es => ∃ kvs, h.DictOf (bytesKind g.prog g.w) a kvs ∧ All2 (fun (e : List UInt8 × MV) (p : List UInt8 × Value) => e.1 = p.1 ∧ e.2.Is p.2) es kvs
  | .ins C d => h.get? a = some (instObj C d)
  | .ns fs => ∃ o, h.get? a = some o ∧ NsObj fs o
  | .rng b c => ∃ t u v, IsRange h a b c 1 t u v
  | .raw o => h.get? a = some o

theorem At.has {g : G} {h : Heap} {a : Addr} {mo : MO} (x : At g h a mo) : ∃ o, h.get? a = some o := by
  cases mo with
  | lst => obtain ⟨_, ⟨_, h⟩, _⟩ := x; exact ⟨_, h⟩
  | lsi => obtain ⟨_, ⟨_, h, _⟩, _⟩ := x; exact ⟨_, h⟩
  | tup => obtain ⟨_, h, _⟩ := x; exact ⟨_, h⟩
  | dici => obtain ⟨_, ⟨_, _, _, h, _⟩, _⟩ := x; exact ⟨_, h⟩
  | dicb => obtain ⟨_, ⟨_, _, _, h, _⟩, _⟩ := x; exact ⟨_, h⟩
  | ins => exact ⟨_, x⟩
  | ns => obtain ⟨o, h, _⟩ := x; exact ⟨o, h⟩
  | rng => obtain ⟨_, _, _, x⟩ := x; exact ⟨_, x⟩
  | raw => exact ⟨_, x⟩
theorem At.keep {g : G} {h h' : Heap} {a : Addr} {mo : MO} (x : At g h a mo) (k : ∀ o, h.get? a = some o → h'.get? a = some o) : At g h' a mo := by
  cases mo with
  | lst => obtain ⟨vs, ⟨n, e⟩, r⟩ := x; exact ⟨vs, ⟨n, k _ e⟩, r⟩
  | lsi => obtain ⟨vs, ⟨n, e, q⟩, r⟩ := x; exact ⟨vs, ⟨n, k _ e, q⟩, r⟩
  | tup => obtain ⟨vs, e, r⟩ := x; exact ⟨vs, k _ e, r⟩
  | dici => obtain ⟨kvs, ⟨o, es, ep, e, r⟩, q⟩ := x; exact ⟨kvs, ⟨o, es, ep, k _ e, r⟩, q⟩
  | dicb => obtain ⟨kvs, ⟨o, es, ep, e, r⟩, q⟩ := x; exact ⟨kvs, ⟨o, es, ep, k _ e, r⟩, q⟩
  | ins => exact k _ x
  | ns => obtain ⟨o, e, r⟩ := x; exact ⟨o, k _ e, r⟩
  | rng => obtain ⟨t, u, v, e⟩ := x; exact ⟨t, u, v, k _ e⟩
  | raw => exact k _ x

structure Cx (g : G) where
  A : Around
  env : Env
  cls : List (Str × Addr)
  fro : Os
  hh : A.handled = none
  kind : env.scope.kind = .function
  glob : env.globals = mainGlobals
  bui : env.builtins = builtinsNs
  sub : ∀ x c, env.cells.lookup x = some c → (x, c) ∈ cls

noncomputable def Cx.addrs {g : G} (X : Cx g) (os : Os) : List Addr := X.env.locals :: (X.cls.map (·.2) ++ (os ++ X.fro).map (·.1))

structure Bound {g : G} (X : Cx g) (m : Str → Option Value) (h : Heap) (x : Str) (mv : MV) : Prop where
  dbg : (x == ("__debug__" : Str)) = false
  way : (X.env.kindOf x = some .local ∧ ∃ v, m x = some v ∧ mv.Is v) ∨
    (X.env.kindOf x = some .cell ∧ ∃ c v, X.env.cells.lookup x = some c ∧ h.IsCell c (some v) ∧ mv.Is v)

structure Rep {g : G} (X : Cx g) (σ : St) (s : Shared) : Prop where
  core : s.gens = g.core.gens ∧ s.drawn = g.core.drawn ∧ s.os = g.core.os
  keep : ∀ b o, g.h₀.get? b = some o → s.heap.get? b = some o
  ns : ∃ m, s.heap.Ns X.env.locals m ∧ ∀ x mv, (x, mv) ∈ σ.lm → Bound X m s.heap x mv
  cl : ∀ p ∈ X.cls, ∃ v?, s.heap.IsCell p.2 v?
  os : ∀ p ∈ σ.os ++ X.fro, At g s.heap p.1 p.2
  nd : (X.addrs σ.os).Nodup
  new : ∀ a ∈ X.addrs σ.os, g.h₀.objs.size ≤ a
  lm : (σ.lm.map (·.1)).Nodup

noncomputable def Tri {g : G} {α : Type} (X : Cx g) (t : Sem α) (σ : St) (Q : α → St → Prop) : Prop :=
  ∀ s, Rep X σ s → wpAny (model g.prog g.w) X.A t (fun a s' => ∃ σ', Rep X σ' s' ∧ Q a σ') (fun _ _ => False) s

section
variable {g : G} {X : Cx g} {σ : St} {s : Shared}

theorem Rep.has (R : Rep X σ s) : ∀ a ∈ X.addrs σ.os, ∃ o, s.heap.get? a = some o := by
  intro a ha
  rcases List.mem_cons.mp ha with rfl | ha
  · obtain ⟨m, ⟨o, _, _, ho, _⟩, _⟩ := R.ns; exact ⟨o, ho⟩
  · rcases List.mem_append.mp ha with ha | ha
    · obtain ⟨p, hp, rfl⟩ := List.mem_map.mp ha
      obtain ⟨v, o, ho, _⟩ := R.cl p hp
      exact ⟨o, ho⟩
    · obtain ⟨p, hp, rfl⟩ := List.mem_map.mp ha
      exact (R.os p hp).has
theorem Rep.lt (R : Rep X σ s) : ∀ a ∈ X.addrs σ.os, a < s.heap.objs.size := fun a ha => let ⟨_, h⟩ := R.has a ha; Heap.lt_size h
theorem Rep.free (R : Rep X σ s) : ∀ a ∈ X.addrs σ.os, g.h₀.get? a = none := fun a ha => by
  cases e : g.h₀.get? a with
  | none => rfl
  | some o => exact absurd (Heap.lt_size e) (Nat.not_lt.mpr (R.new a ha))
theorem Rep.inK (R : Rep X σ s) : g.K.In s.heap := fun a o e => R.keep a o (g.X a o e)
theorem Rep.size (R : Rep X σ s) : g.h₀.objs.size ≤ s.heap.objs.size := Nat.le_trans (R.new _ (.head _)) (Nat.le_of_lt (R.lt _ (.head _)))

theorem Bound.keep {m : Str → Option Value} {h h' : Heap} {x : Str} {mv : MV} (b : Bound X m h x mv) (k : ∀ p ∈ X.cls, ∀ o, h.get? p.2 = some o → h'.get? p.2 = some o) : Bound X m h' x mv := by
  refine ⟨b.dbg, b.way.imp id ?_⟩
  rintro ⟨hk, c, v, hc, ⟨o, ho, r⟩, hi⟩
  exact ⟨hk, c, v, hc, ⟨o, k _ (X.sub _ _ hc) o ho, r⟩, hi⟩

/-- everything that the state speaks of is kept -/
theorem Rep.grow (R : Rep X σ s) {h' : Heap} {tk : Nat} (k : ∀ b o, s.heap.get? b = some o → h'.get? b = some o) : Rep X σ { s with heap := h', toks := tk } where
  core := R.core
  keep := fun b o e => k b o (R.keep b o e)
  ns := by
    obtain ⟨m, hn, hb⟩ := R.ns
    exact ⟨m, hn.keeps k, fun x mv hx => (hb x mv hx).keep fun p _ o e => k _ o e⟩
  cl := fun p hp => by obtain ⟨v, o, ho, r⟩ := R.cl p hp; exact ⟨v, o, k _ _ ho, r⟩
  os := fun p hp => (R.os p hp).keep fun o e => k _ o e
  nd := R.nd
  new := R.new
  lm := R.lm
theorem Rep.toks (R : Rep X σ s) (tk : Nat) : Rep X σ { s with toks := tk } := R.grow (fun _ _ e => e)

/-- a new object -/
theorem Rep.add (R : Rep X σ s) {h' : Heap} {tk : Nat} {a : Addr} {mo : MO} (k : ∀ b o, s.heap.get? b = some o → h'.get? b = some o) (ha : s.heap.objs.size ≤ a) (x : At g h' a mo) :
    Rep X ⟨σ.lm, (a, mo) :: σ.os⟩ { s with heap := h', toks := tk } := by
  have R' := R.grow (tk := tk) k
  have na : a ∉ X.addrs σ.os := fun h => absurd (R.lt a h) (Nat.not_lt.mpr ha)
  have hp : (X.addrs ((a, mo) :: σ.os)).Perm (a :: X.addrs σ.os) := by
    unfold Cx.addrs
    rw [List.cons_append, List.map_cons]
    exact (List.Perm.cons _ List.perm_middle).trans (List.Perm.swap _ _ _)
  refine ⟨R'.core, R'.keep, R'.ns, R'.cl, ?_, ?_, ?_, R.lm⟩
  · intro p h
    rcases List.mem_cons.mp (show p ∈ (a, mo) :: (σ.os ++ X.fro) from h) with rfl | h
    · exact x
    · exact R'.os p h
  · exact hp.nodup_iff.mpr (List.nodup_cons.mpr ⟨na, R.nd⟩)
  · intro b hb
    rcases List.mem_cons.mp (hp.mem_iff.mp hb) with rfl | hb
    · exact Nat.le_trans R.size ha
    · exact R.new b hb

theorem Rep.push (R : Rep X σ s) {o : Obj} {mo : MO} (hf : o.isFreed = false) (x : ∀ h : Heap, h.get? s.heap.objs.size = some o → At g h s.heap.objs.size mo) :
    Rep X ⟨σ.lm, (s.heap.objs.size, mo) :: σ.os⟩ { s with heap := s.heap.push o } :=
  R.add (tk := s.toks) (fun b o' e => Heap.get?_push_of_some o e) (Nat.le_refl _) (x _ (Heap.get?_push_size _ hf))
theorem Rep.pushed (R : Rep X σ s) (o : Obj) : Rep X σ { s with heap := s.heap.push o } := R.grow (tk := s.toks) fun _ _ e => Heap.get?_push_of_some o e

inductive Put (a : Addr) (mo' : MO) : Os → Os → Prop
  | head {mo r} : Put a mo' ((a, mo) :: r) ((a, mo') :: r)
  | tail {p r r'} : Put a mo' r r' → Put a mo' (p :: r) (p :: r')
theorem Put.map {a : Addr} {mo' : MO} {os os' : Os} (u : Put a mo' os os') : os'.map (·.1) = os.map (·.1) := by
  induction u with
  | head => rfl
  | tail _ ih => simp [ih]
theorem Put.mem {a : Addr} {mo' : MO} {os os' : Os} (u : Put a mo' os os') : a ∈ os.map (·.1) := by
  induction u with
  | head => simp
  | tail _ ih => simp [ih]
theorem Put.app {a : Addr} {mo' : MO} {os os' : Os} (u : Put a mo' os os') (l : Os) : Put a mo' (os ++ l) (os' ++ l) := by
  induction u with
  | head => exact .head
  | tail _ ih => exact .tail ih
theorem Put.cases {a : Addr} {mo' : MO} {os os' : Os} (u : Put a mo' os os') : (os.map (·.1)).Nodup → ∀ p ∈ os', p = (a, mo') ∨ (p ∈ os ∧ p.1 ≠ a) := by
  induction u with
  | head =>
    intro nd p hp
    rw [List.map_cons, List.nodup_cons] at nd
    rcases List.mem_cons.mp hp with rfl | hp
    · exact .inl rfl
    · exact .inr ⟨.tail _ hp, fun e => nd.1 (List.mem_map.mpr ⟨p, hp, e⟩)⟩
  | tail u ih =>
    intro nd p hp
    rw [List.map_cons, List.nodup_cons] at nd
    rcases List.mem_cons.mp hp with rfl | hp
    · exact .inr ⟨.head _, fun e => nd.1 (e ▸ u.mem)⟩
    · exact (ih nd.2 p hp).imp id fun ⟨x, y⟩ => ⟨.tail _ x, y⟩

theorem Rep.all_nd (R : Rep X σ s) : ((σ.os ++ X.fro).map (·.1)).Nodup := (List.nodup_append.mp (List.nodup_cons.mp R.nd).2).2.1
theorem Rep.os_nd (R : Rep X σ s) : (σ.os.map (·.1)).Nodup := by have h := R.all_nd; rw [List.map_append] at h; exact (List.nodup_append.mp h).1
theorem mem_app {os l : Os} {a : Addr} (ha : a ∈ os.map (·.1)) : a ∈ (os ++ l).map (·.1) := by rw [List.map_append]; exact List.mem_append_left _ ha
theorem Rep.off (R : Rep X σ s) {a : Addr} (ha : a ∈ (σ.os ++ X.fro).map (·.1)) : a ≠ X.env.locals ∧ ∀ p ∈ X.cls, p.2 ≠ a := by
  have h1 := List.nodup_cons.mp R.nd
  refine ⟨fun e => h1.1 (e ▸ List.mem_append_right _ ha), fun p hp e => ?_⟩
  exact (List.nodup_append.mp h1.2).2.2 p.2 (List.mem_map_of_mem hp) a ha e

/-- an object changed -/
theorem Rep.put (R : Rep X σ s) {h' : Heap} {tk : Nat} {a : Addr} {mo' : MO} {os' : Os} (u : Put a mo' σ.os os') (hs : Heap.SameBut a s.heap h') (x : At g h' a mo') :
    Rep X ⟨σ.lm, os'⟩ { s with heap := h', toks := tk } := by
  have ha := (u.app X.fro).mem
  have off := R.off ha
  have an : g.h₀.get? a = Option.none := R.free a (List.mem_cons_of_mem _ (List.mem_append_right _ ha))
  have kp : ∀ b o, b ≠ a → s.heap.get? b = some o → h'.get? b = some o := fun b o hb e => (hs.2 b hb).trans e
  refine ⟨R.core, fun b o e => kp b o (fun z => by rw [z, an] at e; cases e) (R.keep b o e), ?_, ?_, ?_, ?_, ?_, R.lm⟩
  · obtain ⟨m, hn, hb⟩ := R.ns
    exact ⟨m, hn.at' fun o e => kp _ o (Ne.symm off.1) e, fun y mv hy => (hb y mv hy).keep fun p hp o e => kp _ o (off.2 p hp) e⟩
  · intro p hp
    obtain ⟨v, o, ho, r⟩ := R.cl p hp
    exact ⟨v, o, kp _ o (off.2 p hp) ho, r⟩
  · intro p hp
    rcases (u.app X.fro).cases R.all_nd p hp with rfl | ⟨h1, h2⟩
    · exact x
    · exact (R.os p h1).keep fun o e => kp _ o h2 e
  · show (X.addrs os').Nodup
    unfold Cx.addrs; rw [(u.app X.fro).map]; exact R.nd
  · show ∀ b ∈ X.addrs os', _
    unfold Cx.addrs; rw [(u.app X.fro).map]; exact R.new

/-- less is known, or in another order -/
theorem Rep.weakAll {X' : Cx g} (R : Rep X σ s) {σ' : St} (hA : X'.env = X.env) (hc : X'.cls = X.cls) (h1 : ∀ p ∈ σ'.lm, p ∈ σ.lm) (h1n : (σ'.lm.map (·.1)).Nodup) (h2 : ∀ p ∈ σ'.os ++ X'.fro, p ∈ σ.os ++ X.fro) (h2n : ((σ'.os ++ X'.fro).map (·.1)).Nodup) : Rep X' σ' s := by
  refine ⟨R.core, R.keep, ?_, by rw [hc]; exact R.cl, fun p hp => R.os p (h2 p hp), ?_, ?_, h1n⟩
  · obtain ⟨m, hn, hb⟩ := R.ns
    refine ⟨m, by rw [hA]; exact hn, fun x mv hx => ?_⟩
    have b := hb x mv (h1 _ hx)
    exact ⟨b.dbg, by rw [hA]; exact b.way⟩
  · have h := List.nodup_cons.mp R.nd
    have h' := List.nodup_append.mp h.2
    have sub : ∀ a ∈ (σ'.os ++ X'.fro).map (·.1), a ∈ (σ.os ++ X.fro).map (·.1) := fun a ha => by
      obtain ⟨p, hp, rfl⟩ := List.mem_map.mp ha
      exact List.mem_map_of_mem (h2 p hp)
    show (X'.env.locals :: (X'.cls.map (·.2) ++ (σ'.os ++ X'.fro).map (·.1))).Nodup
    rw [hA, hc]
    refine List.nodup_cons.mpr ⟨fun hm => h.1 ?_, List.nodup_append.mpr ⟨h'.1, h2n, fun a ha b hb => h'.2.2 a ha b (sub b hb)⟩⟩
    rcases List.mem_append.mp hm with hm | hm
    · exact List.mem_append_left _ hm
    · exact List.mem_append_right _ (sub _ hm)
  · intro a ha
    have ha : a ∈ X.env.locals :: (X.cls.map (·.2) ++ (σ'.os ++ X'.fro).map (·.1)) := by rw [← hA, ← hc]; exact ha
    refine R.new a ?_
    rcases List.mem_cons.mp ha with rfl | ha
    · exact .head _
    · refine List.mem_cons_of_mem _ ?_
      rcases List.mem_append.mp ha with ha | ha
      · exact List.mem_append_left _ ha
      · obtain ⟨p, hp, rfl⟩ := List.mem_map.mp ha
        exact List.mem_append_right _ (List.mem_map_of_mem (h2 p hp))
theorem Rep.weak (R : Rep X σ s) {σ' : St} (h1 : ∀ p ∈ σ'.lm, p ∈ σ.lm) (h1n : (σ'.lm.map (·.1)).Nodup) (h2 : ∀ p ∈ σ'.os, p ∈ σ.os) (h2n : (σ'.os.map (·.1)).Nodup) : Rep X σ' s := by
  refine R.weakAll rfl rfl h1 h1n (fun p hp => ?_) ?_
  · rcases List.mem_append.mp hp with hp | hp
    · exact List.mem_append_left _ (h2 p hp)
    · exact List.mem_append_right _ hp
  · have h := R.all_nd
    rw [List.map_append] at h ⊢
    have h' := List.nodup_append.mp h
    refine List.nodup_append.mpr ⟨h2n, h'.2.1, fun a ha b hb => ?_⟩
    obtain ⟨p, hp, rfl⟩ := List.mem_map.mp ha
    exact h'.2.2 _ (List.mem_map_of_mem (h2 p hp)) b hb
theorem Rep.perm (R : Rep X σ s) {os' : Os} (h : os'.Perm σ.os) : Rep X ⟨σ.lm, os'⟩ s :=
  R.weak (fun _ h => h) R.lm (fun _ hp => h.mem_iff.mp hp) ((h.map _).nodup_iff.mpr R.os_nd)

theorem Rep.ne_sys (R : Rep X σ s) {a : Addr} (ha : a ∈ σ.os.map (·.1)) : (a == sysModules) = false := by
  have h1 := R.new a (List.mem_cons_of_mem _ (List.mem_append_right _ (mem_app ha)))
  have h2 := g.sm
  exact beq_false_of_ne fun e => by subst e; exact absurd h2 (Nat.not_lt.mpr h1)
theorem Rep.at (R : Rep X σ s) {a : Addr} {mo : MO} (h : (a, mo) ∈ σ.os) : At g s.heap a mo := R.os _ (List.mem_append_left _ h)
end

noncomputable abbrev Cx.fz {g : G} (X : Cx g) (l : Os) : Cx g := { X with fro := l ++ X.fro }
section
variable {g : G} {X : Cx g} {σ : St} {s : Shared}
theorem Rep.raw (R : Rep X σ s) {a : Addr} {mo : MO} {o : Obj} {os : Os} (e : σ.os = (a, mo) :: os) (ho : s.heap.get? a = some o) : Rep (X.fz [(a, .raw o)]) ⟨σ.lm, os⟩ s := by
  have nd := R.all_nd
  have pm : ((os ++ ((a, MO.raw o) :: X.fro)).map (·.1)).Perm ((σ.os ++ X.fro).map (·.1)) := by
    rw [e]; simp only [List.map_append, List.map_cons, List.cons_append]; exact List.perm_middle
  refine ⟨R.core, R.keep, ?_, R.cl, fun p hp => ?_, ?_, ?_, R.lm⟩
  · obtain ⟨m, hn, hb⟩ := R.ns
    exact ⟨m, hn, fun x mv hx => ⟨(hb x mv hx).dbg, (hb x mv hx).way⟩⟩
  · rcases List.mem_append.mp hp with hp | hp
    · exact R.os p (List.mem_append_left _ (e ▸ List.mem_cons_of_mem _ hp))
    · rcases List.mem_cons.mp (show p ∈ (a, MO.raw o) :: X.fro from hp) with rfl | hp
      · exact ho
      · exact R.os p (List.mem_append_right _ hp)
  · show (X.env.locals :: (X.cls.map (·.2) ++ (os ++ ((a, MO.raw o) :: X.fro)).map (·.1))).Nodup
    exact ((pm.append_left _).cons _).nodup_iff.mpr R.nd
  · intro b hb
    exact R.new b (((pm.append_left _).cons _).mem_iff.mp hb)
theorem Rep.unraw {a : Addr} {mo : MO} {o : Obj} {os : Os} {l : Os} {lm : Lm} (R : Rep (X.fz ((a, .raw o) :: l)) ⟨lm, os⟩ s) (x : At g s.heap a mo) : Rep (X.fz l) ⟨lm, (a, mo) :: os⟩ s := by
  have pm : (((a, mo) :: os ++ (l ++ X.fro)).map (·.1)).Perm ((os ++ ((a, MO.raw o) :: (l ++ X.fro))).map (·.1)) := by
    simp only [List.map_append, List.map_cons, List.cons_append]; exact List.perm_middle.symm
  refine ⟨R.core, R.keep, ?_, R.cl, fun p hp => ?_, ?_, ?_, R.lm⟩
  · obtain ⟨m, hn, hb⟩ := R.ns
    exact ⟨m, hn, fun x mv hx => ⟨(hb x mv hx).dbg, (hb x mv hx).way⟩⟩
  · rcases List.mem_cons.mp (show p ∈ (a, mo) :: (os ++ (l ++ X.fro)) from hp) with rfl | hp
    · exact x
    · rcases List.mem_append.mp hp with hp | hp
      · exact R.os p (List.mem_append_left _ hp)
      · exact R.os p (List.mem_append_right _ (.tail _ hp))
  · exact ((pm.append_left _).cons _).nodup_iff.mpr R.nd
  · intro b hb
    exact R.new b (((pm.append_left _).cons _).mem_iff.mp hb)
/-- all but one object stay -/
theorem Rep.still (R : Rep X σ s) {I : Addr} {h' : Heap} {tk : Nat} (k : ∀ b o, b ≠ I → s.heap.get? b = some o → h'.get? b = some o) (ni : I ∉ X.addrs σ.os) (nh : g.h₀.get? I = none) : Rep X σ { s with heap := h', toks := tk } := by
  have kk : ∀ a ∈ X.addrs σ.os, ∀ o, s.heap.get? a = some o → h'.get? a = some o := fun a ha o e => k a o (fun z => ni (z ▸ ha)) e
  refine ⟨R.core, fun b o e => k b o (fun z => by rw [z, nh] at e; cases e) (R.keep b o e), ?_, fun p hp => ?_, fun p hp => (R.os p hp).keep fun o e => kk _ (List.mem_cons_of_mem _ (List.mem_append_right _ (List.mem_map_of_mem hp))) o e, R.nd, R.new, R.lm⟩
  · obtain ⟨m, hn, hb⟩ := R.ns
    exact ⟨m, hn.at' fun o e => kk _ (.head _) o e, fun x mv hx => (hb x mv hx).keep fun p hp o e => kk _ (List.mem_cons_of_mem _ (List.mem_append_left _ (List.mem_map_of_mem hp))) o e⟩
  · obtain ⟨v, o, ho, r⟩ := R.cl p hp
    exact ⟨v, o, kk _ (List.mem_cons_of_mem _ (List.mem_append_left _ (List.mem_map_of_mem hp))) _ ho, r⟩
/-- the first frozen object is let go -/
theorem Rep.drop {p : Addr × MO} {l : Os} (R : Rep (X.fz (p :: l)) σ s) : Rep (X.fz l) σ s ∧ p.1 ∉ (X.fz l).addrs σ.os ∧ g.h₀.get? p.1 = none := by
  have nd := R.all_nd
  have pm : ((σ.os ++ (p :: (l ++ X.fro))).map (·.1)).Perm (p.1 :: (σ.os ++ (l ++ X.fro)).map (·.1)) := by
    simp only [List.map_append, List.map_cons]; exact List.perm_middle
  refine ⟨R.weakAll rfl rfl (fun _ h => h) R.lm (fun q hq => ?_) (List.nodup_cons.mp (pm.nodup_iff.mp nd)).2, ?_, ?_⟩
  · rcases List.mem_append.mp hq with hq | hq
    · exact List.mem_append_left _ hq
    · exact List.mem_append_right _ (.tail _ hq)
  · intro hm
    have nd2 : ((X.env.locals :: (X.cls.map (·.2))) ++ (p.1 :: (σ.os ++ (l ++ X.fro)).map (·.1))).Nodup := (List.Perm.nodup_iff (List.Perm.append_left (X.env.locals :: (X.cls.map (fun q : Str × Addr => q.2))) pm)).mp R.nd
    have h3 := List.nodup_append.mp nd2
    have : p.1 ∈ (X.env.locals :: (X.cls.map (·.2))) ++ (σ.os ++ (l ++ X.fro)).map (·.1) := hm
    rcases List.mem_append.mp this with h | h
    · exact h3.2.2 _ h _ (.head _) rfl
    · exact (List.nodup_cons.mp h3.2.1).1 h
  · exact R.free _ (List.mem_cons_of_mem _ (List.mem_append_right _ (List.mem_map_of_mem (List.mem_append_right _ (.head _)))))
/-- a new object is frozen at once -/
theorem Rep.addz (R : Rep X σ s) {h' : Heap} {tk : Nat} {a : Addr} {o : Obj} (k : ∀ b o, s.heap.get? b = some o → h'.get? b = some o) (ha : s.heap.objs.size ≤ a) (x : h'.get? a = some o) :
    Rep (X.fz [(a, .raw o)]) σ { s with heap := h', toks := tk } := (R.add (mo := .raw o) (tk := tk) k ha x).raw rfl x
end
section
variable {g : G} {X : Cx g} {σ : St} {α β : Type}
theorem Tri.bind {m : Sem α} {f : α → Sem β} {Q : β → St → Prop} (h : Tri X m σ fun a σ' => Tri X (f a) σ' Q) : Tri X (m >>= f) σ Q := fun s R =>
  wpAny_bind (wpAny_mono (h s R) (fun a s' ⟨_, R', k⟩ => k s' R') fun _ _ e => e)
theorem Tri.mono {m : Sem α} {Q Q' : α → St → Prop} (h : Tri X m σ Q) (k : ∀ a σ', Q a σ' → Q' a σ') : Tri X m σ Q' := fun s R =>
  wpAny_mono (h s R) (fun _ _ ⟨σ', R', q⟩ => ⟨σ', R', k _ _ q⟩) fun _ _ e => e
theorem Tri.pure {a : α} {Q : α → St → Prop} (h : Q a σ) : Tri X (Pure.pure a) σ Q := fun _ R => wpAny_pure ⟨σ, R, h⟩
theorem Tri.weak {m : Sem α} {Q : α → St → Prop} {σ' : St} (h1 : ∀ p ∈ σ'.lm, p ∈ σ.lm) (h1n : (σ'.lm.map (·.1)).Nodup) (h2 : ∀ p ∈ σ'.os, p ∈ σ.os) (h2n : (σ'.os.map (·.1)).Nodup) (h : Tri X m σ' Q) : Tri X m σ Q :=
  fun s R => h s (R.weak h1 h1n h2 h2n)
/-- a change of the state's words that only the true state shows to be right -/
theorem Tri.see {m : Sem α} {Q : α → St → Prop} (h : ∀ s, Rep X σ s → Tri X m σ Q) : Tri X m σ Q := fun s R => h s R s R
end

noncomputable abbrev VQ := MV → St → Prop
section
variable {g : G}
noncomputable def VPost (Q : VQ) : Value → St → Prop := fun v σ' => ∃ mv : MV, mv.Is v ∧ Q mv σ'
noncomputable def Ev (X : Cx g) (e : PySem.Expr) (σ : St) (Q : VQ) : Prop := Tri X (eval e X.env) σ (VPost Q)
noncomputable def Te (X : Cx g) (e : PySem.Expr) (σ : St) (Q : Bool → St → Prop) : Prop := Tri X (PySem.isTrue e X.env (eval e X.env)) σ Q
noncomputable def Tes (X : Cx g) (op : BoolOp) (es : List PySem.Expr) (σ : St) (Q : Bool → St → Prop) : Prop := Tri X (allTrue op es X.env) σ Q
noncomputable def Op (X : Cx g) (op : Operator) (a b : MV) (σ : St) (Q : VQ) : Prop := ∀ v u, a.Is v → b.Is u → Tri X (binaryOp op v u) σ (VPost Q)
noncomputable def Iop (X : Cx g) (op : Operator) (a b : MV) (σ : St) (Q : VQ) : Prop := ∀ v u, a.Is v → b.Is u → Tri X (inplaceOp op v u) σ (VPost Q)
noncomputable def Cmp (X : Cx g) (op : CmpOp) (a b : MV) (σ : St) (Q : VQ) : Prop := ∀ v u, a.Is v → b.Is u → Tri X (compareOp op v u) σ (VPost Q)
noncomputable def Un (X : Cx g) (op : UnaryOp) (a : MV) (σ : St) (Q : VQ) : Prop := ∀ v, a.Is v → Tri X (unaryOp op v) σ (VPost Q)
noncomputable def Tru (X : Cx g) (a : MV) (σ : St) (Q : Bool → St → Prop) : Prop := ∀ v, a.Is v → Tri X (truthy v) σ Q

variable {X : Cx g} {σ : St} {Q : VQ}
theorem VPost.mk {v : Value} {mv : MV} (i : mv.Is v) (q : Q mv σ) : VPost Q v σ := ⟨mv, i, q⟩
theorem Ev.mono {e : PySem.Expr} {Q' : VQ} (h : Ev X e σ Q) (k : ∀ a σ', Q a σ' → Q' a σ') : Ev X e σ Q' := Tri.mono h fun _ _ ⟨mv, i, q⟩ => ⟨mv, i, k _ _ q⟩
/-- what holds at one state, told of a new one that differs in nothing told -/
theorem fin {s : Shared} {v : Value} {mv : MV} (R : Rep X σ s) (tk : Nat) (q : Q mv σ) (i : mv.Is v) : ∃ σ', Rep X σ' { s with toks := tk } ∧ VPost Q v σ' := ⟨σ, R.toks tk, mv, i, q⟩

/-! names -/
theorem Ev_name {x : Str} {pos : Pos} {mv : MV} (hx : (x, mv) ∈ σ.lm) (q : Q mv σ) : Ev X (.Name x pos) σ Q := fun s R => by
  obtain ⟨m, hn, hb⟩ := R.ns
  obtain ⟨dbg, way⟩ := hb x mv hx
  refine wpAny_Name ?_ dbg
  rcases way with ⟨hk, v, hv, hi⟩ | ⟨hk, c, v, hc, hcell, hi⟩
  · exact wpAny_loadName_local X.kind hk hn hv ⟨σ, R, mv, hi, q⟩
  · exact wpAny_loadName_cell X.kind hk hc hcell ⟨σ, R, mv, hi, q⟩
theorem loadName_of {x : Str} {mv : MV} (hx : (x, mv) ∈ σ.lm) (q : Q mv σ) : Tri X (loadName X.env x) σ (VPost Q) := fun s R => by
  obtain ⟨m, hn, hb⟩ := R.ns
  obtain ⟨dbg, way⟩ := hb x mv hx
  rcases way with ⟨hk, v, hv, hi⟩ | ⟨hk, c, v, hc, hcell, hi⟩
  · exact wpAny_loadName_local X.kind hk hn hv ⟨σ, R, mv, hi, q⟩
  · exact wpAny_loadName_cell X.kind hk hc hcell ⟨σ, R, mv, hi, q⟩

/-! literals -/
theorem Ev_int {i : Int} {k : Nat} {pos : Pos} (q : Q (.int i) σ) : Ev X (.Constant (.int i) k pos) σ Q := fun s R => wpAny_Constant_int (fin R _ q ⟨_, rfl⟩)
theorem Ev_bool {b : Bool} {k : Nat} {pos : Pos} (q : Q (.bool b) σ) : Ev X (.Constant (.bool b) k pos) σ Q := fun s R => wpAny_Constant_bool ⟨σ, R, MV.bool _, rfl, q⟩
theorem Ev_none {k : Nat} {pos : Pos} (q : Q .none σ) : Ev X (.Constant .none k pos) σ Q := fun s R => wpAny_Constant_none ⟨σ, R, MV.none, rfl, q⟩
theorem Ev_bytes {b : List UInt8} {k : Nat} {pos : Pos} (q : Q (.bytes b) σ) : Ev X (.Constant (.bytes b) k pos) σ Q := fun s R => by
  show wpAny _ _ (mkTextBytes b.toArray) _ _ s
  exact wpAny_mkTextBytes (fin R _ q ⟨_, rfl⟩)

/-! operators -/
theorem Ev_bin {l r : PySem.Expr} {op : Operator} {pos : Pos} (h : Ev X l σ fun a σ₁ => Ev X r σ₁ fun b σ₂ => Op X op a b σ₂ Q) : Ev X (.BinOp l op r pos) σ Q := fun s R =>
  wpAny_BinOp (wpAny_mono (h s R) (fun v s₁ ⟨σ₁, R₁, a, ha, h₁⟩ => wpAny_mono (h₁ s₁ R₁) (fun u s₂ ⟨σ₂, R₂, b, hb, h₂⟩ => h₂ v u ha hb s₂ R₂) fun _ _ e => e) fun _ _ e => e)
theorem Ev_un {x : PySem.Expr} {op : UnaryOp} {pos : Pos} (h : Ev X x σ fun a σ₁ => Un X op a σ₁ Q) : Ev X (.UnaryOp op x pos) σ Q := fun s R =>
  wpAny_UnaryOp (wpAny_mono (h s R) (fun v s₁ ⟨σ₁, R₁, a, ha, h₁⟩ => h₁ v ha s₁ R₁) fun _ _ e => e)
theorem Ev_cmp {l r : PySem.Expr} {op : CmpOp} {pos : Pos} (h : Ev X l σ fun a σ₁ => Ev X r σ₁ fun b σ₂ => Cmp X op a b σ₂ Q) (hm : behindInMarks op r = false := by rfl) : Ev X (.Compare l [op] [r] pos) σ Q := fun s R =>
  wpAny_Compare1 (wpAny_mono (h s R) (fun v s₁ ⟨σ₁, R₁, a, ha, h₁⟩ => wpAny_mono (h₁ s₁ R₁) (fun u s₂ ⟨σ₂, R₂, b, hb, h₂⟩ => h₂ v u ha hb s₂ R₂) fun _ _ e => e) fun _ _ e => e) hm
theorem Te_cmp {l r : PySem.Expr} {op : CmpOp} {pos : Pos} {Q : Bool → St → Prop} (h : Ev X l σ fun a σ₁ => Ev X r σ₁ fun b σ₂ => Cmp X op a b σ₂ fun c σ₃ => Tru X c σ₃ Q) (hm : behindInMarks op r = false := by rfl) : Te X (.Compare l [op] [r] pos) σ Q := fun s R =>
  wpAny_isTrue_Compare1 (wpAny_mono (h s R) (fun v s₁ ⟨σ₁, R₁, a, ha, h₁⟩ => wpAny_mono (h₁ s₁ R₁) (fun u s₂ ⟨σ₂, R₂, b, hb, h₂⟩ => wpAny_mono (h₂ v u ha hb s₂ R₂) (fun c s₃ ⟨σ₃, R₃, cv, hc, h₃⟩ => h₃ c hc s₃ R₃) fun _ _ e => e) fun _ _ e => e) fun _ _ e => e) hm
theorem Te_not {x : PySem.Expr} {pos : Pos} {Q : Bool → St → Prop} (h : Te X x σ fun b σ₁ => Q (!b) σ₁) : Te X (.UnaryOp .Not x pos) σ Q := fun s R =>
  wpAny_isTrue_Not (wpAny_mono (h s R) (fun _ _ ⟨σ₁, R₁, q⟩ => ⟨σ₁, R₁, q⟩) fun _ _ e => e)
theorem Te_boolop {op : BoolOp} {es : List PySem.Expr} {pos : Pos} {Q : Bool → St → Prop} (h : Tes X op es σ Q) : Te X (.BoolOp op es pos) σ Q := fun s R => wpAny_isTrue_BoolOp (h s R)
theorem Tes_and {x : PySem.Expr} {rest : List PySem.Expr} {Q : Bool → St → Prop} (h : Te X x σ fun b σ₁ => if b = true then Tes X .And rest σ₁ Q else Q false σ₁) : Tes X .And (x :: rest) σ Q := fun s R =>
  wpAny_allTrue_And_cons (wpAny_mono (h s R) (fun b s₁ ⟨σ₁, R₁, q⟩ => by cases b with | true => exact q s₁ R₁ | false => exact ⟨σ₁, R₁, q⟩) fun _ _ e => e)
theorem Tes_or {x : PySem.Expr} {rest : List PySem.Expr} {Q : Bool → St → Prop} (h : Te X x σ fun b σ₁ => if b = true then Q true σ₁ else Tes X .Or rest σ₁ Q) : Tes X .Or (x :: rest) σ Q := fun s R =>
  wpAny_allTrue_Or_cons (wpAny_mono (h s R) (fun b s₁ ⟨σ₁, R₁, q⟩ => by cases b with | true => exact ⟨σ₁, R₁, q⟩ | false => exact q s₁ R₁) fun _ _ e => e)
theorem Tes_and0 {Q : Bool → St → Prop} (q : Q true σ) : Tes X .And [] σ Q := fun s R => wpAny_allTrue_And_nil ⟨σ, R, q⟩
theorem Tes_or0 {Q : Bool → St → Prop} (q : Q false σ) : Tes X .Or [] σ Q := fun s R => wpAny_allTrue_Or_nil ⟨σ, R, q⟩
/-- a test that is any other word -/
theorem Te_val {e : PySem.Expr} {Q : Bool → St → Prop} (h : Ev X e σ fun a σ₁ => Tru X a σ₁ Q) (he : PySem.isTrue e X.env (eval e X.env) = (do let v ← eval e X.env; standAt e.pos; holding [v] (truthy v)) := by rfl) : Te X e σ Q := fun s R =>
  wpAny_isTrue_value (wpAny_mono (h s R) (fun v s₁ ⟨σ₁, R₁, a, ha, h₁⟩ => h₁ v ha s₁ R₁) fun _ _ e => e) he
theorem Ev_ifexp {t a b : PySem.Expr} {pos : Pos} (h : Te X t σ fun c σ₁ => if c = true then Ev X a σ₁ Q else Ev X b σ₁ Q) : Ev X (.IfExp t a b pos) σ Q := fun s R =>
  wpAny_IfExp (wpAny_mono (h s R) (fun c s₁ ⟨σ₁, R₁, q⟩ => by cases c with | true => exact q s₁ R₁ | false => exact q s₁ R₁) fun _ _ e => e)
theorem Ev_and2 {x y : PySem.Expr} {pos : Pos} (h : Ev X x σ fun a σ₁ => Tru X a σ₁ fun c σ₂ => if c = true then Ev X y σ₂ Q else Q a σ₂) : Ev X (.BoolOp .And [x, y] pos) σ Q := fun s R =>
  wpAny_And2 (wpAny_mono (h s R) (fun v s₁ ⟨σ₁, R₁, a, ha, h₁⟩ => wpAny_mono (h₁ v ha s₁ R₁) (fun c s₂ ⟨σ₂, R₂, q⟩ => by cases c with | true => exact q s₂ R₂ | false => exact ⟨σ₂, R₂, a, ha, q⟩) fun _ _ e => e) fun _ _ e => e)

/-! truth -/
theorem Tru_bool {b : Bool} {Q : Bool → St → Prop} (q : Q b σ) : Tru X (.bool b) σ Q := by
  rintro v rfl s R
  exact wpAny_truthy_bool ⟨σ, R, q⟩
theorem Tru_dec {p : Prop} [d : Decidable p] {Q : Bool → St → Prop} (h1 : p → Q true σ) (h2 : ¬ p → Q false σ) : Tru X (.bool (decide p)) σ Q := by
  refine Tru_bool ?_
  by_cases h : p
  · rw [decide_eq_true h]; exact h1 h
  · rw [decide_eq_false h]; exact h2 h
theorem Tru_list {a : Addr} {xs : List MV} {Q : Bool → St → Prop} (hm : (a, MO.lst xs) ∈ σ.os) (hl : xs.length ≤ 1000000) (q : Q (!xs.isEmpty) σ) : Tru X (.ref a) σ Q := by
  rintro v rfl s R
  obtain ⟨vs, hp, hi⟩ := R.at hm
  refine wpAny_truthy_list hp.isList (by rw [List.size_toArray, ← hi.length]; omega) ?_
  refine ⟨σ, R.toks _, ?_⟩
  have : vs.toArray.isEmpty = xs.isEmpty := by cases hi <;> simp
  rw [this]; exact q

/-! int operators -/
theorem Op_add {a b : Int} (q : Q (.int (a + b)) σ) : Op X .Add (.int a) (.int b) σ Q := by
  rintro _ _ ⟨t, rfl⟩ ⟨u, rfl⟩ s R
  exact wpAny_add_int (fin R _ q ⟨_, rfl⟩)
theorem Op_sub {a b : Int} (q : Q (.int (a - b)) σ) : Op X .Sub (.int a) (.int b) σ Q := by
  rintro _ _ ⟨t, rfl⟩ ⟨u, rfl⟩ s R
  exact PyProof.Rows.sub_int (fin R _ q ⟨_, rfl⟩)
theorem mulOk_left {a b : Int} (h : a.natAbs < 2 ^ 64) : IntMulOk a b := IntMulOk.of_left (intBits_le_iff.mpr h)
theorem mulOk_right {a b : Int} (h : b.natAbs < 2 ^ 64) : IntMulOk a b := IntMulOk.of_right (intBits_le_iff.mpr h)
theorem Op_mul {a b : Int} (hm : IntMulOk a b) (q : Q (.int (a * b)) σ) : Op X .Mult (.int a) (.int b) σ Q := by
  rintro _ _ ⟨t, rfl⟩ ⟨u, rfl⟩ s R
  exact PyProof.Rows.mul_int (fin R _ q ⟨_, rfl⟩) hm
theorem noPy {a b : Int} (h : b < 2 ^ 100) (h0 : 0 < b) : Builtin.divisionGoesByPylong a b = false := by
  refine PyProof.noPylong_of_log2 ?_
  have hb : b.natAbs < 2 ^ 100 := by omega
  have : b.natAbs ≠ 0 := by omega
  have := (Nat.log2_lt this).mpr hb
  omega
theorem Op_fdiv {a b : Int} (h0 : 0 < b) (h1 : b < 2 ^ 100) (q : Q (.int (a / b)) σ) : Op X .FloorDiv (.int a) (.int b) σ Q := by
  rintro _ _ ⟨t, rfl⟩ ⟨u, rfl⟩ s R
  refine PyProof.Rows.floordiv_int (by omega) ?_ (.inl (noPy h1 h0))
  rw [Int.fdiv_eq_ediv_of_nonneg _ (by omega)]
  exact fin R _ q ⟨_, rfl⟩
theorem Op_mod {a b : Int} (h0 : 0 < b) (q : Q (.int (a % b)) σ) : Op X .Mod (.int a) (.int b) σ Q := by
  rintro _ _ ⟨t, rfl⟩ ⟨u, rfl⟩ s R
  refine PyProof.Rows.mod_int' (by omega) ?_
  rw [Int.fmod_eq_emod_of_nonneg _ (by omega)]
  exact fin R _ q ⟨_, rfl⟩
theorem Op_pow {a b : Int} (h0 : 0 ≤ b) (h1 : b ≤ 1000000) (ha : a.natAbs < 2 ^ 64) (q : Q (.int (a ^ b.toNat)) σ) : Op X .Pow (.int a) (.int b) σ Q := by
  rintro _ _ ⟨t, rfl⟩ ⟨u, rfl⟩ s R
  exact PyProof.Rows.pow_int_small h0 h1 ha (fin R _ q ⟨_, rfl⟩)
theorem Op_shl {a b : Int} (h0 : 0 ≤ b) (h1 : b ≤ 1000000) (ha : a.natAbs < 2 ^ 64) (q : Q (.int (a * 2 ^ b.toNat)) σ) : Op X .LShift (.int a) (.int b) σ Q := by
  rintro _ _ ⟨t, rfl⟩ ⟨u, rfl⟩ s R
  exact PyProof.Rows.lshift_int_small h0 h1 ha (fin R _ q ⟨_, rfl⟩)
theorem Op_shr {a b : Int} (h0 : 0 ≤ b) (q : Q (.int (a / 2 ^ b.toNat)) σ) : Op X .RShift (.int a) (.int b) σ Q := by
  rintro _ _ ⟨t, rfl⟩ ⟨u, rfl⟩ s R
  refine PyProof.Rows.rshift_int h0 ?_
  rw [Int.fdiv_eq_ediv_of_nonneg _ (Int.le_of_lt (Int.pow_pos (by decide)))]
  exact fin R _ q ⟨_, rfl⟩
theorem Op_or {a b : Int} (q : Q (.int (Builtin.bitOr a b)) σ) : Op X .BitOr (.int a) (.int b) σ Q := by
  rintro _ _ ⟨t, rfl⟩ ⟨u, rfl⟩ s R
  exact PyProof.Rows.or_int (fin R _ q ⟨_, rfl⟩)
theorem Op_and {a b : Int} (q : Q (.int (Builtin.bitAnd a b)) σ) : Op X .BitAnd (.int a) (.int b) σ Q := by
  rintro _ _ ⟨t, rfl⟩ ⟨u, rfl⟩ s R
  exact PyProof.Rows.and_int (fin R _ q ⟨_, rfl⟩)
theorem Op_addb {a b : List UInt8} (h : a.length + b.length ≤ 16777216) (q : Q (.bytes (a ++ b)) σ) : Op X .Add (.bytes a) (.bytes b) σ Q := by
  rintro _ _ ⟨t, rfl⟩ ⟨u, rfl⟩ s R
  refine KBy.add_bytes (by simpa using h) fun t' k => ?_
  rw [List.append_toArray]
  exact fin R _ q ⟨_, rfl⟩
theorem Un_neg {a : Int} (q : Q (.int (-a)) σ) : Un X .USub (.int a) σ Q := by
  rintro _ ⟨t, rfl⟩ s R
  exact PyProof.Rows.neg_int (fin R _ q ⟨_, rfl⟩)
theorem Un_not {a : MV} (h : Tru X a σ fun c σ₁ => Q (.bool (!c)) σ₁) : Un X .Not a σ Q := by
  intro v hv s R
  exact not_of (wpAny_mono (h v hv s R) (fun c s₁ ⟨σ₁, R₁, q⟩ => ⟨σ₁, R₁, MV.bool _, rfl, q⟩) fun _ _ e => e)

/-! comparisons -/
theorem Cmp_lt {a b : Int} (q : Q (.bool (decide (a < b))) σ) : Cmp X .Lt (.int a) (.int b) σ Q := by
  rintro _ _ ⟨t, rfl⟩ ⟨u, rfl⟩ s R; exact PyProof.Rows.lt_int ⟨σ, R, MV.bool _, rfl, q⟩
theorem Cmp_gt {a b : Int} (q : Q (.bool (decide (b < a))) σ) : Cmp X .Gt (.int a) (.int b) σ Q := by
  rintro _ _ ⟨t, rfl⟩ ⟨u, rfl⟩ s R; exact PyProof.Rows.gt_int ⟨σ, R, MV.bool _, rfl, q⟩
theorem Cmp_le {a b : Int} (q : Q (.bool (decide (a ≤ b))) σ) : Cmp X .LtE (.int a) (.int b) σ Q := by
  rintro _ _ ⟨t, rfl⟩ ⟨u, rfl⟩ s R; exact PyProof.Rows.le_int ⟨σ, R, MV.bool _, rfl, q⟩
theorem Cmp_ge {a b : Int} (q : Q (.bool (decide (b ≤ a))) σ) : Cmp X .GtE (.int a) (.int b) σ Q := by
  rintro _ _ ⟨t, rfl⟩ ⟨u, rfl⟩ s R; exact PyProof.Rows.ge_int ⟨σ, R, MV.bool _, rfl, q⟩
theorem Cmp_eq {a b : Int} (q : Q (.bool (decide (a = b))) σ) : Cmp X .Eq (.int a) (.int b) σ Q := by
  rintro _ _ ⟨t, rfl⟩ ⟨u, rfl⟩ s R
  refine PyProof.Rows.eq_int ?_
  rw [show (a == b) = decide (a = b) by rw [Bool.eq_iff_iff]; simp]
  exact ⟨σ, R, MV.bool _, rfl, q⟩
theorem Cmp_ne {a b : Int} (q : Q (.bool (decide (¬ a = b))) σ) : Cmp X .NotEq (.int a) (.int b) σ Q := by
  rintro _ _ ⟨t, rfl⟩ ⟨u, rfl⟩ s R
  refine PyProof.Rows.ne_int ?_
  rw [show (a != b) = decide (¬ a = b) by rw [Bool.eq_iff_iff]; simp]
  exact ⟨σ, R, MV.bool _, rfl, q⟩
theorem Cmp_eqb {a b : List UInt8} (q : Q (.bool (decide (a = b))) σ) : Cmp X .Eq (.bytes a) (.bytes b) σ Q := by
  rintro _ _ ⟨t, rfl⟩ ⟨u, rfl⟩ s R
  refine eq_bytes ?_
  rw [show (a.toArray.toList == b.toArray.toList) = decide (a = b) by rw [Bool.eq_iff_iff]; simp]
  exact ⟨σ, R, MV.bool _, rfl, q⟩
theorem Cmp_neb {a b : List UInt8} (q : Q (.bool (decide (¬ a = b))) σ) : Cmp X .NotEq (.bytes a) (.bytes b) σ Q := by
  rintro _ _ ⟨t, rfl⟩ ⟨u, rfl⟩ s R
  refine ne_bytes ?_
  rw [show (a.toArray.toList != b.toArray.toList) = decide (¬ a = b) by rw [Bool.eq_iff_iff]; simp]
  exact ⟨σ, R, MV.bool _, rfl, q⟩
end

section
variable {g : G} {X : Cx g} {σ : St} {Q : VQ}

/-! names of the top -/
theorem Ev_glob {x : Str} {pos : Pos} {v : Value} {mv : MV} (e : nsIn g.K mainGlobals x = some (some v)) (i : mv.Is v) (hx : X.env.kindOf x = some .globalImplicit) (q : Q mv σ) (hd : (x == ("__debug__" : Str)) = false := by decide +kernel) :
    Ev X (.Name x pos) σ Q := fun s R =>
  Name_function_global X.kind hx (loadGlobal_global (mg := g.mg) (by rw [X.glob]; exact g.T.g.keeps R.keep) (mg_of g.X g.T.g e) ⟨σ, R, mv, i, q⟩) hd
theorem Ev_boot {x : Str} {pos : Pos} {v : Value} (e : nsIn g.K mainGlobals x = some none) (b : bootBuiltins x = some v) (hx : X.env.kindOf x = some .globalImplicit) (q : Q (.val v) σ) (hn : x ≠ "__name__" := by decide +kernel) (hd : (x == ("__debug__" : Str)) = false := by decide +kernel) :
    Ev X (.Name x pos) σ Q := fun s R =>
  Name_function_global X.kind hx (loadGlobal_builtin (mg := g.mg) (mb := g.mb) (by rw [X.glob]; exact g.T.g.keeps R.keep) (mg_none_of g.X g.T.g e) (by rw [X.bui]; exact g.T.b.keeps R.keep) ((g.T.builtins x hn).trans b) ⟨σ, R, MV.val v, rfl, q⟩) hd

/-! a name is stored -/
inductive LRep (x : Str) (mv : MV) : Lm → Lm → Prop
  | head {u r} : LRep x mv ((x, u) :: r) ((x, mv) :: r)
  | tail {p r r'} : LRep x mv r r' → LRep x mv (p :: r) (p :: r')
theorem LRep.map {x : Str} {mv : MV} {l l' : Lm} (u : LRep x mv l l') : l'.map (·.1) = l.map (·.1) := by
  induction u with
  | head => rfl
  | tail _ ih => simp [ih]
theorem LRep.old {x : Str} {mv : MV} {l l' : Lm} (u : LRep x mv l l') : ∃ w, (x, w) ∈ l := by
  induction u with
  | head => exact ⟨_, .head _⟩
  | tail _ ih => obtain ⟨w, h⟩ := ih; exact ⟨w, .tail _ h⟩
theorem LRep.cases {x : Str} {mv : MV} {l l' : Lm} (u : LRep x mv l l') : (l.map (·.1)).Nodup → ∀ p ∈ l', p = (x, mv) ∨ (p ∈ l ∧ p.1 ≠ x) := by
  induction u with
  | head =>
    intro nd p hp
    rw [List.map_cons, List.nodup_cons] at nd
    rcases List.mem_cons.mp hp with rfl | hp
    · exact .inl rfl
    · exact .inr ⟨.tail _ hp, fun e => nd.1 (List.mem_map.mpr ⟨p, hp, e⟩)⟩
  | tail u ih =>
    intro nd p hp
    rw [List.map_cons, List.nodup_cons] at nd
    rcases List.mem_cons.mp hp with rfl | hp
    · refine .inr ⟨.head _, fun e => nd.1 ?_⟩
      obtain ⟨w, hw⟩ := u.old
      exact List.mem_map.mpr ⟨_, hw, e.symm⟩
    · exact (ih nd.2 p hp).imp id fun ⟨x, y⟩ => ⟨.tail _ x, y⟩

/-- the store's frame: what a store at a local or cell does to the state -/
theorem store_core {x : Str} {v : Value} {mv : MV} {lm' : Lm} {s : Shared} (R : Rep X σ s) (i : mv.Is v) (dbg : (x == ("__debug__" : Str)) = false)
    (hk : X.env.kindOf x = some .local ∨ (X.env.kindOf x = some .cell ∧ ∃ c, X.env.cells.lookup x = some c))
    (hc : ∀ p ∈ lm', p = (x, mv) ∨ (p ∈ σ.lm ∧ p.1 ≠ x)) (hn : (lm'.map (·.1)).Nodup) {P : Shared → Prop} (h : ∀ s', Rep X ⟨lm', σ.os⟩ s' → P s') :
    wpAny (model g.prog g.w) X.A (storeName X.env x v) (fun _ s' => P s') (fun _ _ => False) s := by
  obtain ⟨m, hns, hb⟩ := R.ns
  have hp : (X.env.scope.kind == .class || (X.env.scope.kind == .module && X.env.locals != X.env.globals)) = false := by rw [X.kind]; rfl
  have nd := List.nodup_cons.mp R.nd
  have ndc := List.nodup_append.mp nd.2
  have build : ∀ (h' : Heap) (tk : Nat) (a : Addr), a ∈ X.env.locals :: X.cls.map (·.2) → Heap.SameBut a s.heap h' →
      (∃ m', h'.Ns X.env.locals m' ∧ ∀ y mv', (y, mv') ∈ lm' → Bound X m' h' y mv') → (∀ p ∈ X.cls, ∃ v?, h'.IsCell p.2 v?) → Rep X ⟨lm', σ.os⟩ { s with heap := h', toks := tk } := by
    intro h' tk a ha hs hns' hcl'
    have ha' : a ∈ X.addrs σ.os := by
      rcases List.mem_cons.mp ha with rfl | ha
      · exact .head _
      · exact List.mem_cons_of_mem _ (List.mem_append_left _ ha)
    have an := R.free a ha'
    refine ⟨R.core, fun b o e => (hs.2 b fun z => by rw [z, an] at e; cases e).trans (R.keep b o e), hns', hcl', fun p hp => (R.os p hp).keep fun o e => (hs.2 _ fun z => ?_).trans e, R.nd, R.new, hn⟩
    have hp' : p.1 ∈ (σ.os ++ X.fro).map (·.1) := List.mem_map_of_mem hp
    rcases List.mem_cons.mp ha with rfl | ha
    · exact nd.1 (z ▸ List.mem_append_right _ hp')
    · exact ndc.2.2 a ha p.1 hp' z.symm
  rcases hk with hk | ⟨hk, c, hcc⟩
  · refine wpAny_storeName_local hk hns (fun h' hn' hs => h _ ?_) hp
    have hL : ∀ p ∈ X.cls, p.2 ≠ X.env.locals := fun p hp e => nd.1 (List.mem_append_left _ (e ▸ List.mem_map_of_mem hp))
    refine build h' _ _ (.head _) hs ⟨_, hn', fun y mv' hy => ?_⟩ fun p hp => ?_
    · rcases hc _ hy with e | ⟨h1, h2⟩
      · cases e
        exact ⟨dbg, .inl ⟨hk, v, by simp, i⟩⟩
      · obtain ⟨d, w⟩ := (hb y mv' h1).keep fun p hp o e => (hs.2 _ (hL p hp)).trans e
        refine ⟨d, w.imp (fun ⟨a, v', b, c⟩ => ⟨a, v', ?_, c⟩) id⟩
        rw [if_neg h2]; exact b
    · obtain ⟨v?, o, ho, r⟩ := R.cl p hp
      exact ⟨v?, o, (hs.2 _ (hL p hp)).trans ho, r⟩
  · have hcm := X.sub _ _ hcc
    obtain ⟨v?, hcell⟩ := R.cl _ hcm
    refine wpAny_storeName_cell X.kind hk hcc hcell (fun h' hn' hs => h _ ?_)
    have hL : X.env.locals ≠ c := fun e => nd.1 (List.mem_append_left _ (e ▸ List.mem_map_of_mem (f := (·.2)) hcm))
    refine build h' s.toks c (List.mem_cons_of_mem _ (List.mem_map_of_mem (f := (·.2)) hcm)) hs ⟨m, hns.at' fun o e => (hs.2 _ hL).trans e, fun y mv' hy => ?_⟩ fun p hp => ?_
    · rcases hc _ hy with e | ⟨h1, h2⟩
      · cases e
        exact ⟨dbg, .inr ⟨hk, c, v, hcc, hn', i⟩⟩
      · obtain ⟨d, w⟩ := hb y mv' h1
        refine ⟨d, w.imp id ?_⟩
        rintro ⟨hk', c', v', hc', ⟨o, ho, r⟩, i'⟩
        refine ⟨hk', c', v', hc', ⟨o, (hs.2 _ fun z => ?_).trans ho, r⟩, i'⟩
        subst z
        have k1 := X.sub _ _ hc'
        -- two names of one cell are one name
        have inj : ∀ {l : List (Str × Addr)}, (l.map (·.2)).Nodup → ∀ {p q}, p ∈ l → q ∈ l → p.2 = q.2 → p = q := by
          intro l
          induction l with
          | nil => intro _ p q hp; cases hp
          | cons a l ih =>
            intro hnd p q hp hq e
            rw [List.map_cons, List.nodup_cons] at hnd
            rcases List.mem_cons.mp hp with hp' | hp' <;> rcases List.mem_cons.mp hq with hq' | hq'
            · rw [hp', hq']
            · exact absurd (List.mem_map.mpr ⟨q, hq', by rw [← e, hp']⟩) hnd.1
            · exact absurd (List.mem_map.mpr ⟨p, hp', by rw [e, hq']⟩) hnd.1
            · exact ih hnd.2 hp' hq' e
        have := inj ndc.1 k1 hcm rfl
        exact h2 (by cases this; rfl)
    · by_cases e : p.2 = c
      · rw [e]; exact ⟨_, hn'⟩
      · obtain ⟨v?, o, ho, r⟩ := R.cl p hp
        exact ⟨v?, o, (hs.2 _ e).trans ho, r⟩

noncomputable def UQ := St → Prop
noncomputable def Sto (X : Cx g) (x : Str) (mv : MV) (σ : St) (Q : St → Prop) : Prop := ∀ v, mv.Is v → Tri X (storeName X.env x v) σ fun _ σ' => Q σ'
theorem Sto_rep {x : Str} {mv : MV} {lm' : Lm} {Q : St → Prop} (u : LRep x mv σ.lm lm') (q : Q ⟨lm', σ.os⟩) : Sto X x mv σ Q := fun v i s R => by
  obtain ⟨w, hw⟩ := u.old
  obtain ⟨m, hns, hb⟩ := R.ns
  obtain ⟨dbg, way⟩ := hb x w hw
  have nd : (lm'.map (·.1)).Nodup := by rw [u.map]; exact R.lm
  rcases way with ⟨hk, _⟩ | ⟨hk, c, _, hc, _⟩
  · exact store_core R i dbg (.inl hk) (u.cases R.lm) nd fun s' R' => ⟨_, R', q⟩
  · exact store_core R i dbg (.inr ⟨hk, c, hc⟩) (u.cases R.lm) nd fun s' R' => ⟨_, R', q⟩
theorem Sto_new {x : Str} {mv : MV} {Q : St → Prop} (hn : (σ.lm.map (·.1)).elem x = false) (hk : X.env.kindOf x = some .local) (q : Q ⟨(x, mv) :: σ.lm, σ.os⟩) (dbg : (x == ("__debug__" : Str)) = false := by decide +kernel) : Sto X x mv σ Q := fun v i s R => by
  have hx : ∀ p ∈ σ.lm, p.1 ≠ x := fun p hp e => by
    have : (σ.lm.map (·.1)).elem x = true := List.elem_eq_true_of_mem (e ▸ List.mem_map_of_mem (f := (·.1)) hp)
    rw [hn] at this; cases this
  refine store_core R i dbg (.inl hk) (fun p hp => ?_) ?_ fun s' R' => ⟨_, R', q⟩
  · rcases List.mem_cons.mp hp with rfl | hp
    · exact .inl rfl
    · exact .inr ⟨hp, hx p hp⟩
  · refine List.nodup_cons.mpr ⟨fun hm => ?_, R.lm⟩
    obtain ⟨p, hp, e⟩ := List.mem_map.mp hm
    exact hx p hp e
theorem Sto_newc {x : Str} {c : Addr} {mv : MV} {Q : St → Prop} (hn : (σ.lm.map (·.1)).elem x = false) (hk : X.env.kindOf x = some .cell) (hc : X.env.cells.lookup x = some c) (q : Q ⟨(x, mv) :: σ.lm, σ.os⟩) (dbg : (x == ("__debug__" : Str)) = false := by decide +kernel) : Sto X x mv σ Q := fun v i s R => by
  have hx : ∀ p ∈ σ.lm, p.1 ≠ x := fun p hp e => by
    have : (σ.lm.map (·.1)).elem x = true := List.elem_eq_true_of_mem (e ▸ List.mem_map_of_mem (f := (·.1)) hp)
    rw [hn] at this; cases this
  refine store_core R i dbg (.inr ⟨hk, c, hc⟩) (fun p hp => ?_) ?_ fun s' R' => ⟨_, R', q⟩
  · rcases List.mem_cons.mp hp with rfl | hp
    · exact .inl rfl
    · exact .inr ⟨hp, hx p hp⟩
  · refine List.nodup_cons.mpr ⟨fun hm => ?_, R.lm⟩
    obtain ⟨p, hp, e⟩ := List.mem_map.mp hm
    exact hx p hp e

/-! statements -/
noncomputable abbrev FQ := Flow → St → Prop
noncomputable def Ex (X : Cx g) (st : Stmt) (σ : St) (Q : FQ) : Prop := Tri X (exec st X.env) σ Q
noncomputable def Exs (X : Cx g) (ss : List Stmt) (σ : St) (Q : FQ) : Prop := Tri X (execs ss X.env) σ Q
variable {Q : FQ}
theorem Exs_nil (q : Q .next σ) : Exs X [] σ Q := fun s R => wpAny_execs_nil ⟨σ, R, q⟩
noncomputable abbrev ExsQ (X : Cx g) (rest : List Stmt) (Q : FQ) : FQ := fun f σ' => match f with | .next => Exs X rest σ' Q | f => Q f σ'
theorem Exs_cons {st : Stmt} {rest : List Stmt} (h : Ex X st σ (ExsQ X rest Q)) : Exs X (st :: rest) σ Q := fun s R =>
  wpAny_execs_cons (wpAny_mono (h s R) (fun f s' ⟨σ', R', q⟩ => by cases f <;> first | exact q s' R' | exact ⟨σ', R', q⟩) fun _ _ e => e)
/-- a statement, then the rest from whatever the first leaves -/
theorem Exs_cut {st : Stmt} {rest : List Stmt} (P : St → Prop) (h : Ex X st σ fun f σ' => (f = .next ∧ P σ') ∨ (f ≠ .next ∧ Q f σ')) (k : ∀ σ', P σ' → Exs X rest σ' Q) : Exs X (st :: rest) σ Q :=
  Exs_cons (Tri.mono h fun f σ' q => by
    rcases q with ⟨rfl, p⟩ | ⟨hf, q⟩
    · exact k σ' p
    · cases f <;> first | exact absurd rfl hf | exact q)
theorem Ex_ret {e : PySem.Expr} {pos : Pos} {P : VQ} (h : Ev X e σ P) (k : ∀ v mv σ', mv.Is v → P mv σ' → Q (.ret v) σ') : Ex X (.Return (some e) pos) σ Q := fun s R =>
  wpAny_Return_some (wpAny_mono (h s R) (fun v s' ⟨σ', R', mv, i, q⟩ => ⟨σ', R', k v mv σ' i q⟩) fun _ _ e => e)
theorem Ex_pass {pos : Pos} (q : Q .next σ) : Ex X (.Pass pos) σ Q := fun s R => wpAny_Pass ⟨σ, R, q⟩
theorem Ex_if {t : PySem.Expr} {a b : List Stmt} {pos : Pos} (h : Te X t σ fun c σ₁ => if c = true then Exs X a σ₁ Q else Exs X b σ₁ Q) : Ex X (.If t a b pos) σ Q := fun s R =>
  wpAny_If (wpAny_mono (h s R) (fun c s₁ ⟨σ₁, R₁, q⟩ => by cases c with | true => exact q s₁ R₁ | false => exact q s₁ R₁) fun _ _ e => e)
theorem Ex_expr {e : PySem.Expr} {pos : Pos} (h : Ev X e σ fun _ σ' => Q .next σ') (hi : interactive X.env = false := by rfl) (hs : swapsWith e none pos.line X.env = Pure.pure false := by rfl) : Ex X (.Expr e pos) σ Q := fun s R =>
  wpAny_Expr_any (wpAny_mono (h s R) (fun v s' ⟨σ', R', mv, i, q⟩ => ⟨σ', R', q⟩) fun _ _ e => e) hi hs
theorem Ex_asg {x : Str} {p : Pos} {e : PySem.Expr} {pos : Pos} (h : Ev X e σ fun mv σ₁ => Sto X x mv σ₁ fun σ₂ => Q .next σ₂) (hs : swapsWith e (some (.Name x p)) pos.line X.env = Pure.pure false := by rfl) : Ex X (.Assign [.Name x p] e pos) σ Q := fun s R =>
  wpAny_Assign_Name (wpAny_mono (h s R) (fun v s₁ ⟨σ₁, R₁, mv, i, q⟩ => q v i s₁ R₁) fun _ _ e => e) hs
theorem Ex_aug {x : Str} {p : Pos} {op : Operator} {e : PySem.Expr} {pos : Pos} {old : MV} (hx : (x, old) ∈ σ.lm) (h : Ev X e σ fun mv σ₁ => Iop X op old mv σ₁ fun r σ₂ => Sto X x r σ₂ fun σ₃ => Q .next σ₃) : Ex X (.AugAssign (.Name x p) op e pos) σ Q := fun s R =>
  wpAny_AugAssign_Name (wpAny_mono (loadName_of (Q := fun mv σ' => mv = old ∧ σ' = σ) hx ⟨rfl, rfl⟩ s R) (fun o s₁ ⟨σ₁, R₁, mv, i, e1, e2⟩ => by
    subst e1; subst e2
    exact wpAny_mono (h s₁ R₁) (fun v s₂ ⟨σ₂, R₂, mv2, i2, q2⟩ => wpAny_mono (q2 o v i i2 s₂ R₂) (fun r s₃ ⟨σ₃, R₃, mv3, i3, q3⟩ => q3 r i3 s₃ R₃) fun _ _ e => e) fun _ _ e => e) fun _ _ e => e)
theorem Iop_add {Q : VQ} {a b : Int} (q : Q (.int (a + b)) σ) : Iop X .Add (.int a) (.int b) σ Q := by
  rintro _ _ ⟨t, rfl⟩ ⟨u, rfl⟩ s R
  exact PySem.wpAny_iadd_int (fin R _ q ⟨_, rfl⟩)
end

structure Room (A : Around) (n : Nat) : Prop where
  d : A.depth + 2 * n < recursionLimit
  u : A.units + 16 * n + 200 < cLine
theorem Room.le {A : Around} {n m : Nat} (h : Room A n) (k : m ≤ n) : Room A m := ⟨by have := h.d; omega, by have := h.u; omega⟩
theorem Room.deeper {A : Around} {n : Nat} (h : Room A (n + 1)) (env : Env) : Room (A.deeper env) n := ⟨by have := h.d; show A.depth + 1 + 2 * n < _; omega, by have := h.u; show A.units + 3 + 16 * n + 200 < _; omega⟩
theorem Room.depth {A : Around} {n : Nat} (h : Room A n) : A.depth < recursionLimit := by have := h.d; omega
theorem Room.units {A : Around} {n : Nat} (h : Room A n) : A.units + 100 < cLine := by have := h.u; omega

noncomputable def CallV {g : G} (X : Cx g) (f : Value) (args : List MV) (σ : St) (Q : VQ) : Prop := ∀ vs, All2 MV.Is args vs → Tri X (call f vs) σ (VPost Q)

/-- a def's contract: what a call of it gives and does to its own part of the heap -/
noncomputable def Fn (g : G) (n : Nat) (f : Addr) (args : List MV) (fp : Os) (Post : MV → Os → Prop) : Prop :=
  ∀ (X : Cx g) (lm : Lm) (rest : Os) (vs : List Value), Room X.A n → All2 MV.Is args vs →
    ∀ s, Rep X ⟨lm, fp ++ rest⟩ s → codeAny (model g.prog g.w) X.A (.call (.ref f) ⟨vs, []⟩) (fun r s' => ∃ v mv fp', r = .ok (.ret v) ∧ mv.Is v ∧ Post mv fp' ∧ Rep X ⟨lm, fp' ++ rest⟩ s') s

inductive Pick {α : Type} (p : α) : List α → List α → Prop
  | head {r} : Pick p (p :: r) r
  | tail {q r r'} : Pick p r r' → Pick p (q :: r) (q :: r')
theorem Pick.perm {α : Type} {p : α} {a b : List α} (h : Pick p a b) : a.Perm (p :: b) := by
  induction h with
  | head => exact List.Perm.refl _
  | tail _ ih => exact (List.Perm.cons _ ih).trans (List.Perm.swap _ _ _)
inductive Sel {α : Type} : List α → List α → List α → Prop
  | nil {os} : Sel os [] os
  | all {os} : Sel os os []
  | cons {p os os' fp rest} : Pick p os os' → Sel os' fp rest → Sel os (p :: fp) rest
theorem Sel.perm {α : Type} {os fp rest : List α} (h : Sel os fp rest) : os.Perm (fp ++ rest) := by
  induction h with
  | nil => exact List.Perm.refl _
  | all => rw [List.append_nil]
  | cons p _ ih => exact p.perm.trans (List.Perm.cons _ ih)
inductive Suf {α : Type} (rest : List α) : List α → Prop
  | here : Suf rest rest
  | more {x l} : Suf rest l → Suf rest (x :: l)
theorem Suf.app {α : Type} {rest l : List α} (h : Suf rest l) : ∃ j, l = j ++ rest := by
  induction h with
  | here => exact ⟨[], rfl⟩
  | more _ ih => obtain ⟨j, rfl⟩ := ih; exact ⟨_ :: j, rfl⟩
theorem Suf.nil {α : Type} : ∀ l : List α, Suf [] l
  | [] => .here
  | _ :: l => .more (Suf.nil l)
section
variable {g : G} {X : Cx g} {σ : St} {s : Shared}
theorem sub_of {α β : Type} {f : α → β} {os fp rest r : List α} (h : Sel os fp r) (k : Suf rest r) (nd : (os.map f).Nodup) : (∀ p ∈ fp ++ rest, p ∈ os) ∧ ((fp ++ rest).map f).Nodup := by
  obtain ⟨j, rfl⟩ := k.app
  have pm := h.perm
  have sb : (fp ++ rest).Sublist (fp ++ (j ++ rest)) := List.Sublist.append_left (List.sublist_append_right _ _) _
  exact ⟨fun p hp => pm.mem_iff.mpr (sb.subset hp), List.Nodup.sublist (sb.map f) ((pm.map f).nodup_iff.mp nd)⟩
theorem Rep.sel (R : Rep X σ s) {fp rest r : Os} (h : Sel σ.os fp r) (k : Suf rest r) : Rep X ⟨σ.lm, fp ++ rest⟩ s :=
  R.weak (fun _ h => h) R.lm (sub_of h k R.os_nd).1 (sub_of h k R.os_nd).2
theorem Rep.selL (R : Rep X σ s) {lm' r : Lm} (h : Sel σ.lm lm' r) : Rep X ⟨lm', σ.os⟩ s := by
  have := sub_of (rest := []) h (Suf.nil _) R.lm
  rw [List.append_nil] at this
  exact R.weak this.1 this.2 (fun _ h => h) R.os_nd
end

section
variable {g : G} {X : Cx g} {σ : St} {Q : VQ}
theorem CallV_fn {n : Nat} {f : Addr} {args : List MV} {fp rest : Os} {Post : MV → Os → Prop} (hf : Fn g n f args fp Post) (hr : Room X.A n) (hs : Sel σ.os fp rest) (q : ∀ mv fp', Post mv fp' → Q mv ⟨σ.lm, fp' ++ rest⟩) : CallV X (.ref f) args σ Q := fun vs hv s R =>
  wpAny_call (codeAny_mono (hf X σ.lm rest vs hr hv s (R.perm hs.perm.symm)) fun r s' ⟨v, mv, fp', e, i, p, R'⟩ => by subst e; exact ⟨_, R', mv, i, q mv fp' p⟩)

theorem bindL_ne {kindOf : Str → Option NameKind} : ∀ {binds : List (Str × Value)} {m : Str → Option Value} {x : Str}, x ∉ binds.map (·.1) → bindL kindOf binds m x = m x
  | [], _, _, _ => rfl
  | (n, v) :: r, m, x, h => by
    rw [List.map_cons, List.mem_cons, not_or] at h
    show bindL kindOf r _ x = _
    rw [bindL_ne h.2]
    split
    · exact if_neg h.1
    · rfl
theorem bindL_get {kindOf : Str → Option NameKind} : ∀ {binds : List (Str × Value)} {m : Str → Option Value} {x : Str} {v : Value}, (binds.map (·.1)).Nodup → (x, v) ∈ binds → kindOf x = some .local → bindL kindOf binds m x = some v
  | (n, u) :: r, m, x, v, hn, hm, hk => by
    rw [List.map_cons, List.nodup_cons] at hn
    show bindL kindOf r _ x = _
    rcases List.mem_cons.mp hm with e | hm
    · cases e
      rw [bindL_ne hn.1, if_pos hk]
      exact if_pos rfl
    · exact bindL_get hn.2 hm hk
theorem bindC_ne {kindOf : Str → Option NameKind} : ∀ {binds : List (Str × Value)} {m : Str → Option Value} {x : Str}, x ∉ binds.map (·.1) → bindC kindOf binds m x = m x
  | [], _, _, _ => rfl
  | (n, v) :: r, m, x, h => by
    rw [List.map_cons, List.mem_cons, not_or] at h
    show bindC kindOf r _ x = _
    rw [bindC_ne h.2]
    split
    · rfl
    · exact if_neg h.1
theorem bindC_get {kindOf : Str → Option NameKind} : ∀ {binds : List (Str × Value)} {m : Str → Option Value} {x : Str} {v : Value}, (binds.map (·.1)).Nodup → (x, v) ∈ binds → kindOf x ≠ some .local → bindC kindOf binds m x = some v
  | (n, u) :: r, m, x, v, hn, hm, hk => by
    rw [List.map_cons, List.nodup_cons] at hn
    show bindC kindOf r _ x = _
    rcases List.mem_cons.mp hm with e | hm
    · cases e
      rw [bindC_ne hn.1, if_neg hk]
      exact if_pos rfl
    · exact bindC_get hn.2 hm hk
theorem lookup_of_mem {α : Type} : ∀ {l : List (Str × α)}, (l.map (·.1)).Nodup → ∀ {x : Str} {v : α}, (x, v) ∈ l → l.lookup x = some v
  | (y, u) :: r, hn, x, v, hm => by
    rw [List.map_cons, List.nodup_cons] at hn
    rw [List.lookup_cons]
    rcases List.mem_cons.mp hm with e | hm
    · cases e; simp
    · have : x ≠ y := fun e => hn.1 (e ▸ List.mem_map_of_mem (f := (·.1)) hm)
      rw [show (x == y) = false from beq_false_of_ne this]
      exact lookup_of_mem hn.2 hm

/-- the frame of a call -/
noncomputable def fnCx (g : G) (A : Around) (fd : FuncData) (f L : Addr) (fro : Os) (hh : A.handled = none) (hk : fd.scope.kind = .function) (hg : fd.globals = mainGlobals) (hb : fd.builtins = builtinsNs) : Cx g where
  A := A.deeper (callEnvC fd L f)
  env := callEnvC fd L f
  cls := cellsFrom (L + 1) fd.scope.names []
  fro := fro
  hh := hh
  kind := hk
  glob := hg
  bui := hb
  sub := fun x c h => mem_of_lookup h

noncomputable def zipArgs : List Str → List MV → Lm
  | x :: xs, a :: as => (x, a) :: zipArgs xs as
  | _, _ => []
theorem zipArgs_mem : ∀ {ps : List Str} {args : List MV} {vs : List Value}, All2 MV.Is args vs → ∀ {x mv}, (x, mv) ∈ zipArgs ps args → ∃ v, (x, v) ∈ ps.zip vs ∧ mv.Is v
  | [], _, _, _, _, _, h => by cases h
  | _ :: _, [], _, _, _, _, h => by cases h
  | p :: ps, a :: as, _, .cons i r, x, mv, h => by
    rcases List.mem_cons.mp h with e | h
    · cases e; exact ⟨_, .head _, i⟩
    · obtain ⟨v, hv, iv⟩ := zipArgs_mem r h; exact ⟨v, .tail _ hv, iv⟩
theorem zipArgs_keys : ∀ {ps : List Str} {args : List MV}, ((zipArgs ps args).map (·.1)).Sublist ps
  | [], _ => List.Sublist.refl _
  | _ :: _, [] => List.nil_sublist _
  | p :: ps, a :: as => List.Sublist.cons_cons _ zipArgs_keys

noncomputable abbrev retOf : Flow → Value
  | .ret v => v
  | _ => .none

theorem zip_keys_sub {β : Type} : ∀ {ps : List Str} {vs : List β}, ((ps.zip vs).map (·.1)).Sublist ps
  | [], _ => List.nil_sublist _
  | p :: ps, [] => List.nil_sublist _
  | p :: ps, v :: vs => List.Sublist.cons_cons _ zip_keys_sub
theorem cellsFrom_shift : ∀ (names : List (Str × NameKind)) (n m : Nat) (a b : List (Str × Addr)), a.map (·.1) = b.map (·.1) → (cellsFrom n names a).map (·.1) = (cellsFrom m names b).map (·.1)
  | [], _, _, _, _, h => h
  | (x, k) :: r, n, m, a, b, h => by
    unfold cellsFrom
    split
    · exact cellsFrom_shift r _ _ _ _ (by simp [h])
    · exact cellsFrom_shift r _ _ _ _ h

theorem one {a : MV} {vs : List Value} (h : All2 MV.Is [a] vs) : ∃ v, vs = [v] ∧ a.Is v := by
  cases h with
  | cons i h => cases h; exact ⟨_, rfl, i⟩
theorem two {a b : MV} {vs : List Value} (h : All2 MV.Is [a, b] vs) : ∃ v u, vs = [v, u] ∧ a.Is v ∧ b.Is u := by
  cases h with
  | cons i h => cases h with
    | cons j h => cases h; exact ⟨_, _, rfl, i, j⟩
theorem lst0 {α : Type} {l : List α} (h : l.length = 0) : l = [] := List.length_eq_zero_iff.mp h
theorem lst1 {α : Type} {l : List α} (h : l.length = 1) : ∃ v1, l = [v1] := by
  cases l with
  | nil => cases h
  | cons v1 l => exact ⟨v1, by rw [lst0 (Nat.succ.inj h)]⟩
theorem lst2 {α : Type} {l : List α} (h : l.length = 2) : ∃ v1 v2, l = [v1, v2] := by
  cases l with
  | nil => cases h
  | cons v1 l =>
    obtain ⟨v2, rfl⟩ := lst1 (Nat.succ.inj h)
    exact ⟨v1, v2, rfl⟩
theorem lst3 {α : Type} {l : List α} (h : l.length = 3) : ∃ v1 v2 v3, l = [v1, v2, v3] := by
  cases l with
  | nil => cases h
  | cons v1 l =>
    obtain ⟨v2, v3, rfl⟩ := lst2 (Nat.succ.inj h)
    exact ⟨v1, v2, v3, rfl⟩
theorem lst4 {α : Type} {l : List α} (h : l.length = 4) : ∃ v1 v2 v3 v4, l = [v1, v2, v3, v4] := by
  cases l with
  | nil => cases h
  | cons v1 l =>
    obtain ⟨v2, v3, v4, rfl⟩ := lst3 (Nat.succ.inj h)
    exact ⟨v1, v2, v3, v4, rfl⟩
theorem lst5 {α : Type} {l : List α} (h : l.length = 5) : ∃ v1 v2 v3 v4 v5, l = [v1, v2, v3, v4, v5] := by
  cases l with
  | nil => cases h
  | cons v1 l =>
    obtain ⟨v2, v3, v4, v5, rfl⟩ := lst4 (Nat.succ.inj h)
    exact ⟨v1, v2, v3, v4, v5, rfl⟩
theorem lst6 {α : Type} {l : List α} (h : l.length = 6) : ∃ v1 v2 v3 v4 v5 v6, l = [v1, v2, v3, v4, v5, v6] := by
  cases l with
  | nil => cases h
  | cons v1 l =>
    obtain ⟨v2, v3, v4, v5, v6, rfl⟩ := lst5 (Nat.succ.inj h)
    exact ⟨v1, v2, v3, v4, v5, v6, rfl⟩
theorem Fn.of_body {n : Nat} {f : Addr} {args : List MV} {fp : Os} {Post : MV → Os → Prop} {oc : Value} {od : Option Addr} {osl : Array (Option Value)} {fd : FuncData} {body : List Stmt} (ps : List Str)
    (ho : g.K.lookup f = some ⟨oc, od, .func fd, osl⟩) (hcd : codeIn g.K fd.code fd.qualname = true) (hb : fd.body = .stmts body) (hclo : fd.closure = [])
    (hk : fd.scope.kind = .function) (hg : fd.globals = mainGlobals) (hbu : fd.builtins = builtinsNs) (hco : fd.scope.isCoroutine = false) (hge : fd.scope.isGenerator = false)
    (hbind : ∀ vs : List Value, vs.length = ps.length → bindArgs fd ⟨vs, []⟩ = Pure.pure (ps.zip vs)) (hlen : args.length = ps.length)
    (hkinds : (ps.all fun x => (fd.scope.names.lookup x == some .local || fd.scope.names.lookup x == some .cell) && !(x == ("__debug__" : Str))) = true)
    (hps : ps.Nodup) (hnd : ((cellsFrom 0 fd.scope.names []).map (·.1)).Nodup)
    (h : ∀ (A : Around) (L : Addr) (fro : Os) (hh : A.handled = none) (rest : Os), Room (A.deeper (callEnvC fd L f)) n →
      Exs (fnCx g A fd f L fro hh hk hg hbu) body ⟨zipArgs ps args, fp ++ rest⟩ fun fl σ' => ∃ mv fp' r, mv.Is (retOf fl) ∧ Post mv fp' ∧ Sel σ'.os fp' r ∧ Suf rest r) :
    Fn g (n + 1) f args fp Post := by
  intro X lm rest vs hr hv s R
  have hvl : vs.length = ps.length := by rw [← hv.length, hlen]
  -- the caller's own objects
  obtain ⟨mL, ⟨oL, esL, epL, hoL, hoL2⟩, hbd⟩ := R.ns
  have cellO : ∀ p ∈ X.cls, ∃ o, s.heap.get? p.2 = some o := fun p hp => by obtain ⟨_, o, ho, _⟩ := R.cl p hp; exact ⟨o, ho⟩
  let co : Addr → Obj := fun a => (s.heap.get? a).getD oL
  let own : Os := X.cls.map fun p => (p.2, MO.raw (co p.2))
  have hco' : ∀ p ∈ X.cls, s.heap.get? p.2 = some (co p.2) := fun p hp => by
    obtain ⟨o, ho⟩ := cellO p hp
    show _ = some ((s.heap.get? p.2).getD oL)
    rw [ho]; rfl
  let fro' : Os := X.fro ++ ((X.env.locals, MO.raw oL) :: own)
  let rest' : Os := rest ++ fro'
  have hownk : own.map (·.1) = X.cls.map (·.2) := by simp [own, List.map_map, Function.comp_def]
  refine codeAny_call_cells hr.depth (R.inK _ _ ho) rfl (g.lim.keeps R.keep) (codeRec_of R.inK hcd) hb (hbind vs hvl) hclo ?_ ?_ hco hge hk
  · intro x hx
    refine kindsX (scope := fd.scope) (binds := ps.zip vs) (List.all_eq_true.mpr fun y hy => ?_) _ x hx
    have : y.1 ∈ ps := zip_keys_sub.subset (List.mem_map_of_mem (f := (·.1)) hy)
    have := List.all_eq_true.mp hkinds _ this
    rw [Bool.and_eq_true] at this
    exact this.1
  · intro s₁ ic
    obtain ⟨h₁, tk₁, hs₁⟩ := ic.toInCall.same
    have keep := ic.toInCall.keep
    have fresh := ic.toInCall.fresh
    have hLeq : (callEnvC fd s.heap.objs.size f).locals = s.heap.objs.size := rfl
    have cellsN : ((callEnvC fd s.heap.objs.size f).cells.map (·.1)).Nodup := by
      show ((cellsFrom (s.heap.objs.size + 1) fd.scope.names []).map (·.1)).Nodup
      rw [cellsFrom_shift fd.scope.names _ 0 [] [] rfl]; exact hnd
    have R₁ : Rep (fnCx g X.A fd f s.heap.objs.size fro' X.hh hk hg hbu) ⟨zipArgs ps args, fp ++ rest⟩ s₁ := by
      have cellAt : ∀ p ∈ (callEnvC fd s.heap.objs.size f).cells, s₁.heap.IsCell p.2 (bindC (callEnvC fd s.heap.objs.size f).kindOf (ps.zip vs) (fun _ => none) p.1) := fun p hp =>
        ic.cell p.1 p.2 (lookup_of_mem cellsN hp)
      have lows : ∀ a ∈ (fp ++ rest').map (·.1), a < s.heap.objs.size := by
        intro a ha
        simp only [rest', fro', List.map_append, List.map_cons, List.mem_append, List.mem_cons, hownk] at ha
        rcases ha with ha | ha | ha | rfl | ha
        · exact R.lt a (List.mem_cons_of_mem _ (List.mem_append_right _ (by simp only [List.map_append, List.mem_append]; exact .inl (.inl ha))))
        · exact R.lt a (List.mem_cons_of_mem _ (List.mem_append_right _ (by simp only [List.map_append, List.mem_append]; exact .inl (.inr ha))))
        · exact R.lt a (List.mem_cons_of_mem _ (List.mem_append_right _ (by simp only [List.map_append, List.mem_append]; exact .inr ha)))
        · exact R.lt _ (.head _)
        · exact R.lt a (List.mem_cons_of_mem _ (List.mem_append_left _ ha))
      refine ⟨?_, fun b o e => keep b o (R.keep b o e), ⟨_, ic.toInCall.ns, ?_⟩, fun p hp => ⟨_, cellAt p hp⟩, ?_, ?_, ?_, ?_⟩
      · rw [hs₁]; exact R.core
      · intro x mv hx
        obtain ⟨v, hz, i⟩ := zipArgs_mem hv hx
        have hzn : ((ps.zip vs).map (·.1)).Nodup := hps.sublist zip_keys_sub
        have hxp : x ∈ ps := zip_keys_sub.subset (List.mem_map_of_mem (f := (·.1)) hz)
        have hkx := List.all_eq_true.mp hkinds _ hxp
        rw [Bool.and_eq_true] at hkx
        refine ⟨by simpa using hkx.2, ?_⟩
        rcases Bool.or_eq_true_iff.mp hkx.1 with hl | hc
        · have hl' : fd.scope.names.lookup x = some .local := by simpa using hl
          exact .inl ⟨hl', v, bindL_get hzn hz hl', i⟩
        · have hc' : fd.scope.names.lookup x = some .cell := by simpa using hc
          obtain ⟨c, hcs⟩ := Option.isSome_iff_exists.mp (cellsFrom_some fd.scope.names (s.heap.objs.size + 1) [] (.inl hc'))
          refine .inr ⟨hc', c, v, hcs, ?_, i⟩
          have := ic.cell x c hcs
          rwa [bindC_get hzn hz (by show fd.scope.names.lookup x ≠ _; rw [hc']; intro e; cases e)] at this
      · intro p hp
        rcases List.mem_append.mp hp with hp | hp
        · exact (R.os p (List.mem_append_left _ hp)).keep fun o e => keep _ o e
        · rcases List.mem_append.mp (show p ∈ fro' from hp) with hp | hp
          · exact (R.os p (List.mem_append_right _ hp)).keep fun o e => keep _ o e
          · rcases List.mem_cons.mp hp with rfl | hp
            · exact keep _ _ hoL
            · obtain ⟨q, hq, rfl⟩ := List.mem_map.mp hp
              exact keep _ _ (hco' q hq)
      · have old : (fp ++ rest').map (·.1) = (fp ++ rest ++ X.fro).map (·.1) ++ (X.env.locals :: X.cls.map (·.2)) := by simp [rest', fro', hownk]
        have oldN : ((fp ++ rest').map (·.1)).Nodup := by
          rw [old]
          have := R.nd
          unfold Cx.addrs at this
          refine (List.Perm.nodup_iff ?_).mp this
          exact List.perm_append_comm (l₁ := X.env.locals :: X.cls.map (·.2))
        show (s.heap.objs.size :: ((callEnvC fd s.heap.objs.size f).cells.map (·.2) ++ (fp ++ rest ++ fro').map (·.1))).Nodup
        rw [show fp ++ rest ++ fro' = fp ++ rest' from List.append_assoc _ _ _]
        refine List.nodup_cons.mpr ⟨fun hm => ?_, List.nodup_append.mpr ⟨List.pairwise_map.mpr ic.apart, oldN, fun a ha b hb e => ?_⟩⟩
        · rcases List.mem_append.mp hm with hm | hm
          · obtain ⟨p, hp, e⟩ := List.mem_map.mp hm
            have := ic.above p.1 p.2 hp
            rw [e] at this
            exact Nat.lt_irrefl _ this
          · exact Nat.lt_irrefl _ (lows _ hm)
        · obtain ⟨p, hp, rfl⟩ := List.mem_map.mp ha
          have h1 : s.heap.objs.size < p.2 := ic.above p.1 p.2 hp
          have h2 := lows _ hb
          rw [e] at h1
          exact absurd h1 (Nat.not_lt.mpr (Nat.le_of_lt h2))
      · intro a ha
        have ha' : a ∈ s.heap.objs.size :: ((callEnvC fd s.heap.objs.size f).cells.map (·.2) ++ (fp ++ rest ++ fro').map (·.1)) := ha
        rcases List.mem_cons.mp ha' with rfl | ha'
        · exact R.size
        · rcases List.mem_append.mp ha' with ha' | ha'
          · obtain ⟨p, hp, rfl⟩ := List.mem_map.mp ha'
            exact Nat.le_trans R.size (Nat.le_of_lt (ic.above p.1 p.2 hp))
          · simp only [fro', List.map_append, List.map_cons, List.mem_append, List.mem_cons, hownk] at ha'
            rcases ha' with (ha' | ha') | ha' | rfl | ha'
            · exact R.new a (List.mem_cons_of_mem _ (List.mem_append_right _ (by simp only [List.map_append, List.mem_append]; exact .inl (.inl ha'))))
            · exact R.new a (List.mem_cons_of_mem _ (List.mem_append_right _ (by simp only [List.map_append, List.mem_append]; exact .inl (.inr ha'))))
            · exact R.new a (List.mem_cons_of_mem _ (List.mem_append_right _ (by simp only [List.map_append, List.mem_append]; exact .inr ha')))
            · exact R.new _ (.head _)
            · exact R.new a (List.mem_cons_of_mem _ (List.mem_append_left _ ha'))
      · exact hps.sublist zipArgs_keys
    refine wpAny_mono (h X.A s.heap.objs.size fro' X.hh rest (hr.deeper _) s₁ R₁) (fun fl s' ⟨σ', R', mv, fp', r, i, p, hsel, hsuf⟩ => ?_) fun _ _ e => e.elim
    have R' := R'.sel hsel hsuf
    have back : Rep X ⟨lm, fp' ++ rest⟩ s' := by
      have atL : s'.heap.get? X.env.locals = some oL := R'.os (X.env.locals, MO.raw oL) (List.mem_append_right _ (List.mem_append_right _ (.head _)))
      have atC : ∀ p ∈ X.cls, s'.heap.get? p.2 = some (co p.2) := fun p hp =>
        R'.os (p.2, MO.raw (co p.2)) (List.mem_append_right _ (List.mem_append_right _ (.tail _ (List.mem_map.mpr ⟨p, hp, rfl⟩))))
      have nd' : ((fp' ++ rest ++ fro').map (·.1)).Nodup := R'.all_nd
      have hperm : (X.addrs (fp' ++ rest)).Perm ((fp' ++ rest ++ fro').map (·.1)) := by
        have old : (fp' ++ rest ++ fro').map (·.1) = (fp' ++ rest ++ X.fro).map (·.1) ++ (X.env.locals :: X.cls.map (·.2)) := by simp [fro', hownk]
        rw [old]
        exact List.perm_append_comm (l₁ := X.env.locals :: X.cls.map (·.2))
      refine ⟨R'.core, R'.keep, ⟨mL, ⟨oL, esL, epL, atL, hoL2⟩, fun x mv hx => (hbd x mv hx).keep fun p hp o e => ?_⟩, fun p hp => ?_, fun p hp => ?_, hperm.nodup_iff.mpr nd', fun a ha => ?_, R.lm⟩
      · rw [hco' p hp] at e
        cases e
        exact atC p hp
      · obtain ⟨v?, o, ho, r⟩ := R.cl p hp
        rw [hco' p hp] at ho
        cases ho
        exact ⟨v?, _, atC p hp, r⟩
      · rcases List.mem_append.mp hp with hp | hp
        · exact R'.os p (List.mem_append_left _ hp)
        · exact R'.os p (List.mem_append_right _ (List.mem_append_left _ hp))
      · exact R'.new a (List.mem_cons_of_mem _ (List.mem_append_right _ (hperm.mem_iff.mp ha)))
    cases fl with
    | ret v => exact ⟨_, mv, fp', rfl, i, p, back⟩
    | next => exact ⟨_, mv, fp', rfl, i, p, back⟩
    | brk => exact ⟨_, mv, fp', rfl, i, p, back⟩
    | cont => exact ⟨_, mv, fp', rfl, i, p, back⟩
end

theorem isStr_str (x y : Str) (t : Tok) : (Value.str y t).isStr x = decide (x = y) := by
  show (y == x) = _
  by_cases h : x = y
  · subst h; rw [decide_eq_true rfl]; exact beq_self_eq_true x
  · rw [decide_eq_false h]; exact beq_false_of_ne (Ne.symm h)
theorem getL_putL {x y : Str} {hsh : Int} {t : Tok} {v : Value} : ∀ {es : List DictEntry}, (∀ e ∈ es, ∃ x t, e.key = .str x t) → getL y (putL x hsh (.str x t) v es) = if y = x then some (some v) else getL y es
  | [], _ => by
    show getL y [⟨hsh, .str x t, v⟩] = _
    unfold getL
    rw [List.find?_cons]
    dsimp only
    rw [isStr_str]
    by_cases h : y = x
    · rw [decide_eq_true h, if_pos h]
    · rw [decide_eq_false h, if_neg h]; rfl
  | e :: r, hk => by
    obtain ⟨z, u, hz⟩ := hk e (.head _)
    have ih := getL_putL (x := x) (y := y) (hsh := hsh) (t := t) (v := v) (es := r) fun e he => hk e (.tail _ he)
    have rk : e.refKey = false := by simp [DictEntry.refKey, hz]
    unfold putL
    rw [hz, isStr_str]
    by_cases hxz : x = z
    · subst hxz
      simp only [decide_true, if_true]
      unfold getL
      rw [List.find?_cons, List.find?_cons, hz]
      dsimp only
      rw [isStr_str]
      by_cases h : y = x
      · simp [h]
      · simp only [decide_eq_false h, if_neg h]
        rw [List.any_cons, List.any_cons, rk]
        show (match List.find? (fun x => x.key.isStr y) r with | some e => some (some e.val) | none => if (DictEntry.refKey ⟨e.hash, .str x u, v⟩ || r.any fun x => x.refKey) = true then none else some none) = _
        rw [show DictEntry.refKey ⟨e.hash, .str x u, v⟩ = false from rfl]
        rfl
    · simp only [decide_eq_false hxz, Bool.false_eq_true, if_false]
      unfold getL at ih ⊢
      rw [List.find?_cons, List.find?_cons, hz, isStr_str]
      by_cases h : y = z
      · subst h
        have : ¬ y = x := fun e => hxz e.symm
        simp [this]
      · simp only [decide_eq_false h]
        rw [List.any_cons, List.any_cons, rk, Bool.false_or, Bool.false_or]
        exact ih
theorem putL_keys {x : Str} {hsh : Int} {t : Tok} {v : Value} : ∀ {es : List DictEntry}, (∀ e ∈ es, ∃ x t, e.key = .str x t) → ∀ e ∈ putL x hsh (.str x t) v es, ∃ x t, e.key = .str x t
  | [], _, e, he => by cases List.mem_singleton.mp he; exact ⟨x, t, rfl⟩
  | a :: r, hk, e, he => by
    unfold putL at he
    split at he
    · rcases List.mem_cons.mp he with rfl | he
      · exact hk a (.head _)
      · exact hk e (.tail _ he)
    · rcases List.mem_cons.mp he with rfl | he
      · exact hk e (.head _)
      · exact putL_keys (fun e he => hk e (.tail _ he)) e he
theorem putL_len {x : Str} {hsh : Int} {key v : Value} : ∀ {es : List DictEntry}, (putL x hsh key v es).length ≤ es.length + 1 ∧ ((∃ w, getL x es = some (some w)) → (putL x hsh key v es).length = es.length)
  | [] => ⟨Nat.le_refl _, fun ⟨w, h⟩ => by cases h⟩
  | a :: r => by
    have ih := putL_len (x := x) (hsh := hsh) (key := key) (v := v) (es := r)
    unfold putL
    split
    · rename_i h
      exact ⟨Nat.le_succ _, fun _ => rfl⟩
    · rename_i h
      refine ⟨Nat.succ_le_succ ih.1, fun ⟨w, hw⟩ => ?_⟩
      refine congrArg (· + 1) (ih.2 ?_)
      unfold getL at hw ⊢
      rw [List.find?_cons, Bool.not_eq_true _ |>.mp h] at hw
      cases q : List.find? (fun e => e.key.isStr x) r with
      | some e => exact ⟨_, rfl⟩
      | none => rw [q] at hw; dsimp only at hw; split at hw <;> cases hw
theorem NsEs.rep {fs fs' : List (Str × MV)} {es : List DictEntry} {x : Str} {mv : MV} {v : Value} {hsh : Int} {t : Tok} (N : NsEs fs es) (u : LRep x mv fs fs') (i : mv.Is v) : NsEs fs' (putL x hsh (.str x t) v es) := by
  obtain ⟨w, hw⟩ := u.old
  obtain ⟨v0, h0, _⟩ := N.have_ x w hw
  refine ⟨?_, putL_keys N.keys, fun y m hy => ?_, fun y hy => ?_, by rw [u.map]; exact N.nd⟩
  · rw [putL_len.2 ⟨v0, h0⟩]
    have := congrArg List.length u.map
    rw [List.length_map, List.length_map] at this
    rw [this]; exact N.len
  · rw [getL_putL N.keys]
    rcases u.cases N.nd _ hy with e | ⟨h1, h2⟩
    · cases e; exact ⟨v, by simp, i⟩
    · obtain ⟨v', h', i'⟩ := N.have_ y m h1
      exact ⟨v', by rw [if_neg h2]; exact h', i'⟩
  · rw [u.map] at hy
    rw [getL_putL N.keys, if_neg]
    · exact N.lack y hy
    · rintro rfl
      exact hy (List.mem_map_of_mem (f := (·.1)) hw)
theorem NsEs.new {fs : List (Str × MV)} {es : List DictEntry} {x : Str} {mv : MV} {v : Value} {hsh : Int} {t : Tok} (N : NsEs fs es) (hn : x ∉ fs.map (·.1)) (i : mv.Is v) : NsEs ((x, mv) :: fs) (putL x hsh (.str x t) v es) := by
  refine ⟨Nat.le_trans putL_len.1 (Nat.succ_le_succ N.len), putL_keys N.keys, fun y m hy => ?_, fun y hy => ?_, List.nodup_cons.mpr ⟨hn, N.nd⟩⟩
  · rw [getL_putL N.keys]
    rcases List.mem_cons.mp hy with e | hy'
    · cases e; exact ⟨v, by simp, i⟩
    · obtain ⟨v', h', i'⟩ := N.have_ y m hy'
      refine ⟨v', ?_, i'⟩
      rw [if_neg]
      · exact h'
      · intro e
        exact hn (List.mem_map.mpr ⟨_, hy', e⟩)
  · rw [List.map_cons, List.mem_cons, not_or] at hy
    rw [getL_putL N.keys, if_neg hy.1]
    exact N.lack y hy.2
theorem NsEs.empty : NsEs [] [] := ⟨Nat.le_refl _, fun _ h => (nomatch h), fun _ _ h => (nomatch h), fun _ _ => rfl, List.nodup_nil⟩

section
variable {g : G} {X : Cx g} {σ : St} {Q : VQ}

/-! arguments -/
noncomputable def Arg (X : Cx g) (es : List PySem.Expr) (pos : Pos) (σ : St) (Q : List MV → St → Prop) : Prop :=
  Tri X (spliced (backTo pos (starEach es X.env))) σ fun vs σ' => ∃ mvs, All2 MV.Is mvs vs ∧ Q mvs σ'
theorem Arg_nil {pos : Pos} {Q : List MV → St → Prop} (q : Q [] σ) : Arg X [] pos σ Q := fun s R => wpAny_pure ⟨σ, R, [], .nil, q⟩
theorem Arg_cons {e : PySem.Expr} {rest : List PySem.Expr} {pos : Pos} {Q : List MV → St → Prop} (h : Ev X e σ fun a σ₁ => Arg X rest pos σ₁ fun as σ₂ => Q (a :: as) σ₂)
    (he : starEach (e :: rest) X.env = (false, eval e X.env) :: starEach rest X.env := by rfl) : Arg X (e :: rest) pos σ Q := fun s R => by
  rw [he]
  show wpAny _ _ (spliced ((false, eval e X.env) :: backTo pos (starEach rest X.env))) _ _ s
  unfold spliced
  refine wpAny_bind (wpAny_mono (h s R) (fun v s₁ ⟨σ₁, R₁, mv, i, h₁⟩ => ?_) fun _ _ e => e)
  simp only [Bool.false_eq_true, if_false]
  refine wpAny_bind (wpAny_pure (wpAny_bind (wpAny_holding (wpAny_mono (h₁ s₁ R₁) (fun vs s₂ ⟨σ₂, R₂, mvs, hi, q⟩ => ?_) fun _ _ e => e))))
  exact wpAny_pure ⟨σ₂, R₂, _, .cons i hi, q⟩

noncomputable def Kp (g : G) (f : Value) : Prop := ∀ h, g.K.In h → ∃ k, (k = Keeper.frame ∨ k = Keeper.machine ∨ k = Keeper.boundFrame) ∧ Looks (model g.prog g.w) h (keeperOf f) k
theorem Kp_K {f : Value} (h : keepIn g.K f = true) : Kp g f := fun _ X => keeps_K h _ X
theorem Kp_builtin {i : String} : Kp g (.builtin i) := fun _ _ => ⟨.machine, .inr (.inl rfl), Looks.of_pure rfl⟩
theorem Kp_type {i : String} : Kp g (.type i) := fun _ _ => ⟨.machine, .inr (.inl rfl), Looks.of_pure rfl⟩

theorem plain_any {es : List PySem.Expr} {env : Env} {pos : Pos} : (backTo pos (starEach es env)).any (·.1) = (starEach es env).any (·.1) := by
  unfold backTo
  rw [List.any_map]; rfl

theorem callWith_rule {pos : Pos} {f : Value} {first : List Value} {firstM : List MV} {es : List PySem.Expr} (hk : Kp g f) (hfirst : All2 MV.Is firstM first) (hp : (starEach es X.env).any (·.1) = false)
    (h : Arg X es pos σ fun as σ₁ => CallV X f (firstM ++ as) σ₁ Q) : Tri X (callWith pos f first (backTo pos (starEach es X.env)) []) σ (VPost Q) := fun s R => by
  refine callWith_of (P := fun h => g.K.In h) (by rw [plain_any, hp]; rfl) hk ?_
  have main : wpAny (model g.prog g.w) X.A (spliced (backTo pos (starEach es X.env))) (fun vs s' => g.K.In s'.heap ∧ wpAny (model g.prog g.w) X.A (call f (first ++ vs)) (fun a s' => ∃ σ', Rep X σ' s' ∧ VPost Q a σ') (fun _ _ => False) s') (fun _ _ => False) s :=
    wpAny_mono (h s R) (fun vs s₁ ⟨σ₁, R₁, as, hi, q⟩ => ⟨R₁.inK, q _ (hfirst.append hi) s₁ R₁⟩) fun _ _ e => e
  cases q : starEach es X.env with
  | nil =>
    rw [q] at main
    show wpAny _ _ (evalArgs f true [] []) _ _ _
    unfold evalArgs
    show wpAny _ X.A (spliced [] >>= _) _ _ s
    refine wpAny_bind (wpAny_mono main (fun vs s' h' => ?_) fun _ _ x => x)
    refine wpAny_bind (wpAny_pure ?_)
    refine wpAny_holding ?_
    exact wpAny_bind (wpAny_pure (wpAny_bind (wpAny_pure (wpAny_pure h'))))
  | cons p r =>
    obtain ⟨b, t⟩ := p
    rw [q] at main hp
    have hb : b = false := by
      cases b with
      | false => rfl
      | true => simp at hp
    subst hb
    exact evalArgs_plain main

/-! calls by a name of the top -/
theorem Ev_callK {x : Str} {p pos : Pos} {f : Addr} {es : List PySem.Expr} (e : nsIn g.K mainGlobals x = some (some (.ref f))) (hk : keepIn g.K (.ref f) = true) (hx : X.env.kindOf x = some .globalImplicit) (h : Arg X es pos σ fun as σ₁ => CallV X (.ref f) as σ₁ Q)
    (hp : (starEach es X.env).any (·.1) = false := by rfl) (hd : (x == ("__debug__" : Str)) = false := by decide +kernel) : Ev X (.Call (.Name x p) es [] pos) σ Q := fun s R => by
  show wpAny _ _ (eval (.Name x p) X.env >>= fun f => callWith pos f [] (backTo pos (starEach es X.env)) (backToKw pos (keywordEach [] X.env))) _ _ s
  refine wpAny_bind (wpAny_mono (Ev_glob (Q := fun mv σ' => mv = .val (.ref f) ∧ σ' = σ) e (mv := .val (.ref f)) rfl hx ⟨rfl, rfl⟩ hd s R) (fun v s₁ ⟨σ₁, R₁, mv, i, e1, e2⟩ => ?_) fun _ _ e => e)
  subst e1; subst e2; subst i
  exact callWith_rule (first := []) (firstM := []) (Kp_K hk) .nil hp h s₁ R₁
theorem Ev_callB {x : Str} {p pos : Pos} {f : Value} {es : List PySem.Expr} (e : nsIn g.K mainGlobals x = some none) (b : bootBuiltins x = some f) (hk : Kp g f) (hx : X.env.kindOf x = some .globalImplicit) (h : Arg X es pos σ fun as σ₁ => CallV X f as σ₁ Q)
    (hp : (starEach es X.env).any (·.1) = false := by rfl) (hn : x ≠ "__name__" := by decide +kernel) (hd : (x == ("__debug__" : Str)) = false := by decide +kernel) : Ev X (.Call (.Name x p) es [] pos) σ Q := fun s R => by
  show wpAny _ _ (eval (.Name x p) X.env >>= fun f => callWith pos f [] (backTo pos (starEach es X.env)) (backToKw pos (keywordEach [] X.env))) _ _ s
  refine wpAny_bind (wpAny_mono (Ev_boot (Q := fun mv σ' => mv = .val f ∧ σ' = σ) e b hx ⟨rfl, rfl⟩ hn hd s R) (fun v s₁ ⟨σ₁, R₁, mv, i, e1, e2⟩ => ?_) fun _ _ e => e)
  subst e1; subst e2; subst i
  exact callWith_rule (first := []) (firstM := []) hk .nil hp h s₁ R₁

/-! own objects -/
structure Own (g : G) (C : Addr) (name : Str) : Prop where
  pg : plainGet g.K C name = true
  hd : hasDictIn g.K C = true
  no : findIn g.K (.ref C) name = some none
structure Meth (g : G) (C : Addr) (name : Str) (f : Addr) : Prop where
  pg : plainGet g.K C name = true
  fd : findIn g.K (.ref C) name = some (some (.ref f))
  ty : typeIn g.K (.ref f) = some (.type "function")
  kp : keepIn g.K (.ref f) = true

theorem inst_at {s : Shared} {a d C : Addr} {fs : List (Str × MV)} (R : Rep X σ s) (h1 : (a, MO.ins C d) ∈ σ.os) (h2 : (d, MO.ns fs) ∈ σ.os) : ∃ es n, W.InstAt s.heap a (instObj C d) C (some (dictOf es n)) ∧ NsEs fs es ∧ s.heap.get? d = some (dictOf es n) := by
  obtain ⟨o, ho, es, n, rfl, N⟩ := R.at h2
  exact ⟨es, n, ⟨R.at h1, rfl, rfl, ho⟩, N, ho⟩

noncomputable def Attr (X : Cx g) (a : Addr) (name : Str) (b : Bool) (σ : St) (Q : VQ) : Prop := Tri X (getAttr (.ref a) name b) σ (VPost Q)
theorem handed_of {mv : MV} {v : Value} (i : mv.Is v) (h : ∀ x, mv ≠ .val x) : handedIn v = true := by
  cases mv with
  | none => subst i; rfl
  | bool => subst i; rfl
  | int => obtain ⟨t, rfl⟩ := i; rfl
  | bytes => obtain ⟨t, rfl⟩ := i; rfl
  | ref => subst i; rfl
  | val x => exact absurd rfl (h x)
theorem Attr_own {a d C : Addr} {name : Str} {b : Bool} {fs : List (Str × MV)} {mv : MV} (o : Own g C name) (h1 : (a, MO.ins C d) ∈ σ.os) (h2 : (d, MO.ns fs) ∈ σ.os) (h3 : (name, mv) ∈ fs) (q : Q mv σ) (hv : ∀ x, mv ≠ .val x := by intro _ e; cases e) : Attr X a name b σ Q := fun s R => by
  obtain ⟨es, n, I, N, _⟩ := inst_at R h1 h2
  obtain ⟨v, hl, i⟩ := N.have_ name mv h3
  exact get_value R.inK I (plainGet_of o.pg).1 (findObj_own o.hd o.no rfl hl) (handed_of i hv) (fin R _ q i)
theorem Ev_attr {e : PySem.Expr} {name : Str} {pos : Pos} (h : Ev X e σ fun o σ₁ => ∃ a, o = .ref a ∧ Attr X a name true σ₁ Q)
    (he : eval (.Attribute e name pos) X.env = (do let o ← eval e X.env; standAt pos.atName; let r ← holding [o] (getAttr o name true); letTemporaryGo e o r; Pure.pure r) := by rfl) : Ev X (.Attribute e name pos) σ Q := fun s R => by
  show wpAny _ _ (eval (.Attribute e name pos) X.env) _ _ s
  rw [he]
  refine wpAny_bind (wpAny_mono (h s R) (fun v s₁ ⟨σ₁, R₁, mv, i, a, e1, h₁⟩ => ?_) fun _ _ e => e)
  subst e1; subst i
  exact wpAny_bind (wpAny_standAt (wpAny_bind (wpAny_holding (wpAny_mono (h₁ s₁ R₁) (fun r s₂ p => wpAny_bind (wpAny_letTemporaryGo (wpAny_pure p))) fun _ _ e => e))))

/-- a method of an own object -/
theorem Ev_meth {o : PySem.Expr} {name : Str} {apos pos : Pos} {es : List PySem.Expr} {pl : Sem Bool}
    (h : Ev X o σ fun ov σ₁ => ∃ a C d fs f, ov = .ref a ∧ Meth g C name f ∧ (a, MO.ins C d) ∈ σ₁.os ∧ (d, MO.ns fs) ∈ σ₁.os ∧ name ∉ fs.map (·.1) ∧ Arg X es pos σ₁ fun as σ₂ => CallV X (.ref f) (.ref a :: as) σ₂ Q)
    (he : eval (.Call (.Attribute o name apos) es [] pos) X.env = (do
      let ov ← eval o X.env
      standAt apos.atName
      let (f, first) ← holding [ov] (getMethod ov name pl)
      callWith pos f first (backTo pos (starEach es X.env)) []) := by rfl)
    (hp : (starEach es X.env).any (·.1) = false := by rfl) : Ev X (.Call (.Attribute o name apos) es [] pos) σ Q := fun s R =>
  MethodCall_ (pl := pl) (wpAny_mono (h s R) (fun v s₁ hx => by
    obtain ⟨σ₁, R₁, mv, i, a, C, d, fs, f, e1, m, h1, h2, h3, h4⟩ := hx
    subst e1; subst i
    obtain ⟨es', n, I, N, _⟩ := inst_at R₁ h1 h2
    refine method_fn R₁.inK I (plainGet_of m.pg).1 (plainGet_of m.pg).2 m.fd m.ty ?_ ?_
    · show (lookIn name (dictOf es' n)).map _ = _
      rw [lookIn_dict, N.lack name h3]; rfl
    · exact callWith_rule (first := [.ref a]) (firstM := [.ref a]) (Kp_K m.kp) (.one rfl) hp h4 s₁ R₁) fun _ _ e => e) he
end

section
variable {g : G} {X : Cx g} {σ : St} {s : Shared}
theorem Rep.put' (R : Rep X σ s) {h' : Heap} {tk : Nat} {a : Addr} {mo' : MO} {os' : Os} (u : Put a mo' σ.os os') (hk : ∀ b o, g.h₀.get? b = some o → h'.get? b = some o) (hL : ∀ m, s.heap.Ns X.env.locals m → h'.Ns X.env.locals m)
    (hs : ∀ b ∈ X.cls.map (·.2) ++ (σ.os ++ X.fro).map (·.1), b ≠ a → ∀ o, s.heap.get? b = some o → h'.get? b = some o) (x : At g h' a mo') : Rep X ⟨σ.lm, os'⟩ { s with heap := h', toks := tk } := by
  have ha := (u.app X.fro).mem
  have off := R.off ha
  refine ⟨R.core, hk, ?_, ?_, ?_, ?_, ?_, R.lm⟩
  · obtain ⟨m, hn, hb⟩ := R.ns
    exact ⟨m, hL m hn, fun y mv hy => (hb y mv hy).keep fun p hp o e => hs _ (List.mem_append_left _ (List.mem_map_of_mem hp)) (off.2 p hp) o e⟩
  · intro p hp
    obtain ⟨v, o, ho, r⟩ := R.cl p hp
    exact ⟨v, o, hs _ (List.mem_append_left _ (List.mem_map_of_mem hp)) (off.2 p hp) o ho, r⟩
  · intro p hp
    rcases (u.app X.fro).cases R.all_nd p hp with rfl | ⟨h1, h2⟩
    · exact x
    · exact (R.os p h1).keep fun o e => hs _ (List.mem_append_right _ (List.mem_map_of_mem h1)) h2 o e
  · show (X.addrs os').Nodup
    unfold Cx.addrs; rw [(u.app X.fro).map]; exact R.nd
  · show ∀ b ∈ X.addrs os', _
    unfold Cx.addrs; rw [(u.app X.fro).map]; exact R.new

/-- the whole of the state as a written ledger around one entry -/
theorem Rep.ledger (R : Rep X σ s) {a : Addr} {o : Obj} (ha : a ∈ (σ.os ++ X.fro).map (·.1)) (ho : s.heap.get? a = some o) : ∃ (m : Str → Option Value) (pre post : List (Addr × Obj)), Fr g.h₀ X.env.locals s.heap m ∧ News g.h₀ X.env.locals s.heap (pre ++ (a, o) :: post) ∧
    (∀ p ∈ pre, p.1 ≠ a) ∧ (∀ p ∈ post, p.1 ≠ a) ∧ ∀ b ∈ X.cls.map (·.2) ++ (σ.os ++ X.fro).map (·.1), b ≠ a → ∃ ob, s.heap.get? b = some ob ∧ ((b, ob) ∈ pre ∨ (b, ob) ∈ post) := by
  obtain ⟨m, hn, _⟩ := R.ns
  let as := X.cls.map (·.2) ++ (σ.os ++ X.fro).map (·.1)
  have haA : a ∈ as := List.mem_append_right _ ha
  have hnd := List.nodup_cons.mp R.nd
  obtain ⟨p1, p2, hsp⟩ := List.append_of_mem haA
  have hnd2 : (p1 ++ a :: p2).Nodup := hsp ▸ hnd.2
  have hnd3 := List.nodup_append.mp hnd2
  let ob : Addr → Obj := fun b => (s.heap.get? b).getD o
  have hob : ∀ b ∈ as, s.heap.get? b = some (ob b) := fun b hb => by
    obtain ⟨o', h'⟩ := R.has b (List.mem_cons_of_mem _ hb)
    show _ = some ((s.heap.get? b).getD o)
    rw [h']; rfl
  have sub1 : ∀ b ∈ p1, b ∈ as := fun b hb => hsp ▸ List.mem_append_left _ hb
  have sub2 : ∀ b ∈ p2, b ∈ as := fun b hb => hsp ▸ List.mem_append_right _ (.tail _ hb)
  have fact : ∀ b ∈ as, b ≠ X.env.locals ∧ g.h₀.get? b = none := fun b hb => ⟨fun e => hnd.1 (e ▸ hb), R.free b (List.mem_cons_of_mem _ hb)⟩
  refine ⟨m, p1.map fun b => (b, ob b), p2.map fun b => (b, ob b), ⟨hn, R.keep, R.new _ (.head _)⟩, ?_, ?_, ?_, ?_⟩
  · intro p hp
    rcases List.mem_append.mp hp with hp | hp
    · obtain ⟨b, hb, rfl⟩ := List.mem_map.mp hp
      exact ⟨hob b (sub1 b hb), fact b (sub1 b hb)⟩
    · rcases List.mem_cons.mp hp with rfl | hp
      · exact ⟨ho, fact _ haA⟩
      · obtain ⟨b, hb, rfl⟩ := List.mem_map.mp hp
        exact ⟨hob b (sub2 b hb), fact b (sub2 b hb)⟩
  · intro p hp
    obtain ⟨b, hb, rfl⟩ := List.mem_map.mp hp
    exact hnd3.2.2 b hb a (.head _)
  · intro p hp
    obtain ⟨b, hb, rfl⟩ := List.mem_map.mp hp
    exact fun e => (List.nodup_cons.mp hnd3.2.1).1 (e ▸ hb)
  · intro b hb hne
    refine ⟨ob b, hob b hb, ?_⟩
    have : b ∈ p1 ++ a :: p2 := hsp ▸ hb
    rcases List.mem_append.mp this with h | h
    · exact .inl (List.mem_map_of_mem (f := fun b => (b, ob b)) h)
    · rcases List.mem_cons.mp h with e | h
      · exact absurd e hne
      · exact .inr (List.mem_map_of_mem (f := fun b => (b, ob b)) h)

/-- the whole of the state as a written ledger -/
theorem Rep.all (R : Rep X σ s) : ∃ (m : Str → Option Value) (news : List (Addr × Obj)), Fr g.h₀ X.env.locals s.heap m ∧ News g.h₀ X.env.locals s.heap news ∧
    ∀ h' tk, Fr g.h₀ X.env.locals h' m → News g.h₀ X.env.locals h' news → Rep X σ { s with heap := h', toks := tk } := by
  obtain ⟨m, hn, hb⟩ := R.ns
  let as := X.cls.map (·.2) ++ (σ.os ++ X.fro).map (·.1)
  have hnd := List.nodup_cons.mp R.nd
  let ob : Addr → Obj := fun b => (s.heap.get? b).getD emptyDict
  have hob : ∀ b ∈ as, s.heap.get? b = some (ob b) := fun b hb => by
    obtain ⟨o', h'⟩ := R.has b (List.mem_cons_of_mem _ hb)
    show _ = some ((s.heap.get? b).getD emptyDict)
    rw [h']; rfl
  refine ⟨m, as.map fun b => (b, ob b), ⟨hn, R.keep, R.new _ (.head _)⟩, ?_, ?_⟩
  · intro p hp
    obtain ⟨b, hb, rfl⟩ := List.mem_map.mp hp
    exact ⟨hob b hb, fun e => hnd.1 (e ▸ hb), R.free b (List.mem_cons_of_mem _ hb)⟩
  · intro h' tk F N
    have kp : ∀ b ∈ as, ∀ o, s.heap.get? b = some o → h'.get? b = some o := fun b hb' o e => by
      rw [hob b hb'] at e; cases e
      exact (N (b, ob b) (List.mem_map_of_mem (f := fun b => (b, ob b)) hb')).1
    refine ⟨R.core, F.keep, ⟨m, F.ns, fun x mv hx => (hb x mv hx).keep fun p hp o e => kp _ (List.mem_append_left _ (List.mem_map_of_mem hp)) o e⟩, fun p hp => ?_, fun p hp => (R.os p hp).keep fun o e => kp _ (List.mem_append_right _ (List.mem_map_of_mem hp)) o e, R.nd, R.new, R.lm⟩
    obtain ⟨v, o, ho, r⟩ := R.cl p hp
    exact ⟨v, o, kp _ (List.mem_append_left _ (List.mem_map_of_mem hp)) o ho, r⟩
/-- a new object beside a state that stayed -/
theorem Rep.more {s' : Shared} (R : Rep X σ s) (R' : Rep X σ s') {a : Addr} {mo : MO} (ha : s.heap.objs.size ≤ a) (x : At g s'.heap a mo) : Rep X ⟨σ.lm, (a, mo) :: σ.os⟩ s' := by
  have na : a ∉ X.addrs σ.os := fun h => absurd (R.lt a h) (Nat.not_lt.mpr ha)
  have hp : (X.addrs ((a, mo) :: σ.os)).Perm (a :: X.addrs σ.os) := by
    unfold Cx.addrs
    rw [List.cons_append, List.map_cons]
    exact (List.Perm.cons _ List.perm_middle).trans (List.Perm.swap _ _ _)
  refine ⟨R'.core, R'.keep, R'.ns, R'.cl, ?_, hp.nodup_iff.mpr (List.nodup_cons.mpr ⟨na, R.nd⟩), ?_, R.lm⟩
  · intro p h
    rcases List.mem_cons.mp (show p ∈ (a, mo) :: (σ.os ++ X.fro) from h) with rfl | h
    · exact x
    · exact R'.os p h
  · intro b hb
    rcases List.mem_cons.mp (hp.mem_iff.mp hb) with rfl | hb
    · exact Nat.le_trans R.size ha
    · exact R.new b hb

structure OwnS (g : G) (C : Addr) (name : Str) : Prop where
  hs : findIn g.K (.ref C) "__setattr__" = some (some (.builtin "object.__setattr__"))
  hp : plainOver g.K C = true
  ht : takerIn g.K C name = some none
  hd : hasDictIn g.K C = true

noncomputable def SetA (X : Cx g) (a : Addr) (name : Str) (mv : MV) (σ : St) (Q : St → Prop) : Prop := ∀ v, mv.Is v → Tri X (setAttr (.ref a) name v) σ fun _ σ' => Q σ'
theorem setA_core {a d C : Addr} {name : Str} {v : Value} {fs fs' : List (Str × MV)} {os' : Os} {Q : St → Prop} (o : OwnS g C name) (h1 : (a, MO.ins C d) ∈ σ.os) (h2 : (d, MO.ns fs) ∈ σ.os)
    (put : ∀ hsh t es, NsEs fs es → NsEs fs' (putL name hsh (.str name t) v es)) (hl : fs'.length ≤ 500) (u : Put d (.ns fs') σ.os os') (q : Q ⟨σ.lm, os'⟩) : Tri X (setAttr (.ref a) name v) σ fun _ σ' => Q σ' := fun s R => by
  obtain ⟨es, n, I, N, hd⟩ := inst_at R h1 h2
  obtain ⟨m, pre, post, F, NW, ne1, ne2, cov⟩ := R.ledger (mem_app (List.mem_map_of_mem (f := (·.1)) h2)) hd
  have hz := (put (PyData.keyHash g.w.params name) (s.toks + 1) es N).len
  refine set_plain R.inK I o.hs (osa_dict (s := { s with toks := s.toks + 1 }) (es := putL name (PyData.keyHash g.w.params name) (.str name (s.toks + 1)) v es) (n := putN name es n) F NW R.inK I rfl o.hp o.ht (by exact o.hd) ?_ ne1 ne2 (putName_dict _ _ _ _ _ _) rfl (by omega) fun h' F' N' => ?_)
  · rw [lookIn_dict]
    have N' := put 0 0 es N
    by_cases hx : name ∈ fs.map (·.1)
    · obtain ⟨p, hp, e⟩ := List.mem_map.mp hx
      obtain ⟨w, hw, _⟩ := N.have_ p.1 p.2 hp
      rw [← e, hw]; rfl
    · rw [N.lack _ hx]; rfl
  · refine ⟨_, R.put' u F'.keep ?_ (fun b hb hne ob e => ?_) ⟨_, (N' _ (List.mem_append_right _ (.head _))).1, _, _, rfl, put _ _ es N⟩, q⟩
    · intro m' hm'
      obtain ⟨o1, es1, ep1, ho1, a1, a2, a3⟩ := hm'
      obtain ⟨o2, es2, ep2, ho2, b1, b2, b3⟩ := F.ns
      rw [ho1] at ho2; cases ho2
      rw [a1] at b1; cases b1
      have : m' = m := by funext y; rw [← a3 y, ← b3 y]
      subst this
      exact F'.ns
    · obtain ⟨ob', e', hm⟩ := cov b hb hne
      rw [e'] at e; cases e
      rcases hm with hm | hm
      · exact (N' _ (List.mem_append_left _ hm)).1
      · exact (N' _ (List.mem_append_right _ (.tail _ hm))).1
theorem SetA_rep {a d C : Addr} {name : Str} {mv : MV} {fs fs' : List (Str × MV)} {os' : Os} {Q : St → Prop} (o : OwnS g C name) (h1 : (a, MO.ins C d) ∈ σ.os) (h2 : (d, MO.ns fs) ∈ σ.os) (u : LRep name mv fs fs') (w : Put d (.ns fs') σ.os os') (q : Q ⟨σ.lm, os'⟩) (hl : fs'.length ≤ 500 := by decide) : SetA X a name mv σ Q := fun v i =>
  setA_core o h1 h2 (fun _ _ es N => N.rep u i) hl w q
theorem SetA_new {a d C : Addr} {name : Str} {mv : MV} {fs : List (Str × MV)} {os' : Os} {Q : St → Prop} (o : OwnS g C name) (h1 : (a, MO.ins C d) ∈ σ.os) (h2 : (d, MO.ns fs) ∈ σ.os) (hn : (fs.map (·.1)).elem name = false) (w : Put d (.ns ((name, mv) :: fs)) σ.os os') (q : Q ⟨σ.lm, os'⟩) (hl : ((name, mv) :: fs).length ≤ 500 := by decide) : SetA X a name mv σ Q := fun v i =>
  setA_core o h1 h2 (fun _ _ es N => N.new (fun h => by rw [List.elem_eq_true_of_mem h] at hn; cases hn) i) hl w q

variable {Q : FQ}
theorem Ex_seta {o : PySem.Expr} {attr : Str} {p pos : Pos} {e : PySem.Expr} (h : Ev X e σ fun mv σ₁ => Ev X o σ₁ fun ov σ₂ => ∃ a, ov = .ref a ∧ SetA X a attr mv σ₂ fun σ₃ => Q .next σ₃)
    (hs : swapsWith e (some (.Attribute o attr p)) pos.line X.env = Pure.pure false := by rfl) : Ex X (.Assign [.Attribute o attr p] e pos) σ Q := fun s R =>
  plainObj_wpAny_Assign_Attribute (wpAny_mono (h s R) (fun v s₁ ⟨σ₁, R₁, mv, i, h₁⟩ => wpAny_mono (h₁ s₁ R₁) (fun ov s₂ ⟨σ₂, R₂, m2, i2, a, e1, h₂⟩ => by subst e1; subst i2; exact h₂ v i s₂ R₂) fun _ _ e => e) fun _ _ e => e) hs
theorem Ex_auga {o : PySem.Expr} {attr : Str} {p pos : Pos} {op : Operator} {e : PySem.Expr} (h : Ev X o σ fun ov σ₁ => ∃ a, ov = .ref a ∧ Attr X a attr true σ₁ fun old σ₂ => Ev X e σ₂ fun mv σ₃ => Iop X op old mv σ₃ fun r σ₄ => SetA X a attr r σ₄ fun σ₅ => Q .next σ₅) :
    Ex X (.AugAssign (.Attribute o attr p) op e pos) σ Q := fun s R =>
  wpAny_AugAssign_AttributeAny (wpAny_mono (h s R) (fun ov s₁ ⟨σ₁, R₁, m1, i1, a, e1, h₁⟩ => by
    subst e1; subst i1
    exact wpAny_mono (h₁ s₁ R₁) (fun old s₂ ⟨σ₂, R₂, m2, i2, h₂⟩ => wpAny_mono (h₂ s₂ R₂) (fun v s₃ ⟨σ₃, R₃, m3, i3, h₃⟩ => wpAny_mono (h₃ old v i2 i3 s₃ R₃) (fun r s₄ ⟨σ₄, R₄, m4, i4, h₄⟩ => wpAny_mono (h₄ r i4 s₄ R₄) (fun _ _ z => z) fun _ _ e => e) fun _ _ e => e) fun _ _ e => e) fun _ _ e => e) fun _ _ e => e)
end

/-! a class is called -/
section
variable {g : G} {X : Cx g} {σ : St} {s : Shared} {Q : VQ}
noncomputable def Cx.at (X : Cx g) (A : Around) (h : A.handled = none) : Cx g := { X with A := A, hh := h }
theorem Rep.to (R : Rep X σ s) (A : Around) (h : A.handled = none) : Rep (X.at A h) σ s :=
  ⟨R.core, R.keep, by obtain ⟨m, hn, hb⟩ := R.ns; exact ⟨m, hn, fun x mv hx => ⟨(hb x mv hx).dbg, (hb x mv hx).way⟩⟩, R.cl, R.os, R.nd, R.new, R.lm⟩
theorem Rep.from {A : Around} {h : A.handled = none} (R : Rep (X.at A h) σ s) : Rep X σ s :=
  ⟨R.core, R.keep, by obtain ⟨m, hn, hb⟩ := R.ns; exact ⟨m, hn, fun x mv hx => ⟨(hb x mv hx).dbg, (hb x mv hx).way⟩⟩, R.cl, R.os, R.nd, R.new, R.lm⟩
theorem weight_tc {C : Addr} {r : List Value} {kw : List (Str × Value)} : (Code.builtin "type.__call__" ⟨.ref C :: r, kw⟩).weight = 1 := by kernel_rfl
theorem units_tc {C : Addr} {r : List Value} {kw : List (Str × Value)} : (Code.builtin "type.__call__" ⟨.ref C :: r, kw⟩).cUnits = 1 := by kernel_rfl
theorem under_room {A : Around} {n : Nat} {C : Addr} {r : List Value} {kw : List (Str × Value)} (h : Room A (n + 1)) : Room (A.under (.builtin "type.__call__" ⟨.ref C :: r, kw⟩)) n :=
  ⟨by have := h.d; show A.depth + (Code.builtin "type.__call__" ⟨.ref C :: r, kw⟩).weight + 2 * n < _; rw [weight_tc]; omega, by have := h.u; show A.units + (Code.builtin "type.__call__" ⟨.ref C :: r, kw⟩).cUnits + 16 * n + 200 < _; rw [units_tc]; omega⟩

structure IsCls (g : G) (C fI : Addr) : Prop where
  made : makesIn g.K C = true
  fd : findIn g.K (.ref C) "__init__" = some (some (.ref fI))
  ty : typeIn g.K (.ref fI) = some (.type "function")

theorem CallV_cls {n : Nat} {C fI : Addr} {args : List MV} {fp rest : Os} {Post : Addr → Addr → Os → Prop} (c : IsCls g C fI) (hf : ∀ x d, Fn g n fI (.ref x :: args) ((x, .ins C d) :: (d, .ns []) :: fp) fun mv fp' => mv = .none ∧ Post x d fp') (hr : Room X.A (n + 1)) (hs : Sel σ.os fp rest)
    (q : ∀ x d fp', Post x d fp' → Q (.ref x) ⟨σ.lm, fp' ++ rest⟩) : CallV X (.ref C) args σ Q := fun vs hv s R => by
  obtain ⟨hh, gn, dr, t, os⟩ := s
  refine wpAny_call (make_core (h := hh) (makes_of R.inK c.made) (looks_findIn R.inK c.fd) (fun self => bind_fn R.inK self c.ty) (.inl rfl) ?_)
  have R1 := (R.perm hs.perm.symm).push (o := emptyDict) (mo := .ns []) rfl fun h e => ⟨_, e, [], 0, rfl, NsEs.empty⟩
  have R2 := R1.push (o := instObj C hh.objs.size) (mo := .ins C hh.objs.size) rfl fun h e => e
  have hu : (X.A.under (.builtin "type.__call__" ⟨.ref C :: vs, []⟩)).handled = Option.none := X.hh
  have R3 := R2.to _ hu
  rw [Heap.size_push] at R3
  refine codeAny_mono (hf (hh.objs.size + 1) hh.objs.size (X.at _ hu) σ.lm rest (.ref (hh.objs.size + 1) :: vs) (under_room hr) (.cons rfl hv) _ R3) ?_
  rintro r s' ⟨v, mv, fp', rfl, i, ⟨rfl, p⟩, R'⟩
  exact ⟨i, _, R'.from, .ref _, rfl, q _ _ _ p⟩
end

section
variable {g : G} {X : Cx g} {σ : St} {Q : VQ}

theorem Rep.alloc {s : Shared} (R : Rep X σ s) {a : Addr} {mo : MO} {h' : Heap} {tk : Nat} (k : ∀ b o, s.heap.get? b = some o → h'.get? b = some o) (ha : s.heap.objs.size ≤ a) (q : ∀ a, Q (.ref a) ⟨σ.lm, (a, mo) :: σ.os⟩) (x : At g h' a mo) :
    ∃ σ', Rep X σ' { s with heap := h', toks := tk } ∧ VPost Q (.ref a) σ' := ⟨_, R.add k ha x, .ref a, rfl, q a⟩

/-! displays -/
theorem Ev_list {es : List PySem.Expr} {pos : Pos} (h : Arg X es pos σ fun as σ₁ => as.length ≤ 1000000 ∧ ∀ a, Q (.ref a) ⟨σ₁.lm, (a, .lst as) :: σ₁.os⟩) : Ev X (.List es pos) σ Q := fun s R =>
  wpAny_List_spliced (wpAny_mono (h s R) (fun vs s₁ ⟨σ₁, R₁, as, hi, hl, q⟩ => ⟨by rw [← hi.length, sizeLine_eq]; omega, R₁.alloc (tk := s₁.toks) (fun _ _ e => Heap.get?_push_of_some _ e) (Nat.le_refl _) q ⟨vs, ⟨0, Heap.get?_push_size _ rfl⟩, hi⟩⟩) fun _ _ e => e)
theorem Ev_tuple {es : List PySem.Expr} {k : Nat} {pos : Pos} (h : Arg X es pos σ fun as σ₁ => as.length ≤ 1000000 ∧ ∀ a, Q (.ref a) ⟨σ₁.lm, (a, .tup as) :: σ₁.os⟩) : Ev X (.Tuple es k pos) σ Q := fun s R =>
  wpAny_Tuple_spliced (wpAny_mono (h s R) (fun vs s₁ ⟨σ₁, R₁, as, hi, hl, q⟩ => ⟨by rw [← hi.length, sizeLine_eq]; omega, R₁.alloc (tk := s₁.toks) (fun _ _ e => Heap.get?_push_of_some _ e) (Nat.le_refl _) q ⟨vs, Heap.get?_push_size _ rfl, hi⟩⟩) fun _ _ e => e)
theorem emptyOf {K : Type} [DecidableEq K] {knd : PySem.KeyKind g.prog g.w K} {h : Heap} {a : Addr} (e : h.get? a = some { cls := .type "dict", data := .dict #[] }) : h.DictOf knd a [] :=
  Heap.dictOf_iff.mpr ⟨_, e, #[], 0, ⟨rfl, rfl, rfl⟩, rfl, fun _ he => by simp at he, by first | exact .nil | constructor, List.nodup_nil⟩
theorem Ev_dict_i {pos : Pos} (q : ∀ a, Q (.ref a) ⟨σ.lm, (a, .dici []) :: σ.os⟩) : Ev X (.Dict [] [] pos) σ Q := fun s R =>
  wpAny_Dict_empty (R.alloc (tk := s.toks) (fun _ _ e => Heap.get?_push_of_some _ e) (Nat.le_refl _) q ⟨[], emptyOf (Heap.get?_push_size _ rfl), .nil⟩)
theorem Ev_dict_b {pos : Pos} (q : ∀ a, Q (.ref a) ⟨σ.lm, (a, .dicb []) :: σ.os⟩) : Ev X (.Dict [] [] pos) σ Q := fun s R =>
  wpAny_Dict_empty (R.alloc (tk := s.toks) (fun _ _ e => Heap.get?_push_of_some _ e) (Nat.le_refl _) q ⟨[], emptyOf (Heap.get?_push_size _ rfl), .nil⟩)

/-! built-in methods -/
inductive BT : MO → String → Prop
  | lst {xs} : BT (.lst xs) "list"
  | dici {es} : BT (.dici es) "dict"
  | dicb {es} : BT (.dicb es) "dict"
theorem BT.at {mo : MO} {T : String} {h : Heap} {a : Addr} (b : BT mo T) (x : At g h a mo) : ∃ o, h.get? a = some o ∧ o.cls = .type T ∧ o.dict = none := by
  cases b with
  | lst => obtain ⟨vs, ⟨n, e⟩, _⟩ := x; exact ⟨_, e, rfl, rfl⟩
  | dici => obtain ⟨kvs, ⟨o, es, ep, e, hc, _⟩, _⟩ := x; exact ⟨o, e, hc.1, hc.2.1⟩
  | dicb => obtain ⟨kvs, ⟨o, es, ep, e, hc, _⟩, _⟩ := x; exact ⟨o, e, hc.1, hc.2.1⟩
structure BM (T : String) (name : Str) (id : String) : Prop where
  pa : PlainAttrs T
  sl : Slot T name id
  ty : typeOf (.builtin id) = Pure.pure (.type "method_descriptor")
theorem bm_append : BM "list" "append" "list.append" := ⟨PySem.F.plainAttrs_list, PySem.F.slot_list_append, PySem.F.type_list_append⟩
theorem bm_get : BM "dict" "get" "dict.get" := ⟨PySem.F.plainAttrs_dict, PySem.F.slot_dict_get, PySem.F.type_dict_get⟩
theorem bm_pop : BM "dict" "pop" "dict.pop" := ⟨PySem.F.plainAttrs_dict, PySem.F.slot_dict_pop, PySem.F.type_dict_pop⟩
theorem Ev_bm {T id : String} {o : PySem.Expr} {name : Str} {apos pos : Pos} {es : List PySem.Expr} {pl : Sem Bool} (b : BM T name id)
    (h : Ev X o σ fun ov σ₁ => ∃ a mo, ov = .ref a ∧ (a, mo) ∈ σ₁.os ∧ BT mo T ∧ Arg X es pos σ₁ fun as σ₂ => CallV X (.builtin id) (.ref a :: as) σ₂ Q)
    (he : eval (.Call (.Attribute o name apos) es [] pos) X.env = (do
      let ov ← eval o X.env
      standAt apos.atName
      let (f, first) ← holding [ov] (getMethod ov name pl)
      callWith pos f first (backTo pos (starEach es X.env)) []) := by rfl)
    (hp : (starEach es X.env).any (·.1) = false := by rfl) : Ev X (.Call (.Attribute o name apos) es [] pos) σ Q := fun s R =>
  MethodCall_ (pl := pl) (wpAny_mono (h s R) (fun v s₁ hx => by
    obtain ⟨σ₁, R₁, mv, i, a, mo, e1, hm, hb, h4⟩ := hx
    subst e1; subst i
    obtain ⟨ob, ho, hc, hd⟩ := hb.at (R₁.at hm)
    refine getMethod_builtin (T := T) ⟨ob, ho, hc⟩ b.pa b.sl b.ty (fun a' e => by cases e; exact ⟨ob, ho, hd⟩) ?_
    exact callWith_rule (first := [.ref a]) (firstM := [.ref a]) Kp_builtin (.one rfl) hp h4 s₁ R₁) fun _ _ e => e) he

theorem CallV_append {a : Addr} {mv : MV} {xs : List MV} {os' : Os} (hm : (a, MO.lst xs) ∈ σ.os) (hl : xs.length ≤ 1000000) (u : Put a (.lst (xs ++ [mv])) σ.os os') (q : Q .none ⟨σ.lm, os'⟩) : CallV X (.builtin "list.append") [.ref a, mv] σ Q := by
  rintro vs (_ | ⟨rfl, _ | ⟨i, ⟨⟩⟩⟩) s R
  obtain ⟨vs, hp, hi⟩ := R.at hm
  refine wpAny_list_append_plain hp (fun h' hp' hs => ⟨_, R.put (tk := s.toks) u hs ⟨_, ?_, hi.append (.one i)⟩, .none, rfl, q⟩) (by rw [List.size_toArray, ← hi.length, sizeLine_eq]; omega)
  simpa using hp'

/-! len -/
theorem CallV_len_lst {a : Addr} {xs : List MV} (hm : (a, MO.lst xs) ∈ σ.os) (hl : xs.length ≤ 1000000) (q : Q (.int xs.length) σ) : CallV X (.builtin "len") [.ref a] σ Q := by
  rintro vs (_ | ⟨rfl, ⟨⟩⟩) s R
  obtain ⟨vs, hp, hi⟩ := R.at hm
  refine call_len_list hp.isList (by rw [List.size_toArray, ← hi.length]; omega) ?_
  rw [List.size_toArray, ← hi.length]
  exact fin R _ q ⟨_, rfl⟩
theorem CallV_len_bytes {b : List UInt8} (hl : b.length ≤ 1000000) (q : Q (.int b.length) σ) : CallV X (.builtin "len") [.bytes b] σ Q := by
  rintro vs (_ | ⟨⟨t, rfl⟩, ⟨⟩⟩) s R
  refine call_len_gives (T := "bytes") rfl FB.slot_bytes_len FB.entry_bytes_len (FB.args_bytes_len_1 _) (gives_bytes_len _ _) (by omega) (by rw [List.size_toArray]; omega) ?_
  rw [List.size_toArray]
  exact fin R _ q ⟨_, rfl⟩

/-! dicts -/
noncomputable def putM {κ : Type} [DecidableEq κ] (es : List (κ × MV)) (k : κ) (v : MV) : List (κ × MV) := if es.any (fun e => decide (e.1 = k)) then es.map fun e => if e.1 = k then (e.1, v) else e else es ++ [(k, v)]
noncomputable def getM {κ : Type} [DecidableEq κ] (es : List (κ × MV)) (k : κ) : Option MV := (es.find? fun e => decide (e.1 = k)).map (·.2)
theorem same_keys {κ : Type} {es : List (κ × MV)} {kvs : List (κ × Value)} (h : All2 (fun (e : κ × MV) (p : κ × Value) => e.1 = p.1 ∧ e.2.Is p.2) es kvs) : es.map (·.1) = kvs.map (·.1) := by
  induction h with
  | nil => rfl
  | cons a _ ih => simp [a.1, ih]
theorem getM_some {κ : Type} [DecidableEq κ] {es : List (κ × MV)} {kvs : List (κ × Value)} {k : κ} {mv : MV} (h : All2 (fun (e : κ × MV) (p : κ × Value) => e.1 = p.1 ∧ e.2.Is p.2) es kvs) (e : getM es k = some mv) : ∃ v, valueAt kvs k = some v ∧ mv.Is v := by
  induction h with
  | nil => cases e
  | @cons a b l r x _ ih =>
    unfold getM at e ih
    unfold valueAt at ih ⊢
    rw [List.find?_cons] at e ⊢
    rw [← x.1]
    by_cases hk : a.1 = k
    · simp only [hk, decide_true] at e ⊢
      cases e
      exact ⟨_, rfl, x.2⟩
    · simp only [decide_eq_false hk] at e ⊢
      exact ih e
theorem getM_none {κ : Type} [DecidableEq κ] {es : List (κ × MV)} {kvs : List (κ × Value)} {k : κ} (h : All2 (fun (e : κ × MV) (p : κ × Value) => e.1 = p.1 ∧ e.2.Is p.2) es kvs) (e : getM es k = none) : valueAt kvs k = none := by
  induction h with
  | nil => rfl
  | @cons a b l r x _ ih =>
    unfold getM at e ih
    unfold valueAt at ih ⊢
    rw [List.find?_cons] at e ⊢
    rw [← x.1]
    by_cases hk : a.1 = k
    · simp only [hk, decide_true] at e
      cases e
    · simp only [decide_eq_false hk] at e ⊢
      exact ih e
theorem getM_isSome {κ : Type} [DecidableEq κ] {es : List (κ × MV)} {kvs : List (κ × Value)} {k : κ} (h : All2 (fun (e : κ × MV) (p : κ × Value) => e.1 = p.1 ∧ e.2.Is p.2) es kvs) : (valueAt kvs k).isSome = (getM es k).isSome := by
  cases e : getM es k with
  | none => rw [getM_none h e]; rfl
  | some mv => obtain ⟨v, hv, _⟩ := getM_some h e; rw [hv]; rfl
theorem mapM_stored {κ : Type} [DecidableEq κ] {es : List (κ × MV)} {kvs : List (κ × Value)} {k : κ} {mv : MV} {v : Value} (h : All2 (fun (e : κ × MV) (p : κ × Value) => e.1 = p.1 ∧ e.2.Is p.2) es kvs) (i : mv.Is v) :
    All2 (fun (e : κ × MV) (p : κ × Value) => e.1 = p.1 ∧ e.2.Is p.2) (es.map fun e => if e.1 = k then (e.1, mv) else e) (kvs.map fun kv => if kv.1 = k then (kv.1, v) else kv) := by
  induction h with
  | nil => exact .nil
  | @cons a b l r x t ih =>
    rw [List.map_cons, List.map_cons]
    refine .cons ?_ ih
    by_cases hk : a.1 = k
    · rw [if_pos hk, if_pos (x.1 ▸ hk)]; exact ⟨x.1, i⟩
    · rw [if_neg hk, if_neg (x.1 ▸ hk)]; exact x
theorem putM_stored {κ : Type} [DecidableEq κ] {es : List (κ × MV)} {kvs : List (κ × Value)} {k : κ} {mv : MV} {v : Value} (h : All2 (fun (e : κ × MV) (p : κ × Value) => e.1 = p.1 ∧ e.2.Is p.2) es kvs) (i : mv.Is v) :
    All2 (fun (e : κ × MV) (p : κ × Value) => e.1 = p.1 ∧ e.2.Is p.2) (putM es k mv) (stored kvs k v) := by
  have ha : es.any (fun e => decide (e.1 = k)) = kvs.any (fun kv => decide (kv.1 = k)) := by
    induction h with
    | nil => rfl
    | cons x _ ih => rw [List.any_cons, List.any_cons, x.1, ih]
  unfold putM stored
  rw [ha]
  split
  · exact mapM_stored h i
  · exact h.append (.one ⟨rfl, i⟩)
end

section
variable {g : G} {X : Cx g} {σ : St} {Q : VQ}

/-! subscripts -/
noncomputable def Sub (X : Cx g) (o i : MV) (value slice : PySem.Expr) (σ : St) (Q : VQ) : Prop := ∀ v u, o.Is v → i.Is u → Tri X (subscriptTail value slice v u) σ (VPost Q)
noncomputable def NoSlice (slice : PySem.Expr) : Prop := ∀ o i, ∃ ops, subscripted slice false o i = operate ops (getItem o i)
theorem Ev_sub {value slice : PySem.Expr} {pos : Pos} (h : Ev X value σ fun o σ₁ => Ev X slice σ₁ fun i σ₂ => Sub X o i value slice σ₂ Q) : Ev X (.Subscript value slice pos) σ Q := fun s R =>
  Subscript_ (wpAny_mono (h s R) (fun v s₁ ⟨σ₁, R₁, a, ha, h₁⟩ => wpAny_mono (h₁ s₁ R₁) (fun u s₂ ⟨σ₂, R₂, b, hb, h₂⟩ => h₂ v u ha hb s₂ R₂) fun _ _ e => e) fun _ _ e => e)
variable {value slice : PySem.Expr}
inductive LT : MO → List MV → Prop
  | lst {xs} : LT (.lst xs) xs
  | lsi {xs} : LT (.lsi xs) xs
theorem LT.at {mo : MO} {xs : List MV} (t : LT mo xs) {h : Heap} {a : Addr} (x : At g h a mo) : ∃ vs, h.IsList a vs.toArray ∧ All2 MV.Is xs vs := by
  cases t with
  | lst => obtain ⟨vs, hp, hi⟩ := x; exact ⟨vs, hp.isList, hi⟩
  | lsi => exact x
theorem Sub_list {a : Addr} {mo : MO} {xs : List MV} {k : Int} {mv : MV} (hm : (a, mo) ∈ σ.os) (t : LT mo xs) (h0 : 0 ≤ k) (h1 : k < 2 ^ 63) (hx : xs[k.toNat]? = some mv) (q : Q mv σ)
    (hs : NoSlice slice := by exact fun _ _ => ⟨_, rfl⟩) : Sub X (.ref a) (.int k) value slice σ Q := by
  rintro _ _ rfl ⟨u, rfl⟩ s R
  obtain ⟨vs, hp, hi⟩ := t.at (R.at hm)
  obtain ⟨ops, hs⟩ := hs (.ref a) (.int k u)
  obtain ⟨v, hv, i⟩ := hi.get hx
  exact tail_any hp.typeIs slot_list_getitem.lookup (wpAny_getItem_list hp h0 h1 (x := v) (by simpa using hv) ⟨σ, R, mv, i, q⟩) hs
theorem Sub_list_neg {a : Addr} {mo : MO} {xs : List MV} {k : Int} {mv : MV} (hm : (a, mo) ∈ σ.os) (t : LT mo xs) (h0 : k < 0) (h1 : -2 ^ 63 ≤ k) (h2 : -(xs.length : Int) ≤ k) (hx : xs[(k + xs.length).toNat]? = some mv) (q : Q mv σ)
    (hs : NoSlice slice := by exact fun _ _ => ⟨_, rfl⟩) : Sub X (.ref a) (.int k) value slice σ Q := by
  rintro _ _ rfl ⟨u, rfl⟩ s R
  obtain ⟨vs, hp, hi⟩ := t.at (R.at hm)
  obtain ⟨ops, hs⟩ := hs (.ref a) (.int k u)
  obtain ⟨v, hv, i⟩ := hi.get hx
  have e : vs.toArray.size = xs.length := by rw [List.size_toArray, hi.length]
  exact tail_any hp.typeIs slot_list_getitem.lookup (wpAny_getItem_list_neg hp h0 (by rw [e]; exact h2) h1 (x := v) (by rw [e]; simpa using hv) ⟨σ, R, mv, i, q⟩) hs
theorem Sub_tuple {a : Addr} {xs : List MV} {k : Int} {mv : MV} (hm : (a, MO.tup xs) ∈ σ.os) (h0 : 0 ≤ k) (h1 : k < 2 ^ 63) (hx : xs[k.toNat]? = some mv) (q : Q mv σ)
    (hs : NoSlice slice := by exact fun _ _ => ⟨_, rfl⟩) : Sub X (.ref a) (.int k) value slice σ Q := by
  rintro _ _ rfl ⟨u, rfl⟩ s R
  obtain ⟨vs, hp, hi⟩ := R.at hm
  obtain ⟨ops, hs⟩ := hs (.ref a) (.int k u)
  obtain ⟨v, hv, i⟩ := hi.get hx
  have hlt : k.toNat < vs.length := by
    by_cases h : k.toNat < vs.length
    · exact h
    · rw [List.getElem?_eq_none (by omega)] at hv; cases hv
  have e : seqIndex? k vs.toArray.size = some k.toNat := by
    have hk : k < (vs.length : Int) := by omega
    simp [seqIndex?, show ¬ k < 0 by omega, h0, hk]
  exact tail_any (T := "tuple") ⟨_, hp, rfl⟩ F.slot_tuple_getitem.lookup (getItem_tuple ⟨_, hp, rfl, _, rfl⟩ (by omega) h1 e (x := v) (by simpa using hv) ⟨σ, R, mv, i, q⟩) hs
theorem dictTypeIs {K : Type} [DecidableEq K] {knd : PySem.KeyKind g.prog g.w K} {s : Shared} {a : Addr} {kvs : List (K × Value)} (h : s.heap.DictOf knd a kvs) : s.TypeIs (.ref a) "dict" := by
  obtain ⟨o, es, ep, e, hc, _⟩ := h; exact ⟨o, e, hc.1⟩
theorem Sub_dici {a : Addr} {es : List (Int × MV)} {k : Int} {mv : MV} (hm : (a, MO.dici es) ∈ σ.os) (hx : getM es k = some mv) (q : Q mv σ)
    (hs : NoSlice slice := by exact fun _ _ => ⟨_, rfl⟩) : Sub X (.ref a) (.int k) value slice σ Q := by
  rintro _ _ rfl ⟨u, rfl⟩ s R
  obtain ⟨kvs, hd, hi⟩ := R.at hm
  obtain ⟨ops, hs⟩ := hs (.ref a) (.int k u)
  obtain ⟨v, hv, i⟩ := getM_some hi hx
  exact tail_any (dictTypeIs hd) slot_dict_getitem.lookup (wpAny_getItem_of (intKind_is _ _ _ _) hd.mapOf hv (fin R _ q i)) hs
theorem Sub_dicb {a : Addr} {es : List (List UInt8 × MV)} {k : List UInt8} {mv : MV} (hm : (a, MO.dicb es) ∈ σ.os) (hx : getM es k = some mv) (q : Q mv σ)
    (hs : NoSlice slice := by exact fun _ _ => ⟨_, rfl⟩) : Sub X (.ref a) (.bytes k) value slice σ Q := by
  rintro _ _ rfl ⟨u, rfl⟩ s R
  obtain ⟨kvs, hd, hi⟩ := R.at hm
  obtain ⟨ops, hs⟩ := hs (.ref a) (.bytes k.toArray u)
  obtain ⟨v, hv, i⟩ := getM_some hi hx
  exact tail_any (dictTypeIs hd) slot_dict_getitem.lookup (wpAny_getItem_of (bytesKind_is _ _ _ _) hd.mapOf hv (fin R _ q i)) hs
theorem Sub_bytes {x : List UInt8} {k : Int} (h0 : 0 ≤ k) (h1 : k < x.length) (hl : x.length ≤ 1000000) (q : Q (.int ((x.getD k.toNat 0).toNat : Int)) σ)
    (hs : ∀ o i, subscripted slice false o i = operate [o, i] (getItem o i) := by exact fun _ _ => rfl)
    (ht : ∀ o r, letTemporaryGo value o r = Pure.pure () := by exact fun _ _ => rfl) : Sub X (.bytes x) (.int k) value slice σ Q := by
  rintro _ _ ⟨t, rfl⟩ ⟨u, rfl⟩ s R
  exact KBy.item_N (by omega) h0 h1 (fin R _ q ⟨_, rfl⟩) (hs _ _) fun r => ht _ r

/-! slices -/
inductive IsPt : MV → Option Int → Prop
  | none : IsPt .none none
  | int {i} : IsPt (.int i) (some i)
theorem IsPt.at {mv : MV} {o : Option Int} (p : IsPt mv o) {v : Value} (i : mv.Is v) : IsPart v o := by
  cases p with
  | none => subst i; constructor
  | int => obtain ⟨t, rfl⟩ := i; constructor
noncomputable def EvP (X : Cx g) (e : Option PySem.Expr) (σ : St) (Q : VQ) : Prop := Tri X (evalPart e X.env) σ (VPost Q)
theorem EvP_none (q : Q .none σ) : EvP X none σ Q := fun s R => wpAny_evalPart_none ⟨σ, R, .none, rfl, q⟩
theorem EvP_some {e : PySem.Expr} (h : Ev X e σ Q) : EvP X (some e) σ Q := fun s R => wpAny_evalPart_some (h s R)
noncomputable def sliced {α : Type} (l : List α) (lo hi : Option Int) : List α := (l.drop (lo.elim 0 (clipAt l.length))).take (hi.elim l.length (clipAt l.length) - lo.elim 0 (clipAt l.length))
theorem Ev_slice_list {lower upper : Option PySem.Expr} {p pos : Pos} (h : Ev X value σ fun o σ₁ => EvP X lower σ₁ fun l σ₂ => EvP X upper σ₂ fun u σ₃ =>
      ∃ a mo xs lo hi, o = .ref a ∧ (a, mo) ∈ σ₃.os ∧ LT mo xs ∧ xs.length ≤ 1000000 ∧ IsPt l lo ∧ IsPt u hi ∧ ∀ b, Q (.ref b) ⟨σ₃.lm, (b, .lst (sliced xs lo hi)) :: σ₃.os⟩)
    (ht : ∀ o r, letTemporaryGo value o r = Pure.pure () := by exact fun _ _ => rfl) : Ev X (.Subscript value (.Slice lower upper none p) pos) σ Q := fun s R => by
  refine wpAny_Subscript_list_slice (wpAny_mono (h s R) (fun v s₁ ⟨σ₁, R₁, m1, i1, h₁⟩ => wpAny_mono (h₁ s₁ R₁) (fun vl s₂ ⟨σ₂, R₂, m2, i2, h₂⟩ => wpAny_mono (h₂ s₂ R₂) (fun vu s₃ hx => ?_) fun _ _ e => e) fun _ _ e => e) fun _ _ e => e) ht
  obtain ⟨σ₃, R₃, m3, i3, a, mo, xs, lo, hi, e1, hm, lt, hl, p1, p2, q⟩ := hx
  subst e1; subst i1
  obtain ⟨vs, hp, hi'⟩ := lt.at (R₃.at hm)
  refine ⟨a, _, lo, hi, rfl, hp, by rw [List.size_toArray, ← hi'.length, sizeLine_eq]; omega, p1.at i2, p2.at i3, ?_⟩
  have R4 := R₃.pushed { cls := .type "slice", data := .fields #[vl, vu, .none] }
  refine ⟨_, R4.add (tk := s₃.toks) (mo := .lst (sliced xs lo hi)) (fun _ _ e => Heap.get?_push_of_some _ e) (by rw [Heap.size_push]; exact Nat.le_refl _) ?_, .ref _, rfl, q _⟩
  have hsz : (s₃.heap.push { cls := .type "slice", data := .fields #[vl, vu, .none] }).objs.size = s₃.heap.objs.size + 1 := Heap.size_push ..
  refine ⟨(vs.drop (lo.elim 0 (clipAt vs.length))).take (hi.elim vs.length (clipAt vs.length) - lo.elim 0 (clipAt vs.length)), ⟨0, ?_⟩, ?_⟩
  · have e := slicePick_plain vs.toArray lo hi
    rw [List.size_toArray, List.toList_toArray] at e
    rw [← hsz, e]; exact Heap.get?_push_size _ rfl
  · unfold sliced
    rw [hi'.length]
    exact (hi'.drop _).take _
theorem bInts_inj {a b : List UInt8} (h : KBw.bInts a.toArray = b.map fun c => (c.toNat : Int)) : a = b := by
  unfold KBw.bInts at h
  rw [List.toList_toArray] at h
  exact List.map_inj_right (f := fun c : UInt8 => (c.toNat : Int)) (fun x y e => UInt8.toNat_inj.mp (by omega)) |>.mp h
theorem Ev_slice_bytes {lower upper : Option PySem.Expr} {p pos : Pos} (h : Ev X value σ fun o σ₁ => EvP X lower σ₁ fun l σ₂ => EvP X upper σ₂ fun u σ₃ =>
      ∃ b lo hi, o = .bytes b ∧ b.length ≤ 1000000 ∧ IsPt l lo ∧ IsPt u hi ∧ Q (.bytes (sliced b lo hi)) σ₃)
    (hs : ∀ o i, subscripted (.Slice lower upper none p) false o i = operate [i, o] (getItem o i) := by exact fun _ _ => rfl)
    (ht : ∀ (b : Array UInt8) (t : Tok) (r : Value), letTemporaryGo value (.bytes b t) r = Pure.pure () := by exact fun _ _ _ => rfl) : Ev X (.Subscript value (.Slice lower upper none p) pos) σ Q := fun s R => by
  refine Subscript_ (wpAny_mono (h s R) (fun v s₁ ⟨σ₁, R₁, m1, i1, h₁⟩ => wpAny_Slice (wpAny_mono (h₁ s₁ R₁) (fun vl s₂ ⟨σ₂, R₂, m2, i2, h₂⟩ => wpAny_mono (h₂ s₂ R₂) (fun vu s₃ hx => wpAny_evalPart_none ?_) fun _ _ e => e) fun _ _ e => e)) fun _ _ e => e)
  obtain ⟨σ₃, R₃, m3, i3, b, lo, hi, e1, hl, p1, p2, q⟩ := hx
  subst e1; obtain ⟨t, rfl⟩ := i1
  obtain ⟨m, news, F, N, back⟩ := R₃.all
  refine KBc.slice_K F N rfl (p1.at i2) (p2.at i3) (by show (KBw.bInts b.toArray).length ≤ _; unfold KBw.bInts; rw [List.length_map, List.toList_toArray]; omega) (fun h' t' k F' N' e => ?_) (hs _ _) fun r => ht _ _ r
  refine ⟨σ₃, back h' k F' N', .bytes _, ⟨t', ?_⟩, q⟩
  have hb : KBw.bInts b.toArray = b.map fun c => (c.toNat : Int) := by unfold KBw.bInts; rw [List.toList_toArray]
  rw [hb, List.length_map] at e
  have : KBw.bInts (KBy.picked b.toArray lo hi).toList.toArray = (sliced b lo hi).map fun c => (c.toNat : Int) := by
    rw [Array.toArray_toList, e, ← List.map_drop, ← List.map_take]
    rfl
  rw [← bInts_inj this, Array.toArray_toList]

/-! stores to subscripts -/
noncomputable def SetI (X : Cx g) (o i mv : MV) (σ : St) (Q : St → Prop) : Prop := ∀ ov iv v, o.Is ov → i.Is iv → mv.Is v → Tri X (setItem ov iv v) σ fun _ σ' => Q σ'
theorem Ex_seti {Q : FQ} {o i e : PySem.Expr} {p pos : Pos} (h : Ev X e σ fun mv σ₁ => Ev X o σ₁ fun ov σ₂ => Ev X i σ₂ fun iv σ₃ => SetI X ov iv mv σ₃ fun σ₄ => Q .next σ₄)
    (hs : swapsWith e (some (.Subscript o i p)) pos.line X.env = Pure.pure false := by rfl) : Ex X (.Assign [.Subscript o i p] e pos) σ Q := fun s R =>
  wpAny_Assign_Subscript (wpAny_mono (h s R) (fun v s₁ ⟨σ₁, R₁, m1, i1, h₁⟩ => wpAny_mono (h₁ s₁ R₁) (fun ov s₂ ⟨σ₂, R₂, m2, i2, h₂⟩ => wpAny_mono (h₂ s₂ R₂) (fun iv s₃ ⟨σ₃, R₃, m3, i3, h₃⟩ => h₃ ov iv v i2 i3 i1 s₃ R₃) fun _ _ e => e) fun _ _ e => e) fun _ _ e => e) hs
theorem SetI_lsi {a : Addr} {mo : MO} {xs : List MV} {k : Int} {mv : MV} {os' : Os} {Q : St → Prop} (hm : (a, mo) ∈ σ.os) (lt : LT mo xs) (h0 : 0 ≤ k) (h1 : k < 2 ^ 63) (h2 : k < xs.length) (u : Put a (.lsi (xs.set k.toNat mv)) σ.os os') (q : Q ⟨σ.lm, os'⟩) : SetI X (.ref a) (.int k) mv σ Q := by
  rintro _ _ v rfl ⟨t, rfl⟩ i s R
  obtain ⟨vs, hp, hi⟩ := lt.at (R.at hm)
  refine wpAny_setItem_list hp h0 h1 (by rw [List.size_toArray, ← hi.length]; exact h2) fun h' hl hs => ⟨_, R.put (tk := s.toks) u hs ⟨vs.set k.toNat v, ?_, hi.set i _⟩, q⟩
  simpa using hl
theorem SetI_dici {a : Addr} {es : List (Int × MV)} {k : Int} {mv : MV} {os' : Os} {Q : St → Prop} (hm : (a, MO.dici es) ∈ σ.os) (hl : es.length ≤ 1000000) (u : Put a (.dici (putM es k mv)) σ.os os') (q : Q ⟨σ.lm, os'⟩) : SetI X (.ref a) (.int k) mv σ Q := by
  rintro _ _ v rfl ⟨t, rfl⟩ i s R
  obtain ⟨kvs, hd, hi⟩ := R.at hm
  exact wpAny_setItem_pairs (intKind_is _ _ _ _) hd (fun h' hd' hs => ⟨_, R.put u hs ⟨_, hd', putM_stored hi i⟩, q⟩) (by rw [← hi.length, sizeLine_eq]; omega)
theorem SetI_dicb {a : Addr} {es : List (List UInt8 × MV)} {k : List UInt8} {mv : MV} {os' : Os} {Q : St → Prop} (hm : (a, MO.dicb es) ∈ σ.os) (hl : es.length ≤ 1000000) (u : Put a (.dicb (putM es k mv)) σ.os os') (q : Q ⟨σ.lm, os'⟩) : SetI X (.ref a) (.bytes k) mv σ Q := by
  rintro _ _ v rfl ⟨t, rfl⟩ i s R
  obtain ⟨kvs, hd, hi⟩ := R.at hm
  exact wpAny_setItem_pairs (bytesKind_is _ _ _ _) hd (fun h' hd' hs => ⟨_, R.put u hs ⟨_, hd', putM_stored hi i⟩, q⟩) (by rw [← hi.length, sizeLine_eq]; omega)

/-! membership -/
theorem Cmp_in_dici {a : Addr} {es : List (Int × MV)} {k : Int} (hm : (a, MO.dici es) ∈ σ.os) (q : Q (.bool (getM es k).isSome) σ) : Cmp X .In (.int k) (.ref a) σ Q := by
  rintro _ _ ⟨t, rfl⟩ rfl s R
  obtain ⟨kvs, hd, hi⟩ := R.at hm
  refine wpAny_in_of (intKind_is _ _ _ _) (R.ne_sys (List.mem_map_of_mem (f := (·.1)) hm)) hd.mapOf ?_
  rw [getM_isSome hi]
  exact fin R _ q rfl
theorem Cmp_notin_dici {a : Addr} {es : List (Int × MV)} {k : Int} (hm : (a, MO.dici es) ∈ σ.os) (q : Q (.bool (!(getM es k).isSome)) σ) : Cmp X .NotIn (.int k) (.ref a) σ Q := by
  rintro _ _ ⟨t, rfl⟩ rfl s R
  obtain ⟨kvs, hd, hi⟩ := R.at hm
  refine wpAny_notIn_of (intKind_is _ _ _ _) (R.ne_sys (List.mem_map_of_mem (f := (·.1)) hm)) hd.mapOf ?_
  rw [getM_isSome hi]
  exact fin R _ q rfl
theorem Cmp_notin_dicb {a : Addr} {es : List (List UInt8 × MV)} {k : List UInt8} (hm : (a, MO.dicb es) ∈ σ.os) (q : Q (.bool (!(getM es k).isSome)) σ) : Cmp X .NotIn (.bytes k) (.ref a) σ Q := by
  rintro _ _ ⟨t, rfl⟩ rfl s R
  obtain ⟨kvs, hd, hi⟩ := R.at hm
  refine wpAny_notIn_of (bytesKind_is _ _ _ _) (R.ne_sys (List.mem_map_of_mem (f := (·.1)) hm)) hd.mapOf ?_
  rw [getM_isSome hi]
  exact fin R _ q rfl
theorem Cmp_in_list {a : Addr} {ns : List Int} {k : Int} (hm : (a, MO.lst (ns.map .int)) ∈ σ.os) (q : Q (.bool (decide (k ∈ ns))) σ) : Cmp X .In (.int k) (.ref a) σ Q := by
  rintro _ _ ⟨t, rfl⟩ rfl s R
  obtain ⟨vs, hp, hi⟩ := R.at hm
  refine in_list_ints hp.isList (ints_of hi) ?_
  rw [show (ns.any fun x => x == k) = decide (k ∈ ns) by rw [Bool.eq_iff_iff]; simp]
  exact ⟨σ, R, .bool _, rfl, q⟩
theorem Cmp_isnot_none {mv : MV} (h : mv = .none) (q : Q (.bool false) σ) : Cmp X .IsNot mv .none σ Q := by
  rintro _ _ i rfl s R
  subst h; subst i
  exact isNot_none ⟨σ, R, .bool _, rfl, q⟩
theorem Cmp_nebool {c d : Bool} (q : Q (.bool (c != d)) σ) : Cmp X .NotEq (.bool c) (.bool d) σ Q := by
  rintro _ _ rfl rfl s R
  exact ne_bool ⟨σ, R, .bool _, rfl, q⟩

/-! methods of dicts -/
theorem CallV_get {a : Addr} {es : List (Int × MV)} {k : Int} {d : MV} (hm : (a, MO.dici es) ∈ σ.os) (q : Q ((getM es k).getD d) σ) : CallV X (.builtin "dict.get") [.ref a, .int k, d] σ Q := by
  rintro vs (_ | ⟨rfl, _ | ⟨⟨t, rfl⟩, _ | ⟨i, ⟨⟩⟩⟩⟩) s R
  obtain ⟨kvs, hd, hi⟩ := R.at hm
  refine call_meetsIn F.slot_dict_get (dictTypeIs hd) F.entry_dict_get (F.args_dict_get_3 _ _ _) (meets_dict_get_default (intKind g.prog g.w) a (intKind_is _ _ _ _) (R.ne_sys (List.mem_map_of_mem (f := (·.1)) hm)) _) ⟨_, hd.mapOf, ?_⟩
  refine fin (v := ((valueAt kvs k).getD _)) R _ q ?_
  cases e : getM es k with
  | none => rw [getM_none hi e]; exact i
  | some mv => obtain ⟨v, hv, i'⟩ := getM_some hi e; rw [hv]; exact i'
noncomputable def delM {κ : Type} [DecidableEq κ] (es : List (κ × MV)) (k : κ) : List (κ × MV) := es.filter fun e => !decide (e.1 = k)
theorem delM_without {κ : Type} [DecidableEq κ] {es : List (κ × MV)} {kvs : List (κ × Value)} {k : κ} (h : All2 (fun (e : κ × MV) (p : κ × Value) => e.1 = p.1 ∧ e.2.Is p.2) es kvs) :
    All2 (fun (e : κ × MV) (p : κ × Value) => e.1 = p.1 ∧ e.2.Is p.2) (delM es k) (without kvs k) := by
  unfold delM without
  induction h with
  | nil => exact .nil
  | @cons a b l r x t ih =>
    rw [List.filter_cons, List.filter_cons]
    by_cases hk : a.1 = k
    · have hk' : b.1 = k := x.1 ▸ hk
      simp only [hk, hk', decide_true]
      simpa using ih
    · have hk' : ¬ b.1 = k := x.1 ▸ hk
      rw [if_pos (by simp [hk]), if_pos (by simp [hk'])]
      exact All2.cons x ih
theorem CallV_pop {a : Addr} {es : List (List UInt8 × MV)} {k : List UInt8} {mv : MV} {os' : Os} (hm : (a, MO.dicb es) ∈ σ.os) (hl : es.length ≤ 1000000) (hx : getM es k = some mv) (u : Put a (.dicb (delM es k)) σ.os os') (q : Q mv ⟨σ.lm, os'⟩) : CallV X (.builtin "dict.pop") [.ref a, .bytes k] σ Q := by
  rintro vs (_ | ⟨rfl, _ | ⟨⟨t, rfl⟩, ⟨⟩⟩⟩) s R
  obtain ⟨kvs, hd, hi⟩ := R.at hm
  obtain ⟨v, hv, i⟩ := getM_some hi hx
  refine call_meetsIn F.slot_dict_pop (dictTypeIs hd) F.entry_dict_pop (F.args_dict_pop_2 _ _) (meets_dict_pop_there (bytesKind g.prog g.w) a (bytesKind_is _ _ _ _) [] (.inl rfl) rfl) ⟨kvs, v, hd, by rw [← hi.length, sizeLine_eq]; omega, hv, fun h' hd' hs => ?_⟩
  exact ⟨_, R.put u hs ⟨_, hd', delM_without hi⟩, mv, i, q⟩
end

/-! `bytes(n)` -/
theorem bn_no_bytes : typeLookup (.type "int") "__bytes__" = pure none := by rw [typeLookup_type, builtinLookup_eq_fast]; kernel_rfl
theorem bn_codes {prog : Program} {w : World} {A : Around} {E : Value → Shared → Prop} {s : Shared} {n : Int} {u : Tok} {Q : Value → Shared → Prop} (h0 : 0 ≤ n) (h1 : n ≤ 1000000)
    (hQ : ∀ t k, Q (.bytes (Array.replicate n.toNat 0) t) { s with toks := k }) :
    codeAny (model prog w) A (.call (.builtin "bytes.__new__") ⟨[.type "bytes", .int n u], []⟩) (wants Q E) s := by
  refine codeAny_of_tree ?_
  show wpAny _ A.in1 (do checkBuiltinCall "bytes.__new__" ⟨[.type "bytes", .int n u], []⟩; again (.builtin "bytes.__new__" ⟨[.type "bytes", .int n u], []⟩)) _ _ s
  refine wpAny_bind (wpAny_of_eq (F.bm_newCall _) (wpAny_pure ⟨plainId_quiet F.bm_plain _, codeAny_builtin F.bm_entry ?_⟩))
  rw [Around.under_plainId F.bm_plain _]
  unfold Builtin.«bytes.__new__»
  refine wpAny_bind (wpAny_of_eq (a := true) rfl ?_)
  refine bm_if_false rfl ?_
  refine wpAny_bind (wpAny_of_eq F.bm_sub ?_)
  refine bm_if_false rfl ?_
  refine wpAny_bind (wpAny_of_eq (F.bm_bind _) ?_)
  refine wpAny_bind (wpAny_of_eq (a := ()) rfl ?_)
  refine wpAny_bind (wpAny_of_eq (a := ()) rfl ?_)
  refine bm_if_false rfl ?_
  refine wpAny_bind (wpAny_specialOf (T := "int") (typeIs_int _ _ _) bn_no_bytes ?_)
  refine wpAny_bind (wpAny_of_eq (a := false) rfl ?_)
  refine bm_if_false rfl ?_
  refine wpAny_bind (wpAny_specialOf (T := "int") (typeIs_int _ _ _) F.slot_int_index.lookup ?_)
  refine bm_if_false rfl ?_
  refine wpAny_bind ?_
  first
    | refine wpAny_of_eq (a := Except.ok n) rfl ?_
    | refine wpAny_attempt (wpAny_of_eq (a := n) rfl ?_)
  dsimp only
  have hf : Builtin.Bytes.fitsIndex n = true := by
    unfold Builtin.Bytes.fitsIndex
    simp only [Bool.and_eq_true, decide_eq_true_eq]
    omega
  rw [hf]
  refine bm_if_false rfl ?_
  rw [if_neg (show ¬ n < 0 by omega), if_neg (show ¬ n > 2 ^ 63 - 34 by omega)]
  have ht : Builtin.Bytes.tooLong n.toNat = false := by
    unfold Builtin.Bytes.tooLong
    rw [decide_eq_false_iff_not, sizeLine_eq]
    omega
  rw [ht]
  refine bm_if_false rfl ?_
  refine wpAny_bind (wpAny_rule ?_)
  refine wpAny_bind (wpAny_mkBytes ?_ ?_)
  · refine wpAny_of_eq (a := Fin.done (.ret (.bytes (Array.replicate n.toNat 0) s.toks))) rfl ?_
    exact hQ _ _
  · rw [Array.size_replicate, sizeLine_eq]; omega

section
variable {g : G} {X : Cx g} {σ : St} {Q : VQ}
theorem CallV_bytes_n {n : Int} (h0 : 0 ≤ n) (h1 : n ≤ 1000000) (q : Q (.bytes (List.replicate n.toNat 0)) σ) : CallV X (.type "bytes") [.int n] σ Q := by
  rintro vs (_ | ⟨⟨t, rfl⟩, ⟨⟩⟩) s R
  refine callType_codes (Q₁ := fun obj s₁ => s₁.TypeIs obj "bytes" ∧ (∃ σ', Rep X σ' s₁ ∧ VPost Q obj σ')) F.bm_called (F.bm_typeCall _) F.entry_object_init
    (bn_codes h0 h1 fun t k => ⟨PySem.W.typeIs_bytes _ _ _, by rw [← List.toArray_replicate]; exact fin R _ q ⟨_, rfl⟩⟩) fun obj s₁ h₁ => ?_
  exact ⟨h₁.1, F.args_object_init_2 obj _, object_init_meets F.bm_called.init.lookup F.bm_called.made (by decide) g.prog g.w X.A.in1 _ s₁ ⟨h₁.1, rfl, h₁.2⟩⟩
theorem CallV_bytes_l {a : Addr} {ns : List Int} (hm : (a, MO.lst (ns.map .int)) ∈ σ.os) (hr : ∀ n ∈ ns, 0 ≤ n ∧ n < 256) (hl : ns.length ≤ 1000000) (q : Q (.bytes (ns.map fun n => n.toNat.toUInt8)) σ) : CallV X (.type "bytes") [.ref a] σ Q := by
  rintro vs (_ | ⟨rfl, ⟨⟩⟩) s R
  obtain ⟨vs, hp, hi⟩ := R.at hm
  have hlen : vs.length = ns.length := by rw [← hi.length, List.length_map]
  refine call_bytes_ints hp.isList (ints_of hi) hr (by rw [hlen, sizeLine_eq]; omega) X.hh fun h' t k hk => ⟨σ, R.grow hk, .bytes _, ⟨t, rfl⟩, q⟩

/-! ranges -/
theorem CallV_range1 {n : Int} (q : ∀ a, Q (.ref a) ⟨σ.lm, (a, .rng 0 n) :: σ.os⟩) : CallV X (.type "range") [.int n] σ Q := by
  rintro vs (_ | ⟨⟨t, rfl⟩, ⟨⟩⟩) s R
  exact call_range_1 (R.alloc (mo := .rng 0 n) (fun _ _ e => Heap.get?_push_of_some _ e) (Nat.le_refl _) q ⟨_, _, _, Heap.get?_push_size _ rfl⟩)
theorem CallV_range2 {a b : Int} (q : ∀ c, Q (.ref c) ⟨σ.lm, (c, .rng a b) :: σ.os⟩) : CallV X (.type "range") [.int a, .int b] σ Q := by
  rintro vs (_ | ⟨⟨t, rfl⟩, _ | ⟨⟨u, rfl⟩, ⟨⟩⟩⟩) s R
  exact call_range_2 (R.alloc (mo := .rng a b) (fun _ _ e => Heap.get?_push_of_some _ e) (Nat.le_refl _) q ⟨_, _, _, Heap.get?_push_size _ rfl⟩)

/-! tuple of a list -/
theorem CallV_tuple {a : Addr} {mo : MO} {xs : List MV} (hm : (a, mo) ∈ σ.os) (lt : LT mo xs) (hl : xs.length ≤ 1000000) (q : ∀ b, Q (.ref b) ⟨σ.lm, (b, .tup xs) :: σ.os⟩) : CallV X (.type "tuple") [.ref a] σ Q := by
  rintro vs (_ | ⟨rfl, ⟨⟩⟩) s R
  obtain ⟨vs, hp, hi⟩ := lt.at (R.at hm)
  refine call_tuple_list hp (fun h' hk => ?_) (by rw [List.size_toArray, ← hi.length, sizeLine_eq]; omega)
  have R' := R.grow (tk := s.toks) hk
  exact R'.alloc (tk := s.toks) (fun _ _ e => Heap.get?_push_of_some _ e) (Nat.le_refl _) q ⟨vs, Heap.get?_push_size _ rfl, hi⟩

/-! operators on lists -/
theorem Op_addl {a b : Addr} {ma mb : MO} {xs ys : List MV} (h1 : (a, ma) ∈ σ.os) (l1 : LT ma xs) (h2 : (b, mb) ∈ σ.os) (l2 : LT mb ys) (hl : xs.length + ys.length ≤ 1000000) (q : ∀ c, Q (.ref c) ⟨σ.lm, (c, .lst (xs ++ ys)) :: σ.os⟩) : Op X .Add (.ref a) (.ref b) σ Q := by
  rintro _ _ rfl rfl s R
  obtain ⟨vs, hp, hi⟩ := l1.at (R.at h1)
  obtain ⟨ws, hp2, hi2⟩ := l2.at (R.at h2)
  obtain ⟨m, news, F, N, back⟩ := R.all
  refine add_lists F N hp hp2 (fun h' F' N' => ?_) (by rw [← hi.length, ← hi2.length, sizeLine_eq]; omega)
  refine ⟨_, R.more (mo := .lst _) (back h' s.toks F' fun p hp => N' p (.tail _ hp)) (Nat.le_refl _) ⟨vs ++ ws, ⟨0, (N' _ (.head _)).1⟩, hi.append hi2⟩, .ref _, rfl, q _⟩
theorem fold_rep {α : Type} (items : Array α) : ∀ (k : Nat) (acc : Array α), (List.foldl (fun x y => x ++ y) acc (List.replicate k items)) = acc ++ (List.replicate k items.toList).flatten.toArray
  | 0, acc => by simp
  | k + 1, acc => by rw [List.replicate_succ, List.foldl_cons, fold_rep items k, List.replicate_succ, List.flatten_cons]; apply Array.ext'; simp
theorem Op_mull1 {a : Addr} {x : MV} {n : Int} (h1 : (a, .lst [x]) ∈ σ.os) (h0 : 0 ≤ n) (hn : n ≤ 1000000) (q : ∀ c, Q (.ref c) ⟨σ.lm, (c, .lst (List.replicate n.toNat x)) :: σ.os⟩) : Op X .Mult (.ref a) (.int n) σ Q := by
  rintro _ _ rfl ⟨t, rfl⟩ s R
  obtain ⟨vs, ⟨e, hp⟩, hi⟩ := R.at h1
  obtain ⟨m, news, F, N, back⟩ := R.all
  obtain ⟨v, rfl, i⟩ := one hi
  refine mul_list F N hp (by omega) (by omega) (by simp; omega) (fun h' F' N' => ?_)
  refine ⟨_, R.more (mo := .lst _) (back h' s.toks F' fun p hp => N' p (.tail _ hp)) (Nat.le_refl _) ⟨List.replicate n.toNat v, ⟨0, ?_⟩, All2.replicate i _⟩, .ref _, rfl, q _⟩
  have := (N' _ (.head _)).1
  rw [fold_rep] at this
  simpa using this

/-! sum, all, max -/
theorem preSum_list (ns : List Int) : ∀ k, k ≤ ns.length → preSum (fun i => ns.getD i 0) k = (ns.take k).sum := by
  intro k
  induction k with
  | zero => intro _; simp [preSum]
  | succ k ih =>
    intro hk
    have e : ns[k]? = some (ns.getD k 0) := by rw [List.getD_eq_getElem?_getD]; simp [show k < ns.length by omega]
    rw [List.take_add_one, e]
    show preSum _ k + _ = _
    rw [ih (by omega)]
    simp
theorem CallV_sum {a : Addr} {ns : List Int} (hm : (a, MO.lst (ns.map .int)) ∈ σ.os) (q : Q (.int ns.sum) σ) : CallV X (.builtin "sum") [.ref a] σ Q := by
  rintro vs (_ | ⟨rfl, ⟨⟩⟩) s R
  obtain ⟨vs, hp, hi⟩ := R.at hm
  refine call_sum_walkG (wpAny_pyIter_list hp.isList ?_)
  have hlt : a < s.heap.objs.size := R.lt a (List.mem_cons_of_mem _ (List.mem_append_right _ (mem_app (List.mem_map_of_mem (f := (·.1)) hm))))
  refine ⟨_, _, _, _, _, _, fun i => ns.getD i 0, rfl, Walks.list (A := X.A.in1) X.hh s.heap.objs.size a (Nat.ne_of_lt hlt) vs.toArray, ⟨⟨_, Heap.get?_push_size _ rfl, rfl, rfl⟩, hp.isList.push _⟩, ?_, ?_, ?_⟩
  · intro b hb
    rw [Heap.size_push]
    simp only [List.mem_cons, List.not_mem_nil, or_false] at hb
    rcases hb with rfl | rfl
    · exact Nat.lt_succ_self _
    · exact Nat.lt_succ_of_lt hlt
  · intro i v hv
    have hv : vs[i]? = some v := by simpa using hv
    obtain ⟨mv, h1, h2⟩ := hi.get' hv
    rw [List.getElem?_map] at h1
    cases e : ns[i]? with
    | none => rw [e] at h1; cases h1
    | some n =>
      rw [e] at h1; cases h1
      obtain ⟨t, rfl⟩ := h2
      exact ⟨t, by show _ = Value.int (ns.getD i 0) t; rw [List.getD_eq_getElem?_getD, e]; rfl⟩
  · intro h' tk t' hk
    rw [preSum_list ns _ (by rw [List.size_toArray, ← hi.length, List.length_map]; exact Nat.le_refl _), List.take_of_length_le (by rw [List.size_toArray, ← hi.length, List.length_map]; exact Nat.le_refl _)]
    refine ⟨σ, R.grow fun b o e => hk b o (fun hb => ?_) (Heap.get?_push_of_some _ e), .int _, ⟨_, rfl⟩, q⟩
    simp only [List.mem_cons, List.not_mem_nil, or_false] at hb
    exact absurd (Heap.lt_size e) (by rw [hb]; exact Nat.lt_irrefl _)
theorem not_of_mem1 {s : Shared} {b : Addr} {o : Obj} (e : s.heap.get? b = some o) : b ∉ [s.heap.objs.size] := fun hb => by
  simp only [List.mem_cons, List.not_mem_nil, or_false] at hb
  exact absurd (Heap.lt_size e) (by rw [hb]; exact Nat.lt_irrefl _)
theorem all_range (bs : List Bool) : (List.range bs.length).all (fun i => bs.getD i true) = bs.all id := by
  rw [Bool.eq_iff_iff, List.all_eq_true, List.all_eq_true]
  constructor
  · intro h b hb
    obtain ⟨i, hi, rfl⟩ := List.mem_iff_getElem.mp hb
    have := h i (List.mem_range.mpr hi)
    rw [List.getD_eq_getElem?_getD, List.getElem?_eq_getElem hi] at this
    exact this
  · intro h i hi
    rw [List.getD_eq_getElem?_getD, List.getElem?_eq_getElem (List.mem_range.mp hi)]
    exact h _ (List.getElem_mem _)
theorem CallV_all {a : Addr} {bs : List Bool} (hm : (a, MO.lst (bs.map .bool)) ∈ σ.os) (q : Q (.bool (bs.all id)) σ) : CallV X (.builtin "all") [.ref a] σ Q := by
  rintro vs (_ | ⟨rfl, ⟨⟩⟩) s R
  obtain ⟨vs, hp, hi⟩ := R.at hm
  have hlen : vs.toArray.size = bs.length := by rw [List.size_toArray, ← hi.length, List.length_map]
  refine call_all_walk (wpAny_pyIter_list hp.isList ?_)
  have hlt : a < s.heap.objs.size := R.lt a (List.mem_cons_of_mem _ (List.mem_append_right _ (mem_app (List.mem_map_of_mem (f := (·.1)) hm))))
  refine ⟨_, _, _, _, _, _, fun i => bs.getD i true, rfl, Walks.list (A := X.A.in1) X.hh s.heap.objs.size a (Nat.ne_of_lt hlt) vs.toArray, ⟨⟨_, Heap.get?_push_size _ rfl, rfl, rfl⟩, hp.isList.push _⟩, ?_, ?_⟩
  · intro i v s' Q' E' hv hq
    have hv : vs[i]? = some v := by simpa using hv
    obtain ⟨mv, h1, h2⟩ := hi.get' hv
    rw [List.getElem?_map] at h1
    cases e : bs[i]? with
    | none => rw [e] at h1; cases h1
    | some b =>
      rw [e] at h1; cases h1
      have h2 : v = .bool b := h2
      subst h2
      have : (fun i => bs.getD i true) i = b := by show bs.getD i true = b; rw [List.getD_eq_getElem?_getD, e]; rfl
      rw [this] at hq
      exact wpAny_truthy_bool hq
  · intro h' tk hk
    rw [hlen, all_range]
    exact ⟨σ, R.grow fun b o e => hk b o (not_of_mem1 e) (Heap.get?_push_of_some _ e), .bool _, rfl, q⟩
theorem CallV_max {a b : Int} (q : Q (.int (max a b)) σ) : CallV X (.builtin "max") [.int a, .int b] σ Q := by
  rintro vs (_ | ⟨⟨t, rfl⟩, _ | ⟨⟨u, rfl⟩, ⟨⟩⟩⟩) s R
  obtain ⟨m, news, F, N, back⟩ := R.all
  refine max_two_N X.hh F N fun h' tk F' N' => ?_
  have : (if b > a then b else a) = max a b := by rw [Int.max_def]; split <;> split <;> omega
  rw [this]
  exact ⟨σ, back h' tk F' N', .int _, ⟨_, rfl⟩, q⟩

/-! sorted -/
noncomputable def srt (ns : List Int) : List Int := ns.mergeSort (fun a b => decide (a ≤ b))
theorem srt_of {ns ns' : List Int} (hp : ns'.Perm ns) (hs : ns'.Pairwise (· ≤ ·)) : ns' = srt ns := by
  refine List.Perm.eq_of_pairwise (le := fun a b : Int => a ≤ b) (fun a b _ _ h1 h2 => Int.le_antisymm h1 h2) hs ?_ (hp.trans (List.mergeSort_perm _ _).symm)
  have := List.pairwise_mergeSort (le := fun a b : Int => decide (a ≤ b)) (fun a b c h1 h2 => by simp at *; omega) (fun a b => by simp; omega) ns
  exact this.imp fun h => by simpa using h
theorem CallV_sorted {a : Addr} {ns : List Int} (hm : (a, MO.lst (ns.map .int)) ∈ σ.os) (hl : ns.length < 64) (q : ∀ b, Q (.ref b) ⟨σ.lm, (b, .lst ((srt ns).map .int)) :: σ.os⟩) : CallV X (.builtin "sorted") [.ref a] σ Q := by
  rintro vs (_ | ⟨rfl, ⟨⟩⟩) s R
  obtain ⟨vs, hp, hi⟩ := R.at hm
  refine sorted_ints hp.isList (ints_of hi) (by rw [← hi.length, List.length_map]; exact hl) fun out ns' h1 h2 h3 => ?_
  obtain ⟨e, he⟩ := sortedAll_at s.heap vs out
  have := srt_of h2 h3
  subst this
  exact R.alloc (mo := .lst ((srt ns).map .int)) (tk := s.toks) (fun _ _ e => sortedAll_old e) (Nat.le_succ _) q ⟨out.toList, ⟨e, he⟩, of_ints h1⟩
theorem ints_ptw : ∀ {vs : List Value} {ns : List Int}, vs.length = ns.length → (∀ (j : Nat) (v : Value), vs[j]? = some v → ∃ t k, ns[j]? = some k ∧ v = .int k t) → IntsAre vs ns
  | [], [], _, _ => .nil
  | v :: vs, n :: ns, hl, h => by
    obtain ⟨t, k, e, rfl⟩ := h 0 v rfl
    cases e
    exact .cons _ _ (ints_ptw (by simpa using hl) fun j v e => h (j + 1) v e)
theorem CallV_sorted_dict {a : Addr} {es : List (Int × MV)} (hm : (a, MO.dici es) ∈ σ.os) (hl : es.length < 64) (q : ∀ b, Q (.ref b) ⟨σ.lm, (b, .lst ((srt (es.map (·.1))).map .int)) :: σ.os⟩) : CallV X (.builtin "sorted") [.ref a] σ Q := by
  rintro vs (_ | ⟨rfl, ⟨⟩⟩) s R
  obtain ⟨kvs, hd, hi⟩ := R.at hm
  refine Calls.call_function_entry kind_sorted plain_sorted entry_sorted (args_sorted1 _) ?_
  unfold Builtin.«sorted»
  refine wpAny_bind (m := checkCount "sorted" 1 1 _) (wpAny_pure ?_)
  obtain ⟨ep, hd⟩ : ∃ ep, s.heap.DictAt (intKind g.prog g.w) a kvs ep := by
    obtain ⟨o, es, ep, r⟩ := hd; exact ⟨ep, o, es, r⟩
  have hk64 : kvs.length < 64 := by rw [← hi.length]; exact hl
  refine wpAny_bind (kdu_collect (kdl_dict (ep := ep) (R.ne_sys (List.mem_map_of_mem (f := (·.1)) hm))) X.hh hd (by rw [sizeLine_eq]; omega) fun h₁ tk acc hk hacc => ?_)
  have hI : IntsAre acc.toList (kvs.map (·.1)) := by
    refine ints_ptw (by rw [Array.length_toList, hacc.1, List.length_map]) fun j v e => ?_
    obtain ⟨k, x, h1, h2⟩ := hacc.2 j v (by rw [← Array.getElem?_toList]; exact e)
    obtain ⟨t, rfl⟩ := Value.isInt_shape h2
    exact ⟨t, k, by rw [List.getElem?_map, h1]; rfl, rfl⟩
  have hal : acc.toList.length < 64 := by rw [Array.length_toList, hacc.1]; exact hk64
  refine wpAny_bind (wpAny_newList ?_)
  have hoL : (h₁.push (seqObj "list" acc.toList.toArray 0)).get? h₁.objs.size = some (seqObj "list" acc.toList.toArray 0) := Heap.get?_push_size _ rfl
  refine wpAny_bind (wpAny_holding (wpAny_call_entry slot_list_sort ⟨_, hoL, rfl⟩ entry_list_sort (list_sort_tree hoL hI hal fun out ns' a1 a2 a3 => ⟨_, rfl, ?_⟩) (args_list_sort _)))
  refine wpAny_pure ⟨_, rfl, ?_⟩
  have := srt_of a2 a3
  rw [← same_keys hi] at this
  subst this
  obtain ⟨e, he⟩ := sortedHeap_at (out := out) hoL
  have R₁ := R.grow (tk := tk) hk
  exact R₁.alloc (mo := .lst ((srt (es.map (·.1))).map .int)) (tk := tk) (fun b o e => (sortedHeap_old (Nat.ne_of_lt (Heap.lt_size e)) (by rw [Heap.size_push]; exact Nat.lt_succ_of_lt (Heap.lt_size e))).trans (Heap.get?_push_of_some _ e)) (Nat.le_refl _) q ⟨out.toList, ⟨e, he⟩, of_ints a1⟩
end

/-! what is walked over -/
inductive ItSrc : MO → List MV → Prop
  | lst {xs} : ItSrc (.lst xs) xs
  | lsi {xs} : ItSrc (.lsi xs) xs
  | rng {a b} : ItSrc (.rng a b) ((List.range (b - a).toNat).map fun i : Nat => MV.int (a + i))

theorem letGo_rng {prog : Program} {w : World} {A : Around} {E : Value → Shared → Prop} {target : PySem.Expr} {I : Addr} {a b c : Int} {v : Value} {Q' : Unit → Shared → Prop} {s' : Shared} (hit : IsRangeIter s'.heap I a b c) (h : Q' () s') :
    wpAny (model prog w) A (letOwnedTupleGo target (.ref I) v) Q' E s' := by
  unfold letOwnedTupleGo
  cases target <;> first
    | exact wpAny_pure h
    | (cases v <;> first
        | exact wpAny_pure h
        | (refine wpAny_bind (wpAny_load hit ?_)
           exact wpAny_pure h))
/-- a walk over a source that stands frozen -/
structure Wk (g : G) (A : Around) (I ax : Addr) (n : Nat) (P : Nat → Value → Prop) (St : Nat → Heap → Prop) : Prop where
  W : ∃ fp, (∀ b ∈ fp, b = I ∨ b = ax) ∧ Walks g.prog g.w A I fp [I] n P St
  at_ : ∀ i h, St i h → ∃ o, h.get? I = some o
  go : ∀ (target : PySem.Expr) (i : Nat) (v : Value) (s : Shared) (Q : Unit → Shared → Prop) (E : Value → Shared → Prop), St i s.heap → Q () s → wpAny (model g.prog g.w) A (letOwnedTupleGo target (.ref I) v) Q E s

section
variable {g : G} {X : Cx g} {σ : St}
theorem iter_src {s : Shared} {E : Value → Shared → Prop} {Q : Value → Shared → Prop} {ax : Addr} {mo : MO} {xs : List MV} (R : Rep X σ s) (hm : (ax, mo) ∈ σ.os) (t : ItSrc mo xs) (hsm : ∀ a b, mo = .rng a b → Builtin.Range.small a b 1 = true)
    (h : ∀ (s' : Shared) (I : Addr) (P : Nat → Value → Prop) (St : Nat → Heap → Prop), (∃ (h' : Heap) (oI : Obj), s' = { s with heap := h' } ∧ (∀ b o, s.heap.get? b = some o → h'.get? b = some o) ∧ s.heap.objs.size ≤ I ∧ h'.get? I = some oI) →
      Wk g X.A I ax xs.length P St → St 0 s'.heap → (∀ i v, i < xs.length → P i v → ∃ mv, xs[i]? = some mv ∧ mv.Is v) → Q (.ref I) s') :
    wpAny (model g.prog g.w) X.A (pyIter (.ref ax)) Q E s := by
  have hlt : ax < s.heap.objs.size := R.lt ax (List.mem_cons_of_mem _ (List.mem_append_right _ (mem_app (List.mem_map_of_mem (f := (·.1)) hm))))
  have lists : ∀ vs : List Value, s.heap.IsList ax vs.toArray → All2 MV.Is xs vs → wpAny (model g.prog g.w) X.A (pyIter (.ref ax)) Q E s := fun vs hp hi => by
    refine wpAny_pyIter_list hp ?_
    have hl : vs.toArray.size = xs.length := by rw [List.size_toArray, hi.length]
    refine h _ s.heap.objs.size (fun i v => vs.toArray[i]? = some v) (fun i h => h.IsListIter s.heap.objs.size ax i ∧ h.IsList ax vs.toArray) ⟨_, _, rfl, fun b o e => Heap.get?_push_of_some _ e, Nat.le_refl _, Heap.get?_push_size _ rfl⟩
      ⟨⟨[s.heap.objs.size, ax], ?_, hl ▸ Walks.list X.hh s.heap.objs.size ax (Nat.ne_of_lt hlt) vs.toArray⟩, fun i h st => ?_, fun target i v s Q E st h => letGo_listiter st.1 h⟩ ⟨⟨_, Heap.get?_push_size _ rfl, rfl, rfl⟩, hp.push _⟩ fun i v _ hv => hi.get' (by simpa using hv)
    · intro b hb; simpa using hb
    · obtain ⟨⟨o, ho, _⟩, _⟩ := st; exact ⟨o, ho⟩
  cases t with
  | lst => obtain ⟨vs, hp, hi⟩ := R.at hm; exact lists vs hp.isList hi
  | lsi => obtain ⟨vs, hp, hi⟩ := R.at hm; exact lists vs hp hi
  | @rng a b =>
    obtain ⟨t, u, v, hr⟩ := R.at hm
    refine wpAny_pyIter_range hr (hsm a b rfl) ?_
    have hsz : Builtin.Range.rangeSize a b 1 = ((b - a).toNat : Int) := by
      unfold Builtin.Range.rangeSize
      rw [if_pos (by decide)]
      split
      · rw [Int.ediv_one]; omega
      · omega
    refine h _ s.heap.objs.size (fun i v => ∃ t, v = .int (a + (i : Nat) * 1) t) (fun i h => IsRangeIter h s.heap.objs.size (a + (i : Nat) * 1) (((b - a).toNat : Int) - (i : Nat)) 1) ⟨_, _, rfl, fun b o e => Heap.get?_push_of_some _ e, Nat.le_refl _, Heap.get?_push_size _ rfl⟩
      ⟨⟨[s.heap.objs.size], ?_, ?_⟩, fun i h st => ⟨_, st⟩, fun target i v s Q E st h => letGo_rng st h⟩ ?_ ?_
    · intro b hb; exact .inl (by simpa using hb)
    · rw [List.length_map, List.length_range]; exact Walks.range X.hh s.heap.objs.size a 1 (b - a).toNat
    · show Heap.get? _ _ = _
      rw [hsz]; simpa using Heap.get?_push_size _ rfl
    · rintro i v hlt ⟨t, rfl⟩
      rw [List.length_map, List.length_range] at hlt
      refine ⟨.int (a + i), ?_, t, by rw [Int.mul_one]⟩
      rw [List.getElem?_map, List.getElem?_range hlt]; rfl
end

/-! loops -/
noncomputable def Wkn {β : Type} {κ : Type} (os os' : List (κ × β)) : Prop := (∀ p ∈ os', p ∈ os) ∧ ((os.map (·.1)).Nodup → (os'.map (·.1)).Nodup)
theorem Wkn.refl {β κ : Type} {os : List (κ × β)} : Wkn os os := ⟨fun _ h => h, id⟩
theorem Wkn.of {β κ : Type} {os fp rest r : List (κ × β)} (h : Sel os fp r) (k : Suf rest r) : Wkn os (fp ++ rest) := by
  obtain ⟨j, rfl⟩ := k.app
  have pm := h.perm
  have sb : (fp ++ rest).Sublist (fp ++ (j ++ rest)) := List.Sublist.append_left (List.sublist_append_right _ _) _
  exact ⟨fun p hp => pm.mem_iff.mpr (sb.subset hp), fun nd => List.Nodup.sublist (sb.map _) ((pm.map _).nodup_iff.mp nd)⟩
theorem Wkn.of' {β κ : Type} {os fp r : List (κ × β)} (h : Sel os fp r) : Wkn os fp := by
  have := Wkn.of h (Suf.nil r)
  rwa [List.append_nil] at this
section
variable {g : G} {X : Cx g} {σ : St} {s : Shared}
theorem Rep.wkn (R : Rep X σ s) {lm' : Lm} {os' : Os} (h1 : Wkn σ.lm lm') (h2 : Wkn σ.os os') : Rep X ⟨lm', os'⟩ s := R.weak h1.1 (h1.2 R.lm) h2.1 (h2.2 R.os_nd)
theorem Tri.post {α : Type} {m : Sem α} {Q Q' : α → St → Prop} (h : Tri X m σ Q) (k : ∀ a σ', Q a σ' → ∃ lm os, Wkn σ'.lm lm ∧ Wkn σ'.os os ∧ Q' a ⟨lm, os⟩) : Tri X m σ Q' := fun s R =>
  wpAny_mono (h s R) (fun a s' ⟨σ', R', q⟩ => by obtain ⟨lm, os, w1, w2, q'⟩ := k a σ' q; exact ⟨_, R'.wkn w1 w2, q'⟩) fun _ _ e => e
theorem Tri.pre {α : Type} {m : Sem α} {Q : α → St → Prop} {lm : Lm} {os : Os} (h : Tri X m ⟨lm, os⟩ Q) (w1 : Wkn σ.lm lm) (w2 : Wkn σ.os os) : Tri X m σ Q := fun s R => h s (R.wkn w1 w2)
theorem Rep.refz (R : Rep X σ s) {a : Addr} {o : Obj} (na : a ∉ X.addrs σ.os) (nn : g.h₀.objs.size ≤ a) (x : s.heap.get? a = some o) : Rep (X.fz [(a, .raw o)]) σ s := by
  have hp : (X.addrs ((a, .raw o) :: σ.os)).Perm (a :: X.addrs σ.os) := by
    unfold Cx.addrs
    rw [List.cons_append, List.map_cons]
    exact (List.Perm.cons _ List.perm_middle).trans (List.Perm.swap _ _ _)
  have R' : Rep X ⟨σ.lm, (a, .raw o) :: σ.os⟩ s := by
    refine ⟨R.core, R.keep, R.ns, R.cl, ?_, hp.nodup_iff.mpr (List.nodup_cons.mpr ⟨na, R.nd⟩), ?_, R.lm⟩
    · intro p h
      rcases List.mem_cons.mp (show p ∈ (a, MO.raw o) :: (σ.os ++ X.fro) from h) with rfl | h
      · exact x
      · exact R.os p h
    · intro b hb
      rcases List.mem_cons.mp (hp.mem_iff.mp hb) with rfl | hb
      · exact nn
      · exact R.new b hb
  exact R'.raw rfl x

noncomputable def Asg (X : Cx g) (target : PySem.Expr) (mv : MV) (σ : St) (Q : St → Prop) : Prop := ∀ v, mv.Is v → Tri X (assign target X.env v) σ fun _ σ' => Q σ'
theorem Asg_name {x : Str} {pos : Pos} {mv : MV} {Q : St → Prop} (h : Sto X x mv σ Q) : Asg X (.Name x pos) mv σ Q := fun v i s R => wpAny_assign_Name (h v i s R)
theorem Asg_tup2 {x y : Str} {p1 p2 pos : Pos} {k : Nat} {t : Addr} {a b : MV} {Q : St → Prop} (hm : (t, MO.tup [a, b]) ∈ σ.os) (h : Sto X x a σ fun σ₁ => Sto X y b σ₁ Q) : Asg X (.Tuple [.Name x p1, .Name y p2] k pos) (.ref t) σ Q := by
  rintro _ rfl s R
  obtain ⟨vs, hp, hi⟩ := R.at hm
  obtain ⟨v, u, rfl, i1, i2⟩ := two hi
  refine wpAny_assign_Tuple (items := [v, u].toArray) X.hh ⟨_, hp, rfl, _, rfl⟩ rfl rfl fun h' hx => ?_
  have R' := R.grow (tk := s.toks) fun b o e => hx b o (Nat.ne_of_lt (Heap.lt_size e)) e
  refine wpAny_assignInOrder_more ?_
  show wpAny _ _ (assign (.Name x p1) X.env v) _ _ _
  refine wpAny_assign_Name (wpAny_mono (h v i1 _ R') (fun _ s₁ ⟨σ₁, R₁, h₁⟩ => ?_) fun _ _ e => e)
  refine wpAny_assignInOrder_more ?_
  show wpAny _ _ (assign (.Name y p2) X.env u) _ _ _
  exact wpAny_assign_Name (wpAny_mono (h₁ u i2 s₁ R₁) (fun _ s₂ q => wpAny_assignInOrder_none q) fun _ _ e => e)

/-- one flow of a loop's body -/
noncomputable def LPost (Inv : Lm → Os → Prop) (Q : FQ) (ax : Addr) (mo : MO) : FQ := fun fl σ =>
  match fl with
  | .next | .cont => ∃ lm os, Wkn σ.lm lm ∧ Wkn σ.os os ∧ Inv lm os
  | .brk => Q .next ⟨σ.lm, (ax, mo) :: σ.os⟩
  | .ret v => Q (.ret v) ⟨σ.lm, (ax, mo) :: σ.os⟩
theorem Ex_for {target iter : PySem.Expr} {body : List Stmt} {pos : Pos} {Q : FQ}
    (h : Ev X iter σ fun it σ₁ => ∃ ax mo xs os₀, ∃ Inv : Nat → Lm → Os → Prop, it = .ref ax ∧ Pick (ax, mo) σ₁.os os₀ ∧ ItSrc mo xs ∧ (∀ a b, mo = .rng a b → Builtin.Range.small a b 1 = true) ∧ Inv 0 σ₁.lm os₀ ∧
      (∀ i mv lm os fr, xs[i]? = some mv → Inv i lm os → Asg (X.fz fr) target mv ⟨lm, os⟩ fun σ₂ => Exs (X.fz fr) body σ₂ (LPost (Inv (i + 1)) Q ax mo)) ∧
      (∀ lm os, Inv xs.length lm os → Q .next ⟨lm, (ax, mo) :: os⟩))
    (hf : ∀ x, foldedSetIterable iter X.env x = Pure.pure x := by exact fun _ => rfl) : Ex X (.For target iter body [] pos) σ Q := fun s R => by
  refine wpAny_For (wpAny_mono (h s R) (fun v s₁ hx => ?_) fun _ _ e => e) hf
  obtain ⟨σ₁, R₁, mv, i, ax, mo, xs, os₀, Inv, e1, hpk, src, hsm, h0, step, done⟩ := hx
  subst e1; subst i
  have R₁ : Rep X ⟨σ₁.lm, (ax, mo) :: os₀⟩ s₁ := R₁.perm hpk.perm.symm
  have hm : (ax, mo) ∈ (⟨σ₁.lm, (ax, mo) :: os₀⟩ : St).os := .head _
  refine iter_src R₁ hm src hsm ?_
  rintro _ I P St ⟨h', oI, rfl, hk, hI, hoI⟩ ⟨⟨fp, hfp, W⟩, at_, go⟩ st0 val
  obtain ⟨oax, hoax⟩ := (R₁.at hm).has
  have moAt : ∀ h : Heap, h.get? ax = some oax → At g h ax mo := fun h hh => (R₁.at hm).keep fun o e => by rw [hoax] at e; cases e; exact hh
  have R2 : Rep (X.fz [(I, .raw oI), (ax, .raw oax)]) ⟨σ₁.lm, os₀⟩ { s₁ with heap := h' } := (R₁.raw rfl hoax).addz (tk := s₁.toks) hk hI hoI
  have back : ∀ {lm os s}, Rep (X.fz [(ax, .raw oax)]) ⟨lm, os⟩ s → Rep X ⟨lm, (ax, mo) :: os⟩ s := fun R => Rep.unraw (l := []) R (moAt _ (R.os (ax, .raw oax) (List.mem_append_right _ (.head _))))
  refine codeAny_forLoop_any (fun n s => ∃ i lm os oI, n = xs.length - i ∧ i ≤ xs.length ∧ Rep (X.fz [(I, .raw oI), (ax, .raw oax)]) ⟨lm, os⟩ s ∧ St i s.heap ∧ Inv i lm os) ?_ xs.length ⟨0, _, _, oI, rfl, Nat.zero_le _, R2, st0, h0⟩
  rintro n s ⟨i, lm, os, oI, rfl, hi, R, st, inv⟩
  obtain ⟨Rd, nI, fI⟩ := R.drop
  by_cases hlt : i < xs.length
  · refine W.item i s _ _ hlt st fun v h' tk hP st' hk => ?_
    obtain ⟨mv, hmv, iv⟩ := val i v hlt hP
    obtain ⟨oI', hoI'⟩ := at_ _ _ st'
    have Rs := Rd.still (tk := tk) (fun b o hb e => hk b o (by simpa using hb) e) nI fI
    have Rz := Rs.refz nI (R.new I (List.mem_cons_of_mem _ (List.mem_append_right _ (List.mem_map_of_mem (f := (·.1)) (a := (I, MO.raw oI)) (List.mem_append_right _ (.head _)))))) hoI'
    refine go target _ v _ _ _ st' ?_
    refine wpAny_mono (step i mv lm os [(I, .raw oI'), (ax, .raw oax)] hmv inv v iv _ Rz) (fun _ s₂ ⟨σ₂, R₂, h₂⟩ => wpAny_mono (h₂ s₂ R₂) (fun fl s₃ ⟨σ₃, R₃, h₃⟩ => ?_) fun _ _ e => e.elim) fun _ _ e => e.elim
    have next : (∃ lm os, Wkn σ₃.lm lm ∧ Wkn σ₃.os os ∧ Inv (i + 1) lm os) → ∃ m, m < xs.length - i ∧ ∃ i lm os oI, m = xs.length - i ∧ i ≤ xs.length ∧ Rep (X.fz [(I, .raw oI), (ax, .raw oax)]) ⟨lm, os⟩ s₃ ∧ St i s₃.heap ∧ Inv i lm os := by
      rintro ⟨lm', os', w1, w2, inv'⟩
      refine ⟨xs.length - (i + 1), by omega, i + 1, lm', os', oI', rfl, hlt, R₃.wkn w1 w2, W.frame _ _ _ st' fun b hb o e => ?_, inv'⟩
      rcases hfp b hb with rfl | rfl
      · rw [hoI'] at e; cases e
        exact R₃.os (b, .raw oI') (List.mem_append_right _ (.head _))
      · have := Rz.os (b, .raw oax) (List.mem_append_right _ (.tail _ (.head _)))
        have e' : h'.get? b = some oax := this
        rw [e'] at e; cases e
        exact R₃.os (b, .raw oax) (List.mem_append_right _ (.tail _ (.head _)))
    cases fl with
    | next => exact next h₃
    | cont => exact next h₃
    | brk => exact ⟨_, back R₃.drop.1, h₃⟩
    | ret v => exact ⟨_, back R₃.drop.1, h₃⟩
  · have : i = xs.length := by omega
    subst this
    refine W.done s _ _ st fun h' tk hk => ?_
    refine wpAny_execs_nil ?_
    have Rs := Rd.still (tk := tk) (fun b o hb e => hk b o (by simpa using hb) e) nI fI
    exact ⟨_, back Rs, done _ _ inv⟩

theorem Ex_while {test : PySem.Expr} {body : List Stmt} {pos : Pos} {Q : FQ} (Inv : Nat → Lm → Os → Prop) (n : Nat) (h0 : Inv n σ.lm σ.os)
    (step : ∀ n lm os, Inv n lm os → Te X test ⟨lm, os⟩ fun c σ₁ => if c = true then Exs X body σ₁ (fun fl σ₂ => match fl with
      | .next | .cont => ∃ m lm os, m < n ∧ Wkn σ₂.lm lm ∧ Wkn σ₂.os os ∧ Inv m lm os
      | .brk => Q .next σ₂
      | .ret v => Q (.ret v) σ₂) else Q .next σ₁) : Ex X (.While test body [] pos) σ Q := fun s R => by
  refine wpAny_While (codeAny_whileLoop (fun n s => ∃ lm os, Rep X ⟨lm, os⟩ s ∧ Inv n lm os) ?_ n ⟨_, _, R, h0⟩)
  rintro n s ⟨lm, os, R, inv⟩
  refine wpAny_mono (step n lm os inv s R) (fun c s₁ ⟨σ₁, R₁, h₁⟩ => ?_) fun _ _ e => e.elim
  cases c with
  | false => exact wpAny_execs_nil ⟨_, R₁, h₁⟩
  | true =>
    refine wpAny_mono (h₁ s₁ R₁) (fun fl s₂ ⟨σ₂, R₂, h₂⟩ => ?_) fun _ _ e => e.elim
    cases fl with
    | next => obtain ⟨m, lm, os, hm, w1, w2, inv⟩ := h₂; exact ⟨m, hm, lm, os, R₂.wkn w1 w2, inv⟩
    | cont => obtain ⟨m, lm, os, hm, w1, w2, inv⟩ := h₂; exact ⟨m, hm, lm, os, R₂.wkn w1 w2, inv⟩
    | brk => exact ⟨_, R₂, h₂⟩
    | ret v => exact ⟨_, R₂, h₂⟩
end

noncomputable def Kn (env : Env) (names : List (Str × NameKind)) : Prop := ∀ x k, (x, k) ∈ names → env.kindOf x = some k
theorem Kn.of {env : Env} {names : List (Str × NameKind)} (e : env.scope.names = names) (nd : (names.map (·.1)).Nodup) : Kn env names := fun x k h => by
  show env.scope.names.lookup x = some k
  rw [e]; exact lookup_of_mem nd h

noncomputable def freeCells (cells : List (Str × Addr)) : List (Str × NameKind) → List (Str × Addr) → Option (List (Str × Addr))
  | [], cs => some cs
  | (n, k) :: r, cs => if k = .free then (match cells.lookup n with | some a => freeCells cells r ((n, a) :: cs) | none => none) else freeCells cells r cs
theorem freeCells_sub {cells : List (Str × Addr)} : ∀ {names : List (Str × NameKind)} {cs cl : List (Str × Addr)}, freeCells cells names cs = some cl → (∀ p ∈ cs, cells.lookup p.1 = some p.2) → ∀ p ∈ cl, cells.lookup p.1 = some p.2
  | [], cs, cl, h, hc => by cases h; exact hc
  | (n, k) :: r, cs, cl, h, hc => by
    unfold freeCells at h
    split at h
    · split at h
      · rename_i a ha
        refine freeCells_sub h fun p hp => ?_
        rcases List.mem_cons.mp hp with rfl | hp
        · exact ha
        · exact hc p hp
      · cases h
    · exact freeCells_sub h hc
theorem closureFor_of {scope : Scope} {env : Env} {cl : List (Str × Addr)} (h : freeCells env.cells scope.names [] = some cl) : closureFor scope env = pure cl := by
  unfold closureFor
  have main : ∀ (names : List (Str × NameKind)) (cs : List (Str × Addr)), freeCells env.cells names cs = some cl →
      (forIn names cs (fun (x : Str × NameKind) (r : List (Str × Addr)) => match x with | (name, kind) => (if (kind == NameKind.free) = true then do let a ← cellOf env name; pure (ForInStep.yield ((name, a) :: r)) else pure (ForInStep.yield r) : Sem (ForInStep (List (Str × Addr))))) : Sem (List (Str × Addr))) = pure cl := by
    intro names
    induction names with
    | nil => intro cs h; cases h; rfl
    | cons p r ih =>
      obtain ⟨n, k⟩ := p
      intro cs h
      rw [List.forIn_cons]
      unfold freeCells at h
      by_cases hk : k = .free
      · rw [if_pos hk] at h
        split at h
        · rename_i a ha
          subst hk
          have e : cellOf env n = pure a := by unfold cellOf; rw [ha]
          simp only [beq_self_eq_true, if_true, e]
          exact ih _ h
        · cases h
      · rw [if_neg hk] at h
        have : (k == NameKind.free) = false := beq_false_of_ne hk
        simp only [this, Bool.false_eq_true, if_false]
        exact ih _ h
  exact Eq.trans (congrArg (· >>= fun cs => pure cs) (main scope.names [] h)) rfl

section
variable {g : G} {X : Cx g} {σ : St} {s : Shared}

noncomputable def compCx (X : Cx g) (cl : List (Str × Addr)) (scope : Scope) (C : Addr) (fr : Os) (hk : scope.kind = .function) (hs : ∀ x c, cl.lookup x = some c → (x, c) ∈ X.cls) : Cx g where
  A := X.A
  env := compEnvC scope cl C X.env
  cls := X.cls.filter fun p => decide (p ∈ cl)
  fro := fr
  hh := X.hh
  kind := by show (relabel scope X.env).kind = _; exact hk
  glob := X.glob
  bui := X.bui
  sub := fun x c h => List.mem_filter.mpr ⟨hs x c h, decide_eq_true (mem_of_lookup (show cl.lookup x = some c from h))⟩

theorem Rep.enter (R : Rep X σ s) {cl : List (Str × Addr)} {scope : Scope} {hk : scope.kind = .function} {hs : ∀ x c, cl.lookup x = some c → (x, c) ∈ X.cls} {capt : Lm}
    (hcl : ∀ p ∈ cl, X.env.cells.lookup p.1 = some p.2) (hcapt : ∀ p ∈ capt, p ∈ σ.lm ∧ ∃ c, cl.lookup p.1 = some c) (hkX : ∀ p ∈ capt, X.env.kindOf p.1 = some .cell) (hk' : ∀ p ∈ capt, (relabel scope X.env).names.lookup p.1 = some .cell) (hcov : ∀ p ∈ σ.lm, (cl.lookup p.1).isSome = true → p ∈ capt) (hcn : (capt.map (·.1)).Nodup)
    {C : Addr} {h' : Heap} {tk : Nat} (k : ∀ b o, s.heap.get? b = some o → h'.get? b = some o) (hC : s.heap.objs.size ≤ C) (hn : h'.Ns C fun _ => none) :
    ∃ fr, Rep (compCx X cl scope C fr hk hs) ⟨capt, σ.os⟩ { s with heap := h', toks := tk } ∧
      (∀ a ∈ (compCx X cl scope C fr hk hs).addrs σ.os, a = C ∨ a < s.heap.objs.size) ∧ (∀ p ∈ X.fro, p ∈ fr) ∧ (∀ os' a, a ∈ X.addrs os' → a ∈ (compCx X cl scope C fr hk hs).addrs os') ∧
      ∀ s' os', Rep (compCx X cl scope C fr hk hs) ⟨capt, os'⟩ s' → Rep X ⟨σ.lm, os'⟩ s' ∧ C ∉ X.addrs os' := by
  obtain ⟨mL, ⟨oL, esL, epL, hoL, hoL2⟩, hbd⟩ := R.ns
  let co : Addr → Obj := fun a => (s.heap.get? a).getD oL
  have hco : ∀ p ∈ X.cls, s.heap.get? p.2 = some (co p.2) := fun p hp => by
    obtain ⟨v, o, ho, _⟩ := R.cl p hp
    show _ = some ((s.heap.get? p.2).getD oL)
    rw [ho]; rfl
  let inn := X.cls.filter fun p => decide (p ∈ cl)
  let out := X.cls.filter fun p => !decide (p ∈ cl)
  have pio : (inn ++ out).Perm X.cls := List.filter_append_perm _ _
  let raws : Os := out.map fun p => (p.2, MO.raw (co p.2))
  have hraws : raws.map (·.1) = out.map (·.2) := by simp [raws, List.map_map, Function.comp_def]
  let fr : Os := (X.env.locals, .raw oL) :: (raws ++ X.fro)
  have pm : ∀ os : Os, ((inn.map (·.2)) ++ (os ++ fr).map (·.1)).Perm (X.addrs os) := fun os => by
    have e : (os ++ fr).map (·.1) = os.map (·.1) ++ (X.env.locals :: (out.map (·.2) ++ X.fro.map (·.1))) := by simp [fr, hraws]
    rw [e]
    unfold Cx.addrs
    rw [List.map_append]
    have p1 : (X.cls.map (·.2)).Perm (inn.map (·.2) ++ out.map (·.2)) := by rw [← List.map_append]; exact (pio.map _).symm
    have : (X.env.locals :: (X.cls.map (·.2) ++ (os.map (·.1) ++ X.fro.map (·.1)))).Perm (X.env.locals :: ((inn.map (·.2) ++ out.map (·.2)) ++ (os.map (·.1) ++ X.fro.map (·.1)))) := (p1.append_right _).cons _
    refine List.Perm.trans ?_ this.symm
    rw [← List.append_assoc]
    refine (List.perm_middle).trans (List.Perm.cons _ ?_)
    rw [List.append_assoc, List.append_assoc]
    refine List.Perm.append_left _ ?_
    rw [← List.append_assoc, ← List.append_assoc]
    exact (List.perm_append_comm).append_right _
  have nC : C ∉ X.addrs σ.os := fun h => absurd (R.lt C h) (Nat.not_lt.mpr hC)
  refine ⟨fr, ⟨R.core, fun b o e => k b o (R.keep b o e), ⟨_, hn, fun x mv hx => ?_⟩, fun p hp => ?_, fun p hp => ?_, ?_, fun a ha => ?_, hcn⟩, fun a ha => ?_, fun p hp => .tail _ (List.mem_append_right _ hp), fun os' a ha => .tail _ ((pm os').mem_iff.mpr ha), fun s' os' R' => ?_⟩
  · obtain ⟨h1, c, hc⟩ := hcapt _ hx
    have b := hbd x mv h1
    refine ⟨b.dbg, .inr ⟨hk' _ hx, c, ?_⟩⟩
    have hXc := hcl _ (mem_of_lookup hc)
    rcases b.way with ⟨hl, _⟩ | ⟨hkc, c', v, hc', ⟨o, ho, r⟩, i⟩
    · rw [hkX _ hx] at hl; cases hl
    · rw [hXc] at hc'; cases hc'
      exact ⟨v, hc, ⟨o, k _ _ ho, r⟩, i⟩
  · obtain ⟨v, o, ho, r⟩ := R.cl p (List.mem_filter.mp hp).1
    exact ⟨v, o, k _ _ ho, r⟩
  · rcases List.mem_append.mp hp with hp | hp
    · exact (R.os p (List.mem_append_left _ hp)).keep fun o e => k _ o e
    · rcases List.mem_cons.mp (show p ∈ (X.env.locals, MO.raw oL) :: (raws ++ X.fro) from hp) with rfl | hp
      · exact k _ _ hoL
      · rcases List.mem_append.mp hp with hp | hp
        · obtain ⟨q, hq, rfl⟩ := List.mem_map.mp hp
          exact k _ _ (hco q (List.mem_filter.mp hq).1)
        · exact (R.os p (List.mem_append_right _ hp)).keep fun o e => k _ o e
  · show (C :: (inn.map (·.2) ++ (σ.os ++ fr).map (·.1))).Nodup
    exact List.nodup_cons.mpr ⟨fun h => nC ((pm _).mem_iff.mp h), (pm _).nodup_iff.mpr R.nd⟩
  · rcases List.mem_cons.mp (show a ∈ C :: (inn.map (·.2) ++ (σ.os ++ fr).map (·.1)) from ha) with rfl | ha
    · exact Nat.le_trans R.size hC
    · exact R.new a ((pm _).mem_iff.mp ha)
  · rcases List.mem_cons.mp (show a ∈ C :: (inn.map (·.2) ++ (σ.os ++ fr).map (·.1)) from ha) with rfl | ha
    · exact .inl rfl
    · exact .inr (R.lt a ((pm _).mem_iff.mp ha))
  · have nd' : (C :: (inn.map (·.2) ++ (os' ++ fr).map (·.1))).Nodup := R'.nd
    have atL : s'.heap.get? X.env.locals = some oL := R'.os (X.env.locals, .raw oL) (List.mem_append_right _ (.head _))
    have atO : ∀ p ∈ out, s'.heap.get? p.2 = some (co p.2) := fun p hp => R'.os (p.2, .raw (co p.2)) (List.mem_append_right _ (.tail _ (List.mem_append_left _ (List.mem_map.mpr ⟨p, hp, rfl⟩))))
    obtain ⟨mC, _, hbC⟩ := R'.ns
    refine ⟨⟨R'.core, R'.keep, ⟨mL, ⟨oL, esL, epL, atL, hoL2⟩, fun x mv hx => ?_⟩, fun p hp => ?_, fun p hp => ?_, (pm os').nodup_iff.mp (List.nodup_cons.mp nd').2, fun a ha => ?_, R.lm⟩, fun h => (List.nodup_cons.mp nd').1 ((pm os').mem_iff.mpr h)⟩
    · have b := hbd x mv hx
      refine ⟨b.dbg, b.way.imp id ?_⟩
      rintro ⟨hkc, c, v, hc, ⟨o, ho, r⟩, i⟩
      have hcX := X.sub _ _ hc
      by_cases hin : (x, c) ∈ cl
      · have hs' : (cl.lookup x).isSome = true := by
          cases e : cl.lookup x with
          | some _ => rfl
          | none => rw [List.lookup_eq_none_iff] at e; exact absurd (e _ hin) (by simp)
        have hcp := hcov _ hx hs'
        have bC := hbC x mv hcp
        rcases bC.way with ⟨hl, _⟩ | ⟨_, c', v', hc', hcell', i'⟩
        · have h1 := hk' _ hcp
          have h2 : (relabel scope X.env).names.lookup x = some .local := hl
          rw [h1] at h2; cases h2
        · have h3 := hcl _ (mem_of_lookup (show cl.lookup x = some c' from hc'))
          rw [hc] at h3; cases h3
          exact ⟨hkc, _, v', hc, hcell', i'⟩
      · have ho' := atO (x, c) (List.mem_filter.mpr ⟨hcX, by simpa using hin⟩)
        rw [hco (x, c) hcX] at ho
        cases ho
        exact ⟨hkc, c, v, hc, ⟨_, ho', r⟩, i⟩
    · by_cases hin : p ∈ cl
      · exact R'.cl p (List.mem_filter.mpr ⟨hp, by simpa using hin⟩)
      · obtain ⟨v, o, ho, r⟩ := R.cl p hp
        rw [hco p hp] at ho
        cases ho
        exact ⟨v, _, atO p (List.mem_filter.mpr ⟨hp, by simpa using hin⟩), r⟩
    · rcases List.mem_append.mp hp with hp | hp
      · exact R'.os p (List.mem_append_left _ hp)
      · exact R'.os p (List.mem_append_right _ (.tail _ (List.mem_append_right _ hp)))
    · exact R'.new a (List.mem_cons_of_mem _ ((pm os').mem_iff.mpr ha))
end

noncomputable def Ifs {g : G} (X : Cx g) (ifs : List PySem.Expr) (σ : St) (Q : Bool → St → Prop) : Prop :=
  Tri X (forIn ifs true fun c r => if r = true then do let ok ← PySem.isTrue c X.env (eval c X.env); pure (ForInStep.yield ok) else pure (ForInStep.yield r)) σ Q
theorem Ifs_nil {g : G} {X : Cx g} {σ : St} {Q : Bool → St → Prop} (q : Q true σ) : Ifs X [] σ Q := fun s R => wpAny_pure ⟨σ, R, q⟩
theorem Ifs_one {g : G} {X : Cx g} {σ : St} {c : PySem.Expr} {Q : Bool → St → Prop} (h : Te X c σ Q) : Ifs X [c] σ Q := fun s R => by
  rw [List.forIn_cons, if_pos rfl]
  refine wpAny_bind (wpAny_bind (wpAny_mono (h s R) (fun b s₁ p => ?_) fun _ _ e => e))
  refine wpAny_pure ?_
  exact wpAny_pure p

noncomputable def reName (names : List (Str × NameKind)) : List (Str × NameKind) := names.map fun p => if p.2 = .free then (p.1, .cell) else p
theorem relabel_names {scope : Scope} {env : Env} (hk : env.scope.kind = .function) (hf : ∀ p ∈ scope.names, p.2 = .free → env.kindOf p.1 = some .cell) : (relabel scope env).names = reName scope.names := by
  show List.map _ scope.names = List.map _ scope.names
  refine List.map_congr_left fun p hp => ?_
  obtain ⟨n, k⟩ := p
  by_cases h : k = .free
  · subst h
    have := hf _ hp rfl
    simp only [hk, this, if_true]
    rfl
  · have : (k == NameKind.free) = false := beq_false_of_ne h
    simp only [this, Bool.false_and, Bool.false_eq_true, if_false, if_neg h]

/-- what a comprehension needs to know of its names -/
structure CompOk {g : G} (X : Cx g) (scope : Scope) (cl : List (Str × Addr)) : Prop where
  kind : scope.kind = .function
  free : freeCells X.env.cells scope.names [] = some cl
  cell : ∀ p ∈ scope.names, p.2 ≠ .cell
  fcell : ∀ p ∈ scope.names, p.2 = .free → X.env.kindOf p.1 = some .cell
  nd : (scope.names.map (·.1)).Nodup
structure CapOk (cl : List (Str × Addr)) (lm capt : Lm) : Prop where
  cap : ∀ p ∈ capt, p ∈ lm ∧ ∃ c, cl.lookup p.1 = some c
  cov : ∀ p ∈ lm, (cl.lookup p.1).isSome = true → p ∈ capt
  cnd : (capt.map (·.1)).Nodup
noncomputable def compCheck (names : List (Str × NameKind)) (scope : Scope) : Bool :=
  decide (scope.kind = .function) && scope.names.all (fun p => decide (p.2 ≠ .cell)) && scope.names.all (fun p => decide (p.2 ≠ .free) || names.contains (p.1, .cell)) && decide (scope.names.map (·.1)).Nodup
theorem CompOk.of {g : G} {X : Cx g} {scope : Scope} {cl cells : List (Str × Addr)} {names : List (Str × NameKind)} (kn : Kn X.env names) (hc : X.env.cells = cells) (hf : freeCells cells scope.names [] = some cl) (h : compCheck names scope = true) : CompOk X scope cl := by
  unfold compCheck at h
  simp only [Bool.and_eq_true, decide_eq_true_eq, List.all_eq_true, Bool.or_eq_true] at h
  obtain ⟨⟨⟨h1, h2⟩, h3⟩, h4⟩ := h
  refine ⟨h1, hc ▸ hf, h2, fun p hp e => ?_, h4⟩
  rcases h3 p hp with h | h
  · exact absurd e h
  · exact kn _ _ (by simpa using h)
noncomputable def capCheck (lm cl capt : List Str) : Bool := lm.all (fun x => !cl.contains x || capt.contains x) && capt.all fun x => cl.contains x
theorem CapOk.of {cl : List (Str × Addr)} {lm capt : Lm} (nd : (lm.map (·.1)).Nodup) (w : Wkn lm capt) (h : capCheck (lm.map (·.1)) (cl.map (·.1)) (capt.map (·.1)) = true) : CapOk cl lm capt := by
  unfold capCheck at h
  simp only [Bool.and_eq_true, List.all_eq_true, Bool.or_eq_true] at h
  have look : ∀ {x : Str}, x ∈ cl.map (·.1) → ∃ c, cl.lookup x = some c := fun {x} hx => by
    cases e : cl.lookup x with
    | some c => exact ⟨c, rfl⟩
    | none =>
      rw [List.lookup_eq_none_iff] at e
      obtain ⟨p, hp, rfl⟩ := List.mem_map.mp hx
      exact absurd (e p hp) (by simp)
  refine ⟨fun p hp => ⟨w.1 p hp, look (by simpa using h.2 p.1 (List.mem_map_of_mem hp))⟩, fun p hp hs => ?_, w.2 nd⟩
  obtain ⟨c, hc⟩ := Option.isSome_iff_exists.mp hs
  have hm : p.1 ∈ cl.map (·.1) := List.mem_map.mpr ⟨_, mem_of_lookup hc, rfl⟩
  rcases h.1 p.1 (List.mem_map_of_mem hp) with h' | h'
  · exact absurd hm (by simpa using h')
  · obtain ⟨q, hq, e⟩ := List.mem_map.mp (show p.1 ∈ capt.map (·.1) by simpa using h')
    have hq' := w.1 q hq
    have : q = p := by
      have inj : ∀ {l : Lm}, (l.map (·.1)).Nodup → ∀ {p q}, p ∈ l → q ∈ l → p.1 = q.1 → p = q := by
        intro l
        induction l with
        | nil => intro _ p q hp; cases hp
        | cons a l ih =>
          intro hnd p q hp hq e
          rw [List.map_cons, List.nodup_cons] at hnd
          rcases List.mem_cons.mp hp with hp' | hp' <;> rcases List.mem_cons.mp hq with hq' | hq'
          · rw [hp', hq']
          · exact absurd (List.mem_map.mpr ⟨q, hq', by rw [← e, hp']⟩) hnd.1
          · exact absurd (List.mem_map.mpr ⟨p, hp', by rw [e, hq']⟩) hnd.1
          · exact ih hnd.2 hp' hq' e
      exact inj nd hq' hp e
    exact this ▸ hq
theorem freeCells_names {cells : List (Str × Addr)} : ∀ {names : List (Str × NameKind)} {cs cl : List (Str × Addr)}, freeCells cells names cs = some cl → ∀ p ∈ cl, p ∈ cs ∨ (p.1, NameKind.free) ∈ names
  | [], cs, cl, h, p, hp => by cases h; exact .inl hp
  | (n, k) :: r, cs, cl, h, p, hp => by
    unfold freeCells at h
    split at h
    · rename_i hk
      split at h
      · rcases freeCells_names h p hp with h1 | h1
        · rcases List.mem_cons.mp h1 with rfl | h1
          · exact .inr (by rw [hk]; exact .head _)
          · exact .inl h1
        · exact .inr (.tail _ h1)
      · cases h
    · exact (freeCells_names h p hp).imp id fun h => .tail _ h

section
variable {g : G} {X : Cx g} {σ : St}
theorem fz_addrs {a b : Addr} {mo : MO} {o : Obj} {os : Os} : a ∈ X.addrs ((b, mo) :: os) ↔ a ∈ (X.fz [(b, .raw o)]).addrs os := by
  unfold Cx.addrs Cx.fz
  simp only [List.mem_cons, List.mem_append, List.map_append, List.map_cons, List.cons_append, List.nil_append]
  grind
theorem Rep.refe {s : Shared} (R : Rep X σ s) {a : Addr} {mo : MO} (na : a ∉ X.addrs σ.os) (nn : g.h₀.objs.size ≤ a) (x : At g s.heap a mo) : Rep X ⟨σ.lm, (a, mo) :: σ.os⟩ s := by
  have hp : (X.addrs ((a, mo) :: σ.os)).Perm (a :: X.addrs σ.os) := by
    unfold Cx.addrs
    rw [List.cons_append, List.map_cons]
    exact (List.Perm.cons _ List.perm_middle).trans (List.Perm.swap _ _ _)
  refine ⟨R.core, R.keep, R.ns, R.cl, ?_, hp.nodup_iff.mpr (List.nodup_cons.mpr ⟨na, R.nd⟩), ?_, R.lm⟩
  · intro p h
    rcases List.mem_cons.mp (show p ∈ (a, mo) :: (σ.os ++ X.fro) from h) with rfl | h
    · exact x
    · exact R.os p h
  · intro b hb
    rcases List.mem_cons.mp (hp.mem_iff.mp hb) with rfl | hb
    · exact nn
    · exact R.new b hb
end
section
variable {prog : Program} {w : World} {A : Around} {E : Value → Shared → Prop} {R : Result → Shared → Prop} {s : Shared}
theorem codeAny_compLoop_go {elt target iter : PySem.Expr} {ifs : List PySem.Expr} {scope : Scope} {pos : Pos} {it acc : Value} {env : Env} (I : Nat → Shared → Prop)
    (turn : ∀ n s, I n s → wpAny (model prog w) A (pyNext it) (fun r s₁ => match r with
      | none => R (.ok .next) s₁
      | some v => wpAny (model prog w) A (letOwnedTupleGo target it v) (fun _ s₁' => wpAny (model prog w) A (assign target env v) (fun _ s₂ =>
          wpAny (model prog w) A (forIn ifs true fun c r => if r = true then do let ok ← isTrue c env (eval c env); Pure.pure (ForInStep.yield ok) else Pure.pure (ForInStep.yield r)) (fun ok s₃ =>
            if ok = true then wpAny (model prog w) A (eval elt env) (fun x s₄ =>
              wpAny (model prog w) A (call (.builtin "list.append") [acc, x]) (fun _ s₅ => ∃ m, m < n ∧ I m s₅) (notedBy (model prog w) A env fun e s' => R (.error e) s') s₄) (notedBy (model prog w) A env fun e s' => R (.error e) s') s₃
            else ∃ m, m < n ∧ I m s₃) (notedBy (model prog w) A env fun e s' => R (.error e) s') s₂) (notedBy (model prog w) A env fun e s' => R (.error e) s') s₁') (notedBy (model prog w) A env fun e s' => R (.error e) s') s₁) (notedBy (model prog w) A env fun e s' => R (.error e) s') s)
    (n : Nat) (h : I n s) :
    codeAny (model prog w) A (.compLoop (.ListComp elt [⟨target, iter, ifs, 0⟩] scope pos) 0 it acc env) R s := by
  refine codeAny_loop rfl I (fun n s hI => ?_) n h
  show wpAny _ A ((compTurn (.ListComp elt [⟨target, iter, ifs, 0⟩] scope pos) 0 it acc env).onRaise (fun x => do noteFrame x env; theTreesLotGoes x)) _ _ s
  refine wpAny_noted ?_
  rw [compTurn_list]
  refine wpAny_bind (wpAny_standAt (wpAny_bind (wpAny_mono (turn n s hI) (fun r s₁ h₁ => ?_) fun _ _ h' => h')))
  cases r with
  | none => exact wpAny_pure h₁
  | some v =>
    refine wpAny_bind (wpAny_mono h₁ (fun _ s₁' h₁' => ?_) fun _ _ h' => h')
    refine wpAny_bind (wpAny_mono h₁' (fun _ s₂ h₂ => wpAny_bind (wpAny_mono h₂ (fun ok s₃ h₃ => ?_) fun _ _ h' => h')) fun _ _ h' => h')
    cases ok with
    | false => exact wpAny_pure ⟨rfl, h₃⟩
    | true =>
      exact wpAny_bind (wpAny_bind (wpAny_mono h₃ (fun x s₄ h₄ => wpAny_bind (wpAny_mono h₄ (fun _ s₅ h₅ => wpAny_pure (wpAny_pure ⟨rfl, h₅⟩)) fun _ _ h' => h')) fun _ _ h' => h'))
end
section
variable {g : G} {X : Cx g} {σ : St}
theorem comp_core {elt target iter : PySem.Expr} {ifs : List PySem.Expr} {scope : Scope} {pos : Pos} {cl : List (Str × Addr)} {lm capt : Lm} {os₀ : Os} {ax : Addr} {mo : MO} {xs : List MV} {RR : Value → Addr → Result → Shared → Prop} {s₁ : Shared} {E : Value → Shared → Prop}
    (ok : CompOk X scope cl) (cp : CapOk cl lm capt) (R₁ : Rep X ⟨lm, (ax, mo) :: os₀⟩ s₁) (src : ItSrc mo xs) (hsm : ∀ a b, mo = .rng a b → Builtin.Range.small a b 1 = true) (hxl : xs.length ≤ 1000000) (Inv : Nat → List MV → Os → Prop) (h0 : Inv 0 [] os₀)
    (step : ∀ (Y : Cx g), Y.A = X.A → Kn Y.env (reName scope.names) → Y.env.cells = cl → ∀ i mv acc os, xs[i]? = some mv → acc.length ≤ i → Inv i acc os → Asg Y target mv ⟨capt, os⟩ fun σ₂ => Ifs Y ifs σ₂ fun b σ₃ =>
      if b = true then Ev Y elt σ₃ fun r σ₄ => ∃ os', Wkn σ₄.lm capt ∧ Wkn σ₄.os os' ∧ Inv (i + 1) (acc ++ [r]) os' else ∃ os', Wkn σ₃.lm capt ∧ Wkn σ₃.os os' ∧ Inv (i + 1) acc os')
    (hRR : ∀ D C s' acc os oC m, Inv xs.length acc os → Rep (X.fz [(C, .raw oC)]) ⟨lm, (D, .lst acc) :: (ax, mo) :: os⟩ s' → s'.heap.Ns C m → RR (.ref D) C (.ok .next) s') :
    wpAny (model g.prog g.w) X.A (pyIter (.ref ax)) (fun it s₂ => wpAny (model g.prog g.w) X.A (newList []) (fun acc s₃ => wpAny (model g.prog g.w) X.A (newFunctionEnv scope X.env.globals cl [] X.env.qual none .none (some X.env)) (fun cenv s₄ =>
      codeAny (model g.prog g.w) X.A (.compStart (.ListComp elt [⟨target, iter, ifs, 0⟩] scope pos) 0 it acc { cenv with scope := relabel scope X.env }) (RR acc cenv.locals) s₄) E s₃) E s₂) E s₁ := by
  have hm : (ax, mo) ∈ (⟨lm, (ax, mo) :: os₀⟩ : St).os := .head _
  refine iter_src R₁ hm src hsm ?_
  rintro _ I P St' ⟨h', oI, rfl, hk, hI, hoI⟩ ⟨⟨fp, hfp, W⟩, at_, go⟩ st0 val
  obtain ⟨oax, hoax⟩ := (R₁.at hm).has
  have moAt : ∀ h : Heap, h.get? ax = some oax → At g h ax mo := fun h hh => (R₁.at hm).keep fun o e => by rw [hoax] at e; cases e; exact hh
  refine wpAny_newObj_type (wpAny_newFunctionEnv ok.cell (by intro y hy; simp at hy) (fun h₁ hns₁ hsb₁ => ?_) ok.kind)
  dsimp only at hns₁ hsb₁ ⊢
  generalize hH2 : h'.push { cls := .type "list", dict := none, data := .seq ([] : List Value).toArray } = H2 at hns₁ hsb₁ ⊢
  have hsz : s₁.heap.objs.size ≤ h'.objs.size := by
    have h1 := Heap.lt_size hoI
    exact Nat.le_trans hI (Nat.le_of_lt h1)
  have hC : H2.objs.size = h'.objs.size + 1 := by rw [← hH2, Heap.size_push]
  have hDC : h'.objs.size ≠ H2.objs.size := by rw [hC]; exact Nat.ne_of_lt (Nat.lt_succ_self _)
  have old : ∀ b o, h'.get? b = some o → h₁.get? b = some o := fun b o e => hsb₁.extBut b o (by have := Heap.lt_size e; rw [hC]; exact Nat.ne_of_lt (Nat.lt_succ_of_lt this)) (Heap.get?_push_of_some _ (hH2 ▸ Heap.get?_push_of_some _ e))
  have hD : h₁.get? h'.objs.size = some { cls := .type "list", dict := none, data := .seq ([] : List Value).toArray } := hsb₁.extBut _ _ hDC (Heap.get?_push_of_some _ (hH2 ▸ Heap.get?_push_size _ rfl))
  have kcl := freeCells_sub ok.free (fun p hp => by cases hp)
  have knm := freeCells_names ok.free
  have rel := relabel_names (scope := scope) X.kind ok.fcell
  have rnd : ((reName scope.names).map (·.1)).Nodup := by
    have : (reName scope.names).map (·.1) = scope.names.map (·.1) := by
      unfold reName; rw [List.map_map]
      refine List.map_congr_left fun p _ => ?_
      show (if p.2 = .free then (p.1, NameKind.cell) else p).1 = p.1
      split <;> rfl
    rw [this]; exact ok.nd
  have cellOf : ∀ p ∈ capt, (p.1, NameKind.free) ∈ scope.names := fun p hp => by
    obtain ⟨_, c, hc⟩ := cp.cap p hp
    rcases knm _ (mem_of_lookup hc) with h | h
    · cases h
    · exact h
  have hs : ∀ x c, cl.lookup x = some c → (x, c) ∈ X.cls := fun x c h => X.sub _ _ (kcl _ (mem_of_lookup h))
  have Ra : Rep (X.fz [(ax, .raw oax)]) ⟨lm, os₀⟩ s₁ := R₁.raw rfl hoax
  have hs' : ∀ x c, cl.lookup x = some c → (x, c) ∈ (X.fz [(ax, .raw oax)]).cls := hs
  obtain ⟨fr, RY, low, frs, lift, back⟩ := Ra.enter (cl := cl) (scope := scope) (hk := ok.kind) (hs := hs') (capt := capt) kcl cp.cap (fun p hp => ok.fcell _ (cellOf p hp) rfl) (fun p hp => by
      show (relabel scope X.env).names.lookup p.1 = _
      rw [rel]
      refine lookup_of_mem rnd ?_
      have := List.mem_map_of_mem (f := fun p : Str × NameKind => if p.2 = .free then (p.1, NameKind.cell) else p) (cellOf p hp)
      exact this) cp.cov cp.cnd (C := H2.objs.size) (h' := h₁) (tk := s₁.toks) (fun b o e => old b o (hk b o e)) (by rw [hC]; exact Nat.le_succ_of_le hsz) hns₁
  generalize hYe : compCx (X.fz [(ax, .raw oax)]) cl scope H2.objs.size fr ok.kind hs' = Y at RY low lift back
  have hYA : Y.A = X.A := by rw [← hYe]; rfl
  have hYenv : Y.env = compEnvC scope cl H2.objs.size X.env := by rw [← hYe]; rfl
  have hYK : Kn Y.env (reName scope.names) := Kn.of (by rw [hYenv]; exact rel) rnd
  have hYc : Y.env.cells = cl := by rw [hYenv]; rfl
  have hYL : Y.env.locals = H2.objs.size := by rw [hYenv]; rfl
  have freshI : ∀ a, s₁.heap.objs.size ≤ a → a ≠ H2.objs.size → a ∉ Y.addrs os₀ := fun a h1 h2 h => by
    rcases low a h with h | h
    · exact h2 h
    · exact absurd h (Nat.not_lt.mpr h1)
  have hIlt : I < h'.objs.size := Heap.lt_size hoI
  have RI : Rep (Y.fz [(I, .raw oI)]) ⟨capt, os₀⟩ { s₁ with heap := h₁ } := RY.refz (freshI I hI (by rw [hC]; exact Nat.ne_of_lt (Nat.lt_succ_of_lt hIlt))) (Nat.le_trans R₁.size hI) (old _ _ hoI)
  have RD : Rep (Y.fz [(h'.objs.size, .raw { cls := .type "list", dict := none, data := .seq ([] : List Value).toArray }), (I, .raw oI)]) ⟨capt, os₀⟩ { s₁ with heap := h₁ } := by
    refine RI.refz (a := h'.objs.size) (fun h => ?_) (Nat.le_trans R₁.size hsz) hD
    have h : h'.objs.size ∈ Y.env.locals :: (Y.cls.map (·.2) ++ (os₀ ++ ((I, MO.raw oI) :: Y.fro)).map (·.1)) := h
    have : h'.objs.size ∈ Y.addrs os₀ ∨ h'.objs.size = I := by
      unfold Cx.addrs
      simp only [List.mem_cons, List.mem_append, List.map_append, List.map_cons] at h ⊢
      rcases h with h | h | h | h | h
      · exact .inl (.inl h)
      · exact .inl (.inr (.inl h))
      · exact .inl (.inr (.inr (.inl h)))
      · exact .inr h
      · exact .inl (.inr (.inr (.inr h)))
    rcases this with h | h
    · exact freshI _ hsz hDC h
    · exact absurd h (Nat.ne_of_gt hIlt)
  have st1 : St' 0 h₁ := W.frame _ _ _ st0 fun b _ o e => old b o e
  have loop : ∀ s₃ : Shared, s₃ = { s₁ with heap := h₁, toks := s₁.toks + ([] : List (Str × Value)).length } →
      codeAny (model g.prog g.w) X.A (.compLoop (.ListComp elt [⟨target, iter, ifs, 0⟩] scope pos) 0 (.ref I) (.ref h'.objs.size) (compEnvC scope cl H2.objs.size X.env)) (RR (.ref h'.objs.size) H2.objs.size) s₃ := by
    rintro s₃ rfl
    rw [← hYA, ← hYenv]
    refine codeAny_compLoop_go (fun n s => ∃ i acc os oI oD, n = xs.length - i ∧ i ≤ xs.length ∧ acc.length ≤ i ∧ Rep (Y.fz [(h'.objs.size, .raw oD), (I, .raw oI)]) ⟨capt, os⟩ s ∧ St' i s.heap ∧ At g s.heap h'.objs.size (.lst acc) ∧ Inv i acc os) ?_ xs.length
      ⟨0, [], _, _, _, rfl, Nat.zero_le _, Nat.le_refl _, RD, st1, ⟨[], ⟨0, hD⟩, .nil⟩, h0⟩
    rintro n s ⟨i, acc, os, oI, oD, rfl, hi, hacc, R, st, hDl, inv⟩
    obtain ⟨RnD, nD, fD⟩ := R.drop
    obtain ⟨Rd, nI, fI⟩ := RnD.drop
    have hDI : h'.objs.size ≠ I := Nat.ne_of_gt hIlt
    have nDY : h'.objs.size ∉ Y.addrs os := fun h => nD (by
      show _ ∈ Y.env.locals :: (Y.cls.map (·.2) ++ (os ++ ((I, MO.raw oI) :: Y.fro)).map (·.1))
      unfold Cx.addrs at h
      simp only [List.mem_cons, List.mem_append, List.map_append, List.map_cons] at h ⊢
      rcases h with h | h | h | h
      · exact .inl h
      · exact .inr (.inl h)
      · exact .inr (.inr (.inl h))
      · exact .inr (.inr (.inr (.inr h))))
    have newI : g.h₀.objs.size ≤ I := Nat.le_trans R₁.size hI
    have newD : g.h₀.objs.size ≤ h'.objs.size := Nat.le_trans R₁.size hsz
    have inD : ∀ (oI : Obj), h'.objs.size ∉ (Y.fz [(I, .raw oI)]).addrs os := fun oI h => by
      have h : h'.objs.size ∈ Y.env.locals :: (Y.cls.map (·.2) ++ (os ++ ((I, MO.raw oI) :: Y.fro)).map (·.1)) := h
      refine nDY ?_
      unfold Cx.addrs
      simp only [List.mem_cons, List.mem_append, List.map_append, List.map_cons] at h ⊢
      rcases h with h | h | h | h | h
      · exact .inl h
      · exact .inr (.inl h)
      · exact .inr (.inr (.inl h))
      · exact absurd h hDI
      · exact .inr (.inr (.inr h))
    by_cases hlt : i < xs.length
    · have W' : Walks g.prog g.w Y.A I fp [I] xs.length P St' := by rw [hYA]; exact W
      refine W'.item i s _ _ hlt st fun v h2 tk hP st' hk2 => ?_
      obtain ⟨mv, hmv, iv⟩ := val i v hlt hP
      obtain ⟨oI', hoI'⟩ := at_ _ _ st'
      have hoD : s.heap.get? h'.objs.size = some oD := R.os (h'.objs.size, .raw oD) (List.mem_append_right _ (.head _))
      have hoD' : h2.get? h'.objs.size = some oD := hk2 _ _ (by simpa using hDI) hoD
      have hDl' : At g h2 h'.objs.size (.lst acc) := hDl.keep fun o e => hk2 _ _ (by simpa using hDI) e
      have Rs := Rd.still (tk := tk) (fun b o hb e => hk2 b o (by simpa using hb) e) nI fI
      have RzI := Rs.refz nI newI hoI'
      have Rz : Rep (Y.fz [(h'.objs.size, .raw oD), (I, .raw oI')]) ⟨capt, os⟩ { s with heap := h2, toks := tk } := RzI.refz (a := h'.objs.size) (inD oI') newD hoD'
      have zA : (Y.fz [(h'.objs.size, .raw oD), (I, .raw oI')]).A = X.A := hYA
      have st2 : ∀ s₃ : Shared, s₃.heap.get? I = some oI' → s₃.heap.get? ax = h2.get? ax → St' (i + 1) s₃.heap := fun s₃ e1 e2 => W.frame _ _ _ st' fun b hb o e => by
        rcases hfp b hb with rfl | rfl
        · rw [hoI'] at e; cases e; exact e1
        · rw [e2]; exact e
      have axAt : ∀ s₃ os' oI oD lm', Rep (Y.fz [(h'.objs.size, .raw oD), (I, .raw oI)]) ⟨lm', os'⟩ s₃ → s₃.heap.get? ax = some oax := fun s₃ os' oI oD lm' R => by
        have : (ax, MO.raw oax) ∈ Y.fro := by
          rw [← hYe]
          exact frs _ (.head _)
        exact R.os (ax, .raw oax) (List.mem_append_right _ (.tail _ (.tail _ this)))
      have ax2 := axAt _ _ _ _ _ Rz
      have go' := go target (i + 1) v { s with heap := h2, toks := tk }
      rw [← hYA] at go'
      refine go' _ _ st' ?_
      refine wpAny_mono (step _ zA hYK hYc i mv acc os hmv hacc inv v iv _ Rz) (fun _ s₂ ⟨σ₂, R₂, h₂⟩ => wpAny_mono (h₂ s₂ R₂) (fun b s₃ ⟨σ₃, R₃, h₃⟩ => ?_) fun _ _ e => e.elim) fun _ _ e => e.elim
      cases b with
      | false =>
        obtain ⟨os', w1, w2, inv'⟩ := h₃
        have R₃' := R₃.wkn w1 w2
        have eI : s₃.heap.get? I = some oI' := R₃'.os (I, .raw oI') (List.mem_append_right _ (.tail _ (.head _)))
        have eD : s₃.heap.get? h'.objs.size = some oD := R₃'.os (h'.objs.size, .raw oD) (List.mem_append_right _ (.head _))
        exact ⟨xs.length - (i + 1), by omega, i + 1, acc, os', oI', oD, rfl, hlt, Nat.le_succ_of_le hacc, R₃', st2 _ eI (by rw [axAt _ _ _ _ _ R₃', ← ax2]), hDl'.keep fun o e => by rw [hoD'] at e; cases e; exact eD, inv'⟩
      | true =>
        rw [if_pos rfl] at h₃ ⊢
        refine wpAny_mono (h₃ s₃ R₃) (fun r s₄ ⟨σ₄, R₄, rm, ir, os', w1, w2, inv'⟩ => ?_) fun _ _ e => e.elim
        have R₄' := R₄.wkn w1 w2
        have eD : s₄.heap.get? h'.objs.size = some oD := R₄'.os (h'.objs.size, .raw oD) (List.mem_append_right _ (.head _))
        have Du : Rep (Y.fz [(I, .raw oI')]) ⟨capt, (h'.objs.size, .lst acc) :: os'⟩ s₄ := Rep.unraw (l := [(I, .raw oI')]) R₄' (hDl'.keep fun o e => by rw [hoD'] at e; cases e; exact eD)
        refine wpAny_mono (CallV_append (X := Y.fz [(I, .raw oI')]) (Q := fun _ σ' => σ' = ⟨capt, (h'.objs.size, .lst (acc ++ [rm])) :: os'⟩) (.head _) (by omega) .head rfl [.ref h'.objs.size, r] (.cons rfl (.cons ir .nil)) s₄ Du) (fun _ s₅ ⟨σ₅, R₅, _, _, e⟩ => ?_) fun _ _ e => e.elim
        subst e
        obtain ⟨oD5, hoD5⟩ := (R₅.at (.head _)).has
        have R6 : Rep (Y.fz [(h'.objs.size, .raw oD5), (I, .raw oI')]) ⟨capt, os'⟩ s₅ := R₅.raw rfl hoD5
        have eI : s₅.heap.get? I = some oI' := R6.os (I, .raw oI') (List.mem_append_right _ (.tail _ (.head _)))
        exact ⟨xs.length - (i + 1), by omega, i + 1, acc ++ [rm], os', oI', oD5, rfl, hlt, by rw [List.length_append]; exact Nat.succ_le_succ hacc, R6, st2 _ eI (by rw [axAt _ _ _ _ _ R6, ← ax2]), R₅.at (.head _), inv'⟩
    · have : i = xs.length := by omega
      subst this
      have W' : Walks g.prog g.w Y.A I fp [I] xs.length P St' := by rw [hYA]; exact W
      refine W'.done s _ _ st fun h2 tk hk2 => ?_
      have Rs := Rd.still (tk := tk) (fun b o hb e => hk2 b o (by simpa using hb) e) nI fI
      obtain ⟨mC, hnC, _⟩ := Rs.ns
      obtain ⟨Rx, nCx⟩ := back _ _ Rs
      have hDl' : At g h2 h'.objs.size (.lst acc) := hDl.keep fun o e => hk2 _ _ (by simpa using hDI) e
      have axAt : h2.get? ax = some oax := Rs.os (ax, .raw oax) (List.mem_append_right _ (by rw [← hYe]; exact frs _ (.head _)))
      have Rx' : Rep X ⟨lm, (ax, mo) :: os⟩ { s with heap := h2, toks := tk } := Rep.unraw (l := []) Rx (moAt _ axAt)
      have nDX : h'.objs.size ∉ X.addrs ((ax, mo) :: os) := fun h => nDY (lift _ _ (fz_addrs.mp h))
      have RxD := Rx'.refe (mo := .lst acc) nDX newD hDl'
      have nC2 : H2.objs.size ∉ X.addrs ((h'.objs.size, .lst acc) :: (ax, mo) :: os) := fun h => by
        have h := (fz_addrs (o := oax)).mp h
        have : H2.objs.size = h'.objs.size ∨ H2.objs.size ∈ X.addrs ((ax, mo) :: os) := by
          unfold Cx.addrs Cx.fz at h
          unfold Cx.addrs
          simp only [List.mem_cons, List.mem_append, List.map_append, List.map_cons, List.cons_append, List.nil_append] at h ⊢
          grind
        rcases this with h | h
        · exact hDC h.symm
        · exact nCx (fz_addrs.mp h)
      rw [hYL] at hnC
      obtain ⟨oC, hoC⟩ : ∃ o, h2.get? H2.objs.size = some o := by obtain ⟨o, _, _, ho, _⟩ := hnC; exact ⟨o, ho⟩
      exact hRR _ _ _ _ _ oC mC inv (RxD.refz nC2 (by rw [hC]; exact Nat.le_succ_of_le newD) hoC) hnC
  exact codeAny_compStart_list (loop _ rfl) (W.self 0 _ _ _ st1 (loop _ rfl))

/-- what a comprehension is to do -/
noncomputable def CompGo (X : Cx g) (elt target : PySem.Expr) (ifs : List PySem.Expr) (scope : Scope) (cl : List (Str × Addr)) (capt : Lm) (it : MV) (σ₁ : St) (Q : Addr → Lm → Os → Prop) : Prop :=
  ∃ ax mo xs os₀, ∃ Inv : Nat → List MV → Os → Prop, it = .ref ax ∧ Pick (ax, mo) σ₁.os os₀ ∧ ItSrc mo xs ∧ (∀ a b, mo = .rng a b → Builtin.Range.small a b 1 = true) ∧ xs.length ≤ 1000000 ∧ Wkn σ₁.lm capt ∧ capCheck (σ₁.lm.map (·.1)) (cl.map (·.1)) (capt.map (·.1)) = true ∧ Inv 0 [] os₀ ∧
    (∀ (Y : Cx g), Y.A = X.A → Kn Y.env (reName scope.names) → Y.env.cells = cl → ∀ i mv acc os, xs[i]? = some mv → acc.length ≤ i → Inv i acc os → Asg Y target mv ⟨capt, os⟩ fun σ₂ => Ifs Y ifs σ₂ fun b σ₃ =>
      if b = true then Ev Y elt σ₃ fun r σ₄ => ∃ os', Wkn σ₄.lm capt ∧ Wkn σ₄.os os' ∧ Inv (i + 1) (acc ++ [r]) os' else ∃ os', Wkn σ₃.lm capt ∧ Wkn σ₃.os os' ∧ Inv (i + 1) acc os') ∧
    (∀ D acc os, Inv xs.length acc os → Q D σ₁.lm ((D, .lst acc) :: (ax, mo) :: os))
/-- a list comprehension as a value -/
theorem Ev_comp {Q : VQ} {elt target iter : PySem.Expr} {ifs : List PySem.Expr} {scope : Scope} {pos : Pos} {cl : List (Str × Addr)} (ok : CompOk X scope cl) (capt : Lm)
    (h : Ev X iter σ fun it σ₁ => CompGo X elt target ifs scope cl capt it σ₁ fun D lm os => Q (.ref D) ⟨lm, os⟩)
    (hf : ∀ x, foldedSetIterable iter X.env x = Pure.pure x := by exact fun _ => rfl) :
    Ev X (.ListComp elt [⟨target, iter, ifs, 0⟩] scope pos) σ Q := fun s R => by
  show wpAny _ _ (eval _ _) _ _ _
  rw [eval_ListComp]
  refine wpAny_comprehension_free (use := none) rfl hf (closureFor_of ok.free) ok.kind (fun x hx hl => lookup_of_mem ok.nd (by rw [← hl]; exact hx)) (wpAny_mono (h s R) (fun v s₁ hx => ?_) fun _ _ e => e)
  obtain ⟨σ₁, R₁, mv, i, ax, mo, xs, os₀, Inv, e1, hpk, src, hsm, hxl, w, cc, h0, step, done⟩ := hx
  subst e1; subst i
  have cp := CapOk.of R₁.lm w cc
  have R₁ : Rep X ⟨σ₁.lm, (ax, mo) :: os₀⟩ s₁ := R₁.perm hpk.perm.symm
  refine comp_core (RR := fun acc C => compPost (model g.prog g.w) X.A (fun _ _ => False) none (fun a s' => ∃ σ', Rep X σ' s' ∧ VPost Q a σ') acc C) ok cp R₁ src hsm hxl Inv h0 step ?_
  intro D C s' acc os oC m inv R' hn
  obtain ⟨R2, nC, fC⟩ := Rep.drop (l := []) R'
  exact ⟨m, hn, fun h' hs => ⟨_, R2.still (tk := s'.toks) (fun b o hb e => hs.extBut b o hb e) nC fC, .ref D, rfl, done D acc os inv⟩⟩
/-- a list comprehension stored to a name -/
theorem Ex_asgc {Q : FQ} {y : Str} {py : Pos} {elt target iter : PySem.Expr} {ifs : List PySem.Expr} {scope : Scope} {pos spos : Pos} {cl : List (Str × Addr)} (ok : CompOk X scope cl) (capt : Lm)
    (hsw : swapsWith (.ListComp elt [⟨target, iter, ifs, 0⟩] scope pos) (some (.Name y py)) spos.line X.env = Pure.pure true)
    (h : Ev X iter σ fun it σ₁ => CompGo X elt target ifs scope cl capt it σ₁ fun D lm os => ∀ fr, Sto (X.fz fr) y (.ref D) ⟨lm, os⟩ fun σ₂ => Q .next σ₂)
    (hf : ∀ x, foldedSetIterable iter X.env x = Pure.pure x := by exact fun _ => rfl) :
    Ex X (.Assign [.Name y py] (.ListComp elt [⟨target, iter, ifs, 0⟩] scope pos) spos) σ Q := fun s R => by
  show wpAny _ _ (exec _ _) _ _ _
  rw [exec_Assign_Name_used _ _ _ _ hsw]
  refine wpAny_bind (wpAny_standAt (wpAny_bind ?_))
  show wpAny _ X.A (do let _ ← comprehension (.ListComp elt [⟨target, iter, ifs, 0⟩] scope pos) scope X.env _ (newList []) false (eval iter X.env) (some (assign (.Name y py) X.env))) _ _ s
  refine wpAny_bind (wpAny_mono (wpAny_comprehension_free (use := some (assign (.Name y py) X.env)) (Q := fun _ s' => ∃ σ', Rep X σ' s' ∧ Q .next σ') rfl hf (closureFor_of ok.free) ok.kind (fun x hx hl => lookup_of_mem ok.nd (by rw [← hl]; exact hx))
    (wpAny_mono (h s R) (fun v s₁ hx => ?_) fun _ _ e => e)) (fun _ s' hq => wpAny_pure (wpAny_pure hq)) fun _ _ e => e)
  obtain ⟨σ₁, R₁, mv, i, ax, mo, xs, os₀, Inv, e1, hpk, src, hsm, hxl, w, cc, h0, step, done⟩ := hx
  subst e1; subst i
  have cp := CapOk.of R₁.lm w cc
  have R₁ : Rep X ⟨σ₁.lm, (ax, mo) :: os₀⟩ s₁ := R₁.perm hpk.perm.symm
  refine comp_core (RR := fun acc C => compPost (model g.prog g.w) X.A (fun _ _ => False) (some (assign (.Name y py) X.env)) (fun _ s' => ∃ σ', Rep X σ' s' ∧ Q .next σ') acc C) ok cp R₁ src hsm hxl Inv h0 step ?_
  intro D C s' acc os oC m inv R' hn
  show wpAny _ X.A (assign (.Name y py) X.env (.ref D)) _ _ _
  refine wpAny_assign_Name (wpAny_mono (done D acc os inv [(C, .raw oC)] (.ref D) rfl s' R') (fun _ s'' ⟨σ'', R'', q⟩ => ?_) fun _ _ e => e)
  have eC : s''.heap.get? C = some oC := R''.os (C, .raw oC) (List.mem_append_right _ (.head _))
  have eC' : s'.heap.get? C = some oC := R'.os (C, .raw oC) (List.mem_append_right _ (.head _))
  obtain ⟨R2, nC, fC⟩ := Rep.drop (l := []) R''
  exact ⟨m, hn.at' fun o e => by rw [eC'] at e; cases e; exact eC, fun h' hs => ⟨_, R2.still (tk := s''.toks) (fun b o hb e => hs.extBut b o hb e) nC fC, q⟩⟩
end

def OnK (g : G) : Prop := g.K = heapK g.w.params
section
variable {g : G} (hK : OnK g)
include hK
theorem gl_MAX_32 : nsIn g.K mainGlobals "MAX_32" = some (some (.int 4294967295 314)) := by rw [hK]; kernel_rfl
theorem gl_MAX_64 : nsIn g.K mainGlobals "MAX_64" = some (some (.int 18446744073709551615 316)) := by rw [hK]; kernel_rfl
theorem gl_NONE : nsIn g.K mainGlobals "NONE" = some (some (.int 0 350)) := by rw [hK]; kernel_rfl
theorem gl_MSG_READ_INDEX : nsIn g.K mainGlobals "MSG_READ_INDEX" = some (some (.int 15 352)) := by rw [hK]; kernel_rfl
theorem gl_VOTE_PENDING : nsIn g.K mainGlobals "VOTE_PENDING" = some (some (.int 1 421)) := by rw [hK]; kernel_rfl
theorem gl_VOTE_LOST : nsIn g.K mainGlobals "VOTE_LOST" = some (some (.int 2 423)) := by rw [hK]; kernel_rfl
theorem gl_VOTE_WON : nsIn g.K mainGlobals "VOTE_WON" = some (some (.int 3 425)) := by rw [hK]; kernel_rfl
theorem gl_SAFE : nsIn g.K mainGlobals "SAFE" = some (some (.int 0 555)) := by rw [hK]; kernel_rfl
theorem gl_LEASE : nsIn g.K mainGlobals "LEASE" = some (some (.int 1 557)) := by rw [hK]; kernel_rfl
theorem gk_put_fixed32 : nsIn g.K mainGlobals "put_fixed32" = some (some (.ref 113)) ∧ keepIn g.K (.ref 113) = true := by rw [hK]; exact ⟨by kernel_rfl, by kernel_rfl⟩
theorem gk_put_fixed64 : nsIn g.K mainGlobals "put_fixed64" = some (some (.ref 120)) ∧ keepIn g.K (.ref 120) = true := by rw [hK]; exact ⟨by kernel_rfl, by kernel_rfl⟩
theorem gk_read_fixed32 : nsIn g.K mainGlobals "read_fixed32" = some (some (.ref 127)) ∧ keepIn g.K (.ref 127) = true := by rw [hK]; exact ⟨by kernel_rfl, by kernel_rfl⟩
theorem gk_read_fixed64 : nsIn g.K mainGlobals "read_fixed64" = some (some (.ref 134)) ∧ keepIn g.K (.ref 134) = true := by rw [hK]; exact ⟨by kernel_rfl, by kernel_rfl⟩
theorem gk_rising : nsIn g.K mainGlobals "rising" = some (some (.ref 141)) ∧ keepIn g.K (.ref 141) = true := by rw [hK]; exact ⟨by kernel_rfl, by kernel_rfl⟩
theorem gk_Message : nsIn g.K mainGlobals "Message" = some (some (.ref 170)) ∧ keepIn g.K (.ref 170) = true := by rw [hK]; exact ⟨by kernel_rfl, by kernel_rfl⟩
theorem gk_majority_vote : nsIn g.K mainGlobals "majority_vote" = some (some (.ref 181)) ∧ keepIn g.K (.ref 181) = true := by rw [hK]; exact ⟨by kernel_rfl, by kernel_rfl⟩
theorem gk_joint_vote : nsIn g.K mainGlobals "joint_vote" = some (some (.ref 188)) ∧ keepIn g.K (.ref 188) = true := by rw [hK]; exact ⟨by kernel_rfl, by kernel_rfl⟩
theorem gk_Config : nsIn g.K mainGlobals "Config" = some (some (.ref 268)) ∧ keepIn g.K (.ref 268) = true := by rw [hK]; exact ⟨by kernel_rfl, by kernel_rfl⟩
theorem gk_read_context : nsIn g.K mainGlobals "read_context" = some (some (.ref 279)) ∧ keepIn g.K (.ref 279) = true := by rw [hK]; exact ⟨by kernel_rfl, by kernel_rfl⟩
theorem gk_ReadStatus : nsIn g.K mainGlobals "ReadStatus" = some (some (.ref 296)) ∧ keepIn g.K (.ref 296) = true := by rw [hK]; exact ⟨by kernel_rfl, by kernel_rfl⟩
theorem gk_Lease : nsIn g.K mainGlobals "Lease" = some (some (.ref 352)) ∧ keepIn g.K (.ref 352) = true := by rw [hK]; exact ⟨by kernel_rfl, by kernel_rfl⟩
theorem gk_ReadOnly : nsIn g.K mainGlobals "ReadOnly" = some (some (.ref 408)) ∧ keepIn g.K (.ref 408) = true := by rw [hK]; exact ⟨by kernel_rfl, by kernel_rfl⟩
theorem gk_law_draw : nsIn g.K mainGlobals "_law_draw" = some (some (.ref 419)) ∧ keepIn g.K (.ref 419) = true := by rw [hK]; exact ⟨by kernel_rfl, by kernel_rfl⟩
theorem gk_law_eight : nsIn g.K mainGlobals "_law_eight" = some (some (.ref 424)) ∧ keepIn g.K (.ref 424) = true := by rw [hK]; exact ⟨by kernel_rfl, by kernel_rfl⟩
theorem gk_law_back : nsIn g.K mainGlobals "_law_back" = some (some (.ref 429)) ∧ keepIn g.K (.ref 429) = true := by rw [hK]; exact ⟨by kernel_rfl, by kernel_rfl⟩
theorem gk_law_ids : nsIn g.K mainGlobals "_law_ids" = some (some (.ref 434)) ∧ keepIn g.K (.ref 434) = true := by rw [hK]; exact ⟨by kernel_rfl, by kernel_rfl⟩
theorem gk_law_wins : nsIn g.K mainGlobals "_law_wins" = some (some (.ref 439)) ∧ keepIn g.K (.ref 439) = true := by rw [hK]; exact ⟨by kernel_rfl, by kernel_rfl⟩
theorem gk_law_strange : nsIn g.K mainGlobals "_law_strange" = some (some (.ref 444)) ∧ keepIn g.K (.ref 444) = true := by rw [hK]; exact ⟨by kernel_rfl, by kernel_rfl⟩
theorem gk_law_near : nsIn g.K mainGlobals "_law_near" = some (some (.ref 449)) ∧ keepIn g.K (.ref 449) = true := by rw [hK]; exact ⟨by kernel_rfl, by kernel_rfl⟩
theorem gb_sorted : nsIn g.K mainGlobals "sorted" = some none ∧ bootBuiltins "sorted" = some (.builtin "sorted") ∧ Kp g (.builtin "sorted") := by rw [hK]; exact ⟨by kernel_rfl, by kernel_rfl, Kp_builtin⟩
theorem gb_len : nsIn g.K mainGlobals "len" = some none ∧ bootBuiltins "len" = some (.builtin "len") ∧ Kp g (.builtin "len") := by rw [hK]; exact ⟨by kernel_rfl, by kernel_rfl, Kp_builtin⟩
theorem gb_bytes : nsIn g.K mainGlobals "bytes" = some none ∧ bootBuiltins "bytes" = some (.type "bytes") ∧ Kp g (.type "bytes") := by rw [hK]; exact ⟨by kernel_rfl, by kernel_rfl, Kp_type⟩
theorem gb_tuple : nsIn g.K mainGlobals "tuple" = some none ∧ bootBuiltins "tuple" = some (.type "tuple") ∧ Kp g (.type "tuple") := by rw [hK]; exact ⟨by kernel_rfl, by kernel_rfl, Kp_type⟩
theorem gb_range : nsIn g.K mainGlobals "range" = some none ∧ bootBuiltins "range" = some (.type "range") ∧ Kp g (.type "range") := by rw [hK]; exact ⟨by kernel_rfl, by kernel_rfl, Kp_type⟩
theorem gb_sum : nsIn g.K mainGlobals "sum" = some none ∧ bootBuiltins "sum" = some (.builtin "sum") ∧ Kp g (.builtin "sum") := by rw [hK]; exact ⟨by kernel_rfl, by kernel_rfl, Kp_builtin⟩
theorem gb_all : nsIn g.K mainGlobals "all" = some none ∧ bootBuiltins "all" = some (.builtin "all") ∧ Kp g (.builtin "all") := by rw [hK]; exact ⟨by kernel_rfl, by kernel_rfl, Kp_builtin⟩
theorem gb_max : nsIn g.K mainGlobals "max" = some none ∧ bootBuiltins "max" = some (.builtin "max") ∧ Kp g (.builtin "max") := by rw [hK]; exact ⟨by kernel_rfl, by kernel_rfl, Kp_builtin⟩
theorem cls_Message : IsCls g 170 155 := by constructor <;> (rw [hK]; kernel_rfl)
theorem meth_Message_row : Meth g 170 "row" 160 := by constructor <;> (rw [hK]; kernel_rfl)
theorem cls_Config : IsCls g 268 202 := by constructor <;> (rw [hK]; kernel_rfl)
theorem meth_Config_vote : Meth g 268 "vote" 251 := by constructor <;> (rw [hK]; kernel_rfl)
theorem cls_ReadStatus : IsCls g 296 293 := by constructor <;> (rw [hK]; kernel_rfl)
theorem cls_Lease : IsCls g 352 314 := by constructor <;> (rw [hK]; kernel_rfl)
theorem meth_Lease_tick : Meth g 352 "tick" 321 := by constructor <;> (rw [hK]; kernel_rfl)
theorem meth_Lease_stamp : Meth g 352 "stamp" 328 := by constructor <;> (rw [hK]; kernel_rfl)
theorem meth_Lease_hear : Meth g 352 "hear" 335 := by constructor <;> (rw [hK]; kernel_rfl)
theorem meth_Lease_holds : Meth g 352 "holds" 349 := by constructor <;> (rw [hK]; kernel_rfl)
theorem cls_ReadOnly : IsCls g 408 370 := by constructor <;> (rw [hK]; kernel_rfl)
theorem meth_ReadOnly_add : Meth g 408 "add" 377 := by constructor <;> (rw [hK]; kernel_rfl)
theorem meth_ReadOnly_ack : Meth g 408 "ack" 384 := by constructor <;> (rw [hK]; kernel_rfl)
theorem meth_ReadOnly_advance : Meth g 408 "advance" 391 := by constructor <;> (rw [hK]; kernel_rfl)
theorem meth_ReadOnly_last_context : Meth g 408 "last_context" 398 := by constructor <;> (rw [hK]; kernel_rfl)
theorem meth_ReadOnly_row : Meth g 408 "row" 405 := by constructor <;> (rw [hK]; kernel_rfl)
end
noncomputable def ownT : List (Addr × Str) := [(170, "kind"), (170, "to"), (170, "frm"), (170, "term"), (170, "log_term"), (170, "index"), (170, "entries"), (170, "commit"), (170, "snapshot"), (170, "reject"), (170, "reject_hint"), (170, "context"), (268, "voters"), (268, "outgoing"), (268, "learners"), (268, "learners_next"), (268, "auto_leave"), (296, "index"), (296, "message"), (296, "acks"), (352, "span"), (352, "clock"), (352, "heard"), (352, "given_up"), (408, "option"), (408, "serial"), (408, "pending"), (408, "queue")]
noncomputable def ownB (K : Frag) (p : Addr × Str) : Bool := plainGet K p.1 p.2 && hasDictIn K p.1 && plainOver K p.1 && (match findIn K (.ref p.1) p.2 with | some none => true | _ => false) && (match takerIn K p.1 p.2 with | some none => true | _ => false) && (match findIn K (.ref p.1) "__setattr__" with | some (some (.builtin s)) => s == "object.__setattr__" | _ => false)
theorem own_of {K : Frag} {a : Addr} {x : Str} (h : ownB K (a, x) = true) : (plainGet K a x = true ∧ hasDictIn K a = true ∧ findIn K (.ref a) x = some none) ∧ findIn K (.ref a) "__setattr__" = some (some (.builtin "object.__setattr__")) ∧ plainOver K a = true ∧ takerIn K a x = some none ∧ hasDictIn K a = true := by
  unfold ownB at h
  simp only [Bool.and_eq_true] at h
  obtain ⟨⟨⟨⟨⟨h1, h2⟩, h3⟩, h4⟩, h5⟩, h6⟩ := h
  refine ⟨⟨h1, h2, ?_⟩, ?_, h3, ?_, h2⟩
  · split at h4
    · assumption
    · cases h4
  · split at h6
    · rename_i s e
      rw [e, eq_of_beq h6]
    · cases h6
  · split at h5
    · assumption
    · cases h5
theorem own_tab {P : Params} : (ownT.all (ownB (heapK P))) = true := by kernel_rfl
theorem own_both {g : G} (hK : OnK g) {a : Addr} {x : Str} (h : ownT.elem (a, x) = true) : Own g a x ∧ OwnS g a x := by
  have m : (a, x) ∈ ownT := List.elem_iff.mp h
  obtain ⟨⟨h1, h2, h3⟩, h4, h5, h6, h7⟩ := own_of (List.all_eq_true.mp (own_tab (P := g.w.params)) _ m)
  rw [← show g.K = heapK g.w.params from hK] at h1 h2 h3 h4 h5 h6 h7
  exact ⟨⟨h1, h2, h3⟩, ⟨h4, h5, h6, h7⟩⟩
theorem own_all {g : G} (hK : OnK g) {a : Addr} {x : Str} (h : ownT.elem (a, x) = true) : Own g a x := (own_both hK h).1
theorem ownS_all {g : G} (hK : OnK g) {a : Addr} {x : Str} (h : ownT.elem (a, x) = true) : OwnS g a x := (own_both hK h).2
section
variable {g : G} {X : Cx g} {σ : St} {Q : VQ}
theorem Ev_globI {x : Str} {pos : Pos} {v : Int} {t : Tok} (e : nsIn g.K mainGlobals x = some (some (.int v t))) (hx : X.env.kindOf x = some .globalImplicit) (q : Q (.int v) σ) (hd : (x == ("__debug__" : Str)) = false) : Ev X (.Name x pos) σ Q := Ev_glob (mv := .int v) e ⟨t, rfl⟩ hx q hd
theorem Ev_callK' {x : Str} {p pos : Pos} {f : Addr} {es : List PySem.Expr} (e : nsIn g.K mainGlobals x = some (some (.ref f)) ∧ keepIn g.K (.ref f) = true) (hx : X.env.kindOf x = some .globalImplicit) (h : Arg X es pos σ fun as σ₁ => CallV X (.ref f) as σ₁ Q)
    (hp : (starEach es X.env).any (·.1) = false) (hd : (x == ("__debug__" : Str)) = false) : Ev X (.Call (.Name x p) es [] pos) σ Q := Ev_callK e.1 e.2 hx h hp hd
theorem Ev_callB' {x : Str} {p pos : Pos} {f : Value} {es : List PySem.Expr} (e : nsIn g.K mainGlobals x = some none ∧ bootBuiltins x = some f ∧ Kp g f) (hx : X.env.kindOf x = some .globalImplicit) (h : Arg X es pos σ fun as σ₁ => CallV X f as σ₁ Q)
    (hp : (starEach es X.env).any (·.1) = false) (hn : x ≠ "__name__") (hd : (x == ("__debug__" : Str)) = false) : Ev X (.Call (.Name x p) es [] pos) σ Q := Ev_callB e.1 e.2.1 e.2.2 hx h hp hn hd
end

theorem Is_int {i : Int} {t : Tok} : MV.Is (.int i) (.int i t) := ⟨t, rfl⟩
noncomputable def osApp : Os → Os → Os
  | [], r => r
  | p :: l, r => p :: osApp l r
theorem osApp_eq : ∀ l r : Os, osApp l r = l ++ r
  | [], _ => rfl
  | p :: l, r => congrArg (p :: ·) (osApp_eq l r)
theorem nv_int {i : Int} : ∀ x, MV.int i ≠ .val x := fun _ e => by cases e
theorem nv_ref {i : Addr} : ∀ x, MV.ref i ≠ .val x := fun _ e => by cases e
theorem nv_bool {i : Bool} : ∀ x, MV.bool i ≠ .val x := fun _ e => by cases e
theorem nv_bytes {i : List UInt8} : ∀ x, MV.bytes i ≠ .val x := fun _ e => by cases e
theorem nv_none : ∀ x, MV.none ≠ .val x := fun _ e => by cases e
theorem not_elem {l : List Str} {x : Str} (h : l.elem x = false) : x ∉ l := fun hm => by rw [List.elem_eq_true_of_mem hm] at h; cases h
section
variable {g : G} {X : Cx g} {σ : St}
theorem Ex_ret' {Q : FQ} {e : PySem.Expr} {pos : Pos} (h : Ev X e σ fun mv σ' => ∀ v, mv.Is v → Q (.ret v) σ') : Ex X (.Return (some e) pos) σ Q := Ex_ret h fun v mv σ' i p => p v i
theorem Te_not' {x : PySem.Expr} {pos : Pos} {Q : Bool → St → Prop} (h : Te X x σ fun b σ₁ => if b = true then Q false σ₁ else Q true σ₁) : Te X (.UnaryOp .Not x pos) σ Q :=
  Te_not (Tri.mono h fun b σ' q => by cases b <;> simpa using q)
theorem Un_not' {Q : VQ} {a : MV} (h : Tru X a σ fun c σ₁ => if c = true then Q (.bool false) σ₁ else Q (.bool true) σ₁) : Un X .Not a σ Q :=
  Un_not fun v i => Tri.mono (h v i) fun c σ' q => by cases c <;> simpa using q
theorem Ex_expr' {Q : FQ} {e : PySem.Expr} {pos : Pos} (h : Ev X e σ fun _ σ' => Q .next σ') (hs : swapsWith e none pos.line X.env = Pure.pure false) : Ex X (.Expr e pos) σ Q :=
  Ex_expr h (by unfold interactive; rw [X.kind]; rfl) hs
end
/-- a frame whose names are known -/
theorem Fn.mk {g : G} {n : Nat} {f : Addr} {args : List MV} {fp : Os} {Post : MV → Os → Prop} {oc : Value} {od : Option Addr} {osl : Array (Option Value)} {fd : FuncData} {body : List Stmt} (ps : List Str) (names : List (Str × NameKind))
    (ho : g.K.lookup f = some ⟨oc, od, .func fd, osl⟩) (hcd : codeIn g.K fd.code fd.qualname = true) (hb : fd.body = .stmts body) (hclo : fd.closure = [])
    (hk : fd.scope.kind = .function) (hg : fd.globals = mainGlobals) (hbu : fd.builtins = builtinsNs) (hco : fd.scope.isCoroutine = false) (hge : fd.scope.isGenerator = false)
    (hbind : ∀ vs : List Value, vs.length = ps.length → bindArgs fd ⟨vs, []⟩ = Pure.pure (ps.zip vs)) (hlen : args.length = ps.length)
    (hkinds : (ps.all fun x => (fd.scope.names.lookup x == some .local || fd.scope.names.lookup x == some .cell) && !(x == ("__debug__" : Str))) = true)
    (hps : ps.Nodup) (hnd : ((cellsFrom 0 fd.scope.names []).map (·.1)).Nodup) (hn : fd.scope.names = names) (hnn : (names.map (·.1)).Nodup)
    (h : ∀ (X : Cx g) (rest : Os) (c : Addr), Room X.A n → Kn X.env names → X.env.cells = cellsFrom c names [] →
      Exs X body ⟨zipArgs ps args, osApp fp rest⟩ fun fl σ' => ∃ mv fp' r, mv.Is (retOf fl) ∧ Post mv fp' ∧ Sel σ'.os fp' r ∧ Suf rest r) : Fn g (n + 1) f args fp Post :=
  Fn.of_body ps ho hcd hb hclo hk hg hbu hco hge hbind hlen hkinds hps hnd fun A L fro hh rest room => by
    have := h (fnCx g A fd f L fro hh hk hg hbu) rest (L + 1) room (Kn.of hn hnn) (by show cellsFrom (L + 1) fd.scope.names [] = _; rw [hn])
    rwa [osApp_eq] at this
theorem CallV_fn' {g : G} {X : Cx g} {σ : St} {Q : VQ} {n : Nat} {f : Addr} {args : List MV} {fp rest : Os} {Post : MV → Os → Prop} (hf : Fn g n f args fp Post) (hr : Room X.A n) (hs : Sel σ.os fp rest) (q : ∀ mv fp', Post mv fp' → Q mv ⟨σ.lm, osApp fp' rest⟩) : CallV X (.ref f) args σ Q :=
  CallV_fn hf hr hs fun mv fp' p => by have := q mv fp' p; rwa [osApp_eq] at this
theorem CallV_cls' {g : G} {X : Cx g} {σ : St} {Q : VQ} {n : Nat} {C fI : Addr} {args : List MV} {fp rest : Os} {Post : Addr → Addr → Os → Prop} (c : IsCls g C fI) (hf : ∀ x d, Fn g n fI (.ref x :: args) ((x, .ins C d) :: (d, .ns []) :: fp) fun mv fp' => mv = .none ∧ Post x d fp') (hr : Room X.A (n + 1)) (hs : Sel σ.os fp rest)
    (q : ∀ x d fp', Post x d fp' → Q (.ref x) ⟨σ.lm, osApp fp' rest⟩) : CallV X (.ref C) args σ Q :=
  CallV_cls c hf hr hs fun x d fp' p => by have := q x d fp' p; rwa [osApp_eq] at this
theorem Kn.at {env : Env} {names : List (Str × NameKind)} (k : Kn env names) {x : Str} {kd : NameKind} (h : (x, kd) ∈ names) : env.kindOf x = some kd := k x kd h
/-! the rules with the state spelt out -/
noncomputable def Alloc (mo : MO) (σ : St) (K : Addr → St → Prop) : Prop := ∀ a, K a ⟨σ.lm, (a, mo) :: σ.os⟩
theorem Alloc_mk {mo : MO} {lm : Lm} {os : Os} {K : Addr → St → Prop} (h : ∀ a, K a ⟨lm, (a, mo) :: os⟩) : Alloc mo ⟨lm, os⟩ K := h
section
variable {g : G} {X : Cx g} {σ : St} {lm lm' : Lm} {os os' : Os} {Q : VQ} {P : St → Prop}
theorem Ev_dict_i' {pos : Pos} (q : ∀ a, Q (.ref a) ⟨lm, (a, .dici []) :: os⟩) : Ev X (.Dict [] [] pos) ⟨lm, os⟩ Q := Ev_dict_i q
theorem Ev_dict_b' {pos : Pos} (q : ∀ a, Q (.ref a) ⟨lm, (a, .dicb []) :: os⟩) : Ev X (.Dict [] [] pos) ⟨lm, os⟩ Q := Ev_dict_b q
theorem Ev_name' {x : Str} {pos : Pos} {mv : MV} (hx : (x, mv) ∈ lm) (q : Q mv ⟨lm, os⟩) : Ev X (.Name x pos) ⟨lm, os⟩ Q := Ev_name hx q
theorem Sto_rep' {x : Str} {mv : MV} (u : LRep x mv lm lm') (q : P ⟨lm', os⟩) : Sto X x mv ⟨lm, os⟩ P := Sto_rep u q
theorem Sto_new' {x : Str} {mv : MV} (hn : (lm.map (·.1)).elem x = false) (hk : X.env.kindOf x = some .local) (q : P ⟨(x, mv) :: lm, os⟩) (dbg : (x == ("__debug__" : Str)) = false) : Sto X x mv ⟨lm, os⟩ P := Sto_new hn hk q dbg
theorem Sto_newc' {x : Str} {c : Addr} {mv : MV} (hn : (lm.map (·.1)).elem x = false) (hk : X.env.kindOf x = some .cell) (hc : X.env.cells.lookup x = some c) (q : P ⟨(x, mv) :: lm, os⟩) (dbg : (x == ("__debug__" : Str)) = false) : Sto X x mv ⟨lm, os⟩ P := Sto_newc hn hk hc q dbg
theorem SetA_rep' {a d C : Addr} {name : Str} {mv : MV} {fs fs' : List (Str × MV)} (h1 : (a, MO.ins C d) ∈ os) (h2 : (d, MO.ns fs) ∈ os) (u : LRep name mv fs fs') (w : Put d (.ns fs') os os') (o : OwnS g C name) (q : P ⟨lm, os'⟩) (hl : fs'.length ≤ 500) : SetA X a name mv ⟨lm, os⟩ P := SetA_rep o h1 h2 u w q hl
theorem SetA_new' {a d C : Addr} {name : Str} {mv : MV} {fs : List (Str × MV)} (h1 : (a, MO.ins C d) ∈ os) (h2 : (d, MO.ns fs) ∈ os) (hn : (fs.map (·.1)).elem name = false) (w : Put d (.ns ((name, mv) :: fs)) os os') (o : OwnS g C name) (q : P ⟨lm, os'⟩) (hl : ((name, mv) :: fs).length ≤ 500) : SetA X a name mv ⟨lm, os⟩ P := SetA_new o h1 h2 hn w q hl
theorem CallV_append' {a : Addr} {mv : MV} {xs : List MV} (hm : (a, MO.lst xs) ∈ os) (hl : xs.length ≤ 1000000) (u : Put a (.lst (xs ++ [mv])) os os') (q : Q .none ⟨lm, os'⟩) : CallV X (.builtin "list.append") [.ref a, mv] ⟨lm, os⟩ Q := CallV_append hm hl u q
theorem CallV_range1' {n : Int} (q : ∀ a, Q (.ref a) ⟨lm, (a, .rng 0 n) :: os⟩) : CallV X (.type "range") [.int n] ⟨lm, os⟩ Q := CallV_range1 q
theorem CallV_range2' {a b : Int} (q : ∀ c, Q (.ref c) ⟨lm, (c, .rng a b) :: os⟩) : CallV X (.type "range") [.int a, .int b] ⟨lm, os⟩ Q := CallV_range2 q
theorem CallV_tuple' {a : Addr} {mo : MO} {xs : List MV} (hm : (a, mo) ∈ os) (lt : LT mo xs) (hl : xs.length ≤ 1000000) (q : ∀ b, Q (.ref b) ⟨lm, (b, .tup xs) :: os⟩) : CallV X (.type "tuple") [.ref a] ⟨lm, os⟩ Q := CallV_tuple hm lt hl q
theorem CallV_sorted' {a : Addr} {ns : List Int} (hm : (a, MO.lst (ns.map .int)) ∈ os) (hl : ns.length < 64) (q : ∀ b, Q (.ref b) ⟨lm, (b, .lst ((srt ns).map .int)) :: os⟩) : CallV X (.builtin "sorted") [.ref a] ⟨lm, os⟩ Q := CallV_sorted hm hl q
theorem CallV_sorted_dict' {a : Addr} {es : List (Int × MV)} (hm : (a, MO.dici es) ∈ os) (hl : es.length < 64) (q : ∀ b, Q (.ref b) ⟨lm, (b, .lst ((srt (es.map (·.1))).map .int)) :: os⟩) : CallV X (.builtin "sorted") [.ref a] ⟨lm, os⟩ Q := CallV_sorted_dict hm hl q
theorem CallV_pop' {a : Addr} {es : List (List UInt8 × MV)} {k : List UInt8} {mv : MV} (hm : (a, MO.dicb es) ∈ os) (hl : es.length ≤ 1000000) (hx : getM es k = some mv) (u : Put a (.dicb (delM es k)) os os') (q : Q mv ⟨lm, os'⟩) : CallV X (.builtin "dict.pop") [.ref a, .bytes k] ⟨lm, os⟩ Q := CallV_pop hm hl hx u q
theorem SetI_lsi' {a : Addr} {mo : MO} {xs : List MV} {k : Int} {mv : MV} (hm : (a, mo) ∈ os) (lt : LT mo xs) (h0 : 0 ≤ k) (h1 : k < 2 ^ 63) (h2 : k < xs.length) (u : Put a (.lsi (xs.set k.toNat mv)) os os') (q : P ⟨lm, os'⟩) : SetI X (.ref a) (.int k) mv ⟨lm, os⟩ P := SetI_lsi hm lt h0 h1 h2 u q
theorem SetI_dici' {a : Addr} {es : List (Int × MV)} {k : Int} {mv : MV} (hm : (a, MO.dici es) ∈ os) (hl : es.length ≤ 1000000) (u : Put a (.dici (putM es k mv)) os os') (q : P ⟨lm, os'⟩) : SetI X (.ref a) (.int k) mv ⟨lm, os⟩ P := SetI_dici hm hl u q
theorem SetI_dicb' {a : Addr} {es : List (List UInt8 × MV)} {k : List UInt8} {mv : MV} (hm : (a, MO.dicb es) ∈ os) (hl : es.length ≤ 1000000) (u : Put a (.dicb (putM es k mv)) os os') (q : P ⟨lm, os'⟩) : SetI X (.ref a) (.bytes k) mv ⟨lm, os⟩ P := SetI_dicb hm hl u q
theorem Op_addl' {a b : Addr} {ma mb : MO} {xs ys : List MV} (h1 : (a, ma) ∈ os) (l1 : LT ma xs) (h2 : (b, mb) ∈ os) (l2 : LT mb ys) (hl : xs.length + ys.length ≤ 1000000) (q : ∀ c, Q (.ref c) ⟨lm, (c, .lst (xs ++ ys)) :: os⟩) : Op X .Add (.ref a) (.ref b) ⟨lm, os⟩ Q := Op_addl h1 l1 h2 l2 hl q
theorem Op_mull1' {a : Addr} {x : MV} {n : Int} (h1 : (a, .lst [x]) ∈ os) (h0 : 0 ≤ n) (hn : n ≤ 1000000) (q : ∀ c, Q (.ref c) ⟨lm, (c, .lst (List.replicate n.toNat x)) :: os⟩) : Op X .Mult (.ref a) (.int n) ⟨lm, os⟩ Q := Op_mull1 h1 h0 hn q
theorem Attr_own' {a d C : Addr} {name : Str} {b : Bool} {fs : List (Str × MV)} {mv : MV} (h1 : (a, MO.ins C d) ∈ os) (h2 : (d, MO.ns fs) ∈ os) (h3 : (name, mv) ∈ fs) (o : Own g C name) (hv : ∀ x, mv ≠ .val x) (q : Q mv ⟨lm, os⟩) : Attr X a name b ⟨lm, os⟩ Q := Attr_own o h1 h2 h3 q hv
/-- what a method's call asks of its object -/
noncomputable def MethAt (X : Cx g) (name : Str) (es : List PySem.Expr) (pos : Pos) (ov : MV) (σ₁ : St) (Q : VQ) : Prop :=
  ∃ a C d fs f, ov = .ref a ∧ Meth g C name f ∧ (a, MO.ins C d) ∈ σ₁.os ∧ (d, MO.ns fs) ∈ σ₁.os ∧ name ∉ fs.map (·.1) ∧ Arg X es pos σ₁ fun as σ₂ => CallV X (.ref f) (.ref a :: as) σ₂ Q
theorem MethAt_mk {a C d f : Addr} {name : Str} {fs : List (Str × MV)} {es : List PySem.Expr} {pos : Pos} (h1 : (a, MO.ins C d) ∈ os) (h2 : (d, MO.ns fs) ∈ os) (hn : (fs.map (·.1)).elem name = false) (m : Meth g C name f) (h : Arg X es pos ⟨lm, os⟩ fun as σ₂ => CallV X (.ref f) (.ref a :: as) σ₂ Q) :
    MethAt X name es pos (.ref a) ⟨lm, os⟩ Q := ⟨a, C, d, fs, f, rfl, m, h1, h2, not_elem hn, h⟩
theorem Ev_meth' {o : PySem.Expr} {name : Str} {apos pos : Pos} {es : List PySem.Expr} {pl : Sem Bool} (h : Ev X o σ fun ov σ₁ => MethAt X name es pos ov σ₁ Q)
    (he : eval (.Call (.Attribute o name apos) es [] pos) X.env = (do
      let ov ← eval o X.env
      standAt apos.atName
      let (f, first) ← holding [ov] (getMethod ov name pl)
      callWith pos f first (backTo pos (starEach es X.env)) []))
    (hp : (starEach es X.env).any (·.1) = false) : Ev X (.Call (.Attribute o name apos) es [] pos) σ Q := Ev_meth h he hp
noncomputable def BmAt (X : Cx g) (T id : String) (es : List PySem.Expr) (pos : Pos) (ov : MV) (σ₁ : St) (Q : VQ) : Prop :=
  ∃ a mo, ov = .ref a ∧ (a, mo) ∈ σ₁.os ∧ BT mo T ∧ Arg X es pos σ₁ fun as σ₂ => CallV X (.builtin id) (.ref a :: as) σ₂ Q
theorem BmAt_mk {a : Addr} {mo : MO} {T id : String} {es : List PySem.Expr} {pos : Pos} (h1 : (a, mo) ∈ os) (b : BT mo T) (h : Arg X es pos ⟨lm, os⟩ fun as σ₂ => CallV X (.builtin id) (.ref a :: as) σ₂ Q) : BmAt X T id es pos (.ref a) ⟨lm, os⟩ Q := ⟨a, mo, rfl, h1, b, h⟩
theorem Ev_bm' {T id : String} {o : PySem.Expr} {name : Str} {apos pos : Pos} {es : List PySem.Expr} {pl : Sem Bool} (b : BM T name id) (h : Ev X o σ fun ov σ₁ => BmAt X T id es pos ov σ₁ Q)
    (he : eval (.Call (.Attribute o name apos) es [] pos) X.env = (do
      let ov ← eval o X.env
      standAt apos.atName
      let (f, first) ← holding [ov] (getMethod ov name pl)
      callWith pos f first (backTo pos (starEach es X.env)) []))
    (hp : (starEach es X.env).any (·.1) = false) : Ev X (.Call (.Attribute o name apos) es [] pos) σ Q := Ev_bm b h he hp
noncomputable def RefAt (X : Cx g) (name : Str) (b : Bool) (ov : MV) (σ₁ : St) (Q : VQ) : Prop := ∃ a, ov = .ref a ∧ Attr X a name b σ₁ Q
theorem RefAt_mk {a d C : Addr} {name : Str} {b : Bool} {fs : List (Str × MV)} {mv : MV} (h1 : (a, MO.ins C d) ∈ os) (h2 : (d, MO.ns fs) ∈ os) (h3 : (name, mv) ∈ fs) (o : Own g C name) (hv : ∀ x, mv ≠ .val x) (q : Q mv ⟨lm, os⟩) : RefAt X name b (.ref a) ⟨lm, os⟩ Q := ⟨a, rfl, Attr_own o h1 h2 h3 q hv⟩
theorem Ev_attr' {e : PySem.Expr} {name : Str} {pos : Pos} (h : Ev X e σ fun o σ₁ => RefAt X name true o σ₁ Q)
    (he : eval (.Attribute e name pos) X.env = (do let o ← eval e X.env; standAt pos.atName; let r ← holding [o] (getAttr o name true); letTemporaryGo e o r; Pure.pure r)) : Ev X (.Attribute e name pos) σ Q := Ev_attr h he
noncomputable def SetAt (X : Cx g) (name : Str) (mv ov : MV) (σ₁ : St) (P : St → Prop) : Prop := ∃ a, ov = .ref a ∧ SetA X a name mv σ₁ P
theorem SetAt_mk {a : Addr} {name : Str} {mv : MV} (h : SetA X a name mv σ P) : SetAt X name mv (.ref a) σ P := ⟨a, rfl, h⟩
theorem Ex_seta' {Q : FQ} {o : PySem.Expr} {attr : Str} {p pos : Pos} {e : PySem.Expr} (h : Ev X e σ fun mv σ₁ => Ev X o σ₁ fun ov σ₂ => SetAt X attr mv ov σ₂ fun σ₃ => Q .next σ₃)
    (hs : swapsWith e (some (.Attribute o attr p)) pos.line X.env = Pure.pure false) : Ex X (.Assign [.Attribute o attr p] e pos) σ Q := Ex_seta h hs
noncomputable def AugAt (X : Cx g) (attr : Str) (op : Operator) (e : PySem.Expr) (ov : MV) (σ₁ : St) (P : St → Prop) : Prop :=
  ∃ a, ov = .ref a ∧ Attr X a attr true σ₁ fun old σ₂ => Ev X e σ₂ fun mv σ₃ => Iop X op old mv σ₃ fun r σ₄ => SetA X a attr r σ₄ P
theorem AugAt_mk {a : Addr} {attr : Str} {op : Operator} {e : PySem.Expr} (h : Attr X a attr true σ fun old σ₂ => Ev X e σ₂ fun mv σ₃ => Iop X op old mv σ₃ fun r σ₄ => SetA X a attr r σ₄ P) : AugAt X attr op e (.ref a) σ P := ⟨a, rfl, h⟩
theorem Ex_auga' {Q : FQ} {o : PySem.Expr} {attr : Str} {p pos : Pos} {op : Operator} {e : PySem.Expr} (h : Ev X o σ fun ov σ₁ => AugAt X attr op e ov σ₁ fun σ₅ => Q .next σ₅) : Ex X (.AugAssign (.Attribute o attr p) op e pos) σ Q := Ex_auga h
/-- an allocation behind a bound on its size -/
noncomputable def AllocN (n : Nat) (mo : MO) (σ : St) (K : Addr → St → Prop) : Prop := n ≤ 1000000 ∧ Alloc mo σ K
theorem AllocN_mk {n : Nat} {mo : MO} {K : Addr → St → Prop} (hn : n ≤ 1000000) (h : ∀ a, K a ⟨lm, (a, mo) :: os⟩) : AllocN n mo ⟨lm, os⟩ K := ⟨hn, h⟩
theorem Ev_list' {es : List PySem.Expr} {pos : Pos} (h : Arg X es pos σ fun as σ₁ => AllocN as.length (.lst as) σ₁ fun a σ₂ => Q (.ref a) σ₂) : Ev X (.List es pos) σ Q := Ev_list h
theorem Ev_tuple' {es : List PySem.Expr} {k : Nat} {pos : Pos} (h : Arg X es pos σ fun as σ₁ => AllocN as.length (.tup as) σ₁ fun a σ₂ => Q (.ref a) σ₂) : Ev X (.Tuple es k pos) σ Q := Ev_tuple h
theorem Cfn {n : Nat} {f : Addr} {args : List MV} {fp rest : Os} {Post : MV → Os → Prop} (hf : Fn g n f args fp Post) (hr : Room X.A n) (hs : Sel os fp rest) (q : ∀ mv fp', Post mv fp' → Q mv ⟨lm, osApp fp' rest⟩) : CallV X (.ref f) args ⟨lm, os⟩ Q := CallV_fn' hf hr hs q
inductive AppR : Os → Os → Os → Prop
  | nil {r} : AppR [] r r
  | cons {p l r r'} : AppR l r r' → AppR (p :: l) r (p :: r')
theorem AppR.eq {l r r' : Os} (h : AppR l r r') : osApp l r = r' := by
  induction h with
  | nil => rfl
  | cons _ ih => exact congrArg _ ih
theorem CfnE {n : Nat} {f : Addr} {args : List MV} {fp rest fp2 os' : Os} {v : MV} (hf : Fn g n f args fp fun mv fp' => mv = v ∧ fp' = fp2) (hr : Room X.A n) (hs : Sel os fp rest) (ha : AppR fp2 rest os') (q : Q v ⟨lm, os'⟩) : CallV X (.ref f) args ⟨lm, os⟩ Q :=
  Cfn hf hr hs (by rintro _ _ ⟨rfl, rfl⟩; rw [ha.eq]; exact q)
theorem CfnE1 {n : Nat} {f : Addr} {args : List MV} {fp rest : Os} {V : Addr → MV} {F : Addr → Os} (hf : Fn g n f args fp fun mv fp' => ∃ a : Addr, mv = V a ∧ fp' = F a) (hr : Room X.A n) (hs : Sel os fp rest) (q : ∀ a, Q (V a) ⟨lm, osApp (F a) rest⟩) : CallV X (.ref f) args ⟨lm, os⟩ Q :=
  Cfn hf hr hs (by rintro _ _ ⟨a, rfl, rfl⟩; exact q a)
theorem Cfn0 {n : Nat} {f : Addr} {args : List MV} {v : MV} (hf : Fn g n f args [] fun mv fp' => mv = v ∧ fp' = []) (hr : Room X.A n) (q : Q v ⟨lm, os⟩) : CallV X (.ref f) args ⟨lm, os⟩ Q :=
  Cfn hf hr .nil (by rintro _ _ ⟨rfl, rfl⟩; exact q)
theorem Ccls {n : Nat} {C fI : Addr} {args : List MV} {fp rest : Os} {Post : Addr → Addr → Os → Prop} (c : IsCls g C fI) (hf : ∀ x d, Fn g n fI (.ref x :: args) ((x, .ins C d) :: (d, .ns []) :: fp) fun mv fp' => mv = .none ∧ Post x d fp') (hr : Room X.A (n + 1)) (hs : Sel os fp rest)
    (q : ∀ x d fp', Post x d fp' → Q (.ref x) ⟨lm, osApp fp' rest⟩) : CallV X (.ref C) args ⟨lm, os⟩ Q := CallV_cls' c hf hr hs q
end
theorem asgHide {g : G} {X : Cx g} {target : PySem.Expr} {body : List Stmt} {mv : MV} {σ : St} {Q : FQ} (h : ∀ PP : FQ, (∀ f σ', Q f σ' → PP f σ') → Asg X target mv σ fun σ₂ => Exs X body σ₂ PP) : Asg X target mv σ fun σ₂ => Exs X body σ₂ Q := h Q fun _ _ q => q
/-! the rules of the walker with their continuations named: a name is a smaller term than a lambda -/
section
variable {g : G} {X : Cx g} {σ : St} {lm : Lm} {os : Os} {Q : VQ} {F : FQ} {B : Bool → St → Prop}
noncomputable abbrev kOp2 (X : Cx g) (op : Operator) (a : MV) (Q : VQ) : VQ := fun b σ => Op X op a b σ Q
noncomputable abbrev kOp (X : Cx g) (r : PySem.Expr) (op : Operator) (Q : VQ) : VQ := fun a σ => Ev X r σ (kOp2 X op a Q)
theorem Ev_binN {l r : PySem.Expr} {op : Operator} {pos : Pos} (h : Ev X l σ (kOp X r op Q)) : Ev X (.BinOp l op r pos) σ Q := Ev_bin h
noncomputable abbrev kSub2 (X : Cx g) (o : MV) (v s : PySem.Expr) (Q : VQ) : VQ := fun i σ => Sub X o i v s σ Q
noncomputable abbrev kSub (X : Cx g) (v s : PySem.Expr) (Q : VQ) : VQ := fun o σ => Ev X s σ (kSub2 X o v s Q)
theorem Ev_subN {v s : PySem.Expr} {pos : Pos} (h : Ev X v σ (kSub X v s Q)) : Ev X (.Subscript v s pos) σ Q := Ev_sub h
noncomputable abbrev kUn (X : Cx g) (op : UnaryOp) (Q : VQ) : VQ := fun a σ => Un X op a σ Q
theorem Ev_unN {x : PySem.Expr} {op : UnaryOp} {pos : Pos} (h : Ev X x σ (kUn X op Q)) : Ev X (.UnaryOp op x pos) σ Q := Ev_un h
noncomputable abbrev kCmp2 (X : Cx g) (op : CmpOp) (a : MV) (Q : VQ) : VQ := fun b σ => Cmp X op a b σ Q
noncomputable abbrev kCmp (X : Cx g) (r : PySem.Expr) (op : CmpOp) (Q : VQ) : VQ := fun a σ => Ev X r σ (kCmp2 X op a Q)
theorem Ev_cmpN {l r : PySem.Expr} {op : CmpOp} {pos : Pos} (h : Ev X l σ (kCmp X r op Q)) (hm : behindInMarks op r = false) : Ev X (.Compare l [op] [r] pos) σ Q := Ev_cmp h hm
noncomputable abbrev kTru (X : Cx g) (B : Bool → St → Prop) : VQ := fun a σ => Tru X a σ B
theorem Te_cmpN {l r : PySem.Expr} {op : CmpOp} {pos : Pos} (h : Ev X l σ (kCmp X r op (kTru X B))) (hm : behindInMarks op r = false) : Te X (.Compare l [op] [r] pos) σ B := Te_cmp h hm
theorem Te_valN {e : PySem.Expr} (h : Ev X e σ (kTru X B)) (he : PySem.isTrue e X.env (eval e X.env) = (do let v ← eval e X.env; standAt e.pos; holding [v] (truthy v))) : Te X e σ B := Te_val h he
noncomputable abbrev kIf (X : Cx g) (a b : PySem.Expr) (Q : VQ) : Bool → St → Prop := fun c σ => match c with | true => Ev X a σ Q | false => Ev X b σ Q
theorem Ev_ifexpN {t a b : PySem.Expr} {pos : Pos} (h : Te X t σ (kIf X a b Q)) : Ev X (.IfExp t a b pos) σ Q := Ev_ifexp (Tri.mono h fun c σ' q => by cases c <;> simpa using q)
noncomputable abbrev kIfs (X : Cx g) (a b : List Stmt) (F : FQ) : Bool → St → Prop := fun c σ => match c with | true => Exs X a σ F | false => Exs X b σ F
theorem Ex_ifN {t : PySem.Expr} {a b : List Stmt} {pos : Pos} (h : Te X t σ (kIfs X a b F)) : Ex X (.If t a b pos) σ F := Ex_if (Tri.mono h fun c σ' q => by cases c <;> simpa using q)
noncomputable abbrev kNext (F : FQ) : St → Prop := fun σ => F .next σ
noncomputable abbrev kSto (X : Cx g) (x : Str) (F : FQ) : VQ := fun mv σ => Sto X x mv σ (kNext F)
theorem Ex_asgN {x : Str} {p : Pos} {e : PySem.Expr} {pos : Pos} (h : Ev X e σ (kSto X x F)) (hs : swapsWith e (some (.Name x p)) pos.line X.env = Pure.pure false) : Ex X (.Assign [.Name x p] e pos) σ F := Ex_asg h hs
noncomputable abbrev kIop (X : Cx g) (op : Operator) (old : MV) (x : Str) (F : FQ) : VQ := fun mv σ => Iop X op old mv σ (kSto X x F)
theorem Ex_augN {x : Str} {p : Pos} {op : Operator} {e : PySem.Expr} {pos : Pos} {old : MV} (hx : (x, old) ∈ lm) (h : Ev X e ⟨lm, os⟩ (kIop X op old x F)) : Ex X (.AugAssign (.Name x p) op e pos) ⟨lm, os⟩ F := Ex_aug hx h
noncomputable abbrev kSetA2 (X : Cx g) (attr : Str) (mv : MV) (F : FQ) : VQ := fun ov σ => SetAt X attr mv ov σ (kNext F)
noncomputable abbrev kSetA (X : Cx g) (o : PySem.Expr) (attr : Str) (F : FQ) : VQ := fun mv σ => Ev X o σ (kSetA2 X attr mv F)
theorem Ex_setaN {o : PySem.Expr} {attr : Str} {p pos : Pos} {e : PySem.Expr} (h : Ev X e σ (kSetA X o attr F)) (hs : swapsWith e (some (.Attribute o attr p)) pos.line X.env = Pure.pure false) : Ex X (.Assign [.Attribute o attr p] e pos) σ F := Ex_seta' h hs
noncomputable abbrev kExpr (F : FQ) : VQ := fun _ σ => F .next σ
theorem Ex_exprN {e : PySem.Expr} {pos : Pos} (h : Ev X e σ (kExpr F)) (hs : swapsWith e none pos.line X.env = Pure.pure false) : Ex X (.Expr e pos) σ F := Ex_expr' h hs
noncomputable abbrev kRef (X : Cx g) (name : Str) (Q : VQ) : VQ := fun o σ => RefAt X name true o σ Q
theorem Ev_attrN {e : PySem.Expr} {name : Str} {pos : Pos} (h : Ev X e σ (kRef X name Q))
    (he : eval (.Attribute e name pos) X.env = (do let o ← eval e X.env; standAt pos.atName; let r ← holding [o] (getAttr o name true); letTemporaryGo e o r; Pure.pure r)) : Ev X (.Attribute e name pos) σ Q := Ev_attr' h he
noncomputable abbrev kMeth (X : Cx g) (name : Str) (es : List PySem.Expr) (pos : Pos) (Q : VQ) : VQ := fun ov σ => MethAt X name es pos ov σ Q
theorem Ev_methN {o : PySem.Expr} {name : Str} {apos pos : Pos} {es : List PySem.Expr} {pl : Sem Bool} (h : Ev X o σ (kMeth X name es pos Q))
    (he : eval (.Call (.Attribute o name apos) es [] pos) X.env = (do
      let ov ← eval o X.env
      standAt apos.atName
      let (f, first) ← holding [ov] (getMethod ov name pl)
      callWith pos f first (backTo pos (starEach es X.env)) []))
    (hp : (starEach es X.env).any (·.1) = false) : Ev X (.Call (.Attribute o name apos) es [] pos) σ Q := Ev_meth' h he hp
noncomputable abbrev kBm (X : Cx g) (T id : String) (es : List PySem.Expr) (pos : Pos) (Q : VQ) : VQ := fun ov σ => BmAt X T id es pos ov σ Q
theorem Ev_bmN {T id : String} {o : PySem.Expr} {name : Str} {apos pos : Pos} {es : List PySem.Expr} {pl : Sem Bool} (b : BM T name id) (h : Ev X o σ (kBm X T id es pos Q))
    (he : eval (.Call (.Attribute o name apos) es [] pos) X.env = (do
      let ov ← eval o X.env
      standAt apos.atName
      let (f, first) ← holding [ov] (getMethod ov name pl)
      callWith pos f first (backTo pos (starEach es X.env)) []))
    (hp : (starEach es X.env).any (·.1) = false) : Ev X (.Call (.Attribute o name apos) es [] pos) σ Q := Ev_bm' b h he hp
noncomputable abbrev kCallM (X : Cx g) (f : Value) (a : MV) (Q : VQ) : List MV → St → Prop := fun as σ => CallV X f (a :: as) σ Q
theorem MethAt_mkN {a C d f : Addr} {name : Str} {fs : List (Str × MV)} {es : List PySem.Expr} {pos : Pos} (h1 : (a, MO.ins C d) ∈ os) (h2 : (d, MO.ns fs) ∈ os) (hn : (fs.map (·.1)).elem name = false) (m : Meth g C name f) (h : Arg X es pos ⟨lm, os⟩ (kCallM X (.ref f) (.ref a) Q)) : MethAt X name es pos (.ref a) ⟨lm, os⟩ Q := MethAt_mk h1 h2 hn m h
theorem BmAt_mkN {a : Addr} {mo : MO} {T id : String} {es : List PySem.Expr} {pos : Pos} (h1 : (a, mo) ∈ os) (b : BT mo T) (h : Arg X es pos ⟨lm, os⟩ (kCallM X (.builtin id) (.ref a) Q)) : BmAt X T id es pos (.ref a) ⟨lm, os⟩ Q := BmAt_mk h1 b h
noncomputable abbrev kCall (X : Cx g) (f : Value) (Q : VQ) : List MV → St → Prop := fun as σ => CallV X f as σ Q
theorem Ev_callKN {x : Str} {p pos : Pos} {f : Addr} {es : List PySem.Expr} (e : nsIn g.K mainGlobals x = some (some (.ref f)) ∧ keepIn g.K (.ref f) = true) (hx : X.env.kindOf x = some .globalImplicit) (h : Arg X es pos σ (kCall X (.ref f) Q))
    (hp : (starEach es X.env).any (·.1) = false) (hd : (x == ("__debug__" : Str)) = false) : Ev X (.Call (.Name x p) es [] pos) σ Q := Ev_callK' e hx h hp hd
theorem Ev_callBN {x : Str} {p pos : Pos} {f : Value} {es : List PySem.Expr} (e : nsIn g.K mainGlobals x = some none ∧ bootBuiltins x = some f ∧ Kp g f) (hx : X.env.kindOf x = some .globalImplicit) (h : Arg X es pos σ (kCall X f Q))
    (hp : (starEach es X.env).any (·.1) = false) (hn : x ≠ "__name__") (hd : (x == ("__debug__" : Str)) = false) : Ev X (.Call (.Name x p) es [] pos) σ Q := Ev_callB' e hx h hp hn hd
noncomputable abbrev kArg2 (a : MV) (P : List MV → St → Prop) : List MV → St → Prop := fun as σ => P (a :: as) σ
noncomputable abbrev kArg (X : Cx g) (rest : List PySem.Expr) (pos : Pos) (P : List MV → St → Prop) : VQ := fun a σ => Arg X rest pos σ (kArg2 a P)
theorem Arg_consN {e : PySem.Expr} {rest : List PySem.Expr} {pos : Pos} {P : List MV → St → Prop} (h : Ev X e σ (kArg X rest pos P)) (he : starEach (e :: rest) X.env = (false, eval e X.env) :: starEach rest X.env) : Arg X (e :: rest) pos σ P := Arg_cons h he
noncomputable abbrev kRefQ (Q : VQ) : Addr → St → Prop := fun a σ => Q (.ref a) σ
noncomputable abbrev kLst (Q : VQ) : List MV → St → Prop := fun as σ => AllocN as.length (.lst as) σ (kRefQ Q)
theorem Ev_listN {es : List PySem.Expr} {pos : Pos} (h : Arg X es pos σ (kLst Q)) : Ev X (.List es pos) σ Q := Ev_list' h
noncomputable abbrev kTup (Q : VQ) : List MV → St → Prop := fun as σ => AllocN as.length (.tup as) σ (kRefQ Q)
theorem Ev_tupleN {es : List PySem.Expr} {k : Nat} {pos : Pos} (h : Arg X es pos σ (kTup Q)) : Ev X (.Tuple es k pos) σ Q := Ev_tuple' h
noncomputable abbrev kAnd (X : Cx g) (rest : List PySem.Expr) (B : Bool → St → Prop) : Bool → St → Prop := fun b σ => match b with | true => Tes X .And rest σ B | false => B false σ
theorem Tes_andN {x : PySem.Expr} {rest : List PySem.Expr} (h : Te X x σ (kAnd X rest B)) : Tes X .And (x :: rest) σ B := Tes_and (Tri.mono h fun c σ' q => by cases c <;> simpa using q)
noncomputable abbrev kOr (X : Cx g) (rest : List PySem.Expr) (B : Bool → St → Prop) : Bool → St → Prop := fun b σ => match b with | true => B true σ | false => Tes X .Or rest σ B
theorem Tes_orN {x : PySem.Expr} {rest : List PySem.Expr} (h : Te X x σ (kOr X rest B)) : Tes X .Or (x :: rest) σ B := Tes_or (Tri.mono h fun c σ' q => by cases c <;> simpa using q)
noncomputable abbrev kNot (B : Bool → St → Prop) : Bool → St → Prop := fun b σ => match b with | true => B false σ | false => B true σ
theorem Te_notN {x : PySem.Expr} {pos : Pos} (h : Te X x σ (kNot B)) : Te X (.UnaryOp .Not x pos) σ B := Te_not' (Tri.mono h fun c σ' q => by cases c <;> simpa using q)
end
/-! loops with the state spelt out -/
section
variable {g : G} {X : Cx g} {σ : St} {lm : Lm} {os os₀ : Os} {Q : FQ}
noncomputable def ForGo (X : Cx g) (target : PySem.Expr) (body : List Stmt) (it : MV) (σ₁ : St) (Q : FQ) : Prop :=
  ∃ ax mo xs os₀, ∃ Inv : Nat → Lm → Os → Prop, it = .ref ax ∧ Pick (ax, mo) σ₁.os os₀ ∧ ItSrc mo xs ∧ (∀ a b, mo = .rng a b → Builtin.Range.small a b 1 = true) ∧ Inv 0 σ₁.lm os₀ ∧
      (∀ i mv lm os fr, xs[i]? = some mv → Inv i lm os → Asg (X.fz fr) target mv ⟨lm, os⟩ fun σ₂ => Exs (X.fz fr) body σ₂ (LPost (Inv (i + 1)) Q ax mo)) ∧
      (∀ lm os, Inv xs.length lm os → Q .next ⟨lm, (ax, mo) :: os⟩)
theorem Ex_for' {target iter : PySem.Expr} {body : List Stmt} {pos : Pos} (h : Ev X iter σ fun it σ₁ => ForGo X target body it σ₁ Q)
    (hf : ∀ x, foldedSetIterable iter X.env x = Pure.pure x) : Ex X (.For target iter body [] pos) σ Q := Ex_for h hf
theorem ForGo_list {target : PySem.Expr} {body : List Stmt} {ax : Addr} {xs : List MV} (Inv : Nat → Lm → Os → Prop) (hp : Pick (ax, .lst xs) os os₀) (h0 : Inv 0 lm os₀)
    (step : ∀ i mv lm os fr, xs[i]? = some mv → Inv i lm os → Asg (X.fz fr) target mv ⟨lm, os⟩ fun σ₂ => Exs (X.fz fr) body σ₂ (LPost (Inv (i + 1)) Q ax (.lst xs)))
    (done : ∀ lm os, Inv xs.length lm os → Q .next ⟨lm, (ax, .lst xs) :: os⟩) : ForGo X target body (.ref ax) ⟨lm, os⟩ Q :=
  ⟨ax, _, xs, os₀, Inv, rfl, hp, .lst, fun _ _ e => (by cases e), h0, step, done⟩
theorem ForGo_ints {target : PySem.Expr} {body : List Stmt} {ax : Addr} {ns : List Int} (Inv : Nat → Lm → Os → Prop) (hp : Pick (ax, .lst (ns.map .int)) os os₀) (h0 : Inv 0 lm os₀)
    (step : ∀ i v lm os fr, ns[i]? = some v → Inv i lm os → Asg (X.fz fr) target (.int v) ⟨lm, os⟩ fun σ₂ => Exs (X.fz fr) body σ₂ (LPost (Inv (i + 1)) Q ax (.lst (ns.map .int))))
    (done : ∀ lm os, Inv ns.length lm os → Q .next ⟨lm, (ax, .lst (ns.map .int)) :: os⟩) : ForGo X target body (.ref ax) ⟨lm, os⟩ Q :=
  ForGo_list Inv hp h0 (fun i mv lm os fr e inv => by
    rw [List.getElem?_map] at e
    cases q : ns[i]? with
    | none => rw [q] at e; cases e
    | some v => rw [q] at e; cases e; exact step i v lm os fr q inv) (by rw [List.length_map]; exact done)
theorem small_of {a b : Int} (h1 : -1000000000 ≤ a ∧ a ≤ 1000000000) (h2 : -1000000000 ≤ b ∧ b ≤ 1000000000) : Builtin.Range.small a b 1 = true := by
  unfold Builtin.Range.small Builtin.Range.rangeSize
  simp only [Builtin.Range.rangeFitsLong, Bool.and_eq_true, Bool.or_eq_true, decide_eq_true_eq, beq_iff_eq, show ((1 : Int) > 0) by decide, if_true, Int.ediv_one]
  split <;> omega
theorem ForGo_rng {target : PySem.Expr} {body : List Stmt} {ax : Addr} {a b : Int} (Inv : Nat → Lm → Os → Prop) (hp : Pick (ax, .rng a b) os os₀) (h1 : -1000000000 ≤ a ∧ a ≤ 1000000000) (h2 : -1000000000 ≤ b ∧ b ≤ 1000000000) (h0 : Inv 0 lm os₀)
    (step : ∀ (i : Nat) lm os fr, i < (b - a).toNat → Inv i lm os → Asg (X.fz fr) target (.int (a + i)) ⟨lm, os⟩ fun σ₂ => Exs (X.fz fr) body σ₂ (LPost (Inv (i + 1)) Q ax (.rng a b)))
    (done : ∀ lm os, Inv (b - a).toNat lm os → Q .next ⟨lm, (ax, .rng a b) :: os⟩) : ForGo X target body (.ref ax) ⟨lm, os⟩ Q :=
  ⟨ax, _, _, os₀, Inv, rfl, hp, .rng, fun _ _ e => (by cases e; exact small_of h1 h2), h0, fun i mv lm os fr e inv => (by
    rw [List.getElem?_map] at e
    by_cases hlt : i < (b - a).toNat
    · rw [List.getElem?_range hlt] at e; cases e
      exact step i lm os fr hlt inv
    · rw [List.getElem?_eq_none (by rw [List.length_range]; omega)] at e; cases e), (by rw [List.length_map, List.length_range]; exact done)⟩
end
theorem Wkn.two {os fp rest r : Os} (h : Sel os fp r) (k : Suf rest r) : Wkn os (osApp fp rest) := by rw [osApp_eq]; exact Wkn.of h k
section
variable {g : G} {X : Cx g} {σ : St} {lm : Lm} {os : Os}
theorem Tru_list2 {a : Addr} {xs : List MV} {Q : Bool → St → Prop} (hm : (a, MO.lst xs) ∈ os) (hl : xs.length ≤ 1000000) (q0 : xs = [] → Q false ⟨lm, os⟩) (q1 : xs ≠ [] → Q true ⟨lm, os⟩) : Tru X (.ref a) ⟨lm, os⟩ Q :=
  Tru_list hm hl (by cases xs with | nil => exact q0 rfl | cons x r => exact q1 (by simp))
end
/-! comprehensions with the state spelt out -/
section
variable {g : G} {X : Cx g} {lm : Lm} {os os₀ : Os}
theorem CompGo_fm {elt target : PySem.Expr} {ifs : List PySem.Expr} {scope : Scope} {cl : List (Str × Addr)} {capt : Lm} {ax : Addr} {mo : MO} {xs : List MV} {Q : Addr → Lm → Os → Prop} (h : Nat → Option MV) (hp : Pick (ax, mo) os os₀) (src : ItSrc mo xs)
    (hsm : ∀ a b, mo = .rng a b → Builtin.Range.small a b 1 = true) (hxl : xs.length ≤ 1000000) (w : Wkn lm capt) (cc : capCheck (lm.map (·.1)) (cl.map (·.1)) (capt.map (·.1)) = true)
    (step : ∀ (Y : Cx g), Y.A = X.A → Kn Y.env (reName scope.names) → Y.env.cells = cl → ∀ i mv, xs[i]? = some mv → Asg Y target mv ⟨capt, os₀⟩ fun σ₂ => Ifs Y ifs σ₂ fun b σ₃ =>
        if b = true then Ev Y elt σ₃ fun r σ₄ => h i = some r ∧ Wkn σ₄.lm capt ∧ Wkn σ₄.os os₀ else h i = none ∧ Wkn σ₃.lm capt ∧ Wkn σ₃.os os₀)
    (done : ∀ D, Q D lm ((D, .lst ((List.range xs.length).filterMap h)) :: (ax, mo) :: os₀)) : CompGo X elt target ifs scope cl capt (.ref ax) ⟨lm, os⟩ Q := by
  have rs : ∀ i, (List.range (i + 1)).filterMap h = (List.range i).filterMap h ++ (h i).toList := fun i => by
    rw [List.range_succ, List.filterMap_append]
    cases e : h i <;> simp [e]
  refine ⟨ax, mo, xs, os₀, fun i acc os => acc = (List.range i).filterMap h ∧ os = os₀, rfl, hp, src, hsm, hxl, w, cc, ⟨rfl, rfl⟩, ?_, ?_⟩
  · rintro Y hA hn hc i mv acc os hx hl ⟨rfl, rfl⟩
    intro v iv
    refine Tri.mono (step Y hA hn hc i mv hx v iv) fun _ σ₂ h₂ => Tri.mono h₂ fun b σ₃ h₃ => ?_
    cases b with
    | true =>
      rw [if_pos rfl] at h₃ ⊢
      exact Ev.mono h₃ fun r σ₄ ⟨e, w1, w2⟩ => ⟨os, w1, w2, by rw [rs, e]; rfl, rfl⟩
    | false =>
      rw [if_neg Bool.false_ne_true] at h₃ ⊢
      exact ⟨os, h₃.2.1, h₃.2.2, by rw [rs, h₃.1]; simp, rfl⟩
  · rintro D acc os ⟨rfl, rfl⟩
    exact done D
theorem CompGo_rng {elt target : PySem.Expr} {ifs : List PySem.Expr} {scope : Scope} {cl : List (Str × Addr)} {capt : Lm} {ax : Addr} {a b : Int} {Q : Addr → Lm → Os → Prop} (h : Nat → Option MV) (hp : Pick (ax, .rng a b) os os₀)
    (h1 : -1000000000 ≤ a ∧ a ≤ 1000000000) (h2 : -1000000000 ≤ b ∧ b ≤ 1000000000) (h3 : b - a ≤ 1000000) (w : Wkn lm capt) (cc : capCheck (lm.map (·.1)) (cl.map (·.1)) (capt.map (·.1)) = true)
    (step : ∀ (Y : Cx g), Y.A = X.A → Kn Y.env (reName scope.names) → Y.env.cells = cl → ∀ i : Nat, i < (b - a).toNat → Asg Y target (.int (a + i)) ⟨capt, os₀⟩ fun σ₂ => Ifs Y ifs σ₂ fun b σ₃ =>
        if b = true then Ev Y elt σ₃ fun r σ₄ => h i = some r ∧ Wkn σ₄.lm capt ∧ Wkn σ₄.os os₀ else h i = none ∧ Wkn σ₃.lm capt ∧ Wkn σ₃.os os₀)
    (done : ∀ D, Q D lm ((D, .lst ((List.range (b - a).toNat).filterMap h)) :: (ax, .rng a b) :: os₀)) : CompGo X elt target ifs scope cl capt (.ref ax) ⟨lm, os⟩ Q := by
  refine CompGo_fm h hp .rng (fun _ _ e => by cases e; exact small_of h1 h2) (by rw [List.length_map, List.length_range]; omega) w cc ?_ (by rw [List.length_map, List.length_range]; exact done)
  intro Y hA hn hc i mv e
  rw [List.getElem?_map] at e
  by_cases hlt : i < (b - a).toNat
  · rw [List.getElem?_range hlt] at e; cases e
    exact step Y hA hn hc i hlt
  · rw [List.getElem?_eq_none (by rw [List.length_range]; omega)] at e; cases e
theorem CompGo_ints {elt target : PySem.Expr} {ifs : List PySem.Expr} {scope : Scope} {cl : List (Str × Addr)} {capt : Lm} {ax : Addr} {ns : List Int} {Q : Addr → Lm → Os → Prop} (h : Nat → Option MV) (hp : Pick (ax, .lst (ns.map .int)) os os₀)
    (hl : ns.length ≤ 1000000) (w : Wkn lm capt) (cc : capCheck (lm.map (·.1)) (cl.map (·.1)) (capt.map (·.1)) = true)
    (step : ∀ (Y : Cx g), Y.A = X.A → Kn Y.env (reName scope.names) → Y.env.cells = cl → ∀ (i : Nat) (v : Int), ns[i]? = some v → Asg Y target (.int v) ⟨capt, os₀⟩ fun σ₂ => Ifs Y ifs σ₂ fun b σ₃ =>
        if b = true then Ev Y elt σ₃ fun r σ₄ => h i = some r ∧ Wkn σ₄.lm capt ∧ Wkn σ₄.os os₀ else h i = none ∧ Wkn σ₃.lm capt ∧ Wkn σ₃.os os₀)
    (done : ∀ D, Q D lm ((D, .lst ((List.range ns.length).filterMap h)) :: (ax, .lst (ns.map .int)) :: os₀)) : CompGo X elt target ifs scope cl capt (.ref ax) ⟨lm, os⟩ Q := by
  refine CompGo_fm h hp .lst (fun _ _ e => by cases e) (by rw [List.length_map]; exact hl) w cc ?_ (by rw [List.length_map]; exact done)
  intro Y hA hn hc i mv e
  rw [List.getElem?_map] at e
  cases q : ns[i]? with
  | none => rw [q] at e; cases e
  | some v => rw [q] at e; cases e; exact step Y hA hn hc i v q
end
inductive Wq {α : Type} : List α → List α → Prop
  | suf {os rest} : Suf rest os → Wq os rest
  | cons {p os os' l} : Pick p os os' → Wq os' l → Wq os (p :: l)
theorem Pick.head2 {κ β : Type} {a : κ} {m m' : β} {r : List (κ × β)} (h : m = m') : Pick (a, m) ((a, m') :: r) r := h ▸ .head
theorem Wkn.trans {β κ : Type} {a b c : List (κ × β)} (h : Wkn a b) (k : Wkn b c) : Wkn a c := ⟨fun p hp => h.1 p (k.1 p hp), fun nd => k.2 (h.2 nd)⟩
theorem Wq.sub {α : Type} {os l : List α} (h : Wq os l) : ∃ j, os.Perm (l ++ j) := by
  induction h with
  | suf k => obtain ⟨j, rfl⟩ := k.app; exact ⟨j, List.perm_append_comm⟩
  | cons p _ ih => obtain ⟨j, e⟩ := ih; exact ⟨j, p.perm.trans (e.cons _)⟩
theorem Wq.wkn {β κ : Type} {os l : List (κ × β)} (h : Wq os l) : Wkn os l := by
  obtain ⟨j, e⟩ := h.sub
  refine ⟨fun p hp => e.mem_iff.mpr (List.mem_append_left _ hp), fun nd => ?_⟩
  have := (e.map (·.1)).nodup_iff.mp nd
  rw [List.map_append] at this
  exact (List.nodup_append.mp this).1

section
variable {g : G} {X : Cx g} {σ : St} {lm : Lm} {os : Os} {Q : VQ}
noncomputable def SlB (o l u : MV) (σ₃ : St) (Q : VQ) : Prop := ∃ b lo hi, o = .bytes b ∧ b.length ≤ 1000000 ∧ IsPt l lo ∧ IsPt u hi ∧ Q (.bytes (sliced b lo hi)) σ₃
theorem SlB_mk {b : List UInt8} {l u : MV} {lo hi : Option Int} (hl : b.length ≤ 1000000) (p1 : IsPt l lo) (p2 : IsPt u hi) (q : Q (.bytes (sliced b lo hi)) σ) : SlB (.bytes b) l u σ Q := ⟨b, lo, hi, rfl, hl, p1, p2, q⟩
theorem Ev_slb {value : PySem.Expr} {lower upper : Option PySem.Expr} {p pos : Pos} (h : Ev X value σ fun o σ₁ => EvP X lower σ₁ fun l σ₂ => EvP X upper σ₂ fun u σ₃ => SlB o l u σ₃ Q)
    (hs : ∀ o i, subscripted (.Slice lower upper none p) false o i = operate [i, o] (getItem o i))
    (ht : ∀ (b : Array UInt8) (t : Tok) (r : Value), letTemporaryGo value (.bytes b t) r = Pure.pure ()) : Ev X (.Subscript value (.Slice lower upper none p) pos) σ Q := Ev_slice_bytes h hs ht
noncomputable def SlL (o l u : MV) (σ₃ : St) (Q : VQ) : Prop := ∃ a mo xs lo hi, o = .ref a ∧ (a, mo) ∈ σ₃.os ∧ LT mo xs ∧ xs.length ≤ 1000000 ∧ IsPt l lo ∧ IsPt u hi ∧ ∀ b, Q (.ref b) ⟨σ₃.lm, (b, .lst (sliced xs lo hi)) :: σ₃.os⟩
theorem SlL_mk {a : Addr} {mo : MO} {xs : List MV} {l u : MV} {lo hi : Option Int} (hm : (a, mo) ∈ os) (lt : LT mo xs) (hl : xs.length ≤ 1000000) (p1 : IsPt l lo) (p2 : IsPt u hi) (q : ∀ b, Q (.ref b) ⟨lm, (b, .lst (sliced xs lo hi)) :: os⟩) : SlL (.ref a) l u ⟨lm, os⟩ Q := ⟨a, mo, xs, lo, hi, rfl, hm, lt, hl, p1, p2, q⟩
theorem Ev_sll {value : PySem.Expr} {lower upper : Option PySem.Expr} {p pos : Pos} (h : Ev X value σ fun o σ₁ => EvP X lower σ₁ fun l σ₂ => EvP X upper σ₂ fun u σ₃ => SlL o l u σ₃ Q)
    (ht : ∀ o r, letTemporaryGo value o r = Pure.pure ()) : Ev X (.Subscript value (.Slice lower upper none p) pos) σ Q := Ev_slice_list h ht
theorem sliced_len {α : Type} (l : List α) (lo hi : Option Int) : (sliced l lo hi).length ≤ l.length := by
  unfold sliced
  rw [List.length_take, List.length_drop]; omega
end

local macro_rules | `(tactic| wtm_at "m nv") => `(tactic| first | exact nv_int | exact nv_ref | exact nv_bool | exact nv_bytes | exact nv_none)
local macro_rules | `(tactic| wtm_at "m app") => `(tactic| with_reducible (first | exact AppR.nil | (apply AppR.cons; wtm_at "m app")))
local macro_rules | `(tactic| wtm_at "m mem") => `(tactic| with_reducible (first | exact List.mem_cons_self | (apply List.mem_cons_of_mem; wtm_at "m mem")))
local macro_rules | `(tactic| wtm_at "m put") => `(tactic| with_reducible (first | exact Put.head | (apply Put.tail; wtm_at "m put")))
local macro_rules | `(tactic| wtm_at "m lrep") => `(tactic| with_reducible (first | exact LRep.head | (apply LRep.tail; wtm_at "m lrep")))
local macro_rules | `(tactic| wtm_at "m pick") => `(tactic| with_reducible (first | exact Pick.head | (apply Pick.head2; wtm_at "m cont") | (apply Pick.tail; wtm_at "m pick")))
local macro_rules | `(tactic| wtm_at "m cont") => `(tactic| first | with_unfolding_all rfl | exact (by simp only [List.map_append, List.map_cons, List.map_nil]))
local macro_rules | `(tactic| wtm_at "m sel") => `(tactic| with_reducible (first | exact Sel.nil | (apply Sel.cons; (wtm_at "m pick"); (wtm_at "m sel"))))
local macro_rules | `(tactic| wtm_at "m suf") => `(tactic| with_reducible (first | exact Suf.here | (apply Suf.more; wtm_at "m suf")))
local macro_rules | `(tactic| wtm_at "m kind") => `(tactic| (with_reducible refine Kn.at (by assumption) (by wtm_at "m mem")))
local macro_rules | `(tactic| wtm_at "m side") => `(tactic| first | with_reducible assumption | omega | (simp only [List.length_append, List.length_cons, List.length_nil, List.length_map]; omega) | (simp only [List.length_append, List.length_cons, List.length_nil, List.length_map, le_length] <;> omega))
local macro_rules | `(tactic| wtm_at "m elem") => `(tactic| kernel_rfl)
local macro_rules | `(tactic| wtm_at "m own") => `(tactic| with_reducible exact own_all (by assumption) (by kernel_rfl))
local macro_rules | `(tactic| wtm_at "m ownS") => `(tactic| with_reducible exact ownS_all (by assumption) (by kernel_rfl))
local macro_rules | `(tactic| wtm_at "m meth") => `(tactic| first | exact meth_Message_row (by assumption) | exact meth_Config_vote (by assumption) | exact meth_Lease_tick (by assumption) | exact meth_Lease_stamp (by assumption) | exact meth_Lease_hear (by assumption) | exact meth_Lease_holds (by assumption) | exact meth_ReadOnly_add (by assumption) | exact meth_ReadOnly_ack (by assumption) | exact meth_ReadOnly_advance (by assumption) | exact meth_ReadOnly_last_context (by assumption) | exact meth_ReadOnly_row (by assumption))
local macro_rules | `(tactic| wtm_at "m gl") => `(tactic| first | exact gl_MAX_32 (by assumption) | exact gl_MAX_64 (by assumption) | exact gl_NONE (by assumption) | exact gl_MSG_READ_INDEX (by assumption) | exact gl_VOTE_PENDING (by assumption) | exact gl_VOTE_LOST (by assumption) | exact gl_VOTE_WON (by assumption) | exact gl_SAFE (by assumption) | exact gl_LEASE (by assumption))
local macro_rules | `(tactic| wtm_at "m glob") => `(tactic| (with_reducible refine Ev_globI (by wtm_at "m gl") (by wtm_at "m kind") ?_ (by decide +kernel)))
local macro_rules | `(tactic| wtm_at "m gk") => `(tactic| first | exact gk_put_fixed32 (by assumption) | exact gk_put_fixed64 (by assumption) | exact gk_read_fixed32 (by assumption) | exact gk_read_fixed64 (by assumption) | exact gk_rising (by assumption) | exact gk_Message (by assumption) | exact gk_majority_vote (by assumption) | exact gk_joint_vote (by assumption) | exact gk_Config (by assumption) | exact gk_read_context (by assumption) | exact gk_ReadStatus (by assumption) | exact gk_Lease (by assumption) | exact gk_ReadOnly (by assumption) | exact gk_law_draw (by assumption) | exact gk_law_eight (by assumption) | exact gk_law_back (by assumption) | exact gk_law_ids (by assumption) | exact gk_law_wins (by assumption) | exact gk_law_strange (by assumption) | exact gk_law_near (by assumption))
local macro_rules | `(tactic| wtm_at "m callk") => `(tactic| (with_reducible refine Ev_callKN (by wtm_at "m gk") (by wtm_at "m kind") ?_ (by with_unfolding_all rfl) (by decide +kernel)))
local macro_rules | `(tactic| wtm_at "m gb") => `(tactic| first | exact gb_sorted (by assumption) | exact gb_len (by assumption) | exact gb_bytes (by assumption) | exact gb_tuple (by assumption) | exact gb_range (by assumption) | exact gb_sum (by assumption) | exact gb_all (by assumption) | exact gb_max (by assumption))
local macro_rules | `(tactic| wtm_at "m callb") => `(tactic| (with_reducible refine Ev_callBN (by wtm_at "m gb") (by wtm_at "m kind") ?_ (by with_unfolding_all rfl) (by decide +kernel) (by decide +kernel)))
local macro_rules | `(tactic| wtm_at "m attr") => `(tactic| first | with_reducible (first | refine RefAt_mk (by wtm_at "m mem") (by wtm_at "m mem") (by wtm_at "m mem") (by wtm_at "m own") (by wtm_at "m nv") ?_ | refine Attr_own' (by wtm_at "m mem") (by wtm_at "m mem") (by wtm_at "m mem") (by wtm_at "m own") (by wtm_at "m nv") ?_ | refine SetAt_mk ?_ | refine AugAt_mk ?_ | refine MethAt_mkN (by wtm_at "m mem") (by wtm_at "m mem") (by wtm_at "m elem") (by wtm_at "m meth") ?_ | refine BmAt_mkN (by wtm_at "m mem") (by first | exact BT.lst | exact BT.dici | exact BT.dicb) ?_) | (with_reducible refine AllocN_mk ?hl (fun _ => ?_); (try case hl => first | decide | wtm_at "m side")))
local macro_rules | `(tactic| wtm_at "m evname") => `(tactic| first | with_reducible refine Ev_name' (by wtm_at "m mem") ?_ | wtm_at "m glob")
local macro_rules | `(tactic| wtm_at "m evcall") => `(tactic| with_reducible (first | ((show Ev _ (.Call (.Name _ _) _ _ _) _ _); first | wtm_at "m callb" | wtm_at "m callk") | refine Ev_bmN bm_append ?_ (by with_unfolding_all rfl) (by with_unfolding_all rfl) | refine Ev_bmN bm_get ?_ (by with_unfolding_all rfl) (by with_unfolding_all rfl) | refine Ev_bmN bm_pop ?_ (by with_unfolding_all rfl) (by with_unfolding_all rfl) | refine Ev_methN ?_ (by with_unfolding_all rfl) (by with_unfolding_all rfl)))
local macro_rules | `(tactic| wtm_at "m ev") => `(tactic| with_reducible (first | ((show Ev _ (.Name _ _) _ _); wtm_at "m evname") | ((show Ev _ (.Call _ _ _ _) _ _); wtm_at "m evcall") | refine Ev_attrN ?_ (by with_unfolding_all rfl) | refine Ev_int ?_ | refine Ev_binN ?_ | ((fail_if_success (show Ev _ (.Subscript _ (.Slice _ _ _ _) _) _ _)); refine Ev_subN ?_) | refine Ev_unN ?_ | refine Ev_cmpN ?_ (by with_unfolding_all rfl) | refine Ev_bool ?_ | refine Ev_none ?_ | refine Ev_bytes ?_ | refine Ev_ifexpN ?_ | refine Ev_and2 ?_ | refine Ev_listN ?_ | refine Ev_tupleN ?_ | refine Ev_dict_i' (fun _ => ?_)))
local macro_rules | `(tactic| wtm_at "m ex") => `(tactic| with_reducible (first | refine Ex_ret' ?_ | refine Ex_ifN ?_ | refine Ex_exprN ?_ (by with_unfolding_all rfl) | refine Ex_asgN ?_ (by with_unfolding_all rfl) | refine Ex_augN (by wtm_at "m mem") ?_ | refine Ex_setaN ?_ (by with_unfolding_all rfl) | refine Ex_auga' ?_ | refine Ex_seti ?_ (by with_unfolding_all rfl) | refine Ex_pass ?_ | refine Ex_for' ?_ (fun _ => by with_unfolding_all rfl)))
local macro_rules | `(tactic| wtm_at "m te") => `(tactic| with_reducible (first | refine Te_notN ?_ | refine Te_boolop ?_ | refine Te_cmpN ?_ (by with_unfolding_all rfl) | refine Te_valN ?_ (by with_unfolding_all rfl)))
local macro_rules | `(tactic| wtm_at "m tes") => `(tactic| with_reducible (first | refine Tes_and0 ?_ | refine Tes_or0 ?_ | refine Tes_andN ?_ | refine Tes_orN ?_))
local macro_rules | `(tactic| wtm_at "m tru") => `(tactic| first | (with_reducible refine Tru_dec (fun _ => ?_) (fun _ => ?_)) <;> (try (exfalso; omega)) | with_reducible refine Tru_bool ?_ | (with_reducible refine Tru_list2 (by wtm_at "m mem") ?h2 (fun _ => ?_) (fun _ => ?_); (try case h2 => wtm_at "m side")))
local macro_rules | `(tactic| wtm_at "m op") => `(tactic| first | with_reducible refine Op_add ?_ | with_reducible refine Op_sub ?_ | (with_reducible refine Op_mod ?h0 ?_; (try case h0 => wtm_at "m side")) | (with_reducible refine Op_fdiv ?h0 ?h1 ?_; (try case h0 => wtm_at "m side"); (try case h1 => wtm_at "m side")) | (with_reducible refine Op_mul ?h0 ?_; (try case h0 => first | exact mulOk_left (by wtm_at "m side") | exact mulOk_right (by wtm_at "m side"))) | (with_reducible refine Op_pow ?h0 ?h1 ?h2 ?_; (try case h0 => wtm_at "m side"); (try case h1 => wtm_at "m side"); (try case h2 => wtm_at "m side")) | (with_reducible refine Op_shl ?h0 ?h1 ?h2 ?_; (try case h0 => wtm_at "m side"); (try case h1 => wtm_at "m side"); (try case h2 => wtm_at "m side")) | with_reducible refine Op_or ?_ | with_reducible refine Op_and ?_ | (with_reducible refine Op_shr ?h0 ?_; (try case h0 => wtm_at "m side")) | (with_reducible refine Op_addb ?h0 ?_; (try case h0 => wtm_at "m side")))
local macro_rules | `(tactic| wtm_at "m un") => `(tactic| with_reducible (first | refine Un_neg ?_ | refine Un_not' ?_))
local macro_rules | `(tactic| wtm_at "m iop") => `(tactic| with_reducible (first | refine Iop_add ?_))
local macro_rules | `(tactic| wtm_at "m cmp") => `(tactic| with_reducible (first | refine Cmp_lt ?_ | refine Cmp_gt ?_ | refine Cmp_le ?_ | refine Cmp_ge ?_ | refine Cmp_eq ?_ | refine Cmp_ne ?_ | refine Cmp_eqb ?_ | refine Cmp_neb ?_ | refine Cmp_nebool ?_))
local macro_rules | `(tactic| wtm_at "m sto") => `(tactic| with_reducible (first | refine Sto_rep' (by wtm_at "m lrep") ?_ | refine Sto_new' (by wtm_at "m elem") (by wtm_at "m kind") ?_ (by decide +kernel) | refine Sto_newc' (by wtm_at "m elem") (by wtm_at "m kind") (by wtm_at "m cell") ?_ (by decide +kernel)))
local macro_rules | `(tactic| wtm_at "m seta") => `(tactic| with_reducible (first | refine SetA_rep' (by wtm_at "m mem") (by wtm_at "m mem") (by wtm_at "m lrep") (by wtm_at "m put") (by wtm_at "m ownS") ?_ (by simp) | refine SetA_new' (by wtm_at "m mem") (by wtm_at "m mem") (by wtm_at "m elem") (by wtm_at "m put") (by wtm_at "m ownS") ?_ (by simp)))
local macro_rules | `(tactic| wtm_at "m arg") => `(tactic| with_reducible (first | refine Arg_nil ?_ | refine Arg_consN ?_ (by with_unfolding_all rfl)))
local macro_rules | `(tactic| wtm_at "m refp") => `(tactic| (with_reducible refine ⟨_, rfl, ?_⟩))
local macro_rules | `(tactic| wtm_at "m ite") => `(tactic| first | with_reducible refine (if_pos rfl).mpr ?_ | with_reducible refine (if_neg Bool.false_ne_true).mpr ?_)
local macro_rules | `(tactic| wtm_at "m call") => `(tactic| first | (with_reducible refine CallV_append' (by wtm_at "m mem") ?h2 (by wtm_at "m put") ?_; (try case h2 => wtm_at "m side")) | (with_reducible refine CallV_len_lst (by wtm_at "m mem") ?h2 ?_; (try case h2 => wtm_at "m side")) | (with_reducible refine CallV_len_bytes ?h2 ?_; (try case h2 => wtm_at "m side")) | with_reducible refine CallV_max ?_ | with_reducible refine CallV_range1' (fun _ => ?_) | with_reducible refine CallV_range2' (fun _ => ?_) | (with_reducible refine CallV_sorted' (by wtm_at "m mem") ?h2 (fun _ => ?_); (try case h2 => wtm_at "m side")) | (with_reducible refine CallV_sorted_dict' (by wtm_at "m mem") ?h2 (fun _ => ?_); (try case h2 => wtm_at "m side")))
local macro_rules | `(tactic| wtm_at "m asg") => `(tactic| with_reducible refine Asg_name ?_)
local macro_rules | `(tactic| wtm_at "m sub") => `(tactic| (with_reducible refine Sub_bytes ?h0 ?h1 ?h2 ?_ (fun _ _ => by with_unfolding_all rfl) (fun _ _ => by with_unfolding_all rfl); (try case h0 => wtm_at "m side"); (try case h1 => wtm_at "m side"); (try case h2 => wtm_at "m side")))
local macro_rules | `(tactic| wtm_at "m step") => `(tactic| first | ((with_reducible show Ev _ _ _ _); wtm_at "m ev") | ((with_reducible show Exs _ _ _ _); first | with_reducible refine Exs_cons ?_ | with_reducible refine Exs_nil ?_) | ((with_reducible show Ex _ _ _ _); wtm_at "m ex") | ((with_reducible show Arg _ _ _ _ _); wtm_at "m arg") | ((with_reducible show CallV _ _ _ _ _); first | wtm_at "m call" | wtm_at "m fn") | ((with_reducible show Te _ _ _ _); wtm_at "m te") | ((with_reducible show Tes _ _ _ _ _); wtm_at "m tes") | ((with_reducible show Tru _ _ _ _); wtm_at "m tru") | ((with_reducible show Op _ _ _ _ _ _); wtm_at "m op") | ((with_reducible show Cmp _ _ _ _ _ _); wtm_at "m cmp") | ((with_reducible show Sto _ _ _ _ _); wtm_at "m sto") | ((with_reducible show SetA _ _ _ _ _ _); wtm_at "m seta") | ((with_reducible show Un _ _ _ _ _); wtm_at "m un") | ((with_reducible show Iop _ _ _ _ _ _); wtm_at "m iop") | ((with_reducible show Asg _ _ _ _ _); wtm_at "m asg") | ((with_reducible show EvP _ _ _ _); first | with_reducible refine EvP_none ?_ | with_reducible refine EvP_some ?_) | (with_reducible refine SlB_mk ?hl (by first | exact IsPt.none | exact IsPt.int) (by first | exact IsPt.none | exact IsPt.int) ?_; (try case hl => wtm_at "m side")) | (with_reducible refine SlL_mk (by wtm_at "m mem") (by first | exact LT.lst | exact LT.lsi) ?hl (by first | exact IsPt.none | exact IsPt.int) (by first | exact IsPt.none | exact IsPt.int) (fun _ => ?_); (try case hl => wtm_at "m side")) | ((with_reducible show Ifs _ _ _ _); first | with_reducible refine Ifs_nil ?_ | with_reducible refine Ifs_one ?_) | ((with_reducible show Sub _ _ _ _ _ _ _); wtm_at "m sub") | ((with_reducible show ite _ _ _); wtm_at "m ite") | wtm_at "m attr")
local macro_rules | `(tactic| wtm_at "m wq") => `(tactic| with_reducible (first | (apply Wq.cons; (wtm_at "m pick"); (wtm_at "m wq")) | (apply Wq.suf; wtm_at "m suf")))
local macro_rules | `(tactic| wtm_at "m wk") => `(tactic| exact Wq.wkn (by wtm_at "m wq"))
local macro_rules | `(tactic| wtm_at "m lp") => `(tactic| exact ⟨_, _, Wq.wkn (by wtm_at "m wq"), Wq.wkn (by wtm_at "m wq"), rfl, rfl⟩)
local macro_rules | `(tactic| wtm_at "m ce") => `(tactic| exact ⟨rfl, Wq.wkn (by wtm_at "m wq"), Wq.wkn (by wtm_at "m wq")⟩)
local macro_rules | `(tactic| wtm_at "m go1") => `(tactic| repeat' (((fail_if_success (with_reducible show Ev _ (.Dict _ _ _) _ _))); wtm_at "m step"))
local macro_rules | `(tactic| wtm_at "m gs") => `(tactic| repeat' (((fail_if_success (with_reducible show Exs _ _ _ _))); wtm_at "m step"))
local macro_rules | `(tactic| wtm_at "m gf") => `(tactic| repeat' (((fail_if_success (with_reducible show Exs _ (.For _ _ _ _ _ :: _) _ _))); wtm_at "m step"))
local macro_rules | `(tactic| wtm_at "m gi") => `(tactic| repeat' (((fail_if_success (with_reducible show Exs _ (.If _ _ _ _ :: _) _ _))); wtm_at "m step"))
local macro_rules | `(tactic| wtm_at "m go") => `(tactic| repeat' wtm_at "m step")
noncomputable def riseGo (out : List Int) : List Int → List Int
  | [] => out
  | n :: r => riseGo (if out.getLast? = some n then out else out ++ [n]) r
noncomputable def rise (ns : List Int) : List Int := riseGo [] (srt ns)
theorem riseGo_take (ns : List Int) (i : Nat) (v : Int) (h : ns[i]? = some v) (o : List Int) : riseGo o (ns.take (i + 1)) = (if (riseGo o (ns.take i)).getLast? = some v then riseGo o (ns.take i) else riseGo o (ns.take i) ++ [v]) := by
  induction ns generalizing i o with
  | nil => cases h
  | cons n r ih =>
    cases i with
    | zero => cases h; rfl
    | succ i => exact ih i h _
theorem riseGo_len (ns : List Int) : ∀ o : List Int, (riseGo o ns).length ≤ o.length + ns.length := by
  induction ns with
  | nil => intro o; exact Nat.le_refl _
  | cons n r ih =>
    intro o
    refine Nat.le_trans (ih _) ?_
    split <;> simp <;> omega

theorem fn_rising {g : G} (hK : OnK g) {n : Nat} {a : Addr} {ns : List Int} (hl : ns.length < 64) : Fn g (n + 1) 141 [.ref a] [(a, .lst (ns.map .int))] fun mv fp' => ∃ o, mv = .ref o ∧ fp' = [(o, .lst ((rise ns).map .int)), (a, .lst (ns.map .int))] := by
  refine Fn.mk ["ids"] [("ids", .local), ("out", .local), ("nid", .local), ("sorted", .globalImplicit)] (by rw [hK]; rfl) (by rw [hK]; kernel_rfl) rfl rfl rfl rfl rfl rfl rfl ?_ rfl (by decide +kernel) (by decide +kernel) (by decide +kernel) (by kernel_rfl) (by decide +kernel) ?_
  · intro vs hvs
    obtain ⟨v, rfl⟩ := lst1 hvs
    with_unfolding_all rfl
  · intro X rest c room kn cells
    simp only [zipArgs, osApp]
    wtm_at "m go"
    rename_i o so
    have hlen : ∀ i, (riseGo [] ((srt ns).take i)).length ≤ 64 := fun i => by
      have h1 := riseGo_len ((srt ns).take i) []
      have h2 : (srt ns).length = ns.length := (List.mergeSort_perm _ _).length_eq
      simp only [List.length_nil, List.length_take] at h1
      omega
    refine ForGo_ints (fun i lm os => lm = ([("out", .ref o), ("ids", .ref a)] : Lm) ∧ os = ((o, .lst ((riseGo [] ((srt ns).take i)).map .int)) :: (a, .lst (ns.map .int)) :: rest : Os)) (by wtm_at "m pick") ?_ ?_ ?_
    · exact ⟨rfl, rfl⟩
    · rintro i v lm os fr hv ⟨rfl, rfl⟩
      have hl' := hlen i
      have hst := riseGo_take _ _ _ hv []
      rw [hst]
      generalize riseGo [] ((srt ns).take i) = out at *
      wtm_at "m go"
      · rename_i h
        have h : out = [] := by simpa using h
        subst h
        rw [if_neg (by simp)]
        wtm_at "m lp"
      · rename_i h
        have h : out ≠ [] := by simpa using h
        have hpos : 0 < out.length := List.length_pos_iff.mpr h
        refine Sub_list_neg (mv := .int (out.getLast h)) (by wtm_at "m mem") .lst (by decide) (by decide) (by simp; omega) ?_ ?_
        · rw [List.length_map, List.getElem?_map, show ((-1 : Int) + (out.length : Int)).toNat = out.length - 1 by omega, ← List.getLast?_eq_getElem?, List.getLast?_eq_some_getLast h]; rfl
        · have e : out.getLast? = some v ↔ out.getLast h = v := by rw [List.getLast?_eq_some_getLast h]; simp
          wtm_at "m go"
          · rename_i h2
            rw [if_neg (fun h3 => h2 (e.mp h3)), List.map_append]
            wtm_at "m lp"
          · rename_i h2
            rw [if_pos (e.mpr (Decidable.not_not.mp h2))]
            wtm_at "m lp"
    · rintro lm os ⟨rfl, rfl⟩
      rw [List.take_length, show riseGo [] (srt ns) = rise ns from rfl]
      wtm_at "m go"
      intro v hv
      exact ⟨_, _, _, hv, ⟨o, rfl, rfl⟩, by wtm_at "m sel", by wtm_at "m suf"⟩

/-- little-endian octets -/
noncomputable def octet (n : Int) (k : Nat) : UInt8 := (n / 256 ^ k % 256).toNat.toUInt8
noncomputable def le (k : Nat) (n : Int) : List UInt8 := (List.range k).map (octet n)
theorem le_length (k : Nat) (n : Int) : (le k n).length = k := by simp [le]
theorem bitOr_disj {a b : Int} {k : Nat} (h0 : 0 ≤ a) (h1 : a < 2 ^ k) (hb : 0 ≤ b) : Builtin.bitOr a (b * 2 ^ k) = a + b * 2 ^ k := by
  rw [bitOr_and, bitAnd_comm, bitAnd_pp (Int.mul_nonneg hb (Int.le_of_lt (Int.pow_pos (by decide)))) h0]
  obtain ⟨x, rfl⟩ := Int.eq_ofNat_of_zero_le h0
  obtain ⟨y, rfl⟩ := Int.eq_ofNat_of_zero_le hb
  have hx : x < 2 ^ k := by exact_mod_cast h1
  have e : ((y : Int) * 2 ^ k).toNat = 2 ^ k * y := by
    have : ((y : Int) * 2 ^ k) = ((2 ^ k * y : Nat) : Int) := by push_cast; rw [Int.mul_comm]
    rw [this]; rfl
  rw [e, show ((x : Int)).toNat = x from rfl]
  have h2 := Nat.two_pow_add_eq_or_of_lt hx y
  have h3 := nat_or_add_and (2 ^ k * y) x
  have : 2 ^ k * y &&& x = 0 := by omega
  rw [this]; simp
theorem octet_val (n : Int) (k : Nat) : ((octet n k).toNat : Int) = n / 256 ^ k % 256 := by
  unfold octet
  have h1 : 0 ≤ n / 256 ^ k % 256 := Int.emod_nonneg _ (by decide)
  have h2 : n / 256 ^ k % 256 < 256 := Int.emod_lt_of_pos _ (by decide)
  generalize n / 256 ^ k % 256 = m at *
  obtain ⟨x, rfl⟩ := Int.eq_ofNat_of_zero_le h1
  have : x < 256 := by omega
  show ((Nat.toUInt8 x).toNat : Int) = x
  rw [show Nat.toUInt8 x = UInt8.ofNat x from rfl, UInt8.toNat_ofNat_of_lt' (by simpa using this)]

theorem fn_put32 {g : G} (hK : OnK g) {k : Nat} {n : Int} (h0 : 0 ≤ n) (h1 : n < 4294967296) : Fn g (k + 1) 113 [.int n] [] fun mv fp' => mv = .bytes (le 4 n) ∧ fp' = [] := by
  refine Fn.mk ["n"] [("n", .local), ("MAX_32", .globalImplicit), ("BadOption", .globalImplicit), ("bytes", .globalImplicit)] (by rw [hK]; rfl) (by rw [hK]; kernel_rfl) rfl rfl rfl rfl rfl rfl rfl ?_ rfl (by decide +kernel) (by decide +kernel) (by decide +kernel) (by kernel_rfl) (by decide +kernel) ?_
  · intro vs hvs
    obtain ⟨v, rfl⟩ := lst1 hvs
    with_unfolding_all rfl
  · intro X rest c room kn cells
    simp only [zipArgs, osApp]
    wtm_at "m go"
    rename_i l
    have e0 : Builtin.bitAnd n 255 = n % 256 := bitAnd_m8 n
    have e1 : Builtin.bitAnd (n / 2 ^ (8 : Int).toNat) 255 = n / 256 % 256 := bitAnd_m8 _
    have e2 : Builtin.bitAnd (n / 2 ^ (16 : Int).toNat) 255 = n / 65536 % 256 := bitAnd_m8 _
    have e3 : n / 2 ^ (24 : Int).toNat = n / 16777216 := rfl
    rw [e0, e1, e2, e3]
    refine CallV_bytes_l (ns := [n % 256, n / 256 % 256, n / 65536 % 256, n / 16777216]) (by exact List.mem_cons_self) ?_ (by simp) ?_
    · intro m hm
      simp only [List.mem_cons, List.not_mem_nil, or_false] at hm
      rcases hm with rfl | rfl | rfl | rfl <;> omega
    · have e : ([n % 256, n / 256 % 256, n / 65536 % 256, n / 16777216].map fun n : Int => n.toNat.toUInt8) = le 4 n := by
        show _ = [octet n 0, octet n 1, octet n 2, octet n 3]
        unfold octet
        simp only [List.map_cons, List.map_nil]
        have : n / 16777216 = n / 256 ^ 3 % 256 := by omega
        rw [this]
        simp
      rw [e]
      intro v hv
      exact ⟨_, _, _, hv, ⟨rfl, rfl⟩, by wtm_at "m sel", by wtm_at "m suf"⟩

theorem octet_lo (n : Int) (k : Nat) (hk : k < 4) : octet (n % 4294967296) k = octet n k := by
  unfold octet
  congr 2
  match k, hk with
  | 0, _ => omega
  | 1, _ => omega
  | 2, _ => omega
  | 3, _ => omega
theorem octet_hi (n : Int) (k : Nat) (hk : k < 4) : octet (n / 4294967296) k = octet n (k + 4) := by
  unfold octet
  rw [Int.ediv_ediv_of_nonneg (by decide), Int.pow_add, Int.mul_comm (256 ^ k)]
  rfl
theorem le_add (n : Int) : le 4 (n % 4294967296) ++ le 4 (n / 4294967296) = le 8 n := by
  show [octet _ 0, octet _ 1, octet _ 2, octet _ 3] ++ [octet _ 0, octet _ 1, octet _ 2, octet _ 3] = [octet n 0, octet n 1, octet n 2, octet n 3, octet n 4, octet n 5, octet n 6, octet n 7]
  simp only [octet_lo n 0 (by decide), octet_lo n 1 (by decide), octet_lo n 2 (by decide), octet_lo n 3 (by decide), octet_hi n 0 (by decide), octet_hi n 1 (by decide), octet_hi n 2 (by decide), octet_hi n 3 (by decide), List.cons_append, List.nil_append]
theorem fn_put64 {g : G} (hK : OnK g) {k : Nat} {n : Int} (h0 : 0 ≤ n) (h1 : n < 18446744073709551616) : Fn g (k + 2) 120 [.int n] [] fun mv fp' => mv = .bytes (le 8 n) ∧ fp' = [] := by
  refine Fn.mk ["n"] [("n", .local), ("MAX_64", .globalImplicit), ("BadOption", .globalImplicit), ("put_fixed32", .globalImplicit), ("MAX_32", .globalImplicit)] (by rw [hK]; rfl) (by rw [hK]; kernel_rfl) rfl rfl rfl rfl rfl rfl rfl ?_ rfl (by decide +kernel) (by decide +kernel) (by decide +kernel) (by kernel_rfl) (by decide +kernel) ?_
  · intro vs hvs
    obtain ⟨v, rfl⟩ := lst1 hvs
    with_unfolding_all rfl
  · intro X rest c room kn cells
    simp only [zipArgs, osApp]
    wtm_at "m go"
    rw [show Builtin.bitAnd n 4294967295 = n % 4294967296 from bitAnd_m32 n]
    refine CfnE (fn_put32 hK (k := k) (by omega) (by omega)) room .nil (by wtm_at "m app") ?_
    wtm_at "m go"
    rw [show n / 2 ^ (32 : Int).toNat = n / 4294967296 from rfl]
    refine CfnE (fn_put32 hK (k := k) (by omega) (by omega)) room .nil (by wtm_at "m app") ?_
    wtm_at "m go"
    · rw [le_length, le_length]; decide
    · rw [le_add n]
      intro v hv
      exact ⟨_, _, _, hv, ⟨rfl, rfl⟩, by wtm_at "m sel", by wtm_at "m suf"⟩

noncomputable def rdv (b : List UInt8) (i : Nat) : Int := ((b.getD i 0).toNat : Int)
theorem rdv_range (b : List UInt8) (i : Nat) : 0 ≤ rdv b i ∧ rdv b i < 256 := by
  unfold rdv
  have := (b.getD i 0).toNat_lt
  omega
theorem dig_lt (u : UInt8) : (u.toNat : Int).natAbs < 2 ^ 64 := by have := u.toNat_lt; omega
noncomputable def w32 (b : List UInt8) (i : Nat) : Int := rdv b i + rdv b (i + 1) * 256 + rdv b (i + 2) * 65536 + rdv b (i + 3) * 16777216
theorem w32_range (b : List UInt8) (i : Nat) : 0 ≤ w32 b i ∧ w32 b i < 4294967296 := by
  unfold w32
  have h0 := rdv_range b i; have h1 := rdv_range b (i + 1); have h2 := rdv_range b (i + 2); have h3 := rdv_range b (i + 3)
  omega
noncomputable def w64 (b : List UInt8) : Int := w32 b 0 + w32 b 4 * 4294967296
theorem fn_read32 {g : G} (hK : OnK g) {k : Nat} {b : List UInt8} {i : Nat} (h1 : i + 4 ≤ b.length) (hl : b.length ≤ 1000000) : Fn g (k + 1) 127 [.bytes b, .int i] [] fun mv fp' => mv = .int (w32 b i) ∧ fp' = [] := by
  refine Fn.mk ["data", "at"] [("data", .local), ("at", .local), ("len", .globalImplicit), ("ShortOctets", .globalImplicit)] (by rw [hK]; rfl) (by rw [hK]; kernel_rfl) rfl rfl rfl rfl rfl rfl rfl ?_ rfl (by decide +kernel) (by decide +kernel) (by decide +kernel) (by kernel_rfl) (by decide +kernel) ?_
  · intro vs hvs
    obtain ⟨v, u, rfl⟩ := lst2 hvs
    with_unfolding_all rfl
  · intro X rest c room kn cells
    simp only [zipArgs, osApp]
    wtm_at "m go"
    iterate 3 (· exact dig_lt _)
    have e : Builtin.bitOr (Builtin.bitOr (Builtin.bitOr ((b.getD ((i : Nat) : Int).toNat 0).toNat : Int) (((b.getD ((i : Int) + 1).toNat 0).toNat : Int) * 2 ^ (8 : Int).toNat)) (((b.getD ((i : Int) + 2).toNat 0).toNat : Int) * 2 ^ (16 : Int).toNat)) (((b.getD ((i : Int) + 3).toNat 0).toNat : Int) * 2 ^ (24 : Int).toNat) = w32 b i := by
      have r0 := rdv_range b i; have r1 := rdv_range b (i + 1); have r2 := rdv_range b (i + 2); have r3 := rdv_range b (i + 3)
      unfold w32
      rw [show ((i : Nat) : Int).toNat = i from rfl, show ((i : Int) + 1).toNat = i + 1 by omega, show ((i : Int) + 2).toNat = i + 2 by omega, show ((i : Int) + 3).toNat = i + 3 by omega]
      change Builtin.bitOr (Builtin.bitOr (Builtin.bitOr (rdv b i) (rdv b (i + 1) * 2 ^ 8)) (rdv b (i + 2) * 2 ^ 16)) (rdv b (i + 3) * 2 ^ 24) = _
      rw [bitOr_disj r0.1 (by omega) r1.1, bitOr_disj (by omega) (by omega) r2.1, bitOr_disj (by omega) (by omega) r3.1]
      omega
    rw [e]
    intro v hv
    exact ⟨_, _, _, hv, ⟨rfl, rfl⟩, by wtm_at "m sel", by wtm_at "m suf"⟩
theorem fn_read64 {g : G} (hK : OnK g) {k : Nat} {b : List UInt8} (h1 : 8 ≤ b.length) (hl : b.length ≤ 1000000) : Fn g (k + 2) 134 [.bytes b, .int 0] [] fun mv fp' => mv = .int (w64 b) ∧ fp' = [] := by
  refine Fn.mk ["data", "at"] [("data", .local), ("at", .local), ("len", .globalImplicit), ("ShortOctets", .globalImplicit), ("read_fixed32", .globalImplicit)] (by rw [hK]; rfl) (by rw [hK]; kernel_rfl) rfl rfl rfl rfl rfl rfl rfl ?_ rfl (by decide +kernel) (by decide +kernel) (by decide +kernel) (by kernel_rfl) (by decide +kernel) ?_
  · intro vs hvs
    obtain ⟨v, u, rfl⟩ := lst2 hvs
    with_unfolding_all rfl
  · intro X rest c room kn cells
    simp only [zipArgs, osApp]
    wtm_at "m go"
    refine CfnE (fn_read32 hK (k := k) (i := 0) (by omega) hl) room .nil (by wtm_at "m app") ?_
    wtm_at "m go"
    refine CfnE (fn_read32 hK (k := k) (i := 4) (by omega) hl) room .nil (by wtm_at "m app") ?_
    wtm_at "m go"
    · have := w32_range b 4; omega
    rw [bitOr_disj (k := (32 : Int).toNat) (w32_range b 0).1 (w32_range b 0).2 (w32_range b 4).1]
    intro v hv
    exact ⟨_, _, _, hv, ⟨rfl, rfl⟩, by wtm_at "m sel", by wtm_at "m suf"⟩

local macro_rules | `(tactic| wtm_at "m side") => `(tactic| first | with_reducible assumption | omega | (simp only [List.length_append, List.length_cons, List.length_nil, List.length_map]; omega) | (simp only [List.length_append, List.length_cons, List.length_nil, List.length_map, le_length] <;> omega))
theorem fn_eight {g : G} (hK : OnK g) {k : Nat} {n : Int} : Fn g (k + 1) 424 [.int n] [] fun mv fp' => mv = .bytes (le 8 n) ∧ fp' = [] := by
  refine Fn.mk ["n"] [("n", .cell), ("bytes", .globalImplicit), ("range", .globalImplicit)] (by rw [hK]; rfl) (by rw [hK]; kernel_rfl) rfl rfl rfl rfl rfl rfl rfl ?_ rfl (by decide +kernel) (by decide +kernel) (by decide +kernel) (by kernel_rfl) (by decide +kernel) ?_
  · intro vs hvs
    obtain ⟨v, rfl⟩ := lst1 hvs
    with_unfolding_all rfl
  · intro X rest c room kn cells
    simp only [zipArgs, osApp]
    wtm_at "m go"
    refine Ev_comp (cl := [("n", c)]) (CompOk.of kn cells rfl (by decide +kernel)) [("n", .int n)] ?_ (fun _ => rfl)
    wtm_at "m go"
    refine CompGo_rng (fun k => some (.int (n / 256 ^ k % 256))) (by wtm_at "m pick") (by decide) (by decide) (by decide) (by wtm_at "m wk") rfl ?_ ?_
    · intro Y hA hn hc i hi
      replace hn : Kn Y.env [(".0", .local), ("k", .local), ("n", .cell)] := hn
      have hi : i < 8 := hi
      have hp : (0 : Int) < 256 ^ ((0 : Int) + i).toNat := Int.pow_pos (by decide)
      have hq : (256 : Int) ^ ((0 : Int) + i).toNat < 2 ^ 100 := by
        rw [show ((0 : Int) + i).toNat = i by omega]
        match i, hi with
        | 0, _ => decide
        | 1, _ => decide
        | 2, _ => decide
        | 3, _ => decide
        | 4, _ => decide
        | 5, _ => decide
        | 6, _ => decide
        | 7, _ => decide
      wtm_at "m go"
      rw [show ((0 : Int) + i).toNat = i by omega]
      wtm_at "m ce"
    · intro D
      have e : (List.range (8 - 0 : Int).toNat).filterMap (fun k => some (MV.int (n / 256 ^ k % 256))) = ((List.range 8).map fun k => n / 256 ^ k % 256).map MV.int := by
        rw [List.map_map]; rfl
      rw [e]
      wtm_at "m go"
      refine CallV_bytes_l (by wtm_at "m mem") ?_ (by simp) ?_
      · intro m hm
        obtain ⟨k, _, rfl⟩ := List.mem_map.mp hm
        exact ⟨Int.emod_nonneg _ (by decide), Int.emod_lt_of_pos _ (by decide)⟩
      · rw [List.map_map]
        intro v hv
        exact ⟨_, _, _, hv, ⟨rfl, rfl⟩, by wtm_at "m sel", by wtm_at "m suf"⟩

local macro_rules | `(tactic| wtm_at "m fn") => `(tactic| with_reducible refine Cfn0 (fn_eight (k := 0) (by assumption)) (Room.le (by assumption) (by first | decide | exact Nat.add_le_add_left (by decide) _ | omega)) ?_)
theorem fm_int {n : Nat} {h : Nat → Option Int} : (List.range n).filterMap (fun k => (h k).map MV.int) = ((List.range n).filterMap h).map MV.int := by rw [List.map_filterMap]
theorem fm_some {α : Type} {f : Nat → α} : ∀ {l : List Nat}, (l.filterMap fun k => some (f k)) = l.map f
  | [] => rfl
  | x :: l => by rw [List.filterMap_cons, List.map_cons, ← fm_some]
theorem fn_back {g : G} (hK : OnK g) {k : Nat} {b : List UInt8} (hl : b.length ≤ 1000) : Fn g (k + 1) 429 [.bytes b] [] fun mv fp' => ∃ r, r.length = b.length ∧ mv = .bytes r ∧ fp' = [] := by
  refine Fn.mk ["octets"] [("octets", .cell), ("bytes", .globalImplicit), ("range", .globalImplicit), ("len", .globalImplicit)] (by rw [hK]; rfl) (by rw [hK]; kernel_rfl) rfl rfl rfl rfl rfl rfl rfl ?_ rfl (by decide +kernel) (by decide +kernel) (by decide +kernel) (by kernel_rfl) (by decide +kernel) ?_
  · intro vs hvs
    obtain ⟨v, rfl⟩ := lst1 hvs
    with_unfolding_all rfl
  · intro X rest c room kn cells
    simp only [zipArgs, osApp]
    wtm_at "m go"
    refine Ev_comp (cl := [("octets", c)]) (CompOk.of kn cells rfl (by decide +kernel)) [("octets", .bytes b)] ?_ (fun _ => rfl)
    wtm_at "m go"
    refine CompGo_rng (fun k => (some (((b.getD (b.length - 1 - (0 + (k : Int))).toNat 0).toNat : Int))).map MV.int) (by wtm_at "m pick") (by decide) (by omega) (by omega) (by wtm_at "m wk") rfl ?_ ?_
    · intro Y hA hn hc i hi
      replace hn : Kn Y.env [(".0", .local), ("k", .local), ("octets", .cell), ("len", .globalImplicit)] := by
        intro x kd hx
        refine hn x kd ?_
        simp only [List.mem_cons, List.not_mem_nil, or_false] at hx
        rcases hx with h | h | h | h <;> (cases h; decide +kernel)
      wtm_at "m go"
      wtm_at "m ce"
    · intro D
      rw [fm_int]
      wtm_at "m go"
      refine CallV_bytes_l (by wtm_at "m mem") ?_ ?_ ?_
      · intro m hm
        obtain ⟨k, _, e⟩ := List.mem_filterMap.mp hm
        cases e
        have := (b.getD (b.length - 1 - (0 + (k : Int))).toNat 0).toNat_lt
        omega
      · refine Nat.le_trans (List.length_filterMap_le _ _) ?_
        rw [List.length_range]; omega
      · intro v hv
        refine ⟨_, _, _, hv, ⟨_, ?_, rfl, rfl⟩, by wtm_at "m sel", by wtm_at "m suf"⟩
        rw [List.length_map, fm_some, List.length_map, List.length_range]; omega
noncomputable def idsOf (d : Int) : List Int := (List.range 5).filterMap fun k : Nat => if d / 2 ^ k % 2 = 1 then some (1 + (k : Int)) else none
theorem ids_eq {d : Int} : (List.range ((6 : Int) - 1).toNat).filterMap (fun k : Nat => (if d / 2 ^ k % 2 = 1 then some (1 + (k : Int)) else none).map MV.int) = (idsOf d).map MV.int := fm_int
theorem fn_ids {g : G} (hK : OnK g) {k : Nat} {d : Int} : Fn g (k + 1) 434 [.int d] [] fun mv fp' => ∃ o, mv = .ref o ∧ fp' = [(o, .lst ((idsOf d).map .int))] := by
  refine Fn.mk ["drawn"] [("drawn", .cell), ("range", .globalImplicit)] (by rw [hK]; rfl) (by rw [hK]; kernel_rfl) rfl rfl rfl rfl rfl rfl rfl ?_ rfl (by decide +kernel) (by decide +kernel) (by decide +kernel) (by kernel_rfl) (by decide +kernel) ?_
  · intro vs hvs
    obtain ⟨v, rfl⟩ := lst1 hvs
    with_unfolding_all rfl
  · intro X rest c room kn cells
    simp only [zipArgs, osApp]
    wtm_at "m go"
    refine Ev_comp (cl := [("drawn", c)]) (CompOk.of kn cells rfl (by decide +kernel)) [("drawn", .int d)] ?_ (fun _ => rfl)
    wtm_at "m go"
    refine CompGo_rng (fun k => (if d / 2 ^ k % 2 = 1 then some (1 + (k : Int)) else none).map MV.int) (by wtm_at "m pick") (by decide) (by decide) (by decide) (by wtm_at "m wk") rfl ?_ ?_
    · intro Y hA hn hc i hi
      replace hn : Kn Y.env [(".0", .local), ("j", .local), ("drawn", .cell)] := hn
      have hi : i < 5 := hi
      have hp : (0 : Int) < 2 ^ ((1 : Int) + i - 1).toNat := Int.pow_pos (by decide)
      have hq : (2 : Int) ^ ((1 : Int) + i - 1).toNat < 2 ^ 100 := by
        rw [show ((1 : Int) + i - 1).toNat = i by omega]
        match i, hi with
        | 0, _ => decide
        | 1, _ => decide
        | 2, _ => decide
        | 3, _ => decide
        | 4, _ => decide
      wtm_at "m go"
      · rename_i h
        rw [show ((1 : Int) + i - 1).toNat = i by omega] at h
        rw [if_pos h]
        wtm_at "m ce"
      · rename_i h
        rw [show ((1 : Int) + i - 1).toNat = i by omega] at h
        rw [if_neg h]
        wtm_at "m ce"
    · intro D
      rw [ids_eq]
      wtm_at "m go"
      intro v hv
      exact ⟨_, _, _, hv, ⟨_, rfl, rfl⟩, by wtm_at "m sel", by wtm_at "m suf"⟩
noncomputable def nearOf (vals : List Int) (now span : Int) : List Int := (List.range 5).filterMap fun k : Nat => if 0 ≤ vals.getD (k + 1) 0 ∧ now - vals.getD (k + 1) 0 + 2 ≤ span then some (1 + (k : Int)) else none
theorem near_eq {vals : List Int} {now span : Int} : (List.range ((6 : Int) - 1).toNat).filterMap (fun k : Nat => (if 0 ≤ vals.getD (k + 1) 0 ∧ now - vals.getD (k + 1) 0 + 2 ≤ span then some (1 + (k : Int)) else none).map MV.int) = (nearOf vals now span).map MV.int := fm_int
theorem fn_near {g : G} (hK : OnK g) {k : Nat} {a : Addr} {vals : List Int} {now span : Int} (hv : vals.length = 6) : Fn g (k + 1) 449 [.ref a, .int now, .int span] [(a, .lsi (vals.map .int))] fun mv fp' => ∃ o, mv = .ref o ∧ fp' = [(o, .lst ((nearOf vals now span).map .int)), (a, .lsi (vals.map .int))] := by
  refine Fn.mk ["newest", "now", "span"] [("newest", .cell), ("now", .cell), ("span", .cell), ("range", .globalImplicit)] (by rw [hK]; rfl) (by rw [hK]; kernel_rfl) rfl rfl rfl rfl rfl rfl rfl ?_ rfl (by decide +kernel) (by decide +kernel) (by decide +kernel) (by kernel_rfl) (by decide +kernel) ?_
  · intro vs hvs
    obtain ⟨v, u, w, rfl⟩ := lst3 hvs
    with_unfolding_all rfl
  · intro X rest c room kn cells
    simp only [zipArgs, osApp]
    wtm_at "m go"
    refine Ev_comp (cl := [("span", c + 1 + 1), ("now", c + 1), ("newest", c)]) (CompOk.of kn cells (by kernel_rfl) (by decide +kernel)) [("newest", .ref a), ("now", .int now), ("span", .int span)] ?_ (fun _ => rfl)
    wtm_at "m go"
    refine CompGo_rng (fun k => (if 0 ≤ vals.getD (k + 1) 0 ∧ now - vals.getD (k + 1) 0 + 2 ≤ span then some (1 + (k : Int)) else none).map MV.int) (by wtm_at "m pick") (by decide) (by decide) (by decide) (by wtm_at "m wk") rfl ?_ ?_
    · intro Y hA hn hc i hi
      replace hn : Kn Y.env [(".0", .local), ("j", .local), ("newest", .cell), ("now", .cell), ("span", .cell)] := by
        intro x kd hx
        refine hn x kd ?_
        simp only [List.mem_cons, List.not_mem_nil, or_false] at hx
        rcases hx with h | h | h | h | h <;> (cases h; decide +kernel)
      have hi : i < 5 := hi
      have hx : (vals.map MV.int)[((1 : Int) + i).toNat]? = some (.int (vals.getD (i + 1) 0)) := by
        rw [show ((1 : Int) + i).toNat = i + 1 by omega, List.getElem?_map, List.getD_eq_getElem?_getD, List.getElem?_eq_getElem (by omega)]; rfl
      wtm_at "m go"
      refine Sub_list (by wtm_at "m mem") .lsi (by omega) (by omega) hx ?_ (fun _ _ => ⟨_, rfl⟩)
      wtm_at "m go"
      · refine Sub_list (by wtm_at "m mem") .lsi (by omega) (by omega) hx ?_ (fun _ _ => ⟨_, rfl⟩)
        wtm_at "m go"
        · rename_i h1 h2
          rw [if_pos ⟨h1, h2⟩]
          wtm_at "m ce"
        · rename_i h1 h2
          rw [if_neg fun h => h2 h.2]
          wtm_at "m ce"
      · rename_i h1
        rw [if_neg fun h => h1 h.1]
        wtm_at "m ce"
    · intro D
      rw [near_eq]
      wtm_at "m go"
      intro v hv
      exact ⟨_, _, _, hv, ⟨_, rfl, rfl⟩, by wtm_at "m sel", by wtm_at "m suf"⟩

/-- more than half of each half -/
noncomputable def winOf (who : List Int) (half : List Int) : Bool := decide ((half.length : Int) < 2 * ((half.filter fun j => decide (j ∈ who)).length : Int))
theorem filt_len (who half : List Int) : ((List.range half.length).filterMap fun i => (if (half.getD i 0) ∈ who then some (half.getD i 0) else none)).length = (half.filter fun j => decide (j ∈ who)).length := by
  have : ∀ (l : List Int) (n : Nat), ((List.range' n l.length).filterMap fun i => (if (l.getD (i - n) 0) ∈ who then some (l.getD (i - n) 0) else none)).length = (l.filter fun j => decide (j ∈ who)).length := by
    intro l
    induction l with
    | nil => intro n; rfl
    | cons x r ih =>
      intro n
      have e : (List.range' (n + 1) r.length).filterMap (fun i => (if ((x :: r).getD (i - n) 0) ∈ who then some ((x :: r).getD (i - n) 0) else none)) = (List.range' (n + 1) r.length).filterMap (fun i => (if (r.getD (i - (n + 1)) 0) ∈ who then some (r.getD (i - (n + 1)) 0) else none)) := by
        have cg : ∀ {L : List Nat}, (∀ i ∈ L, n + 1 ≤ i) → L.filterMap (fun i => (if ((x :: r).getD (i - n) 0) ∈ who then some ((x :: r).getD (i - n) 0) else none)) = L.filterMap (fun i => (if (r.getD (i - (n + 1)) 0) ∈ who then some (r.getD (i - (n + 1)) 0) else none)) := by
          intro L
          induction L with
          | nil => intro _; rfl
          | cons y L ihL =>
            intro hL
            have hy := hL y (.head _)
            rw [List.filterMap_cons, List.filterMap_cons, ihL fun i hi => hL i (.tail _ hi), show y - n = (y - (n + 1)) + 1 by omega, List.getD_cons_succ]
        exact cg fun i hi => (List.mem_range'_1.mp hi).1
      rw [List.length_cons, List.range'_succ, List.filterMap_cons, e, List.filter_cons]
      have ih := ih (n + 1)
      simp only [Nat.sub_self, List.getD_cons_zero]
      by_cases h : x ∈ who
      · simp only [h, if_true, decide_true, List.length_cons, ih]
      · simp only [h, if_false, decide_false, Bool.false_eq_true, ih]
  rw [List.range_eq_range']
  exact this half 0
theorem fn_wins {g : G} (hK : OnK g) {k : Nat} {h a b w : Addr} {A B who : List Int} {two : Bool} (hA : A.length ≤ 10) (hB : B.length ≤ 10) (hW : who.length ≤ 100) :
    Fn g (k + 1) 439 [.ref h, .ref w] [(h, .lst (if two = true then [.ref a, .ref b] else [.ref a])), (a, .lst (A.map .int)), (b, .lst (B.map .int)), (w, .lst (who.map .int))]
      fun mv fp' => mv = .bool (winOf who A && (!two || winOf who B)) ∧ fp' = [(h, .lst (if two = true then [.ref a, .ref b] else [.ref a])), (a, .lst (A.map .int)), (b, .lst (B.map .int)), (w, .lst (who.map .int))] := by
  refine Fn.mk ["halves", "who"] [("halves", .local), ("who", .cell), ("all", .globalImplicit)] (by rw [hK]; rfl) (by rw [hK]; kernel_rfl) rfl rfl rfl rfl rfl rfl rfl ?_ rfl (by decide +kernel) (by decide +kernel) (by decide +kernel) (by kernel_rfl) (by decide +kernel) ?_
  · intro vs hvs
    obtain ⟨v, u, rfl⟩ := lst2 hvs
    with_unfolding_all rfl
  · intro X rest c room kn cells
    simp only [zipArgs, osApp]
    wtm_at "m go"
    refine Ev_comp (cl := [("who", c)]) (CompOk.of kn cells rfl (by decide +kernel)) [("who", .ref w)] ?_ (fun _ => rfl)
    wtm_at "m go"
    refine CompGo_fm (fun i => if i = 0 then some (.bool (winOf who A)) else some (.bool (winOf who B))) (by wtm_at "m pick") .lst (fun _ _ e => by cases e) (by split <;> exact Nat.le_of_lt (by simp)) (by wtm_at "m wk") rfl ?_ ?_
    · intro Y hA' hn hc i mv hx
      replace hn : Kn Y.env [(".0", .local), ("half", .local), ("len", .globalImplicit), ("who", .cell)] := by
        intro x kd hx
        refine hn x kd ?_
        simp only [List.mem_cons, List.not_mem_nil, or_false] at hx
        rcases hx with h | h | h | h <;> (cases h; decide +kernel)
      obtain ⟨q, H, os₁, hmv, hH, hpk, hwk, hw, hAB⟩ : ∃ q H os₁, mv = .ref q ∧ H.length ≤ 10 ∧ Pick (q, MO.lst (H.map MV.int)) ((a, .lst (A.map .int)) :: (b, .lst (B.map .int)) :: (w, .lst (who.map .int)) :: rest : Os) os₁ ∧
          Wkn ((q, MO.lst (H.map MV.int)) :: os₁) ((a, .lst (A.map .int)) :: (b, .lst (B.map .int)) :: (w, .lst (who.map .int)) :: rest : Os) ∧ (w, MO.lst (who.map .int)) ∈ os₁ ∧ (if i = 0 then some (MV.bool (winOf who A)) else some (.bool (winOf who B))) = some (.bool (winOf who H)) := by
        match i, hx with
        | 0, hx =>
          have : mv = .ref a := by cases two <;> (cases hx; rfl)
          exact ⟨a, A, _, this, hA, .head, by wtm_at "m wk", by wtm_at "m mem", by rw [if_pos rfl]⟩
        | 1, hx =>
          have : mv = .ref b := by cases two <;> (cases hx; try rfl)
          exact ⟨b, B, _, this, hB, .tail .head, by wtm_at "m wk", by wtm_at "m mem", by rw [if_neg (by decide)]⟩
        | i + 2, hx => cases two <;> cases hx
      subst hmv
      wtm_at "m go"
      refine Ev_comp (cl := [("who", c)]) (CompOk.of hn hc rfl (by decide +kernel)) [("who", .ref w)] ?_ (fun _ => rfl)
      wtm_at "m go"
      refine CompGo_ints (ns := H) (fun i => (if H.getD i 0 ∈ who then some (H.getD i 0) else none).map MV.int) hpk (by omega) (by wtm_at "m wk") rfl ?_ ?_
      · intro Y2 hA2 hn2 hc2 j v hv
        replace hn2 : Kn Y2.env [(".0", .local), ("j", .local), ("who", .cell)] := hn2
        have e : H.getD j 0 = v := by rw [List.getD_eq_getElem?_getD, hv]; rfl
        rw [e]
        wtm_at "m go"
        refine Cmp_in_list hw ?_
        wtm_at "m go"
        · rename_i h1
          rw [if_pos h1]
          wtm_at "m ce"
        · rename_i h1
          rw [if_neg h1]
          wtm_at "m ce"
      · intro D
        rw [fm_int]
        have hle : ((List.range H.length).filterMap fun i => (if H.getD i 0 ∈ who then some (H.getD i 0) else none)).length ≤ 10 := by
          refine Nat.le_trans (List.length_filterMap_le _ _) ?_
          rw [List.length_range]; exact hH
        wtm_at "m go"
        refine ⟨?_, by wtm_at "m wk", ?_⟩
        · rw [hAB]
          unfold winOf
          rw [List.length_map, List.length_map, filt_len]
        · exact Wkn.trans (by wtm_at "m wk") hwk
    · intro D
      have e : (List.range (if two = true then [MV.ref a, .ref b] else [.ref a]).length).filterMap (fun i => if i = 0 then some (MV.bool (winOf who A)) else some (.bool (winOf who B))) = (if two = true then [winOf who A, winOf who B] else [winOf who A]).map MV.bool := by cases two <;> rfl
      rw [e]
      wtm_at "m go"
      refine CallV_all (by wtm_at "m mem") ?_
      intro v hv
      refine ⟨_, _, _, hv, ⟨?_, rfl⟩, by wtm_at "m sel", by wtm_at "m suf"⟩
      cases two <;> simp

theorem fn_draw {g : G} (hK : OnK g) {k : Nat} {a : Addr} {ns : List Int} {i : Int} (h0 : 0 < ns.length) (h1 : ns.length ≤ 1000) (hr : ∀ n ∈ ns, 0 ≤ n ∧ n < 1000000) (hi : 0 ≤ i ∧ i < 1000) :
    Fn g (k + 1) 419 [.ref a, .int i] [(a, .lst (ns.map .int))] fun mv fp' => ∃ v : Int, 0 ≤ v ∧ v < 100000000 ∧ mv = .int v ∧ fp' = [(a, .lst (ns.map .int))] := by
  refine Fn.mk ["nums", "i"] [("nums", .local), ("i", .local), ("len", .globalImplicit)] (by rw [hK]; rfl) (by rw [hK]; kernel_rfl) rfl rfl rfl rfl rfl rfl rfl ?_ rfl (by decide +kernel) (by decide +kernel) (by decide +kernel) (by kernel_rfl) (by decide +kernel) ?_
  · intro vs hvs
    obtain ⟨v, u, rfl⟩ := lst2 hvs
    with_unfolding_all rfl
  · intro X rest c room kn cells
    simp only [zipArgs, osApp]
    wtm_at "m go"
    rw [List.length_map]
    have hlt : (i % (ns.length : Int)).toNat < ns.length := by
      have := Int.emod_lt_of_pos i (show (0 : Int) < ns.length by omega)
      have := Int.emod_nonneg i (show (ns.length : Int) ≠ 0 by omega)
      omega
    refine Sub_list (mv := .int (ns.getD (i % (ns.length : Int)).toNat 0)) (by wtm_at "m mem") .lst (Int.emod_nonneg _ (by omega)) ?_ ?_ ?_ (fun _ _ => ⟨_, rfl⟩)
    · have := Int.emod_lt_of_pos i (show (0 : Int) < ns.length by omega)
      omega
    · rw [List.getElem?_map, List.getD_eq_getElem?_getD, List.getElem?_eq_getElem hlt]; rfl
    · wtm_at "m go"
      all_goals (try rw [List.length_map])
      have e : ns.getD (i % (ns.length : Int)).toNat 0 ∈ ns := by
        rw [List.getD_eq_getElem?_getD, List.getElem?_eq_getElem hlt]; exact List.getElem_mem _
      have hb := hr _ e
      have hd0 : 0 ≤ i / (ns.length : Int) := Int.ediv_nonneg hi.1 (by omega)
      have hd1 : i / (ns.length : Int) ≤ i := Int.ediv_le_self _ hi.1
      generalize ns.getD (i % (ns.length : Int)).toNat 0 = u at *
      generalize i / (ns.length : Int) = d at *
      intro v hv
      exact ⟨_, _, _, hv, ⟨_, by omega, by omega, rfl, rfl⟩, by wtm_at "m sel", by wtm_at "m suf"⟩
theorem fn_strange {g : G} (hK : OnK g) {k : Nat} {y now born count : Int} (hy : 0 ≤ y) (hc : 0 < count) (hc2 : count < 1000) (hb : 0 ≤ born) (hn : 0 ≤ now) (hn2 : now < 1000000) (hb2 : born < 10000000000) :
    Fn g (k + 2) 444 [.int y, .int now, .int born, .int count] [] fun mv fp' => ∃ r : List UInt8, r.length ≤ 200 ∧ mv = .bytes r ∧ fp' = [] := by
  refine Fn.mk ["y", "now", "born", "count"] [("y", .cell), ("now", .local), ("born", .local), ("count", .local), ("d", .local), ("name", .local), ("old", .local), ("_law_eight", .globalImplicit), ("max", .globalImplicit), ("bytes", .globalImplicit), ("range", .globalImplicit), ("_law_back", .globalImplicit)] (by rw [hK]; rfl) (by rw [hK]; kernel_rfl) rfl rfl rfl rfl rfl rfl rfl ?_ rfl (by decide +kernel) (by decide +kernel) (by decide +kernel) (by kernel_rfl) (by decide +kernel) ?_
  · intro vs hvs
    obtain ⟨a, b, c, d, rfl⟩ := lst4 hvs
    with_unfolding_all rfl
  · intro X rest c room kn cells
    simp only [zipArgs, osApp]
    wtm_at "m go"
    · refine Ev_comp (cl := [("y", c)]) (CompOk.of kn cells rfl (by decide +kernel)) [("y", .int y)] ?_ (fun _ => rfl)
      wtm_at "m go"
      have hd0 : 0 ≤ y / 11 % 21 := Int.emod_nonneg _ (by decide)
      have hd1 : y / 11 % 21 < 21 := Int.emod_lt_of_pos _ (by decide)
      refine CompGo_rng (fun k => (some ((y / 7 + 29 * (0 + (k : Int)) * (0 + (k : Int))) % 256)).map MV.int) (by wtm_at "m pick") (by decide) (by omega) (by omega) (by wtm_at "m wk") rfl ?_ ?_
      · intro Y hA hn hc i hi
        replace hn : Kn Y.env [(".0", .local), ("i", .local), ("y", .cell)] := hn
        have hi : (i : Int) < 21 := by omega
        wtm_at "m go"
        wtm_at "m ce"
      · intro D
        rw [fm_int]
        wtm_at "m go"
        refine CallV_bytes_l (by wtm_at "m mem") ?_ ?_ ?_
        · intro m hm
          obtain ⟨k, _, e⟩ := List.mem_filterMap.mp hm
          cases e
          exact ⟨Int.emod_nonneg _ (by decide), Int.emod_lt_of_pos _ (by decide)⟩
        · refine Nat.le_trans (List.length_filterMap_le _ _) ?_
          rw [List.length_range]; omega
        · intro v hv
          refine ⟨_, _, _, hv, ⟨_, ?_, rfl, rfl⟩, by wtm_at "m sel", by wtm_at "m suf"⟩
          rw [List.length_map]
          refine Nat.le_trans (List.length_filterMap_le _ _) ?_
          rw [List.length_range]; omega
    · intro v hv
      exact ⟨_, _, _, hv, ⟨_, by simp only [List.length_append, le_length] <;> omega, rfl, rfl⟩, by wtm_at "m sel", by wtm_at "m suf"⟩
    · intro v hv
      exact ⟨_, _, _, hv, ⟨_, by simp only [List.length_append, le_length] <;> omega, rfl, rfl⟩, by wtm_at "m sel", by wtm_at "m suf"⟩
    · refine Ev_slb ?_ (fun _ _ => rfl) (fun _ _ _ => rfl)
      wtm_at "m go"
      intro v hv
      exact ⟨_, _, _, hv, ⟨_, Nat.le_trans (sliced_len _ _ _) (by simp only [List.length_append, le_length] <;> omega), rfl, rfl⟩, by wtm_at "m sel", by wtm_at "m suf"⟩
    · intro v hv
      exact ⟨_, _, _, hv, ⟨_, by simp only [List.length_append, le_length] <;> omega, rfl, rfl⟩, by wtm_at "m sel", by wtm_at "m suf"⟩
    · refine CallV_bytes_n (by omega) (by omega) ?_
      wtm_at "m go"
      · simp only [List.length_append, le_length, List.length_replicate]; omega
      · intro v hv
        exact ⟨_, _, _, hv, ⟨_, by simp only [List.length_append, le_length, List.length_replicate]; omega, rfl, rfl⟩, by wtm_at "m sel", by wtm_at "m suf"⟩
    · refine Ev_slb ?_ (fun _ _ => rfl) (fun _ _ _ => rfl)
      wtm_at "m go"
      · have := sliced_len (le 8 (born + count - y / 99 % count)) none (some 4)
        simp only [le_length] at this ⊢; omega
      · intro v hv
        have := sliced_len (le 8 (born + count - y / 99 % count)) none (some 4)
        exact ⟨_, _, _, hv, ⟨_, by simp only [List.length_append, le_length] at this ⊢; omega, rfl, rfl⟩, by wtm_at "m sel", by wtm_at "m suf"⟩
    · refine Cfn (fn_back hK (k := k) (by rw [le_length]; decide)) room .nil ?_
      rintro _ _ ⟨r, hr, rfl, rfl⟩
      rw [le_length] at hr
      simp only [osApp]
      wtm_at "m go"
      intro v hv
      exact ⟨_, _, _, hv, ⟨_, by simp only [List.length_append, le_length, hr] <;> omega, rfl, rfl⟩, by wtm_at "m sel", by wtm_at "m suf"⟩
    · refine Cfn (fn_back hK (k := k) (by rw [le_length]; decide)) room .nil ?_
      rintro _ _ ⟨r, hr, rfl, rfl⟩
      rw [le_length] at hr
      simp only [osApp]
      wtm_at "m go"
      intro v hv
      exact ⟨_, _, _, hv, ⟨_, by simp only [List.length_append, le_length, hr] <;> omega, rfl, rfl⟩, by wtm_at "m sel", by wtm_at "m suf"⟩
    · intro v hv
      exact ⟨_, _, _, hv, ⟨_, by simp only [List.length_append, le_length] <;> omega, rfl, rfl⟩, by wtm_at "m sel", by wtm_at "m suf"⟩
    · refine Ev_slb ?_ (fun _ _ => rfl) (fun _ _ _ => rfl)
      wtm_at "m go"
      · have := sliced_len (le 8 (born + count - y / 99 % count)) none (some 7)
        simp only [le_length] at this ⊢; omega
      · refine CallV_bytes_l (ns := [1 + y / 11 % 9]) (by exact List.mem_cons_self) ?_ (by simp) ?_
        · intro m hm
          rw [List.mem_singleton] at hm
          omega
        · have := sliced_len (le 8 (born + count - y / 99 % count)) none (some 7)
          wtm_at "m go"
          · simp only [List.length_append, List.length_map, List.length_cons, List.length_nil, le_length] at this ⊢; omega
          · intro v hv
            exact ⟨_, _, _, hv, ⟨_, by simp only [List.length_append, List.length_map, List.length_cons, List.length_nil, le_length] at this ⊢; omega, rfl, rfl⟩, by wtm_at "m sel", by wtm_at "m suf"⟩

noncomputable abbrev leaseNs (span clock : Int) (hd : Addr) : List (Str × MV) := [("given_up", .bool false), ("heard", .ref hd), ("clock", .int clock), ("span", .int span)]
theorem fn_lease_init {g : G} (hK : OnK g) {k : Nat} {x d : Addr} {span : Int} : Fn g (k + 1) 314 [.ref x, .int span] [(x, .ins 352 d), (d, .ns [])] fun mv fp' => mv = .none ∧ ∃ hd, fp' = [(x, .ins 352 d), (d, .ns (leaseNs span 0 hd)), (hd, .dici [])] := by
  refine Fn.mk ["self", "span"] [("self", .local), ("span", .local)] (by rw [hK]; rfl) (by rw [hK]; kernel_rfl) rfl rfl rfl rfl rfl rfl rfl ?_ rfl (by decide +kernel) (by decide +kernel) (by decide +kernel) (by kernel_rfl) (by decide +kernel) ?_
  · intro vs hvs
    obtain ⟨v, u, rfl⟩ := lst2 hvs
    with_unfolding_all rfl
  · intro X rest c room kn cells
    simp only [zipArgs, osApp]
    wtm_at "m go"
    exact ⟨.none, _, _, rfl, ⟨rfl, _, rfl⟩, by wtm_at "m sel", by wtm_at "m suf"⟩
theorem fn_tick {g : G} (hK : OnK g) {k : Nat} {x d hd : Addr} {span clock : Int} : Fn g (k + 1) 321 [.ref x] [(x, .ins 352 d), (d, .ns (leaseNs span clock hd))] fun mv fp' => mv = .none ∧ fp' = [(x, .ins 352 d), (d, .ns (leaseNs span (clock + 1) hd))] := by
  refine Fn.mk ["self"] [("self", .local)] (by rw [hK]; rfl) (by rw [hK]; kernel_rfl) rfl rfl rfl rfl rfl rfl rfl ?_ rfl (by decide +kernel) (by decide +kernel) (by decide +kernel) (by kernel_rfl) (by decide +kernel) ?_
  · intro vs hvs
    obtain ⟨v, rfl⟩ := lst1 hvs
    with_unfolding_all rfl
  · intro X rest c room kn cells
    simp only [zipArgs, osApp]
    wtm_at "m go"
    exact ⟨.none, _, _, rfl, ⟨rfl, rfl⟩, by wtm_at "m sel", by wtm_at "m suf"⟩
theorem fn_stamp {g : G} (hK : OnK g) {k : Nat} {x d hd : Addr} {span clock : Int} (h0 : 0 ≤ clock) (h1 : clock < 1000000000) : Fn g (k + 3) 328 [.ref x] [(x, .ins 352 d), (d, .ns (leaseNs span clock hd))] fun mv fp' => mv = .bytes (le 8 clock) ∧ fp' = [(x, .ins 352 d), (d, .ns (leaseNs span clock hd))] := by
  refine Fn.mk ["self"] [("self", .local), ("put_fixed64", .globalImplicit)] (by rw [hK]; rfl) (by rw [hK]; kernel_rfl) rfl rfl rfl rfl rfl rfl rfl ?_ rfl (by decide +kernel) (by decide +kernel) (by decide +kernel) (by kernel_rfl) (by decide +kernel) ?_
  · intro vs hvs
    obtain ⟨v, rfl⟩ := lst1 hvs
    with_unfolding_all rfl
  · intro X rest c room kn cells
    simp only [zipArgs, osApp]
    wtm_at "m go"
    refine Cfn0 (fn_put64 hK (k := k) h0 (by omega)) room ?_
    intro v hv
    exact ⟨_, _, _, hv, ⟨rfl, rfl⟩, by wtm_at "m sel", by wtm_at "m suf"⟩
noncomputable abbrev dicI (H : List (Int × Int)) : MO := .dici (H.map fun p => (p.1, .int p.2))
noncomputable def getI (H : List (Int × Int)) (k : Int) : Option Int := (H.find? fun e => decide (e.1 = k)).map (·.2)
noncomputable def putI (H : List (Int × Int)) (k v : Int) : List (Int × Int) := if H.any (fun e => decide (e.1 = k)) then H.map fun e => if e.1 = k then (e.1, v) else e else H ++ [(k, v)]
theorem getM_I {H : List (Int × Int)} {k : Int} : getM (H.map fun p => (p.1, MV.int p.2)) k = (getI H k).map MV.int := by
  unfold getM getI
  induction H with
  | nil => rfl
  | cons a r ih =>
    rw [List.map_cons, List.find?_cons, List.find?_cons]
    dsimp only
    by_cases h : a.1 = k
    · simp [h]
    · simpa [h] using ih
theorem putM_I {H : List (Int × Int)} {k v : Int} : putM (H.map fun p => (p.1, MV.int p.2)) k (.int v) = (putI H k v).map fun p => (p.1, MV.int p.2) := by
  unfold putM putI
  rw [List.any_map]
  show (if (H.any fun e => decide (e.1 = k)) = true then _ else _) = _
  split
  · rw [List.map_map, List.map_map]
    refine List.map_congr_left fun e _ => ?_
    show (if e.1 = k then (e.1, MV.int v) else (e.1, MV.int e.2)) = _
    by_cases h : e.1 = k <;> simp [h]
  · rw [List.map_append]; rfl
/-- what hearing does -/
noncomputable def hearI (H : List (Int × Int)) (clock frm sent : Int) : List (Int × Int) := if sent ≤ clock ∧ (getI H frm).getD (-1) < sent then putI H frm sent else H
theorem fn_hear {g : G} (hK : OnK g) {k : Nat} {x d hd : Addr} {span clock frm : Int} {b : List UInt8} {H : List (Int × Int)} (hl : b.length ≤ 1000) (hH : H.length ≤ 1000) :
    Fn g (k + 3) 335 [.ref x, .int frm, .bytes b] [(x, .ins 352 d), (d, .ns (leaseNs span clock hd)), (hd, dicI H)] fun mv fp' => mv = .bytes (if b.length < 8 then [] else b.drop 8) ∧
      fp' = [(x, .ins 352 d), (d, .ns (leaseNs span clock hd)), (hd, dicI (if b.length < 8 then H else hearI H clock frm (w64 b)))] := by
  refine Fn.mk ["self", "frm", "context"] [("self", .local), ("frm", .local), ("context", .local), ("sent", .local), ("len", .globalImplicit), ("read_fixed64", .globalImplicit)] (by rw [hK]; rfl) (by rw [hK]; kernel_rfl) rfl rfl rfl rfl rfl rfl rfl ?_ rfl (by decide +kernel) (by decide +kernel) (by decide +kernel) (by kernel_rfl) (by decide +kernel) ?_
  · intro vs hvs
    obtain ⟨v, u, w, rfl⟩ := lst3 hvs
    with_unfolding_all rfl
  · intro X rest c room kn cells
    simp only [zipArgs, osApp]
    wtm_at "m go"
    · intro v hv
      rename_i h
      have h : b.length < 8 := by omega
      rw [if_pos h, if_pos h]
      exact ⟨_, _, _, hv, ⟨rfl, rfl⟩, by wtm_at "m sel", by wtm_at "m suf"⟩
    · rename_i h
      have h : ¬ b.length < 8 := by omega
      rw [if_neg h, if_neg h]
      have hs : sliced b (some 8) none = b.drop 8 := by
        unfold sliced
        have : clipAt b.length 8 = 8 := by unfold clipAt; simp; omega
        simp only [Option.elim, this]
        rw [List.take_of_length_le (by rw [List.length_drop]; omega)]
      refine Cfn0 (fn_read64 hK (k := k) (by omega) (by omega)) room ?_
      wtm_at "m go"
      · refine CallV_get (by wtm_at "m mem") ?_
        rw [getM_I]
        have e : ((getI H frm).map MV.int).getD (.int (-1)) = .int ((getI H frm).getD (-1)) := by cases getI H frm <;> rfl
        rw [e]
        wtm_at "m go"
        · rename_i h1 h2
          refine SetI_dici' (by wtm_at "m mem") (by rw [List.length_map]; omega) (by wtm_at "m put") ?_
          rw [putM_I]
          wtm_at "m go"
          refine Ev_slb ?_ (fun _ _ => rfl) (fun _ _ _ => rfl)
          wtm_at "m go"
          rw [hs]
          intro v hv
          have e : hearI H clock frm (w64 b) = putI H frm (w64 b) := if_pos ⟨h1, h2⟩
          rw [e]
          exact ⟨_, _, _, hv, ⟨rfl, rfl⟩, by wtm_at "m sel", by wtm_at "m suf"⟩
        · rename_i h1 h2
          refine Ev_slb ?_ (fun _ _ => rfl) (fun _ _ _ => rfl)
          wtm_at "m go"
          rw [hs]
          intro v hv
          have e : hearI H clock frm (w64 b) = H := if_neg fun h => h2 h.2
          rw [e]
          exact ⟨_, _, _, hv, ⟨rfl, rfl⟩, by wtm_at "m sel", by wtm_at "m suf"⟩
      · rename_i h1
        refine Ev_slb ?_ (fun _ _ => rfl) (fun _ _ _ => rfl)
        wtm_at "m go"
        rw [hs]
        intro v hv
        have e : hearI H clock frm (w64 b) = H := if_neg fun h => h1 h.1
        rw [e]
        exact ⟨_, _, _, hv, ⟨rfl, rfl⟩, by wtm_at "m sel", by wtm_at "m suf"⟩

section
variable {g : G} {X : Cx g} {σ : St} {lm : Lm} {os : Os} {Q : VQ}
theorem notin_i0 {a : Addr} {es : List (Int × MV)} {k : Int} (h : getM es k = none) (hm : (a, MO.dici es) ∈ os) (q : Q (.bool true) ⟨lm, os⟩) : Cmp X .NotIn (.int k) (.ref a) ⟨lm, os⟩ Q := Cmp_notin_dici hm (by rw [h]; exact q)
theorem notin_i1 {a : Addr} {es : List (Int × MV)} {k : Int} {mv : MV} (h : getM es k = some mv) (hm : (a, MO.dici es) ∈ os) (q : Q (.bool false) ⟨lm, os⟩) : Cmp X .NotIn (.int k) (.ref a) ⟨lm, os⟩ Q := Cmp_notin_dici hm (by rw [h]; exact q)
theorem notin_b0 {a : Addr} {es : List (List UInt8 × MV)} {k : List UInt8} (h : getM es k = none) (hm : (a, MO.dicb es) ∈ os) (q : Q (.bool true) ⟨lm, os⟩) : Cmp X .NotIn (.bytes k) (.ref a) ⟨lm, os⟩ Q := Cmp_notin_dicb hm (by rw [h]; exact q)
theorem notin_b1 {a : Addr} {es : List (List UInt8 × MV)} {k : List UInt8} {mv : MV} (h : getM es k = some mv) (hm : (a, MO.dicb es) ∈ os) (q : Q (.bool false) ⟨lm, os⟩) : Cmp X .NotIn (.bytes k) (.ref a) ⟨lm, os⟩ Q := Cmp_notin_dicb hm (by rw [h]; exact q)
end

/-- a majority (of nobody: always) -/
noncomputable def majB (A : List Int) (f : Int → Bool) : Bool := decide (A = [] ∨ A.length / 2 + 1 ≤ (A.filter f).length)
theorem fn_majority {g : G} (hK : OnK g) {k : Nat} {a v : Addr} {A : List Int} {es : List (Int × MV)} {f : Int → Bool} (hA : A.length ≤ 100) (hf : ∀ j ∈ A, (getM es j = none ∧ f j = false) ∨ getM es j = some (.bool (f j))) :
    Fn g (k + 1) 181 [.ref a, .ref v] [(a, .lst (A.map .int)), (v, .dici es)] fun mv fp' => (∃ r : Int, mv = .int r ∧ (r = 1 ∨ r = 2 ∨ r = 3) ∧ (r = 3 ↔ majB A f = true)) ∧ fp' = [(a, .lst (A.map .int)), (v, .dici es)] := by
  refine Fn.mk ["ids", "votes"] [("ids", .local), ("votes", .local), ("granted", .local), ("missing", .local), ("nid", .local), ("need", .local), ("VOTE_WON", .globalImplicit), ("len", .globalImplicit), ("VOTE_PENDING", .globalImplicit), ("VOTE_LOST", .globalImplicit)] (by rw [hK]; rfl) (by rw [hK]; kernel_rfl) rfl rfl rfl rfl rfl rfl rfl ?_ rfl (by decide +kernel) (by decide +kernel) (by decide +kernel) (by kernel_rfl) (by decide +kernel) ?_
  · intro vs hvs
    obtain ⟨v, u, rfl⟩ := lst2 hvs
    with_unfolding_all rfl
  · intro X rest c room kn cells
    simp only [zipArgs, osApp]
    wtm_at "m go"
    · rename_i h
      have h : A = [] := by simpa using h
      intro v hv
      exact ⟨_, _, _, hv, ⟨⟨3, rfl, by decide, by simp [majB, h]⟩, rfl⟩, by wtm_at "m sel", by wtm_at "m suf"⟩
    · rename_i hne
      have hne : A ≠ [] := by simpa using hne
      have hcount : ∀ i (j : Int), A[i]? = some j → ((A.take (i + 1)).filter f).length = ((A.take i).filter f).length + (if f j = true then 1 else 0) := fun i j e => by
        rw [List.take_add_one, e, List.filter_append, List.length_append]
        by_cases h : f j = true <;> simp [h]
      refine ForGo_ints (fun i lm os => ∃ m : Int, 0 ≤ m ∧ lm = ([("missing", .int m), ("granted", .int ((A.take i).filter f).length), ("ids", .ref a), ("votes", .ref v)] : Lm) ∧ os = ((v, .dici es) :: rest : Os)) (by wtm_at "m pick") ?_ ?_ ?_
      · exact ⟨0, by decide, rfl, rfl⟩
      · rintro i j lm os fr hj ⟨m, hm, rfl, rfl⟩
        have hc := hcount i j hj
        have hmem : j ∈ A := List.mem_of_getElem? hj
        wtm_at "m go"
        rcases hf j hmem with ⟨h1, h2⟩ | h1
        · refine notin_i0 h1 (by wtm_at "m mem") ?_
          rw [h2] at hc
          simp only [Bool.false_eq_true, if_false, Nat.add_zero] at hc
          rw [hc]
          wtm_at "m go"
          exact ⟨_, _, Wq.wkn (by wtm_at "m wq"), Wq.wkn (by wtm_at "m wq"), m + 1, by omega, rfl, rfl⟩
        · refine notin_i1 h1 (by wtm_at "m mem") ?_
          wtm_at "m go"
          refine Sub_dici (by wtm_at "m mem") h1 ?_ (fun _ _ => ⟨_, rfl⟩)
          cases hfj : f j with
          | true =>
            rw [hfj] at hc
            simp only [if_true] at hc
            rw [hc]
            wtm_at "m go"
            exact ⟨_, _, Wq.wkn (by wtm_at "m wq"), Wq.wkn (by wtm_at "m wq"), m, hm, rfl, rfl⟩
          | false =>
            rw [hfj] at hc
            simp only [Bool.false_eq_true, if_false, Nat.add_zero] at hc
            rw [hc]
            wtm_at "m go"
            exact ⟨_, _, Wq.wkn (by wtm_at "m wq"), Wq.wkn (by wtm_at "m wq"), m, hm, rfl, rfl⟩
      · rintro lm os ⟨m, hm, rfl, rfl⟩
        rw [List.take_length]
        wtm_at "m go"
        all_goals (try rw [List.length_map] at *)
        · intro v hv
          exact ⟨_, _, _, hv, ⟨⟨3, rfl, by decide, fun _ => decide_eq_true (.inr (by omega)), fun _ => rfl⟩, rfl⟩, by wtm_at "m sel", by wtm_at "m suf"⟩
        · intro v hv
          exact ⟨_, _, _, hv, ⟨⟨1, rfl, by decide, fun h => absurd h (by decide), fun h => absurd (of_decide_eq_true h) fun h => by rcases h with h | h; exact hne h; omega⟩, rfl⟩, by wtm_at "m sel", by wtm_at "m suf"⟩
        · intro v hv
          exact ⟨_, _, _, hv, ⟨⟨2, rfl, by decide, fun h => absurd h (by decide), fun h => absurd (of_decide_eq_true h) fun h => by rcases h with h | h; exact hne h; omega⟩, rfl⟩, by wtm_at "m sel", by wtm_at "m suf"⟩
theorem fn_joint {g : G} (hK : OnK g) {k : Nat} {a b v : Addr} {A B : List Int} {es : List (Int × MV)} {f : Int → Bool} (hA : A.length ≤ 100) (hB : B.length ≤ 100) (hf : ∀ j, (getM es j = none ∧ f j = false) ∨ getM es j = some (.bool (f j))) :
    Fn g (k + 2) 188 [.ref a, .ref b, .ref v] [(a, .lst (A.map .int)), (b, .lst (B.map .int)), (v, .dici es)] fun mv fp' => (∃ r : Int, mv = .int r ∧ (r = 3 ↔ (majB A f && majB B f) = true)) ∧ fp' = [(a, .lst (A.map .int)), (b, .lst (B.map .int)), (v, .dici es)] := by
  refine Fn.mk ["a", "b", "votes"] [("a", .local), ("b", .local), ("votes", .local), ("left", .local), ("right", .local), ("majority_vote", .globalImplicit), ("VOTE_LOST", .globalImplicit), ("VOTE_PENDING", .globalImplicit)] (by rw [hK]; rfl) (by rw [hK]; kernel_rfl) rfl rfl rfl rfl rfl rfl rfl ?_ rfl (by decide +kernel) (by decide +kernel) (by decide +kernel) (by kernel_rfl) (by decide +kernel) ?_
  · intro vs hvs
    obtain ⟨v, u, w, rfl⟩ := lst3 hvs
    with_unfolding_all rfl
  · intro X rest c room kn cells
    simp only [zipArgs, osApp]
    wtm_at "m go"
    refine Cfn (fn_majority hK (k := k) (f := f) (A := A) (es := es) hA fun j _ => hf j) room (by wtm_at "m sel") ?_
    rintro _ _ ⟨⟨r1, rfl, h1, e1⟩, rfl⟩
    simp only [osApp]
    wtm_at "m go"
    refine Cfn (fn_majority hK (k := k) (f := f) (A := B) (es := es) hB fun j _ => hf j) room (by wtm_at "m sel") ?_
    rintro _ _ ⟨⟨r2, rfl, h2, e2⟩, rfl⟩
    simp only [osApp]
    rw [Bool.and_eq_true, ← e1, ← e2]
    wtm_at "m go"
    all_goals (intro v hv; exact ⟨_, _, _, hv, ⟨⟨_, rfl, by omega⟩, rfl⟩, by wtm_at "m sel", by wtm_at "m suf"⟩)
noncomputable abbrev confNs (a b c d : Addr) : List (Str × MV) := [("auto_leave", .bool false), ("learners_next", .ref d), ("learners", .ref c), ("outgoing", .ref b), ("voters", .ref a)]
theorem fn_conf_init {g : G} (hK : OnK g) {k : Nat} {x d a1 a2 a3 a4 : Addr} {V O : List Int} (hV : V.length < 64) (hO : O.length < 64) :
    Fn g (k + 2) 202 [.ref x, .ref a1, .ref a2, .ref a3, .ref a4, .bool false] [(x, .ins 268 d), (d, .ns []), (a1, .lst (V.map .int)), (a2, .lst (O.map .int)), (a3, .lst (([] : List Int).map .int)), (a4, .lst (([] : List Int).map .int))]
      fun mv fp' => mv = .none ∧ ∃ b1 b2 b3 b4, fp' = [(x, .ins 268 d), (d, .ns (confNs b1 b2 b3 b4)), (b1, .lst ((rise V).map .int)), (b2, .lst ((rise O).map .int)), (a1, .lst (V.map .int)), (a2, .lst (O.map .int))] := by
  refine Fn.mk ["self", "voters", "outgoing", "learners", "learners_next", "auto_leave"] [("self", .local), ("voters", .local), ("outgoing", .local), ("learners", .local), ("learners_next", .local), ("auto_leave", .local), ("rising", .globalImplicit)] (by rw [hK]; rfl) (by rw [hK]; kernel_rfl) rfl rfl rfl rfl rfl rfl rfl ?_ rfl (by decide +kernel) (by decide +kernel) (by decide +kernel) (by kernel_rfl) (by decide +kernel) ?_
  · intro vs hvs
    obtain ⟨a, b, c, d, e, f, rfl⟩ := lst6 hvs
    with_unfolding_all rfl
  · intro X rest c room kn cells
    simp only [zipArgs, osApp]
    wtm_at "m go"
    refine CfnE1 (fn_rising hK (n := k) hV) room (by wtm_at "m sel") ?_
    intro b1
    simp only [osApp]
    wtm_at "m go"
    refine CfnE1 (fn_rising hK (n := k) hO) room (by wtm_at "m sel") ?_
    intro b2
    simp only [osApp]
    wtm_at "m go"
    refine CfnE1 (fn_rising hK (n := k) (ns := []) (by decide)) room (by wtm_at "m sel") ?_
    intro b3
    simp only [osApp]
    wtm_at "m go"
    refine CfnE1 (fn_rising hK (n := k) (ns := []) (by decide)) room (by wtm_at "m sel") ?_
    intro b4
    simp only [osApp]
    wtm_at "m go"
    exact ⟨.none, _, _, rfl, ⟨rfl, _, _, _, _, rfl⟩, by wtm_at "m sel", by wtm_at "m suf"⟩
theorem fn_vote {g : G} (hK : OnK g) {k : Nat} {x d a b c' d' v : Addr} {A B : List Int} {es : List (Int × MV)} {f : Int → Bool} (hA : A.length ≤ 100) (hB : B.length ≤ 100) (hf : ∀ j, (getM es j = none ∧ f j = false) ∨ getM es j = some (.bool (f j))) :
    Fn g (k + 3) 251 [.ref x, .ref v] [(x, .ins 268 d), (d, .ns (confNs a b c' d')), (a, .lst (A.map .int)), (b, .lst (B.map .int)), (v, .dici es)]
      fun mv fp' => (∃ r : Int, mv = .int r ∧ (r = 3 ↔ (majB A f && majB B f) = true)) ∧ fp' = [(x, .ins 268 d), (d, .ns (confNs a b c' d')), (a, .lst (A.map .int)), (b, .lst (B.map .int)), (v, .dici es)] := by
  refine Fn.mk ["self", "votes"] [("self", .local), ("votes", .local), ("joint_vote", .globalImplicit)] (by rw [hK]; rfl) (by rw [hK]; kernel_rfl) rfl rfl rfl rfl rfl rfl rfl ?_ rfl (by decide +kernel) (by decide +kernel) (by decide +kernel) (by kernel_rfl) (by decide +kernel) ?_
  · intro vs hvs
    obtain ⟨v, u, rfl⟩ := lst2 hvs
    with_unfolding_all rfl
  · intro X rest c room kn cells
    simp only [zipArgs, osApp]
    wtm_at "m go"
    refine Cfn (fn_joint hK (k := k) (f := f) (A := A) (B := B) (es := es) hA hB hf) room (by wtm_at "m sel") ?_
    rintro _ _ ⟨⟨r1, rfl, e1⟩, rfl⟩
    simp only [osApp]
    wtm_at "m go"
    intro v hv
    exact ⟨_, _, _, hv, ⟨⟨_, rfl, e1⟩, rfl⟩, by wtm_at "m sel", by wtm_at "m suf"⟩

theorem map_same {κ : Type} [DecidableEq κ] {k : κ} {v : MV} : ∀ {r : List (κ × MV)}, ¬ r.any (fun e => decide (e.1 = k)) = true → r.map (fun e => if e.1 = k then (e.1, v) else e) = r
  | [], _ => rfl
  | a :: r, h => by
    rw [List.any_cons, Bool.or_eq_true, not_or] at h
    rw [List.map_cons, map_same h.2, if_neg (by simpa using h.1)]

theorem getM_putM {κ : Type} [DecidableEq κ] {es : List (κ × MV)} {k j : κ} {v : MV} : getM (putM es k v) j = if j = k then some v else getM es j := by
  unfold putM getM
  by_cases ha : es.any (fun e => decide (e.1 = k)) = true
  · rw [if_pos ha]
    induction es with
    | nil => simp at ha
    | cons a r ih =>
      rw [List.map_cons, List.find?_cons, List.find?_cons]
      by_cases hk : a.1 = k
      · rw [if_pos hk]
        by_cases hj : j = k
        · subst hj; simp [hk]
        · have h1 : ¬ a.1 = j := fun e => hj (e ▸ hk)
          simp only [decide_eq_false h1, if_neg hj]
          by_cases hr : r.any (fun e => decide (e.1 = k)) = true
          · rw [ih hr, if_neg hj]
          · rw [map_same hr]
      · rw [if_neg hk]
        by_cases hj : a.1 = j
        · have : ¬ j = k := fun e => hk (hj.trans e)
          simp [hj, this]
        · simp only [decide_eq_false hj]
          refine ih ?_
          rw [List.any_cons, decide_eq_false hk, Bool.false_or] at ha
          exact ha
  · rw [if_neg ha, List.find?_append]
    have ha' : ∀ e ∈ es, ¬ e.1 = k := fun e he h => ha (List.any_eq_true.mpr ⟨e, he, by simpa using h⟩)
    by_cases hj : j = k
    · subst hj
      have : es.find? (fun e => decide (e.1 = j)) = none := by
        rw [List.find?_eq_none]
        intro e he; simpa using ha' e he
      rw [this]; simp
    · rw [if_neg hj]
      cases e : es.find? (fun e => decide (e.1 = j)) with
      | some x => rfl
      | none => simp [Ne.symm hj]
theorem getM_map {F : Int → MV} {j : Int} : ∀ {ks : List Int}, getM (ks.map fun j => (j, F j)) j = if j ∈ ks then some (F j) else none
  | [] => rfl
  | a :: r => by
    have ih := getM_map (F := F) (j := j) (ks := r)
    unfold getM at ih ⊢
    rw [List.map_cons, List.find?_cons]
    by_cases h : a = j
    · subst h; simp
    · have h' : ¬ j = a := fun e => h e.symm
      simp only [decide_eq_false h, List.mem_cons, h', false_or]
      exact ih
theorem putM_new {F : Int → MV} {v : MV} {k : Int} {ks : List Int} (h : k ∉ ks) : putM (ks.map fun j => (j, F j)) k v = (ks.map fun j => (j, F j)) ++ [(k, v)] := by
  unfold putM
  rw [if_neg]
  intro ha
  rw [List.any_map, List.any_eq_true] at ha
  obtain ⟨j, hj, e⟩ := ha
  have : j = k := by simpa using e
  exact h (this ▸ hj)

noncomputable def nearB (H : List (Int × Int)) (clock span : Int) (j : Int) : Bool := match getI H j with
  | some s => decide (clock - s < span - 1)
  | none => false
noncomputable def holdF (H : List (Int × Int)) (clock span nid j : Int) : Bool := decide (j = nid) || nearB H clock span j
theorem getI_some {H : List (Int × Int)} {j : Int} (h : j ∈ H.map (·.1)) : ∃ s, getI H j = some s := by
  unfold getI
  cases e : H.find? (fun e => decide (e.1 = j)) with
  | some x => exact ⟨_, rfl⟩
  | none =>
    rw [List.find?_eq_none] at e
    obtain ⟨p, hp, rfl⟩ := List.mem_map.mp h
    exact absurd (e p hp) (by simp)
theorem getI_none {H : List (Int × Int)} {j : Int} (h : j ∉ H.map (·.1)) : getI H j = none := by
  unfold getI
  rw [List.find?_eq_none.mpr]; rfl
  intro p hp; simp only [decide_eq_true_eq]; intro e
  exact h (List.mem_map.mpr ⟨p, hp, e⟩)
theorem srt_perm (l : List Int) : (srt l).Perm l := List.mergeSort_perm _ _
theorem fn_holds {g : G} (hK : OnK g) {k : Nat} {x d hd cf cd a b c' d' : Addr} {span clock nid : Int} {H : List (Int × Int)} {A B : List Int} (hH : H.length < 64) (hn : (H.map (·.1)).Nodup) (hA : A.length ≤ 100) (hB : B.length ≤ 100) :
    Fn g (k + 4) 349 [.ref x, .ref cf, .int nid] [(x, .ins 352 d), (d, .ns (leaseNs span clock hd)), (hd, dicI H), (cf, .ins 268 cd), (cd, .ns (confNs a b c' d')), (a, .lst (A.map .int)), (b, .lst (B.map .int))]
      fun mv fp' => mv = .bool (majB A (holdF H clock span nid) && majB B (holdF H clock span nid)) ∧ fp' = [(x, .ins 352 d), (d, .ns (leaseNs span clock hd)), (hd, dicI H), (cf, .ins 268 cd), (cd, .ns (confNs a b c' d')), (a, .lst (A.map .int)), (b, .lst (B.map .int))] := by
  refine Fn.mk ["self", "config", "nid"] [("self", .local), ("config", .local), ("nid", .local), ("near", .local), ("other", .local), ("sorted", .globalImplicit), ("VOTE_WON", .globalImplicit)] (by rw [hK]; rfl) (by rw [hK]; kernel_rfl) rfl rfl rfl rfl rfl rfl rfl ?_ rfl (by decide +kernel) (by decide +kernel) (by decide +kernel) (by kernel_rfl) (by decide +kernel) ?_
  · intro vs hvs
    obtain ⟨v, u, w, rfl⟩ := lst3 hvs
    with_unfolding_all rfl
  · intro X rest c room kn cells
    simp only [zipArgs, osApp]
    wtm_at "m go"
    rename_i nr so
    have ek : (H.map fun p => (p.1, MV.int p.2)).map (·.1) = H.map (·.1) := by rw [List.map_map]; rfl
    rw [ek]
    have hks := (srt_perm (H.map (·.1)))
    generalize hks' : srt (H.map (·.1)) = ks at *
    have knd : ks.Nodup := hks.nodup_iff.mpr hn
    refine ForGo_ints (ns := ks) (fun i lm os => lm = ([("near", .ref nr), ("self", .ref x), ("config", .ref cf), ("nid", .int nid)] : Lm) ∧ os = ((nr, .dici ((ks.take i).map fun j => (j, .bool (nearB H clock span j)))) :: (x, .ins 352 d) :: (d, .ns (leaseNs span clock hd)) :: (hd, dicI H) :: (cf, .ins 268 cd) :: (cd, .ns (confNs a b c' d')) :: (a, .lst (A.map .int)) :: (b, .lst (B.map .int)) :: rest : Os)) (by wtm_at "m pick") ?_ ?_ ?_
    · exact ⟨rfl, rfl⟩
    · rintro i j lm os fr hj ⟨rfl, rfl⟩
      have hjm : j ∈ H.map (·.1) := hks.mem_iff.mp (List.mem_of_getElem? hj)
      obtain ⟨s, hs⟩ := getI_some hjm
      have hnb : nearB H clock span j = decide (clock - s < span - 1) := by unfold nearB; rw [hs]
      have hni : j ∉ ks.take i := fun h => by
        obtain ⟨m, hm, e⟩ := List.mem_iff_getElem.mp h
        rw [List.getElem_take] at e
        have h1 := List.getElem?_eq_some_iff.mp hj
        obtain ⟨hi, e2⟩ := h1
        have := (List.getElem_inj knd).mp (e.trans e2.symm)
        rw [List.length_take] at hm
        omega
      wtm_at "m go"
      refine Sub_dici (mv := .int s) (by wtm_at "m mem") (by rw [getM_I, hs]; rfl) ?_ (fun _ _ => ⟨_, rfl⟩)
      wtm_at "m go"
      refine SetI_dici' (by wtm_at "m mem") ?_ (by wtm_at "m put") ?_
      · rw [List.length_map, List.length_take]
        have := hks.length_eq
        rw [List.length_map] at this
        omega
      · rw [putM_new hni, ← hnb, show ((ks.take i).map fun j => (j, MV.bool (nearB H clock span j))) ++ [(j, MV.bool (nearB H clock span j))] = (ks.take (i + 1)).map fun j => (j, MV.bool (nearB H clock span j)) by rw [List.take_add_one, hj, List.map_append]; rfl]
        wtm_at "m go"
        wtm_at "m lp"
    · rintro lm os ⟨rfl, rfl⟩
      rw [List.take_length]
      wtm_at "m go"
      refine SetI_dici' (by wtm_at "m mem") ?_ (by wtm_at "m put") ?_
      · rw [List.length_map]
        have := hks.length_eq
        rw [List.length_map] at this
        omega
      · have hf : ∀ j, (getM (putM (ks.map fun j => (j, MV.bool (nearB H clock span j))) nid (.bool true)) j = none ∧ holdF H clock span nid j = false) ∨ getM (putM (ks.map fun j => (j, MV.bool (nearB H clock span j))) nid (.bool true)) j = some (.bool (holdF H clock span nid j)) := fun j => by
          rw [getM_putM, getM_map]
          unfold holdF
          by_cases h1 : j = nid
          · right; simp [h1]
          · rw [if_neg h1, decide_eq_false h1, Bool.false_or]
            by_cases h2 : j ∈ ks
            · right; rw [if_pos h2]
            · left
              refine ⟨if_neg h2, ?_⟩
              unfold nearB
              rw [getI_none fun h => h2 (hks.mem_iff.mpr h)]
        generalize putM (ks.map fun j => (j, MV.bool (nearB H clock span j))) nid (.bool true) = es at *
        wtm_at "m go"
        refine Cfn (fn_vote hK (k := k) (A := A) (B := B) (es := es) hA hB hf) room (by wtm_at "m sel") ?_
        rintro _ _ ⟨⟨r1, rfl, e1⟩, rfl⟩
        simp only [osApp]
        wtm_at "m go"
        intro v hv
        have : decide (r1 = 3) = (majB A (holdF H clock span nid) && majB B (holdF H clock span nid)) := by rw [Bool.eq_iff_iff, decide_eq_true_iff]; exact e1
        rw [this] at hv
        exact ⟨_, _, _, hv, ⟨rfl, rfl⟩, by wtm_at "m sel", by wtm_at "m suf"⟩

noncomputable abbrev msgNs (kind to frm term : Int) (e : Addr) (ctx : List UInt8) : List (Str × MV) := [("context", .bytes ctx), ("reject_hint", .int 0), ("reject", .bool false), ("snapshot", .none), ("commit", .int 0), ("entries", .ref e), ("index", .int 0), ("log_term", .int 0), ("term", .int term), ("frm", .int frm), ("to", .int to), ("kind", .int kind)]
theorem fn_msg_init {g : G} (hK : OnK g) {k : Nat} {x d : Addr} {kind to frm term : Int} : Fn g (k + 1) 155 [.ref x, .int kind, .int to, .int frm, .int term] [(x, .ins 170 d), (d, .ns [])] fun mv fp' => mv = .none ∧ ∃ e, fp' = [(x, .ins 170 d), (d, .ns (msgNs kind to frm term e [])), (e, .lst [])] := by
  refine Fn.mk ["self", "kind", "to", "frm", "term"] [("self", .local), ("kind", .local), ("to", .local), ("frm", .local), ("term", .local)] (by rw [hK]; rfl) (by rw [hK]; kernel_rfl) rfl rfl rfl rfl rfl rfl rfl ?_ rfl (by decide +kernel) (by decide +kernel) (by decide +kernel) (by kernel_rfl) (by decide +kernel) ?_
  · intro vs hvs
    obtain ⟨v, u, w, y, z, rfl⟩ := lst5 hvs
    with_unfolding_all rfl
  · intro X rest c room kn cells
    simp only [zipArgs, osApp]
    wtm_at "m go"
    exact ⟨.none, _, _, rfl, ⟨rfl, _, rfl⟩, by wtm_at "m sel", by wtm_at "m suf"⟩
noncomputable abbrev rowTup (kind to frm term : Int) (et : Addr) (ctx : List UInt8) : MO := .tup [.int kind, .int to, .int frm, .int term, .int 0, .int 0, .ref et, .int 0, .none, .bool false, .int 0, .bytes ctx]
theorem fn_msg_row {g : G} (hK : OnK g) {k : Nat} {x d e : Addr} {kind to frm term : Int} {ctx : List UInt8} : Fn g (k + 1) 160 [.ref x] [(x, .ins 170 d), (d, .ns (msgNs kind to frm term e ctx)), (e, .lst [])] fun mv fp' => ∃ t et, mv = .ref t ∧ fp' = [(t, rowTup kind to frm term et ctx), (et, .tup []), (x, .ins 170 d), (d, .ns (msgNs kind to frm term e ctx)), (e, .lst [])] := by
  refine Fn.mk ["self"] [("self", .local), ("entries", .local), ("snapshot", .local), ("tuple", .globalImplicit)] (by rw [hK]; rfl) (by rw [hK]; kernel_rfl) rfl rfl rfl rfl rfl rfl rfl ?_ rfl (by decide +kernel) (by decide +kernel) (by decide +kernel) (by kernel_rfl) (by decide +kernel) ?_
  · intro vs hvs
    obtain ⟨v, rfl⟩ := lst1 hvs
    with_unfolding_all rfl
  · intro X rest c room kn cells
    simp only [zipArgs, osApp]
    wtm_at "m go"
    refine Ev_comp (cl := []) (CompOk.of kn cells rfl (by decide +kernel)) [] ?_ (fun _ => rfl)
    wtm_at "m go"
    refine CompGo_fm (fun _ => none) (by wtm_at "m pick") .lst (fun _ _ e => by cases e) (by simp) (by wtm_at "m wk") rfl (fun Y hA hn hc i mv hx => by cases hx) ?_
    intro D
    wtm_at "m go"
    refine CallV_tuple' (by wtm_at "m mem") .lst (by simp) (fun et => ?_)
    wtm_at "m go"
    refine Cmp_isnot_none rfl ?_
    wtm_at "m go"
    intro v hv
    exact ⟨_, _, _, hv, ⟨_, _, rfl, rfl⟩, by wtm_at "m sel", by wtm_at "m suf"⟩
theorem fn_read_context {g : G} (hK : OnK g) {k : Nat} {x d e : Addr} {kind to frm term : Int} {ctx : List UInt8} : Fn g (k + 1) 279 [.ref x] [(x, .ins 170 d), (d, .ns (msgNs kind to frm term e ctx)), (e, .lst [])] fun mv fp' => mv = .bytes ctx ∧ fp' = [(x, .ins 170 d), (d, .ns (msgNs kind to frm term e ctx)), (e, .lst [])] := by
  refine Fn.mk ["message"] [("message", .local), ("len", .globalImplicit)] (by rw [hK]; rfl) (by rw [hK]; kernel_rfl) rfl rfl rfl rfl rfl rfl rfl ?_ rfl (by decide +kernel) (by decide +kernel) (by decide +kernel) (by kernel_rfl) (by decide +kernel) ?_
  · intro vs hvs
    obtain ⟨v, rfl⟩ := lst1 hvs
    with_unfolding_all rfl
  · intro X rest c room kn cells
    simp only [zipArgs, osApp]
    wtm_at "m go"
    all_goals (try (rename_i h; exfalso; revert h; decide))
    intro v hv
    exact ⟨_, _, _, hv, ⟨rfl, rfl⟩, by wtm_at "m sel", by wtm_at "m suf"⟩
noncomputable abbrev statNs (index : Int) (m acks : Addr) : List (Str × MV) := [("acks", .ref acks), ("message", .ref m), ("index", .int index)]
theorem fn_stat_init {g : G} (hK : OnK g) {k : Nat} {x d m : Addr} {index : Int} : Fn g (k + 1) 293 [.ref x, .int index, .ref m] [(x, .ins 296 d), (d, .ns [])] fun mv fp' => mv = .none ∧ ∃ ac, fp' = [(x, .ins 296 d), (d, .ns (statNs index m ac)), (ac, .dici [])] := by
  refine Fn.mk ["self", "index", "message"] [("self", .local), ("index", .local), ("message", .local)] (by rw [hK]; rfl) (by rw [hK]; kernel_rfl) rfl rfl rfl rfl rfl rfl rfl ?_ rfl (by decide +kernel) (by decide +kernel) (by decide +kernel) (by kernel_rfl) (by decide +kernel) ?_
  · intro vs hvs
    obtain ⟨v, u, w, rfl⟩ := lst3 hvs
    with_unfolding_all rfl
  · intro X rest c room kn cells
    simp only [zipArgs, osApp]
    wtm_at "m go"
    exact ⟨.none, _, _, rfl, ⟨rfl, _, rfl⟩, by wtm_at "m sel", by wtm_at "m suf"⟩
noncomputable abbrev roNs (option serial : Int) (pd q : Addr) : List (Str × MV) := [("queue", .ref q), ("pending", .ref pd), ("serial", .int serial), ("option", .int option)]
theorem fn_ro_init {g : G} (hK : OnK g) {k : Nat} {x d : Addr} {option : Int} : Fn g (k + 1) 370 [.ref x, .int option] [(x, .ins 408 d), (d, .ns [])] fun mv fp' => mv = .none ∧ ∃ pd q, fp' = [(x, .ins 408 d), (d, .ns (roNs option 0 pd q)), (pd, .dicb []), (q, .lst [])] := by
  refine Fn.mk ["self", "option"] [("self", .local), ("option", .local)] (by rw [hK]; rfl) (by rw [hK]; kernel_rfl) rfl rfl rfl rfl rfl rfl rfl ?_ rfl (by decide +kernel) (by decide +kernel) (by decide +kernel) (by kernel_rfl) (by decide +kernel) ?_
  · intro vs hvs
    obtain ⟨v, u, rfl⟩ := lst2 hvs
    with_unfolding_all rfl
  · intro X rest c room kn cells
    simp only [zipArgs, osApp]
    wtm_at "m go1"
    refine Ev_dict_b' (fun _ => ?_)
    wtm_at "m go"
    exact ⟨.none, _, _, rfl, ⟨rfl, _, _, rfl⟩, by wtm_at "m sel", by wtm_at "m suf"⟩
theorem fn_last {g : G} (hK : OnK g) {k : Nat} {x d pd q : Addr} {option serial : Int} {ns : List (List UInt8)} (hl : ns.length ≤ 1000) : Fn g (k + 1) 398 [.ref x] [(x, .ins 408 d), (d, .ns (roNs option serial pd q)), (q, .lst (ns.map .bytes))] fun mv fp' => mv = .bytes (ns.getLast?.getD []) ∧ fp' = [(x, .ins 408 d), (d, .ns (roNs option serial pd q)), (q, .lst (ns.map .bytes))] := by
  refine Fn.mk ["self"] [("self", .local), ("len", .globalImplicit)] (by rw [hK]; rfl) (by rw [hK]; kernel_rfl) rfl rfl rfl rfl rfl rfl rfl ?_ rfl (by decide +kernel) (by decide +kernel) (by decide +kernel) (by kernel_rfl) (by decide +kernel) ?_
  · intro vs hvs
    obtain ⟨v, rfl⟩ := lst1 hvs
    with_unfolding_all rfl
  · intro X rest c room kn cells
    simp only [zipArgs, osApp]
    wtm_at "m go"
    · intro v hv
      rename_i h
      have : ns = [] := by
        cases ns with
        | nil => rfl
        | cons a r => simp at h; omega
      subst this
      exact ⟨_, _, _, hv, ⟨rfl, rfl⟩, by wtm_at "m sel", by wtm_at "m suf"⟩
    · rename_i h
      have hne : ns ≠ [] := by rintro rfl; exact h rfl
      have hpos : 0 < ns.length := List.length_pos_iff.mpr hne
      refine Sub_list_neg (mv := .bytes (ns.getLast hne)) (by wtm_at "m mem") .lst (by decide) (by decide) (by simp; omega) ?_ ?_ (fun _ _ => ⟨_, rfl⟩)
      · rw [List.length_map, List.getElem?_map, show ((-1 : Int) + (ns.length : Int)).toNat = ns.length - 1 by omega, ← List.getLast?_eq_getElem?, List.getLast?_eq_some_getLast hne]; rfl
      · intro v hv
        rw [List.getLast?_eq_some_getLast hne]
        exact ⟨_, _, _, hv, ⟨rfl, rfl⟩, by wtm_at "m sel", by wtm_at "m suf"⟩

theorem fn_add {g : G} (hK : OnK g) {k : Nat} {x d pd q m : Addr} {option serial index : Int} {es : List (List UInt8 × MV)} {xs : List MV} (h0 : 0 ≤ serial) (h1 : serial < 10000000000) (hes : es.length ≤ 1000) (hxs : xs.length ≤ 1000) :
    Fn g (k + 3) 377 [.ref x, .int index, .ref m] [(x, .ins 408 d), (d, .ns (roNs option serial pd q)), (pd, .dicb es), (q, .lst xs)]
      fun mv fp' => mv = .bytes (le 8 (serial + 1)) ∧ ∃ st sd ac, fp' = [(x, .ins 408 d), (d, .ns (roNs option (serial + 1) pd q)), (pd, .dicb (putM es (le 8 (serial + 1)) (.ref st))), (q, .lst (xs ++ [.bytes (le 8 (serial + 1))])), (st, .ins 296 sd), (sd, .ns (statNs index m ac)), (ac, .dici [])] := by
  refine Fn.mk ["self", "index", "message"] [("self", .local), ("index", .local), ("message", .local), ("name", .local), ("put_fixed64", .globalImplicit), ("ReadStatus", .globalImplicit)] (by rw [hK]; rfl) (by rw [hK]; kernel_rfl) rfl rfl rfl rfl rfl rfl rfl ?_ rfl (by decide +kernel) (by decide +kernel) (by decide +kernel) (by kernel_rfl) (by decide +kernel) ?_
  · intro vs hvs
    obtain ⟨v, u, w, rfl⟩ := lst3 hvs
    with_unfolding_all rfl
  · intro X rest c room kn cells
    simp only [zipArgs, osApp]
    wtm_at "m go"
    refine Cfn0 (fn_put64 hK (k := k) (by omega) (by omega)) room ?_
    wtm_at "m go"
    refine Ccls (cls_ReadStatus hK) (fun x d => fn_stat_init hK (k := k) (x := x) (d := d) (m := m) (index := index)) room .nil ?_
    rintro st sd _ ⟨ac, rfl⟩
    simp only [osApp]
    wtm_at "m go"
    refine SetI_dicb' (by wtm_at "m mem") (by omega) (by wtm_at "m put") ?_
    wtm_at "m go"
    intro v hv
    exact ⟨_, _, _, hv, ⟨rfl, _, _, _, rfl⟩, by wtm_at "m sel", by wtm_at "m suf"⟩
theorem fn_ack0 {g : G} (hK : OnK g) {k : Nat} {x d pd q : Addr} {option serial frm : Int} {name : List UInt8} {es : List (List UInt8 × MV)} (hn : getM es name = none) :
    Fn g (k + 1) 384 [.ref x, .int frm, .bytes name] [(x, .ins 408 d), (d, .ns (roNs option serial pd q)), (pd, .dicb es)]
      fun mv fp' => ∃ o, mv = .ref o ∧ fp' = [(o, .dici []), (x, .ins 408 d), (d, .ns (roNs option serial pd q)), (pd, .dicb es)] := by
  refine Fn.mk ["self", "frm", "name"] [("self", .local), ("frm", .local), ("name", .local), ("status", .local)] (by rw [hK]; rfl) (by rw [hK]; kernel_rfl) rfl rfl rfl rfl rfl rfl rfl ?_ rfl (by decide +kernel) (by decide +kernel) (by decide +kernel) (by kernel_rfl) (by decide +kernel) ?_
  · intro vs hvs
    obtain ⟨v, u, w, rfl⟩ := lst3 hvs
    with_unfolding_all rfl
  · intro X rest c room kn cells
    simp only [zipArgs, osApp]
    wtm_at "m go"
    refine notin_b0 hn (by wtm_at "m mem") ?_
    wtm_at "m go"
    intro v hv
    exact ⟨_, _, _, hv, ⟨_, rfl, rfl⟩, by wtm_at "m sel", by wtm_at "m suf"⟩
theorem fn_ack1 {g : G} (hK : OnK g) {k : Nat} {x d pd q st sd ac m : Addr} {option serial frm index : Int} {name : List UInt8} {es : List (List UInt8 × MV)} {A : List (Int × MV)} (hn : getM es name = some (.ref st)) (hA : A.length ≤ 1000) :
    Fn g (k + 1) 384 [.ref x, .int frm, .bytes name] [(x, .ins 408 d), (d, .ns (roNs option serial pd q)), (pd, .dicb es), (st, .ins 296 sd), (sd, .ns (statNs index m ac)), (ac, .dici A)]
      fun mv fp' => mv = .ref ac ∧ fp' = [(x, .ins 408 d), (d, .ns (roNs option serial pd q)), (pd, .dicb es), (st, .ins 296 sd), (sd, .ns (statNs index m ac)), (ac, .dici (putM A frm (.bool true)))] := by
  refine Fn.mk ["self", "frm", "name"] [("self", .local), ("frm", .local), ("name", .local), ("status", .local)] (by rw [hK]; rfl) (by rw [hK]; kernel_rfl) rfl rfl rfl rfl rfl rfl rfl ?_ rfl (by decide +kernel) (by decide +kernel) (by decide +kernel) (by kernel_rfl) (by decide +kernel) ?_
  · intro vs hvs
    obtain ⟨v, u, w, rfl⟩ := lst3 hvs
    with_unfolding_all rfl
  · intro X rest c room kn cells
    simp only [zipArgs, osApp]
    wtm_at "m go"
    refine notin_b1 hn (by wtm_at "m mem") ?_
    wtm_at "m go"
    refine Sub_dicb (by wtm_at "m mem") hn ?_ (fun _ _ => ⟨_, rfl⟩)
    wtm_at "m go"
    refine SetI_dici' (by wtm_at "m mem") (by omega) (by wtm_at "m put") ?_
    wtm_at "m go"
    intro v hv
    exact ⟨_, _, _, hv, ⟨rfl, rfl⟩, by wtm_at "m sel", by wtm_at "m suf"⟩

/-- a request that waits -/
structure PS where
  name : List UInt8
  idx : Int
  frm : Int
  ctx : List UInt8
  acks : List Int
  st : Addr
  sd : Addr
  ac : Addr
  m : Addr
  md : Addr
  e : Addr
noncomputable abbrev PS.os (p : PS) : Os := [(p.st, .ins 296 p.sd), (p.sd, .ns (statNs p.idx p.m p.ac)), (p.ac, .dici (p.acks.map fun j => (j, .bool true))), (p.m, .ins 170 p.md), (p.md, .ns (msgNs 15 1 p.frm 0 p.e p.ctx)), (p.e, .lst [])]
noncomputable def segs (ps : List PS) : Os := ps.flatMap PS.os
theorem segs_get {ps : List PS} {i : Nat} {p : PS} (h : ps[i]? = some p) (T : Os) : (segs ps ++ T).Perm (p.os ++ (segs (ps.eraseIdx i) ++ T)) := by
  rw [← List.append_assoc]
  refine List.Perm.append_right _ ?_
  induction ps generalizing i with
  | nil => cases h
  | cons a r ih =>
    cases i with
    | zero => cases h; exact List.Perm.refl _
    | succ i =>
      have := ih (i := i) h
      show (a.os ++ segs r).Perm (p.os ++ (a.os ++ segs (r.eraseIdx i)))
      refine (this.append_left _).trans ?_
      rw [← List.append_assoc, ← List.append_assoc]
      exact List.perm_append_comm.append_right _
theorem segs_set {ps : List PS} {i : Nat} {p p' : PS} (h : ps[i]? = some p) (T : Os) : (segs (ps.set i p') ++ T).Perm (p'.os ++ (segs (ps.eraseIdx i) ++ T)) := by
  have hlt : i < ps.length := (List.getElem?_eq_some_iff.mp h).1
  have h2 := segs_get (ps := ps.set i p') (i := i) (p := p') (by rw [List.getElem?_set_self hlt]) T
  have : (ps.set i p').eraseIdx i = ps.eraseIdx i := by
    clear h2 h
    induction ps generalizing i with
    | nil => rfl
    | cons a r ih =>
      cases i with
      | zero => rfl
      | succ i => show _ :: _ = _ :: _; rw [ih (by simpa using hlt)]
  rwa [this] at h2
theorem Wkn.perm {β κ : Type} {a b : List (κ × β)} (h : a.Perm b) : Wkn a b := ⟨fun p hp => h.mem_iff.mpr hp, fun nd => (h.map _).nodup_iff.mp nd⟩

section
variable {g : G} {X : Cx g} {σ : St} {Q : VQ}
/-- a slice of a list of whatever base -/
theorem Ev_sll2 {value : PySem.Expr} {lower upper : Option PySem.Expr} {p pos : Pos} (h : Ev X value σ fun o σ₁ => EvP X lower σ₁ fun l σ₂ => EvP X upper σ₂ fun u σ₃ => SlL o l u σ₃ Q)
    (hs : ∀ o i, ∃ ops, subscripted (.Slice lower upper none p) false o i = operate ops (getItem o i)) : Ev X (.Subscript value (.Slice lower upper none p) pos) σ Q := fun s R => by
  refine Subscript_ (wpAny_mono (h s R) (fun v s₁ ⟨σ₁, R₁, m1, i1, h₁⟩ => wpAny_Slice (wpAny_mono (h₁ s₁ R₁) (fun vl s₂ ⟨σ₂, R₂, m2, i2, h₂⟩ => wpAny_mono (h₂ s₂ R₂) (fun vu s₃ hx => wpAny_evalPart_none ?_) fun _ _ e => e) fun _ _ e => e)) fun _ _ e => e)
  obtain ⟨σ₃, R₃, m3, i3, a, mo, xs, lo, hi, e1, hm, lt, hl, p1, p2, q⟩ := hx
  subst e1; subst i1
  have R4 := R₃.pushed { cls := .type "slice", data := .fields #[vl, vu, .none] }
  obtain ⟨vs, hp, hi'⟩ := lt.at (R4.at hm)
  obtain ⟨ops, hs⟩ := hs (.ref a) (.ref s₃.heap.objs.size)
  refine tail_any hp.typeIs slot_list_getitem.lookup (wpAny_getItem_list_slice hp (Heap.IsSliceOf.new _ _ _ _) (p1.at i2) (p2.at i3) .none (by intro e; cases e) ?_ (by rw [List.size_toArray, ← hi'.length, sizeLine_eq]; omega)) hs
  refine ⟨_, R4.add (tk := s₃.toks) (mo := .lst (sliced xs lo hi)) (fun _ _ e => Heap.get?_push_of_some _ e) (Nat.le_refl _) ⟨(vs.drop (lo.elim 0 (clipAt vs.length))).take (hi.elim vs.length (clipAt vs.length) - lo.elim 0 (clipAt vs.length)), ⟨0, ?_⟩, ?_⟩, .ref _, rfl, q _⟩
  · have e := slicePick_plain vs.toArray lo hi
    rw [List.size_toArray, List.toList_toArray] at e
    rw [e]; exact Heap.get?_push_size _ rfl
  · unfold sliced
    rw [hi'.length]
    exact (hi'.drop _).take _
end
theorem Sel.app {α : Type} : ∀ (fp rest : List α), Sel (fp ++ rest) fp rest
  | [], _ => .nil
  | _ :: l, rest => .cons .head (Sel.app l rest)
theorem wknPost {g : G} {X : Cx g} {body : List Stmt} {σ : St} {rest : Os} {Post : MV → Os → Prop} (h : Exs X body σ fun fl σ' => ∃ mv fp', mv.Is (retOf fl) ∧ Post mv fp' ∧ Wkn σ'.os (fp' ++ rest)) :
    Exs X body σ fun fl σ' => ∃ mv fp' r, mv.Is (retOf fl) ∧ Post mv fp' ∧ Sel σ'.os fp' r ∧ Suf rest r :=
  Tri.post h fun fl σ' ⟨mv, fp', i, p, w⟩ => ⟨σ'.lm, fp' ++ rest, Wkn.refl, w, mv, fp', rest, i, p, Sel.app _ _, .here⟩
theorem pac {α : Type} (a b c : List α) : (a ++ (b ++ c)).Perm (b ++ (a ++ c)) := by
  rw [← List.append_assoc, ← List.append_assoc]
  exact List.perm_append_comm.append_right _
theorem clipAt_nat (n k : Nat) (h : k ≤ n) : clipAt n (k : Int) = k := by
  unfold clipAt
  rw [if_neg (by omega)]
  omega
theorem sliced_from {α : Type} (l : List α) (k : Nat) (h : k ≤ l.length) : sliced l (some (k : Int)) none = l.drop k := by
  unfold sliced
  simp only [Option.elim, clipAt_nat _ _ h]
  rw [List.take_of_length_le (by rw [List.length_drop]; omega)]
theorem Sub_pre {g : G} {X : Cx g} {o i : MV} {value slice : PySem.Expr} {lm : Lm} {os os' : Os} {Q : VQ} (h : Sub X o i value slice ⟨lm, os'⟩ Q) (w : Wkn os os') : Sub X o i value slice ⟨lm, os⟩ Q := fun v u hv hu => Tri.pre (h v u hv hu) Wkn.refl w
noncomputable def penM (ps : List PS) : List (List UInt8 × MV) := ps.map fun p => (p.name, .ref p.st)
noncomputable def namM (ps : List PS) : List MV := ps.map fun p => .bytes p.name
theorem penM_get {ps : List PS} (nd : (ps.map PS.name).Nodup) {i : Nat} {p : PS} (h : ps[i]? = some p) : getM (penM ps) p.name = some (.ref p.st) := by
  induction ps generalizing i with
  | nil => cases h
  | cons a r ih =>
    rw [List.map_cons, List.nodup_cons] at nd
    unfold getM penM at ih ⊢
    rw [List.map_cons, List.find?_cons]
    cases i with
    | zero => cases h; simp
    | succ i =>
      have : ¬ a.name = p.name := fun e => nd.1 (e ▸ List.mem_map_of_mem (List.mem_of_getElem? h))
      simp only [decide_eq_false this]
      exact ih nd.2 h
theorem penM_none {ps : List PS} {name : List UInt8} (h : name ∉ ps.map PS.name) : getM (penM ps) name = none := by
  unfold getM penM
  rw [List.find?_eq_none.mpr]; rfl
  intro e he
  obtain ⟨p, hp, rfl⟩ := List.mem_map.mp he
  simp only [decide_eq_true_eq]
  exact fun e => h (List.mem_map.mpr ⟨p, hp, e⟩)
theorem penM_del {p : PS} {ps : List PS} (nd : ((p :: ps).map PS.name).Nodup) : delM (penM (p :: ps)) p.name = penM ps := by
  rw [List.map_cons, List.nodup_cons] at nd
  unfold delM penM
  rw [List.map_cons, List.filter_cons]
  simp only [decide_true, Bool.not_true, Bool.false_eq_true, if_false]
  refine List.filter_eq_self.mpr fun e he => ?_
  obtain ⟨x, hx, rfl⟩ := List.mem_map.mp he
  have : ¬ x.name = p.name := fun e => nd.1 (e ▸ List.mem_map_of_mem hx)
  simp [this]
noncomputable def tupSeg (ts : List Addr) (ps : List PS) : Os := (ts.zip ps).map fun x => (x.1, .tup [.int x.2.idx, .ref x.2.m])
theorem tupSeg_snoc {ts : List Addr} {ps : List PS} {t : Addr} {p : PS} (h : ps[ts.length]? = some p) : tupSeg (ts ++ [t]) ps = tupSeg ts ps ++ [(t, .tup [.int p.idx, .ref p.m])] := by
  unfold tupSeg
  induction ts generalizing ps with
  | nil => cases ps with
    | nil => cases h
    | cons a r => cases h; rfl
  | cons x ts ih => cases ps with
    | nil => cases h
    | cons a r =>
      rw [List.cons_append, List.zip_cons_cons, List.zip_cons_cons, List.map_cons, List.map_cons, List.cons_append, ih h]
theorem fn_adv0 {g : G} (hK : OnK g) {k : Nat} {x d pd q : Addr} {option serial : Int} {name : List UInt8} {es : List (List UInt8 × MV)} (hn : getM es name = none) :
    Fn g (k + 1) 391 [.ref x, .bytes name] [(x, .ins 408 d), (d, .ns (roNs option serial pd q)), (pd, .dicb es)]
      fun mv fp' => ∃ o, mv = .ref o ∧ fp' = [(o, .lst []), (x, .ins 408 d), (d, .ns (roNs option serial pd q)), (pd, .dicb es)] := by
  refine Fn.mk ["self", "name"] [("self", .local), ("name", .local), ("out", .local), ("taken", .local), ("found", .local), ("one", .local), ("status", .local)] (by rw [hK]; rfl) (by rw [hK]; kernel_rfl) rfl rfl rfl rfl rfl rfl rfl ?_ rfl (by decide +kernel) (by decide +kernel) (by decide +kernel) (by kernel_rfl) (by decide +kernel) ?_
  · intro vs hvs
    obtain ⟨v, u, rfl⟩ := lst2 hvs
    with_unfolding_all rfl
  · intro X rest c room kn cells
    simp only [zipArgs, osApp]
    wtm_at "m go"
    refine notin_b0 hn (by wtm_at "m mem") ?_
    wtm_at "m go"
    intro v hv
    exact ⟨_, _, _, hv, ⟨_, rfl, rfl⟩, by wtm_at "m sel", by wtm_at "m suf"⟩
theorem fn_adv1 {g : G} (hK : OnK g) {k : Nat} {x d pd q : Addr} {option serial : Int} {name : List UInt8} {ps : List PS} {t : Nat} {pt : PS} (ht : ps[t]? = some pt) (hpt : pt.name = name) (nd : (ps.map PS.name).Nodup) (hl : ps.length ≤ 1000) :
    Fn g (k + 1) 391 [.ref x, .bytes name] ([(x, .ins 408 d), (d, .ns (roNs option serial pd q)), (pd, .dicb (penM ps)), (q, .lst (namM ps))] ++ segs ps)
      fun mv fp' => ∃ o q' ts, ts.length = t + 1 ∧ mv = .ref o ∧ fp' = [(o, .lst (ts.map .ref)), (x, .ins 408 d), (d, .ns (roNs option serial pd q')), (pd, .dicb (penM (ps.drop (t + 1)))), (q', .lst (namM (ps.drop (t + 1))))] ++ (tupSeg ts ps ++ segs ps) := by
  refine Fn.mk ["self", "name"] [("self", .local), ("name", .local), ("out", .local), ("taken", .local), ("found", .local), ("one", .local), ("status", .local)] (by rw [hK]; rfl) (by rw [hK]; kernel_rfl) rfl rfl rfl rfl rfl rfl rfl ?_ rfl (by decide +kernel) (by decide +kernel) (by decide +kernel) (by kernel_rfl) (by decide +kernel) ?_
  · intro vs hvs
    obtain ⟨v, u, rfl⟩ := lst2 hvs
    with_unfolding_all rfl
  · intro X rest c room kn cells
    subst hpt
    refine wknPost ?_
    rw [osApp_eq, List.append_assoc]
    simp only [zipArgs, List.cons_append, List.nil_append]
    generalize hT : segs ps ++ rest = T
    have hlt : t < ps.length := (List.getElem?_eq_some_iff.mp ht).1
    wtm_at "m go"
    refine notin_b1 (penM_get nd ht) (by wtm_at "m mem") ?_
    wtm_at "m go"
    rename_i o
    refine Ex_while (fun n lm os => ∃ (i : Nat) (ts : List Addr), ts.length = i ∧ i ≤ t + 1 ∧ n = t + 1 - i ∧ lm = ([("found", .bool (decide (i = t + 1))), ("taken", .int (i : Nat)), ("out", .ref o), ("self", .ref x), ("name", .bytes pt.name)] : Lm) ∧ os = ((o, .lst (ts.map .ref)) :: (x, .ins 408 d) :: (d, .ns (roNs option serial pd q)) :: (pd, .dicb (penM (ps.drop i))) :: (q, .lst (namM ps)) :: (tupSeg ts ps ++ T) : Os)) (t + 1) ⟨0, [], rfl, Nat.zero_le _, rfl, ?_, rfl⟩ ?_
    · rw [decide_eq_false (by omega)]; rfl
    · rintro n lm os ⟨i, ts, hts, hi, rfl, rfl, rfl⟩
      wtm_at "m go"
      · rename_i h
        subst h
        refine Ev_sll2 ?_ (fun _ _ => ⟨_, rfl⟩)
        wtm_at "m go"
        · unfold namM; rw [List.length_map]; omega
        · rename_i nq
          intro v hv
          have e : sliced (namM ps) (some ((t + 1 : Nat) : Int)) none = namM (ps.drop (t + 1)) := by
            rw [sliced_from _ _ (by unfold namM; rw [List.length_map]; omega)]
            unfold namM; rw [List.map_drop]
          rw [e]
          refine ⟨_, _, hv, ⟨_, nq, ts, hts, rfl, rfl⟩, ?_⟩
          simp only [List.cons_append, List.nil_append, List.append_assoc]
          rw [hT]
          wtm_at "m wk"
      · rename_i h
        have hilt : i < ps.length := by omega
        obtain ⟨p, hp⟩ : ∃ p, ps[i]? = some p := ⟨_, List.getElem?_eq_getElem hilt⟩
        have hperm : (tupSeg ts ps ++ T).Perm (p.os ++ (tupSeg ts ps ++ (segs (ps.eraseIdx i) ++ rest))) := by
          rw [← hT]
          refine ((segs_get hp rest).append_left _).trans ?_
          exact pac _ _ _
        generalize hT' : tupSeg ts ps ++ (segs (ps.eraseIdx i) ++ rest) = T' at hperm
        refine Sub_pre (os' := (o, .lst (ts.map .ref)) :: (x, .ins 408 d) :: (d, .ns (roNs option serial pd q)) :: (pd, .dicb (penM (ps.drop i))) :: (q, .lst (namM ps)) :: (p.st, .ins 296 p.sd) :: (p.sd, .ns (statNs p.idx p.m p.ac)) :: (p.ac, .dici (p.acks.map fun j => (j, .bool true))) :: (p.m, .ins 170 p.md) :: (p.md, .ns (msgNs 15 1 p.frm 0 p.e p.ctx)) :: (p.e, .lst []) :: T') ?_ (Wkn.perm (((((hperm.cons _).cons _).cons _).cons _).cons _))
        have hdrop : ps.drop i = p :: ps.drop (i + 1) := by rw [List.drop_eq_getElem_cons hilt]; congr 1; exact (List.getElem?_eq_some_iff.mp hp).2
        have ndd : ((p :: ps.drop (i + 1)).map PS.name).Nodup := by rw [← hdrop, List.map_drop]; exact nd.sublist (List.drop_sublist _ _)
        refine Sub_list (mv := .bytes p.name) (by wtm_at "m mem") .lst (by omega) (by omega) (by unfold namM; rw [List.getElem?_map, show ((i : Nat) : Int).toNat = i from rfl, hp]; rfl) ?_ (fun _ _ => ⟨_, rfl⟩)
        wtm_at "m go"
        rw [hdrop]
        refine CallV_pop' (by wtm_at "m mem") ?_ (penM_get ndd (i := 0) (p := p) rfl) (by wtm_at "m put") ?_
        · unfold penM; rw [List.length_map, ← hdrop, List.length_drop]; omega
        · rw [penM_del ndd]
          wtm_at "m go"
          · rename_i tt
            have hname : decide (p.name = pt.name) = decide (i + 1 = t + 1) := by
              rw [Bool.eq_iff_iff, decide_eq_true_iff, decide_eq_true_iff]
              constructor
              · intro e
                have h1 : (ps.map PS.name)[i]? = some p.name := by rw [List.getElem?_map, hp]; rfl
                have h2 : (ps.map PS.name)[t]? = some pt.name := by rw [List.getElem?_map, ht]; rfl
                obtain ⟨l1, g1⟩ := List.getElem?_eq_some_iff.mp h1
                obtain ⟨l2, g2⟩ := List.getElem?_eq_some_iff.mp h2
                have := (List.getElem_inj nd).mp (g1.trans (e.trans g2.symm))
                omega
              · intro e
                have : i = t := by omega
                subst this
                rw [hp] at ht; cases ht; rfl
            rw [hname]
            refine ⟨t + 1 - (i + 1), [("found", .bool (decide (i + 1 = t + 1))), ("taken", .int ((i + 1 : Nat) : Int)), ("out", .ref o), ("self", .ref x), ("name", .bytes pt.name)], (o, .lst ((ts ++ [tt]).map .ref)) :: (x, .ins 408 d) :: (d, .ns (roNs option serial pd q)) :: (pd, .dicb (penM (ps.drop (i + 1)))) :: (q, .lst (namM ps)) :: (tupSeg (ts ++ [tt]) ps ++ T), by omega, by wtm_at "m wk", ?_, i + 1, ts ++ [tt], by rw [List.length_append, hts]; rfl, by omega, rfl, rfl, rfl⟩
            rw [tupSeg_snoc (by rw [hts]; exact hp)]
            refine Wkn.trans (b := (o, .lst ((ts ++ [tt]).map .ref)) :: (x, .ins 408 d) :: (d, .ns (roNs option serial pd q)) :: (pd, .dicb (penM (ps.drop (i + 1)))) :: (q, .lst (namM ps)) :: (tt, .tup [.int p.idx, .ref p.m]) :: (p.st, .ins 296 p.sd) :: (p.sd, .ns (statNs p.idx p.m p.ac)) :: (p.ac, .dici (p.acks.map fun j => (j, .bool true))) :: (p.m, .ins 170 p.md) :: (p.md, .ns (msgNs 15 1 p.frm 0 p.e p.ctx)) :: (p.e, .lst []) :: T') (by wtm_at "m wk") (Wkn.perm (((((List.Perm.cons _ ?_).cons _).cons _).cons _).cons _))
            rw [List.append_assoc]
            exact (hperm.symm.cons _).trans (pac [_] _ _)

noncomputable def rowSeg (rs : List (Addr × Addr)) (ps : List PS) : Os := (rs.zip ps).flatMap fun x => [(x.1.1, .tup [.bytes x.2.name, .int x.2.idx, .bytes x.2.ctx, .ref x.1.2]), (x.1.2, .tup ((srt x.2.acks).map .int))]
theorem rowSeg_snoc {rs : List (Addr × Addr)} {ps : List PS} {r : Addr × Addr} {p : PS} (h : ps[rs.length]? = some p) : rowSeg (rs ++ [r]) ps = rowSeg rs ps ++ [(r.1, .tup [.bytes p.name, .int p.idx, .bytes p.ctx, .ref r.2]), (r.2, .tup ((srt p.acks).map .int))] := by
  unfold rowSeg
  induction rs generalizing ps with
  | nil => cases ps with
    | nil => cases h
    | cons a l => cases h; rfl
  | cons x rs ih => cases ps with
    | nil => cases h
    | cons a l => rw [List.cons_append, List.zip_cons_cons, List.zip_cons_cons, List.flatMap_cons, List.flatMap_cons, ih h, List.append_assoc]
theorem fn_ro_row {g : G} (hK : OnK g) {k : Nat} {x d pd q : Addr} {option serial : Int} {ps : List PS} (nd : (ps.map PS.name).Nodup) (hl : ps.length ≤ 1000) (hac : ∀ p ∈ ps, p.acks.length < 64) :
    Fn g (k + 2) 405 [.ref x] ([(x, .ins 408 d), (d, .ns (roNs option serial pd q)), (pd, .dicb (penM ps)), (q, .lst (namM ps))] ++ segs ps)
      fun mv fp' => ∃ rt wt rs, rs.length = ps.length ∧ mv = .ref rt ∧ fp' = [(rt, .tup [.int option, .int serial, .ref wt]), (wt, .tup (rs.map fun r => .ref r.1)), (x, .ins 408 d), (d, .ns (roNs option serial pd q)), (pd, .dicb (penM ps)), (q, .lst (namM ps))] ++ (rowSeg rs ps ++ segs ps) := by
  refine Fn.mk ["self"] [("self", .local), ("out", .local), ("name", .local), ("status", .local), ("read_context", .globalImplicit), ("tuple", .globalImplicit), ("sorted", .globalImplicit)] (by rw [hK]; rfl) (by rw [hK]; kernel_rfl) rfl rfl rfl rfl rfl rfl rfl ?_ rfl (by decide +kernel) (by decide +kernel) (by decide +kernel) (by kernel_rfl) (by decide +kernel) ?_
  · intro vs hvs
    obtain ⟨v, rfl⟩ := lst1 hvs
    with_unfolding_all rfl
  · intro X rest c room kn cells
    refine wknPost ?_
    rw [osApp_eq, List.append_assoc]
    simp only [zipArgs, List.cons_append, List.nil_append]
    generalize hT : segs ps ++ rest = T
    wtm_at "m go"
    rename_i o
    refine ForGo_list (fun i lm os => ∃ rs : List (Addr × Addr), rs.length = i ∧ lm = ([("out", .ref o), ("self", .ref x)] : Lm) ∧ os = ((o, .lst (rs.map fun r => .ref r.1)) :: (x, .ins 408 d) :: (d, .ns (roNs option serial pd q)) :: (pd, .dicb (penM ps)) :: (rowSeg rs ps ++ T) : Os)) (by wtm_at "m pick") ?_ ?_ ?_
    · exact ⟨[], rfl, rfl, rfl⟩
    · rintro i mv lm os fr hx ⟨rs, hrs, rfl, rfl⟩
      obtain ⟨p, hp, rfl⟩ : ∃ p, ps[i]? = some p ∧ mv = .bytes p.name := by
        unfold namM at hx
        rw [List.getElem?_map] at hx
        cases e : ps[i]? with
        | none => rw [e] at hx; cases hx
        | some p => rw [e] at hx; cases hx; exact ⟨p, rfl, rfl⟩
      have hpa := hac p (List.mem_of_getElem? hp)
      have hilt : i < ps.length := (List.getElem?_eq_some_iff.mp hp).1
      have hperm : (rowSeg rs ps ++ T).Perm (p.os ++ (rowSeg rs ps ++ (segs (ps.eraseIdx i) ++ rest))) := by
        rw [← hT]
        exact ((segs_get hp rest).append_left _).trans (pac _ _ _)
      generalize hT' : rowSeg rs ps ++ (segs (ps.eraseIdx i) ++ rest) = T' at hperm
      wtm_at "m go"
      refine Sub_pre (os' := (o, .lst (rs.map fun r => .ref r.1)) :: (x, .ins 408 d) :: (d, .ns (roNs option serial pd q)) :: (pd, .dicb (penM ps)) :: (p.st, .ins 296 p.sd) :: (p.sd, .ns (statNs p.idx p.m p.ac)) :: (p.ac, .dici (p.acks.map fun j => (j, .bool true))) :: (p.m, .ins 170 p.md) :: (p.md, .ns (msgNs 15 1 p.frm 0 p.e p.ctx)) :: (p.e, .lst []) :: T') ?_ (Wkn.perm ((((hperm.cons _).cons _).cons _).cons _))
      refine Sub_dicb (by wtm_at "m mem") (penM_get nd hp) ?_ (fun _ _ => ⟨_, rfl⟩)
      wtm_at "m go"
      refine CfnE (fn_read_context hK (k := k) (x := p.m) (d := p.md) (e := p.e) (kind := 15) (to := 1) (frm := p.frm) (term := 0) (ctx := p.ctx)) (room.le (by first | decide | exact Nat.add_le_add_left (by decide) _ | omega)) (by wtm_at "m sel") (by wtm_at "m app") ?_
      wtm_at "m go"
      rw [show (p.acks.map fun j => (j, MV.bool true)).map (·.1) = p.acks by rw [List.map_map]; exact List.map_id' _]
      refine CallV_tuple' (by wtm_at "m mem") .lst ?_ (fun kt => ?_)
      · rw [List.length_map, (srt_perm p.acks).length_eq]; omega
      · wtm_at "m go"
        rename_i ra
        refine ⟨_, (o, .lst ((rs ++ [(ra, kt)]).map fun r => .ref r.1)) :: (x, .ins 408 d) :: (d, .ns (roNs option serial pd q)) :: (pd, .dicb (penM ps)) :: (rowSeg (rs ++ [(ra, kt)]) ps ++ T), Wq.wkn (by wtm_at "m wq"), ?_, rs ++ [(ra, kt)], by rw [List.length_append, hrs]; rfl, rfl, rfl⟩
        rw [rowSeg_snoc (by rw [hrs]; exact hp)]
        refine Wkn.trans (b := (o, .lst ((rs ++ [(ra, kt)]).map fun r => .ref r.1)) :: (x, .ins 408 d) :: (d, .ns (roNs option serial pd q)) :: (pd, .dicb (penM ps)) :: (ra, .tup [.bytes p.name, .int p.idx, .bytes p.ctx, .ref kt]) :: (kt, .tup ((srt p.acks).map .int)) :: (p.st, .ins 296 p.sd) :: (p.sd, .ns (statNs p.idx p.m p.ac)) :: (p.ac, .dici (p.acks.map fun j => (j, .bool true))) :: (p.m, .ins 170 p.md) :: (p.md, .ns (msgNs 15 1 p.frm 0 p.e p.ctx)) :: (p.e, .lst []) :: T') (by wtm_at "m wk") (Wkn.perm ((((List.Perm.cons _ ?_).cons _).cons _).cons _))
        rw [List.append_assoc]
        exact ((hperm.symm.cons _).cons _).trans (pac [_, _] _ _)
    · rintro lm os ⟨rs, hrs, rfl, rfl⟩
      have hrs' : rs.length = ps.length := by rw [hrs]; unfold namM; rw [List.length_map]
      wtm_at "m go"
      refine CallV_tuple' (by wtm_at "m mem") .lst (by rw [List.length_map]; omega) (fun wt => ?_)
      wtm_at "m go"
      rename_i rt
      intro v hv
      refine ⟨_, _, hv, ⟨rt, wt, rs, hrs', rfl, rfl⟩, ?_⟩
      simp only [List.cons_append, List.nil_append, List.append_assoc]
      rw [hT]
      wtm_at "m wk"

/-- deep equality of made data, to a depth -/
noncomputable def DE (os : Os) : Nat → MV → MV → Prop
  | 0, a, b => a = b ∧ ∀ x, a ≠ .val x
  | n + 1, a, b => (a = b ∧ ∀ x, a ≠ .val x) ∨ ∃ x y xs ys, a = .ref x ∧ b = .ref y ∧ x ≠ y ∧ (((x, MO.lst xs) ∈ os ∧ (y, MO.lst ys) ∈ os) ∨ ((x, MO.tup xs) ∈ os ∧ (y, MO.tup ys) ∈ os)) ∧ All2 (DE os n) xs ys
theorem prim_at {A : Around} {s : Shared} {a : MV} {v u : Value} (hx : ∀ x, a ≠ .val x) (i : a.Is v) (j : a.Is u) : SeqAt.EqAt A s v u true := by
  cases a with
  | none => subst i; subst j; exact SeqAt.EqAt.same _
  | bool => subst i; subst j; exact SeqAt.EqAt.same _
  | ref => subst i; subst j; exact SeqAt.EqAt.same _
  | int x =>
    obtain ⟨t, rfl⟩ := i; obtain ⟨t', rfl⟩ := j
    have := SeqAt.EqAt.int_int (A := A) (s := s) x t x t'
    rwa [beq_self_eq_true] at this
  | bytes b =>
    obtain ⟨t, rfl⟩ := i; obtain ⟨t', rfl⟩ := j
    intro prog w E Q h
    refine eqBool_bytes ?_
    rw [decide_eq_true rfl]; exact h
  | val x => exact absurd rfl (hx x)
theorem All2.at2 {α β γ δ : Type} {P : α → γ → Prop} {Q : β → δ → Prop} {D : α → β → Prop} {xs : List α} {ys : List β} {vs : List γ} {us : List δ} (h : All2 D xs ys) (p : All2 P xs vs) (q : All2 Q ys us) {j : Nat} (h1 : j < vs.toArray.size) (h2 : j < us.toArray.size) :
    ∃ x y, D x y ∧ P x vs.toArray[j] ∧ Q y us.toArray[j] := by
  have h1' : j < vs.length := by simpa using h1
  have h2' : j < us.length := by simpa using h2
  obtain ⟨x, hx, px⟩ := p.get' (List.getElem?_eq_getElem h1')
  obtain ⟨y, hy, dy⟩ := h.get hx
  obtain ⟨y', hy', qy⟩ := q.get' (List.getElem?_eq_getElem h2')
  rw [hy] at hy'; cases hy'
  exact ⟨x, y, dy, by simpa using px, by simpa using qy⟩
theorem DE_at {g : G} {X : Cx g} {lm : Lm} {os : Os} {s : Shared} (R : Rep X ⟨lm, os⟩ s) : ∀ (n : Nat) {A : Around} {a b : MV} {v u : Value}, A.units + n < cLine → DE os n a b → a.Is v → b.Is u → SeqAt.EqAt A s v u true
  | 0, A, a, b, v, u, hA, ⟨e, hx⟩, i, j => by subst e; exact prim_at hx i j
  | n + 1, A, a, b, v, u, hA, .inl ⟨e, hx⟩, i, j => by subst e; exact prim_at hx i j
  | n + 1, A, a, b, v, u, hA, .inr ⟨x, y, xs, ys, ha, hb, hne, hm, hd⟩, i, j => by
    subst ha; subst hb; subst i; subst j
    refine SeqAt.EqAt.of_refs hne ?_
    have ih : ∀ {vs us : List Value}, All2 MV.Is xs vs → All2 MV.Is ys us → ∀ j (h1 : j < vs.toArray.size) (h2 : j < us.toArray.size), SeqAt.EqAt A.in1 s vs.toArray[j] us.toArray[j] true := fun p q j h1 h2 => by
      obtain ⟨x', y', d, p', q'⟩ := All2.at2 hd p q h1 h2
      exact DE_at R n (by show A.units + 1 + n < _; omega) d p' q'
    rcases hm with ⟨h1, h2⟩ | ⟨h1, h2⟩
    · obtain ⟨vs, hp, hi⟩ := R.at h1
      obtain ⟨us, hq, hj⟩ := R.at h2
      have := SeqAt.RcAt.lists (A := A) (e := fun _ => true) hp.isList hq.isList (by rw [List.size_toArray, List.size_toArray, ← hi.length, ← hj.length, hd.length]) (by omega) (ih hi hj)
      rwa [show (List.range vs.toArray.size).all (fun _ => true) = true by simp] at this
    · obtain ⟨vs, hp, hi⟩ := R.at h1
      obtain ⟨us, hq, hj⟩ := R.at h2
      have := SeqAt.RcAt.tuples (A := A) (s := s) (l := x) (b := y) (items := vs.toArray) (items2 := us.toArray) (e := fun _ => true) ⟨_, hp, rfl, _, rfl⟩ ⟨_, hq, rfl, _, rfl⟩ (by omega) (ih hi hj)
      rwa [show ((List.range (min vs.toArray.size us.toArray.size)).all (fun _ => true) && vs.toArray.size == us.toArray.size) = true by
        rw [List.size_toArray, List.size_toArray, ← hi.length, ← hj.length, hd.length]; simp] at this
theorem Cmp_ne_deep {g : G} {X : Cx g} {lm : Lm} {os : Os} {Q : VQ} {n k : Nat} {x y : Addr} (hr : Room X.A k) (hn : n ≤ 50) (h : DE os (n + 1) (.ref x) (.ref y)) (hxy : x ≠ y) (q : Q (.bool false) ⟨lm, os⟩) : Cmp X .NotEq (.ref x) (.ref y) ⟨lm, os⟩ Q := by
  rintro _ _ rfl rfl s R
  have hu := hr.units
  rcases h with ⟨e, _⟩ | ⟨x', y', xs, ys, ha, hb, hne, hm, hd⟩
  · cases e; exact absurd rfl hxy
  · cases ha; cases hb
    have ih : ∀ {vs us : List Value}, All2 MV.Is xs vs → All2 MV.Is ys us → ∀ j (h1 : j < vs.toArray.size) (h2 : j < us.toArray.size), SeqAt.EqAt X.A.in1 s vs.toArray[j] us.toArray[j] true := fun p q j h1 h2 => by
      obtain ⟨x', y', d, p', q'⟩ := All2.at2 hd p q h1 h2
      exact DE_at R n (by show X.A.units + 1 + n < _; omega) d p' q'
    rcases hm with ⟨h1, h2⟩ | ⟨h1, h2⟩
    · obtain ⟨vs, hp, hi⟩ := R.at h1
      obtain ⟨us, hq, hj⟩ := R.at h2
      have := SeqAt.RcNeAt.lists (A := X.A) (e := fun _ => true) hp.isList hq.isList (by rw [List.size_toArray, List.size_toArray, ← hi.length, ← hj.length, hd.length]) (by omega) (ih hi hj)
      rw [show (!(List.range vs.toArray.size).all (fun _ => true)) = false by simp] at this
      exact this g.prog g.w _ _ ⟨_, R, .bool _, rfl, q⟩
    · obtain ⟨vs, hp, hi⟩ := R.at h1
      obtain ⟨us, hq, hj⟩ := R.at h2
      have := SeqAt.RcNeAt.tuples (A := X.A) (s := s) (l := x) (b := y) (items := vs.toArray) (items2 := us.toArray) (e := fun _ => true) ⟨_, hp, rfl, _, rfl⟩ ⟨_, hq, rfl, _, rfl⟩ (by omega) (ih hi hj)
      rw [show (!((List.range (min vs.toArray.size us.toArray.size)).all (fun _ => true) && vs.toArray.size == us.toArray.size)) = false by
        rw [List.size_toArray, List.size_toArray, ← hi.length, ← hj.length, hd.length]; simp] at this
      exact this g.prog g.w _ _ ⟨_, R, .bool _, rfl, q⟩

/-! plain laws -/
theorem rdv_le (n : Int) (i : Nat) (h : i < 8) : rdv (le 8 n) i = n / 256 ^ i % 256 := by
  unfold rdv le
  rw [List.getD_eq_getElem?_getD, List.getElem?_map, List.getElem?_range h]
  exact octet_val n i
theorem w64_le {n : Int} (h0 : 0 ≤ n) (h1 : n < 18446744073709551616) : w64 (le 8 n) = n := by
  unfold w64 w32
  rw [rdv_le n 0 (by decide), rdv_le n (0 + 1) (by decide), rdv_le n (0 + 2) (by decide), rdv_le n (0 + 3) (by decide), rdv_le n 4 (by decide), rdv_le n (4 + 1) (by decide), rdv_le n (4 + 2) (by decide), rdv_le n (4 + 3) (by decide)]
  change n / 1 % 256 + n / 256 % 256 * 256 + n / 65536 % 256 * 65536 + n / 16777216 % 256 * 16777216 + (n / 4294967296 % 256 + n / 1099511627776 % 256 * 256 + n / 281474976710656 % 256 * 65536 + n / 72057594037927936 % 256 * 16777216) * 4294967296 = n
  omega
theorem le_inj {a b : Int} (h0 : 0 ≤ a) (h1 : a < 18446744073709551616) (h2 : 0 ≤ b) (h3 : b < 18446744073709551616) (h : le 8 a = le 8 b) : a = b := by
  rw [← w64_le h0 h1, ← w64_le h2 h3, h]
theorem sum_w64 (b : List UInt8) : ((List.range 8).map fun k => rdv b k * 256 ^ k).sum = w64 b := by
  show rdv b 0 * 256 ^ 0 + (rdv b 1 * 256 ^ 1 + (rdv b 2 * 256 ^ 2 + (rdv b 3 * 256 ^ 3 + (rdv b 4 * 256 ^ 4 + (rdv b 5 * 256 ^ 5 + (rdv b 6 * 256 ^ 6 + (rdv b 7 * 256 ^ 7 + 0))))))) = w64 b
  unfold w64 w32
  change _ = rdv b 0 + rdv b 1 * 256 + rdv b 2 * 65536 + rdv b 3 * 16777216 + (rdv b 4 + rdv b 5 * 256 + rdv b 6 * 65536 + rdv b 7 * 16777216) * 4294967296
  omega
theorem len5 : ∀ {l : List Int}, l.Nodup → (∀ x ∈ l, 1 ≤ x ∧ x ≤ 5) → l.length ≤ 5 := by
  intro l nd h
  have e : ∀ l : List Int, (∀ x ∈ l, 1 ≤ x ∧ x ≤ 5) → l.length = l.count 1 + l.count 2 + l.count 3 + l.count 4 + l.count 5 := by
    intro l
    induction l with
    | nil => intro _; rfl
    | cons a r ih =>
      intro h
      have ha := h a (.head _)
      have := ih fun x hx => h x (.tail _ hx)
      simp only [List.count_cons, List.length_cons, this, beq_iff_eq]
      have : a = 1 ∨ a = 2 ∨ a = 3 ∨ a = 4 ∨ a = 5 := by omega
      rcases this with rfl | rfl | rfl | rfl | rfl <;> simp <;> omega
  have c := fun a => List.nodup_iff_count.mp nd a
  rw [e l h]
  have h1 := c 1; have h2 := c 2; have h3 := c 3; have h4 := c 4; have h5 := c 5
  omega
theorem getI_putI {H : List (Int × Int)} {k j v : Int} : getI (putI H k v) j = if j = k then some v else getI H j := by
  have h := getM_putM (es := H.map fun p => (p.1, MV.int p.2)) (k := k) (j := j) (v := .int v)
  rw [putM_I, getM_I, getM_I] at h
  by_cases e : j = k
  · rw [if_pos e] at h ⊢
    cases q : getI (putI H k v) j with
    | none => rw [q] at h; cases h
    | some x => rw [q] at h; cases h; rfl
  · rw [if_neg e] at h ⊢
    cases q : getI (putI H k v) j with
    | none => rw [q] at h; cases q2 : getI H j with
      | none => rfl
      | some x => rw [q2] at h; cases h
    | some x => rw [q] at h; cases q2 : getI H j with
      | none => rw [q2] at h; cases h
      | some y => rw [q2] at h; cases h; rfl
theorem putI_keys {H : List (Int × Int)} {k v : Int} : ∀ p ∈ putI H k v, (∃ q ∈ H, q.1 = p.1 ∧ q.2 = p.2) ∨ (p.1 = k ∧ p.2 = v) := by
  intro p hp
  unfold putI at hp
  split at hp
  · obtain ⟨q, hq, rfl⟩ := List.mem_map.mp hp
    split
    · rename_i h; exact .inr ⟨h, rfl⟩
    · exact .inl ⟨q, hq, rfl, rfl⟩
  · rcases List.mem_append.mp hp with hp | hp
    · exact .inl ⟨p, hp, rfl, rfl⟩
    · cases List.mem_singleton.mp hp; exact .inr ⟨rfl, rfl⟩
theorem putI_nd {H : List (Int × Int)} {k v : Int} (nd : (H.map (·.1)).Nodup) : ((putI H k v).map (·.1)).Nodup := by
  unfold putI
  split
  · rw [List.map_map]
    rw [show ((fun x : Int × Int => x.1) ∘ fun e => if e.1 = k then (e.1, v) else e) = fun x => x.1 by funext e; show (if e.1 = k then (e.1, v) else e).1 = e.1; split <;> rfl]
    exact nd
  · rename_i h
    rw [List.map_append]
    refine List.nodup_append.mpr ⟨nd, by simp, fun a ha b hb e => ?_⟩
    cases List.mem_singleton.mp hb
    subst e
    obtain ⟨p, hp, e⟩ := List.mem_map.mp ha
    exact h (List.any_eq_true.mpr ⟨p, hp, by simpa using e⟩)
structure HV (H : List (Int × Int)) (vals : List Int) (now : Int) : Prop where
  len : vals.length = 6
  nd : (H.map (·.1)).Nodup
  keys : ∀ p ∈ H, 1 ≤ p.1 ∧ p.1 ≤ 5
  vlo : ∀ p ∈ H, 0 ≤ p.2
  rel : ∀ j : Nat, 1 ≤ j → j ≤ 5 → vals.getD j 0 = (getI H j).getD (-1)
  hi : ∀ j : Nat, 1 ≤ j → j ≤ 5 → vals.getD j 0 ≤ now
theorem HV.hlen {H vals now} (h : HV H vals now) : H.length ≤ 5 := by
  have := len5 h.nd fun x hx => by obtain ⟨p, hp, rfl⟩ := List.mem_map.mp hx; exact h.keys p hp
  rwa [List.length_map] at this
theorem getI_mem {H : List (Int × Int)} {j s : Int} (h : getI H j = some s) : (j, s) ∈ H := by
  unfold getI at h
  cases e : H.find? (fun e => decide (e.1 = j)) with
  | none => rw [e] at h; cases h
  | some p =>
    rw [e] at h; cases h
    have h1 := List.mem_of_find?_eq_some e
    have h2 := List.find?_some e
    have : p.1 = j := by simpa using h2
    rw [← this]; exact h1
theorem HV.tick {H vals now} (h : HV H vals now) : HV H vals (now + 1) := ⟨h.len, h.nd, h.keys, h.vlo, h.rel, fun j a b => by have := h.hi j a b; omega⟩
theorem HV.lo {H vals now} (h : HV H vals now) (j : Nat) (h1 : 1 ≤ j) (h2 : j ≤ 5) : -1 ≤ vals.getD j 0 := by
  rw [h.rel j h1 h2]
  cases e : getI H j with
  | none => decide
  | some s => have := h.vlo _ (getI_mem e); show -1 ≤ s; dsimp only at this; omega
theorem HV.hear {H vals now} (h : HV H vals now) {who : Nat} (h1 : 1 ≤ who) (h2 : who ≤ 5) {sent : Int} (hs : 0 ≤ sent) :
    HV (hearI H now who sent) (if sent ≤ now then vals.set who (max (vals.getD who 0) sent) else vals) now := by
  have hv := h.rel who h1 h2
  by_cases hle : sent ≤ now
  · rw [if_pos hle]
    have hset : ∀ (x : Int) (j : Nat), (vals.set who x).getD j 0 = if j = who then x else vals.getD j 0 := fun x j => by
      rw [List.getD_eq_getElem?_getD, List.getD_eq_getElem?_getD, List.getElem?_set]
      by_cases e : who = j
      · subst e; rw [if_pos rfl, if_pos rfl, if_pos (by rw [h.len]; omega)]; rfl
      · rw [if_neg e, if_neg (Ne.symm e)]
    by_cases hlt : (getI H who).getD (-1) < sent
    · have e : hearI H now who sent = putI H who sent := if_pos ⟨hle, hlt⟩
      rw [e]
      have hmax : max (vals.getD who 0) sent = sent := by rw [hv]; omega
      rw [hmax]
      refine ⟨by rw [List.length_set]; exact h.len, putI_nd h.nd, fun p hp => ?_, fun p hp => ?_, fun j a b => ?_, fun j a b => ?_⟩
      · rcases putI_keys p hp with ⟨q, hq, e1, e2⟩ | ⟨e1, e2⟩
        · rw [← e1]; exact h.keys q hq
        · rw [e1]; omega
      · rcases putI_keys p hp with ⟨q, hq, e1, e2⟩ | ⟨e1, e2⟩
        · rw [← e2]; exact h.vlo q hq
        · rw [e2]; exact hs
      · rw [hset, getI_putI]
        by_cases e : j = who
        · subst e; simp
        · have : ¬ (j : Int) = who := by omega
          rw [if_neg e, if_neg this]; exact h.rel j a b
      · rw [hset]
        split
        · exact hle
        · exact h.hi j a b
    · have e : hearI H now who sent = H := if_neg fun x => hlt x.2
      rw [e]
      have hmax : max (vals.getD who 0) sent = vals.getD who 0 := by rw [hv]; omega
      rw [hmax]
      have : vals.set who (vals.getD who 0) = vals := by
        refine List.ext_getElem? fun j => ?_
        rw [List.getElem?_set]
        by_cases e : who = j
        · subst e; rw [if_pos rfl, if_pos (by rw [h.len]; omega), List.getD_eq_getElem?_getD, List.getElem?_eq_getElem (by rw [h.len]; omega)]; rfl
        · rw [if_neg e]
      rw [this]; exact h
  · rw [if_neg hle]
    have e : hearI H now who sent = H := if_neg fun x => hle x.1
    rw [e]; exact h

theorem riseGo_inc : ∀ (l o : List Int), (o ++ l).Pairwise (· < ·) → riseGo o l = o ++ l
  | [], o, _ => by rw [List.append_nil]; rfl
  | n :: r, o, h => by
    have hne : o.getLast? ≠ some n := fun e => by
      obtain ⟨hn, e⟩ := List.getLast?_eq_some_iff.mp e |>.imp fun _ x => x |> fun x => x
      subst e
      rw [List.append_assoc] at h
      have := (List.pairwise_append.mp h).2.1
      simp at this
    show riseGo (if o.getLast? = some n then o else o ++ [n]) r = _
    rw [if_neg hne, riseGo_inc r (o ++ [n]) (by rw [List.append_assoc]; exact h), List.append_assoc]; rfl
theorem srt_inc {l : List Int} (h : l.Pairwise (· < ·)) : srt l = l := (srt_of (List.Perm.refl l) (h.imp fun x => Int.le_of_lt x)).symm
theorem rise_inc {l : List Int} (h : l.Pairwise (· < ·)) : rise l = l := by
  unfold rise
  rw [srt_inc h, riseGo_inc l [] (by simpa using h)]; rfl
theorem fm_sub {c : Nat → Prop} [DecidablePred c] {f : Nat → Int} : ∀ {l : List Nat}, (l.filterMap fun k => if c k then some (f k) else none).Sublist (l.map f)
  | [] => List.Sublist.refl _
  | a :: r => by
    rw [List.filterMap_cons, List.map_cons]
    by_cases h : c a
    · rw [if_pos h]; exact fm_sub.cons_cons _
    · rw [if_neg h]; exact fm_sub.cons _
theorem ids_sub (d : Int) : (idsOf d).Sublist [1, 2, 3, 4, 5] := fm_sub (f := fun k : Nat => 1 + (k : Int))
theorem ids_inc (d : Int) : (idsOf d).Pairwise (· < ·) := List.Pairwise.sublist (ids_sub d) (by decide)
theorem ids_range (d : Int) : ∀ j ∈ idsOf d, 1 ≤ j ∧ j ≤ 5 := fun j hj => by
  have := (ids_sub d).subset hj
  simp only [List.mem_cons, List.not_mem_nil, or_false] at this
  omega
theorem ids_len (d : Int) : (idsOf d).length ≤ 5 := (ids_sub d).length_le
theorem ids_ne {d : Int} (h0 : 1 ≤ d) (h1 : d ≤ 31) : idsOf d ≠ [] := by
  intro h
  have e : ∀ k : Nat, k < 5 → d / 2 ^ k % 2 ≠ 1 := fun k hk e => by
    have : (1 + (k : Int)) ∈ idsOf d := List.mem_filterMap.mpr ⟨k, List.mem_range.mpr hk, if_pos e⟩
    rw [h] at this; cases this
  have a0 := e 0 (by decide); have a1 := e 1 (by decide); have a2 := e 2 (by decide); have a3 := e 3 (by decide); have a4 := e 4 (by decide)
  change d / 1 % 2 ≠ 1 at a0; change d / 2 % 2 ≠ 1 at a1; change d / 4 % 2 ≠ 1 at a2; change d / 8 % 2 ≠ 1 at a3; change d / 16 % 2 ≠ 1 at a4
  omega
theorem near_mem {vals : List Int} {now span : Int} {who : Nat} (h1 : 1 ≤ who) (h2 : who ≤ 5) : (who : Int) ∈ nearOf vals now span ↔ 0 ≤ vals.getD who 0 ∧ now - vals.getD who 0 + 2 ≤ span := by
  unfold nearOf
  rw [List.mem_filterMap]
  constructor
  · rintro ⟨k, hk, e⟩
    split at e
    · rename_i h
      have e := Option.some.inj e
      have : k + 1 = who := by omega
      rw [this] at h; exact h
    · cases e
  · intro h
    refine ⟨who - 1, List.mem_range.mpr (by omega), ?_⟩
    rw [show who - 1 + 1 = who by omega, if_pos h]
    congr 1; omega
theorem near_holds {H : List (Int × Int)} {vals : List Int} {now span : Int} (h : HV H vals now) {who : Nat} (h1 : 1 ≤ who) (h2 : who ≤ 5) : nearB H now span who = decide ((who : Int) ∈ nearOf vals now span) := by
  rw [Bool.eq_iff_iff, decide_eq_true_iff, near_mem h1 h2, h.rel who h1 h2]
  unfold nearB
  cases e : getI H who with
  | none => simp
  | some s =>
    have := h.vlo _ (getI_mem e)
    simp only [Option.getD_some, decide_eq_true_eq]
    dsimp only at this
    omega
theorem holds_wins {H : List (Int × Int)} {vals : List Int} {now span nid : Int} (h : HV H vals now) {A : List Int} (hA : ∀ j ∈ A, 1 ≤ j ∧ j ≤ 5) (hne : A ≠ []) : majB A (holdF H now span nid) = winOf (nid :: nearOf vals now span) A := by
  have e : A.filter (holdF H now span nid) = A.filter fun j => decide (j ∈ nid :: nearOf vals now span) := by
    refine List.filter_congr fun j hj => ?_
    obtain ⟨a, b⟩ := hA j hj
    obtain ⟨k, rfl⟩ := Int.eq_ofNat_of_zero_le (show 0 ≤ j by omega)
    unfold holdF
    rw [near_holds h (who := k) (by omega) (by omega), Bool.eq_iff_iff]
    simp
  unfold majB winOf
  rw [e, Bool.eq_iff_iff, decide_eq_true_iff, decide_eq_true_iff]
  constructor
  · rintro (h | h)
    · exact absurd h hne
    · omega
  · intro h; right; omega
theorem maj_nil {f : Int → Bool} : majB [] f = true := rfl
theorem maj_one {f : Int → Bool} {w : Int} : majB [w] f = f w := by
  unfold majB
  cases e : f w <;> simp [e]
noncomputable def addA (acks : List Int) (who : Int) : List Int := if who ∈ acks then acks else acks ++ [who]
theorem addA_put {acks : List Int} {who : Int} : putM (acks.map fun j => (j, MV.bool true)) who (.bool true) = (addA acks who).map fun j => (j, MV.bool true) := by
  unfold addA
  by_cases h : who ∈ acks
  · rw [if_pos h]
    unfold putM
    rw [if_pos (List.any_eq_true.mpr ⟨(who, .bool true), List.mem_map.mpr ⟨who, h, rfl⟩, by simp⟩), List.map_map]
    refine List.map_congr_left fun j _ => ?_
    show (if j = who then (j, MV.bool true) else (j, MV.bool true)) = _
    split <;> rfl
  · rw [if_neg h, putM_new (F := fun _ => .bool true) h, List.map_append]; rfl

noncomputable def lawFd (P : Params) : Option FuncData := match (heapK P).lookup 454 with | some ⟨_, _, .func fd, _⟩ => some fd | _ => none
noncomputable def lawBody (P : Params) : List Stmt := match lawFd P with | some fd => (match fd.body with | .stmts b => b | _ => []) | none => []
noncomputable def lawScope (P : Params) : List (Str × NameKind) := match lawFd P with | some fd => fd.scope.names | none => []
noncomputable abbrev lawNames : List (Str × NameKind) := [(Str.ofString "script", NameKind.local), (Str.ofString "x", NameKind.local), (Str.ofString "nums", NameKind.local), (Str.ofString "halves", NameKind.local), (Str.ofString "going", NameKind.local), (Str.ofString "conf", NameKind.local), (Str.ofString "span", NameKind.local), (Str.ofString "nid", NameKind.local), (Str.ofString "option", NameKind.local), (Str.ofString "born", NameKind.local), (Str.ofString "ro", NameKind.local), (Str.ofString "lease", NameKind.local), (Str.ofString "now", NameKind.local), (Str.ofString "turn", NameKind.local), (Str.ofString "newest", NameKind.local), (Str.ofString "names", NameKind.local), (Str.ofString "asked", NameKind.local), (Str.ofString "marks", NameKind.local), (Str.ofString "said", NameKind.local), (Str.ofString "beats", NameKind.local), (Str.ofString "gone", NameKind.local), (Str.ofString "i", NameKind.local), (Str.ofString "n", NameKind.local), (Str.ofString "way", NameKind.local), (Str.ofString "y", NameKind.cell), (Str.ofString "told", NameKind.local), (Str.ofString "m", NameKind.local), (Str.ofString "name", NameKind.local), (Str.ofString "context", NameKind.cell), (Str.ofString "who", NameKind.local), (Str.ofString "sent", NameKind.local), (Str.ofString "due", NameKind.local), (Str.ofString "upto", NameKind.local), (Str.ofString "unknown", NameKind.local), (Str.ofString "j", NameKind.local), (Str.ofString "free", NameKind.local), (Str.ofString "waiting", NameKind.local), (Str.ofString "len", NameKind.globalImplicit), (Str.ofString "_law_ids", NameKind.globalImplicit), (Str.ofString "Config", NameKind.globalImplicit), (Str.ofString "SAFE", NameKind.globalImplicit), (Str.ofString "LEASE", NameKind.globalImplicit), (Str.ofString "ReadOnly", NameKind.globalImplicit), (Str.ofString "Lease", NameKind.globalImplicit), (Str.ofString "range", NameKind.globalImplicit), (Str.ofString "_law_draw", NameKind.globalImplicit), (Str.ofString "Message", NameKind.globalImplicit), (Str.ofString "MSG_READ_INDEX", NameKind.globalImplicit), (Str.ofString "bytes", NameKind.globalImplicit), (Str.ofString "_law_eight", NameKind.globalImplicit), (Str.ofString "_law_strange", NameKind.globalImplicit), (Str.ofString "sum", NameKind.globalImplicit), (Str.ofString "max", NameKind.globalImplicit), (Str.ofString "sorted", NameKind.globalImplicit), (Str.ofString "_law_wins", NameKind.globalImplicit), (Str.ofString "tuple", NameKind.globalImplicit), (Str.ofString "_law_near", NameKind.globalImplicit)]
theorem law_names (P : Params) : (lawNames.all fun p => (lawScope P).lookup p.1 == some p.2) = true := by kernel_rfl

section
variable {g : G} {X : Cx g} {σ : St} {lm : Lm} {os : Os} {Q : VQ}
/-- a slice of a list that stood before the call -/
theorem Ev_slold {x : Str} {px p pos : Pos} {upper : Option PySem.Expr} {l : Addr} {vs : List Value} {ns : List Int} {hi : Option Int} (h : Ev X (.Name x px) σ fun o σ₁ => EvP X upper σ₁ fun u σ₂ => o = .ref l ∧ g.h₀.IsList l vs.toArray ∧ IntsAre vs ns ∧ ns.length ≤ 1000 ∧ IsPt u hi ∧ ∀ b, Q (.ref b) ⟨σ₂.lm, (b, .lst ((sliced ns none hi).map .int)) :: σ₂.os⟩)
    (ht : ∀ o r, letTemporaryGo (.Name x px) o r = Pure.pure () := by exact fun _ _ => rfl) : Ev X (.Subscript (.Name x px) (.Slice none upper none p) pos) σ Q := fun s R => by
  refine wpAny_Subscript_list_slice (wpAny_mono (h s R) (fun v s₁ ⟨σ₁, R₁, m1, i1, h₁⟩ => wpAny_evalPart_none (wpAny_mono (h₁ s₁ R₁) (fun vu s₃ hx => ?_) fun _ _ e => e)) fun _ _ e => e) ht
  obtain ⟨σ₃, R₃, m3, i3, e1, hL, hI, hl, p2, q⟩ := hx
  subst e1; subst i1
  obtain ⟨ol, hol, r⟩ := hL
  have hp : s₃.heap.IsList l vs.toArray := ⟨ol, R₃.keep _ _ hol, r⟩
  have hlen : vs.length = ns.length := hI.length
  refine ⟨l, _, none, hi, rfl, hp, by rw [List.size_toArray, hlen, sizeLine_eq]; omega, .none, p2.at i3, ?_⟩
  have R4 := R₃.pushed { cls := .type "slice", data := .fields #[.none, vu, .none] }
  refine ⟨_, R4.add (tk := s₃.toks) (mo := .lst ((sliced ns none hi).map .int)) (fun _ _ e => Heap.get?_push_of_some _ e) (by rw [Heap.size_push]; exact Nat.le_refl _) ?_, .ref _, rfl, q _⟩
  have hsz : (s₃.heap.push { cls := .type "slice", data := .fields #[.none, vu, .none] }).objs.size = s₃.heap.objs.size + 1 := Heap.size_push ..
  have hi' := of_ints hI
  refine ⟨sliced vs none hi, ⟨0, ?_⟩, ?_⟩
  · have e := slicePick_plain vs.toArray none hi
    rw [List.size_toArray, List.toList_toArray] at e
    rw [← hsz, e]; exact Heap.get?_push_size _ rfl
  · unfold sliced
    rw [List.map_take, List.map_drop, ← hlen]
    exact (hi'.drop _).take _
end
theorem Exs_join {g : G} {X : Cx g} {σ : St} {st : Stmt} {rest : List Stmt} {Q : FQ} {P : Lm → Os → Prop} (h : Ex X st σ fun f σ' => (f = .next ∧ ∃ lm os, Wkn σ'.lm lm ∧ Wkn σ'.os os ∧ P lm os) ∨ (f ≠ .next ∧ Q f σ')) (k : ∀ lm os, P lm os → Exs X rest ⟨lm, os⟩ Q) : Exs X (st :: rest) σ Q :=
  Exs_cut (fun σ' => ∃ lm os, Wkn σ'.lm lm ∧ Wkn σ'.os os ∧ P lm os) h fun σ' ⟨lm, os, w1, w2, p⟩ => Tri.pre (k lm os p) w1 w2
/-- what does not change in the main loop -/
structure Conf where
  A : List Int
  B : List Int
  two : Bool
  span : Int
  nid : Int
  opt : Int
  born : Int
  x : Int
  N : List Int
structure Conf.Ok (c : Conf) : Prop where
  a : ∃ d, 1 ≤ d ∧ d ≤ 31 ∧ idsOf d = c.A
  b : (c.two = true ∧ ∃ d, 1 ≤ d ∧ d ≤ 31 ∧ c.B = idsOf d) ∨ (c.two = false ∧ c.B = [])
  span : 2 ≤ c.span ∧ c.span ≤ 5
  born : 0 ≤ c.born ∧ c.born ≤ 4294967294
  x : 0 ≤ c.x ∧ c.x < 1000000
  n0 : 0 < c.N.length
  n1 : c.N.length ≤ 17
  nr : ∀ n ∈ c.N, 0 ≤ n ∧ n < 1000000
structure Ads where
  nu : Addr
  ha : Addr
  ia : Addr
  ib : Addr
  cf : Addr
  cd : Addr
  b1 : Addr
  b2 : Addr
  b3 : Addr
  b4 : Addr
  r : Addr
  rd : Addr
  pd : Addr
  l : Addr
  ld : Addr
  hd : Addr
noncomputable def lawOs (a : Ads) (c : Conf) (now serial : Int) (q : Addr) (ps : List PS) (H : List (Int × Int)) (T : Os) : Os :=
  (a.l, .ins 352 a.ld) :: (a.ld, .ns (leaseNs c.span now a.hd)) :: (a.hd, dicI H) :: (a.r, .ins 408 a.rd) :: (a.rd, .ns (roNs c.opt serial a.pd q)) :: (a.pd, .dicb (penM ps)) :: (q, .lst (namM ps)) ::
  (a.cf, .ins 268 a.cd) :: (a.cd, .ns (confNs a.b1 a.b2 a.b3 a.b4)) :: (a.b1, .lst (c.A.map .int)) :: (a.b2, .lst (c.B.map .int)) ::
  (a.ha, .lst (if c.two = true then [.ref a.ia, .ref a.ib] else [.ref a.ia])) :: (a.ia, .lst (c.A.map .int)) :: (a.ib, .lst (c.B.map .int)) :: (a.nu, .lst (c.N.map .int)) :: T
noncomputable def lawLm (a : Ads) (c : Conf) (now : Int) (L : Lm) : Lm :=
  ("now", .int now) :: ("lease", .ref a.l) :: ("ro", .ref a.r) :: ("born", .int c.born) :: ("option", .int c.opt) :: ("nid", .int c.nid) :: ("span", .int c.span) :: ("conf", .ref a.cf) :: ("halves", .ref a.ha) :: ("x", .int c.x) :: ("nums", .ref a.nu) :: L
theorem law_pre {g : G} (hK : OnK g) {X : Cx g} (room : Room X.A 40) (kn : Kn X.env lawNames) {cy cc : Addr} (cells : X.env.cells = ([("context", cc), ("y", cy)] : List (Str × Addr))) (hbk : X.env.blockKind = .function)
    {l : Addr} {vs : List Value} {ns : List Int} (hL : g.h₀.IsList l vs.toArray) (hI : IntsAre vs ns) (hl : ns.length ≤ 63)
    (tail : ∀ (a : Ads) (c : Conf) (q : Addr) (now : Int), c.Ok → 0 ≤ now → now ≤ 300 → Exs X ((lawBody g.w.params).drop 15) ⟨lawLm a c now [], lawOs a c 0 c.born q [] [] []⟩ fun fl σ' => fl = .ret (.bool true)) :
    Exs X (lawBody g.w.params) ⟨[("script", .ref l)], []⟩ fun fl σ' => fl = .ret (.bool true) := by
  refine Exs_join (P := fun lm os => ∃ (nu : Addr) (N : List Int), N.length ≤ 17 ∧ (∀ n ∈ N, 0 ≤ n ∧ n < 1000000) ∧ lm = ([("nums", .ref nu)] : Lm) ∧ os = ([(nu, .lst (N.map .int))] : Os)) ?_ ?_
  · refine Ex_asgc (cl := []) (CompOk.of kn cells rfl (by decide +kernel)) [] ?_ ?_ (fun _ => rfl)
    · have hk : X.env.kindOf "nums" = some .local := kn.at (by wtm_at "m mem")
      show (Pure.pure _ : Sem Bool) = _
      rw [hbk, hk]; rfl
    · refine Ev_slold (ns := ns) (vs := vs) (l := l) (hi := some 17) ?_
      wtm_at "m go"
      refine ⟨rfl, hL, hI, by omega, .int, fun b => ?_⟩
      have hn17 : (sliced ns none (some 17)).length ≤ 17 := by
        unfold sliced
        simp only [Option.elim, List.drop_zero, List.length_take, Nat.sub_zero]
        have : clipAt ns.length 17 ≤ 17 := by unfold clipAt; simp; omega
        omega
      generalize sliced ns none (some 17) = N at *
      refine CompGo_ints (ns := N) (fun i => (some (N.getD i 0 % 999983)).map MV.int) (by wtm_at "m pick") (by omega) (by wtm_at "m wk") rfl ?_ ?_
      · intro Y hA hn hc i v hv
        replace hn : Kn Y.env [(".0", .local), ("x", .local)] := hn
        have e : N.getD i 0 = v := by rw [List.getD_eq_getElem?_getD, hv]; rfl
        rw [e]
        wtm_at "m go"
        wtm_at "m ce"
      · intro D
        rw [fm_int]
        intro fr
        wtm_at "m go"
        refine .inl ⟨rfl, _, _, Wq.wkn (by wtm_at "m wq"), Wq.wkn (by wtm_at "m wq"), D, _, ?_, ?_, rfl, rfl⟩
        · refine Nat.le_trans (List.length_filterMap_le _ _) ?_
          rw [List.length_range]; exact hn17
        · intro n hn
          obtain ⟨i, _, e⟩ := List.mem_filterMap.mp hn
          cases e
          have h1 := Int.emod_nonneg (N.getD i 0) (show (999983 : Int) ≠ 0 by decide)
          have h2 := Int.emod_lt_of_pos (N.getD i 0) (show (0 : Int) < 999983 by decide)
          omega
  · rintro lm os ⟨nu, N, hN1, hN2, rfl, rfl⟩
    refine Exs_join (P := fun lm os => ∃ (nu : Addr) (N : List Int), 0 < N.length ∧ N.length ≤ 17 ∧ (∀ n ∈ N, 0 ≤ n ∧ n < 1000000) ∧ lm = ([("nums", .ref nu)] : Lm) ∧ os = ([(nu, .lst (N.map .int))] : Os)) ?_ ?_
    · wtm_at "m go"
      · rename_i b
        exact .inl ⟨rfl, _, _, Wq.wkn (by wtm_at "m wq"), Wq.wkn (by wtm_at "m wq"), b, [6], by decide, by decide, by decide, rfl, rfl⟩
      · rename_i h
        rw [List.length_map] at h
        exact .inl ⟨rfl, _, _, Wq.wkn (by wtm_at "m wq"), Wq.wkn (by wtm_at "m wq"), nu, N, by omega, hN1, hN2, rfl, rfl⟩
    · clear hN1 hN2 N nu
      rintro lm os ⟨nu, N, hN0, hN1, hN2, rfl, rfl⟩
      wtm_at "m go"
      obtain ⟨x, N', rfl⟩ : ∃ x N', N = x :: N' := by
        cases N with
        | nil => cases hN0
        | cons x N' => exact ⟨x, N', rfl⟩
      have hx := hN2 x (.head _)
      refine Sub_list (mv := .int x) (by wtm_at "m mem") .lst (by decide) (by decide) rfl ?_ (fun _ _ => ⟨_, rfl⟩)
      wtm_at "m go"
      refine CfnE1 (fn_ids hK (k := 0)) (room.le (by first | decide | exact Nat.add_le_add_left (by decide) _ | omega)) .nil ?_
      intro ia
      simp only [osApp]
      wtm_at "m gi"
      rename_i ha ib
      have hd1 : 1 ≤ 1 + x % 31 := by omega
      have hd2 : 1 + x % 31 ≤ 31 := by omega
      generalize hAe : idsOf (1 + x % 31) = A
      refine Exs_join (P := fun lm os => ∃ (ib : Addr) (B : List Int) (two : Bool), ((two = true ∧ ∃ d, 1 ≤ d ∧ d ≤ 31 ∧ B = idsOf d) ∨ (two = false ∧ B = [])) ∧ lm = ([("halves", .ref ha), ("going", .ref ib), ("x", .int x), ("nums", .ref nu)] : Lm) ∧ os = ([(ha, .lst (if two = true then [.ref ia, .ref ib] else [.ref ia])), (ia, .lst (A.map .int)), (ib, .lst (B.map .int)), (nu, .lst ((x :: N').map .int))] : Os)) ?_ ?_
      · wtm_at "m go"
        · refine CfnE1 (fn_ids hK (k := 0)) (room.le (by first | decide | exact Nat.add_le_add_left (by decide) _ | omega)) .nil ?_
          intro ib
          simp only [osApp]
          wtm_at "m go"
          exact .inl ⟨rfl, _, _, Wq.wkn (by wtm_at "m wq"), Wq.wkn (by wtm_at "m wq"), ib, idsOf (1 + x / 62 % 31), true, .inl ⟨rfl, _, by omega, by omega, rfl⟩, rfl, rfl⟩
        · exact .inl ⟨rfl, _, _, Wq.wkn (by wtm_at "m wq"), Wq.wkn (by wtm_at "m wq"), ib, [], false, .inr ⟨rfl, rfl⟩, rfl, rfl⟩
      · clear ib
        rintro lm os ⟨ib, B, two, hB, rfl, rfl⟩
        wtm_at "m go"
        refine Sub_list (mv := .ref ia) (by wtm_at "m mem") .lst (by decide) (by decide) (by cases two <;> rfl) ?_ (fun _ _ => ⟨_, rfl⟩)
        wtm_at "m go"
        rename_i e3 e4
        have hAl : A.length ≤ 5 := hAe ▸ ids_len _
        have hBl : B.length ≤ 5 := by
          rcases hB with ⟨_, d, _, _, rfl⟩ | ⟨_, rfl⟩
          · exact ids_len _
          · decide
        refine Ccls (fp := [(ia, .lst (A.map .int)), (ib, .lst (B.map .int)), (e3, .lst (([] : List Int).map .int)), (e4, .lst (([] : List Int).map .int))]) (cls_Config hK) (fun x d => fn_conf_init hK (k := 0) (x := x) (d := d) (a1 := ia) (a2 := ib) (a3 := e3) (a4 := e4) (V := A) (O := B) (by omega) (by omega)) (room.le (by first | decide | exact Nat.add_le_add_left (by decide) _ | omega)) (by wtm_at "m sel") ?_
        rintro cf cd _ ⟨b1, b2, b3, b4, rfl⟩
        simp only [osApp]
        wtm_at "m go"
        have hop : x / 3 % 2 = 0 ∨ x / 3 % 2 = 1 := by omega
        refine Sub_tuple (mv := .int (x / 3 % 2)) (by wtm_at "m mem") (by omega) (by omega) (by rcases hop with h | h <;> rw [h] <;> rfl) ?_ (fun _ _ => ⟨_, rfl⟩)
        wtm_at "m go"
        have hbo : (x + 2) % 4 = 0 ∨ (x + 2) % 4 = 1 ∨ (x + 2) % 4 = 2 ∨ (x + 2) % 4 = 3 := by omega
        obtain ⟨bn, hbn, hbx⟩ : ∃ bn : Int, (0 ≤ bn ∧ bn ≤ 4294967294) ∧ ([.int 0, .int 254, .int 65534, .int 4294967294] : List MV)[((x + 2) % 4).toNat]? = some (.int bn) := by
          rcases hbo with h | h | h | h <;> rw [h]
          · exact ⟨0, by decide, rfl⟩
          · exact ⟨254, by decide, rfl⟩
          · exact ⟨65534, by decide, rfl⟩
          · exact ⟨4294967294, by decide, rfl⟩
        refine Sub_tuple (mv := .int bn) (by wtm_at "m mem") (by omega) (by omega) hbx ?_ (fun _ _ => ⟨_, rfl⟩)
        wtm_at "m go"
        generalize hopt : x / 3 % 2 = opt at *
        refine Ccls (cls_ReadOnly hK) (fun x d => fn_ro_init hK (k := 0) (x := x) (d := d) (option := opt)) (room.le (by first | decide | exact Nat.add_le_add_left (by decide) _ | omega)) .nil ?_
        rintro r rd _ ⟨pd, q, rfl⟩
        simp only [osApp]
        wtm_at "m go"
        have hsp : 2 ≤ 2 + (x / 7 + 2) % 4 ∧ 2 + (x / 7 + 2) % 4 ≤ 5 := by omega
        generalize 2 + (x / 7 + 2) % 4 = span at *
        generalize 1 + x / 5 % 6 = nid at *
        refine Ccls (cls_Lease hK) (fun x d => fn_lease_init hK (k := 0) (x := x) (d := d) (span := span)) (room.le (by first | decide | exact Nat.add_le_add_left (by decide) _ | omega)) .nil ?_
        rintro l' ld _ ⟨hd', rfl⟩
        simp only [osApp]
        wtm_at "m gs"
        have hrA : rise A = A := by rw [← hAe]; exact rise_inc (ids_inc _)
        have hrB : rise B = B := by
          rcases hB with ⟨_, d, _, _, rfl⟩ | ⟨_, rfl⟩
          · exact rise_inc (ids_inc _)
          · exact rise_inc .nil
        rw [hrA, hrB]
        let c : Conf := ⟨A, B, two, span, nid, opt, bn, x, x :: N'⟩
        have hc : c.Ok := ⟨⟨_, hd1, hd2, hAe⟩, hB, hsp, hbn, hx, hN0, hN1, hN2⟩
        let a : Ads := ⟨nu, ha, ia, ib, cf, cd, b1, b2, b3, b4, r, rd, pd, l', ld, hd'⟩
        refine Exs_join (P := fun lm os => ∃ now : Int, 0 ≤ now ∧ now ≤ 300 ∧ lm = lawLm a c now [] ∧ os = lawOs a c 0 bn q [] [] []) ?_ ?_
        · wtm_at "m go"
          · rw [List.length_map]; omega
          · exact .inl ⟨rfl, _, _, Wq.wkn (by simp only [lawLm, a, c]; wtm_at "m wq"), Wq.wkn (by simp only [lawOs, a, c, penM, namM, List.map_nil]; wtm_at "m wq"), (x + 9) % 301, by omega, by omega, rfl, rfl⟩
          · exact .inl ⟨rfl, _, _, Wq.wkn (by simp only [lawLm, a, c]; wtm_at "m wq"), Wq.wkn (by simp only [lawOs, a, c, penM, namM, List.map_nil]; wtm_at "m wq"), (x + 9) % 41, by omega, by omega, rfl, rfl⟩
        · rintro lm os ⟨now, h0, h1, rfl, rfl⟩
          exact tail a c q now hc h0 h1

/-- a request, from the law's side -/
structure RQ where
  idx : Int
  frm : Int
  ctx : List UInt8
  acks : List Int
  ta : Addr
  tr : Addr
  et : Addr
  sa : Addr
noncomputable abbrev RQ.os (r : RQ) : Os := [(r.ta, .tup [.int r.idx, .ref r.tr]), (r.tr, rowTup 15 1 r.frm 0 r.et r.ctx), (r.et, .tup []), (r.sa, .lst (r.acks.map .int))]
noncomputable def segR (rs : List RQ) : Os := rs.flatMap RQ.os
noncomputable def namesM (born : Int) (n : Nat) : List MV := (List.range n).map fun j : Nat => .bytes (le 8 (born + j + 1))
structure Dat where
  rq : List RQ
  gone : Nat
  ps : List PS
  H : List (Int × Int)
  vals : List Int
  now : Int
  beats : List (List UInt8)
structure Links (born : Int) (rq : List RQ) (gone : Nat) (ps : List PS) : Prop where
  le : gone ≤ rq.length
  len : ps.length = rq.length - gone
  link : ∀ (i : Nat) (p : PS), ps[i]? = some p → ∃ r, rq[gone + i]? = some r ∧ p.idx = r.idx ∧ p.frm = r.frm ∧ p.ctx = r.ctx ∧ p.acks = r.acks ∧ p.name = Mine.le 8 (born + ((gone + i : Nat) : Int) + 1)
structure Dat.Ok (c : Conf) (t : Nat) (d : Dat) : Prop where
  lk : Links c.born d.rq d.gone d.ps
  hv : HV d.H d.vals d.now
  now : 0 ≤ d.now ∧ d.now ≤ 300 + 3 * t
  cnt : d.rq.length ≤ t
  acks : ∀ r ∈ d.rq, r.acks.Nodup ∧ ∀ j ∈ r.acks, 1 ≤ j ∧ j ≤ 5
  bts : d.beats.length ≤ t ∧ ∀ b ∈ d.beats, b.length ≤ 200
  fst : 1 ≤ t → 1 ≤ d.rq.length
  snd : 2 ≤ t → 1 ≤ d.beats.length
structure Bds where
  q : Addr
  nw : Addr
  nm : Addr
  ak : Addr
  mz : Addr
  sd : Addr
  bt : Addr
noncomputable def mainLm (a : Ads) (c : Conf) (b : Bds) (d : Dat) : Lm :=
  lawLm a c d.now [("newest", .ref b.nw), ("names", .ref b.nm), ("asked", .ref b.ak), ("marks", .ref b.mz), ("said", .ref b.sd), ("beats", .ref b.bt), ("gone", .int d.gone)]
noncomputable def mainOs (a : Ads) (c : Conf) (b : Bds) (d : Dat) : Os :=
  lawOs a c d.now (c.born + d.rq.length) b.q d.ps d.H ((b.nw, .lsi (d.vals.map .int)) :: (b.nm, .lst (namesM c.born d.rq.length)) :: (b.ak, .lst (d.rq.map fun r => .ref r.ta)) :: (b.mz, .lst (d.rq.map fun r => .bytes r.ctx)) :: (b.sd, .lst (d.rq.map fun r => .ref r.sa)) :: (b.bt, .lst (d.beats.map .bytes)) :: (segR d.rq ++ segs d.ps))
theorem Tri.lsi {g : G} {X : Cx g} {α : Type} {m : Sem α} {Q : α → St → Prop} {lm : Lm} {os os' : Os} {a : Addr} {xs : List MV} (hm : (a, MO.lst xs) ∈ os) (u : Put a (.lsi xs) os os') (h : Tri X m ⟨lm, os'⟩ Q) : Tri X m ⟨lm, os⟩ Q := fun s R => by
  obtain ⟨vs, hp, hi⟩ := R.at hm
  exact h s (R.put (tk := s.toks) (h' := s.heap) u ⟨rfl, fun _ _ => rfl⟩ ⟨vs, hp.isList, hi⟩)
theorem law_ticks {g : G} (hK : OnK g) {X : Cx g} (room : Room X.A 40) (kn : Kn X.env lawNames) {a : Ads} {c : Conf} {q : Addr} {now : Int} (hc : c.Ok) (h0 : 0 ≤ now) (h1 : now ≤ 300)
    (tail : ∀ (b : Bds) (d : Dat), d.Ok c 0 → Exs X ((lawBody g.w.params).drop 23) ⟨mainLm a c b d, mainOs a c b d⟩ fun fl σ' => fl = .ret (.bool true)) :
    Exs X ((lawBody g.w.params).drop 15) ⟨lawLm a c now [], lawOs a c 0 c.born q [] [] []⟩ fun fl σ' => fl = .ret (.bool true) := by
  refine Exs_join (P := fun lm os => lm = lawLm a c now [] ∧ os = lawOs a c now c.born q [] [] []) ?_ ?_
  · simp only [lawLm, lawOs]
    wtm_at "m go"
    refine ForGo_rng (fun i lm os => lm = lawLm a c now [] ∧ os = lawOs a c (i : Nat) c.born q [] [] []) (by wtm_at "m pick") (by decide) (by omega) ?_ ?_ ?_
    · exact ⟨by simp only [lawLm], by simp only [lawOs]; rfl⟩
    · rintro i lm os fr hi ⟨rfl, rfl⟩
      simp only [lawLm, lawOs]
      wtm_at "m go"
      refine CfnE (fn_tick hK (k := 0)) (room.le (by first | decide | exact Nat.add_le_add_left (by decide) _ | omega)) (by wtm_at "m sel") (by wtm_at "m app") ?_
      wtm_at "m go"
      refine ⟨_, _, Wq.wkn (by wtm_at "m wq"), Wq.wkn (by wtm_at "m wq"), rfl, ?_⟩
      rfl
    · rintro lm os ⟨rfl, rfl⟩
      rw [show (((now - 0).toNat : Nat) : Int) = now by omega]
      exact .inl ⟨rfl, _, _, Wkn.refl, ⟨fun p hp => .tail _ hp, fun nd => (List.nodup_cons.mp nd).2⟩, rfl, rfl⟩
  · rintro lm os ⟨rfl, rfl⟩
    simp only [lawLm, lawOs]
    wtm_at "m go"
    refine Op_mull1' (by wtm_at "m mem") (by decide) (by decide) (fun nw => ?_)
    wtm_at "m gf"
    rename_i nm ak mz sd bt
    refine Tri.lsi (a := nw) (by wtm_at "m mem") (by wtm_at "m put") ?_
    refine Tri.pre (tail ⟨q, nw, nm, ak, mz, sd, bt⟩ ⟨[], 0, [], [], List.replicate 6 (-1), now, []⟩ ?_) ?_ ?_
    · refine ⟨⟨Nat.le_refl _, rfl, fun i p h => by cases h⟩, ⟨rfl, .nil, fun p hp => (by cases hp), fun p hp => (by cases hp), fun j h1 h2 => ?_, fun j h1 h2 => ?_⟩, ⟨h0, show now ≤ 300 + 3 * ((0 : Nat) : Int) by omega⟩, Nat.le_refl _, fun r hr => (by cases hr), ⟨Nat.le_refl _, fun b hb => (by cases hb)⟩, fun h => absurd h (by decide), fun h => absurd h (by decide)⟩
      · rw [List.getD_eq_getElem?_getD, List.getElem?_replicate, if_pos (by omega)]; rfl
      · rw [List.getD_eq_getElem?_getD, List.getElem?_replicate, if_pos (by omega)]; show (-1 : Int) ≤ now; omega
    · simp only [mainLm, lawLm]
      wtm_at "m wk"
    · simp only [mainOs, lawOs, segR, segs, namesM, List.flatMap_nil, List.append_nil, List.map_nil, List.length_nil, List.range_zero, Int.ofNat_zero, Int.natCast_zero, Int.add_zero]
      wtm_at "m wk"

theorem cell_at {env : Env} {cells : List (Str × Addr)} {x : Str} {c : Addr} (h : env.cells = cells) (e : cells.lookup x = some c) : env.cells.lookup x = some c := h ▸ e

noncomputable def forBody : List Stmt → List Stmt
  | .For _ _ b _ _ :: _ => b
  | _ => []
noncomputable def turnBody (P : Params) : List Stmt := forBody ((lawBody P).drop 23)
/-- what one turn leaves -/
noncomputable def TurnQ (a : Ads) (c : Conf) (t : Nat) : FQ := fun fl σ' => fl = .next ∧ ∃ b d, Dat.Ok c t d ∧ Wkn σ'.lm (mainLm a c b d) ∧ Wkn σ'.os (mainOs a c b d)
theorem law_for {g : G} (hK : OnK g) {X : Cx g} (room : Room X.A 40) (kn : Kn X.env lawNames) {a : Ads} {c : Conf} {b : Bds} {d : Dat} (hc : c.Ok) (hd : d.Ok c 0)
    (turn : ∀ (fr : Os) (t : Nat) (b : Bds) (d : Dat), t < 16 → d.Ok c t → Exs (X.fz fr) (turnBody g.w.params) ⟨("i", .int (1 + (t : Int))) :: mainLm a c b d, mainOs a c b d⟩ (TurnQ a c (t + 1)))
    (tail : ∀ (t : Nat) (b : Bds) (d : Dat), 2 ≤ t → t ≤ 16 → d.Ok c t → Exs X ((lawBody g.w.params).drop 24) ⟨mainLm a c b d, mainOs a c b d⟩ fun fl σ' => fl = .ret (.bool true)) :
    Exs X ((lawBody g.w.params).drop 23) ⟨mainLm a c b d, mainOs a c b d⟩ fun fl σ' => fl = .ret (.bool true) := by
  have n1 := hc.n1
  have n0 := hc.n0
  have go : ∀ (ax : Addr) (K : Int) (Q : FQ) (os : Os), (K = 17 ∨ K = 11) → (∀ lm os, (∃ t b d, 2 ≤ t ∧ t ≤ 16 ∧ Dat.Ok c t d ∧ lm = mainLm a c b d ∧ os = mainOs a c b d) → Q .next ⟨lm, (ax, .rng 1 K) :: os⟩) →
      ∀ {tgt : PySem.Expr} {body : List Stmt}, (∃ p, tgt = .Name "i" p) → body = turnBody g.w.params → ForGo X tgt body (.ref ax) ⟨mainLm a c b d, (ax, .rng 1 K) :: mainOs a c b d⟩ Q := by
    rintro ax K Q os hKK done tgt body ⟨p, rfl⟩ rfl
    refine ForGo_rng (fun t lm os => ∃ b d, Dat.Ok c t d ∧ lm = mainLm a c b d ∧ os = mainOs a c b d) .head (by decide) (by omega) ⟨b, d, hd, rfl, rfl⟩ ?_ ?_
    · rintro t lm os fr ht ⟨b, d, hd, rfl, rfl⟩
      refine Asg_name ?_
      refine Sto_new' (by kernel_rfl) (kn.at (by wtm_at "m mem")) ?_ (by decide +kernel)
      refine Tri.mono (turn fr t b d (by omega) hd) ?_
      rintro fl σ' ⟨rfl, b', d', hd', w1, w2⟩
      exact ⟨_, _, w1, w2, b', d', hd', rfl, rfl⟩
    · rintro lm os ⟨b', d', hd', rfl, rfl⟩
      exact done _ _ ⟨_, b', d', by omega, by omega, hd', rfl, rfl⟩
  have out : ∀ (ax : Addr) (K : Int) lm os, (∃ t b d, 2 ≤ t ∧ t ≤ 16 ∧ Dat.Ok c t d ∧ lm = mainLm a c b d ∧ os = mainOs a c b d) → Exs X ((lawBody g.w.params).drop 24) ⟨lm, (ax, .rng 1 K) :: os⟩ fun fl σ' => fl = .ret (.bool true) := by
    rintro ax K lm os ⟨t, b, d, h1, h2, hd, rfl, rfl⟩
    exact Tri.pre (tail t b d h1 h2 hd) Wkn.refl ⟨fun p hp => .tail _ hp, fun nd => (List.nodup_cons.mp nd).2⟩
  simp only [mainLm, mainOs, lawLm, lawOs]
  refine Exs_cons ?_
  refine Ex_for' ?_ (fun _ => by with_unfolding_all rfl)
  wtm_at "m go"
  · rename_i ax
    refine go ax 17 _ [] (.inl rfl) ?_ ⟨_, rfl⟩ rfl
    exact out ax 17
  · rename_i ax
    refine go ax 11 _ [] (.inr rfl) ?_ ⟨_, rfl⟩ rfl
    exact out ax 11

local macro_rules | `(tactic| wtm_at "m cell") => `(tactic| exact cell_at (by assumption) (by with_unfolding_all rfl))
/-- messages told in a turn -/
structure Msg where
  t : Addr
  who : Nat
  ctx : List UInt8
noncomputable def segM (ms : List Msg) : Os := ms.map fun m => (m.t, .tup [.int m.who, .bytes m.ctx])
noncomputable def MsgsOk (ms : List Msg) : Prop := ms.length ≤ 3 ∧ ∀ m ∈ ms, 1 ≤ m.who ∧ m.who ≤ 5 ∧ m.ctx.length ≤ 200
theorem Dat.Ok.up {c : Conf} {t : Nat} {d : Dat} (h : d.Ok c t) (h1 : 1 ≤ d.rq.length) (h2 : 1 ≤ t → 1 ≤ d.beats.length) : d.Ok c (t + 1) :=
  ⟨h.lk, h.hv, ⟨h.now.1, by have := h.now.2; omega⟩, Nat.le_succ_of_le h.cnt, h.acks, ⟨Nat.le_succ_of_le h.bts.1, h.bts.2⟩, fun _ => h1, fun h => h2 (by omega)⟩
theorem law_turn1 {g : G} (hK : OnK g) {X : Cx g} (room : Room X.A 40) (kn : Kn X.env lawNames) {cy cc : Addr} (cells : X.env.cells = ([("context", cc), ("y", cy)] : List (Str × Addr))) {a : Ads} {c : Conf} {b : Bds} {d : Dat} {t : Nat} (ht : t < 16) (hc : c.Ok) (hd : d.Ok c t)
    (tail : ∀ (way y : Int), 0 ≤ way → way < 8 → 0 ≤ y → y < 100000000 → (t = 0 → way = 1) → (t = 1 → way = 2) → Exs X ((turnBody g.w.params).drop 4) ⟨("way", .int way) :: ("y", .int y) :: mainLm a c b d, mainOs a c b d⟩ (TurnQ a c (t + 1))) :
    Exs X (turnBody g.w.params) ⟨("i", .int (1 + (t : Int))) :: mainLm a c b d, mainOs a c b d⟩ (TurnQ a c (t + 1)) := by
  refine Exs_cons ?_
  simp only [mainLm, mainOs, lawLm, lawOs]
  wtm_at "m go"
  refine Cfn (fn_draw hK (k := 0) (a := a.nu) (ns := c.N) (i := 1 + (t : Int)) hc.n0 (by have := hc.n1; omega) hc.nr (by omega)) (room.le (by first | decide | exact Nat.add_le_add_left (by decide) _ | omega)) (by wtm_at "m sel") ?_
  rintro _ _ ⟨v, hv0, hv1, rfl, rfl⟩
  simp only [osApp]
  wtm_at "m gi"
  have hw : 0 ≤ v % 8 ∧ v % 8 < 8 := by omega
  have hy : 0 ≤ v / 8 ∧ v / 8 < 100000000 := by omega
  generalize v % 8 = way0 at *
  generalize v / 8 = y at *
  refine Exs_join (P := fun lm os => ∃ way : Int, 0 ≤ way ∧ way < 8 ∧ (t = 0 → way = 1) ∧ (t = 1 → way = 2) ∧ lm = (("way", .int way) :: ("y", .int y) :: mainLm a c b d : Lm) ∧ os = mainOs a c b d) ?_ ?_
  · wtm_at "m go"
    · exact .inl ⟨rfl, _, _, Wq.wkn (by simp only [mainLm, lawLm]; wtm_at "m wq"), Wq.wkn (by simp only [mainOs, lawOs]; wtm_at "m wq"), 1 + (t : Int), by omega, by omega, by omega, by omega, rfl, rfl⟩
    · exact .inl ⟨rfl, _, _, Wq.wkn (by simp only [mainLm, lawLm]; wtm_at "m wq"), Wq.wkn (by simp only [mainOs, lawOs]; wtm_at "m wq"), way0, hw.1, hw.2, by omega, by omega, rfl, rfl⟩
  · rintro lm os ⟨way, h1, h2, h3, h4, rfl, rfl⟩
    exact tail way y h1 h2 hy.1 hy.2 h3 h4

theorem exHide {g : G} {X : Cx g} {σ : St} {st : Stmt} {Q : FQ} (h : ∀ PP : FQ, (∀ f σ', Q f σ' → PP f σ') → Ex X st σ PP) : Ex X st σ Q := h Q fun _ _ q => q
theorem HV.plus {H vals now} (h : HV H vals now) {k : Int} (hk : 0 ≤ k) : HV H vals (now + k) := ⟨h.len, h.nd, h.keys, h.vlo, h.rel, fun j a b => by have := h.hi j a b; omega⟩
theorem last_name {born : Int} {rq : List RQ} {gone : Nat} {ps : List PS} (h : Links born rq gone ps) : (ps.map PS.name).getLast?.getD [] = if gone < rq.length then le 8 (born + ((rq.length - 1 : Nat) : Int) + 1) else [] := by
  have hl := h.len
  by_cases hg : gone < rq.length
  · rw [if_pos hg]
    have hpos : 0 < ps.length := by omega
    have e : ps[ps.length - 1]? = some ps[ps.length - 1] := List.getElem?_eq_getElem (by omega)
    obtain ⟨r, _, _, _, _, _, hn⟩ := h.link _ _ e
    rw [List.getLast?_eq_getElem?, List.length_map, List.getElem?_map, e]
    show ps[ps.length - 1].name = _
    rw [hn, show gone + (ps.length - 1) = rq.length - 1 by omega]
  · rw [if_neg hg]
    have : ps = [] := List.length_eq_zero_iff.mp (by omega)
    subst this; rfl
theorem namM_eq (ps : List PS) : namM ps = (ps.map PS.name).map MV.bytes := by unfold namM; rw [List.map_map]; rfl
theorem namesM_get {born : Int} {n j : Nat} (h : j < n) : (namesM born n)[j]? = some (.bytes (le 8 (born + j + 1))) := by
  unfold namesM
  rw [List.getElem?_map, List.getElem?_range h]; rfl
theorem putM_newb {es : List (List UInt8 × MV)} {k : List UInt8} {v : MV} (h : k ∉ es.map (·.1)) : putM es k v = es ++ [(k, v)] := by
  unfold putM
  rw [if_neg]
  intro ha
  rw [List.any_eq_true] at ha
  obtain ⟨e, he, x⟩ := ha
  exact h (List.mem_map.mpr ⟨e, he, by simpa using x⟩)
theorem penM_add {ps : List PS} {p : PS} (h : p.name ∉ ps.map PS.name) : putM (penM ps) p.name (.ref p.st) = penM (ps ++ [p]) := by
  rw [putM_newb]
  · unfold penM; rw [List.map_append]; rfl
  · unfold penM; rw [List.map_map]; exact h
theorem namesM_add {born : Int} {n : Nat} : namesM born n ++ [MV.bytes (le 8 (born + n + 1))] = namesM born (n + 1) := by
  unfold namesM; rw [List.range_succ, List.map_append]; rfl
theorem link_name {born : Int} {rq : List RQ} {gone : Nat} {ps : List PS} (h : Links born rq gone ps) (hb : 0 ≤ born ∧ born ≤ 4294967294) (hn : rq.length ≤ 100) {j : Nat} (hj : rq.length ≤ j) (hj2 : j ≤ 100) : le 8 (born + j + 1) ∉ ps.map PS.name := by
  intro hm
  obtain ⟨p, hp, e⟩ := List.mem_map.mp hm
  obtain ⟨i, hi, rfl⟩ := List.mem_iff_getElem.mp hp
  obtain ⟨r, hr, _, _, _, _, hnm⟩ := h.link i _ (List.getElem?_eq_getElem hi)
  have hlt := (List.getElem?_eq_some_iff.mp hr).1
  rw [hnm] at e
  have := le_inj (by omega) (by omega) (by omega) (by omega) e
  omega
theorem link_push {born : Int} {rq : List RQ} {gone : Nat} {ps : List PS} (h : Links born rq gone ps) {r : RQ} {p : PS} (h1 : p.idx = r.idx) (h2 : p.frm = r.frm) (h3 : p.ctx = r.ctx) (h4 : p.acks = r.acks) (h5 : p.name = le 8 (born + rq.length + 1)) : Links born (rq ++ [r]) gone (ps ++ [p]) := by
  have hle := h.le
  have hlen := h.len
  refine ⟨by rw [List.length_append]; omega, by rw [List.length_append, List.length_append, List.length_singleton, List.length_singleton]; omega, fun i q hq => ?_⟩
  by_cases hi : i < ps.length
  · rw [List.getElem?_append_left hi] at hq
    obtain ⟨r', hr', x⟩ := h.link i q hq
    refine ⟨r', ?_, x⟩
    rw [List.getElem?_append_left (List.getElem?_eq_some_iff.mp hr').1]; exact hr'
  · rw [List.getElem?_append_right (by omega)] at hq
    have hi' : i - ps.length = 0 := by
      have := (List.getElem?_eq_some_iff.mp hq).1
      rw [List.length_singleton] at this; omega
    rw [hi'] at hq
    cases hq
    refine ⟨r, ?_, h1, h2, h3, h4, ?_⟩
    · rw [List.getElem?_append_right (by omega), show gone + i - rq.length = 0 by omega]; rfl
    · rw [h5, show gone + i = rq.length by omega]
theorem lawOs_perm {a : Ads} {c : Conf} {now serial : Int} {q : Addr} {ps : List PS} {H : List (Int × Int)} {T T' : Os} (h : T.Perm T') : (lawOs a c now serial q ps H T).Perm (lawOs a c now serial q ps H T') := by
  unfold lawOs
  repeat (first | exact h | apply List.Perm.cons)
theorem law_turn2 {g : G} (hK : OnK g) {X : Cx g} (room : Room X.A 40) (kn : Kn X.env lawNames) {cy cc : Addr} (cells : X.env.cells = ([("context", cc), ("y", cy)] : List (Str × Addr))) (hbk : X.env.blockKind = .function) {a : Ads} {c : Conf} {b : Bds} {d : Dat} {t : Nat} (ht : t < 16) (hc : c.Ok) (hd : d.Ok c t)
    {way y : Int} (hw0 : 0 ≤ way) (hw1 : way < 8) (hy0 : 0 ≤ y) (hy1 : y < 100000000) (hf : t = 0 → way = 1) (hs : t = 1 → way = 2)
    (tail : ∀ (tl : Addr) (ms : List Msg) (b : Bds) (d : Dat), MsgsOk ms → d.Ok c (t + 1) → Exs X ((turnBody g.w.params).drop 6) ⟨("told", .ref tl) :: mainLm a c b d, (tl, .lst (ms.map fun m => .ref m.t)) :: (segM ms ++ mainOs a c b d)⟩ (TurnQ a c (t + 1))) :
    Exs X ((turnBody g.w.params).drop 4) ⟨("way", .int way) :: ("y", .int y) :: mainLm a c b d, mainOs a c b d⟩ (TurnQ a c (t + 1)) := by
  refine Exs_cons ?_
  simp only [mainLm, mainOs, lawLm, lawOs]
  wtm_at "m gi"
  rename_i tl
  have hrq : way ≠ 1 → 1 ≤ d.rq.length := fun h => hd.fst (by rcases Nat.eq_zero_or_pos t with e | e; exact absurd (hf e) h; exact e)
  have hbt : way ≠ 1 → way ≠ 2 → 1 ≤ d.beats.length := fun h h2 => hd.snd (by
    rcases Nat.eq_zero_or_pos t with e | e
    · exact absurd (hf e) h
    · rcases Nat.eq_or_lt_of_le e with e | e
      · exact absurd (hs e.symm) h2
      · exact e)
  refine Exs_join (P := fun lm os => ∃ (tl : Addr) (ms : List Msg) (b : Bds) (d : Dat), MsgsOk ms ∧ d.Ok c (t + 1) ∧ lm = (("told", .ref tl) :: mainLm a c b d : Lm) ∧ os = ((tl, .lst (ms.map fun m => .ref m.t)) :: (segM ms ++ mainOs a c b d) : Os)) ?_ ?_
  · refine exHide fun PP hPP => ?_
    have fin : ∀ (σ' : St) (tl : Addr) (ms : List Msg) (b : Bds) (d : Dat), Wkn σ'.lm (("told", .ref tl) :: mainLm a c b d : Lm) → Wkn σ'.os ((tl, .lst (ms.map fun m => .ref m.t)) :: (segM ms ++ mainOs a c b d) : Os) → MsgsOk ms → d.Ok c (t + 1) → PP .next σ' :=
      fun σ' tl ms b d h1 h2 h3 h4 => hPP _ _ (.inl ⟨rfl, _, _, h1, h2, tl, ms, b, d, h3, h4, rfl, rfl⟩)
    clear hPP
    have hnl : (namesM c.born d.rq.length).length = d.rq.length := by unfold namesM; rw [List.length_map, List.length_range]
    have hcnt := hd.cnt
    have hbl := hd.bts.1
    wtm_at "m go"
    · -- way 0
      rename_i hw r
      refine ForGo_rng (fun i lm os => ∃ now : Int, now = d.now + (i : Nat) ∧ lm = (("told", .ref tl) :: ("way", .int way) :: ("y", .int y) :: mainLm a c b { d with now := now } : Lm) ∧ os = ((tl, .lst []) :: mainOs a c b { d with now := now } : Os)) (by wtm_at "m pick") (by decide) (by omega) ?_ ?_ ?_
      · exact ⟨d.now, by omega, by simp only [mainLm, lawLm], by simp only [mainOs, lawOs]⟩
      · rintro i lm os fr hi ⟨now, hnow, rfl, rfl⟩
        refine asgHide fun LP hLP => ?_
        simp only [mainLm, mainOs, lawLm, lawOs]
        wtm_at "m go"
        refine CfnE (fn_tick hK (k := 0)) (room.le (by first | decide | exact Nat.add_le_add_left (by decide) _ | omega)) (by wtm_at "m sel") (by wtm_at "m app") ?_
        wtm_at "m go"
        refine hLP _ _ ?_
        exact ⟨_, _, Wq.wkn (by simp only [mainLm, lawLm]; wtm_at "m wq"), Wq.wkn (by simp only [mainOs, lawOs]; wtm_at "m wq"), now + 1, by omega, rfl, rfl⟩
      · rintro lm os ⟨now, hnow, rfl, rfl⟩
        have hno := hd.now
        wtm_at "m go"
        refine fin _ tl ([]) b ({ d with now := now }) (Wq.wkn (by simp only [mainLm, lawLm]; wtm_at "m wq")) (Wq.wkn (by simp only [mainOs, lawOs, segM, List.map_nil, List.nil_append]; wtm_at "m wq")) (⟨by decide, fun m hm => (by cases hm)⟩) ?_
        refine ⟨hd.lk, by rw [hnow]; exact hd.hv.plus (by omega), ⟨by dsimp only; omega, by dsimp only; omega⟩, Nat.le_succ_of_le hd.cnt, hd.acks, ⟨Nat.le_succ_of_le hd.bts.1, hd.bts.2⟩, fun _ => hrq (by omega), fun h => hbt (by omega) (by omega)⟩
    · -- way 1
      clear hrq hbt
      have hno := hd.now
      have hbo := hc.born
      have hgl := hd.lk.le
      have hpl := hd.lk.len
      refine Ccls (cls_Message hK) (fun x d => fn_msg_init hK (k := 0) (x := x) (d := d) (kind := 15) (to := 1) (frm := 2 + y % 3) (term := 0)) (room.le (by first | decide | exact Nat.add_le_add_left (by decide) _ | omega)) .nil ?_
      rintro m md _ ⟨e, rfl⟩
      simp only [osApp]
      wtm_at "m go"
      refine CallV_bytes_l (ns := [65 + y % 3]) (by exact List.mem_cons_self) (fun n hn => by cases List.mem_singleton.mp hn; omega) (by simp) ?_
      simp only [List.map_cons, List.map_nil]
      generalize (65 + y % 3).toNat.toUInt8 = u
      wtm_at "m go"
      rw [hnl]
      refine Cfn (fn_add hK (k := 0) (x := a.r) (d := a.rd) (pd := a.pd) (q := b.q) (m := m) (option := c.opt) (serial := c.born + d.rq.length) (index := y / 3 % 5) (es := penM d.ps) (xs := namM d.ps) (by omega) (by omega) (by unfold penM; rw [List.length_map]; omega) (by unfold namM; rw [List.length_map]; omega)) (room.le (by first | decide | exact Nat.add_le_add_left (by decide) _ | omega)) (by wtm_at "m sel") ?_
      rintro _ _ ⟨rfl, st, sd, ac, rfl⟩
      simp only [osApp]
      wtm_at "m go"
      refine Sub_list_neg (mv := .bytes (le 8 (c.born + d.rq.length + 1))) (by wtm_at "m mem") .lst (by decide) (by decide) (by rw [List.length_append, hnl]; simp; omega) (by rw [List.length_append, hnl, List.length_cons, List.length_nil, show ((-1 : Int) + ((d.rq.length + (0 + 1) : Nat) : Int)).toNat = d.rq.length by omega, List.getElem?_append_right (by omega), hnl, Nat.sub_self]; rfl) ?_ (fun _ _ => ⟨_, rfl⟩)
      wtm_at "m go"
      · rename_i h; exact absurd rfl h
      · refine Cfn (fn_msg_row hK (k := 0) (x := m) (d := md) (e := e) (kind := 15) (to := 1) (frm := 2 + y % 3) (term := 0) (ctx := [u])) (room.le (by first | decide | exact Nat.add_le_add_left (by decide) _ | omega)) (by wtm_at "m sel") ?_
        rintro _ _ ⟨tr, et, rfl, rfl⟩
        simp only [osApp]
        wtm_at "m go"
        rename_i ta sa
        have hnn := link_name hd.lk hbo (by omega) (Nat.le_refl _) (by omega)
        let p : PS := ⟨le 8 (c.born + d.rq.length + 1), y / 3 % 5, 2 + y % 3, [u], [], st, sd, ac, m, md, e⟩
        let r : RQ := ⟨y / 3 % 5, 2 + y % 3, [u], [], ta, tr, et, sa⟩
        refine fin _ tl ([]) b ({ d with rq := d.rq ++ [r], ps := d.ps ++ [p] }) (Wq.wkn (by simp only [mainLm, lawLm]; wtm_at "m wq")) ?_ (⟨by decide, fun m hm => (by cases hm)⟩) ?_
        · have e1 := penM_add (ps := d.ps) (p := p) hnn
          have e2 : namM (d.ps ++ [p]) = namM d.ps ++ [MV.bytes p.name] := by unfold namM; rw [List.map_append]; rfl
          have e3 := namesM_add (born := c.born) (n := d.rq.length)
          have e5 : (d.rq ++ [r]).length = d.rq.length + 1 := by rw [List.length_append]; rfl
          refine Wkn.trans (b := (tl, .lst []) :: lawOs a c d.now (c.born + (d.rq ++ [r]).length) b.q (d.ps ++ [p]) d.H ((b.nw, .lsi (d.vals.map .int)) :: (b.nm, .lst (namesM c.born (d.rq ++ [r]).length)) :: (b.ak, .lst ((d.rq ++ [r]).map fun r => .ref r.ta)) :: (b.mz, .lst ((d.rq ++ [r]).map fun r => .bytes r.ctx)) :: (b.sd, .lst ((d.rq ++ [r]).map fun r => .ref r.sa)) :: (b.bt, .lst (d.beats.map .bytes)) :: (r.os ++ (p.os ++ (segR d.rq ++ segs d.ps))))) ?_ ?_
          · rw [e5, ← e3, List.map_append, List.map_append, List.map_append]
            simp only [lawOs]
            rw [← e1, e2, show c.born + ((d.rq.length + 1 : Nat) : Int) = c.born + d.rq.length + 1 by omega]
            simp only [RQ.os, PS.os, List.cons_append, List.nil_append, List.map_cons, List.map_nil, r, p]
            wtm_at "m wk"
          · refine Wkn.perm (List.Perm.cons _ (lawOs_perm ((((((List.Perm.cons _ ?_).cons _).cons _).cons _).cons _).cons _)))
            show (r.os ++ (p.os ++ (segR d.rq ++ segs d.ps))).Perm (segR (d.rq ++ [r]) ++ segs (d.ps ++ [p]))
            unfold segR segs
            rw [List.flatMap_append, List.flatMap_append, List.flatMap_singleton, List.flatMap_singleton, List.append_assoc]
            refine ((List.perm_append_comm (l₁ := p.os) (l₂ := _ ++ _)).append_left _).trans ?_
            rw [List.append_assoc]
            exact pac _ _ _
        · have hbt := hd.bts
          refine ⟨link_push hd.lk rfl rfl rfl rfl rfl, hd.hv, ⟨hno.1, by dsimp only; omega⟩, ?_, fun r' hr' => ?_, ⟨Nat.le_succ_of_le hbt.1, hbt.2⟩, fun _ => ?_, fun h => hd.snd (by rcases Nat.eq_or_lt_of_le (show 1 ≤ t by omega) with e | e; (have := hs e.symm; omega); exact e)⟩
          · rw [List.length_append]; exact Nat.succ_le_succ hcnt
          · rcases List.mem_append.mp hr' with h | h
            · exact hd.acks _ h
            · cases List.mem_singleton.mp h
              exact ⟨.nil, fun j hj => (by cases hj)⟩
          · rw [List.length_append]; exact Nat.le_add_left _ _
    · rename_i hg
      rw [hnl] at hg
      have hps : d.ps.length ≤ t := by have := hd.lk.len; omega
      refine Sub_list_neg (mv := .bytes (le 8 (c.born + ((d.rq.length - 1 : Nat) : Int) + 1))) (by wtm_at "m mem") .lst (by decide) (by decide) (by rw [hnl]; omega) (by rw [hnl, show ((-1 : Int) + (d.rq.length : Int)).toNat = d.rq.length - 1 by omega]; exact namesM_get (by omega)) ?_ (fun _ _ => ⟨_, rfl⟩)
      wtm_at "m go"
      refine CfnE (fn_stamp hK (k := 0) (x := a.l) (d := a.ld) (hd := a.hd) (span := c.span) (clock := d.now) hd.now.1 (by have := hd.now.2; omega)) (room.le (by first | decide | exact Nat.add_le_add_left (by decide) _ | omega)) (by wtm_at "m sel") (by wtm_at "m app") ?_
      wtm_at "m go"
      · rename_i h; exact absurd rfl h
      · rw [namM_eq]
        refine CfnE (fn_last hK (k := 0) (x := a.r) (d := a.rd) (pd := a.pd) (q := b.q) (option := c.opt) (serial := c.born + d.rq.length) (ns := d.ps.map PS.name) (by rw [List.length_map]; omega)) (room.le (by first | decide | exact Nat.add_le_add_left (by decide) _ | omega)) (by wtm_at "m sel") (by wtm_at "m app") ?_
        rw [← namM_eq, last_name hd.lk, if_pos (show d.gone < d.rq.length by omega)]
        wtm_at "m go"
        · rename_i h; exact absurd rfl h
        · have hno := hd.now
          refine fin _ tl ([]) b ({ d with beats := d.beats ++ [le 8 d.now ++ le 8 (c.born + ((d.rq.length - 1 : Nat) : Int) + 1)] }) (Wq.wkn (by simp only [mainLm, lawLm]; wtm_at "m wq")) (Wq.wkn (by simp only [mainOs, lawOs, segM, List.map_nil, List.nil_append]; wtm_at "m wq")) (⟨by decide, fun m hm => (by cases hm)⟩) ?_
          refine ⟨hd.lk, hd.hv, ⟨hno.1, by dsimp only; omega⟩, Nat.le_succ_of_le hd.cnt, hd.acks, ⟨by rw [List.length_append]; exact Nat.succ_le_succ hbl, fun bb hb => ?_⟩, fun _ => hrq (by omega), fun _ => by rw [List.length_append]; exact Nat.le_add_left _ _⟩
          rcases List.mem_append.mp hb with hb | hb
          · exact hd.bts.2 _ hb
          · cases List.mem_singleton.mp hb
            rw [List.length_append, le_length, le_length]; decide
    · rename_i hg
      rw [hnl] at hg
      have hps : d.ps.length ≤ t := by have := hd.lk.len; omega
      refine CfnE (fn_stamp hK (k := 0) (x := a.l) (d := a.ld) (hd := a.hd) (span := c.span) (clock := d.now) hd.now.1 (by have := hd.now.2; omega)) (room.le (by first | decide | exact Nat.add_le_add_left (by decide) _ | omega)) (by wtm_at "m sel") (by wtm_at "m app") ?_
      wtm_at "m go"
      · rename_i h; exact absurd rfl h
      · rw [namM_eq]
        refine CfnE (fn_last hK (k := 0) (x := a.r) (d := a.rd) (pd := a.pd) (q := b.q) (option := c.opt) (serial := c.born + d.rq.length) (ns := d.ps.map PS.name) (by rw [List.length_map]; omega)) (room.le (by first | decide | exact Nat.add_le_add_left (by decide) _ | omega)) (by wtm_at "m sel") (by wtm_at "m app") ?_
        rw [← namM_eq, last_name hd.lk, if_neg (show ¬ d.gone < d.rq.length by omega)]
        wtm_at "m go"
        · rename_i h; exact absurd rfl h
        · have hno := hd.now
          refine fin _ tl ([]) b ({ d with beats := d.beats ++ [le 8 d.now ++ []] }) (Wq.wkn (by simp only [mainLm, lawLm]; wtm_at "m wq")) (Wq.wkn (by simp only [mainOs, lawOs, segM, List.map_nil, List.nil_append]; wtm_at "m wq")) (⟨by decide, fun m hm => (by cases hm)⟩) ?_
          refine ⟨hd.lk, hd.hv, ⟨hno.1, by dsimp only; omega⟩, Nat.le_succ_of_le hd.cnt, hd.acks, ⟨by rw [List.length_append]; exact Nat.succ_le_succ hbl, fun bb hb => ?_⟩, fun _ => hrq (by omega), fun _ => by rw [List.length_append]; exact Nat.le_add_left _ _⟩
          rcases List.mem_append.mp hb with hb | hb
          · exact hd.bts.2 _ hb
          · cases List.mem_singleton.mp hb
            rw [List.length_append, le_length]; decide
    · refine Cfn (fn_strange hK (k := 0) (y := y / 5) (now := d.now) (born := c.born) (by omega) (by rw [hnl]; have := hrq (by omega); omega) (by rw [hnl]; omega) hc.born.1 hd.now.1 (by have := hd.now.2; omega) (by have := hc.born.2; omega)) (room.le (by first | decide | exact Nat.add_le_add_left (by decide) _ | omega)) .nil ?_
      rintro _ _ ⟨r, hr, rfl, rfl⟩
      simp only [osApp]
      obtain ⟨w, hw⟩ : ∃ w : Nat, 1 + y % 5 = (w : Int) := ⟨(1 + y % 5).toNat, by omega⟩
      rw [hw]
      wtm_at "m go"
      rename_i tt tl2
      exact fin _ tl2 ([⟨tt, w, r⟩]) b d (Wq.wkn (by simp only [mainLm, lawLm]; wtm_at "m wq")) (Wq.wkn (by simp only [mainOs, lawOs, segM, List.map_cons, List.map_nil, List.cons_append, List.nil_append]; wtm_at "m wq")) (⟨by simp, fun m hm => by cases List.mem_singleton.mp hm; exact ⟨by dsimp only; omega, by dsimp only; omega, hr⟩⟩) (hd.up (hrq (by omega)) (fun h => hbt (by omega) (by omega)))
    · refine Cfn (fn_strange hK (k := 0) (y := y / 5) (now := d.now) (born := c.born) (by omega) (by rw [hnl]; have := hrq (by omega); omega) (by rw [hnl]; omega) hc.born.1 hd.now.1 (by have := hd.now.2; omega) (by have := hc.born.2; omega)) (room.le (by first | decide | exact Nat.add_le_add_left (by decide) _ | omega)) .nil ?_
      rintro _ _ ⟨r, hr, rfl, rfl⟩
      simp only [osApp]
      obtain ⟨w, hw⟩ : ∃ w : Nat, 1 + y % 5 = (w : Int) := ⟨(1 + y % 5).toNat, by omega⟩
      rw [hw]
      wtm_at "m go"
      rename_i tt tl2
      exact fin _ tl2 ([⟨tt, w, r⟩]) b d (Wq.wkn (by simp only [mainLm, lawLm]; wtm_at "m wq")) (Wq.wkn (by simp only [mainOs, lawOs, segM, List.map_cons, List.map_nil, List.cons_append, List.nil_append]; wtm_at "m wq")) (⟨by simp, fun m hm => by cases List.mem_singleton.mp hm; exact ⟨by dsimp only; omega, by dsimp only; omega, hr⟩⟩) (hd.up (hrq (by omega)) (fun h => hbt (by omega) (by omega)))
    · have hb1 := hbt (by omega) (by omega)
      have hml : 0 ≤ y / 5 % (d.beats.length : Int) ∧ y / 5 % (d.beats.length : Int) < d.beats.length := ⟨Int.emod_nonneg _ (by omega), Int.emod_lt_of_pos _ (by omega)⟩
      rw [List.length_map]
      obtain ⟨bx, hbx⟩ : ∃ bx, d.beats[(-1 - y / 5 % (d.beats.length : Int) + d.beats.length).toNat]? = some bx := ⟨_, List.getElem?_eq_getElem (by omega)⟩
      have hbm : bx ∈ d.beats := List.mem_of_getElem? hbx
      refine Sub_list_neg (mv := .bytes bx) (by wtm_at "m mem") .lst (by omega) (by omega) (by rw [List.length_map]; omega) (by rw [List.length_map, List.getElem?_map, hbx]; rfl) ?_ (fun _ _ => ⟨_, rfl⟩)
      wtm_at "m go"
      refine Ex_asgc (CompOk.of kn cells (by with_unfolding_all rfl) (by decide +kernel)) [("y", .int y), ("context", .bytes bx)] ?_ ?_ (fun _ => rfl)
      · have hk : X.env.kindOf "told" = some .local := kn.at (by wtm_at "m mem")
        show (Pure.pure _ : Sem Bool) = _
        rw [hbk, hk]; rfl
      · wtm_at "m go"
        rename_i ax
        refine ⟨ax, _, _, _, fun i acc os => ∃ ms : List Msg, ms.length = i ∧ acc = ms.map (fun m => .ref m.t) ∧ (∀ m ∈ ms, 1 ≤ m.who ∧ m.who ≤ 5 ∧ m.ctx.length ≤ 200) ∧ os = segM ms ++ ((tl, .lst []) :: mainOs a c b d), rfl, by wtm_at "m pick", .rng, fun _ _ e => (by cases e; exact small_of (by decide) (by omega)), ?_, by wtm_at "m wk", rfl, ?_, ?_, ?_⟩
        · rw [List.length_map, List.length_range]; omega
        · exact ⟨[], rfl, rfl, fun m hm => (by cases hm), by simp only [segM, List.map_nil, List.nil_append, mainOs, lawOs]⟩
        · rintro Y hA hn hcc i mv acc os hx hacc ⟨ms, hms, rfl, hok, rfl⟩
          replace hn : Kn Y.env [(".0", .local), ("k", .local), ("y", .cell), ("context", .cell)] := by
            intro x kd hx
            refine hn x kd ?_
            simp only [List.mem_cons, List.not_mem_nil, or_false] at hx
            rcases hx with h | h | h | h <;> (cases h; decide +kernel)
          obtain ⟨rfl⟩ : mv = .int (0 + (i : Int)) := by
            rw [List.getElem?_map] at hx
            cases e : (List.range (1 + way % 2 * 2 - 0).toNat)[i]? with
            | none => rw [e] at hx; cases hx
            | some j =>
              rw [e] at hx; cases hx
              have := List.getElem?_eq_some_iff.mp e
              obtain ⟨h1, h2⟩ := this
              rw [List.getElem_range] at h2
              rw [h2]
          obtain ⟨w, hw⟩ : ∃ w : Nat, 1 + (y + (0 + (i : Int))) % 5 = (w : Int) := ⟨(1 + (y + (0 + (i : Int))) % 5).toNat, by omega⟩
          wtm_at "m go"
          rw [hw]
          rename_i tt
          refine ⟨segM (ms ++ [⟨tt, w, bx⟩]) ++ ((tl, .lst []) :: mainOs a c b d), Wq.wkn (by wtm_at "m wq"), Wkn.perm ?_, ms ++ [⟨tt, w, bx⟩], by rw [List.length_append, hms]; rfl, by rw [List.map_append]; rfl, fun m hm => ?_, rfl⟩
          · unfold segM
            rw [List.map_append, List.append_assoc]
            exact pac [_] _ _
          · rcases List.mem_append.mp hm with hm | hm
            · exact hok m hm
            · cases List.mem_singleton.mp hm
              exact ⟨by dsimp only; omega, by dsimp only; omega, hd.bts.2 _ hbm⟩
        · rintro D acc os ⟨ms, hms, rfl, hok, rfl⟩ fr
          rw [List.length_map, List.length_range] at hms
          wtm_at "m go"
          refine fin _ D ms b d (Wq.wkn (by simp only [mainLm, lawLm]; wtm_at "m wq")) ?_ (⟨by omega, hok⟩) (hd.up (hrq (by omega)) (fun h => hbt (by omega) (by omega)))
          refine Wkn.trans (b := (D, .lst (ms.map fun m => .ref m.t)) :: (tl, .lst []) :: (segM ms ++ mainOs a c b d)) ?_ ⟨fun p hp => ?_, fun nd => ?_⟩
          · refine Wkn.trans (b := (D, .lst (ms.map fun m => .ref m.t)) :: (segM ms ++ ((tl, .lst []) :: mainOs a c b d))) (by wtm_at "m wk") (Wkn.perm (List.Perm.cons _ List.perm_middle))
          · rcases List.mem_cons.mp hp with rfl | hp
            · exact .head _
            · exact .tail _ (.tail _ hp)
          · rw [List.map_cons, List.map_cons, List.nodup_cons, List.nodup_cons] at nd
            rw [List.map_cons, List.nodup_cons]
            exact ⟨fun h => nd.1 (.tail _ h), nd.2.2⟩
  · rintro lm os ⟨tl, ms, b, d, h1, h2, rfl, rfl⟩
    exact tail tl ms b d h1 h2

inductive Swp {α : Type} (T T' : List α) : List α → List α → Prop
  | here : Swp T T' T T'
  | more {x l l'} : Swp T T' l l' → Swp T T' (x :: l) (x :: l')
theorem Swp.perm {α : Type} {T T' os os' : List α} (s : Swp T T' os os') (h : T.Perm T') : os.Perm os' := by
  induction s with
  | here => exact h
  | more _ ih => exact ih.cons _
theorem Sub_swp {g : G} {X : Cx g} {o i : MV} {value slice : PySem.Expr} {lm : Lm} {os os' T T' : Os} {Q : VQ} (h : T.Perm T') (s : Swp T T' os os') (k : Sub X o i value slice ⟨lm, os'⟩ Q) : Sub X o i value slice ⟨lm, os⟩ Q := Sub_pre k (Wkn.perm (s.perm h))
theorem Tri.swp {g : G} {X : Cx g} {α : Type} {m : Sem α} {lm : Lm} {os os' T T' : Os} {Q : α → St → Prop} (h : T.Perm T') (s : Swp T T' os os') (k : Tri X m ⟨lm, os'⟩ Q) : Tri X m ⟨lm, os⟩ Q := Tri.pre k Wkn.refl (Wkn.perm (s.perm h))
theorem Call_swp {g : G} {X : Cx g} {f : Value} {args : List MV} {lm : Lm} {os os' T T' : Os} {Q : VQ} (h : T.Perm T') (s : Swp T T' os os') (k : CallV X f args ⟨lm, os'⟩ Q) : CallV X f args ⟨lm, os⟩ Q := fun vs hv => Tri.swp h s (k vs hv)
theorem HV.skip {H vals now} (h : HV H vals now) {who : Nat} (h1 : 1 ≤ who) (h2 : who ≤ 5) : vals.set who (max (vals.getD who 0) (-1)) = vals := by
  have := h.lo who h1 h2
  rw [Int.max_eq_left this]
  refine List.ext_getElem? fun j => ?_
  rw [List.getElem?_set]
  by_cases e : who = j
  · subst e; rw [if_pos rfl, if_pos (by rw [h.len]; omega), List.getD_eq_getElem?_getD, List.getElem?_eq_getElem (by rw [h.len]; omega)]; rfl
  · rw [if_neg e]
theorem w64_lo (b : List UInt8) : 0 ≤ w64 b := by
  unfold w64
  have h0 := w32_range b 0; have h1 := w32_range b 4
  omega
theorem sliced8 {b : List UInt8} (h : 8 ≤ b.length) : sliced b (some 8) none = b.drop 8 := sliced_from b 8 h
noncomputable def mainOsT (a : Ads) (c : Conf) (b : Bds) (d : Dat) (T : Os) : Os :=
  lawOs a c d.now (c.born + d.rq.length) b.q d.ps d.H ((b.nw, .lsi (d.vals.map .int)) :: (b.nm, .lst (namesM c.born d.rq.length)) :: (b.ak, .lst (d.rq.map fun r => .ref r.ta)) :: (b.mz, .lst (d.rq.map fun r => .bytes r.ctx)) :: (b.sd, .lst (d.rq.map fun r => .ref r.sa)) :: (b.bt, .lst (d.beats.map .bytes)) :: T)
noncomputable def mainOsE (a : Ads) (c : Conf) (b : Bds) (d : Dat) (E : Os) : Os := mainOsT a c b d (segR d.rq ++ (segs d.ps ++ E))
theorem mainOsT_perm {a : Ads} {c : Conf} {b : Bds} {d : Dat} {T T' : Os} (h : T.Perm T') : (mainOsT a c b d T).Perm (mainOsT a c b d T') :=
  lawOs_perm ((((((h.cons _).cons _).cons _).cons _).cons _).cons _)
noncomputable def msgBody (P : Params) : List Stmt := forBody ((turnBody P).drop 6)
theorem law_msg1 {g : G} (hK : OnK g) {X : Cx g} (room : Room X.A 40) (kn : Kn X.env lawNames) {cy cc : Addr} (cells : X.env.cells = ([("context", cc), ("y", cy)] : List (Str × Addr))) {a : Ads} {c : Conf} {b : Bds} {d : Dat} {E : Os}
    (hv : HV d.H d.vals d.now) (hn0 : 0 ≤ d.now) (hn1 : d.now ≤ 1000) {who : Nat} (hw1 : 1 ≤ who) (hw5 : who ≤ 5) {ctx : List UInt8} (hx : ctx.length ≤ 200) {Q : FQ}
    (tail : ∀ (nm : List UInt8) (H : List (Int × Int)) (vals : List Int), HV H vals d.now → Exs X ((msgBody g.w.params).drop 5) ⟨("name", .bytes nm) :: ("who", .int who) :: mainLm a c b { d with H := H, vals := vals }, mainOsE a c b { d with H := H, vals := vals } E⟩ Q) :
    Exs X (msgBody g.w.params) ⟨("context", .bytes ctx) :: ("who", .int who) :: mainLm a c b d, mainOsE a c b d E⟩ Q := by
  refine Exs_cons ?_
  simp only [mainLm, mainOsE, mainOsT, lawLm, lawOs]
  wtm_at "m gi"
  refine Exs_join (P := fun lm os => ∃ st : Int, ((ctx.length < 8 ∧ st = -1) ∨ (8 ≤ ctx.length ∧ st = w64 ctx)) ∧ lm = (("name", .bytes (if ctx.length < 8 then [] else ctx.drop 8)) :: ("sent", .int st) :: ("context", .bytes ctx) :: ("who", .int who) :: mainLm a c b d : Lm) ∧ os = mainOsE a c b d E) ?_ ?_
  · wtm_at "m go"
    · rename_i h
      refine Ev_comp (cl := [("context", cc)]) (CompOk.of kn cells (by with_unfolding_all rfl) (by decide +kernel)) [("context", .bytes ctx)] ?_ (fun _ => rfl)
      wtm_at "m go"
      refine CompGo_rng (fun k => some (.int (rdv ctx k * 256 ^ k))) (by wtm_at "m pick") (by decide) (by decide) (by decide) (by wtm_at "m wk") rfl ?_ ?_
      · intro Y hA hn hcc i hi
        replace hn : Kn Y.env [(".0", .local), ("k", .local), ("context", .cell)] := by
          intro x kd hx
          refine hn x kd ?_
          simp only [List.mem_cons, List.not_mem_nil, or_false] at hx
          rcases hx with h | h | h <;> (cases h; decide +kernel)
        have hi : i < 8 := hi
        wtm_at "m go"
        · exact mulOk_left (dig_lt _)
        · rw [show ((0 : Int) + i).toNat = i by omega]
          wtm_at "m ce"
      · intro D
        have e : (List.range (8 - 0 : Int).toNat).filterMap (fun k => some (MV.int (rdv ctx k * 256 ^ k))) = ((List.range 8).map fun k => rdv ctx k * 256 ^ k).map MV.int := by
          rw [List.map_map]; rfl
        rw [e]
        wtm_at "m go"
        refine CallV_sum (ns := (List.range 8).map fun k => rdv ctx k * 256 ^ k) (by wtm_at "m mem") ?_
        rw [sum_w64]
        wtm_at "m go"
        refine Ev_slb ?_ (fun _ _ => rfl) (fun _ _ _ => rfl)
        wtm_at "m go"
        rw [sliced8 (by omega)]
        refine .inl ⟨rfl, _, _, Wq.wkn (by rw [if_neg (show ¬ ctx.length < 8 by omega)]; simp only [mainLm, lawLm]; wtm_at "m wq"), Wq.wkn (by simp only [mainOsE, mainOsT, lawOs]; wtm_at "m wq"), w64 ctx, .inr ⟨by omega, rfl⟩, rfl, rfl⟩
    · rename_i h
      refine .inl ⟨rfl, _, _, Wq.wkn (by rw [if_pos (show ctx.length < 8 by omega)]; simp only [mainLm, lawLm]; wtm_at "m wq"), Wq.wkn (by simp only [mainOsE, mainOsT, lawOs]; wtm_at "m wq"), -1, .inl ⟨by omega, rfl⟩, rfl, rfl⟩
  · rintro lm os ⟨st, hst, rfl, rfl⟩
    generalize hnm : (if ctx.length < 8 then [] else ctx.drop 8) = nm
    simp only [mainLm, mainOsE, mainOsT, lawLm, lawOs]
    wtm_at "m go"
    refine CfnE (fn_hear hK (k := 0) (x := a.l) (d := a.ld) (hd := a.hd) (span := c.span) (clock := d.now) (frm := who) (b := ctx) (H := d.H) (by omega) (by have := hv.hlen; omega)) (room.le (by first | decide | exact Nat.add_le_add_left (by decide) _ | omega)) (by wtm_at "m sel") (by wtm_at "m app") ?_
    rw [hnm]
    wtm_at "m gi"
    · rename_i h; exact absurd rfl h
    · have key1 : st ≤ d.now → HV (if ctx.length < 8 then d.H else hearI d.H d.now who (w64 ctx)) (d.vals.set who (max (d.vals.getD who 0) st)) d.now := fun hle => by
        rcases hst with ⟨h, rfl⟩ | ⟨h, rfl⟩
        · rw [if_pos h, hv.skip hw1 hw5]; exact hv
        · rw [if_neg (by omega)]
          have := hv.hear hw1 hw5 (w64_lo ctx)
          rwa [if_pos hle] at this
      have key2 : ¬ st ≤ d.now → HV (if ctx.length < 8 then d.H else hearI d.H d.now who (w64 ctx)) d.vals d.now := fun hle => by
        rcases hst with ⟨h, rfl⟩ | ⟨h, rfl⟩
        · omega
        · rw [if_neg (by omega)]
          have := hv.hear hw1 hw5 (w64_lo ctx)
          rwa [if_neg hle] at this
      have hvl := hv.len
      generalize (if ctx.length < 8 then d.H else hearI d.H d.now who (w64 ctx)) = H at *
      show Exs X (_ :: _) _ Q
      refine Exs_join (P := fun lm os => ∃ H vals, HV H vals d.now ∧ lm = (("name", .bytes nm) :: ("who", .int who) :: mainLm a c b { d with H := H, vals := vals } : Lm) ∧ os = mainOsE a c b { d with H := H, vals := vals } E) ?_ ?_
      · wtm_at "m go"
        · rename_i hle
          have hge : (d.vals.map MV.int)[(who : Int).toNat]? = some (.int (d.vals.getD who 0)) := by
            rw [Int.toNat_natCast, List.getElem?_map, List.getD_eq_getElem?_getD, List.getElem?_eq_getElem (by omega)]; rfl
          refine Sub_list (mv := .int (d.vals.getD who 0)) (by wtm_at "m mem") .lsi (by omega) (by omega) hge ?_ (fun _ _ => ⟨_, rfl⟩)
          wtm_at "m go"
          refine SetI_lsi' (by wtm_at "m mem") .lsi (by omega) (by omega) (by rw [List.length_map]; omega) (by wtm_at "m put") ?_
          rw [show (d.vals.map MV.int).set (who : Int).toNat (.int (max (d.vals.getD who 0) st)) = (d.vals.set who (max (d.vals.getD who 0) st)).map MV.int by rw [Int.toNat_natCast, List.map_set]]
          wtm_at "m go"
          exact .inl ⟨rfl, _, _, Wq.wkn (by simp only [mainLm, lawLm]; wtm_at "m wq"), Wq.wkn (by simp only [mainOsE, mainOsT, lawOs]; wtm_at "m wq"), H, _, key1 hle, rfl, rfl⟩
        · rename_i hle
          exact .inl ⟨rfl, _, _, Wq.wkn (by simp only [mainLm, lawLm]; wtm_at "m wq"), Wq.wkn (by simp only [mainOsE, mainOsT, lawOs]; wtm_at "m wq"), H, _, key2 hle, rfl, rfl⟩
      · rintro lm os ⟨H, vals, hh, rfl, rfl⟩
        exact tail nm H vals hh

local macro_rules | `(tactic| wtm_at "m swp") => `(tactic| with_reducible (first | exact Swp.here | (apply Swp.more; wtm_at "m swp")))
theorem Cmp_notin_list {g : G} {X : Cx g} {σ : St} {Q : VQ} {a : Addr} {ns : List Int} {k : Int} (hm : (a, MO.lst (ns.map .int)) ∈ σ.os) (q : Q (.bool (decide (¬ k ∈ ns))) σ) : Cmp X .NotIn (.int k) (.ref a) σ Q := by
  rintro _ _ ⟨t, rfl⟩ rfl s R
  obtain ⟨vs, hp, hi⟩ := R.at hm
  refine notin_list_ints hp.isList (ints_of hi) ?_
  rw [show (!(ns.any fun x => x == k)) = decide (¬ k ∈ ns) by
    rw [Bool.eq_iff_iff]; simp
    exact ⟨fun h hk => h k hk rfl, fun h x hx e => h (e ▸ hx)⟩]
  exact ⟨σ, R, .bool _, rfl, q⟩
theorem segR_get {rq : List RQ} {i : Nat} {r : RQ} (h : rq[i]? = some r) (T : Os) : (segR rq ++ T).Perm (r.os ++ (segR (rq.eraseIdx i) ++ T)) := by
  rw [← List.append_assoc]
  refine List.Perm.append_right _ ?_
  induction rq generalizing i with
  | nil => cases h
  | cons a l ih =>
    cases i with
    | zero => cases h; exact List.Perm.refl _
    | succ i =>
      have := ih (i := i) h
      show (a.os ++ segR l).Perm (r.os ++ (a.os ++ segR (l.eraseIdx i)))
      refine (this.append_left _).trans ?_
      rw [← List.append_assoc, ← List.append_assoc]
      exact List.perm_append_comm.append_right _
theorem erase_set {α : Type} {l : List α} {i : Nat} {x : α} : (l.set i x).eraseIdx i = l.eraseIdx i := by
  induction l generalizing i with
  | nil => rfl
  | cons a r ih =>
    cases i with
    | zero => rfl
    | succ i => show _ :: _ = _ :: _; rw [ih]
theorem segR_set {rq : List RQ} {i : Nat} {r r' : RQ} (h : rq[i]? = some r) (T : Os) : (segR (rq.set i r') ++ T).Perm (r'.os ++ (segR (rq.eraseIdx i) ++ T)) := by
  have hlt : i < rq.length := (List.getElem?_eq_some_iff.mp h).1
  have h2 := segR_get (rq := rq.set i r') (i := i) (r := r') (by rw [List.getElem?_set_self hlt]) T
  rwa [erase_set] at h2
theorem set_map {α β : Type} {l : List α} {i : Nat} {r r' : α} {f : α → β} (h : l[i]? = some r) (e : f r' = f r) : (l.set i r').map f = l.map f := by
  refine List.ext_getElem? fun j => ?_
  rw [List.getElem?_map, List.getElem?_map, List.getElem?_set]
  by_cases ij : i = j
  · subst ij
    rw [if_pos rfl, if_pos (List.getElem?_eq_some_iff.mp h).1, h]
    exact congrArg some e
  · rw [if_neg ij]
theorem addA_nd {acks : List Int} {who : Int} (nd : acks.Nodup) : (addA acks who).Nodup := by
  unfold addA
  by_cases h : who ∈ acks
  · rw [if_pos h]; exact nd
  · rw [if_neg h]
    refine List.nodup_append.mpr ⟨nd, by simp, fun a ha b hb e => ?_⟩
    cases List.mem_singleton.mp hb
    exact h (e ▸ ha)
theorem addA_range {acks : List Int} {who : Int} (h : ∀ j ∈ acks, 1 ≤ j ∧ j ≤ 5) (hw : 1 ≤ who ∧ who ≤ 5) : ∀ j ∈ addA acks who, 1 ≤ j ∧ j ≤ 5 := by
  intro j hj
  unfold addA at hj
  split at hj
  · exact h j hj
  · rcases List.mem_append.mp hj with hj | hj
    · exact h j hj
    · cases List.mem_singleton.mp hj; exact hw
noncomputable def RQ.ack (r : RQ) (who : Int) : RQ := { r with acks := addA r.acks who }
noncomputable def Dat.ackd (d : Dat) (j : Nat) (r : RQ) (who : Int) : Dat := { d with rq := d.rq.set j (r.ack who) }
theorem Conf.Ok.al {c : Conf} (h : c.Ok) : c.A.length ≤ 10 := by
  obtain ⟨d, _, _, e⟩ := h.a
  have := ids_len d
  rw [← e]; omega
theorem Conf.Ok.bl {c : Conf} (h : c.Ok) : c.B.length ≤ 10 := by
  rcases h.b with ⟨_, d, _, _, e⟩ | ⟨_, e⟩
  · have := ids_len d
    rw [e]; omega
  · rw [e]; decide
theorem mainOsE_ackd {a : Ads} {c : Conf} {b : Bds} {d : Dat} {E : Os} {j : Nat} {r : RQ} {who : Int} (h : d.rq[j]? = some r) : mainOsE a c b (d.ackd j r who) E = mainOsT a c b d (segR (d.rq.set j (r.ack who)) ++ (segs d.ps ++ E)) := by
  unfold mainOsE mainOsT Dat.ackd
  dsimp only
  rw [List.length_set, set_map (r' := r.ack who) h rfl, set_map (r' := r.ack who) h rfl, set_map (r' := r.ack who) h rfl]
theorem law_msg2 {g : G} (hK : OnK g) {X : Cx g} (room : Room X.A 40) (kn : Kn X.env lawNames) {a : Ads} {c : Conf} {b : Bds} {d : Dat} {E : Os} (hc : c.Ok) (hn : d.rq.length ≤ 100) (hg : d.gone ≤ d.rq.length)
    (hac : ∀ r ∈ d.rq, r.acks.Nodup ∧ ∀ j ∈ r.acks, 1 ≤ j ∧ j ≤ 5) {who : Nat} (hw1 : 1 ≤ who) (hw5 : who ≤ 5) {nm : List UInt8} {Q : FQ}
    (tail0 : (∀ j : Nat, d.gone ≤ j → j < d.rq.length → nm ≠ le 8 (c.born + j + 1)) → ∀ dl, Exs X ((msgBody g.w.params).drop 9) ⟨("unknown", .bool true) :: ("upto", .int d.gone) :: ("due", .ref dl) :: ("name", .bytes nm) :: ("who", .int who) :: mainLm a c b d, (dl, .lst []) :: mainOsE a c b d E⟩ Q)
    (tail1 : ∀ (j0 : Nat) (r : RQ), d.gone ≤ j0 → d.rq[j0]? = some r → nm = le 8 (c.born + j0 + 1) → ∀ (u : Int), (u = (j0 : Int) + 1 ∨ u = d.gone) → ∀ dl, Exs X ((msgBody g.w.params).drop 9)
      ⟨("unknown", .bool false) :: ("upto", .int u) :: ("due", .ref dl) :: ("name", .bytes nm) :: ("who", .int who) :: mainLm a c b (d.ackd j0 r who), (dl, .lst ((srt (addA r.acks who)).map .int)) :: mainOsE a c b (d.ackd j0 r who) E⟩ Q) :
    Exs X ((msgBody g.w.params).drop 5) ⟨("name", .bytes nm) :: ("who", .int who) :: mainLm a c b d, mainOsE a c b d E⟩ Q := by
  refine Exs_cons ?_
  simp only [mainLm, mainOsE, mainOsT, lawLm, lawOs]
  wtm_at "m gf"
  rename_i dl
  have hnl : (namesM c.born d.rq.length).length = d.rq.length := by unfold namesM; rw [List.length_map, List.length_range]
  have hbo := hc.born
  have hAl : c.A.length ≤ 10 := hc.al
  have hBl : c.B.length ≤ 10 := hc.bl
  refine Exs_join (P := fun lm os => (∃ dl, (∀ j : Nat, d.gone ≤ j → j < d.rq.length → nm ≠ le 8 (c.born + j + 1)) ∧ lm = (("unknown", .bool true) :: ("upto", .int d.gone) :: ("due", .ref dl) :: ("name", .bytes nm) :: ("who", .int who) :: mainLm a c b d : Lm) ∧ os = ((dl, .lst []) :: mainOsE a c b d E : Os)) ∨
    (∃ (dl : Addr) (j0 : Nat) (r : RQ) (u : Int), d.gone ≤ j0 ∧ d.rq[j0]? = some r ∧ nm = le 8 (c.born + j0 + 1) ∧ (u = (j0 : Int) + 1 ∨ u = d.gone) ∧ lm = (("unknown", .bool false) :: ("upto", .int u) :: ("due", .ref dl) :: ("name", .bytes nm) :: ("who", .int who) :: mainLm a c b (d.ackd j0 r who) : Lm) ∧ os = ((dl, .lst ((srt (addA r.acks who)).map .int)) :: mainOsE a c b (d.ackd j0 r who) E : Os))) ?_ ?_
  · wtm_at "m go"
    rw [hnl]
    refine ForGo_rng (fun i lm os => (∃ dl, (∀ j : Nat, d.gone ≤ j → j < d.gone + i → nm ≠ le 8 (c.born + j + 1)) ∧ lm = (("unknown", .bool true) :: ("upto", .int d.gone) :: ("due", .ref dl) :: ("name", .bytes nm) :: ("who", .int who) :: mainLm a c b d : Lm) ∧ os = ((dl, .lst []) :: mainOsE a c b d E : Os)) ∨
      (∃ (dl : Addr) (j0 : Nat) (r : RQ) (u : Int), d.gone ≤ j0 ∧ j0 < d.gone + i ∧ d.rq[j0]? = some r ∧ nm = le 8 (c.born + j0 + 1) ∧ (u = (j0 : Int) + 1 ∨ u = d.gone) ∧ lm = (("unknown", .bool false) :: ("upto", .int u) :: ("due", .ref dl) :: ("name", .bytes nm) :: ("who", .int who) :: mainLm a c b (d.ackd j0 r who) : Lm) ∧ os = ((dl, .lst ((srt (addA r.acks who)).map .int)) :: mainOsE a c b (d.ackd j0 r who) E : Os))) (by wtm_at "m pick") (by omega) (by omega) ?_ ?_ ?_
    · exact .inl ⟨dl, fun j h1 h2 => absurd h1 (by omega), by simp only [mainLm, lawLm], by simp only [mainOsE, mainOsT, lawOs]⟩
    · rintro i lm os fr hi (⟨dl, hno, rfl, rfl⟩ | ⟨dl, j0, r, u, h1, h2, h3, h4, h5, rfl, rfl⟩)
      · refine asgHide fun LP hLP => ?_
        simp only [mainLm, mainOsE, mainOsT, lawLm, lawOs]
        have hj : d.gone + i < d.rq.length := by omega
        obtain ⟨r, hr⟩ : ∃ r, d.rq[d.gone + i]? = some r := ⟨_, List.getElem?_eq_getElem hj⟩
        wtm_at "m go"
        refine Sub_list (mv := .bytes (le 8 (c.born + ((d.gone + i : Nat) : Int) + 1))) (by wtm_at "m mem") .lst (by omega) (by omega) (by rw [show ((d.gone : Int) + (i : Int)).toNat = d.gone + i by omega]; exact namesM_get hj) ?_ (fun _ _ => ⟨_, rfl⟩)
        wtm_at "m gi"
        · rename_i heq
          have hra := hac r (List.mem_of_getElem? hr)
          have hal : r.acks.length ≤ 5 := len5 hra.1 hra.2
          have haA : (addA r.acks who).length ≤ 5 := len5 (addA_nd hra.1) (addA_range hra.2 (by omega))
          have haB : (addA r.acks who).length < 64 := by omega
          have hsl : (srt (addA r.acks who)).length ≤ 5 := by rw [(srt_perm _).length_eq]; exact haA
          have hperm := segR_get hr (segs d.ps ++ E)
          have hperm2 := segR_set (r' := r.ack who) hr (segs d.ps ++ E)
          generalize hT' : segR (d.rq.eraseIdx (d.gone + i)) ++ (segs d.ps ++ E) = T' at hperm hperm2
          have hsa : (d.rq.map fun r => MV.ref r.sa)[((d.gone : Int) + (i : Int)).toNat]? = some (.ref r.sa) := by
            rw [show ((d.gone : Int) + (i : Int)).toNat = d.gone + i by omega, List.getElem?_map, hr]; rfl
          show Exs _ (_ :: _) _ _
          refine Tri.swp (T' := (r.ta, .tup [.int r.idx, .ref r.tr]) :: (r.tr, rowTup 15 1 r.frm 0 r.et r.ctx) :: (r.et, .tup []) :: (r.sa, .lst (r.acks.map .int)) :: T') hperm (by wtm_at "m swp") ?_
          refine Exs_join (P := fun lm os => lm = (("j", .int ((d.gone : Int) + (i : Int))) :: ("unknown", .bool false) :: ("upto", .int d.gone) :: ("due", .ref dl) :: ("name", .bytes nm) :: ("who", .int who) :: mainLm a c b d : Lm) ∧
            os = (mainOsT a c b d ((r.ta, .tup [.int r.idx, .ref r.tr]) :: (r.tr, rowTup 15 1 r.frm 0 r.et r.ctx) :: (r.et, .tup []) :: (r.sa, .lst ((addA r.acks who).map .int)) :: T') : Os)) ?_ ?_
          · wtm_at "m go"
            refine Sub_list (mv := .ref r.sa) (by wtm_at "m mem") .lst (by omega) (by omega) hsa ?_ (fun _ _ => ⟨_, rfl⟩)
            wtm_at "m go"
            refine Cmp_notin_list (by wtm_at "m mem") ?_
            wtm_at "m go"
            · rename_i hin
              refine Sub_list (mv := .ref r.sa) (by wtm_at "m mem") .lst (by omega) (by omega) hsa ?_ (fun _ _ => ⟨_, rfl⟩)
              wtm_at "m go"
              rw [show r.acks.map MV.int ++ [MV.int who] = (addA r.acks who).map MV.int by unfold addA; rw [if_neg hin, List.map_append]; rfl]
              exact .inl ⟨rfl, _, _, Wq.wkn (by simp only [mainLm, lawLm]; wtm_at "m wq"), Wq.wkn (by simp only [mainOsT, lawOs]; wtm_at "m wq"), rfl, rfl⟩
            · rename_i hin
              have e : addA r.acks who = r.acks := if_pos (Classical.not_not.mp hin)
              exact .inl ⟨rfl, _, _, Wq.wkn (by simp only [mainLm, lawLm]; wtm_at "m wq"), Wq.wkn (by simp only [mainOsT, lawOs, e]; wtm_at "m wq"), rfl, rfl⟩
          · rintro lm os ⟨rfl, rfl⟩
            simp only [mainLm, mainOsT, lawLm, lawOs]
            wtm_at "m go"
            refine Sub_list (mv := .ref r.sa) (by wtm_at "m mem") .lst (by omega) (by omega) hsa ?_ (fun _ _ => ⟨_, rfl⟩)
            wtm_at "m go"
            rename_i dl2
            refine CfnE (fn_wins hK (k := 0) (h := a.ha) (a := a.ia) (b := a.ib) (w := dl2) (A := c.A) (B := c.B) (who := srt (addA r.acks who)) (two := c.two) hAl hBl (by omega)) (room.le (by first | decide | exact Nat.add_le_add_left (by decide) _ | omega)) (by wtm_at "m sel") (by wtm_at "m app") ?_
            generalize (winOf (srt (addA r.acks who)) c.A && (!c.two || winOf (srt (addA r.acks who)) c.B)) = wb
            wtm_at "m go"
            cases wb
            · wtm_at "m go"
              refine hLP _ _ ?_
              refine ⟨_, _, Wq.wkn (by simp only [mainLm, lawLm]; wtm_at "m wq"), ?_, .inr ⟨dl2, d.gone + i, r, d.gone, by omega, by omega, hr, heq.symm, .inr rfl, rfl, rfl⟩⟩
              rw [mainOsE_ackd hr]
              exact Wkn.trans (b := (dl2, .lst ((srt (addA r.acks who)).map .int)) :: mainOsT a c b d ((r.ta, .tup [.int r.idx, .ref r.tr]) :: (r.tr, rowTup 15 1 r.frm 0 r.et r.ctx) :: (r.et, .tup []) :: (r.sa, .lst ((addA r.acks who).map .int)) :: T')) (by simp only [mainOsT, lawOs]; wtm_at "m wk") (Wkn.perm ((mainOsT_perm hperm2.symm).cons _))
            · wtm_at "m go"
              refine hLP _ _ ?_
              refine ⟨_, _, Wq.wkn (by simp only [mainLm, lawLm]; wtm_at "m wq"), ?_, .inr ⟨dl2, d.gone + i, r, (d.gone : Int) + (i : Int) + 1, by omega, by omega, hr, heq.symm, .inl (by omega), rfl, rfl⟩⟩
              rw [mainOsE_ackd hr]
              exact Wkn.trans (b := (dl2, .lst ((srt (addA r.acks who)).map .int)) :: mainOsT a c b d ((r.ta, .tup [.int r.idx, .ref r.tr]) :: (r.tr, rowTup 15 1 r.frm 0 r.et r.ctx) :: (r.et, .tup []) :: (r.sa, .lst ((addA r.acks who).map .int)) :: T')) (by simp only [mainOsT, lawOs]; wtm_at "m wk") (Wkn.perm ((mainOsT_perm hperm2.symm).cons _))
        · rename_i hne
          wtm_at "m go"
          refine hLP _ _ ?_
          refine ⟨_, _, Wq.wkn (by simp only [mainLm, lawLm]; wtm_at "m wq"), Wq.wkn (by simp only [mainOsE, mainOsT, lawOs]; wtm_at "m wq"), .inl ⟨dl, fun j h1 h2 => ?_, rfl, rfl⟩⟩
          by_cases hjj : j < d.gone + i
          · exact hno j h1 hjj
          · obtain rfl : j = d.gone + i := by omega
            exact fun e => hne e.symm
      · have hj : d.gone + i < d.rq.length := by omega
        refine asgHide fun LP hLP => ?_
        rw [mainOsE_ackd h3]
        simp only [mainLm, Dat.ackd, mainOsT, lawLm, lawOs]
        generalize hTT : segR (d.rq.set j0 (r.ack who)) ++ (segs d.ps ++ E) = TT
        wtm_at "m go"
        refine Sub_list (mv := .bytes (le 8 (c.born + ((d.gone + i : Nat) : Int) + 1))) (by wtm_at "m mem") .lst (by omega) (by omega) (by rw [show ((d.gone : Int) + (i : Int)).toNat = d.gone + i by omega]; exact namesM_get hj) ?_ (fun _ _ => ⟨_, rfl⟩)
        wtm_at "m gi"
        · rename_i heq
          rw [h4] at heq
          have := le_inj (by omega) (by omega) (by omega) (by omega) heq
          omega
        · wtm_at "m go"
          refine hLP _ _ ?_
          refine ⟨_, _, Wq.wkn (by simp only [mainLm, lawLm, Dat.ackd]; wtm_at "m wq"), ?_, .inr ⟨dl, j0, r, u, h1, by omega, h3, h4, h5, rfl, rfl⟩⟩
          rw [mainOsE_ackd h3, hTT]
          simp only [mainOsT, lawOs]
          wtm_at "m wk"
    · rintro lm os (⟨dl, h1, rfl, rfl⟩ | ⟨dl, j0, r, u, h1, h2, h3, h4, h5, rfl, rfl⟩)
      · exact .inl ⟨rfl, _, _, Wkn.refl, ⟨fun p hp => .tail _ hp, fun nd => (List.nodup_cons.mp nd).2⟩, .inl ⟨dl, fun j k1 k2 => h1 j k1 (by omega), rfl, rfl⟩⟩
      · exact .inl ⟨rfl, _, _, Wkn.refl, ⟨fun p hp => .tail _ hp, fun nd => (List.nodup_cons.mp nd).2⟩, .inr ⟨dl, j0, r, u, h1, h3, h4, h5, rfl, rfl⟩⟩
  · rintro lm os (⟨dl, h1, rfl, rfl⟩ | ⟨dl, j0, r, u, h1, h2, h3, h4, rfl, rfl⟩)
    · exact tail0 h1 dl
    · exact tail1 j0 r h1 h2 h3 u h4 dl

inductive Bub {α : Type} (S : List α) : List α → List α → Prop
  | here {r} : Bub S (S ++ r) r
  | more {x l l'} : Bub S l l' → Bub S (x :: l) (x :: l')
theorem Bub.perm {α : Type} {S l l' : List α} (h : Bub S l l') : l.Perm (S ++ l') := by
  induction h with
  | here => exact List.Perm.refl _
  | more _ ih => exact (ih.cons _).trans List.perm_middle.symm
theorem CsegW {g : G} {X : Cx g} {lm : Lm} {os : Os} {Q : VQ} {n : Nat} {f : Addr} {args : List MV} {fp S rest' rest : Os} {Post : MV → Os → Prop} (hf : Fn g n f args (fp ++ S) Post) (hr : Room X.A n) (hs : Sel os fp rest') (hb : Bub S rest' rest)
    (q : ∀ mv fp', Post mv fp' → ∃ os', Wkn (fp' ++ rest) os' ∧ Q mv ⟨lm, os'⟩) : CallV X (.ref f) args ⟨lm, os⟩ Q := fun vs hv => by
  have hp : os.Perm ((fp ++ S) ++ rest) := by
    rw [List.append_assoc]
    exact hs.perm.trans (hb.perm.append_left _)
  refine Tri.pre (lm := lm) (os := (fp ++ S) ++ rest) ?_ Wkn.refl (Wkn.perm hp)
  refine Tri.post (CallV_fn (Q := fun mv σ => ∃ fp', Post mv fp' ∧ σ = ⟨lm, fp' ++ rest⟩) hf hr (Sel.app _ _) (fun mv fp' p => ⟨fp', p, rfl⟩) vs hv) ?_
  rintro v _ ⟨mv, i, fp', p, rfl⟩
  obtain ⟨os', w, q'⟩ := q mv fp' p
  exact ⟨lm, os', Wkn.refl, w, mv, i, q'⟩
section
variable {g : G} {X : Cx g} {lm : Lm} {os os' : Os} {Q : VQ}
theorem Cmp_nd {op : CmpOp} {a b : MV} (h : (os.map (·.1)).Nodup → Cmp X op a b ⟨lm, os⟩ Q) : Cmp X op a b ⟨lm, os⟩ Q := fun v u hv hu s R => h R.os_nd v u hv hu s R
theorem ne_pick {x y : Addr} {m m' : MO} (nd : (os.map (·.1)).Nodup) (p : Pick (x, m) os os') (h : (y, m') ∈ os') : x ≠ y := by
  have := (p.perm.map (·.1)).nodup_iff.mp nd
  rw [List.map_cons, List.nodup_cons] at this
  rintro rfl
  exact this.1 (List.mem_map_of_mem (f := (·.1)) h)
theorem ne_app {A B : Os} {x y : Addr} {m m' : MO} (nd : (os.map (·.1)).Nodup) (p : os.Perm (A ++ B)) (h1 : (x, m) ∈ A) (h2 : (y, m') ∈ B) : x ≠ y := by
  have := (p.map (·.1)).nodup_iff.mp nd
  rw [List.map_append] at this
  exact (List.nodup_append.mp this).2.2 x (List.mem_map_of_mem (f := (·.1)) h1) y (List.mem_map_of_mem (f := (·.1)) h2)
theorem DE_refl {n : Nat} {a : MV} (h : ∀ x, a ≠ .val x) : DE os n a a := by
  cases n with
  | zero => exact ⟨rfl, h⟩
  | succ n => exact .inl ⟨rfl, h⟩
theorem DE_ints {n : Nat} : ∀ {ns : List Int}, All2 (DE os n) (ns.map .int) (ns.map .int)
  | [] => .nil
  | _ :: _ => .cons (DE_refl nv_int) DE_ints
theorem Cmp_ne_ints {k : Nat} {x y : Addr} {ns : List Int} (hr : Room X.A k) (p : Pick (x, MO.lst (ns.map .int)) os os') (h : (y, MO.lst (ns.map .int)) ∈ os') (q : Q (.bool false) ⟨lm, os⟩) : Cmp X .NotEq (.ref x) (.ref y) ⟨lm, os⟩ Q :=
  Cmp_nd fun nd => Cmp_ne_deep hr (n := 0) (by decide) (.inr ⟨x, y, _, _, rfl, rfl, ne_pick nd p h, .inl ⟨p.perm.mem_iff.mpr (.head _), p.perm.mem_iff.mpr (.tail _ h)⟩, DE_ints⟩) (ne_pick nd p h) q
theorem Cmp_ne_nil {k : Nat} {x y : Addr} (hr : Room X.A k) (p : Pick (x, MO.lst []) os os') (h : (y, MO.lst []) ∈ os') (q : Q (.bool false) ⟨lm, os⟩) : Cmp X .NotEq (.ref x) (.ref y) ⟨lm, os⟩ Q := Cmp_ne_ints (ns := []) hr p h q
end
theorem sliced_same {α : Type} (l : List α) (k : Int) : sliced l (some k) (some k) = [] := by
  unfold sliced
  simp only [Option.elim, Nat.sub_self, List.take_zero]
theorem links_out {born : Int} {rq : List RQ} {gone : Nat} {ps : List PS} (h : Links born rq gone ps) {nm : List UInt8} (hno : ∀ j : Nat, gone ≤ j → j < rq.length → nm ≠ le 8 (born + j + 1)) : nm ∉ ps.map PS.name := by
  intro hm
  obtain ⟨p, hp, e⟩ := List.mem_map.mp hm
  obtain ⟨i, hi, rfl⟩ := List.mem_iff_getElem.mp hp
  obtain ⟨r, hr, _, _, _, _, hnm⟩ := h.link i _ (List.getElem?_eq_getElem hi)
  have hlt := (List.getElem?_eq_some_iff.mp hr).1
  exact hno (gone + i) (Nat.le_add_right _ _) hlt (by rw [← e, hnm])
theorem law_msg3a {g : G} (hK : OnK g) {X : Cx g} (room : Room X.A 40) (kn : Kn X.env lawNames) {cy cc : Addr} (cells : X.env.cells = ([("context", cc), ("y", cy)] : List (Str × Addr))) (hbk : X.env.blockKind = .function) {a : Ads} {c : Conf} {b : Bds} {d : Dat} {E : Os}
    (hlk : Links c.born d.rq d.gone d.ps) (hn : d.rq.length ≤ 100) {who : Nat} {nm : List UInt8} (hno : ∀ j : Nat, d.gone ≤ j → j < d.rq.length → nm ≠ le 8 (c.born + j + 1)) {dl : Addr} {Q : FQ}
    (tail : Exs X ((msgBody g.w.params).drop 11) ⟨("upto", .int d.gone) :: ("who", .int who) :: mainLm a c b d, mainOsE a c b d E⟩ Q) :
    Exs X ((msgBody g.w.params).drop 9) ⟨("unknown", .bool true) :: ("upto", .int d.gone) :: ("due", .ref dl) :: ("name", .bytes nm) :: ("who", .int who) :: mainLm a c b d, (dl, .lst []) :: mainOsE a c b d E⟩ Q := by
  have hpn : getM (penM d.ps) nm = none := penM_none (links_out hlk hno)
  have hrl : (d.rq.map fun r => MV.ref r.ta).length ≤ 1000000 := by rw [List.length_map]; omega
  refine Exs_cons ?_
  simp only [mainLm, mainOsE, mainOsT, lawLm, lawOs]
  wtm_at "m go"
  refine CfnE1 (fn_ack0 hK (k := 0) (x := a.r) (d := a.rd) (pd := a.pd) (q := b.q) (option := c.opt) (serial := c.born + d.rq.length) (frm := who) (name := nm) (es := penM d.ps) hpn) (room.le (by first | decide | exact Nat.add_le_add_left (by decide) _ | omega)) (by wtm_at "m sel") ?_
  intro o
  simp only [osApp]
  wtm_at "m go"
  rw [show (srt (([] : List (Int × MV)).map (·.1))).map MV.int = [] by simp [srt]]
  refine Cmp_ne_nil room (by wtm_at "m pick") (by wtm_at "m mem") ?_
  wtm_at "m gi"
  refine Exs_join (P := fun lm os => lm = (("upto", .int d.gone) :: ("who", .int who) :: mainLm a c b d : Lm) ∧ os = mainOsE a c b d E) ?_ ?_
  · wtm_at "m go"
    refine Ex_asgc (cl := []) (CompOk.of kn cells (by with_unfolding_all rfl) (by decide +kernel)) [] ?_ ?_ (fun _ => rfl)
    · have hk : X.env.kindOf "free" = some .local := kn.at (by wtm_at "m mem")
      show (Pure.pure _ : Sem Bool) = _
      rw [hbk, hk]; rfl
    · wtm_at "m go"
      refine CfnE1 (fn_adv0 hK (k := 0) (x := a.r) (d := a.rd) (pd := a.pd) (q := b.q) (option := c.opt) (serial := c.born + d.rq.length) (name := nm) (es := penM d.ps) hpn) (room.le (by first | decide | exact Nat.add_le_add_left (by decide) _ | omega)) (by wtm_at "m sel") ?_
      intro o2
      simp only [osApp]
      refine CompGo_fm (fun _ => none) (by wtm_at "m pick") .lst (fun _ _ e => by cases e) (by simp) (by wtm_at "m wk") rfl (fun Y hA hn hc i mv hx => by cases hx) ?_
      intro D fr
      simp only [List.length_nil, List.range_zero, List.filterMap_nil]
      wtm_at "m go"
      refine Ev_sll ?_ (fun _ _ => rfl)
      wtm_at "m go"
      rw [sliced_same]
      refine Cmp_ne_nil room (by wtm_at "m pick") (by wtm_at "m mem") ?_
      wtm_at "m go"
      exact .inl ⟨rfl, _, _, Wq.wkn (by simp only [mainLm, lawLm]; wtm_at "m wq"), Wq.wkn (by simp only [mainOsE, mainOsT, lawOs]; wtm_at "m wq"), rfl, rfl⟩
  · rintro lm os ⟨rfl, rfl⟩
    exact tail

local macro_rules | `(tactic| wtm_at "m bub") => `(tactic| with_reducible (first | exact Bub.here | (apply Bub.more; wtm_at "m bub")))
noncomputable def PS.ack (p : PS) (who : Int) : PS := { p with acks := addA p.acks who }
noncomputable def Dat.ackp (d : Dat) (i : Nat) (p : PS) (who : Int) : Dat := { d with ps := d.ps.set i (p.ack who) }
theorem link_ack {born : Int} {rq : List RQ} {gone : Nat} {ps : List PS} (h : Links born rq gone ps) {j0 : Nat} {r : RQ} {p : PS} {who : Int} (h1 : gone ≤ j0) (h2 : rq[j0]? = some r) (h3 : ps[j0 - gone]? = some p) :
    Links born (rq.set j0 (r.ack who)) gone (ps.set (j0 - gone) (p.ack who)) := by
  refine ⟨by rw [List.length_set]; exact h.le, by rw [List.length_set, List.length_set]; exact h.len, fun i q hq => ?_⟩
  by_cases hi : j0 - gone = i
  · subst hi
    rw [List.getElem?_set_self (List.getElem?_eq_some_iff.mp h3).1] at hq
    cases hq
    obtain ⟨r', hr', x1, x2, x3, x4, x5⟩ := h.link _ _ h3
    rw [show gone + (j0 - gone) = j0 by omega] at hr' x5 ⊢
    rw [h2] at hr'; cases hr'
    refine ⟨r.ack who, by rw [List.getElem?_set_self (List.getElem?_eq_some_iff.mp h2).1], x1, x2, x3, ?_, x5⟩
    show addA p.acks who = addA r.acks who
    rw [x4]
  · rw [List.getElem?_set_ne hi] at hq
    obtain ⟨r', hr', x⟩ := h.link _ _ hq
    exact ⟨r', by rw [List.getElem?_set_ne (by omega)]; exact hr', x⟩
theorem links_nd {born : Int} {rq : List RQ} {gone : Nat} {ps : List PS} (h : Links born rq gone ps) (hb : 0 ≤ born ∧ born ≤ 4294967294) (hn : rq.length ≤ 100) : (ps.map PS.name).Nodup := by
  rw [List.nodup_iff_pairwise_ne, List.pairwise_iff_getElem]
  intro i j hi hj hij e
  rw [List.length_map] at hi hj
  rw [List.getElem_map, List.getElem_map] at e
  obtain ⟨r, hr, _, _, _, _, h1⟩ := h.link i _ (List.getElem?_eq_getElem hi)
  obtain ⟨r', hr', _, _, _, _, h2⟩ := h.link j _ (List.getElem?_eq_getElem hj)
  have l1 := (List.getElem?_eq_some_iff.mp hr).1
  have l2 := (List.getElem?_eq_some_iff.mp hr').1
  rw [h1, h2] at e
  have := le_inj (by omega) (by omega) (by omega) (by omega) e
  omega
theorem mainOsE_ackp {a : Ads} {c : Conf} {b : Bds} {d : Dat} {E : Os} {j i : Nat} {r : RQ} {p : PS} {who : Int} (h : d.rq[j]? = some r) (hp : d.ps[i]? = some p) :
    mainOsE a c b ((d.ackd j r who).ackp i p who) E = mainOsT a c b d (segR (d.rq.set j (r.ack who)) ++ (segs (d.ps.set i (p.ack who)) ++ E)) := by
  unfold mainOsE mainOsT lawOs Dat.ackp Dat.ackd penM namM
  dsimp only
  rw [List.length_set, set_map (r' := r.ack who) h rfl, set_map (r' := r.ack who) h rfl, set_map (r' := r.ack who) h rfl, set_map (r' := p.ack who) hp rfl, set_map (r' := p.ack who) hp rfl]
theorem law_msg3b {g : G} (hK : OnK g) {X : Cx g} (room : Room X.A 40) (kn : Kn X.env lawNames) {a : Ads} {c : Conf} {b : Bds} {d : Dat} {E : Os}
    (hlk : Links c.born d.rq d.gone d.ps) (hac : ∀ r ∈ d.rq, r.acks.Nodup ∧ ∀ j ∈ r.acks, 1 ≤ j ∧ j ≤ 5) {who : Nat} (hw1 : 1 ≤ who) (hw5 : who ≤ 5)
    (hb : 0 ≤ c.born ∧ c.born ≤ 4294967294) (hn : d.rq.length ≤ 100) {j0 : Nat} {r : RQ} (h1 : d.gone ≤ j0) (h2 : d.rq[j0]? = some r) {u : Int} {dl : Addr} {Q : FQ}
    (tail : ∀ p, d.ps[j0 - d.gone]? = some p → Exs X ((msgBody g.w.params).drop 10) ⟨("unknown", .bool false) :: ("upto", .int u) :: ("name", .bytes (le 8 (c.born + j0 + 1))) :: ("who", .int who) :: mainLm a c b ((d.ackd j0 r who).ackp (j0 - d.gone) p who), mainOsE a c b ((d.ackd j0 r who).ackp (j0 - d.gone) p who) E⟩ Q) :
    Exs X ((msgBody g.w.params).drop 9) ⟨("unknown", .bool false) :: ("upto", .int u) :: ("due", .ref dl) :: ("name", .bytes (le 8 (c.born + j0 + 1))) :: ("who", .int who) :: mainLm a c b (d.ackd j0 r who), (dl, .lst ((srt (addA r.acks who)).map .int)) :: mainOsE a c b (d.ackd j0 r who) E⟩ Q := by
  have hj := (List.getElem?_eq_some_iff.mp h2).1
  obtain ⟨p, hp⟩ : ∃ p, d.ps[j0 - d.gone]? = some p := ⟨_, List.getElem?_eq_getElem (by have := hlk.len; omega)⟩
  obtain ⟨r', hr', x1, x2, x3, x4, x5⟩ := hlk.link _ _ hp
  rw [show d.gone + (j0 - d.gone) = j0 by omega] at hr' x5
  rw [h2] at hr'; cases hr'
  have nd := links_nd hlk hb hn
  have hpn : getM (penM d.ps) (le 8 (c.born + j0 + 1)) = some (.ref p.st) := by rw [← x5]; exact penM_get nd hp
  have hra := hac r (List.mem_of_getElem? h2)
  have hal : r.acks.length ≤ 5 := len5 hra.1 hra.2
  have haA : (addA r.acks who).length ≤ 5 := len5 (addA_nd hra.1) (addA_range hra.2 (by omega))
  generalize hnm : le 8 (c.born + j0 + 1) = nm at *
  refine Exs_join (P := fun lm os => lm = (("unknown", .bool false) :: ("upto", .int u) :: ("name", .bytes nm) :: ("who", .int who) :: mainLm a c b ((d.ackd j0 r who).ackp (j0 - d.gone) p who) : Lm) ∧ os = mainOsE a c b ((d.ackd j0 r who).ackp (j0 - d.gone) p who) E) ?_ (fun lm os ⟨e1, e2⟩ => by rw [e1, e2]; exact tail p hp)
  refine exHide fun PP hPP => ?_
  rw [mainOsE_ackd h2]
  generalize hR : segR (d.rq.set j0 (r.ack who)) = R
  have hperm : (R ++ (segs d.ps ++ E)).Perm (p.os ++ (R ++ (segs (d.ps.eraseIdx (j0 - d.gone)) ++ E))) := ((segs_get hp E).append_left _).trans (pac _ _ _)
  have hperm2 : (R ++ (segs (d.ps.set (j0 - d.gone) (p.ack who)) ++ E)).Perm ((p.ack who).os ++ (R ++ (segs (d.ps.eraseIdx (j0 - d.gone)) ++ E))) := ((segs_set (p' := p.ack who) hp E).append_left _).trans (pac _ _ _)
  generalize hT' : R ++ (segs (d.ps.eraseIdx (j0 - d.gone)) ++ E) = T' at hperm hperm2
  simp only [mainLm, Dat.ackd, mainOsT, lawLm, lawOs]
  wtm_at "m go"
  refine Call_swp (T' := (p.st, .ins 296 p.sd) :: (p.sd, .ns (statNs p.idx p.m p.ac)) :: (p.ac, .dici (p.acks.map fun j => (j, .bool true))) :: (p.m, .ins 170 p.md) :: (p.md, .ns (msgNs 15 1 p.frm 0 p.e p.ctx)) :: (p.e, .lst []) :: T') hperm (by wtm_at "m swp") ?_
  refine CfnE (fn_ack1 hK (k := 0) (x := a.r) (d := a.rd) (pd := a.pd) (q := b.q) (st := p.st) (sd := p.sd) (ac := p.ac) (m := p.m) (option := c.opt) (serial := c.born + d.rq.length) (frm := who) (index := p.idx) (name := nm) (es := penM d.ps) (A := p.acks.map fun j => (j, .bool true)) hpn (by rw [List.length_map, x4]; omega)) (room.le (by first | decide | exact Nat.add_le_add_left (by decide) _ | omega)) (by wtm_at "m sel") (by wtm_at "m app") ?_
  rw [addA_put, x4]
  wtm_at "m go"
  rw [show ((addA r.acks who).map fun j => (j, MV.bool true)).map (·.1) = addA r.acks who by rw [List.map_map]; exact List.map_id' _]
  refine Cmp_ne_ints (ns := srt (addA r.acks who)) room (by wtm_at "m pick") (by wtm_at "m mem") ?_
  wtm_at "m go"
  refine hPP _ _ (.inl ⟨rfl, _, _, Wq.wkn (by simp only [mainLm, lawLm, Dat.ackd, Dat.ackp]; wtm_at "m wq"), ?_, rfl, rfl⟩)
  rw [mainOsE_ackp h2 hp, hR]
  refine Wkn.trans (b := mainOsT a c b d ((p.ack who).os ++ T')) ?_ (Wkn.perm (mainOsT_perm hperm2.symm))
  simp only [mainOsT, lawOs, PS.os, PS.ack, x4, List.cons_append, List.nil_append]
  wtm_at "m wk"

theorem CsegS {g : G} {X : Cx g} {lm : Lm} {os : Os} {Q : VQ} {n : Nat} {f : Addr} {args : List MV} {fp S rest' rest : Os} {Post : MV → Os → Prop} (hf : Fn g n f args (fp ++ S) Post) (hr : Room X.A n) (hs : Sel os fp rest') (hb : Bub S rest' rest)
    (q : ∀ mv fp', Post mv fp' → ∃ A S' os', fp' = A ++ S' ∧ Wkn (A ++ (rest ++ S')) os' ∧ Q mv ⟨lm, os'⟩) : CallV X (.ref f) args ⟨lm, os⟩ Q :=
  CsegW hf hr hs hb fun mv fp' p => by
    obtain ⟨A, S', os', rfl, w, q'⟩ := q mv fp' p
    refine ⟨os', Wkn.trans (Wkn.perm ?_) w, q'⟩
    rw [List.append_assoc]
    exact List.perm_append_comm.append_left _
theorem mem_perm {α : Type} {l : List α} {x : α} (h : x ∈ l) : ∃ r, l.Perm (x :: r) := by
  obtain ⟨s, t, rfl⟩ := List.append_of_mem h
  exact ⟨s ++ t, List.perm_middle⟩
theorem All2.of_get {α β : Type} {R : α → β → Prop} : ∀ {l : List α} {r : List β}, l.length = r.length → (∀ (i : Nat) (a : α) (b : β), l[i]? = some a → r[i]? = some b → R a b) → All2 R l r
  | [], [], _, _ => .nil
  | [], _ :: _, h, _ => by cases h
  | _ :: _, [], h, _ => by cases h
  | a :: l, b :: r, h, k => .cons (k 0 a b rfl rfl) (All2.of_get (by simpa using h) fun i x y e f => k (i + 1) x y (by simpa using e) (by simpa using f))
theorem mainOsT_app {a : Ads} {c : Conf} {b : Bds} {d : Dat} {S T : Os} : (mainOsT a c b d (S ++ T)).Perm (S ++ mainOsT a c b d T) := by
  have e : ∀ T, mainOsT a c b d T = mainOsT a c b d [] ++ T := fun _ => rfl
  rw [e (S ++ T), e T]
  exact pac _ _ _
noncomputable def freeSeg (fs : List (Addr × Addr × Addr)) (ps : List PS) : Os := (fs.zip ps).flatMap fun x => [(x.1.1, .tup [.int x.2.idx, .ref x.1.2.1]), (x.1.2.1, rowTup 15 1 x.2.frm 0 x.1.2.2 x.2.ctx), (x.1.2.2, .tup [])]
theorem freeSeg_snoc {fs : List (Addr × Addr × Addr)} {ps : List PS} {f : Addr × Addr × Addr} {p : PS} (h : ps[fs.length]? = some p) : freeSeg (fs ++ [f]) ps = freeSeg fs ps ++ [(f.1, .tup [.int p.idx, .ref f.2.1]), (f.2.1, rowTup 15 1 p.frm 0 f.2.2 p.ctx), (f.2.2, .tup [])] := by
  unfold freeSeg
  induction fs generalizing ps with
  | nil => cases ps with
    | nil => cases h
    | cons a l => cases h; rfl
  | cons x fs ih => cases ps with
    | nil => cases h
    | cons a l => rw [List.cons_append, List.zip_cons_cons, List.zip_cons_cons, List.flatMap_cons, List.flatMap_cons, ih h, List.append_assoc]
theorem zip_mem {α β : Type} {l : List α} {r : List β} {i : Nat} {a : α} {b : β} (h : l[i]? = some a) (k : r[i]? = some b) : (a, b) ∈ l.zip r :=
  List.mem_of_getElem? (List.getElem?_zip_eq_some.mpr ⟨h, k⟩)
theorem segR_mem {rq : List RQ} {j : Nat} {r : RQ} (h : rq[j]? = some r) {e : Addr × MO} (he : e ∈ r.os) : e ∈ segR rq := List.mem_flatMap.mpr ⟨r, List.mem_of_getElem? h, he⟩
theorem free_DE {os F R rest : Os} (nd : (os.map (·.1)).Nodup) (hp : os.Perm (F ++ (R ++ rest))) {fs : List (Addr × Addr × Addr)} {ps : List PS} {rq : List RQ} (hF : F = freeSeg fs ps) (hR : R = segR rq) {gone : Nat}
    (hl : ∀ i, i < fs.length → ∃ p r, ps[i]? = some p ∧ rq[gone + i]? = some r ∧ p.idx = r.idx ∧ p.frm = r.frm ∧ p.ctx = r.ctx) (hle : gone + fs.length ≤ rq.length) :
    All2 (DE os 3) (fs.map fun f => .ref f.1) (((rq.map fun r => MV.ref r.ta).drop gone).take fs.length) := by
  subst hF; subst hR
  have ne : ∀ {x y m m'}, (x, m) ∈ freeSeg fs ps → (y, m') ∈ segR rq → x ≠ y := fun h1 h2 => ne_app nd hp h1 (List.mem_append_left _ h2)
  have in1 : ∀ {e}, e ∈ freeSeg fs ps → e ∈ os := fun h => hp.mem_iff.mpr (List.mem_append_left _ h)
  have in2 : ∀ {e}, e ∈ segR rq → e ∈ os := fun h => hp.mem_iff.mpr (List.mem_append_right _ (List.mem_append_left _ h))
  refine All2.of_get ?_ fun i a b ha hb => ?_
  · rw [List.length_map, List.length_take, List.length_drop, List.length_map]; omega
  · have hi : i < fs.length := by
      have := (List.getElem?_eq_some_iff.mp ha).1
      rwa [List.length_map] at this
    obtain ⟨p, r, h1, h2, e1, e2, e3⟩ := hl i hi
    obtain ⟨f, hf⟩ : ∃ f, fs[i]? = some f := ⟨_, List.getElem?_eq_getElem hi⟩
    rw [List.getElem?_map, hf] at ha
    cases ha
    rw [List.getElem?_take_of_lt hi, List.getElem?_drop, List.getElem?_map, h2] at hb
    cases hb
    have mf : ∀ e ∈ ([(f.1, .tup [.int p.idx, .ref f.2.1]), (f.2.1, rowTup 15 1 p.frm 0 f.2.2 p.ctx), (f.2.2, .tup [])] : Os), e ∈ freeSeg fs ps := fun e he => List.mem_flatMap.mpr ⟨(f, p), zip_mem hf h1, he⟩
    have m1 := mf _ (.head _)
    have m2 := mf _ (.tail _ (.head _))
    have m3 := mf _ (.tail _ (.tail _ (.head _)))
    have r1 := segR_mem h2 (e := (r.ta, .tup [.int r.idx, .ref r.tr])) (.head _)
    have r2 := segR_mem h2 (e := (r.tr, rowTup 15 1 r.frm 0 r.et r.ctx)) (.tail _ (.head _))
    have r3 := segR_mem h2 (e := (r.et, .tup [])) (.tail _ (.tail _ (.head _)))
    rw [e1] at m1
    rw [e2, e3] at m2
    refine .inr ⟨f.1, r.ta, _, _, rfl, rfl, ne m1 r1, .inr ⟨in1 m1, in2 r1⟩, .cons (DE_refl nv_int) (.cons (.inr ⟨f.2.1, r.tr, _, _, rfl, rfl, ne m2 r2, .inr ⟨in1 m2, in2 r2⟩, ?_⟩) .nil)⟩
    exact .cons (DE_refl nv_int) (.cons (DE_refl nv_int) (.cons (DE_refl nv_int) (.cons (DE_refl nv_int) (.cons (DE_refl nv_int) (.cons (DE_refl nv_int) (.cons (.inr ⟨f.2.2, r.et, _, _, rfl, rfl, ne m3 r3, .inr ⟨in1 m3, in2 r3⟩, .nil⟩)
      (.cons (DE_refl nv_int) (.cons (DE_refl nv_none) (.cons (DE_refl nv_bool) (.cons (DE_refl nv_int) (.cons (DE_refl nv_bytes) .nil)))))))))))
theorem link_drop {born : Int} {rq : List RQ} {gone : Nat} {ps : List PS} (h : Links born rq gone ps) {k : Nat} (hk : k ≤ ps.length) : Links born rq (gone + k) (ps.drop k) := by
  have hle := h.le
  have hlen := h.len
  refine ⟨by omega, by rw [List.length_drop]; omega, fun i p hp => ?_⟩
  rw [List.getElem?_drop] at hp
  obtain ⟨r, hr, x⟩ := h.link _ _ hp
  rw [← Nat.add_assoc] at hr
  rw [← Nat.add_assoc] at x
  exact ⟨r, hr, x⟩
theorem Swp.drop {T T' J os os' : Os} (s : Swp T T' os os') (h : T.Perm (T' ++ J)) : Wkn os os' := by
  have hp : os.Perm (os' ++ J) := by
    induction s with
    | here => exact h
    | more _ ih => exact ih.cons _
  refine ⟨fun p hp' => hp.mem_iff.mpr (List.mem_append_left _ hp'), fun nd => ?_⟩
  have := (hp.map (·.1)).nodup_iff.mp nd
  rw [List.map_append] at this
  exact (List.nodup_append.mp this).1
theorem segs_split (ps : List PS) (k : Nat) : segs ps = segs (ps.take k) ++ segs (ps.drop k) := by
  unfold segs
  rw [← List.flatMap_append, List.take_append_drop]
theorem law_msg3c {g : G} (hK : OnK g) {X : Cx g} (room : Room X.A 40) (kn : Kn X.env lawNames) {cy cc : Addr} (cells : X.env.cells = ([("context", cc), ("y", cy)] : List (Str × Addr))) (hbk : X.env.blockKind = .function) {a : Ads} {c : Conf} {b : Bds} {d : Dat} {E : Os}
    (hlk : Links c.born d.rq d.gone d.ps) (hb : 0 ≤ c.born ∧ c.born ≤ 4294967294) (hn : d.rq.length ≤ 100) {who : Nat} {t : Nat} {pt : PS} (ht : d.ps[t]? = some pt) {u : Int} (hu : u = (d.gone : Int) + (t : Int) + 1 ∨ u = d.gone) {Q : FQ}
    (tail : ∀ (b' : Bds) (ps' : List PS) (g' : Nat), Links c.born d.rq g' ps' → Exs X ((msgBody g.w.params).drop 11) ⟨("upto", .int g') :: ("who", .int who) :: mainLm a c b' { d with ps := ps' }, mainOsE a c b' { d with ps := ps' } E⟩ Q) :
    Exs X ((msgBody g.w.params).drop 10) ⟨("unknown", .bool false) :: ("upto", .int u) :: ("name", .bytes pt.name) :: ("who", .int who) :: mainLm a c b d, mainOsE a c b d E⟩ Q := by
  have hrl : (d.rq.map fun r => MV.ref r.ta).length ≤ 1000000 := by rw [List.length_map]; omega
  have hlt : t < d.ps.length := (List.getElem?_eq_some_iff.mp ht).1
  have hle := hlk.le
  have hlen := hlk.len
  refine Exs_join (P := fun lm os => ∃ (b' : Bds) (ps' : List PS) (g' : Nat), Links c.born d.rq g' ps' ∧ lm = (("upto", .int g') :: ("who", .int who) :: mainLm a c b' { d with ps := ps' } : Lm) ∧ os = mainOsE a c b' { d with ps := ps' } E) ?_ ?_
  · refine exHide fun PP hPP => ?_
    rcases hu with rfl | rfl
    · simp only [mainLm, mainOsE, mainOsT, lawLm, lawOs]
      wtm_at "m go"
      refine Ex_asgc (cl := []) (CompOk.of kn cells (by with_unfolding_all rfl) (by decide +kernel)) [] ?_ ?_ (fun _ => rfl)
      · have hk : X.env.kindOf "free" = some .local := kn.at (by wtm_at "m mem")
        show (Pure.pure _ : Sem Bool) = _
        rw [hbk, hk]; rfl
      · wtm_at "m go"
        refine Call_swp (pac _ _ _) (by wtm_at "m swp") ?_
        refine CsegS (fn_adv1 hK (k := 0) (x := a.r) (d := a.rd) (pd := a.pd) (q := b.q) (option := c.opt) (serial := c.born + d.rq.length) (ps := d.ps) ht rfl (links_nd hlk hb hn) (by omega)) (room.le (by first | decide | exact Nat.add_le_add_left (by decide) _ | omega)) (by wtm_at "m sel") (by wtm_at "m bub") ?_
        rintro _ _ ⟨o, q', ts, hts, rfl, rfl⟩
        obtain ⟨M, hM⟩ : ∃ M : Os → Os, M = fun T => mainOsT a c { b with q := q' } { d with ps := d.ps.drop (t + 1) } T := ⟨_, rfl⟩
        have hMp : ∀ {T T' : Os}, T.Perm T' → (M T).Perm (M T') := fun h => by rw [hM]; exact mainOsT_perm h
        have hMa : ∀ {S T : Os}, (M (S ++ T)).Perm (S ++ M T) := by rw [hM]; exact mainOsT_app
        obtain ⟨T, hT⟩ : ∃ T, T = segR d.rq ++ (E ++ (tupSeg ts d.ps ++ segs d.ps)) := ⟨_, rfl⟩
        refine ⟨_, _, (o, .lst (ts.map .ref)) :: M T, rfl, ?_, ?_⟩
        · rw [hM, hT]
          simp only [List.cons_append, List.nil_append, List.append_assoc, mainOsT, lawOs]
          wtm_at "m wk"
        · refine ⟨o, _, _, _, fun i acc os => ∃ fs : List (Addr × Addr × Addr), fs.length = i ∧ acc = fs.map (fun f => .ref f.1) ∧ os = M (freeSeg fs d.ps ++ T), rfl, .head, .lst, fun _ _ e => (by cases e), ?_, by wtm_at "m wk", rfl, ⟨[], rfl, rfl, rfl⟩, ?_, ?_⟩
          · rw [List.length_map, hts]; omega
          · rintro Y hA hn' hcc i mv acc os hx hacc ⟨fs, hfs, rfl, rfl⟩
            replace hn' : Kn Y.env [(".0", .local), ("index", .local), ("request", .local)] := by
              intro x kd hx
              refine hn' x kd ?_
              simp only [List.mem_cons, List.not_mem_nil, or_false] at hx
              rcases hx with h | h | h <;> (cases h; decide +kernel)
            obtain ⟨tt, htt, rfl⟩ : ∃ tt, ts[i]? = some tt ∧ mv = .ref tt := by
              rw [List.getElem?_map] at hx
              cases e : ts[i]? with
              | none => rw [e] at hx; cases hx
              | some tt => rw [e] at hx; cases hx; exact ⟨tt, rfl, rfl⟩
            have hil := (List.getElem?_eq_some_iff.mp htt).1
            obtain ⟨p, hp⟩ : ∃ p, d.ps[i]? = some p := ⟨_, List.getElem?_eq_getElem (by omega)⟩
            obtain ⟨R, hR⟩ : ∃ R, (M (freeSeg fs d.ps ++ T)).Perm ((tt, .tup [.int p.idx, .ref p.m]) :: (p.os ++ R)) := by
              obtain ⟨R1, hR1⟩ := mem_perm (show (tt, MO.tup [.int p.idx, .ref p.m]) ∈ tupSeg ts d.ps from List.mem_map.mpr ⟨(tt, p), zip_mem htt hp, rfl⟩)
              have h2 := segs_get hp []
              rw [List.append_nil, List.append_nil] at h2
              have h3 : (tupSeg ts d.ps ++ segs d.ps).Perm (((tt, MO.tup [.int p.idx, .ref p.m]) :: p.os) ++ (R1 ++ segs (d.ps.eraseIdx i))) :=
                (hR1.append h2).trans ((pac R1 p.os _).cons _)
              have h4 : T.Perm (((tt, MO.tup [.int p.idx, .ref p.m]) :: p.os) ++ (segR d.rq ++ (E ++ (R1 ++ segs (d.ps.eraseIdx i))))) := by
                rw [hT]
                exact (((h3.append_left _).trans (pac _ _ _)).append_left _).trans (pac _ _ _)
              exact ⟨_, (hMp ((h4.append_left _).trans (pac _ _ _))).trans hMa⟩
            intro v iv
            refine Tri.pre (lm := []) (os := (tt, .tup [.int p.idx, .ref p.m]) :: (p.st, .ins 296 p.sd) :: (p.sd, .ns (statNs p.idx p.m p.ac)) :: (p.ac, .dici (p.acks.map fun j => (j, .bool true))) :: (p.m, .ins 170 p.md) :: (p.md, .ns (msgNs 15 1 p.frm 0 p.e p.ctx)) :: (p.e, .lst []) :: R) ?_ Wkn.refl (Wkn.perm hR)
            refine Asg_tup2 (t := tt) (a := .int p.idx) (b := .ref p.m) (by wtm_at "m mem") ?_ v iv
            wtm_at "m go"
            refine Cfn (fn_msg_row hK (k := 0) (x := p.m) (d := p.md) (e := p.e) (kind := 15) (to := 1) (frm := p.frm) (term := 0) (ctx := p.ctx)) (by rw [hA]; exact room.le (by omega)) (by wtm_at "m sel") ?_
            rintro _ _ ⟨tr, et, rfl, rfl⟩
            simp only [osApp]
            wtm_at "m go"
            rename_i nt
            refine ⟨M (freeSeg (fs ++ [(nt, tr, et)]) d.ps ++ T), by wtm_at "m wk", ?_, fs ++ [(nt, tr, et)], by rw [List.length_append, hfs]; rfl, by rw [List.map_append]; rfl, rfl⟩
            refine Wkn.trans (b := (nt, .tup [.int p.idx, .ref tr]) :: (tr, rowTup 15 1 p.frm 0 et p.ctx) :: (et, .tup []) :: (tt, .tup [.int p.idx, .ref p.m]) :: (p.st, .ins 296 p.sd) :: (p.sd, .ns (statNs p.idx p.m p.ac)) :: (p.ac, .dici (p.acks.map fun j => (j, .bool true))) :: (p.m, .ins 170 p.md) :: (p.md, .ns (msgNs 15 1 p.frm 0 p.e p.ctx)) :: (p.e, .lst []) :: R) (by wtm_at "m wk") (Wkn.perm ?_)
            rw [freeSeg_snoc (by rw [hfs]; exact hp), List.append_assoc]
            exact (((hMp (pac (freeSeg fs d.ps) ([(nt, .tup [.int p.idx, .ref tr]), (tr, rowTup 15 1 p.frm 0 et p.ctx), (et, .tup [])] : Os) T)).trans hMa).trans (hR.append_left _)).symm
          · rintro D acc os ⟨fs, hfs, rfl, rfl⟩ fr
            rw [List.length_map, hts] at hfs
            rw [hM, hT]
            simp only [mainOsT, lawOs]
            generalize hFs : freeSeg fs d.ps = F
            generalize hRs : segR d.rq = Rs
            wtm_at "m go"
            refine Ev_sll ?_ (fun _ _ => rfl)
            wtm_at "m go"
            rename_i bl
            have hsl : sliced (d.rq.map fun r => MV.ref r.ta) (some (d.gone : Int)) (some ((d.gone : Int) + (t : Int) + 1)) = ((d.rq.map fun r => MV.ref r.ta).drop d.gone).take fs.length := by
              unfold sliced
              rw [show (d.gone : Int) + (t : Int) + 1 = ((d.gone + t + 1 : Nat) : Int) by omega]
              simp only [Option.elim]
              rw [clipAt_nat _ _ (by rw [List.length_map]; omega), clipAt_nat _ _ (by rw [List.length_map]; omega), hfs]
              congr 1; omega
            rw [hsl]
            refine Cmp_nd fun nd => Cmp_ne_deep room (n := 3) (by decide) (.inr ⟨D, bl, _, _, rfl, rfl, ?_, .inl ⟨by wtm_at "m mem", by wtm_at "m mem"⟩, ?_⟩) ?_ ?_
            · exact ne_pick nd (by wtm_at "m pick") (by wtm_at "m mem")
            · refine free_DE nd (F := F) (R := Rs) ((Bub.perm (S := F) (by wtm_at "m bub")).trans ((Bub.perm (S := Rs) (by wtm_at "m bub")).append_left _)) hFs.symm hRs.symm ?_ ?_
              · intro i hi
                obtain ⟨p, hp⟩ : ∃ p, d.ps[i]? = some p := ⟨_, List.getElem?_eq_getElem (by omega)⟩
                obtain ⟨r, hr, x1, x2, x3, _⟩ := hlk.link i p hp
                exact ⟨p, r, hp, hr, x1, x2, x3⟩
              · omega
            · exact ne_pick nd (by wtm_at "m pick") (by wtm_at "m mem")
            · wtm_at "m go"
              refine hPP _ _ (.inl ⟨rfl, _, _, Wq.wkn (by simp only [mainLm, lawLm]; wtm_at "m wq"), ?_, { b with q := q' }, d.ps.drop (t + 1), d.gone + (t + 1), link_drop hlk (by omega), rfl, rfl⟩)
              simp only [mainOsE, mainOsT, lawOs]
              rw [hRs]
              refine Wkn.trans (Swp.drop (T := F ++ (Rs ++ (E ++ (tupSeg ts d.ps ++ segs d.ps)))) (T' := Rs ++ (segs (d.ps.drop (t + 1)) ++ E)) (J := F ++ (tupSeg ts d.ps ++ segs (d.ps.take (t + 1)))) (by wtm_at "m swp") ?_) (by wtm_at "m wk")
              rw [segs_split d.ps (t + 1)]
              classical
              exact List.perm_iff_count.mpr fun x => by simp only [List.count_append]; omega
    · simp only [mainLm, mainOsE, mainOsT, lawLm, lawOs]
      wtm_at "m go"
      exact hPP _ _ (.inl ⟨rfl, _, _, Wq.wkn (by simp only [mainLm, lawLm]; wtm_at "m wq"), Wq.wkn (by simp only [mainOsE, mainOsT, lawOs]; wtm_at "m wq"), b, d.ps, d.gone, hlk, rfl, rfl⟩)
  · rintro lm os ⟨b', ps', g', h, rfl, rfl⟩
    exact tail b' ps' g' h

theorem Asg_swp {g : G} {X : Cx g} {target : PySem.Expr} {mv : MV} {lm : Lm} {os os' T T' : Os} {Q : St → Prop} (h : T.Perm T') (s : Swp T T' os os') (k : Asg X target mv ⟨lm, os'⟩ Q) : Asg X target mv ⟨lm, os⟩ Q := fun v i => Tri.swp h s (k v i)
noncomputable def Thn (lm : Lm) (os : Os) (K : St → Prop) : Prop := ∃ os', Wkn os os' ∧ K ⟨lm, os'⟩
theorem Thn_swp {lm : Lm} {os os' T T' : Os} {K : St → Prop} (h : T.Perm T') (s : Swp T T' os os') (k : K ⟨lm, os'⟩) : Thn lm os K := ⟨os', Wkn.perm (s.perm h), k⟩
theorem CsegX {g : G} {X : Cx g} {lm : Lm} {os : Os} {Q : VQ} {n : Nat} {f : Addr} {args : List MV} {fp S rest' rest : Os} {Post : MV → Os → Prop} (hf : Fn g n f args (fp ++ S) Post) (hr : Room X.A n) (hs : Sel os fp rest') (hb : Bub S rest' rest)
    (q : ∀ mv fp', Post mv fp' → ∃ A S', fp' = A ++ S' ∧ Thn lm (A ++ (rest ++ S')) (Q mv)) : CallV X (.ref f) args ⟨lm, os⟩ Q :=
  CsegS hf hr hs hb fun mv fp' p => by
    obtain ⟨A, S', e, os', w, k⟩ := q mv fp' p
    exact ⟨A, S', os', e, w, k⟩
theorem perm_cc {α : Type} {a b : List α} (h : ∀ [BEq α] [LawfulBEq α] (x : α), List.count x a = List.count x b) : a.Perm b := by
  classical
  exact List.perm_iff_count.mpr fun x => h x
theorem row_DE {os A B rest : Os} (nd : (os.map (·.1)).Nodup) (hp : os.Perm (A ++ (B ++ rest))) {rs ws : List (Addr × Addr)} {ps : List PS} (hA : A = rowSeg rs ps) (hB : B = rowSeg ws ps) (h1 : rs.length = ps.length) (h2 : ws.length = ps.length) :
    All2 (DE os 2) (rs.map fun f => .ref f.1) (ws.map fun f => .ref f.1) := by
  subst hA; subst hB
  have ne : ∀ {x y m m'}, (x, m) ∈ rowSeg rs ps → (y, m') ∈ rowSeg ws ps → x ≠ y := fun h1 h2 => ne_app nd hp h1 (List.mem_append_left _ h2)
  have in1 : ∀ {e}, e ∈ rowSeg rs ps → e ∈ os := fun h => hp.mem_iff.mpr (List.mem_append_left _ h)
  have in2 : ∀ {e}, e ∈ rowSeg ws ps → e ∈ os := fun h => hp.mem_iff.mpr (List.mem_append_right _ (List.mem_append_left _ h))
  have mf : ∀ {l : List (Addr × Addr)} {i : Nat} {f : Addr × Addr} {p : PS}, l[i]? = some f → ps[i]? = some p → ∀ e ∈ ([(f.1, .tup [.bytes p.name, .int p.idx, .bytes p.ctx, .ref f.2]), (f.2, .tup ((srt p.acks).map .int))] : Os), e ∈ rowSeg l ps :=
    fun {l i f p} hf hp e he => List.mem_flatMap.mpr ⟨(f, p), zip_mem hf hp, he⟩
  refine All2.of_get (by rw [List.length_map, List.length_map, h1, h2]) fun i a b ha hb => ?_
  have hi : i < rs.length := by
    have := (List.getElem?_eq_some_iff.mp ha).1
    rwa [List.length_map] at this
  obtain ⟨p, hpp⟩ : ∃ p, ps[i]? = some p := ⟨_, List.getElem?_eq_getElem (by omega)⟩
  obtain ⟨f, hf⟩ : ∃ f, rs[i]? = some f := ⟨_, List.getElem?_eq_getElem hi⟩
  obtain ⟨w, hw⟩ : ∃ w, ws[i]? = some w := ⟨_, List.getElem?_eq_getElem (by omega)⟩
  rw [List.getElem?_map, hf] at ha
  cases ha
  rw [List.getElem?_map, hw] at hb
  cases hb
  have m1 := mf hf hpp _ (.head _)
  have m2 := mf hf hpp _ (.tail _ (.head _))
  have w1 := mf hw hpp _ (.head _)
  have w2 := mf hw hpp _ (.tail _ (.head _))
  exact .inr ⟨f.1, w.1, _, _, rfl, rfl, ne m1 w1, .inr ⟨in1 m1, in2 w1⟩, .cons (DE_refl nv_bytes) (.cons (DE_refl nv_int) (.cons (DE_refl nv_bytes) (.cons (.inr ⟨f.2, w.2, _, _, rfl, rfl, ne m2 w2, .inr ⟨in1 m2, in2 w2⟩, DE_ints⟩) .nil)))⟩
theorem law_msg4 {g : G} (hK : OnK g) {X : Cx g} (room : Room X.A 40) (kn : Kn X.env lawNames) {a : Ads} {c : Conf} {b : Bds} {d : Dat} {E : Os} {g' : Nat}
    (hlk : Links c.born d.rq g' d.ps) (hb : 0 ≤ c.born ∧ c.born ≤ 4294967294) (hn : d.rq.length ≤ 100) (hac : ∀ r ∈ d.rq, r.acks.Nodup ∧ ∀ j ∈ r.acks, 1 ≤ j ∧ j ≤ 5) {who : Nat} {Q : FQ}
    (tail : Exs X ((msgBody g.w.params).drop 15) ⟨("who", .int who) :: mainLm a c b { d with gone := g' }, mainOsE a c b d E⟩ Q) :
    Exs X ((msgBody g.w.params).drop 11) ⟨("upto", .int g') :: ("who", .int who) :: mainLm a c b d, mainOsE a c b d E⟩ Q := by
  have hle := hlk.le
  have hlen := hlk.len
  have hnl : (namesM c.born d.rq.length).length = d.rq.length := by unfold namesM; rw [List.length_map, List.length_range]
  refine Exs_cons ?_
  simp only [mainLm, mainOsE, mainOsT, lawLm, lawOs]
  wtm_at "m gf"
  rename_i wl
  refine Exs_join (P := fun lm os => ∃ ws : List (Addr × Addr), ws.length = d.ps.length ∧ lm = (("waiting", .ref wl) :: ("upto", .int g') :: ("who", .int who) :: mainLm a c b { d with gone := g' } : Lm) ∧ os = ((wl, .lst (ws.map fun w => .ref w.1)) :: mainOsE a c b d (rowSeg ws d.ps ++ E) : Os)) ?_ ?_
  · wtm_at "m go"
    rw [hnl]
    refine ForGo_rng (fun i lm os => ∃ ws : List (Addr × Addr), ws.length = i ∧ lm = (("waiting", .ref wl) :: ("upto", .int g') :: ("who", .int who) :: mainLm a c b { d with gone := g' } : Lm) ∧ os = ((wl, .lst (ws.map fun w => .ref w.1)) :: mainOsE a c b d (rowSeg ws d.ps ++ E) : Os)) (by wtm_at "m pick") (by omega) (by omega) ?_ ?_ ?_
    · exact ⟨[], rfl, rfl, rfl⟩
    · rintro i lm os fr hi ⟨ws, hws, rfl, rfl⟩
      refine asgHide fun LP hLP => ?_
      have hj : g' + i < d.rq.length := by omega
      obtain ⟨p, hp⟩ : ∃ p, d.ps[i]? = some p := ⟨_, List.getElem?_eq_getElem (by omega)⟩
      obtain ⟨r, hr, x1, x2, x3, x4, x5⟩ := hlk.link i p hp
      have hra := hac r (List.mem_of_getElem? hr)
      have hal : r.acks.length ≤ 5 := len5 hra.1 hra.2
      have hal2 : r.acks.length < 64 := by omega
      have hwsl : (ws.map fun w => MV.ref w.1).length ≤ 1000000 := by rw [List.length_map]; omega
      have hperm := segR_get hr (segs d.ps ++ (rowSeg ws d.ps ++ E))
      generalize hT' : segR (d.rq.eraseIdx (g' + i)) ++ (segs d.ps ++ (rowSeg ws d.ps ++ E)) = T' at hperm
      simp only [mainLm, mainOsE, mainOsT, lawLm, lawOs]
      refine Asg_swp (T' := (r.ta, .tup [.int r.idx, .ref r.tr]) :: (r.tr, rowTup 15 1 r.frm 0 r.et r.ctx) :: (r.et, .tup []) :: (r.sa, .lst (r.acks.map .int)) :: T') hperm (by wtm_at "m swp") ?_
      have toN : ((g' : Int) + (i : Int)).toNat = g' + i := by omega
      wtm_at "m go"
      refine Sub_list (mv := .bytes (le 8 (c.born + ((g' + i : Nat) : Int) + 1))) (by wtm_at "m mem") .lst (by omega) (by omega) (by rw [toN]; exact namesM_get hj) ?_ (fun _ _ => ⟨_, rfl⟩)
      wtm_at "m go"
      refine Sub_list (mv := .ref r.ta) (by wtm_at "m mem") .lst (by omega) (by omega) (by rw [toN, List.getElem?_map, hr]; rfl) ?_ (fun _ _ => ⟨_, rfl⟩)
      wtm_at "m go"
      refine Sub_tuple (mv := .int r.idx) (by wtm_at "m mem") (by decide) (by decide) rfl ?_ (fun _ _ => ⟨_, rfl⟩)
      wtm_at "m go"
      refine Sub_list (mv := .bytes r.ctx) (by wtm_at "m mem") .lst (by omega) (by omega) (by rw [toN, List.getElem?_map, hr]; rfl) ?_ (fun _ _ => ⟨_, rfl⟩)
      wtm_at "m go"
      refine Sub_list (mv := .ref r.sa) (by wtm_at "m mem") .lst (by omega) (by omega) (by rw [toN, List.getElem?_map, hr]; rfl) ?_ (fun _ _ => ⟨_, rfl⟩)
      wtm_at "m go"
      refine CallV_tuple' (by wtm_at "m mem") .lst (by rw [List.length_map, (srt_perm r.acks).length_eq]; omega) (fun kt => ?_)
      wtm_at "m go"
      rename_i so nw
      refine hLP _ _ ?_
      refine ⟨_, _, Wq.wkn (by simp only [mainLm, lawLm]; wtm_at "m wq"), ?_, ws ++ [(nw, kt)], by rw [List.length_append, hws]; rfl, rfl, rfl⟩
      refine Wkn.trans (b := (wl, .lst ((ws ++ [(nw, kt)]).map fun w => .ref w.1)) :: mainOsT a c b d ((nw, .tup [.bytes p.name, .int p.idx, .bytes p.ctx, .ref kt]) :: (kt, .tup ((srt p.acks).map .int)) :: (r.ta, .tup [.int r.idx, .ref r.tr]) :: (r.tr, rowTup 15 1 r.frm 0 r.et r.ctx) :: (r.et, .tup []) :: (r.sa, .lst (r.acks.map .int)) :: T')) ?_ (Wkn.perm ((mainOsT_perm ?_).cons _))
      · rw [x1, x3, x4, x5]
        simp only [mainOsT, lawOs]
        wtm_at "m wk"
      · rw [rowSeg_snoc (by rw [hws]; exact hp)]
        refine ((hperm.symm.cons _).cons _).trans ?_
        show (([_, _] : Os) ++ (segR d.rq ++ (segs d.ps ++ (rowSeg ws d.ps ++ E)))).Perm _
        exact perm_cc fun x => by simp only [List.count_append]; omega
    · rintro lm os ⟨ws, hws, rfl, rfl⟩
      exact .inl ⟨rfl, _, _, Wkn.refl, ⟨fun p hp => .tail _ hp, fun nd => (List.nodup_cons.mp nd).2⟩, ws, by omega, rfl, rfl⟩
  · rintro lm os ⟨ws, hws, rfl, rfl⟩
    have hwsl : (ws.map fun w => MV.ref w.1).length ≤ 1000000 := by rw [List.length_map]; omega
    refine Exs_join (P := fun lm os => lm = (("who", .int who) :: mainLm a c b { d with gone := g' } : Lm) ∧ os = mainOsE a c b d E) ?_ (fun lm os ⟨e1, e2⟩ => by rw [e1, e2]; exact tail)
    refine exHide fun PP hPP => ?_
    simp only [mainLm, mainOsE, mainOsT, lawLm, lawOs]
    wtm_at "m go"
    refine Call_swp (pac _ _ _) (by wtm_at "m swp") ?_
    refine CsegX (fn_ro_row hK (k := 0) (x := a.r) (d := a.rd) (pd := a.pd) (q := b.q) (option := c.opt) (serial := c.born + d.rq.length) (ps := d.ps) (links_nd hlk hb hn) (by omega) ?_) (room.le (by first | decide | exact Nat.add_le_add_left (by decide) _ | omega)) (by wtm_at "m sel") (by wtm_at "m bub") ?_
    · intro p hp
      obtain ⟨i, hi, rfl⟩ := List.mem_iff_getElem.mp hp
      obtain ⟨r, hr, _, _, _, x4, _⟩ := hlk.link i _ (List.getElem?_eq_getElem hi)
      have hra := hac r (List.mem_of_getElem? hr)
      have := len5 hra.1 hra.2
      rw [x4]; omega
    rintro _ _ ⟨rt, wt, rs, hrs, rfl, rfl⟩
    refine ⟨_, _, rfl, ?_⟩
    simp only [List.cons_append, List.nil_append, List.append_assoc]
    refine Thn_swp (T := segR d.rq ++ (rowSeg ws d.ps ++ (E ++ (rowSeg rs d.ps ++ segs d.ps)))) (T' := rowSeg rs d.ps ++ (rowSeg ws d.ps ++ (segR d.rq ++ (segs d.ps ++ E)))) (perm_cc fun x => by simp only [List.count_append]; omega) (by wtm_at "m swp") ?_
    · wtm_at "m go"
      refine CallV_tuple' (by wtm_at "m mem") .lst hwsl (fun w2 => ?_)
      wtm_at "m go"
      rename_i x2
      rw [hnl]
      refine Cmp_nd fun nd => Cmp_ne_deep room (n := 3) (by decide) (.inr ⟨rt, x2, _, _, rfl, rfl, ?_, .inr ⟨by wtm_at "m mem", by wtm_at "m mem"⟩, .cons (DE_refl nv_int) (.cons (DE_refl nv_int) (.cons (.inr ⟨wt, w2, _, _, rfl, rfl, ?_, .inr ⟨by wtm_at "m mem", by wtm_at "m mem"⟩, row_DE nd (A := rowSeg rs d.ps) (B := rowSeg ws d.ps) ((Bub.perm (S := rowSeg rs d.ps) (by wtm_at "m bub")).trans ((Bub.perm (S := rowSeg ws d.ps) (by wtm_at "m bub")).append_left _)) rfl rfl hrs hws⟩) .nil))⟩) ?_ ?_
      · exact ne_pick nd (by wtm_at "m pick") (by wtm_at "m mem")
      · exact ne_pick nd (by wtm_at "m pick") (by wtm_at "m mem")
      · exact ne_pick nd (by wtm_at "m pick") (by wtm_at "m mem")
      · wtm_at "m go"
        refine hPP _ _ ?_
        refine .inl ⟨rfl, _, _, Wq.wkn (by simp only [mainLm, lawLm]; wtm_at "m wq"), ?_, rfl, rfl⟩
        simp only [mainOsE, mainOsT, lawOs]
        exact Wkn.trans (Swp.drop (T := rowSeg rs d.ps ++ (rowSeg ws d.ps ++ (segR d.rq ++ (segs d.ps ++ E)))) (T' := segR d.rq ++ (segs d.ps ++ E)) (J := rowSeg rs d.ps ++ rowSeg ws d.ps) (by wtm_at "m swp") (perm_cc fun x => by simp only [List.count_append]; omega)) (by wtm_at "m wk")

theorem one_holds {H : List (Int × Int)} {vals : List Int} {now span : Int} (h : HV H vals now) {who : Nat} (h1 : 1 ≤ who) (h2 : who ≤ 5) : (majB [(who : Int)] (holdF H now span 6) && majB [] (holdF H now span 6)) = decide ((who : Int) ∈ nearOf vals now span) := by
  rw [maj_one, maj_nil, Bool.and_true]
  unfold holdF
  rw [decide_eq_false (show ¬ (who : Int) = 6 by omega), Bool.false_or]
  exact near_holds h h1 h2
theorem law_msg5 {g : G} (hK : OnK g) {X : Cx g} (room : Room X.A 40) (kn : Kn X.env lawNames) {a : Ads} {c : Conf} {b : Bds} {d : Dat} {E : Os} (hv : HV d.H d.vals d.now) {who : Nat} (hw1 : 1 ≤ who) (hw5 : who ≤ 5) {Q : FQ}
    (tail : ∀ os, Wkn os (mainOsE a c b d E) → Q .next ⟨("who", .int who) :: mainLm a c b d, os⟩) :
    Exs X ((msgBody g.w.params).drop 15) ⟨("who", .int who) :: mainLm a c b d, mainOsE a c b d E⟩ Q := by
  have hhl := hv.hlen
  refine Exs_cons ?_
  simp only [mainLm, mainOsE, mainOsT, lawLm, lawOs]
  generalize hT : segR d.rq ++ (segs d.ps ++ E) = T
  wtm_at "m go"
  rename_i l1 l2 l3 l4
  refine Ccls (fp := [(l1, .lst (([(who : Int)] : List Int).map .int)), (l2, .lst (([] : List Int).map .int)), (l3, .lst (([] : List Int).map .int)), (l4, .lst (([] : List Int).map .int))]) (cls_Config hK) (fun x d => fn_conf_init hK (k := 0) (x := x) (d := d) (a1 := l1) (a2 := l2) (a3 := l3) (a4 := l4) (V := [(who : Int)]) (O := []) (by simp) (by simp)) (room.le (by first | decide | exact Nat.add_le_add_left (by decide) _ | omega)) (by wtm_at "m sel") ?_
  rintro cf cd _ ⟨b1, b2, b3, b4, rfl⟩
  simp only [osApp]
  rw [rise_inc (show ([(who : Int)] : List Int).Pairwise (· < ·) by simp), rise_inc (show ([] : List Int).Pairwise (· < ·) from .nil)]
  wtm_at "m go"
  refine CfnE (fn_holds hK (k := 0) (x := a.l) (d := a.ld) (hd := a.hd) (cf := cf) (cd := cd) (a := b1) (b := b2) (c' := b3) (d' := b4) (span := c.span) (clock := d.now) (nid := 6) (H := d.H) (A := [(who : Int)]) (B := []) (by omega) hv.nd (by simp) (by simp)) (room.le (by first | decide | exact Nat.add_le_add_left (by decide) _ | omega)) (by wtm_at "m sel") (by wtm_at "m app") ?_
  rw [one_holds hv hw1 hw5]
  wtm_at "m go"
  refine CfnE1 (fn_near hK (k := 0) (a := b.nw) (vals := d.vals) (now := d.now) (span := c.span) hv.len) (room.le (by first | decide | exact Nat.add_le_add_left (by decide) _ | omega)) (by wtm_at "m sel") ?_
  intro nl
  simp only [osApp]
  wtm_at "m go"
  refine Cmp_in_list (by wtm_at "m mem") ?_
  wtm_at "m go"
  rw [bne_self_eq_false]
  wtm_at "m go"
  refine tail _ ?_
  simp only [mainOsE, mainOsT, lawOs]
  rw [hT]
  wtm_at "m wk"
theorem law_msg {g : G} (hK : OnK g) {X : Cx g} (room : Room X.A 40) (kn : Kn X.env lawNames) {cy cc : Addr} (cells : X.env.cells = ([("context", cc), ("y", cy)] : List (Str × Addr))) (hbk : X.env.blockKind = .function) {a : Ads} {c : Conf} {b : Bds} {d : Dat} {E : Os} {t : Nat}
    (hc : c.Ok) (ht : t ≤ 16) (hd : d.Ok c t) {who : Nat} (hw1 : 1 ≤ who) (hw5 : who ≤ 5) {ctx : List UInt8} (hx : ctx.length ≤ 200) :
    Exs X (msgBody g.w.params) ⟨("context", .bytes ctx) :: ("who", .int who) :: mainLm a c b d, mainOsE a c b d E⟩ (fun fl σ' => fl = .next ∧ ∃ b' d', Dat.Ok c t d' ∧ Wkn σ'.lm (mainLm a c b' d') ∧ Wkn σ'.os (mainOsE a c b' d' E)) := by
  have hno := hd.now
  have hcn := hd.cnt
  have hdrop : ∀ (d' : Dat), Wkn ((("who", .int who) :: mainLm a c b d' : Lm)) (mainLm a c b d') := fun d' => ⟨fun p hp => .tail _ hp, fun nd => (List.nodup_cons.mp nd).2⟩
  refine law_msg1 hK room kn cells hd.hv hno.1 (by omega) hw1 hw5 hx fun nm H vals hv => ?_
  -- from here on with the new stamps
  have hd1 : Dat.Ok c t { d with H := H, vals := vals } := ⟨hd.lk, hv, hd.now, hd.cnt, hd.acks, hd.bts, hd.fst, hd.snd⟩
  generalize { d with H := H, vals := vals } = d1 at hd1
  clear hno hcn hd hv
  have hno := hd1.now
  have hcn := hd1.cnt
  refine law_msg2 hK room kn hc (by omega) hd1.lk.le hd1.acks hw1 hw5 (fun hnone dl => ?_) (fun j0 r h1 h2 h3 u hu dl => ?_)
  · refine law_msg3a hK room kn cells hbk hd1.lk (by omega) hnone ?_
    refine law_msg4 hK room kn hd1.lk hc.born (by omega) hd1.acks ?_
    refine law_msg5 hK room kn (d := d1) hd1.hv hw1 hw5 fun os w => ⟨rfl, b, d1, hd1, hdrop _, w⟩
  · subst h3
    have hra := hd1.acks r (List.mem_of_getElem? h2)
    refine law_msg3b hK room kn hd1.lk hd1.acks hw1 hw5 hc.born (by omega) h1 h2 fun p hp => ?_
    obtain ⟨r', hr', x1, x2, x3, x4, x5⟩ := hd1.lk.link _ _ hp
    rw [show d1.gone + (j0 - d1.gone) = j0 by omega] at hr' x5
    have hlt := (List.getElem?_eq_some_iff.mp h2).1
    have hac2 : ∀ r'' ∈ (d1.rq.set j0 (r.ack who)), r''.acks.Nodup ∧ ∀ j ∈ r''.acks, 1 ≤ j ∧ j ≤ 5 := fun r'' hr'' => by
      rcases List.mem_or_eq_of_mem_set hr'' with h | rfl
      · exact hd1.acks _ h
      · exact ⟨addA_nd hra.1, addA_range hra.2 (by omega)⟩
    have hl2 : (d1.rq.set j0 (r.ack who)).length = d1.rq.length := List.length_set
    have hlk2 := link_ack (who := who) hd1.lk h1 h2 hp
    have hpt : (d1.ps.set (j0 - d1.gone) (p.ack who))[j0 - d1.gone]? = some (p.ack who) := List.getElem?_set_self (List.getElem?_eq_some_iff.mp hp).1
    rw [← x5]
    refine law_msg3c hK room kn cells hbk (d := (d1.ackd j0 r who).ackp (j0 - d1.gone) p who) hlk2 hc.born (by show (d1.rq.set j0 (r.ack who)).length ≤ 100; omega) (pt := p.ack who) hpt (by rcases hu with h | h; exact .inl (by rw [h]; show _ = (d1.gone : Int) + _ + 1; omega); exact .inr h) fun b' ps' g' hlk3 => ?_
    refine law_msg4 hK room kn (g' := g') hlk3 hc.born (by show (d1.rq.set j0 (r.ack who)).length ≤ 100; omega) hac2 ?_
    refine law_msg5 hK room kn (d := { d1 with rq := d1.rq.set j0 (r.ack who), ps := ps', gone := g' }) hd1.hv hw1 hw5 fun os w => ⟨rfl, b', { d1 with rq := d1.rq.set j0 (r.ack who), ps := ps', gone := g' }, ⟨hlk3, hd1.hv, hno, ?_, hac2, hd1.bts, ?_, hd1.snd⟩, ⟨fun p hp => .tail _ hp, fun nd => (List.nodup_cons.mp nd).2⟩, w⟩
    · show (d1.rq.set j0 (r.ack who)).length ≤ t; omega
    · intro h; show 1 ≤ (d1.rq.set j0 (r.ack who)).length; omega

theorem near_len {vals : List Int} {now span : Int} : (nearOf vals now span).length ≤ 5 := by
  unfold nearOf
  refine Nat.le_trans (List.length_filterMap_le _ _) ?_
  rw [List.length_range]; exact Nat.le_refl _
theorem conf_holds {c : Conf} (hc : c.Ok) {H : List (Int × Int)} {vals : List Int} {now : Int} (h : HV H vals now) :
    (majB c.A (holdF H now c.span c.nid) && majB c.B (holdF H now c.span c.nid)) = (winOf (c.nid :: nearOf vals now c.span) c.A && (!c.two || winOf (c.nid :: nearOf vals now c.span) c.B)) := by
  obtain ⟨d, d1, d2, e⟩ := hc.a
  have hA := holds_wins (span := c.span) (nid := c.nid) h (A := c.A) (fun j hj => ids_range d j (e ▸ hj)) (e ▸ ids_ne d1 d2)
  rw [hA]
  rcases hc.b with ⟨e2, d, d1, d2, e⟩ | ⟨e2, e⟩
  · have hB := holds_wins (span := c.span) (nid := c.nid) h (A := c.B) (fun j hj => ids_range d j (e ▸ hj)) (e ▸ ids_ne d1 d2)
    rw [hB, e2]; rfl
  · rw [e2, e, maj_nil]; rfl
theorem law_turn3 {g : G} (hK : OnK g) {X : Cx g} (room : Room X.A 40) (kn : Kn X.env lawNames) {cy cc : Addr} (cells : X.env.cells = ([("context", cc), ("y", cy)] : List (Str × Addr))) (hbk : X.env.blockKind = .function) {a : Ads} {c : Conf} {t : Nat} (ht : t < 16) (hc : c.Ok)
    {tl : Addr} {ms : List Msg} {b : Bds} {d : Dat} (hm : MsgsOk ms) (hd : d.Ok c (t + 1)) :
    Exs X ((turnBody g.w.params).drop 6) ⟨("told", .ref tl) :: mainLm a c b d, (tl, .lst (ms.map fun m => .ref m.t)) :: (segM ms ++ mainOs a c b d)⟩ (TurnQ a c (t + 1)) := by
  have e0 : ∀ b d, mainOs a c b d = mainOsT a c b d (segR d.rq ++ segs d.ps) := fun _ _ => rfl
  refine Tri.pre (lm := ("told", .ref tl) :: mainLm a c b d) (os := (tl, .lst (ms.map fun m => .ref m.t)) :: mainOsE a c b d (segM ms)) ?_ Wkn.refl (Wkn.perm (List.Perm.cons _ ?_))
  case refine_2 =>
    rw [e0]
    refine mainOsT_app.symm.trans (mainOsT_perm ?_)
    exact perm_cc fun x => by simp only [List.count_append]; omega
  refine Exs_join (P := fun lm os => ∃ b d, Dat.Ok c (t + 1) d ∧ lm = mainLm a c b d ∧ os = mainOs a c b d) ?_ ?_
  · refine Ex_for ?_ (fun _ => by with_unfolding_all rfl)
    refine Ev_name' List.mem_cons_self ?_
    show ForGo X _ _ _ _ _
    refine ForGo_list (fun i lm os => ∃ b d, Dat.Ok c (t + 1) d ∧ Wkn lm (mainLm a c b d) ∧ Wkn os (mainOsE a c b d (segM ms))) .head ⟨b, d, hd, ⟨fun p hp => .tail _ hp, fun nd => (List.nodup_cons.mp nd).2⟩, Wkn.refl⟩ ?_ ?_
    · clear hd d b
      rintro i mv lm os fr hx ⟨b, d, hd, w1, w2⟩
      obtain ⟨m, hmi, rfl⟩ : ∃ m, ms[i]? = some m ∧ mv = .ref m.t := by
        rw [List.getElem?_map] at hx
        cases e : ms[i]? with
        | none => rw [e] at hx; cases hx
        | some m => rw [e] at hx; cases hx; exact ⟨m, rfl, rfl⟩
      have hmm := List.mem_of_getElem? hmi
      obtain ⟨m1, m2, m3⟩ := hm.2 m hmm
      intro v iv
      refine Tri.pre (lm := mainLm a c b d) (os := mainOsE a c b d (segM ms)) ?_ w1 w2
      have hin : (m.t, MO.tup [.int m.who, .bytes m.ctx]) ∈ mainOsE a c b d (segM ms) := by
        have : (m.t, MO.tup [.int m.who, .bytes m.ctx]) ∈ segM ms := List.mem_map.mpr ⟨m, hmm, rfl⟩
        unfold mainOsE
        refine (mainOsT_perm (T' := segM ms ++ (segR d.rq ++ segs d.ps)) (perm_cc fun x => by simp only [List.count_append]; omega)).mem_iff.mpr ?_
        exact mainOsT_app.mem_iff.mpr (List.mem_append_left _ this)
      refine Asg_tup2 (t := m.t) (a := .int m.who) (b := .bytes m.ctx) hin ?_ v iv
      refine Sto_new' (by kernel_rfl) (kn.at (by wtm_at "m mem")) ?_ (by decide +kernel)
      refine Sto_newc' (c := cc) (by kernel_rfl) (kn.at (by wtm_at "m mem")) (by show X.env.cells.lookup _ = _; rw [cells]; rfl) ?_ (by decide +kernel)
      refine Tri.mono (law_msg (X := X.fz fr) hK room kn cells hbk hc (by omega) hd m1 m2 (ctx := m.ctx) m3) ?_
      rintro fl σ' ⟨rfl, b', d', hd', w1', w2'⟩
      exact ⟨_, _, w1', w2', b', d', hd', Wkn.refl, Wkn.refl⟩
    · rintro lm os ⟨b, d, hd, w1, w2⟩
      refine .inl ⟨rfl, mainLm a c b d, mainOs a c b d, w1, ?_, b, d, hd, rfl, rfl⟩
      refine Wkn.trans (b := os) ⟨fun p hp => .tail _ hp, fun nd => (List.nodup_cons.mp nd).2⟩ (w2.trans ?_)
      rw [e0]
      unfold mainOsE
      refine Wkn.trans (Wkn.perm ((mainOsT_perm (T' := segM ms ++ (segR d.rq ++ segs d.ps)) (perm_cc fun x => by simp only [List.count_append]; omega)).trans mainOsT_app)) ⟨fun p hp => List.mem_append_right _ hp, fun nd => ?_⟩
      rw [List.map_append] at nd
      exact (List.nodup_append.mp nd).2.1
  · clear hd hm ms d b tl
    rintro lm os ⟨b, d, hd, rfl, rfl⟩
    have hv := hd.hv
    have hhl := hv.hlen
    have hnl : (nearOf d.vals d.now c.span).length ≤ 5 := near_len
    refine Exs_cons ?_
    simp only [mainLm, mainOs, lawLm, lawOs]
    generalize hT : segR d.rq ++ segs d.ps = T
    wtm_at "m go"
    refine CfnE (fn_holds hK (k := 0) (x := a.l) (d := a.ld) (hd := a.hd) (cf := a.cf) (cd := a.cd) (a := a.b1) (b := a.b2) (c' := a.b3) (d' := a.b4) (span := c.span) (clock := d.now) (nid := c.nid) (H := d.H) (A := c.A) (B := c.B) (by omega) hv.nd (by have := hc.al; omega) (by have := hc.bl; omega)) (room.le (by first | decide | exact Nat.add_le_add_left (by decide) _ | omega)) (by wtm_at "m sel") (by wtm_at "m app") ?_
    rw [conf_holds hc hv]
    wtm_at "m go"
    refine CfnE1 (fn_near hK (k := 0) (a := b.nw) (vals := d.vals) (now := d.now) (span := c.span) hv.len) (room.le (by first | decide | exact Nat.add_le_add_left (by decide) _ | omega)) (by wtm_at "m sel") ?_
    intro nl
    simp only [osApp]
    wtm_at "m go"
    refine Op_addl' (by wtm_at "m mem") .lst (by wtm_at "m mem") .lst (by rw [List.length_map]; simp; omega) (fun wl => ?_)
    wtm_at "m go"
    refine CfnE (fn_wins hK (k := 0) (h := a.ha) (a := a.ia) (b := a.ib) (w := wl) (A := c.A) (B := c.B) (who := c.nid :: nearOf d.vals d.now c.span) (two := c.two) hc.al hc.bl (by simp; omega)) (room.le (by first | decide | exact Nat.add_le_add_left (by decide) _ | omega)) (by wtm_at "m sel") (by wtm_at "m app") ?_
    wtm_at "m go"
    rw [bne_self_eq_false]
    wtm_at "m go"
    refine ⟨rfl, b, d, hd, ?_, ?_⟩
    · simp only [mainLm, lawLm]; wtm_at "m wk"
    · simp only [mainOs, lawOs]; rw [hT]; wtm_at "m wk"
theorem law_turn {g : G} (hK : OnK g) {X : Cx g} (room : Room X.A 40) (kn : Kn X.env lawNames) {cy cc : Addr} (cells : X.env.cells = ([("context", cc), ("y", cy)] : List (Str × Addr))) (hbk : X.env.blockKind = .function) {a : Ads} {c : Conf} {b : Bds} {d : Dat} {t : Nat} (ht : t < 16) (hc : c.Ok) (hd : d.Ok c t) :
    Exs X (turnBody g.w.params) ⟨("i", .int (1 + (t : Int))) :: mainLm a c b d, mainOs a c b d⟩ (TurnQ a c (t + 1)) :=
  law_turn1 hK room kn cells ht hc hd fun way y h1 h2 h3 h4 h5 h6 => law_turn2 hK room kn cells hbk ht hc hd h1 h2 h3 h4 h5 h6 fun tl ms b d hm hd => law_turn3 hK room kn cells hbk ht hc hm hd

theorem none_near {H : List (Int × Int)} {vals : List Int} {now span : Int} (h : HV H vals now) {now' : Int} (hn : now' = now + span) : (majB [1, 2, 3, 4, 5] (holdF H now' span 6) && majB [] (holdF H now' span 6)) = false := by
  have f : ∀ j : Nat, 1 ≤ j → j ≤ 5 → holdF H now' span 6 (j : Int) = false := fun j h1 h2 => by
    unfold holdF
    rw [decide_eq_false (show ¬ (j : Int) = 6 by omega), Bool.false_or]
    unfold nearB
    have hh := h.hi j h1 h2
    rw [h.rel j h1 h2] at hh
    cases e : getI H (j : Int) with
    | none => rfl
    | some s =>
      rw [e] at hh
      have hh : s ≤ now := hh
      exact decide_eq_false (by omega)
  have f1 := f 1 (by decide) (by decide); have f2 := f 2 (by decide) (by decide); have f3 := f 3 (by decide) (by decide); have f4 := f 4 (by decide) (by decide); have f5 := f 5 (by decide) (by decide)
  have e : ([1, 2, 3, 4, 5] : List Int).filter (holdF H now' span 6) = [] := by
    refine List.filter_eq_nil_iff.mpr fun j hj => ?_
    simp only [List.mem_cons, List.not_mem_nil, or_false] at hj
    rcases hj with rfl | rfl | rfl | rfl | rfl <;> simp only [Bool.not_eq_true] <;> assumption
  unfold majB
  rw [e]
  rfl
theorem law_end {g : G} (hK : OnK g) {X : Cx g} (room : Room X.A 40) (kn : Kn X.env lawNames) {a : Ads} {c : Conf} {t : Nat} (ht : t ≤ 16) (hc : c.Ok) {b : Bds} {d : Dat} (hd : d.Ok c t) :
    Exs X ((lawBody g.w.params).drop 24) ⟨mainLm a c b d, mainOs a c b d⟩ fun fl σ' => fl = .ret (.bool true) := by
  have hsp := hc.span
  have hx0 := hc.x
  have hhl := hd.hv.hlen
  refine Exs_join (P := fun lm os => lm = mainLm a c b { d with now := d.now + c.span } ∧ os = mainOs a c b { d with now := d.now + c.span }) ?_ ?_
  · refine exHide fun PP hPP => ?_
    simp only [mainLm, mainOs, lawLm, lawOs]
    wtm_at "m go"
    refine ForGo_rng (fun i lm os => lm = mainLm a c b { d with now := d.now + (i : Nat) } ∧ os = mainOs a c b { d with now := d.now + (i : Nat) }) (by wtm_at "m pick") (by decide) (by omega) ?_ ?_ ?_
    · refine ⟨?_, ?_⟩
      · simp only [mainLm, lawLm, Int.natCast_zero, Int.ofNat_zero, Int.add_zero]
      · simp only [mainOs, lawOs, Int.natCast_zero, Int.ofNat_zero, Int.add_zero]
    · rintro i lm os fr hi ⟨rfl, rfl⟩
      refine asgHide fun LP hLP => ?_
      have hv : HV d.H d.vals (d.now + (i : Nat)) := hd.hv.plus (by omega)
      obtain ⟨w, hw⟩ : ∃ w : Nat, 1 + (c.x + (0 + (i : Int))) % 5 = (w : Int) := ⟨(1 + (c.x + (0 + (i : Int))) % 5).toNat, by omega⟩
      have hw1 : 1 ≤ w := by omega
      have hw5 : w ≤ 5 := by omega
      have hnl : (nearOf d.vals (d.now + (i : Nat)) c.span).length ≤ 5 := near_len
      simp only [mainLm, mainOs, lawLm, lawOs]
      generalize hT : segR d.rq ++ segs d.ps = T
      generalize hnow : d.now + ((i : Nat) : Int) = now at *
      wtm_at "m go"
      rename_i l1 l2 l3 l4
      rw [hw]
      refine Ccls (fp := [(l1, .lst (([(w : Int)] : List Int).map .int)), (l2, .lst (([] : List Int).map .int)), (l3, .lst (([] : List Int).map .int)), (l4, .lst (([] : List Int).map .int))]) (cls_Config hK) (fun x d => fn_conf_init hK (k := 0) (x := x) (d := d) (a1 := l1) (a2 := l2) (a3 := l3) (a4 := l4) (V := [(w : Int)]) (O := []) (by simp) (by simp)) (room.le (by first | decide | exact Nat.add_le_add_left (by decide) _ | omega)) (by wtm_at "m sel") ?_
      rintro cf cd _ ⟨b1, b2, b3, b4, rfl⟩
      simp only [osApp]
      rw [rise_inc (show ([(w : Int)] : List Int).Pairwise (· < ·) by simp), rise_inc (show ([] : List Int).Pairwise (· < ·) from .nil)]
      wtm_at "m go"
      refine CfnE (fn_holds hK (k := 0) (x := a.l) (d := a.ld) (hd := a.hd) (cf := cf) (cd := cd) (a := b1) (b := b2) (c' := b3) (d' := b4) (span := c.span) (clock := now) (nid := 6) (H := d.H) (A := [(w : Int)]) (B := []) (by omega) hv.nd (by simp) (by simp)) (room.le (by first | decide | exact Nat.add_le_add_left (by decide) _ | omega)) (by wtm_at "m sel") (by wtm_at "m app") ?_
      rw [one_holds hv hw1 hw5]
      wtm_at "m go"
      refine CfnE1 (fn_near hK (k := 0) (a := b.nw) (vals := d.vals) (now := now) (span := c.span) hv.len) (room.le (by first | decide | exact Nat.add_le_add_left (by decide) _ | omega)) (by wtm_at "m sel") ?_
      intro nl
      simp only [osApp]
      wtm_at "m go"
      refine Cmp_in_list (by wtm_at "m mem") ?_
      wtm_at "m go"
      rw [bne_self_eq_false]
      wtm_at "m go"
      refine CfnE (fn_holds hK (k := 0) (x := a.l) (d := a.ld) (hd := a.hd) (cf := a.cf) (cd := a.cd) (a := a.b1) (b := a.b2) (c' := a.b3) (d' := a.b4) (span := c.span) (clock := now) (nid := c.nid) (H := d.H) (A := c.A) (B := c.B) (by omega) hv.nd (by have := hc.al; omega) (by have := hc.bl; omega)) (room.le (by first | decide | exact Nat.add_le_add_left (by decide) _ | omega)) (by wtm_at "m sel") (by wtm_at "m app") ?_
      rw [conf_holds hc hv]
      wtm_at "m go"
      refine CfnE1 (fn_near hK (k := 0) (a := b.nw) (vals := d.vals) (now := now) (span := c.span) hv.len) (room.le (by first | decide | exact Nat.add_le_add_left (by decide) _ | omega)) (by wtm_at "m sel") ?_
      intro nl2
      simp only [osApp]
      wtm_at "m go"
      refine Op_addl' (by wtm_at "m mem") .lst (by wtm_at "m mem") .lst (by rw [List.length_map]; simp; omega) (fun wl => ?_)
      wtm_at "m go"
      refine CfnE (fn_wins hK (k := 0) (h := a.ha) (a := a.ia) (b := a.ib) (w := wl) (A := c.A) (B := c.B) (who := c.nid :: nearOf d.vals now c.span) (two := c.two) hc.al hc.bl (by simp; omega)) (room.le (by first | decide | exact Nat.add_le_add_left (by decide) _ | omega)) (by wtm_at "m sel") (by wtm_at "m app") ?_
      wtm_at "m go"
      rw [bne_self_eq_false]
      wtm_at "m go"
      refine CfnE (fn_tick hK (k := 0)) (room.le (by first | decide | exact Nat.add_le_add_left (by decide) _ | omega)) (by wtm_at "m sel") (by wtm_at "m app") ?_
      wtm_at "m go"
      refine hLP _ _ ?_
      have e1 : d.now + ((i + 1 : Nat) : Int) = now + 1 := by omega
      refine ⟨_, _, Wq.wkn ?_, Wq.wkn ?_, rfl, rfl⟩
      · simp only [mainLm, lawLm]; rw [e1]; wtm_at "m wq"
      · simp only [mainOs, lawOs]; rw [e1, hT]; wtm_at "m wq"
    · rintro lm os ⟨rfl, rfl⟩
      refine hPP _ _ ?_
      rw [show (((c.span - 0).toNat : Nat) : Int) = c.span by omega]
      exact .inl ⟨rfl, _, _, Wkn.refl, ⟨fun p hp => .tail _ hp, fun nd => (List.nodup_cons.mp nd).2⟩, rfl, rfl⟩
  · rintro lm os ⟨rfl, rfl⟩
    have hnn := none_near hd.hv (now' := d.now + c.span) rfl
    refine Exs_cons ?_
    simp only [mainLm, mainOs, lawLm, lawOs]
    generalize hT : segR d.rq ++ segs d.ps = T
    generalize hnow : d.now + c.span = now at *
    wtm_at "m go"
    rename_i l1 l2 l3 l4
    refine Ccls (fp := [(l1, .lst (([1, 2, 3, 4, 5] : List Int).map .int)), (l2, .lst (([] : List Int).map .int)), (l3, .lst (([] : List Int).map .int)), (l4, .lst (([] : List Int).map .int))]) (cls_Config hK) (fun x d => fn_conf_init hK (k := 0) (x := x) (d := d) (a1 := l1) (a2 := l2) (a3 := l3) (a4 := l4) (V := [1, 2, 3, 4, 5]) (O := []) (by simp) (by simp)) (room.le (by first | decide | exact Nat.add_le_add_left (by decide) _ | omega)) (by wtm_at "m sel") ?_
    rintro cf cd _ ⟨b1, b2, b3, b4, rfl⟩
    simp only [osApp]
    rw [rise_inc (show ([1, 2, 3, 4, 5] : List Int).Pairwise (· < ·) by decide), rise_inc (show ([] : List Int).Pairwise (· < ·) from .nil)]
    wtm_at "m go"
    refine CfnE (fn_holds hK (k := 0) (x := a.l) (d := a.ld) (hd := a.hd) (cf := cf) (cd := cd) (a := b1) (b := b2) (c' := b3) (d' := b4) (span := c.span) (clock := now) (nid := 6) (H := d.H) (A := [1, 2, 3, 4, 5]) (B := []) (by omega) hd.hv.nd (by simp) (by simp)) (room.le (by first | decide | exact Nat.add_le_add_left (by decide) _ | omega)) (by wtm_at "m sel") (by wtm_at "m app") ?_
    rw [hnn]
    wtm_at "m go"
    intro v hv
    rw [show v = .bool true from hv]
theorem law_all {g : G} (hK : OnK g) {X : Cx g} (room : Room X.A 40) (kn : Kn X.env lawNames) {cy cc : Addr} (cells : X.env.cells = ([("context", cc), ("y", cy)] : List (Str × Addr))) (hbk : X.env.blockKind = .function)
    {l : Addr} {vs : List Value} {ns : List Int} (hL : g.h₀.IsList l vs.toArray) (hI : IntsAre vs ns) (hl : ns.length ≤ 63) :
    Exs X (lawBody g.w.params) ⟨[("script", .ref l)], []⟩ fun fl σ' => fl = .ret (.bool true) :=
  law_pre hK room kn cells hbk hL hI hl fun a c q now hc h0 h1 => law_ticks hK room kn hc h0 h1 fun b d hd =>
    law_for hK room kn hc hd (fun fr t b d ht hd => law_turn (X := X.fz fr) hK room kn cells hbk ht hc hd) fun t b d h2 h16 hd => law_end hK room kn h16 hc hd

theorem names_at {scope : Scope} (h : (lawNames.all fun p => scope.names.lookup p.1 == some p.2) = true) : ∀ x k, (x, k) ∈ lawNames → scope.names.lookup x = some k := fun x k hx => by
  have := List.all_eq_true.mp h (x, k) hx
  simpa using this
theorem join_core {prog : Program} {w : World} {name : Str} {scope : Scope} {a : Addr} {cd : Value} {body : List Stmt} {h₁ : Heap} {p : Program} {loose : List Str} {mg mb : Str → Option Value} {m : Str → Option Value} {oc oy : Obj} {tk : Nat} {s₁ : Shared}
    {l : Addr} {vs : List Value} {ns : List Int} {Q : Flow → Shared → Prop} {E : Value → Shared → Prop} {vc vy : Option Value}
    (KX : (heapK w.params).In s₁.heap) (T : TopRead p loose mg mb s₁.heap) (F : Fr s₁.heap s₁.heap.objs.size h₁ m) (N : News s₁.heap s₁.heap.objs.size h₁ [(s₁.heap.objs.size + 1 + 1, oc), (s₁.heap.objs.size + 1, oy)])
    (hoc : oc.data = .cell vc) (hoy : oy.data = .cell vy) (hL : s₁.heap.IsList l vs.toArray) (hI : IntsAre vs ns) (hl : ¬ ((63 : Nat) : Int) < (ns.length : Int)) (hg : s₁.gens = #[])
    (hs : scope.kind = .function) (hnames : (lawNames.all fun p => scope.names.lookup p.1 == some p.2) = true) (hcells : cellsFrom (s₁.heap.objs.size + 1) scope.names [] = ([("context", s₁.heap.objs.size + 1 + 1), ("y", s₁.heap.objs.size + 1)] : List (Str × Addr)))
    (hbody : body = lawBody w.params) (hm : m "script" = some (.ref l))
    (q : ∀ s' L m', Fr s₁.heap L s'.heap m' → s'.gens = #[] → s'.os = s₁.os → Q (.ret (.bool true)) s') :
    wpAny (model prog w) (callerA.deeper (envOfC name scope s₁.heap.objs.size a cd)) (execs body (envOfC name scope s₁.heap.objs.size a cd)) Q E { heap := h₁, gens := s₁.gens, drawn := s₁.drawn, toks := tk, os := s₁.os } := by
  have sm : sysModules < s₁.heap.objs.size := Nat.lt_trans (show sysModules < mainGlobals by decide) T.g.lt
  let g : G := ⟨prog, w, heapK w.params, s₁.heap, p, loose, mg, mb, s₁, KX, T.nolimit, T, sm⟩
  have hK : OnK g := rfl
  let X : Cx g := ⟨callerA.deeper (envOfC name scope s₁.heap.objs.size a cd), envOfC name scope s₁.heap.objs.size a cd, [("context", s₁.heap.objs.size + 1 + 1), ("y", s₁.heap.objs.size + 1)], [], rfl, hs, rfl, rfl, fun x c h => by
    have h' : (cellsFrom (s₁.heap.objs.size + 1) scope.names []).lookup x = some c := h
    rw [hcells] at h'
    exact mem_of_lookup h'⟩
  have hn := names_at hnames
  have R : Rep X ⟨[("script", .ref l)], []⟩ { heap := h₁, gens := s₁.gens, drawn := s₁.drawn, toks := tk, os := s₁.os } := by
    refine ⟨⟨rfl, rfl, rfl⟩, F.keep, ⟨m, F.ns, fun x mv hx => ?_⟩, fun p hp => ?_, fun p hp => (by cases hp), ?_, fun b hb => ?_, by simp⟩
    · cases List.mem_singleton.mp hx
      exact ⟨by decide +kernel, .inl ⟨hn _ _ List.mem_cons_self, .ref l, hm, rfl⟩⟩
    · have hp : p ∈ ([("context", s₁.heap.objs.size + 1 + 1), ("y", s₁.heap.objs.size + 1)] : List (Str × Addr)) := hp
      rcases List.mem_cons.mp hp with rfl | hp
      · exact ⟨vc, oc, (N _ (.head _)).1, hoc⟩
      · cases List.mem_singleton.mp hp
        exact ⟨vy, oy, (N _ (.tail _ (.head _))).1, hoy⟩
    · show ([s₁.heap.objs.size, s₁.heap.objs.size + 1 + 1, s₁.heap.objs.size + 1] : List Addr).Nodup
      simp
      exact fun e => absurd e (Nat.ne_of_lt (Nat.lt_succ_of_lt (Nat.lt_succ_self _)))
    · have hb : b ∈ ([s₁.heap.objs.size, s₁.heap.objs.size + 1 + 1, s₁.heap.objs.size + 1] : List Addr) := hb
      simp only [List.mem_cons, List.not_mem_nil, or_false] at hb
      show s₁.heap.objs.size ≤ b
      rcases hb with rfl | rfl | rfl
      · exact Nat.le_refl _
      · exact Nat.le_succ_of_le (Nat.le_succ _)
      · exact Nat.le_succ _
  have room : Room X.A 40 := ⟨by show 1 + claimMargin + 1 + 2 * 40 < recursionLimit; decide +kernel, by show 4 + 3 + 16 * 40 + 200 < cLine; decide +kernel⟩
  have kn : Kn X.env lawNames := hn
  have hbk : X.env.blockKind = .function := by
    show (if scope.kind.isAnnotationScope then ScopeKind.function else scope.kind) = .function
    rw [hs]; rfl
  subst hbody
  refine wpAny_mono (law_all hK (X := X) room kn (cy := s₁.heap.objs.size + 1) (cc := s₁.heap.objs.size + 1 + 1) hcells hbk hL hI (by omega) _ R) (fun fl s' ⟨σ', R', e⟩ => ?_) (fun _ _ e => e.elim)
  subst e
  obtain ⟨m', hns, _⟩ := R'.ns
  exact q s' _ m' ⟨hns, R'.keep, Nat.le_refl _⟩ (R'.core.1.trans hg) R'.core.2.2

end Mine
theorem PySem.Challenge.cw_xw0266_01_holds : PySem.Challenge.rw_xw0266_01.Holds := by
  w_on
  refine holds_law (by decide +kernel) fun said => ?_
  refine holds_open (q := Mine.Q) (loose := Mine.Lo) (Xt := fun s => xlAt Mine.Q [] s && recOk (RowW.records Mine.rW) s) (XP := XL Mine.Q []) (Yf := Hook.obs Mine.Hk) (Ya := Hook.val Mine.Hk) (YP := Hook.says Mine.Hk) (N := 8084) Mine.left (Hook.of Mine.Hk) (Hook.keeps Mine.Hk) (fun s e => xl_of s (Bool.and_eq_true_iff.mp e).1) XL.keeps (by rfl) (by rfl) (by rfl) (fun s e => recFacts_of (Bool.and_eq_true_iff.mp e).2) (by rfl) said (by decide +kernel) ⟨rfl, rfl, rfl, rfl, rfl, by decide +kernel⟩ ?hw ?hc
  case hw => w_witness2
  case hc =>
    generalize hQ : Mine.Q = q
    generalize hLo : Mine.Lo = lo
    k_go0
    subst hQ
    subst hLo
    with_unfolding_all refine Mine.join_core (by assumption) (topRead_of (by assumption)) (by assumption) (by assumption) (by assumption) (by assumption) (by assumption) (by assumption) (by assumption) (by assumption) rfl ?jjn ?jjc ?jjb ?jjm ?jjq
    case jjn => kernel_rfl
    case jjc => kernel_rfl
    case jjb => kernel_rfl
    case jjm => first | kernel_rfl | rfl
    case jjq =>
      intro s' L m' F' g' o'
      refine goodW_bool F' g' (raisesW_false ?_) ?_ o'
      · wrow_none_raised
      · wrow_post
