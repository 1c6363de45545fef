import PyProof.Rows.All
import Wide.All
import OpenK.AllK
import Wide.FinOn
import PySem.Challenge.RW_nz0378_01
open PySem PySem.W PyProof.Rows PySem.Calls
set_option Elab.async false
set_option linter.unusedVariables false
set_option linter.unusedSimpArgs false
set_option maxRecDepth 100000
set_option compiler.extract_closed false
set_option maxHeartbeats 8000000
namespace Mine
-- head
noncomputable abbrev pW : Program := PySem.Challenge.pw_nz0378_01
noncomputable def st1 (i : Nat) : Stmt := pW.main.body.getD i (.Pass ⟨0, 0, 0, 0⟩)
noncomputable def st2 (i j : Nat) : Stmt := match st1 i with | .ClassDef _ _ _ b .. => b.getD j (.Pass ⟨0, 0, 0, 0⟩) | s => s
noncomputable def fnQ (s : Stmt) (qual : Str) (g : Addr) (doc md code : Value) (bi : Addr) : Option FuncData := match s with
  | .FunctionDef nm ps bd _ _ _ sc _ _ _ => some { name := nm, qualname := qual, params := ps, body := .stmts bd, scope := sc, globals := g, closure := [], defaults := .none, kwdefaults := .none, doc := doc, pyModule := md, code := code, builtins := bi }
  | _ => none
noncomputable abbrev FP (o : Option FuncData) : Type := {d : FuncData // o = some d}
noncomputable def lf (o : Obj) : BT := .node o .nil .nil
noncomputable def bE : List Stmt := behindTheImports pW
noncomputable def evE : Env := { scope := pW.main.scope, locals := mainNs, globals := mainNs, cells := [], code := .ref 13, frame := some 14 }
noncomputable def cB : Code := .body bE evE
noncomputable abbrev tF : List Frame := [topFrame ⟨0, 0, 0, 0⟩]
noncomputable abbrev SS (T : BT) (n tk : Nat) (os : OsState) : SharedT := { tree := T, n := n, life := {}, gens := Array.mk [], drawn := {}, toks := tk, os := os }
noncomputable def fp0 : FP (fnQ (st1 0) "_wall" 0 Value.none Value.none Value.none 0) := ⟨_, rfl⟩
noncomputable def fp1 : FP (fnQ (st1 0) "_wall" 3 Value.none (Value.str "__main__" 164) (Value.ref 20) 0) := ⟨_, rfl⟩
noncomputable def fp2 : FP (fnQ (st1 12) "put_fixed32" 0 Value.none Value.none Value.none 0) := ⟨_, rfl⟩
noncomputable def fp3 : FP (fnQ (st1 12) "put_fixed32" 3 Value.none (Value.str "raftkeep.octets" 280) (Value.ref 88) 0) := ⟨_, rfl⟩
noncomputable def fp4 : FP (fnQ (st1 13) "put_fixed64" 0 Value.none Value.none Value.none 0) := ⟨_, rfl⟩
noncomputable def fp5 : FP (fnQ (st1 13) "put_fixed64" 3 Value.none (Value.str "raftkeep.octets" 280) (Value.ref 95) 0) := ⟨_, rfl⟩
noncomputable def fp6 : FP (fnQ (st1 14) "read_fixed32" 0 Value.none Value.none Value.none 0) := ⟨_, rfl⟩
noncomputable def fp7 : FP (fnQ (st1 14) "read_fixed32" 3 Value.none (Value.str "raftkeep.octets" 280) (Value.ref 102) 0) := ⟨_, rfl⟩
noncomputable def fp8 : FP (fnQ (st1 15) "read_fixed64" 0 Value.none Value.none Value.none 0) := ⟨_, rfl⟩
noncomputable def fp9 : FP (fnQ (st1 15) "read_fixed64" 3 Value.none (Value.str "raftkeep.octets" 280) (Value.ref 109) 0) := ⟨_, rfl⟩
noncomputable def fp10 : FP (fnQ (st1 25) "pack_tag" 0 Value.none Value.none Value.none 0) := ⟨_, rfl⟩
noncomputable def fp11 : FP (fnQ (st1 25) "pack_tag" 3 Value.none (Value.str "raftkeep.keys" 320) (Value.ref 116) 0) := ⟨_, rfl⟩
noncomputable def fp12 : FP (fnQ (st1 26) "make_ikey" 0 Value.none Value.none Value.none 0) := ⟨_, rfl⟩
noncomputable def fp13 : FP (fnQ (st1 26) "make_ikey" 3 Value.none (Value.str "raftkeep.keys" 320) (Value.ref 123) 0) := ⟨_, rfl⟩
noncomputable def fp14 : FP (fnQ (st1 27) "split_ikey" 0 Value.none Value.none Value.none 0) := ⟨_, rfl⟩
noncomputable def fp15 : FP (fnQ (st1 27) "split_ikey" 3 Value.none (Value.str "raftkeep.keys" 320) (Value.ref 130) 0) := ⟨_, rfl⟩
noncomputable def fp16 : FP (fnQ (st1 28) "user_of" 0 Value.none Value.none Value.none 0) := ⟨_, rfl⟩
noncomputable def fp17 : FP (fnQ (st1 28) "user_of" 3 Value.none (Value.str "raftkeep.keys" 320) (Value.ref 137) 0) := ⟨_, rfl⟩
noncomputable def fp18 : FP (fnQ (st1 29) "tag_of" 0 Value.none Value.none Value.none 0) := ⟨_, rfl⟩
noncomputable def fp19 : FP (fnQ (st1 29) "tag_of" 3 Value.none (Value.str "raftkeep.keys" 320) (Value.ref 144) 0) := ⟨_, rfl⟩
noncomputable def fp20 : FP (fnQ (st2 30 0) "Order.compare" 0 Value.none Value.none Value.none 0) := ⟨_, rfl⟩
noncomputable def fp21 : FP (fnQ (st2 30 0) "Order.compare" 3 Value.none (Value.str "raftkeep.keys" 320) (Value.ref 158) 0) := ⟨_, rfl⟩
noncomputable def fp22 : FP (fnQ (st2 30 1) "Order.separator" 0 Value.none Value.none Value.none 0) := ⟨_, rfl⟩
noncomputable def fp23 : FP (fnQ (st2 30 1) "Order.separator" 3 Value.none (Value.str "raftkeep.keys" 320) (Value.ref 165) 0) := ⟨_, rfl⟩
noncomputable def fp24 : FP (fnQ (st2 30 2) "Order.successor" 0 Value.none Value.none Value.none 0) := ⟨_, rfl⟩
noncomputable def fp25 : FP (fnQ (st2 30 2) "Order.successor" 3 Value.none (Value.str "raftkeep.keys" 320) (Value.ref 172) 0) := ⟨_, rfl⟩
noncomputable def fp26 : FP (fnQ (st2 30 3) "Order.name" 0 Value.none Value.none Value.none 0) := ⟨_, rfl⟩
noncomputable def fp27 : FP (fnQ (st2 30 3) "Order.name" 3 Value.none (Value.str "raftkeep.keys" 320) (Value.ref 179) 0) := ⟨_, rfl⟩
noncomputable def fp28 : FP (fnQ (st2 31 0) "BytesOrder.separator" 0 Value.none Value.none Value.none 0) := ⟨_, rfl⟩
noncomputable def fp29 : FP (fnQ (st2 31 0) "BytesOrder.separator" 3 Value.none (Value.str "raftkeep.keys" 320) (Value.ref 200) 0) := ⟨_, rfl⟩
noncomputable def fp30 : FP (fnQ (st2 31 1) "BytesOrder.successor" 0 Value.none Value.none Value.none 0) := ⟨_, rfl⟩
noncomputable def fp31 : FP (fnQ (st2 31 1) "BytesOrder.successor" 3 Value.none (Value.str "raftkeep.keys" 320) (Value.ref 207) 0) := ⟨_, rfl⟩
noncomputable def fp32 : FP (fnQ (st2 31 2) "BytesOrder.name" 0 Value.none Value.none Value.none 0) := ⟨_, rfl⟩
noncomputable def fp33 : FP (fnQ (st2 31 2) "BytesOrder.name" 3 Value.none (Value.str "raftkeep.keys" 320) (Value.ref 214) 0) := ⟨_, rfl⟩
noncomputable def fp34 : FP (fnQ (st2 32 0) "InternalOrder.__init__" 0 Value.none Value.none Value.none 0) := ⟨_, rfl⟩
noncomputable def fp35 : FP (fnQ (st2 32 0) "InternalOrder.__init__" 3 Value.none (Value.str "raftkeep.keys" 320) (Value.ref 233) 0) := ⟨_, rfl⟩
noncomputable def fp36 : FP (fnQ (st2 32 1) "InternalOrder.compare" 0 Value.none Value.none Value.none 0) := ⟨_, rfl⟩
noncomputable def fp37 : FP (fnQ (st2 32 1) "InternalOrder.compare" 3 Value.none (Value.str "raftkeep.keys" 320) (Value.ref 240) 0) := ⟨_, rfl⟩
noncomputable def fp38 : FP (fnQ (st2 32 2) "InternalOrder.dress" 0 Value.none Value.none Value.none 0) := ⟨_, rfl⟩
noncomputable def fp39 : FP (fnQ (st2 32 2) "InternalOrder.dress" 3 Value.none (Value.str "raftkeep.keys" 320) (Value.ref 247) 0) := ⟨_, rfl⟩
noncomputable def fp40 : FP (fnQ (st2 32 3) "InternalOrder.separator" 0 Value.none Value.none Value.none 0) := ⟨_, rfl⟩
noncomputable def fp41 : FP (fnQ (st2 32 3) "InternalOrder.separator" 3 Value.none (Value.str "raftkeep.keys" 320) (Value.ref 254) 0) := ⟨_, rfl⟩
noncomputable def fp42 : FP (fnQ (st2 32 4) "InternalOrder.successor" 0 Value.none Value.none Value.none 0) := ⟨_, rfl⟩
noncomputable def fp43 : FP (fnQ (st2 32 4) "InternalOrder.successor" 3 Value.none (Value.str "raftkeep.keys" 320) (Value.ref 261) 0) := ⟨_, rfl⟩
noncomputable def fp44 : FP (fnQ (st2 32 5) "InternalOrder.name" 0 Value.none Value.none Value.none 0) := ⟨_, rfl⟩
noncomputable def fp45 : FP (fnQ (st2 32 5) "InternalOrder.name" 3 Value.none (Value.str "raftkeep.keys" 320) (Value.ref 268) 0) := ⟨_, rfl⟩
noncomputable def fp46 : FP (fnQ (st2 33 0) "Options.__init__" 0 Value.none Value.none Value.none 0) := ⟨_, rfl⟩
noncomputable def fp47 : FP (fnQ (st2 33 0) "Options.__init__" 3 Value.none (Value.str "raftkeep.keys" 320) (Value.ref 287) 0) := ⟨_, rfl⟩
noncomputable def fp48 : FP (fnQ (st2 33 1) "Options.check_all" 0 Value.none Value.none Value.none 0) := ⟨_, rfl⟩
noncomputable def fp49 : FP (fnQ (st2 33 1) "Options.check_all" 3 Value.none (Value.str "raftkeep.keys" 320) (Value.ref 294) 0) := ⟨_, rfl⟩
noncomputable def fp50 : FP (fnQ (st2 33 2) "Options.tiny" 0 Value.none Value.none Value.none 0) := ⟨_, rfl⟩
noncomputable def fp51 : FP (fnQ (st2 33 2) "Options.tiny" 3 Value.none (Value.str "raftkeep.keys" 320) (Value.ref 301) 0) := ⟨_, rfl⟩
noncomputable def fp52 : FP (fnQ (st1 34) "check_heights" 0 Value.none Value.none Value.none 0) := ⟨_, rfl⟩
noncomputable def fp53 : FP (fnQ (st1 34) "check_heights" 3 Value.none (Value.str "raftkeep.keys" 320) (Value.ref 315) 0) := ⟨_, rfl⟩
noncomputable def fp54 : FP (fnQ (st2 36 0) "FileMeta.__init__" 0 Value.none Value.none Value.none 0) := ⟨_, rfl⟩
noncomputable def fp55 : FP (fnQ (st2 36 0) "FileMeta.__init__" 3 Value.none (Value.str "raftkeep.versions" 619) (Value.ref 329) 0) := ⟨_, rfl⟩
noncomputable def fp56 : FP (fnQ (st2 36 1) "FileMeta.row" 0 Value.none Value.none Value.none 0) := ⟨_, rfl⟩
noncomputable def fp57 : FP (fnQ (st2 36 1) "FileMeta.row" 3 Value.none (Value.str "raftkeep.versions" 619) (Value.ref 336) 0) := ⟨_, rfl⟩
noncomputable def fp58 : FP (fnQ (st2 37 0) "VersionEdit.__init__" 0 Value.none Value.none Value.none 0) := ⟨_, rfl⟩
noncomputable def fp59 : FP (fnQ (st2 37 0) "VersionEdit.__init__" 3 Value.none (Value.str "raftkeep.versions" 619) (Value.ref 357) 0) := ⟨_, rfl⟩
noncomputable def fp60 : FP (fnQ (st2 37 1) "VersionEdit.row" 0 Value.none Value.none Value.none 0) := ⟨_, rfl⟩
noncomputable def fp61 : FP (fnQ (st2 37 1) "VersionEdit.row" 3 Value.none (Value.str "raftkeep.versions" 619) (Value.ref 364) 0) := ⟨_, rfl⟩
noncomputable def fp62 : FP (fnQ (st2 37 2) "VersionEdit.encode" 0 Value.none Value.none Value.none 0) := ⟨_, rfl⟩
noncomputable def fp63 : FP (fnQ (st2 37 2) "VersionEdit.encode" 3 Value.none (Value.str "raftkeep.versions" 619) (Value.ref 371) 0) := ⟨_, rfl⟩
noncomputable def fp64 : FP (fnQ (st1 38) "find_file" 0 Value.none Value.none Value.none 0) := ⟨_, rfl⟩
noncomputable def fp65 : FP (fnQ (st1 38) "find_file" 3 Value.none (Value.str "raftkeep.versions" 619) (Value.ref 385) 0) := ⟨_, rfl⟩
noncomputable def fp66 : FP (fnQ (st2 39 0) "Version.__init__" 0 Value.none Value.none Value.none 0) := ⟨_, rfl⟩
noncomputable def fp67 : FP (fnQ (st2 39 0) "Version.__init__" 3 Value.none (Value.str "raftkeep.versions" 619) (Value.ref 399) 0) := ⟨_, rfl⟩
noncomputable def fp68 : FP (fnQ (st2 39 1) "Version.overlapping" 0 Value.none Value.none Value.none 0) := ⟨_, rfl⟩
noncomputable def fp69 : FP (fnQ (st2 39 1) "Version.overlapping" 3 Value.none (Value.str "raftkeep.versions" 619) (Value.ref 406) 0) := ⟨_, rfl⟩
noncomputable def fp70 : FP (fnQ (st2 39 2) "Version.candidates" 0 Value.none Value.none Value.none 0) := ⟨_, rfl⟩
noncomputable def fp71 : FP (fnQ (st2 39 2) "Version.candidates" 3 Value.none (Value.str "raftkeep.versions" 619) (Value.ref 413) 0) := ⟨_, rfl⟩
noncomputable def fp72 : FP (fnQ (st2 39 3) "Version.get" 0 Value.none Value.none Value.none 0) := ⟨_, rfl⟩
noncomputable def fp73 : FP (fnQ (st2 39 3) "Version.get" 3 Value.none (Value.str "raftkeep.versions" 619) (Value.ref 420) 0) := ⟨_, rfl⟩
noncomputable def fp74 : FP (fnQ (st2 39 4) "Version.overlaps" 0 Value.none Value.none Value.none 0) := ⟨_, rfl⟩
noncomputable def fp75 : FP (fnQ (st2 39 4) "Version.overlaps" 3 Value.none (Value.str "raftkeep.versions" 619) (Value.ref 427) 0) := ⟨_, rfl⟩
noncomputable def fp76 : FP (fnQ (st2 39 5) "Version.level_for_mem" 0 Value.none Value.none Value.none 0) := ⟨_, rfl⟩
noncomputable def fp77 : FP (fnQ (st2 39 5) "Version.level_for_mem" 3 Value.none (Value.str "raftkeep.versions" 619) (Value.ref 434) 0) := ⟨_, rfl⟩
noncomputable def fp78 : FP (fnQ (st2 39 6) "Version.level_octets" 0 Value.none Value.none Value.none 0) := ⟨_, rfl⟩
noncomputable def fp79 : FP (fnQ (st2 39 6) "Version.level_octets" 3 Value.none (Value.str "raftkeep.versions" 619) (Value.ref 441) 0) := ⟨_, rfl⟩
noncomputable def fp80 : FP (fnQ (st2 39 7) "Version.numbers" 0 Value.none Value.none Value.none 0) := ⟨_, rfl⟩
noncomputable def fp81 : FP (fnQ (st2 39 7) "Version.numbers" 3 Value.none (Value.str "raftkeep.versions" 619) (Value.ref 448) 0) := ⟨_, rfl⟩
noncomputable def fp82 : FP (fnQ (st2 39 8) "Version.iterators" 0 Value.none Value.none Value.none 0) := ⟨_, rfl⟩
noncomputable def fp83 : FP (fnQ (st2 39 8) "Version.iterators" 3 Value.none (Value.str "raftkeep.versions" 619) (Value.ref 455) 0) := ⟨_, rfl⟩
noncomputable def fp84 : FP (fnQ (st2 39 9) "Version.check" 0 Value.none Value.none Value.none 0) := ⟨_, rfl⟩
noncomputable def fp85 : FP (fnQ (st2 39 9) "Version.check" 3 Value.none (Value.str "raftkeep.versions" 619) (Value.ref 462) 0) := ⟨_, rfl⟩
noncomputable def fp86 : FP (fnQ (st1 41) "total_size" 0 Value.none Value.none Value.none 0) := ⟨_, rfl⟩
noncomputable def fp87 : FP (fnQ (st1 41) "total_size" 3 Value.none (Value.str "raftkeep.versionset" 878) (Value.ref 476) 0) := ⟨_, rfl⟩
noncomputable def fp88 : FP (fnQ (st1 42) "key_range" 0 Value.none Value.none Value.none 0) := ⟨_, rfl⟩
noncomputable def fp89 : FP (fnQ (st1 42) "key_range" 3 Value.none (Value.str "raftkeep.versionset" 878) (Value.ref 483) 0) := ⟨_, rfl⟩
noncomputable def fp90 : FP (fnQ (st2 43 0) "Compaction.__init__" 0 Value.none Value.none Value.none 0) := ⟨_, rfl⟩
noncomputable def fp91 : FP (fnQ (st2 43 0) "Compaction.__init__" 3 Value.none (Value.str "raftkeep.versionset" 878) (Value.ref 497) 0) := ⟨_, rfl⟩
noncomputable def fp92 : FP (fnQ (st2 43 1) "Compaction.grand_limit" 0 Value.none Value.none Value.none 0) := ⟨_, rfl⟩
noncomputable def fp93 : FP (fnQ (st2 43 1) "Compaction.grand_limit" 3 Value.none (Value.str "raftkeep.versionset" 878) (Value.ref 504) 0) := ⟨_, rfl⟩
noncomputable def fp94 : FP (fnQ (st2 43 2) "Compaction.trivial" 0 Value.none Value.none Value.none 0) := ⟨_, rfl⟩
noncomputable def fp95 : FP (fnQ (st2 43 2) "Compaction.trivial" 3 Value.none (Value.str "raftkeep.versionset" 878) (Value.ref 511) 0) := ⟨_, rfl⟩
noncomputable def fp96 : FP (fnQ (st2 43 3) "Compaction.stop_before" 0 Value.none Value.none Value.none 0) := ⟨_, rfl⟩
noncomputable def fp97 : FP (fnQ (st2 43 3) "Compaction.stop_before" 3 Value.none (Value.str "raftkeep.versionset" 878) (Value.ref 518) 0) := ⟨_, rfl⟩
noncomputable def fp98 : FP (fnQ (st2 43 4) "Compaction.base_level_for" 0 Value.none Value.none Value.none 0) := ⟨_, rfl⟩
noncomputable def fp99 : FP (fnQ (st2 43 4) "Compaction.base_level_for" 3 Value.none (Value.str "raftkeep.versionset" 878) (Value.ref 525) 0) := ⟨_, rfl⟩
noncomputable def fp100 : FP (fnQ (st2 43 5) "Compaction.add_deletions" 0 Value.none Value.none Value.none 0) := ⟨_, rfl⟩
noncomputable def fp101 : FP (fnQ (st2 43 5) "Compaction.add_deletions" 3 Value.none (Value.str "raftkeep.versionset" 878) (Value.ref 532) 0) := ⟨_, rfl⟩
noncomputable def fp102 : FP (fnQ (st1 44) "max_octets_of" 0 Value.none Value.none Value.none 0) := ⟨_, rfl⟩
noncomputable def fp103 : FP (fnQ (st1 44) "max_octets_of" 3 Value.none (Value.str "raftkeep.versionset" 878) (Value.ref 546) 0) := ⟨_, rfl⟩
noncomputable def fp104 : FP (fnQ (st1 45) "score_of" 0 Value.none Value.none Value.none 0) := ⟨_, rfl⟩
noncomputable def fp105 : FP (fnQ (st1 45) "score_of" 3 Value.none (Value.str "raftkeep.versionset" 878) (Value.ref 553) 0) := ⟨_, rfl⟩
noncomputable def fp106 : FP (fnQ (st2 46 0) "Picker.__init__" 0 Value.none Value.none Value.none 0) := ⟨_, rfl⟩
noncomputable def fp107 : FP (fnQ (st2 46 0) "Picker.__init__" 3 Value.none (Value.str "raftkeep.versionset" 878) (Value.ref 567) 0) := ⟨_, rfl⟩
noncomputable def fp108 : FP (fnQ (st2 46 1) "Picker.needs_compaction" 0 Value.none Value.none Value.none 0) := ⟨_, rfl⟩
noncomputable def fp109 : FP (fnQ (st2 46 1) "Picker.needs_compaction" 3 Value.none (Value.str "raftkeep.versionset" 878) (Value.ref 574) 0) := ⟨_, rfl⟩
noncomputable def fp110 : FP (fnQ (st2 46 2) "Picker.user_range" 0 Value.none Value.none Value.none 0) := ⟨_, rfl⟩
noncomputable def fp111 : FP (fnQ (st2 46 2) "Picker.user_range" 3 Value.none (Value.str "raftkeep.versionset" 878) (Value.ref 581) 0) := ⟨_, rfl⟩
noncomputable def fp112 : FP (fnQ (st2 46 3) "Picker.pick" 0 Value.none Value.none Value.none 0) := ⟨_, rfl⟩
noncomputable def fp113 : FP (fnQ (st2 46 3) "Picker.pick" 3 Value.none (Value.str "raftkeep.versionset" 878) (Value.ref 588) 0) := ⟨_, rfl⟩
noncomputable def fp114 : FP (fnQ (st2 46 4) "Picker.pick_range" 0 Value.none Value.none Value.none 0) := ⟨_, rfl⟩
noncomputable def fp115 : FP (fnQ (st2 46 4) "Picker.pick_range" 3 Value.none (Value.str "raftkeep.versionset" 878) (Value.ref 595) 0) := ⟨_, rfl⟩
noncomputable def fp116 : FP (fnQ (st2 46 5) "Picker.set_up_other" 0 Value.none Value.none Value.none 0) := ⟨_, rfl⟩
noncomputable def fp117 : FP (fnQ (st2 46 5) "Picker.set_up_other" 3 Value.none (Value.str "raftkeep.versionset" 878) (Value.ref 602) 0) := ⟨_, rfl⟩
noncomputable def fp118 : FP (fnQ (st1 48) "_law_users" 0 Value.none Value.none Value.none 0) := ⟨_, rfl⟩
noncomputable def fp119 : FP (fnQ (st1 48) "_law_users" 3 Value.none (Value.str "law_nz0378_01" 1097) (Value.ref 616) 0) := ⟨_, rfl⟩
noncomputable def fp120 : FP (fnQ (st1 49) "_law_draw" 0 Value.none Value.none Value.none 0) := ⟨_, rfl⟩
noncomputable def fp121 : FP (fnQ (st1 49) "_law_draw" 3 Value.none (Value.str "law_nz0378_01" 1097) (Value.ref 623) 0) := ⟨_, rfl⟩
noncomputable def fp122 : FP (fnQ (st1 50) "_law_ikey" 0 Value.none Value.none Value.none 0) := ⟨_, rfl⟩
noncomputable def fp123 : FP (fnQ (st1 50) "_law_ikey" 3 Value.none (Value.str "law_nz0378_01" 1097) (Value.ref 630) 0) := ⟨_, rfl⟩
noncomputable def fp124 : FP (fnQ (st1 51) "_law_version" 0 Value.none Value.none Value.none 0) := ⟨_, rfl⟩
noncomputable def fp125 : FP (fnQ (st1 51) "_law_version" 3 Value.none (Value.str "law_nz0378_01" 1097) (Value.ref 635) 0) := ⟨_, rfl⟩
noncomputable def fp126 : FP (fnQ (st1 52) "_law_sunk" 0 Value.none Value.none Value.none 0) := ⟨_, rfl⟩
noncomputable def fp127 : FP (fnQ (st1 52) "_law_sunk" 3 Value.none (Value.str "law_nz0378_01" 1097) (Value.ref 642) 0) := ⟨_, rfl⟩
noncomputable def fp128 : FP (fnQ (st1 53) "_law_lapped" 0 Value.none Value.none Value.none 0) := ⟨_, rfl⟩
noncomputable def fp129 : FP (fnQ (st1 53) "_law_lapped" 3 Value.none (Value.str "law_nz0378_01" 1097) (Value.ref 647) 0) := ⟨_, rfl⟩
noncomputable def fp130 : FP (fnQ (st1 54) "law" 0 Value.none Value.none Value.none 0) := ⟨_, rfl⟩
noncomputable def fp131 : FP (fnQ (st1 54) "law" 3 Value.none (Value.str "law_nz0378_01" 1097) (Value.ref 652) 0) := ⟨_, rfl⟩
noncomputable def o43 (P : Params) : Obj := Obj.mk (Value.type "tuple") (Option.none) (Data.seq #[] 0) #[]
noncomputable def o44 (P : Params) : Obj := Obj.mk Value.none (Option.none) (Data.fields #[]) #[]
noncomputable def o45 (P : Params) : Obj := Obj.mk (Value.type "code") (Option.none) (Data.fields #[(Value.str "<module>" 182), (Value.str "<module>" 183), (Value.str "/claim/cut.py" 184), (Value.int 1 0), (Value.int 0 0), (Value.int 0 0), (Value.int 0 0), (Value.int 0 0), (Value.ref 11), (Value.bool Bool.false), (Value.int 181 0), (Value.ref 12), Value.none, Value.none, Value.none, Value.none, (Value.int 185 0), (Value.int 1 0), (Value.str "/claim/cut.py" 186)]) #[]
noncomputable def o46 (P : Params) : Obj := Obj.mk (Value.type "frame") (Option.none) Data.plain #[(Option.some (Value.ref 13)), (Option.some (Value.ref 3)), (Option.some (Value.ref 3)), (Option.none), (Option.some (Value.str "__main__" 164)), (Option.none), (Option.some (Value.ref 0))]
noncomputable def o49 (P : Params) : Obj := Obj.mk Value.none (Option.none) (Data.dict #[(DictEntry.mk (PyData.keyHash P "type.__subclasses__.Exception.0") (Value.str "type.__subclasses__.Exception.0" 212) (Value.int 31 0)), (DictEntry.mk (PyData.keyHash P "type.__subclasses__.Exception.n") (Value.str "type.__subclasses__.Exception.n" 213) (Value.int 1 0))] 2) #[]
noncomputable def o50 (P : Params) : Obj := Obj.mk (Value.type "dict") (Option.none) (Data.dict #[(DictEntry.mk (PyData.keyHash P "__name__") (Value.str "__name__" 165) (Value.str "raftkeep.errors" 194)), (DictEntry.mk (PyData.keyHash P "__doc__") (Value.str "__doc__" 166) Value.none), (DictEntry.mk (PyData.keyHash P "__package__") (Value.str "__package__" 167) Value.none), (DictEntry.mk (PyData.keyHash P "__loader__") (Value.str "__loader__" 168) (Value.builtin "__main__.__loader__#opaque")), (DictEntry.mk (PyData.keyHash P "__spec__") (Value.str "__spec__" 169) Value.none), (DictEntry.mk (PyData.keyHash P "__annotations__") (Value.str "__annotations__" 170) (Value.ref 6)), (DictEntry.mk (PyData.keyHash P "__builtins__") (Value.str "__builtins__" 171) (Value.ref 4)), (DictEntry.mk (PyData.keyHash P "__file__") (Value.str "__file__" 173) (Value.str "/claim/cut.py" 172)), (DictEntry.mk (PyData.keyHash P "__cached__") (Value.str "__cached__" 174) Value.none), (DictEntry.mk (PyData.keyHash P "_wall") (Value.str "_wall" 193) (Value.ref 21)), (DictEntry.mk (PyData.keyHash P "KeepError") (Value.str "KeepError" 215) (Value.ref 31))] 11) #[]
noncomputable def o51 (P : Params) : Obj := Obj.mk Value.none (Option.none) (Data.fields #[(Value.int 1 0), (Value.int 0 0), (Value.ref 20), (Value.int 5 0), (Value.int 0 0), (Value.ref 27)]) #[]
noncomputable def o52 (P : Params) : Obj := Obj.mk (Value.type "tuple") (Option.none) (Data.seq #[] 0) #[]
noncomputable def o53 (P : Params) : Obj := Obj.mk Value.none (Option.none) (Data.fields #[]) #[]
noncomputable def o54 (P : Params) : Obj := Obj.mk (Value.type "tuple") (Option.none) (Data.seq #[(Value.str "k" 190)] 0) #[]
noncomputable def o55 (P : Params) : Obj := Obj.mk (Value.type "tuple") (Option.none) (Data.seq #[] 0) #[]
noncomputable def o56 (P : Params) : Obj := Obj.mk Value.none (Option.none) (Data.func fp0.1) #[]
noncomputable def o57 (P : Params) : Obj := Obj.mk (Value.type "code") (Option.none) (Data.fields #[(Value.str "_wall" 187), (Value.str "_wall" 188), (Value.str "/claim/cut.py" 189), (Value.int 1 0), (Value.int 1 0), (Value.int 0 0), (Value.int 0 0), (Value.int 3 0), (Value.ref 15), (Value.bool Bool.true), (Value.int 181 0), (Value.ref 16), Value.none, (Value.ref 17), (Value.ref 18), (Value.ref 19), (Value.int 191 0), (Value.int 1 0), (Value.str "/claim/cut.py" 192)]) #[]
noncomputable def o58 (P : Params) : Obj := Obj.mk (Value.type "function") (Option.none) (Data.func fp1.1) #[]
noncomputable def o59 (P : Params) : Obj := Obj.mk (Value.type "tuple") (Option.none) (Data.seq #[(Value.type "Exception")] 0) #[]
noncomputable def o60 (P : Params) : Obj := Obj.mk (Value.type "builtin_function_or_method") (Option.none) (Data.fields #[(Value.builtin "type.__prepare__"), (Value.type "type")]) #[]
noncomputable def o61 (P : Params) : Obj := Obj.mk (Value.type "dict") (Option.none) (Data.dict #[(DictEntry.mk (PyData.keyHash P "__module__") (Value.str "__module__" 203) (Value.str "raftkeep.errors" 194)), (DictEntry.mk (PyData.keyHash P "__qualname__") (Value.str "__qualname__" 205) (Value.str "KeepError" 204)), (DictEntry.mk (PyData.keyHash P "__firstlineno__") (Value.str "__firstlineno__" 207) (Value.int 5 206)), (DictEntry.mk (PyData.keyHash P "__static_attributes__") (Value.str "__static_attributes__" 208) (Value.ref 29))] 4) #[]
noncomputable def o62 (P : Params) : Obj := Obj.mk (Value.type "tuple") (Option.none) (Data.seq #[] 0) #[]
noncomputable def o63 (P : Params) : Obj := Obj.mk Value.none (Option.none) (Data.fields #[]) #[]
noncomputable def o64 (P : Params) : Obj := Obj.mk (Value.type "code") (Option.none) (Data.fields #[(Value.str "KeepError" 198), (Value.str "KeepError" 199), (Value.str "/claim/cut.py" 200), (Value.int 5 0), (Value.int 0 0), (Value.int 0 0), (Value.int 0 0), (Value.int 0 0), (Value.ref 25), (Value.bool Bool.false), (Value.int 181 0), (Value.ref 26), Value.none, Value.none, Value.none, Value.none, (Value.int 201 0), (Value.int 5 0), (Value.str "/claim/cut.py" 202)]) #[]
noncomputable def o65 (P : Params) : Obj := Obj.mk (Value.type "frame") (Option.none) Data.plain #[(Option.some (Value.ref 27)), (Option.some (Value.ref 3)), (Option.some (Value.ref 24)), (Option.none), (Option.some (Value.str "raftkeep.errors" 194)), (Option.none), (Option.some (Value.ref 0))]
noncomputable def o66 (P : Params) : Obj := Obj.mk (Value.type "tuple") (Option.none) (Data.seq #[] 0) #[]
noncomputable def o67 (P : Params) : Obj := Obj.mk (Value.type "dict") (Option.none) (Data.dict #[(DictEntry.mk (PyData.keyHash P "__module__") (Value.str "__module__" 203) (Value.str "raftkeep.errors" 194)), (DictEntry.mk (PyData.keyHash P "__firstlineno__") (Value.str "__firstlineno__" 207) (Value.int 5 206)), (DictEntry.mk (PyData.keyHash P "__static_attributes__") (Value.str "__static_attributes__" 208) (Value.ref 29)), (DictEntry.mk (PyData.keyHash P "__weakref__") (Value.str "__weakref__" 210) (Value.ref 32)), (DictEntry.mk (PyData.keyHash P "__doc__") (Value.str "__doc__" 211) Value.none)] 3) #[]
noncomputable def o68 (P : Params) : Obj := Obj.mk (Value.type "type") (Option.none) (Data.cls (ClassData.mk "KeepError" [(Value.type "Exception")] [(Value.ref 31), (Value.type "Exception"), (Value.type "BaseException"), (Value.type "object")] 30 "KeepError" Bool.true [] [] Bool.false (Option.none) Bool.false)) #[(Option.some (Value.ref 22)), (Option.none), (Option.some (Value.str "KeepError" 196)), (Option.some (Value.str "KeepError" 204)), (Option.some (Value.builtin "Exception.__new__")), (Option.some (Value.bool Bool.true))]
noncomputable def o69 (P : Params) : Obj := Obj.mk (Value.type "getset_descriptor") (Option.none) (Data.fields #[(Value.str "__weakref__" 209), (Value.ref 31), (Value.builtin "ExceptionGroup.__weakref__"), Value.none]) #[]
noncomputable def o70 (P : Params) : Obj := Obj.mk (Value.type "super") (Option.none) (Data.fields #[(Value.ref 31), (Value.ref 31), (Value.ref 31)]) #[]
noncomputable def o71 (P : Params) : Obj := Obj.mk (Value.type "builtin_function_or_method") (Option.none) (Data.fields #[(Value.builtin "object.__init_subclass__"), (Value.ref 31)]) #[]
noncomputable def o72 (P : Params) : Obj := Obj.mk (Value.type "dict") (Option.none) (Data.dict #[(DictEntry.mk (PyData.keyHash P "__name__") (Value.str "__name__" 165) (Value.str "raftkeep.errors" 194)), (DictEntry.mk (PyData.keyHash P "__doc__") (Value.str "__doc__" 166) Value.none), (DictEntry.mk (PyData.keyHash P "__package__") (Value.str "__package__" 167) Value.none), (DictEntry.mk (PyData.keyHash P "__loader__") (Value.str "__loader__" 168) (Value.builtin "__main__.__loader__#opaque")), (DictEntry.mk (PyData.keyHash P "__spec__") (Value.str "__spec__" 169) Value.none), (DictEntry.mk (PyData.keyHash P "__annotations__") (Value.str "__annotations__" 170) (Value.ref 6)), (DictEntry.mk (PyData.keyHash P "__builtins__") (Value.str "__builtins__" 171) (Value.ref 4)), (DictEntry.mk (PyData.keyHash P "__file__") (Value.str "__file__" 173) (Value.str "/claim/cut.py" 172)), (DictEntry.mk (PyData.keyHash P "__cached__") (Value.str "__cached__" 174) Value.none), (DictEntry.mk (PyData.keyHash P "_wall") (Value.str "_wall" 193) (Value.ref 21)), (DictEntry.mk (PyData.keyHash P "KeepError") (Value.str "KeepError" 215) (Value.ref 31)), (DictEntry.mk (PyData.keyHash P "StoreError") (Value.str "StoreError" 231) (Value.ref 44))] 12) #[]
noncomputable def o73 (P : Params) : Obj := Obj.mk Value.none (Option.none) (Data.fields #[(Value.int 1 0), (Value.int 0 0), (Value.ref 20), (Value.int 5 0), (Value.int 0 0), (Value.ref 27), (Value.int 7 0), (Value.int 0 0), (Value.ref 40)]) #[]
noncomputable def o74 (P : Params) : Obj := Obj.mk (Value.type "type") (Option.none) (Data.cls (ClassData.mk "KeepError" [(Value.type "Exception")] [(Value.ref 31), (Value.type "Exception"), (Value.type "BaseException"), (Value.type "object")] 30 "KeepError" Bool.true [] [(Value.ref 44)] Bool.false (Option.none) Bool.false)) #[(Option.some (Value.ref 22)), (Option.none), (Option.some (Value.str "KeepError" 196)), (Option.some (Value.str "KeepError" 204)), (Option.some (Value.builtin "Exception.__new__")), (Option.some (Value.bool Bool.true))]
noncomputable def o75 (P : Params) : Obj := Obj.mk (Value.type "tuple") (Option.none) (Data.seq #[(Value.ref 31)] 0) #[]
noncomputable def o76 (P : Params) : Obj := Obj.mk (Value.type "builtin_function_or_method") (Option.none) (Data.fields #[(Value.builtin "type.__prepare__"), (Value.type "type")]) #[]
noncomputable def o77 (P : Params) : Obj := Obj.mk (Value.type "dict") (Option.none) (Data.dict #[(DictEntry.mk (PyData.keyHash P "__module__") (Value.str "__module__" 223) (Value.str "raftkeep.errors" 194)), (DictEntry.mk (PyData.keyHash P "__qualname__") (Value.str "__qualname__" 225) (Value.str "StoreError" 224)), (DictEntry.mk (PyData.keyHash P "__firstlineno__") (Value.str "__firstlineno__" 227) (Value.int 7 226)), (DictEntry.mk (PyData.keyHash P "__static_attributes__") (Value.str "__static_attributes__" 228) (Value.ref 42))] 4) #[]
noncomputable def o78 (P : Params) : Obj := Obj.mk (Value.type "tuple") (Option.none) (Data.seq #[] 0) #[]
noncomputable def o79 (P : Params) : Obj := Obj.mk Value.none (Option.none) (Data.fields #[]) #[]
noncomputable def o80 (P : Params) : Obj := Obj.mk (Value.type "code") (Option.none) (Data.fields #[(Value.str "StoreError" 218), (Value.str "StoreError" 219), (Value.str "/claim/cut.py" 220), (Value.int 7 0), (Value.int 0 0), (Value.int 0 0), (Value.int 0 0), (Value.int 0 0), (Value.ref 38), (Value.bool Bool.false), (Value.int 181 0), (Value.ref 39), Value.none, Value.none, Value.none, Value.none, (Value.int 221 0), (Value.int 7 0), (Value.str "/claim/cut.py" 222)]) #[]
noncomputable def o81 (P : Params) : Obj := Obj.mk (Value.type "frame") (Option.none) Data.plain #[(Option.some (Value.ref 40)), (Option.some (Value.ref 3)), (Option.some (Value.ref 37)), (Option.none), (Option.some (Value.str "raftkeep.errors" 194)), (Option.none), (Option.some (Value.ref 0))]
noncomputable def o82 (P : Params) : Obj := Obj.mk (Value.type "tuple") (Option.none) (Data.seq #[] 0) #[]
noncomputable def o83 (P : Params) : Obj := Obj.mk (Value.type "dict") (Option.none) (Data.dict #[(DictEntry.mk (PyData.keyHash P "__module__") (Value.str "__module__" 223) (Value.str "raftkeep.errors" 194)), (DictEntry.mk (PyData.keyHash P "__firstlineno__") (Value.str "__firstlineno__" 227) (Value.int 7 226)), (DictEntry.mk (PyData.keyHash P "__static_attributes__") (Value.str "__static_attributes__" 228) (Value.ref 42)), (DictEntry.mk (PyData.keyHash P "__doc__") (Value.str "__doc__" 229) Value.none)] 2) #[]
noncomputable def o84 (P : Params) : Obj := Obj.mk (Value.type "type") (Option.none) (Data.cls (ClassData.mk "StoreError" [(Value.ref 31)] [(Value.ref 44), (Value.ref 31), (Value.type "Exception"), (Value.type "BaseException"), (Value.type "object")] 43 "StoreError" Bool.true [] [] Bool.false (Option.none) Bool.false)) #[(Option.some (Value.ref 35)), (Option.none), (Option.some (Value.str "StoreError" 216)), (Option.some (Value.str "StoreError" 224)), (Option.some (Value.builtin "Exception.__new__")), (Option.some (Value.bool Bool.true))]
noncomputable def o85 (P : Params) : Obj := Obj.mk (Value.type "super") (Option.none) (Data.fields #[(Value.ref 44), (Value.ref 44), (Value.ref 44)]) #[]
noncomputable def o86 (P : Params) : Obj := Obj.mk (Value.type "builtin_function_or_method") (Option.none) (Data.fields #[(Value.builtin "object.__init_subclass__"), (Value.ref 44)]) #[]
noncomputable def o87 (P : Params) : Obj := Obj.mk (Value.type "dict") (Option.none) (Data.dict #[(DictEntry.mk (PyData.keyHash P "__name__") (Value.str "__name__" 165) (Value.str "raftkeep.errors" 194)), (DictEntry.mk (PyData.keyHash P "__doc__") (Value.str "__doc__" 166) Value.none), (DictEntry.mk (PyData.keyHash P "__package__") (Value.str "__package__" 167) Value.none), (DictEntry.mk (PyData.keyHash P "__loader__") (Value.str "__loader__" 168) (Value.builtin "__main__.__loader__#opaque")), (DictEntry.mk (PyData.keyHash P "__spec__") (Value.str "__spec__" 169) Value.none), (DictEntry.mk (PyData.keyHash P "__annotations__") (Value.str "__annotations__" 170) (Value.ref 6)), (DictEntry.mk (PyData.keyHash P "__builtins__") (Value.str "__builtins__" 171) (Value.ref 4)), (DictEntry.mk (PyData.keyHash P "__file__") (Value.str "__file__" 173) (Value.str "/claim/cut.py" 172)), (DictEntry.mk (PyData.keyHash P "__cached__") (Value.str "__cached__" 174) Value.none), (DictEntry.mk (PyData.keyHash P "_wall") (Value.str "_wall" 193) (Value.ref 21)), (DictEntry.mk (PyData.keyHash P "KeepError") (Value.str "KeepError" 215) (Value.ref 31)), (DictEntry.mk (PyData.keyHash P "StoreError") (Value.str "StoreError" 231) (Value.ref 44)), (DictEntry.mk (PyData.keyHash P "Corrupt") (Value.str "Corrupt" 247) (Value.ref 56))] 13) #[]
noncomputable def o88 (P : Params) : Obj := Obj.mk Value.none (Option.none) (Data.fields #[(Value.int 1 0), (Value.int 0 0), (Value.ref 20), (Value.int 5 0), (Value.int 0 0), (Value.ref 27), (Value.int 7 0), (Value.int 0 0), (Value.ref 40), (Value.int 9 0), (Value.int 0 0), (Value.ref 52)]) #[]
noncomputable def o89 (P : Params) : Obj := Obj.mk (Value.type "type") (Option.none) (Data.cls (ClassData.mk "StoreError" [(Value.ref 31)] [(Value.ref 44), (Value.ref 31), (Value.type "Exception"), (Value.type "BaseException"), (Value.type "object")] 43 "StoreError" Bool.true [] [(Value.ref 56)] Bool.false (Option.none) Bool.false)) #[(Option.some (Value.ref 35)), (Option.none), (Option.some (Value.str "StoreError" 216)), (Option.some (Value.str "StoreError" 224)), (Option.some (Value.builtin "Exception.__new__")), (Option.some (Value.bool Bool.true))]
noncomputable def o90 (P : Params) : Obj := Obj.mk (Value.type "tuple") (Option.none) (Data.seq #[(Value.ref 44)] 0) #[]
noncomputable def o91 (P : Params) : Obj := Obj.mk (Value.type "builtin_function_or_method") (Option.none) (Data.fields #[(Value.builtin "type.__prepare__"), (Value.type "type")]) #[]
noncomputable def o92 (P : Params) : Obj := Obj.mk (Value.type "dict") (Option.none) (Data.dict #[(DictEntry.mk (PyData.keyHash P "__module__") (Value.str "__module__" 239) (Value.str "raftkeep.errors" 194)), (DictEntry.mk (PyData.keyHash P "__qualname__") (Value.str "__qualname__" 241) (Value.str "Corrupt" 240)), (DictEntry.mk (PyData.keyHash P "__firstlineno__") (Value.str "__firstlineno__" 243) (Value.int 9 242)), (DictEntry.mk (PyData.keyHash P "__static_attributes__") (Value.str "__static_attributes__" 244) (Value.ref 54))] 4) #[]
noncomputable def o93 (P : Params) : Obj := Obj.mk (Value.type "tuple") (Option.none) (Data.seq #[] 0) #[]
noncomputable def o94 (P : Params) : Obj := Obj.mk Value.none (Option.none) (Data.fields #[]) #[]
noncomputable def o95 (P : Params) : Obj := Obj.mk (Value.type "code") (Option.none) (Data.fields #[(Value.str "Corrupt" 234), (Value.str "Corrupt" 235), (Value.str "/claim/cut.py" 236), (Value.int 9 0), (Value.int 0 0), (Value.int 0 0), (Value.int 0 0), (Value.int 0 0), (Value.ref 50), (Value.bool Bool.false), (Value.int 181 0), (Value.ref 51), Value.none, Value.none, Value.none, Value.none, (Value.int 237 0), (Value.int 9 0), (Value.str "/claim/cut.py" 238)]) #[]
noncomputable def o96 (P : Params) : Obj := Obj.mk (Value.type "frame") (Option.none) Data.plain #[(Option.some (Value.ref 52)), (Option.some (Value.ref 3)), (Option.some (Value.ref 49)), (Option.none), (Option.some (Value.str "raftkeep.errors" 194)), (Option.none), (Option.some (Value.ref 0))]
noncomputable def o97 (P : Params) : Obj := Obj.mk (Value.type "tuple") (Option.none) (Data.seq #[] 0) #[]
noncomputable def o98 (P : Params) : Obj := Obj.mk (Value.type "dict") (Option.none) (Data.dict #[(DictEntry.mk (PyData.keyHash P "__module__") (Value.str "__module__" 239) (Value.str "raftkeep.errors" 194)), (DictEntry.mk (PyData.keyHash P "__firstlineno__") (Value.str "__firstlineno__" 243) (Value.int 9 242)), (DictEntry.mk (PyData.keyHash P "__static_attributes__") (Value.str "__static_attributes__" 244) (Value.ref 54)), (DictEntry.mk (PyData.keyHash P "__doc__") (Value.str "__doc__" 245) Value.none)] 2) #[]
noncomputable def o99 (P : Params) : Obj := Obj.mk (Value.type "type") (Option.none) (Data.cls (ClassData.mk "Corrupt" [(Value.ref 44)] [(Value.ref 56), (Value.ref 44), (Value.ref 31), (Value.type "Exception"), (Value.type "BaseException"), (Value.type "object")] 55 "Corrupt" Bool.true [] [] Bool.false (Option.none) Bool.false)) #[(Option.some (Value.ref 47)), (Option.none), (Option.some (Value.str "Corrupt" 232)), (Option.some (Value.str "Corrupt" 240)), (Option.some (Value.builtin "Exception.__new__")), (Option.some (Value.bool Bool.true))]
noncomputable def o100 (P : Params) : Obj := Obj.mk (Value.type "super") (Option.none) (Data.fields #[(Value.ref 56), (Value.ref 56), (Value.ref 56)]) #[]
noncomputable def o101 (P : Params) : Obj := Obj.mk (Value.type "builtin_function_or_method") (Option.none) (Data.fields #[(Value.builtin "object.__init_subclass__"), (Value.ref 56)]) #[]
noncomputable def o102 (P : Params) : Obj := Obj.mk (Value.type "dict") (Option.none) (Data.dict #[(DictEntry.mk (PyData.keyHash P "__name__") (Value.str "__name__" 165) (Value.str "raftkeep.errors" 194)), (DictEntry.mk (PyData.keyHash P "__doc__") (Value.str "__doc__" 166) Value.none), (DictEntry.mk (PyData.keyHash P "__package__") (Value.str "__package__" 167) Value.none), (DictEntry.mk (PyData.keyHash P "__loader__") (Value.str "__loader__" 168) (Value.builtin "__main__.__loader__#opaque")), (DictEntry.mk (PyData.keyHash P "__spec__") (Value.str "__spec__" 169) Value.none), (DictEntry.mk (PyData.keyHash P "__annotations__") (Value.str "__annotations__" 170) (Value.ref 6)), (DictEntry.mk (PyData.keyHash P "__builtins__") (Value.str "__builtins__" 171) (Value.ref 4)), (DictEntry.mk (PyData.keyHash P "__file__") (Value.str "__file__" 173) (Value.str "/claim/cut.py" 172)), (DictEntry.mk (PyData.keyHash P "__cached__") (Value.str "__cached__" 174) Value.none), (DictEntry.mk (PyData.keyHash P "_wall") (Value.str "_wall" 193) (Value.ref 21)), (DictEntry.mk (PyData.keyHash P "KeepError") (Value.str "KeepError" 215) (Value.ref 31)), (DictEntry.mk (PyData.keyHash P "StoreError") (Value.str "StoreError" 231) (Value.ref 44)), (DictEntry.mk (PyData.keyHash P "Corrupt") (Value.str "Corrupt" 247) (Value.ref 56)), (DictEntry.mk (PyData.keyHash P "ShortOctets") (Value.str "ShortOctets" 263) (Value.ref 68))] 14) #[]
noncomputable def o103 (P : Params) : Obj := Obj.mk Value.none (Option.none) (Data.fields #[(Value.int 1 0), (Value.int 0 0), (Value.ref 20), (Value.int 5 0), (Value.int 0 0), (Value.ref 27), (Value.int 7 0), (Value.int 0 0), (Value.ref 40), (Value.int 9 0), (Value.int 0 0), (Value.ref 52), (Value.int 11 0), (Value.int 0 0), (Value.ref 64)]) #[]
noncomputable def o104 (P : Params) : Obj := Obj.mk (Value.type "type") (Option.none) (Data.cls (ClassData.mk "Corrupt" [(Value.ref 44)] [(Value.ref 56), (Value.ref 44), (Value.ref 31), (Value.type "Exception"), (Value.type "BaseException"), (Value.type "object")] 55 "Corrupt" Bool.true [] [(Value.ref 68)] Bool.false (Option.none) Bool.false)) #[(Option.some (Value.ref 47)), (Option.none), (Option.some (Value.str "Corrupt" 232)), (Option.some (Value.str "Corrupt" 240)), (Option.some (Value.builtin "Exception.__new__")), (Option.some (Value.bool Bool.true))]
noncomputable def o105 (P : Params) : Obj := Obj.mk (Value.type "tuple") (Option.none) (Data.seq #[(Value.ref 56)] 0) #[]
noncomputable def o106 (P : Params) : Obj := Obj.mk (Value.type "builtin_function_or_method") (Option.none) (Data.fields #[(Value.builtin "type.__prepare__"), (Value.type "type")]) #[]
noncomputable def o107 (P : Params) : Obj := Obj.mk (Value.type "dict") (Option.none) (Data.dict #[(DictEntry.mk (PyData.keyHash P "__module__") (Value.str "__module__" 255) (Value.str "raftkeep.errors" 194)), (DictEntry.mk (PyData.keyHash P "__qualname__") (Value.str "__qualname__" 257) (Value.str "ShortOctets" 256)), (DictEntry.mk (PyData.keyHash P "__firstlineno__") (Value.str "__firstlineno__" 259) (Value.int 11 258)), (DictEntry.mk (PyData.keyHash P "__static_attributes__") (Value.str "__static_attributes__" 260) (Value.ref 66))] 4) #[]
noncomputable def o108 (P : Params) : Obj := Obj.mk (Value.type "tuple") (Option.none) (Data.seq #[] 0) #[]
noncomputable def o109 (P : Params) : Obj := Obj.mk Value.none (Option.none) (Data.fields #[]) #[]
noncomputable def o110 (P : Params) : Obj := Obj.mk (Value.type "code") (Option.none) (Data.fields #[(Value.str "ShortOctets" 250), (Value.str "ShortOctets" 251), (Value.str "/claim/cut.py" 252), (Value.int 11 0), (Value.int 0 0), (Value.int 0 0), (Value.int 0 0), (Value.int 0 0), (Value.ref 62), (Value.bool Bool.false), (Value.int 181 0), (Value.ref 63), Value.none, Value.none, Value.none, Value.none, (Value.int 253 0), (Value.int 11 0), (Value.str "/claim/cut.py" 254)]) #[]
noncomputable def o111 (P : Params) : Obj := Obj.mk (Value.type "frame") (Option.none) Data.plain #[(Option.some (Value.ref 64)), (Option.some (Value.ref 3)), (Option.some (Value.ref 61)), (Option.none), (Option.some (Value.str "raftkeep.errors" 194)), (Option.none), (Option.some (Value.ref 0))]
noncomputable def o112 (P : Params) : Obj := Obj.mk (Value.type "tuple") (Option.none) (Data.seq #[] 0) #[]
noncomputable def o113 (P : Params) : Obj := Obj.mk (Value.type "dict") (Option.none) (Data.dict #[(DictEntry.mk (PyData.keyHash P "__module__") (Value.str "__module__" 255) (Value.str "raftkeep.errors" 194)), (DictEntry.mk (PyData.keyHash P "__firstlineno__") (Value.str "__firstlineno__" 259) (Value.int 11 258)), (DictEntry.mk (PyData.keyHash P "__static_attributes__") (Value.str "__static_attributes__" 260) (Value.ref 66)), (DictEntry.mk (PyData.keyHash P "__doc__") (Value.str "__doc__" 261) Value.none)] 2) #[]
noncomputable def o114 (P : Params) : Obj := Obj.mk (Value.type "type") (Option.none) (Data.cls (ClassData.mk "ShortOctets" [(Value.ref 56)] [(Value.ref 68), (Value.ref 56), (Value.ref 44), (Value.ref 31), (Value.type "Exception"), (Value.type "BaseException"), (Value.type "object")] 67 "ShortOctets" Bool.true [] [] Bool.false (Option.none) Bool.false)) #[(Option.some (Value.ref 59)), (Option.none), (Option.some (Value.str "ShortOctets" 248)), (Option.some (Value.str "ShortOctets" 256)), (Option.some (Value.builtin "Exception.__new__")), (Option.some (Value.bool Bool.true))]
noncomputable def o115 (P : Params) : Obj := Obj.mk (Value.type "super") (Option.none) (Data.fields #[(Value.ref 68), (Value.ref 68), (Value.ref 68)]) #[]
noncomputable def o116 (P : Params) : Obj := Obj.mk (Value.type "builtin_function_or_method") (Option.none) (Data.fields #[(Value.builtin "object.__init_subclass__"), (Value.ref 68)]) #[]
noncomputable def o117 (P : Params) : Obj := Obj.mk (Value.type "dict") (Option.none) (Data.dict #[(DictEntry.mk (PyData.keyHash P "__name__") (Value.str "__name__" 165) (Value.str "raftkeep.keys" 320)), (DictEntry.mk (PyData.keyHash P "__doc__") (Value.str "__doc__" 166) Value.none), (DictEntry.mk (PyData.keyHash P "__package__") (Value.str "__package__" 167) Value.none), (DictEntry.mk (PyData.keyHash P "__loader__") (Value.str "__loader__" 168) (Value.builtin "__main__.__loader__#opaque")), (DictEntry.mk (PyData.keyHash P "__spec__") (Value.str "__spec__" 169) Value.none), (DictEntry.mk (PyData.keyHash P "__annotations__") (Value.str "__annotations__" 170) (Value.ref 6)), (DictEntry.mk (PyData.keyHash P "__builtins__") (Value.str "__builtins__" 171) (Value.ref 4)), (DictEntry.mk (PyData.keyHash P "__file__") (Value.str "__file__" 173) (Value.str "/claim/cut.py" 172)), (DictEntry.mk (PyData.keyHash P "__cached__") (Value.str "__cached__" 174) Value.none), (DictEntry.mk (PyData.keyHash P "_wall") (Value.str "_wall" 193) (Value.ref 21)), (DictEntry.mk (PyData.keyHash P "KeepError") (Value.str "KeepError" 215) (Value.ref 31)), (DictEntry.mk (PyData.keyHash P "StoreError") (Value.str "StoreError" 231) (Value.ref 44)), (DictEntry.mk (PyData.keyHash P "Corrupt") (Value.str "Corrupt" 247) (Value.ref 56)), (DictEntry.mk (PyData.keyHash P "ShortOctets") (Value.str "ShortOctets" 263) (Value.ref 68)), (DictEntry.mk (PyData.keyHash P "BadOption") (Value.str "BadOption" 279) (Value.ref 80)), (DictEntry.mk (PyData.keyHash P "MAX_32") (Value.str "MAX_32" 283) (Value.int 4294967295 282)), (DictEntry.mk (PyData.keyHash P "MAX_64") (Value.str "MAX_64" 285) (Value.int 18446744073709551615 284)), (DictEntry.mk (PyData.keyHash P "CHECK_CRC") (Value.str "CHECK_CRC" 287) (Value.int 1 286)), (DictEntry.mk (PyData.keyHash P "CHECK_SUM") (Value.str "CHECK_SUM" 289) (Value.int 2 288)), (DictEntry.mk (PyData.keyHash P "put_fixed32") (Value.str "put_fixed32" 296) (Value.ref 89)), (DictEntry.mk (PyData.keyHash P "put_fixed64") (Value.str "put_fixed64" 303) (Value.ref 96)), (DictEntry.mk (PyData.keyHash P "read_fixed32") (Value.str "read_fixed32" 311) (Value.ref 103)), (DictEntry.mk (PyData.keyHash P "read_fixed64") (Value.str "read_fixed64" 319) (Value.ref 110))] 23) #[]
noncomputable def o118 (P : Params) : Obj := Obj.mk Value.none (Option.none) (Data.fields #[(Value.int 1 0), (Value.int 0 0), (Value.ref 20), (Value.int 5 0), (Value.int 0 0), (Value.ref 27), (Value.int 7 0), (Value.int 0 0), (Value.ref 40), (Value.int 9 0), (Value.int 0 0), (Value.ref 52), (Value.int 11 0), (Value.int 0 0), (Value.ref 64), (Value.int 13 0), (Value.int 0 0), (Value.ref 76), (Value.int 20 0), (Value.int 0 0), (Value.ref 88), (Value.int 24 0), (Value.int 0 0), (Value.ref 95), (Value.int 28 0), (Value.int 0 0), (Value.ref 102), (Value.int 32 0), (Value.int 0 0), (Value.ref 109)]) #[]
noncomputable def o119 (P : Params) : Obj := Obj.mk (Value.type "type") (Option.none) (Data.cls (ClassData.mk "StoreError" [(Value.ref 31)] [(Value.ref 44), (Value.ref 31), (Value.type "Exception"), (Value.type "BaseException"), (Value.type "object")] 43 "StoreError" Bool.true [] [(Value.ref 56), (Value.ref 80)] Bool.false (Option.none) Bool.false)) #[(Option.some (Value.ref 35)), (Option.none), (Option.some (Value.str "StoreError" 216)), (Option.some (Value.str "StoreError" 224)), (Option.some (Value.builtin "Exception.__new__")), (Option.some (Value.bool Bool.true))]
noncomputable def o120 (P : Params) : Obj := Obj.mk (Value.type "tuple") (Option.none) (Data.seq #[(Value.ref 44)] 0) #[]
noncomputable def o121 (P : Params) : Obj := Obj.mk (Value.type "builtin_function_or_method") (Option.none) (Data.fields #[(Value.builtin "type.__prepare__"), (Value.type "type")]) #[]
noncomputable def o122 (P : Params) : Obj := Obj.mk (Value.type "dict") (Option.none) (Data.dict #[(DictEntry.mk (PyData.keyHash P "__module__") (Value.str "__module__" 271) (Value.str "raftkeep.errors" 194)), (DictEntry.mk (PyData.keyHash P "__qualname__") (Value.str "__qualname__" 273) (Value.str "BadOption" 272)), (DictEntry.mk (PyData.keyHash P "__firstlineno__") (Value.str "__firstlineno__" 275) (Value.int 13 274)), (DictEntry.mk (PyData.keyHash P "__static_attributes__") (Value.str "__static_attributes__" 276) (Value.ref 78))] 4) #[]
noncomputable def o123 (P : Params) : Obj := Obj.mk (Value.type "tuple") (Option.none) (Data.seq #[] 0) #[]
noncomputable def o124 (P : Params) : Obj := Obj.mk Value.none (Option.none) (Data.fields #[]) #[]
noncomputable def o125 (P : Params) : Obj := Obj.mk (Value.type "code") (Option.none) (Data.fields #[(Value.str "BadOption" 266), (Value.str "BadOption" 267), (Value.str "/claim/cut.py" 268), (Value.int 13 0), (Value.int 0 0), (Value.int 0 0), (Value.int 0 0), (Value.int 0 0), (Value.ref 74), (Value.bool Bool.false), (Value.int 181 0), (Value.ref 75), Value.none, Value.none, Value.none, Value.none, (Value.int 269 0), (Value.int 13 0), (Value.str "/claim/cut.py" 270)]) #[]
noncomputable def o126 (P : Params) : Obj := Obj.mk (Value.type "frame") (Option.none) Data.plain #[(Option.some (Value.ref 76)), (Option.some (Value.ref 3)), (Option.some (Value.ref 73)), (Option.none), (Option.some (Value.str "raftkeep.errors" 194)), (Option.none), (Option.some (Value.ref 0))]
noncomputable def o127 (P : Params) : Obj := Obj.mk (Value.type "tuple") (Option.none) (Data.seq #[] 0) #[]
noncomputable def o128 (P : Params) : Obj := Obj.mk (Value.type "dict") (Option.none) (Data.dict #[(DictEntry.mk (PyData.keyHash P "__module__") (Value.str "__module__" 271) (Value.str "raftkeep.errors" 194)), (DictEntry.mk (PyData.keyHash P "__firstlineno__") (Value.str "__firstlineno__" 275) (Value.int 13 274)), (DictEntry.mk (PyData.keyHash P "__static_attributes__") (Value.str "__static_attributes__" 276) (Value.ref 78)), (DictEntry.mk (PyData.keyHash P "__doc__") (Value.str "__doc__" 277) Value.none)] 2) #[]
noncomputable def o129 (P : Params) : Obj := Obj.mk (Value.type "type") (Option.none) (Data.cls (ClassData.mk "BadOption" [(Value.ref 44)] [(Value.ref 80), (Value.ref 44), (Value.ref 31), (Value.type "Exception"), (Value.type "BaseException"), (Value.type "object")] 79 "BadOption" Bool.true [] [] Bool.false (Option.none) Bool.false)) #[(Option.some (Value.ref 71)), (Option.none), (Option.some (Value.str "BadOption" 264)), (Option.some (Value.str "BadOption" 272)), (Option.some (Value.builtin "Exception.__new__")), (Option.some (Value.bool Bool.true))]
noncomputable def o130 (P : Params) : Obj := Obj.mk (Value.type "super") (Option.none) (Data.fields #[(Value.ref 80), (Value.ref 80), (Value.ref 80)]) #[]
noncomputable def o131 (P : Params) : Obj := Obj.mk (Value.type "builtin_function_or_method") (Option.none) (Data.fields #[(Value.builtin "object.__init_subclass__"), (Value.ref 80)]) #[]
noncomputable def o132 (P : Params) : Obj := Obj.mk (Value.type "tuple") (Option.none) (Data.seq #[] 0) #[]
noncomputable def o133 (P : Params) : Obj := Obj.mk Value.none (Option.none) (Data.fields #[]) #[]
noncomputable def o134 (P : Params) : Obj := Obj.mk (Value.type "tuple") (Option.none) (Data.seq #[(Value.str "n" 293)] 0) #[]
noncomputable def o135 (P : Params) : Obj := Obj.mk (Value.type "tuple") (Option.none) (Data.seq #[] 0) #[]
noncomputable def o136 (P : Params) : Obj := Obj.mk Value.none (Option.none) (Data.func fp2.1) #[]
noncomputable def o137 (P : Params) : Obj := Obj.mk (Value.type "code") (Option.none) (Data.fields #[(Value.str "put_fixed32" 290), (Value.str "put_fixed32" 291), (Value.str "/claim/cut.py" 292), (Value.int 20 0), (Value.int 1 0), (Value.int 0 0), (Value.int 0 0), (Value.int 3 0), (Value.ref 83), (Value.bool Bool.true), (Value.int 181 0), (Value.ref 84), Value.none, (Value.ref 85), (Value.ref 86), (Value.ref 87), (Value.int 294 0), (Value.int 20 0), (Value.str "/claim/cut.py" 295)]) #[]
noncomputable def o138 (P : Params) : Obj := Obj.mk (Value.type "function") (Option.none) (Data.func fp3.1) #[]
noncomputable def o139 (P : Params) : Obj := Obj.mk (Value.type "tuple") (Option.none) (Data.seq #[] 0) #[]
noncomputable def o140 (P : Params) : Obj := Obj.mk Value.none (Option.none) (Data.fields #[]) #[]
noncomputable def o141 (P : Params) : Obj := Obj.mk (Value.type "tuple") (Option.none) (Data.seq #[(Value.str "n" 300)] 0) #[]
noncomputable def o142 (P : Params) : Obj := Obj.mk (Value.type "tuple") (Option.none) (Data.seq #[] 0) #[]
noncomputable def o143 (P : Params) : Obj := Obj.mk Value.none (Option.none) (Data.func fp4.1) #[]
noncomputable def o144 (P : Params) : Obj := Obj.mk (Value.type "code") (Option.none) (Data.fields #[(Value.str "put_fixed64" 297), (Value.str "put_fixed64" 298), (Value.str "/claim/cut.py" 299), (Value.int 24 0), (Value.int 1 0), (Value.int 0 0), (Value.int 0 0), (Value.int 3 0), (Value.ref 90), (Value.bool Bool.true), (Value.int 181 0), (Value.ref 91), Value.none, (Value.ref 92), (Value.ref 93), (Value.ref 94), (Value.int 301 0), (Value.int 24 0), (Value.str "/claim/cut.py" 302)]) #[]
noncomputable def o145 (P : Params) : Obj := Obj.mk (Value.type "function") (Option.none) (Data.func fp5.1) #[]
noncomputable def o146 (P : Params) : Obj := Obj.mk (Value.type "tuple") (Option.none) (Data.seq #[] 0) #[]
noncomputable def o147 (P : Params) : Obj := Obj.mk Value.none (Option.none) (Data.fields #[]) #[]
noncomputable def o148 (P : Params) : Obj := Obj.mk (Value.type "tuple") (Option.none) (Data.seq #[(Value.str "data" 307), (Value.str "at" 308)] 0) #[]
noncomputable def o149 (P : Params) : Obj := Obj.mk (Value.type "tuple") (Option.none) (Data.seq #[] 0) #[]
noncomputable def o150 (P : Params) : Obj := Obj.mk Value.none (Option.none) (Data.func fp6.1) #[]
noncomputable def o151 (P : Params) : Obj := Obj.mk (Value.type "code") (Option.none) (Data.fields #[(Value.str "read_fixed32" 304), (Value.str "read_fixed32" 305), (Value.str "/claim/cut.py" 306), (Value.int 28 0), (Value.int 2 0), (Value.int 0 0), (Value.int 0 0), (Value.int 3 0), (Value.ref 97), (Value.bool Bool.true), (Value.int 181 0), (Value.ref 98), Value.none, (Value.ref 99), (Value.ref 100), (Value.ref 101), (Value.int 309 0), (Value.int 28 0), (Value.str "/claim/cut.py" 310)]) #[]
noncomputable def o152 (P : Params) : Obj := Obj.mk (Value.type "function") (Option.none) (Data.func fp7.1) #[]
noncomputable def o153 (P : Params) : Obj := Obj.mk (Value.type "tuple") (Option.none) (Data.seq #[] 0) #[]
noncomputable def o154 (P : Params) : Obj := Obj.mk Value.none (Option.none) (Data.fields #[]) #[]
noncomputable def o155 (P : Params) : Obj := Obj.mk (Value.type "tuple") (Option.none) (Data.seq #[(Value.str "data" 315), (Value.str "at" 316)] 0) #[]
noncomputable def o156 (P : Params) : Obj := Obj.mk (Value.type "tuple") (Option.none) (Data.seq #[] 0) #[]
noncomputable def o157 (P : Params) : Obj := Obj.mk Value.none (Option.none) (Data.func fp8.1) #[]
noncomputable def o158 (P : Params) : Obj := Obj.mk (Value.type "code") (Option.none) (Data.fields #[(Value.str "read_fixed64" 312), (Value.str "read_fixed64" 313), (Value.str "/claim/cut.py" 314), (Value.int 32 0), (Value.int 2 0), (Value.int 0 0), (Value.int 0 0), (Value.int 3 0), (Value.ref 104), (Value.bool Bool.true), (Value.int 181 0), (Value.ref 105), Value.none, (Value.ref 106), (Value.ref 107), (Value.ref 108), (Value.int 317 0), (Value.int 32 0), (Value.str "/claim/cut.py" 318)]) #[]
noncomputable def o159 (P : Params) : Obj := Obj.mk (Value.type "function") (Option.none) (Data.func fp9.1) #[]
noncomputable def o160 (P : Params) : Obj := Obj.mk (Value.type "dict") (Option.none) (Data.dict #[(DictEntry.mk (PyData.keyHash P "__name__") (Value.str "__name__" 165) (Value.str "raftkeep.keys" 320)), (DictEntry.mk (PyData.keyHash P "__doc__") (Value.str "__doc__" 166) Value.none), (DictEntry.mk (PyData.keyHash P "__package__") (Value.str "__package__" 167) Value.none), (DictEntry.mk (PyData.keyHash P "__loader__") (Value.str "__loader__" 168) (Value.builtin "__main__.__loader__#opaque")), (DictEntry.mk (PyData.keyHash P "__spec__") (Value.str "__spec__" 169) Value.none), (DictEntry.mk (PyData.keyHash P "__annotations__") (Value.str "__annotations__" 170) (Value.ref 6)), (DictEntry.mk (PyData.keyHash P "__builtins__") (Value.str "__builtins__" 171) (Value.ref 4)), (DictEntry.mk (PyData.keyHash P "__file__") (Value.str "__file__" 173) (Value.str "/claim/cut.py" 172)), (DictEntry.mk (PyData.keyHash P "__cached__") (Value.str "__cached__" 174) Value.none), (DictEntry.mk (PyData.keyHash P "_wall") (Value.str "_wall" 193) (Value.ref 21)), (DictEntry.mk (PyData.keyHash P "KeepError") (Value.str "KeepError" 215) (Value.ref 31)), (DictEntry.mk (PyData.keyHash P "StoreError") (Value.str "StoreError" 231) (Value.ref 44)), (DictEntry.mk (PyData.keyHash P "Corrupt") (Value.str "Corrupt" 247) (Value.ref 56)), (DictEntry.mk (PyData.keyHash P "ShortOctets") (Value.str "ShortOctets" 263) (Value.ref 68)), (DictEntry.mk (PyData.keyHash P "BadOption") (Value.str "BadOption" 279) (Value.ref 80)), (DictEntry.mk (PyData.keyHash P "MAX_32") (Value.str "MAX_32" 283) (Value.int 4294967295 282)), (DictEntry.mk (PyData.keyHash P "MAX_64") (Value.str "MAX_64" 285) (Value.int 18446744073709551615 284)), (DictEntry.mk (PyData.keyHash P "CHECK_CRC") (Value.str "CHECK_CRC" 287) (Value.int 1 286)), (DictEntry.mk (PyData.keyHash P "CHECK_SUM") (Value.str "CHECK_SUM" 289) (Value.int 2 288)), (DictEntry.mk (PyData.keyHash P "put_fixed32") (Value.str "put_fixed32" 296) (Value.ref 89)), (DictEntry.mk (PyData.keyHash P "put_fixed64") (Value.str "put_fixed64" 303) (Value.ref 96)), (DictEntry.mk (PyData.keyHash P "read_fixed32") (Value.str "read_fixed32" 311) (Value.ref 103)), (DictEntry.mk (PyData.keyHash P "read_fixed64") (Value.str "read_fixed64" 319) (Value.ref 110)), (DictEntry.mk (PyData.keyHash P "KIND_DELETE") (Value.str "KIND_DELETE" 323) (Value.int 0 322)), (DictEntry.mk (PyData.keyHash P "KIND_VALUE") (Value.str "KIND_VALUE" 325) (Value.int 1 324)), (DictEntry.mk (PyData.keyHash P "KIND_SEEK") (Value.str "KIND_SEEK" 327) (Value.int 1 326)), (DictEntry.mk (PyData.keyHash P "MAX_SEQ") (Value.str "MAX_SEQ" 329) (Value.int 72057594037927935 328)), (DictEntry.mk (PyData.keyHash P "TAG_LENGTH") (Value.str "TAG_LENGTH" 331) (Value.int 8 330)), (DictEntry.mk (PyData.keyHash P "LEAST_BLOCK") (Value.str "LEAST_BLOCK" 333) (Value.int 8 332)), (DictEntry.mk (PyData.keyHash P "MOST_BLOCK") (Value.str "MOST_BLOCK" 335) (Value.int 65542 334)), (DictEntry.mk (PyData.keyHash P "MOST_LEVELS") (Value.str "MOST_LEVELS" 337) (Value.int 12 336)), (DictEntry.mk (PyData.keyHash P "pack_tag") (Value.str "pack_tag" 345) (Value.ref 117)), (DictEntry.mk (PyData.keyHash P "make_ikey") (Value.str "make_ikey" 354) (Value.ref 124)), (DictEntry.mk (PyData.keyHash P "split_ikey") (Value.str "split_ikey" 364) (Value.ref 131)), (DictEntry.mk (PyData.keyHash P "user_of") (Value.str "user_of" 371) (Value.ref 138)), (DictEntry.mk (PyData.keyHash P "tag_of") (Value.str "tag_of" 378) (Value.ref 145))] 36) #[]
noncomputable def o161 (P : Params) : Obj := Obj.mk Value.none (Option.none) (Data.fields #[(Value.int 1 0), (Value.int 0 0), (Value.ref 20), (Value.int 5 0), (Value.int 0 0), (Value.ref 27), (Value.int 7 0), (Value.int 0 0), (Value.ref 40), (Value.int 9 0), (Value.int 0 0), (Value.ref 52), (Value.int 11 0), (Value.int 0 0), (Value.ref 64), (Value.int 13 0), (Value.int 0 0), (Value.ref 76), (Value.int 20 0), (Value.int 0 0), (Value.ref 88), (Value.int 24 0), (Value.int 0 0), (Value.ref 95), (Value.int 28 0), (Value.int 0 0), (Value.ref 102), (Value.int 32 0), (Value.int 0 0), (Value.ref 109), (Value.int 45 0), (Value.int 0 0), (Value.ref 116), (Value.int 51 0), (Value.int 0 0), (Value.ref 123), (Value.int 53 0), (Value.int 0 0), (Value.ref 130), (Value.int 60 0), (Value.int 0 0), (Value.ref 137), (Value.int 64 0), (Value.int 0 0), (Value.ref 144)]) #[]
noncomputable def o162 (P : Params) : Obj := Obj.mk (Value.type "tuple") (Option.none) (Data.seq #[] 0) #[]
noncomputable def o163 (P : Params) : Obj := Obj.mk Value.none (Option.none) (Data.fields #[]) #[]
noncomputable def o164 (P : Params) : Obj := Obj.mk (Value.type "tuple") (Option.none) (Data.seq #[(Value.str "seq" 341), (Value.str "kind" 342)] 0) #[]
noncomputable def o165 (P : Params) : Obj := Obj.mk (Value.type "tuple") (Option.none) (Data.seq #[] 0) #[]
noncomputable def o166 (P : Params) : Obj := Obj.mk Value.none (Option.none) (Data.func fp10.1) #[]
noncomputable def o167 (P : Params) : Obj := Obj.mk (Value.type "code") (Option.none) (Data.fields #[(Value.str "pack_tag" 338), (Value.str "pack_tag" 339), (Value.str "/claim/cut.py" 340), (Value.int 45 0), (Value.int 2 0), (Value.int 0 0), (Value.int 0 0), (Value.int 3 0), (Value.ref 111), (Value.bool Bool.true), (Value.int 181 0), (Value.ref 112), Value.none, (Value.ref 113), (Value.ref 114), (Value.ref 115), (Value.int 343 0), (Value.int 45 0), (Value.str "/claim/cut.py" 344)]) #[]
noncomputable def o168 (P : Params) : Obj := Obj.mk (Value.type "function") (Option.none) (Data.func fp11.1) #[]
noncomputable def o169 (P : Params) : Obj := Obj.mk (Value.type "tuple") (Option.none) (Data.seq #[] 0) #[]
noncomputable def o170 (P : Params) : Obj := Obj.mk Value.none (Option.none) (Data.fields #[]) #[]
noncomputable def o171 (P : Params) : Obj := Obj.mk (Value.type "tuple") (Option.none) (Data.seq #[(Value.str "user" 349), (Value.str "seq" 350), (Value.str "kind" 351)] 0) #[]
noncomputable def o172 (P : Params) : Obj := Obj.mk (Value.type "tuple") (Option.none) (Data.seq #[] 0) #[]
noncomputable def o173 (P : Params) : Obj := Obj.mk Value.none (Option.none) (Data.func fp12.1) #[]
noncomputable def o174 (P : Params) : Obj := Obj.mk (Value.type "code") (Option.none) (Data.fields #[(Value.str "make_ikey" 346), (Value.str "make_ikey" 347), (Value.str "/claim/cut.py" 348), (Value.int 51 0), (Value.int 3 0), (Value.int 0 0), (Value.int 0 0), (Value.int 3 0), (Value.ref 118), (Value.bool Bool.true), (Value.int 181 0), (Value.ref 119), Value.none, (Value.ref 120), (Value.ref 121), (Value.ref 122), (Value.int 352 0), (Value.int 51 0), (Value.str "/claim/cut.py" 353)]) #[]
noncomputable def o175 (P : Params) : Obj := Obj.mk (Value.type "function") (Option.none) (Data.func fp13.1) #[]
noncomputable def o176 (P : Params) : Obj := Obj.mk (Value.type "tuple") (Option.none) (Data.seq #[] 0) #[]
noncomputable def o177 (P : Params) : Obj := Obj.mk Value.none (Option.none) (Data.fields #[]) #[]
noncomputable def o178 (P : Params) : Obj := Obj.mk (Value.type "tuple") (Option.none) (Data.seq #[(Value.str "ik" 358), (Value.str "user" 359), (Value.str "tag" 360), (Value.str "kind" 361)] 0) #[]
noncomputable def o179 (P : Params) : Obj := Obj.mk (Value.type "tuple") (Option.none) (Data.seq #[] 0) #[]
noncomputable def o180 (P : Params) : Obj := Obj.mk Value.none (Option.none) (Data.func fp14.1) #[]
noncomputable def o181 (P : Params) : Obj := Obj.mk (Value.type "code") (Option.none) (Data.fields #[(Value.str "split_ikey" 355), (Value.str "split_ikey" 356), (Value.str "/claim/cut.py" 357), (Value.int 53 0), (Value.int 1 0), (Value.int 0 0), (Value.int 0 0), (Value.int 3 0), (Value.ref 125), (Value.bool Bool.true), (Value.int 181 0), (Value.ref 126), Value.none, (Value.ref 127), (Value.ref 128), (Value.ref 129), (Value.int 362 0), (Value.int 53 0), (Value.str "/claim/cut.py" 363)]) #[]
noncomputable def o182 (P : Params) : Obj := Obj.mk (Value.type "function") (Option.none) (Data.func fp15.1) #[]
noncomputable def o183 (P : Params) : Obj := Obj.mk (Value.type "tuple") (Option.none) (Data.seq #[] 0) #[]
noncomputable def o184 (P : Params) : Obj := Obj.mk Value.none (Option.none) (Data.fields #[]) #[]
noncomputable def o185 (P : Params) : Obj := Obj.mk (Value.type "tuple") (Option.none) (Data.seq #[(Value.str "ik" 368)] 0) #[]
noncomputable def o186 (P : Params) : Obj := Obj.mk (Value.type "tuple") (Option.none) (Data.seq #[] 0) #[]
noncomputable def o187 (P : Params) : Obj := Obj.mk Value.none (Option.none) (Data.func fp16.1) #[]
noncomputable def o188 (P : Params) : Obj := Obj.mk (Value.type "code") (Option.none) (Data.fields #[(Value.str "user_of" 365), (Value.str "user_of" 366), (Value.str "/claim/cut.py" 367), (Value.int 60 0), (Value.int 1 0), (Value.int 0 0), (Value.int 0 0), (Value.int 3 0), (Value.ref 132), (Value.bool Bool.true), (Value.int 181 0), (Value.ref 133), Value.none, (Value.ref 134), (Value.ref 135), (Value.ref 136), (Value.int 369 0), (Value.int 60 0), (Value.str "/claim/cut.py" 370)]) #[]
noncomputable def o189 (P : Params) : Obj := Obj.mk (Value.type "function") (Option.none) (Data.func fp17.1) #[]
noncomputable def o190 (P : Params) : Obj := Obj.mk (Value.type "tuple") (Option.none) (Data.seq #[] 0) #[]
noncomputable def o191 (P : Params) : Obj := Obj.mk Value.none (Option.none) (Data.fields #[]) #[]
noncomputable def o192 (P : Params) : Obj := Obj.mk (Value.type "tuple") (Option.none) (Data.seq #[(Value.str "ik" 375)] 0) #[]
noncomputable def o193 (P : Params) : Obj := Obj.mk (Value.type "tuple") (Option.none) (Data.seq #[] 0) #[]
noncomputable def o194 (P : Params) : Obj := Obj.mk Value.none (Option.none) (Data.func fp18.1) #[]
noncomputable def o195 (P : Params) : Obj := Obj.mk (Value.type "code") (Option.none) (Data.fields #[(Value.str "tag_of" 372), (Value.str "tag_of" 373), (Value.str "/claim/cut.py" 374), (Value.int 64 0), (Value.int 1 0), (Value.int 0 0), (Value.int 0 0), (Value.int 3 0), (Value.ref 139), (Value.bool Bool.true), (Value.int 181 0), (Value.ref 140), Value.none, (Value.ref 141), (Value.ref 142), (Value.ref 143), (Value.int 376 0), (Value.int 64 0), (Value.str "/claim/cut.py" 377)]) #[]
noncomputable def o196 (P : Params) : Obj := Obj.mk (Value.type "function") (Option.none) (Data.func fp19.1) #[]
noncomputable def o197 (P : Params) : Obj := Obj.mk (Value.type "dict") (Option.none) (Data.dict #[(DictEntry.mk (PyData.keyHash P "__name__") (Value.str "__name__" 165) (Value.str "raftkeep.keys" 320)), (DictEntry.mk (PyData.keyHash P "__doc__") (Value.str "__doc__" 166) Value.none), (DictEntry.mk (PyData.keyHash P "__package__") (Value.str "__package__" 167) Value.none), (DictEntry.mk (PyData.keyHash P "__loader__") (Value.str "__loader__" 168) (Value.builtin "__main__.__loader__#opaque")), (DictEntry.mk (PyData.keyHash P "__spec__") (Value.str "__spec__" 169) Value.none), (DictEntry.mk (PyData.keyHash P "__annotations__") (Value.str "__annotations__" 170) (Value.ref 6)), (DictEntry.mk (PyData.keyHash P "__builtins__") (Value.str "__builtins__" 171) (Value.ref 4)), (DictEntry.mk (PyData.keyHash P "__file__") (Value.str "__file__" 173) (Value.str "/claim/cut.py" 172)), (DictEntry.mk (PyData.keyHash P "__cached__") (Value.str "__cached__" 174) Value.none), (DictEntry.mk (PyData.keyHash P "_wall") (Value.str "_wall" 193) (Value.ref 21)), (DictEntry.mk (PyData.keyHash P "KeepError") (Value.str "KeepError" 215) (Value.ref 31)), (DictEntry.mk (PyData.keyHash P "StoreError") (Value.str "StoreError" 231) (Value.ref 44)), (DictEntry.mk (PyData.keyHash P "Corrupt") (Value.str "Corrupt" 247) (Value.ref 56)), (DictEntry.mk (PyData.keyHash P "ShortOctets") (Value.str "ShortOctets" 263) (Value.ref 68)), (DictEntry.mk (PyData.keyHash P "BadOption") (Value.str "BadOption" 279) (Value.ref 80)), (DictEntry.mk (PyData.keyHash P "MAX_32") (Value.str "MAX_32" 283) (Value.int 4294967295 282)), (DictEntry.mk (PyData.keyHash P "MAX_64") (Value.str "MAX_64" 285) (Value.int 18446744073709551615 284)), (DictEntry.mk (PyData.keyHash P "CHECK_CRC") (Value.str "CHECK_CRC" 287) (Value.int 1 286)), (DictEntry.mk (PyData.keyHash P "CHECK_SUM") (Value.str "CHECK_SUM" 289) (Value.int 2 288)), (DictEntry.mk (PyData.keyHash P "put_fixed32") (Value.str "put_fixed32" 296) (Value.ref 89)), (DictEntry.mk (PyData.keyHash P "put_fixed64") (Value.str "put_fixed64" 303) (Value.ref 96)), (DictEntry.mk (PyData.keyHash P "read_fixed32") (Value.str "read_fixed32" 311) (Value.ref 103)), (DictEntry.mk (PyData.keyHash P "read_fixed64") (Value.str "read_fixed64" 319) (Value.ref 110)), (DictEntry.mk (PyData.keyHash P "KIND_DELETE") (Value.str "KIND_DELETE" 323) (Value.int 0 322)), (DictEntry.mk (PyData.keyHash P "KIND_VALUE") (Value.str "KIND_VALUE" 325) (Value.int 1 324)), (DictEntry.mk (PyData.keyHash P "KIND_SEEK") (Value.str "KIND_SEEK" 327) (Value.int 1 326)), (DictEntry.mk (PyData.keyHash P "MAX_SEQ") (Value.str "MAX_SEQ" 329) (Value.int 72057594037927935 328)), (DictEntry.mk (PyData.keyHash P "TAG_LENGTH") (Value.str "TAG_LENGTH" 331) (Value.int 8 330)), (DictEntry.mk (PyData.keyHash P "LEAST_BLOCK") (Value.str "LEAST_BLOCK" 333) (Value.int 8 332)), (DictEntry.mk (PyData.keyHash P "MOST_BLOCK") (Value.str "MOST_BLOCK" 335) (Value.int 65542 334)), (DictEntry.mk (PyData.keyHash P "MOST_LEVELS") (Value.str "MOST_LEVELS" 337) (Value.int 12 336)), (DictEntry.mk (PyData.keyHash P "pack_tag") (Value.str "pack_tag" 345) (Value.ref 117)), (DictEntry.mk (PyData.keyHash P "make_ikey") (Value.str "make_ikey" 354) (Value.ref 124)), (DictEntry.mk (PyData.keyHash P "split_ikey") (Value.str "split_ikey" 364) (Value.ref 131)), (DictEntry.mk (PyData.keyHash P "user_of") (Value.str "user_of" 371) (Value.ref 138)), (DictEntry.mk (PyData.keyHash P "tag_of") (Value.str "tag_of" 378) (Value.ref 145)), (DictEntry.mk (PyData.keyHash P "Order") (Value.str "Order" 431) (Value.ref 183))] 37) #[]
noncomputable def o198 (P : Params) : Obj := Obj.mk Value.none (Option.none) (Data.fields #[(Value.int 1 0), (Value.int 0 0), (Value.ref 20), (Value.int 5 0), (Value.int 0 0), (Value.ref 27), (Value.int 7 0), (Value.int 0 0), (Value.ref 40), (Value.int 9 0), (Value.int 0 0), (Value.ref 52), (Value.int 11 0), (Value.int 0 0), (Value.ref 64), (Value.int 13 0), (Value.int 0 0), (Value.ref 76), (Value.int 20 0), (Value.int 0 0), (Value.ref 88), (Value.int 24 0), (Value.int 0 0), (Value.ref 95), (Value.int 28 0), (Value.int 0 0), (Value.ref 102), (Value.int 32 0), (Value.int 0 0), (Value.ref 109), (Value.int 45 0), (Value.int 0 0), (Value.ref 116), (Value.int 51 0), (Value.int 0 0), (Value.ref 123), (Value.int 53 0), (Value.int 0 0), (Value.ref 130), (Value.int 60 0), (Value.int 0 0), (Value.ref 137), (Value.int 64 0), (Value.int 0 0), (Value.ref 144), (Value.int 68 0), (Value.int 0 0), (Value.ref 151)]) #[]
noncomputable def o199 (P : Params) : Obj := Obj.mk (Value.type "tuple") (Option.none) (Data.seq #[] 0) #[]
noncomputable def o200 (P : Params) : Obj := Obj.mk (Value.type "builtin_function_or_method") (Option.none) (Data.fields #[(Value.builtin "type.__prepare__"), (Value.type "type")]) #[]
noncomputable def o201 (P : Params) : Obj := Obj.mk (Value.type "dict") (Option.none) (Data.dict #[(DictEntry.mk (PyData.keyHash P "__module__") (Value.str "__module__" 386) (Value.str "raftkeep.keys" 320)), (DictEntry.mk (PyData.keyHash P "__qualname__") (Value.str "__qualname__" 388) (Value.str "Order" 387)), (DictEntry.mk (PyData.keyHash P "__firstlineno__") (Value.str "__firstlineno__" 390) (Value.int 68 389)), (DictEntry.mk (PyData.keyHash P "compare") (Value.str "compare" 399) (Value.ref 159)), (DictEntry.mk (PyData.keyHash P "separator") (Value.str "separator" 408) (Value.ref 166)), (DictEntry.mk (PyData.keyHash P "successor") (Value.str "successor" 416) (Value.ref 173)), (DictEntry.mk (PyData.keyHash P "name") (Value.str "name" 423) (Value.ref 180)), (DictEntry.mk (PyData.keyHash P "__static_attributes__") (Value.str "__static_attributes__" 424) (Value.ref 181))] 8) #[]
noncomputable def o202 (P : Params) : Obj := Obj.mk (Value.type "tuple") (Option.none) (Data.seq #[] 0) #[]
noncomputable def o203 (P : Params) : Obj := Obj.mk Value.none (Option.none) (Data.fields #[(Value.int 70 0), (Value.int 4 0), (Value.ref 158), (Value.int 77 0), (Value.int 4 0), (Value.ref 165), (Value.int 80 0), (Value.int 4 0), (Value.ref 172), (Value.int 83 0), (Value.int 4 0), (Value.ref 179)]) #[]
noncomputable def o204 (P : Params) : Obj := Obj.mk (Value.type "code") (Option.none) (Data.fields #[(Value.str "Order" 381), (Value.str "Order" 382), (Value.str "/claim/cut.py" 383), (Value.int 68 0), (Value.int 0 0), (Value.int 0 0), (Value.int 0 0), (Value.int 0 0), (Value.ref 149), (Value.bool Bool.false), (Value.int 181 0), (Value.ref 150), Value.none, Value.none, Value.none, Value.none, (Value.int 384 0), (Value.int 68 0), (Value.str "/claim/cut.py" 385)]) #[]
noncomputable def o205 (P : Params) : Obj := Obj.mk (Value.type "frame") (Option.none) Data.plain #[(Option.some (Value.ref 151)), (Option.some (Value.ref 3)), (Option.some (Value.ref 148)), (Option.none), (Option.some (Value.str "raftkeep.keys" 320)), (Option.none), (Option.some (Value.ref 0))]
noncomputable def o206 (P : Params) : Obj := Obj.mk (Value.type "tuple") (Option.none) (Data.seq #[] 0) #[]
noncomputable def o207 (P : Params) : Obj := Obj.mk Value.none (Option.none) (Data.fields #[]) #[]
noncomputable def o208 (P : Params) : Obj := Obj.mk (Value.type "tuple") (Option.none) (Data.seq #[(Value.str "self" 394), (Value.str "a" 395), (Value.str "b" 396)] 0) #[]
noncomputable def o209 (P : Params) : Obj := Obj.mk (Value.type "tuple") (Option.none) (Data.seq #[] 0) #[]
noncomputable def o210 (P : Params) : Obj := Obj.mk Value.none (Option.none) (Data.func fp20.1) #[]
noncomputable def o211 (P : Params) : Obj := Obj.mk (Value.type "code") (Option.none) (Data.fields #[(Value.str "compare" 391), (Value.str "Order.compare" 392), (Value.str "/claim/cut.py" 393), (Value.int 70 0), (Value.int 3 0), (Value.int 0 0), (Value.int 0 0), (Value.int 3 0), (Value.ref 153), (Value.bool Bool.true), (Value.int 181 0), (Value.ref 154), Value.none, (Value.ref 155), (Value.ref 156), (Value.ref 157), (Value.int 397 0), (Value.int 70 0), (Value.str "/claim/cut.py" 398)]) #[]
noncomputable def o212 (P : Params) : Obj := Obj.mk (Value.type "function") (Option.none) (Data.func fp21.1) #[]
noncomputable def o213 (P : Params) : Obj := Obj.mk (Value.type "tuple") (Option.none) (Data.seq #[] 0) #[]
noncomputable def o214 (P : Params) : Obj := Obj.mk Value.none (Option.none) (Data.fields #[]) #[]
noncomputable def o215 (P : Params) : Obj := Obj.mk (Value.type "tuple") (Option.none) (Data.seq #[(Value.str "self" 403), (Value.str "a" 404), (Value.str "b" 405)] 0) #[]
noncomputable def o216 (P : Params) : Obj := Obj.mk (Value.type "tuple") (Option.none) (Data.seq #[] 0) #[]
noncomputable def o217 (P : Params) : Obj := Obj.mk Value.none (Option.none) (Data.func fp22.1) #[]
noncomputable def o218 (P : Params) : Obj := Obj.mk (Value.type "code") (Option.none) (Data.fields #[(Value.str "separator" 400), (Value.str "Order.separator" 401), (Value.str "/claim/cut.py" 402), (Value.int 77 0), (Value.int 3 0), (Value.int 0 0), (Value.int 0 0), (Value.int 3 0), (Value.ref 160), (Value.bool Bool.true), (Value.int 181 0), (Value.ref 161), Value.none, (Value.ref 162), (Value.ref 163), (Value.ref 164), (Value.int 406 0), (Value.int 77 0), (Value.str "/claim/cut.py" 407)]) #[]
noncomputable def o219 (P : Params) : Obj := Obj.mk (Value.type "function") (Option.none) (Data.func fp23.1) #[]
noncomputable def o220 (P : Params) : Obj := Obj.mk (Value.type "tuple") (Option.none) (Data.seq #[] 0) #[]
noncomputable def o221 (P : Params) : Obj := Obj.mk Value.none (Option.none) (Data.fields #[]) #[]
noncomputable def o222 (P : Params) : Obj := Obj.mk (Value.type "tuple") (Option.none) (Data.seq #[(Value.str "self" 412), (Value.str "a" 413)] 0) #[]
noncomputable def o223 (P : Params) : Obj := Obj.mk (Value.type "tuple") (Option.none) (Data.seq #[] 0) #[]
noncomputable def o224 (P : Params) : Obj := Obj.mk Value.none (Option.none) (Data.func fp24.1) #[]
noncomputable def o225 (P : Params) : Obj := Obj.mk (Value.type "code") (Option.none) (Data.fields #[(Value.str "successor" 409), (Value.str "Order.successor" 410), (Value.str "/claim/cut.py" 411), (Value.int 80 0), (Value.int 2 0), (Value.int 0 0), (Value.int 0 0), (Value.int 3 0), (Value.ref 167), (Value.bool Bool.true), (Value.int 181 0), (Value.ref 168), Value.none, (Value.ref 169), (Value.ref 170), (Value.ref 171), (Value.int 414 0), (Value.int 80 0), (Value.str "/claim/cut.py" 415)]) #[]
noncomputable def o226 (P : Params) : Obj := Obj.mk (Value.type "function") (Option.none) (Data.func fp25.1) #[]
noncomputable def o227 (P : Params) : Obj := Obj.mk (Value.type "tuple") (Option.none) (Data.seq #[] 0) #[]
noncomputable def o228 (P : Params) : Obj := Obj.mk Value.none (Option.none) (Data.fields #[]) #[]
noncomputable def o229 (P : Params) : Obj := Obj.mk (Value.type "tuple") (Option.none) (Data.seq #[(Value.str "self" 420)] 0) #[]
noncomputable def o230 (P : Params) : Obj := Obj.mk (Value.type "tuple") (Option.none) (Data.seq #[] 0) #[]
noncomputable def o231 (P : Params) : Obj := Obj.mk Value.none (Option.none) (Data.func fp26.1) #[]
noncomputable def o232 (P : Params) : Obj := Obj.mk (Value.type "code") (Option.none) (Data.fields #[(Value.str "name" 417), (Value.str "Order.name" 418), (Value.str "/claim/cut.py" 419), (Value.int 83 0), (Value.int 1 0), (Value.int 0 0), (Value.int 0 0), (Value.int 3 0), (Value.ref 174), (Value.bool Bool.true), (Value.int 181 0), (Value.ref 175), Value.none, (Value.ref 176), (Value.ref 177), (Value.ref 178), (Value.int 421 0), (Value.int 83 0), (Value.str "/claim/cut.py" 422)]) #[]
noncomputable def o233 (P : Params) : Obj := Obj.mk (Value.type "function") (Option.none) (Data.func fp27.1) #[]
noncomputable def o234 (P : Params) : Obj := Obj.mk (Value.type "tuple") (Option.none) (Data.seq #[] 0) #[]
noncomputable def o235 (P : Params) : Obj := Obj.mk (Value.type "dict") (Option.none) (Data.dict #[(DictEntry.mk (PyData.keyHash P "__module__") (Value.str "__module__" 386) (Value.str "raftkeep.keys" 320)), (DictEntry.mk (PyData.keyHash P "__firstlineno__") (Value.str "__firstlineno__" 390) (Value.int 68 389)), (DictEntry.mk (PyData.keyHash P "compare") (Value.str "compare" 399) (Value.ref 159)), (DictEntry.mk (PyData.keyHash P "separator") (Value.str "separator" 408) (Value.ref 166)), (DictEntry.mk (PyData.keyHash P "successor") (Value.str "successor" 416) (Value.ref 173)), (DictEntry.mk (PyData.keyHash P "name") (Value.str "name" 423) (Value.ref 180)), (DictEntry.mk (PyData.keyHash P "__static_attributes__") (Value.str "__static_attributes__" 424) (Value.ref 181)), (DictEntry.mk (PyData.keyHash P "__dict__") (Value.str "__dict__" 426) (Value.ref 184)), (DictEntry.mk (PyData.keyHash P "__weakref__") (Value.str "__weakref__" 428) (Value.ref 185)), (DictEntry.mk (PyData.keyHash P "__doc__") (Value.str "__doc__" 429) Value.none)] 4) #[]
noncomputable def o236 (P : Params) : Obj := Obj.mk (Value.type "type") (Option.none) (Data.cls (ClassData.mk "Order" [(Value.type "object")] [(Value.ref 183), (Value.type "object")] 182 "Order" Bool.true [] [] Bool.false (Option.none) Bool.false)) #[(Option.none), (Option.none), (Option.some (Value.str "Order" 379)), (Option.some (Value.str "Order" 387)), (Option.some (Value.builtin "object.__new__")), (Option.some (Value.bool Bool.true))]
noncomputable def o237 (P : Params) : Obj := Obj.mk (Value.type "getset_descriptor") (Option.none) (Data.fields #[(Value.str "__dict__" 425), (Value.ref 183), (Value.builtin "function.__dict__"), (Value.builtin "function.__dict__#set")]) #[]
noncomputable def o238 (P : Params) : Obj := Obj.mk (Value.type "getset_descriptor") (Option.none) (Data.fields #[(Value.str "__weakref__" 427), (Value.ref 183), (Value.builtin "ExceptionGroup.__weakref__"), Value.none]) #[]
noncomputable def o239 (P : Params) : Obj := Obj.mk (Value.type "super") (Option.none) (Data.fields #[(Value.ref 183), (Value.ref 183), (Value.ref 183)]) #[]
noncomputable def o240 (P : Params) : Obj := Obj.mk (Value.type "builtin_function_or_method") (Option.none) (Data.fields #[(Value.builtin "object.__init_subclass__"), (Value.ref 183)]) #[]
noncomputable def o241 (P : Params) : Obj := Obj.mk (Value.type "dict") (Option.none) (Data.dict #[(DictEntry.mk (PyData.keyHash P "__name__") (Value.str "__name__" 165) (Value.str "raftkeep.keys" 320)), (DictEntry.mk (PyData.keyHash P "__doc__") (Value.str "__doc__" 166) Value.none), (DictEntry.mk (PyData.keyHash P "__package__") (Value.str "__package__" 167) Value.none), (DictEntry.mk (PyData.keyHash P "__loader__") (Value.str "__loader__" 168) (Value.builtin "__main__.__loader__#opaque")), (DictEntry.mk (PyData.keyHash P "__spec__") (Value.str "__spec__" 169) Value.none), (DictEntry.mk (PyData.keyHash P "__annotations__") (Value.str "__annotations__" 170) (Value.ref 6)), (DictEntry.mk (PyData.keyHash P "__builtins__") (Value.str "__builtins__" 171) (Value.ref 4)), (DictEntry.mk (PyData.keyHash P "__file__") (Value.str "__file__" 173) (Value.str "/claim/cut.py" 172)), (DictEntry.mk (PyData.keyHash P "__cached__") (Value.str "__cached__" 174) Value.none), (DictEntry.mk (PyData.keyHash P "_wall") (Value.str "_wall" 193) (Value.ref 21)), (DictEntry.mk (PyData.keyHash P "KeepError") (Value.str "KeepError" 215) (Value.ref 31)), (DictEntry.mk (PyData.keyHash P "StoreError") (Value.str "StoreError" 231) (Value.ref 44)), (DictEntry.mk (PyData.keyHash P "Corrupt") (Value.str "Corrupt" 247) (Value.ref 56)), (DictEntry.mk (PyData.keyHash P "ShortOctets") (Value.str "ShortOctets" 263) (Value.ref 68)), (DictEntry.mk (PyData.keyHash P "BadOption") (Value.str "BadOption" 279) (Value.ref 80)), (DictEntry.mk (PyData.keyHash P "MAX_32") (Value.str "MAX_32" 283) (Value.int 4294967295 282)), (DictEntry.mk (PyData.keyHash P "MAX_64") (Value.str "MAX_64" 285) (Value.int 18446744073709551615 284)), (DictEntry.mk (PyData.keyHash P "CHECK_CRC") (Value.str "CHECK_CRC" 287) (Value.int 1 286)), (DictEntry.mk (PyData.keyHash P "CHECK_SUM") (Value.str "CHECK_SUM" 289) (Value.int 2 288)), (DictEntry.mk (PyData.keyHash P "put_fixed32") (Value.str "put_fixed32" 296) (Value.ref 89)), (DictEntry.mk (PyData.keyHash P "put_fixed64") (Value.str "put_fixed64" 303) (Value.ref 96)), (DictEntry.mk (PyData.keyHash P "read_fixed32") (Value.str "read_fixed32" 311) (Value.ref 103)), (DictEntry.mk (PyData.keyHash P "read_fixed64") (Value.str "read_fixed64" 319) (Value.ref 110)), (DictEntry.mk (PyData.keyHash P "KIND_DELETE") (Value.str "KIND_DELETE" 323) (Value.int 0 322)), (DictEntry.mk (PyData.keyHash P "KIND_VALUE") (Value.str "KIND_VALUE" 325) (Value.int 1 324)), (DictEntry.mk (PyData.keyHash P "KIND_SEEK") (Value.str "KIND_SEEK" 327) (Value.int 1 326)), (DictEntry.mk (PyData.keyHash P "MAX_SEQ") (Value.str "MAX_SEQ" 329) (Value.int 72057594037927935 328)), (DictEntry.mk (PyData.keyHash P "TAG_LENGTH") (Value.str "TAG_LENGTH" 331) (Value.int 8 330)), (DictEntry.mk (PyData.keyHash P "LEAST_BLOCK") (Value.str "LEAST_BLOCK" 333) (Value.int 8 332)), (DictEntry.mk (PyData.keyHash P "MOST_BLOCK") (Value.str "MOST_BLOCK" 335) (Value.int 65542 334)), (DictEntry.mk (PyData.keyHash P "MOST_LEVELS") (Value.str "MOST_LEVELS" 337) (Value.int 12 336)), (DictEntry.mk (PyData.keyHash P "pack_tag") (Value.str "pack_tag" 345) (Value.ref 117)), (DictEntry.mk (PyData.keyHash P "make_ikey") (Value.str "make_ikey" 354) (Value.ref 124)), (DictEntry.mk (PyData.keyHash P "split_ikey") (Value.str "split_ikey" 364) (Value.ref 131)), (DictEntry.mk (PyData.keyHash P "user_of") (Value.str "user_of" 371) (Value.ref 138)), (DictEntry.mk (PyData.keyHash P "tag_of") (Value.str "tag_of" 378) (Value.ref 145)), (DictEntry.mk (PyData.keyHash P "Order") (Value.str "Order" 431) (Value.ref 183)), (DictEntry.mk (PyData.keyHash P "BytesOrder") (Value.str "BytesOrder" 471) (Value.ref 218))] 38) #[]
noncomputable def o242 (P : Params) : Obj := Obj.mk Value.none (Option.none) (Data.fields #[(Value.int 1 0), (Value.int 0 0), (Value.ref 20), (Value.int 5 0), (Value.int 0 0), (Value.ref 27), (Value.int 7 0), (Value.int 0 0), (Value.ref 40), (Value.int 9 0), (Value.int 0 0), (Value.ref 52), (Value.int 11 0), (Value.int 0 0), (Value.ref 64), (Value.int 13 0), (Value.int 0 0), (Value.ref 76), (Value.int 20 0), (Value.int 0 0), (Value.ref 88), (Value.int 24 0), (Value.int 0 0), (Value.ref 95), (Value.int 28 0), (Value.int 0 0), (Value.ref 102), (Value.int 32 0), (Value.int 0 0), (Value.ref 109), (Value.int 45 0), (Value.int 0 0), (Value.ref 116), (Value.int 51 0), (Value.int 0 0), (Value.ref 123), (Value.int 53 0), (Value.int 0 0), (Value.ref 130), (Value.int 60 0), (Value.int 0 0), (Value.ref 137), (Value.int 64 0), (Value.int 0 0), (Value.ref 144), (Value.int 68 0), (Value.int 0 0), (Value.ref 151), (Value.int 85 0), (Value.int 0 0), (Value.ref 193)]) #[]
noncomputable def o243 (P : Params) : Obj := Obj.mk (Value.type "type") (Option.none) (Data.cls (ClassData.mk "Order" [(Value.type "object")] [(Value.ref 183), (Value.type "object")] 182 "Order" Bool.true [] [(Value.ref 218)] Bool.false (Option.none) Bool.false)) #[(Option.none), (Option.none), (Option.some (Value.str "Order" 379)), (Option.some (Value.str "Order" 387)), (Option.some (Value.builtin "object.__new__")), (Option.some (Value.bool Bool.true))]
noncomputable def o244 (P : Params) : Obj := Obj.mk (Value.type "tuple") (Option.none) (Data.seq #[(Value.ref 183)] 0) #[]
noncomputable def o245 (P : Params) : Obj := Obj.mk (Value.type "builtin_function_or_method") (Option.none) (Data.fields #[(Value.builtin "type.__prepare__"), (Value.type "type")]) #[]
noncomputable def o246 (P : Params) : Obj := Obj.mk (Value.type "dict") (Option.none) (Data.dict #[(DictEntry.mk (PyData.keyHash P "__module__") (Value.str "__module__" 439) (Value.str "raftkeep.keys" 320)), (DictEntry.mk (PyData.keyHash P "__qualname__") (Value.str "__qualname__" 441) (Value.str "BytesOrder" 440)), (DictEntry.mk (PyData.keyHash P "__firstlineno__") (Value.str "__firstlineno__" 443) (Value.int 85 442)), (DictEntry.mk (PyData.keyHash P "separator") (Value.str "separator" 452) (Value.ref 201)), (DictEntry.mk (PyData.keyHash P "successor") (Value.str "successor" 460) (Value.ref 208)), (DictEntry.mk (PyData.keyHash P "name") (Value.str "name" 467) (Value.ref 215)), (DictEntry.mk (PyData.keyHash P "__static_attributes__") (Value.str "__static_attributes__" 468) (Value.ref 216))] 7) #[]
noncomputable def o247 (P : Params) : Obj := Obj.mk (Value.type "tuple") (Option.none) (Data.seq #[] 0) #[]
noncomputable def o248 (P : Params) : Obj := Obj.mk Value.none (Option.none) (Data.fields #[(Value.int 87 0), (Value.int 4 0), (Value.ref 200), (Value.int 90 0), (Value.int 4 0), (Value.ref 207), (Value.int 93 0), (Value.int 4 0), (Value.ref 214)]) #[]
noncomputable def o249 (P : Params) : Obj := Obj.mk (Value.type "code") (Option.none) (Data.fields #[(Value.str "BytesOrder" 434), (Value.str "BytesOrder" 435), (Value.str "/claim/cut.py" 436), (Value.int 85 0), (Value.int 0 0), (Value.int 0 0), (Value.int 0 0), (Value.int 0 0), (Value.ref 191), (Value.bool Bool.false), (Value.int 181 0), (Value.ref 192), Value.none, Value.none, Value.none, Value.none, (Value.int 437 0), (Value.int 85 0), (Value.str "/claim/cut.py" 438)]) #[]
noncomputable def o250 (P : Params) : Obj := Obj.mk (Value.type "frame") (Option.none) Data.plain #[(Option.some (Value.ref 193)), (Option.some (Value.ref 3)), (Option.some (Value.ref 190)), (Option.none), (Option.some (Value.str "raftkeep.keys" 320)), (Option.none), (Option.some (Value.ref 0))]
noncomputable def o251 (P : Params) : Obj := Obj.mk (Value.type "tuple") (Option.none) (Data.seq #[] 0) #[]
noncomputable def o252 (P : Params) : Obj := Obj.mk Value.none (Option.none) (Data.fields #[]) #[]
noncomputable def o253 (P : Params) : Obj := Obj.mk (Value.type "tuple") (Option.none) (Data.seq #[(Value.str "self" 447), (Value.str "a" 448), (Value.str "b" 449)] 0) #[]
noncomputable def o254 (P : Params) : Obj := Obj.mk (Value.type "tuple") (Option.none) (Data.seq #[] 0) #[]
noncomputable def o255 (P : Params) : Obj := Obj.mk Value.none (Option.none) (Data.func fp28.1) #[]
noncomputable def o256 (P : Params) : Obj := Obj.mk (Value.type "code") (Option.none) (Data.fields #[(Value.str "separator" 444), (Value.str "BytesOrder.separator" 445), (Value.str "/claim/cut.py" 446), (Value.int 87 0), (Value.int 3 0), (Value.int 0 0), (Value.int 0 0), (Value.int 3 0), (Value.ref 195), (Value.bool Bool.true), (Value.int 181 0), (Value.ref 196), Value.none, (Value.ref 197), (Value.ref 198), (Value.ref 199), (Value.int 450 0), (Value.int 87 0), (Value.str "/claim/cut.py" 451)]) #[]
noncomputable def o257 (P : Params) : Obj := Obj.mk (Value.type "function") (Option.none) (Data.func fp29.1) #[]
noncomputable def o258 (P : Params) : Obj := Obj.mk (Value.type "tuple") (Option.none) (Data.seq #[] 0) #[]
noncomputable def o259 (P : Params) : Obj := Obj.mk Value.none (Option.none) (Data.fields #[]) #[]
noncomputable def o260 (P : Params) : Obj := Obj.mk (Value.type "tuple") (Option.none) (Data.seq #[(Value.str "self" 456), (Value.str "a" 457)] 0) #[]
noncomputable def o261 (P : Params) : Obj := Obj.mk (Value.type "tuple") (Option.none) (Data.seq #[] 0) #[]
noncomputable def o262 (P : Params) : Obj := Obj.mk Value.none (Option.none) (Data.func fp30.1) #[]
noncomputable def o263 (P : Params) : Obj := Obj.mk (Value.type "code") (Option.none) (Data.fields #[(Value.str "successor" 453), (Value.str "BytesOrder.successor" 454), (Value.str "/claim/cut.py" 455), (Value.int 90 0), (Value.int 2 0), (Value.int 0 0), (Value.int 0 0), (Value.int 3 0), (Value.ref 202), (Value.bool Bool.true), (Value.int 181 0), (Value.ref 203), Value.none, (Value.ref 204), (Value.ref 205), (Value.ref 206), (Value.int 458 0), (Value.int 90 0), (Value.str "/claim/cut.py" 459)]) #[]
noncomputable def o264 (P : Params) : Obj := Obj.mk (Value.type "function") (Option.none) (Data.func fp31.1) #[]
noncomputable def o265 (P : Params) : Obj := Obj.mk (Value.type "tuple") (Option.none) (Data.seq #[] 0) #[]
noncomputable def o266 (P : Params) : Obj := Obj.mk Value.none (Option.none) (Data.fields #[]) #[]
noncomputable def o267 (P : Params) : Obj := Obj.mk (Value.type "tuple") (Option.none) (Data.seq #[(Value.str "self" 464)] 0) #[]
noncomputable def o268 (P : Params) : Obj := Obj.mk (Value.type "tuple") (Option.none) (Data.seq #[] 0) #[]
noncomputable def o269 (P : Params) : Obj := Obj.mk Value.none (Option.none) (Data.func fp32.1) #[]
noncomputable def o270 (P : Params) : Obj := Obj.mk (Value.type "code") (Option.none) (Data.fields #[(Value.str "name" 461), (Value.str "BytesOrder.name" 462), (Value.str "/claim/cut.py" 463), (Value.int 93 0), (Value.int 1 0), (Value.int 0 0), (Value.int 0 0), (Value.int 3 0), (Value.ref 209), (Value.bool Bool.true), (Value.int 181 0), (Value.ref 210), Value.none, (Value.ref 211), (Value.ref 212), (Value.ref 213), (Value.int 465 0), (Value.int 93 0), (Value.str "/claim/cut.py" 466)]) #[]
noncomputable def o271 (P : Params) : Obj := Obj.mk (Value.type "function") (Option.none) (Data.func fp33.1) #[]
noncomputable def o272 (P : Params) : Obj := Obj.mk (Value.type "tuple") (Option.none) (Data.seq #[] 0) #[]
noncomputable def o273 (P : Params) : Obj := Obj.mk (Value.type "dict") (Option.none) (Data.dict #[(DictEntry.mk (PyData.keyHash P "__module__") (Value.str "__module__" 439) (Value.str "raftkeep.keys" 320)), (DictEntry.mk (PyData.keyHash P "__firstlineno__") (Value.str "__firstlineno__" 443) (Value.int 85 442)), (DictEntry.mk (PyData.keyHash P "separator") (Value.str "separator" 452) (Value.ref 201)), (DictEntry.mk (PyData.keyHash P "successor") (Value.str "successor" 460) (Value.ref 208)), (DictEntry.mk (PyData.keyHash P "name") (Value.str "name" 467) (Value.ref 215)), (DictEntry.mk (PyData.keyHash P "__static_attributes__") (Value.str "__static_attributes__" 468) (Value.ref 216)), (DictEntry.mk (PyData.keyHash P "__doc__") (Value.str "__doc__" 469) Value.none)] 2) #[]
noncomputable def o274 (P : Params) : Obj := Obj.mk (Value.type "type") (Option.none) (Data.cls (ClassData.mk "BytesOrder" [(Value.ref 183)] [(Value.ref 218), (Value.ref 183), (Value.type "object")] 217 "BytesOrder" Bool.true [] [] Bool.false (Option.none) Bool.false)) #[(Option.some (Value.ref 188)), (Option.none), (Option.some (Value.str "BytesOrder" 432)), (Option.some (Value.str "BytesOrder" 440)), (Option.some (Value.builtin "object.__new__")), (Option.some (Value.bool Bool.true))]
noncomputable def o275 (P : Params) : Obj := Obj.mk (Value.type "super") (Option.none) (Data.fields #[(Value.ref 218), (Value.ref 218), (Value.ref 218)]) #[]
noncomputable def o276 (P : Params) : Obj := Obj.mk (Value.type "builtin_function_or_method") (Option.none) (Data.fields #[(Value.builtin "object.__init_subclass__"), (Value.ref 218)]) #[]
noncomputable def o277 (P : Params) : Obj := Obj.mk (Value.type "dict") (Option.none) (Data.dict #[(DictEntry.mk (PyData.keyHash P "__name__") (Value.str "__name__" 165) (Value.str "raftkeep.keys" 320)), (DictEntry.mk (PyData.keyHash P "__doc__") (Value.str "__doc__" 166) Value.none), (DictEntry.mk (PyData.keyHash P "__package__") (Value.str "__package__" 167) Value.none), (DictEntry.mk (PyData.keyHash P "__loader__") (Value.str "__loader__" 168) (Value.builtin "__main__.__loader__#opaque")), (DictEntry.mk (PyData.keyHash P "__spec__") (Value.str "__spec__" 169) Value.none), (DictEntry.mk (PyData.keyHash P "__annotations__") (Value.str "__annotations__" 170) (Value.ref 6)), (DictEntry.mk (PyData.keyHash P "__builtins__") (Value.str "__builtins__" 171) (Value.ref 4)), (DictEntry.mk (PyData.keyHash P "__file__") (Value.str "__file__" 173) (Value.str "/claim/cut.py" 172)), (DictEntry.mk (PyData.keyHash P "__cached__") (Value.str "__cached__" 174) Value.none), (DictEntry.mk (PyData.keyHash P "_wall") (Value.str "_wall" 193) (Value.ref 21)), (DictEntry.mk (PyData.keyHash P "KeepError") (Value.str "KeepError" 215) (Value.ref 31)), (DictEntry.mk (PyData.keyHash P "StoreError") (Value.str "StoreError" 231) (Value.ref 44)), (DictEntry.mk (PyData.keyHash P "Corrupt") (Value.str "Corrupt" 247) (Value.ref 56)), (DictEntry.mk (PyData.keyHash P "ShortOctets") (Value.str "ShortOctets" 263) (Value.ref 68)), (DictEntry.mk (PyData.keyHash P "BadOption") (Value.str "BadOption" 279) (Value.ref 80)), (DictEntry.mk (PyData.keyHash P "MAX_32") (Value.str "MAX_32" 283) (Value.int 4294967295 282)), (DictEntry.mk (PyData.keyHash P "MAX_64") (Value.str "MAX_64" 285) (Value.int 18446744073709551615 284)), (DictEntry.mk (PyData.keyHash P "CHECK_CRC") (Value.str "CHECK_CRC" 287) (Value.int 1 286)), (DictEntry.mk (PyData.keyHash P "CHECK_SUM") (Value.str "CHECK_SUM" 289) (Value.int 2 288)), (DictEntry.mk (PyData.keyHash P "put_fixed32") (Value.str "put_fixed32" 296) (Value.ref 89)), (DictEntry.mk (PyData.keyHash P "put_fixed64") (Value.str "put_fixed64" 303) (Value.ref 96)), (DictEntry.mk (PyData.keyHash P "read_fixed32") (Value.str "read_fixed32" 311) (Value.ref 103)), (DictEntry.mk (PyData.keyHash P "read_fixed64") (Value.str "read_fixed64" 319) (Value.ref 110)), (DictEntry.mk (PyData.keyHash P "KIND_DELETE") (Value.str "KIND_DELETE" 323) (Value.int 0 322)), (DictEntry.mk (PyData.keyHash P "KIND_VALUE") (Value.str "KIND_VALUE" 325) (Value.int 1 324)), (DictEntry.mk (PyData.keyHash P "KIND_SEEK") (Value.str "KIND_SEEK" 327) (Value.int 1 326)), (DictEntry.mk (PyData.keyHash P "MAX_SEQ") (Value.str "MAX_SEQ" 329) (Value.int 72057594037927935 328)), (DictEntry.mk (PyData.keyHash P "TAG_LENGTH") (Value.str "TAG_LENGTH" 331) (Value.int 8 330)), (DictEntry.mk (PyData.keyHash P "LEAST_BLOCK") (Value.str "LEAST_BLOCK" 333) (Value.int 8 332)), (DictEntry.mk (PyData.keyHash P "MOST_BLOCK") (Value.str "MOST_BLOCK" 335) (Value.int 65542 334)), (DictEntry.mk (PyData.keyHash P "MOST_LEVELS") (Value.str "MOST_LEVELS" 337) (Value.int 12 336)), (DictEntry.mk (PyData.keyHash P "pack_tag") (Value.str "pack_tag" 345) (Value.ref 117)), (DictEntry.mk (PyData.keyHash P "make_ikey") (Value.str "make_ikey" 354) (Value.ref 124)), (DictEntry.mk (PyData.keyHash P "split_ikey") (Value.str "split_ikey" 364) (Value.ref 131)), (DictEntry.mk (PyData.keyHash P "user_of") (Value.str "user_of" 371) (Value.ref 138)), (DictEntry.mk (PyData.keyHash P "tag_of") (Value.str "tag_of" 378) (Value.ref 145)), (DictEntry.mk (PyData.keyHash P "Order") (Value.str "Order" 431) (Value.ref 183)), (DictEntry.mk (PyData.keyHash P "BytesOrder") (Value.str "BytesOrder" 471) (Value.ref 218)), (DictEntry.mk (PyData.keyHash P "InternalOrder") (Value.str "InternalOrder" 541) (Value.ref 272))] 39) #[]
noncomputable def o278 (P : Params) : Obj := Obj.mk Value.none (Option.none) (Data.fields #[(Value.int 1 0), (Value.int 0 0), (Value.ref 20), (Value.int 5 0), (Value.int 0 0), (Value.ref 27), (Value.int 7 0), (Value.int 0 0), (Value.ref 40), (Value.int 9 0), (Value.int 0 0), (Value.ref 52), (Value.int 11 0), (Value.int 0 0), (Value.ref 64), (Value.int 13 0), (Value.int 0 0), (Value.ref 76), (Value.int 20 0), (Value.int 0 0), (Value.ref 88), (Value.int 24 0), (Value.int 0 0), (Value.ref 95), (Value.int 28 0), (Value.int 0 0), (Value.ref 102), (Value.int 32 0), (Value.int 0 0), (Value.ref 109), (Value.int 45 0), (Value.int 0 0), (Value.ref 116), (Value.int 51 0), (Value.int 0 0), (Value.ref 123), (Value.int 53 0), (Value.int 0 0), (Value.ref 130), (Value.int 60 0), (Value.int 0 0), (Value.ref 137), (Value.int 64 0), (Value.int 0 0), (Value.ref 144), (Value.int 68 0), (Value.int 0 0), (Value.ref 151), (Value.int 85 0), (Value.int 0 0), (Value.ref 193), (Value.int 95 0), (Value.int 0 0), (Value.ref 226)]) #[]
noncomputable def o279 (P : Params) : Obj := Obj.mk (Value.type "type") (Option.none) (Data.cls (ClassData.mk "Order" [(Value.type "object")] [(Value.ref 183), (Value.type "object")] 182 "Order" Bool.true [] [(Value.ref 218), (Value.ref 272)] Bool.false (Option.none) Bool.false)) #[(Option.none), (Option.none), (Option.some (Value.str "Order" 379)), (Option.some (Value.str "Order" 387)), (Option.some (Value.builtin "object.__new__")), (Option.some (Value.bool Bool.true))]
noncomputable def o280 (P : Params) : Obj := Obj.mk (Value.type "tuple") (Option.none) (Data.seq #[(Value.ref 183)] 0) #[]
noncomputable def o281 (P : Params) : Obj := Obj.mk (Value.type "builtin_function_or_method") (Option.none) (Data.fields #[(Value.builtin "type.__prepare__"), (Value.type "type")]) #[]
noncomputable def o282 (P : Params) : Obj := Obj.mk (Value.type "dict") (Option.none) (Data.dict #[(DictEntry.mk (PyData.keyHash P "__module__") (Value.str "__module__" 479) (Value.str "raftkeep.keys" 320)), (DictEntry.mk (PyData.keyHash P "__qualname__") (Value.str "__qualname__" 481) (Value.str "InternalOrder" 480)), (DictEntry.mk (PyData.keyHash P "__firstlineno__") (Value.str "__firstlineno__" 483) (Value.int 95 482)), (DictEntry.mk (PyData.keyHash P "__init__") (Value.str "__init__" 490) (Value.ref 234)), (DictEntry.mk (PyData.keyHash P "compare") (Value.str "compare" 502) (Value.ref 241)), (DictEntry.mk (PyData.keyHash P "dress") (Value.str "dress" 512) (Value.ref 248)), (DictEntry.mk (PyData.keyHash P "separator") (Value.str "separator" 521) (Value.ref 255)), (DictEntry.mk (PyData.keyHash P "successor") (Value.str "successor" 529) (Value.ref 262)), (DictEntry.mk (PyData.keyHash P "name") (Value.str "name" 536) (Value.ref 269)), (DictEntry.mk (PyData.keyHash P "__static_attributes__") (Value.str "__static_attributes__" 538) (Value.ref 270))] 10) #[]
noncomputable def o283 (P : Params) : Obj := Obj.mk (Value.type "tuple") (Option.none) (Data.seq #[] 0) #[]
noncomputable def o284 (P : Params) : Obj := Obj.mk Value.none (Option.none) (Data.fields #[(Value.int 97 0), (Value.int 4 0), (Value.ref 233), (Value.int 100 0), (Value.int 4 0), (Value.ref 240), (Value.int 112 0), (Value.int 4 0), (Value.ref 247), (Value.int 115 0), (Value.int 4 0), (Value.ref 254), (Value.int 118 0), (Value.int 4 0), (Value.ref 261), (Value.int 121 0), (Value.int 4 0), (Value.ref 268)]) #[]
noncomputable def o285 (P : Params) : Obj := Obj.mk (Value.type "code") (Option.none) (Data.fields #[(Value.str "InternalOrder" 474), (Value.str "InternalOrder" 475), (Value.str "/claim/cut.py" 476), (Value.int 95 0), (Value.int 0 0), (Value.int 0 0), (Value.int 0 0), (Value.int 0 0), (Value.ref 224), (Value.bool Bool.false), (Value.int 181 0), (Value.ref 225), Value.none, Value.none, Value.none, Value.none, (Value.int 477 0), (Value.int 95 0), (Value.str "/claim/cut.py" 478)]) #[]
noncomputable def o286 (P : Params) : Obj := Obj.mk (Value.type "frame") (Option.none) Data.plain #[(Option.some (Value.ref 226)), (Option.some (Value.ref 3)), (Option.some (Value.ref 223)), (Option.none), (Option.some (Value.str "raftkeep.keys" 320)), (Option.none), (Option.some (Value.ref 0))]
noncomputable def o287 (P : Params) : Obj := Obj.mk (Value.type "tuple") (Option.none) (Data.seq #[] 0) #[]
noncomputable def o288 (P : Params) : Obj := Obj.mk Value.none (Option.none) (Data.fields #[]) #[]
noncomputable def o289 (P : Params) : Obj := Obj.mk (Value.type "tuple") (Option.none) (Data.seq #[(Value.str "self" 487)] 0) #[]
noncomputable def o290 (P : Params) : Obj := Obj.mk (Value.type "tuple") (Option.none) (Data.seq #[] 0) #[]
noncomputable def o291 (P : Params) : Obj := Obj.mk Value.none (Option.none) (Data.func fp34.1) #[]
noncomputable def o292 (P : Params) : Obj := Obj.mk (Value.type "code") (Option.none) (Data.fields #[(Value.str "__init__" 484), (Value.str "InternalOrder.__init__" 485), (Value.str "/claim/cut.py" 486), (Value.int 97 0), (Value.int 1 0), (Value.int 0 0), (Value.int 0 0), (Value.int 3 0), (Value.ref 228), (Value.bool Bool.true), (Value.int 181 0), (Value.ref 229), Value.none, (Value.ref 230), (Value.ref 231), (Value.ref 232), (Value.int 488 0), (Value.int 97 0), (Value.str "/claim/cut.py" 489)]) #[]
noncomputable def o293 (P : Params) : Obj := Obj.mk (Value.type "function") (Option.none) (Data.func fp35.1) #[]
noncomputable def o294 (P : Params) : Obj := Obj.mk (Value.type "tuple") (Option.none) (Data.seq #[] 0) #[]
noncomputable def o295 (P : Params) : Obj := Obj.mk Value.none (Option.none) (Data.fields #[]) #[]
noncomputable def o296 (P : Params) : Obj := Obj.mk (Value.type "tuple") (Option.none) (Data.seq #[(Value.str "self" 494), (Value.str "a" 495), (Value.str "b" 496), (Value.str "c" 497), (Value.str "tag_a" 498), (Value.str "tag_b" 499)] 0) #[]
noncomputable def o297 (P : Params) : Obj := Obj.mk (Value.type "tuple") (Option.none) (Data.seq #[] 0) #[]
noncomputable def o298 (P : Params) : Obj := Obj.mk Value.none (Option.none) (Data.func fp36.1) #[]
noncomputable def o299 (P : Params) : Obj := Obj.mk (Value.type "code") (Option.none) (Data.fields #[(Value.str "compare" 491), (Value.str "InternalOrder.compare" 492), (Value.str "/claim/cut.py" 493), (Value.int 100 0), (Value.int 3 0), (Value.int 0 0), (Value.int 0 0), (Value.int 3 0), (Value.ref 235), (Value.bool Bool.true), (Value.int 181 0), (Value.ref 236), Value.none, (Value.ref 237), (Value.ref 238), (Value.ref 239), (Value.int 500 0), (Value.int 100 0), (Value.str "/claim/cut.py" 501)]) #[]
noncomputable def o300 (P : Params) : Obj := Obj.mk (Value.type "function") (Option.none) (Data.func fp37.1) #[]
noncomputable def o301 (P : Params) : Obj := Obj.mk (Value.type "tuple") (Option.none) (Data.seq #[] 0) #[]
noncomputable def o302 (P : Params) : Obj := Obj.mk Value.none (Option.none) (Data.fields #[]) #[]
noncomputable def o303 (P : Params) : Obj := Obj.mk (Value.type "tuple") (Option.none) (Data.seq #[(Value.str "self" 506), (Value.str "a" 507), (Value.str "user" 508), (Value.str "short" 509)] 0) #[]
noncomputable def o304 (P : Params) : Obj := Obj.mk (Value.type "tuple") (Option.none) (Data.seq #[] 0) #[]
noncomputable def o305 (P : Params) : Obj := Obj.mk Value.none (Option.none) (Data.func fp38.1) #[]
noncomputable def o306 (P : Params) : Obj := Obj.mk (Value.type "code") (Option.none) (Data.fields #[(Value.str "dress" 503), (Value.str "InternalOrder.dress" 504), (Value.str "/claim/cut.py" 505), (Value.int 112 0), (Value.int 4 0), (Value.int 0 0), (Value.int 0 0), (Value.int 3 0), (Value.ref 242), (Value.bool Bool.true), (Value.int 181 0), (Value.ref 243), Value.none, (Value.ref 244), (Value.ref 245), (Value.ref 246), (Value.int 510 0), (Value.int 112 0), (Value.str "/claim/cut.py" 511)]) #[]
noncomputable def o307 (P : Params) : Obj := Obj.mk (Value.type "function") (Option.none) (Data.func fp39.1) #[]
noncomputable def o308 (P : Params) : Obj := Obj.mk (Value.type "tuple") (Option.none) (Data.seq #[] 0) #[]
noncomputable def o309 (P : Params) : Obj := Obj.mk Value.none (Option.none) (Data.fields #[]) #[]
noncomputable def o310 (P : Params) : Obj := Obj.mk (Value.type "tuple") (Option.none) (Data.seq #[(Value.str "self" 516), (Value.str "a" 517), (Value.str "b" 518)] 0) #[]
noncomputable def o311 (P : Params) : Obj := Obj.mk (Value.type "tuple") (Option.none) (Data.seq #[] 0) #[]
noncomputable def o312 (P : Params) : Obj := Obj.mk Value.none (Option.none) (Data.func fp40.1) #[]
noncomputable def o313 (P : Params) : Obj := Obj.mk (Value.type "code") (Option.none) (Data.fields #[(Value.str "separator" 513), (Value.str "InternalOrder.separator" 514), (Value.str "/claim/cut.py" 515), (Value.int 115 0), (Value.int 3 0), (Value.int 0 0), (Value.int 0 0), (Value.int 3 0), (Value.ref 249), (Value.bool Bool.true), (Value.int 181 0), (Value.ref 250), Value.none, (Value.ref 251), (Value.ref 252), (Value.ref 253), (Value.int 519 0), (Value.int 115 0), (Value.str "/claim/cut.py" 520)]) #[]
noncomputable def o314 (P : Params) : Obj := Obj.mk (Value.type "function") (Option.none) (Data.func fp41.1) #[]
noncomputable def o315 (P : Params) : Obj := Obj.mk (Value.type "tuple") (Option.none) (Data.seq #[] 0) #[]
noncomputable def o316 (P : Params) : Obj := Obj.mk Value.none (Option.none) (Data.fields #[]) #[]
noncomputable def o317 (P : Params) : Obj := Obj.mk (Value.type "tuple") (Option.none) (Data.seq #[(Value.str "self" 525), (Value.str "a" 526)] 0) #[]
noncomputable def o318 (P : Params) : Obj := Obj.mk (Value.type "tuple") (Option.none) (Data.seq #[] 0) #[]
noncomputable def o319 (P : Params) : Obj := Obj.mk Value.none (Option.none) (Data.func fp42.1) #[]
noncomputable def o320 (P : Params) : Obj := Obj.mk (Value.type "code") (Option.none) (Data.fields #[(Value.str "successor" 522), (Value.str "InternalOrder.successor" 523), (Value.str "/claim/cut.py" 524), (Value.int 118 0), (Value.int 2 0), (Value.int 0 0), (Value.int 0 0), (Value.int 3 0), (Value.ref 256), (Value.bool Bool.true), (Value.int 181 0), (Value.ref 257), Value.none, (Value.ref 258), (Value.ref 259), (Value.ref 260), (Value.int 527 0), (Value.int 118 0), (Value.str "/claim/cut.py" 528)]) #[]
noncomputable def o321 (P : Params) : Obj := Obj.mk (Value.type "function") (Option.none) (Data.func fp43.1) #[]
noncomputable def o322 (P : Params) : Obj := Obj.mk (Value.type "tuple") (Option.none) (Data.seq #[] 0) #[]
noncomputable def o323 (P : Params) : Obj := Obj.mk Value.none (Option.none) (Data.fields #[]) #[]
noncomputable def o324 (P : Params) : Obj := Obj.mk (Value.type "tuple") (Option.none) (Data.seq #[(Value.str "self" 533)] 0) #[]
noncomputable def o325 (P : Params) : Obj := Obj.mk (Value.type "tuple") (Option.none) (Data.seq #[] 0) #[]
noncomputable def o326 (P : Params) : Obj := Obj.mk Value.none (Option.none) (Data.func fp44.1) #[]
noncomputable def o327 (P : Params) : Obj := Obj.mk (Value.type "code") (Option.none) (Data.fields #[(Value.str "name" 530), (Value.str "InternalOrder.name" 531), (Value.str "/claim/cut.py" 532), (Value.int 121 0), (Value.int 1 0), (Value.int 0 0), (Value.int 0 0), (Value.int 3 0), (Value.ref 263), (Value.bool Bool.true), (Value.int 181 0), (Value.ref 264), Value.none, (Value.ref 265), (Value.ref 266), (Value.ref 267), (Value.int 534 0), (Value.int 121 0), (Value.str "/claim/cut.py" 535)]) #[]
noncomputable def o328 (P : Params) : Obj := Obj.mk (Value.type "function") (Option.none) (Data.func fp45.1) #[]
noncomputable def o329 (P : Params) : Obj := Obj.mk (Value.type "tuple") (Option.none) (Data.seq #[(Value.str "user_order" 537)] 0) #[]
noncomputable def o330 (P : Params) : Obj := Obj.mk (Value.type "dict") (Option.none) (Data.dict #[(DictEntry.mk (PyData.keyHash P "__module__") (Value.str "__module__" 479) (Value.str "raftkeep.keys" 320)), (DictEntry.mk (PyData.keyHash P "__firstlineno__") (Value.str "__firstlineno__" 483) (Value.int 95 482)), (DictEntry.mk (PyData.keyHash P "__init__") (Value.str "__init__" 490) (Value.ref 234)), (DictEntry.mk (PyData.keyHash P "compare") (Value.str "compare" 502) (Value.ref 241)), (DictEntry.mk (PyData.keyHash P "dress") (Value.str "dress" 512) (Value.ref 248)), (DictEntry.mk (PyData.keyHash P "separator") (Value.str "separator" 521) (Value.ref 255)), (DictEntry.mk (PyData.keyHash P "successor") (Value.str "successor" 529) (Value.ref 262)), (DictEntry.mk (PyData.keyHash P "name") (Value.str "name" 536) (Value.ref 269)), (DictEntry.mk (PyData.keyHash P "__static_attributes__") (Value.str "__static_attributes__" 538) (Value.ref 270)), (DictEntry.mk (PyData.keyHash P "__doc__") (Value.str "__doc__" 539) Value.none)] 2) #[]
noncomputable def o331 (P : Params) : Obj := Obj.mk (Value.type "type") (Option.none) (Data.cls (ClassData.mk "InternalOrder" [(Value.ref 183)] [(Value.ref 272), (Value.ref 183), (Value.type "object")] 271 "InternalOrder" Bool.true [] [] Bool.false (Option.none) Bool.false)) #[(Option.some (Value.ref 221)), (Option.none), (Option.some (Value.str "InternalOrder" 472)), (Option.some (Value.str "InternalOrder" 480)), (Option.some (Value.builtin "object.__new__")), (Option.some (Value.bool Bool.true))]
noncomputable def o332 (P : Params) : Obj := Obj.mk (Value.type "super") (Option.none) (Data.fields #[(Value.ref 272), (Value.ref 272), (Value.ref 272)]) #[]
noncomputable def o333 (P : Params) : Obj := Obj.mk (Value.type "builtin_function_or_method") (Option.none) (Data.fields #[(Value.builtin "object.__init_subclass__"), (Value.ref 272)]) #[]
noncomputable def o334 (P : Params) : Obj := Obj.mk (Value.type "dict") (Option.none) (Data.dict #[(DictEntry.mk (PyData.keyHash P "__name__") (Value.str "__name__" 165) (Value.str "raftkeep.versions" 619)), (DictEntry.mk (PyData.keyHash P "__doc__") (Value.str "__doc__" 166) Value.none), (DictEntry.mk (PyData.keyHash P "__package__") (Value.str "__package__" 167) Value.none), (DictEntry.mk (PyData.keyHash P "__loader__") (Value.str "__loader__" 168) (Value.builtin "__main__.__loader__#opaque")), (DictEntry.mk (PyData.keyHash P "__spec__") (Value.str "__spec__" 169) Value.none), (DictEntry.mk (PyData.keyHash P "__annotations__") (Value.str "__annotations__" 170) (Value.ref 6)), (DictEntry.mk (PyData.keyHash P "__builtins__") (Value.str "__builtins__" 171) (Value.ref 4)), (DictEntry.mk (PyData.keyHash P "__file__") (Value.str "__file__" 173) (Value.str "/claim/cut.py" 172)), (DictEntry.mk (PyData.keyHash P "__cached__") (Value.str "__cached__" 174) Value.none), (DictEntry.mk (PyData.keyHash P "_wall") (Value.str "_wall" 193) (Value.ref 21)), (DictEntry.mk (PyData.keyHash P "KeepError") (Value.str "KeepError" 215) (Value.ref 31)), (DictEntry.mk (PyData.keyHash P "StoreError") (Value.str "StoreError" 231) (Value.ref 44)), (DictEntry.mk (PyData.keyHash P "Corrupt") (Value.str "Corrupt" 247) (Value.ref 56)), (DictEntry.mk (PyData.keyHash P "ShortOctets") (Value.str "ShortOctets" 263) (Value.ref 68)), (DictEntry.mk (PyData.keyHash P "BadOption") (Value.str "BadOption" 279) (Value.ref 80)), (DictEntry.mk (PyData.keyHash P "MAX_32") (Value.str "MAX_32" 283) (Value.int 4294967295 282)), (DictEntry.mk (PyData.keyHash P "MAX_64") (Value.str "MAX_64" 285) (Value.int 18446744073709551615 284)), (DictEntry.mk (PyData.keyHash P "CHECK_CRC") (Value.str "CHECK_CRC" 287) (Value.int 1 286)), (DictEntry.mk (PyData.keyHash P "CHECK_SUM") (Value.str "CHECK_SUM" 289) (Value.int 2 288)), (DictEntry.mk (PyData.keyHash P "put_fixed32") (Value.str "put_fixed32" 296) (Value.ref 89)), (DictEntry.mk (PyData.keyHash P "put_fixed64") (Value.str "put_fixed64" 303) (Value.ref 96)), (DictEntry.mk (PyData.keyHash P "read_fixed32") (Value.str "read_fixed32" 311) (Value.ref 103)), (DictEntry.mk (PyData.keyHash P "read_fixed64") (Value.str "read_fixed64" 319) (Value.ref 110)), (DictEntry.mk (PyData.keyHash P "KIND_DELETE") (Value.str "KIND_DELETE" 323) (Value.int 0 322)), (DictEntry.mk (PyData.keyHash P "KIND_VALUE") (Value.str "KIND_VALUE" 325) (Value.int 1 324)), (DictEntry.mk (PyData.keyHash P "KIND_SEEK") (Value.str "KIND_SEEK" 327) (Value.int 1 326)), (DictEntry.mk (PyData.keyHash P "MAX_SEQ") (Value.str "MAX_SEQ" 329) (Value.int 72057594037927935 328)), (DictEntry.mk (PyData.keyHash P "TAG_LENGTH") (Value.str "TAG_LENGTH" 331) (Value.int 8 330)), (DictEntry.mk (PyData.keyHash P "LEAST_BLOCK") (Value.str "LEAST_BLOCK" 333) (Value.int 8 332)), (DictEntry.mk (PyData.keyHash P "MOST_BLOCK") (Value.str "MOST_BLOCK" 335) (Value.int 65542 334)), (DictEntry.mk (PyData.keyHash P "MOST_LEVELS") (Value.str "MOST_LEVELS" 337) (Value.int 12 336)), (DictEntry.mk (PyData.keyHash P "pack_tag") (Value.str "pack_tag" 345) (Value.ref 117)), (DictEntry.mk (PyData.keyHash P "make_ikey") (Value.str "make_ikey" 354) (Value.ref 124)), (DictEntry.mk (PyData.keyHash P "split_ikey") (Value.str "split_ikey" 364) (Value.ref 131)), (DictEntry.mk (PyData.keyHash P "user_of") (Value.str "user_of" 371) (Value.ref 138)), (DictEntry.mk (PyData.keyHash P "tag_of") (Value.str "tag_of" 378) (Value.ref 145)), (DictEntry.mk (PyData.keyHash P "Order") (Value.str "Order" 431) (Value.ref 183)), (DictEntry.mk (PyData.keyHash P "BytesOrder") (Value.str "BytesOrder" 471) (Value.ref 218)), (DictEntry.mk (PyData.keyHash P "InternalOrder") (Value.str "InternalOrder" 541) (Value.ref 272)), (DictEntry.mk (PyData.keyHash P "Options") (Value.str "Options" 609) (Value.ref 305)), (DictEntry.mk (PyData.keyHash P "check_heights") (Value.str "check_heights" 618) (Value.ref 316))] 41) #[]
noncomputable def o335 (P : Params) : Obj := Obj.mk Value.none (Option.none) (Data.fields #[(Value.int 1 0), (Value.int 0 0), (Value.ref 20), (Value.int 5 0), (Value.int 0 0), (Value.ref 27), (Value.int 7 0), (Value.int 0 0), (Value.ref 40), (Value.int 9 0), (Value.int 0 0), (Value.ref 52), (Value.int 11 0), (Value.int 0 0), (Value.ref 64), (Value.int 13 0), (Value.int 0 0), (Value.ref 76), (Value.int 20 0), (Value.int 0 0), (Value.ref 88), (Value.int 24 0), (Value.int 0 0), (Value.ref 95), (Value.int 28 0), (Value.int 0 0), (Value.ref 102), (Value.int 32 0), (Value.int 0 0), (Value.ref 109), (Value.int 45 0), (Value.int 0 0), (Value.ref 116), (Value.int 51 0), (Value.int 0 0), (Value.ref 123), (Value.int 53 0), (Value.int 0 0), (Value.ref 130), (Value.int 60 0), (Value.int 0 0), (Value.ref 137), (Value.int 64 0), (Value.int 0 0), (Value.ref 144), (Value.int 68 0), (Value.int 0 0), (Value.ref 151), (Value.int 85 0), (Value.int 0 0), (Value.ref 193), (Value.int 95 0), (Value.int 0 0), (Value.ref 226), (Value.int 123 0), (Value.int 0 0), (Value.ref 280), (Value.int 179 0), (Value.int 0 0), (Value.ref 315)]) #[]
noncomputable def o336 (P : Params) : Obj := Obj.mk (Value.type "tuple") (Option.none) (Data.seq #[] 0) #[]
noncomputable def o337 (P : Params) : Obj := Obj.mk (Value.type "builtin_function_or_method") (Option.none) (Data.fields #[(Value.builtin "type.__prepare__"), (Value.type "type")]) #[]
noncomputable def o338 (P : Params) : Obj := Obj.mk (Value.type "dict") (Option.none) (Data.dict #[(DictEntry.mk (PyData.keyHash P "__module__") (Value.str "__module__" 549) (Value.str "raftkeep.keys" 320)), (DictEntry.mk (PyData.keyHash P "__qualname__") (Value.str "__qualname__" 551) (Value.str "Options" 550)), (DictEntry.mk (PyData.keyHash P "__firstlineno__") (Value.str "__firstlineno__" 553) (Value.int 123 552)), (DictEntry.mk (PyData.keyHash P "__init__") (Value.str "__init__" 560) (Value.ref 288)), (DictEntry.mk (PyData.keyHash P "check_all") (Value.str "check_all" 573) (Value.ref 295)), (DictEntry.mk (PyData.keyHash P "tiny") (Value.str "tiny" 580) (Value.ref 302)), (DictEntry.mk (PyData.keyHash P "__static_attributes__") (Value.str "__static_attributes__" 602) (Value.ref 303))] 7) #[]
noncomputable def o339 (P : Params) : Obj := Obj.mk (Value.type "tuple") (Option.none) (Data.seq #[] 0) #[]
noncomputable def o340 (P : Params) : Obj := Obj.mk Value.none (Option.none) (Data.fields #[(Value.int 125 0), (Value.int 4 0), (Value.ref 287), (Value.int 148 0), (Value.int 4 0), (Value.ref 294), (Value.int 163 0), (Value.int 4 0), (Value.ref 301)]) #[]
noncomputable def o341 (P : Params) : Obj := Obj.mk (Value.type "code") (Option.none) (Data.fields #[(Value.str "Options" 544), (Value.str "Options" 545), (Value.str "/claim/cut.py" 546), (Value.int 123 0), (Value.int 0 0), (Value.int 0 0), (Value.int 0 0), (Value.int 0 0), (Value.ref 278), (Value.bool Bool.false), (Value.int 181 0), (Value.ref 279), Value.none, Value.none, Value.none, Value.none, (Value.int 547 0), (Value.int 123 0), (Value.str "/claim/cut.py" 548)]) #[]
noncomputable def o342 (P : Params) : Obj := Obj.mk (Value.type "frame") (Option.none) Data.plain #[(Option.some (Value.ref 280)), (Option.some (Value.ref 3)), (Option.some (Value.ref 277)), (Option.none), (Option.some (Value.str "raftkeep.keys" 320)), (Option.none), (Option.some (Value.ref 0))]
noncomputable def o343 (P : Params) : Obj := Obj.mk (Value.type "tuple") (Option.none) (Data.seq #[] 0) #[]
noncomputable def o344 (P : Params) : Obj := Obj.mk Value.none (Option.none) (Data.fields #[]) #[]
noncomputable def o345 (P : Params) : Obj := Obj.mk (Value.type "tuple") (Option.none) (Data.seq #[(Value.str "self" 557)] 0) #[]
noncomputable def o346 (P : Params) : Obj := Obj.mk (Value.type "tuple") (Option.none) (Data.seq #[] 0) #[]
noncomputable def o347 (P : Params) : Obj := Obj.mk Value.none (Option.none) (Data.func fp46.1) #[]
noncomputable def o348 (P : Params) : Obj := Obj.mk (Value.type "code") (Option.none) (Data.fields #[(Value.str "__init__" 554), (Value.str "Options.__init__" 555), (Value.str "/claim/cut.py" 556), (Value.int 125 0), (Value.int 1 0), (Value.int 0 0), (Value.int 0 0), (Value.int 3 0), (Value.ref 282), (Value.bool Bool.true), (Value.int 181 0), (Value.ref 283), Value.none, (Value.ref 284), (Value.ref 285), (Value.ref 286), (Value.int 558 0), (Value.int 125 0), (Value.str "/claim/cut.py" 559)]) #[]
noncomputable def o349 (P : Params) : Obj := Obj.mk (Value.type "function") (Option.none) (Data.func fp47.1) #[]
noncomputable def o350 (P : Params) : Obj := Obj.mk (Value.type "tuple") (Option.none) (Data.seq #[] 0) #[]
noncomputable def o351 (P : Params) : Obj := Obj.mk Value.none (Option.none) (Data.fields #[]) #[]
noncomputable def o352 (P : Params) : Obj := Obj.mk (Value.type "tuple") (Option.none) (Data.seq #[(Value.str "self" 564), (Value.str "held" 565), (Value.str "name" 566), (Value.str "value" 567), (Value.str "low" 568), (Value.str "high" 569), (Value.str "sizes" 570)] 0) #[]
noncomputable def o353 (P : Params) : Obj := Obj.mk (Value.type "tuple") (Option.none) (Data.seq #[] 0) #[]
noncomputable def o354 (P : Params) : Obj := Obj.mk Value.none (Option.none) (Data.func fp48.1) #[]
noncomputable def o355 (P : Params) : Obj := Obj.mk (Value.type "code") (Option.none) (Data.fields #[(Value.str "check_all" 561), (Value.str "Options.check_all" 562), (Value.str "/claim/cut.py" 563), (Value.int 148 0), (Value.int 1 0), (Value.int 0 0), (Value.int 0 0), (Value.int 3 0), (Value.ref 289), (Value.bool Bool.true), (Value.int 181 0), (Value.ref 290), Value.none, (Value.ref 291), (Value.ref 292), (Value.ref 293), (Value.int 571 0), (Value.int 148 0), (Value.str "/claim/cut.py" 572)]) #[]
noncomputable def o356 (P : Params) : Obj := Obj.mk (Value.type "function") (Option.none) (Data.func fp49.1) #[]
noncomputable def o357 (P : Params) : Obj := Obj.mk (Value.type "tuple") (Option.none) (Data.seq #[] 0) #[]
noncomputable def o358 (P : Params) : Obj := Obj.mk Value.none (Option.none) (Data.fields #[]) #[]
noncomputable def o359 (P : Params) : Obj := Obj.mk (Value.type "tuple") (Option.none) (Data.seq #[(Value.str "self" 577)] 0) #[]
noncomputable def o360 (P : Params) : Obj := Obj.mk (Value.type "tuple") (Option.none) (Data.seq #[] 0) #[]
noncomputable def o361 (P : Params) : Obj := Obj.mk Value.none (Option.none) (Data.func fp50.1) #[]
noncomputable def o362 (P : Params) : Obj := Obj.mk (Value.type "code") (Option.none) (Data.fields #[(Value.str "tiny" 574), (Value.str "Options.tiny" 575), (Value.str "/claim/cut.py" 576), (Value.int 163 0), (Value.int 1 0), (Value.int 0 0), (Value.int 0 0), (Value.int 3 0), (Value.ref 296), (Value.bool Bool.true), (Value.int 181 0), (Value.ref 297), Value.none, (Value.ref 298), (Value.ref 299), (Value.ref 300), (Value.int 578 0), (Value.int 163 0), (Value.str "/claim/cut.py" 579)]) #[]
noncomputable def o363 (P : Params) : Obj := Obj.mk (Value.type "function") (Option.none) (Data.func fp51.1) #[]
noncomputable def o364 (P : Params) : Obj := Obj.mk (Value.type "tuple") (Option.none) (Data.seq #[(Value.str "base_bytes" 581), (Value.str "block_size" 582), (Value.str "check" 583), (Value.str "create_missing" 584), (Value.str "expand_factor" 585), (Value.str "filter_base_lg" 586), (Value.str "filter_bits" 587), (Value.str "grandparent_factor" 588), (Value.str "heights" 589), (Value.str "l0_stop" 590), (Value.str "l0_trigger" 591), (Value.str "level_factor" 592), (Value.str "log_block" 593), (Value.str "max_file_size" 594), (Value.str "max_height" 595), (Value.str "max_mem_level" 596), (Value.str "num_levels" 597), (Value.str "paranoid" 598), (Value.str "restart_interval" 599), (Value.str "sync_writes" 600), (Value.str "write_buffer" 601)] 0) #[]
noncomputable def o365 (P : Params) : Obj := Obj.mk (Value.type "dict") (Option.none) (Data.dict #[(DictEntry.mk (PyData.keyHash P "__module__") (Value.str "__module__" 549) (Value.str "raftkeep.keys" 320)), (DictEntry.mk (PyData.keyHash P "__firstlineno__") (Value.str "__firstlineno__" 553) (Value.int 123 552)), (DictEntry.mk (PyData.keyHash P "__init__") (Value.str "__init__" 560) (Value.ref 288)), (DictEntry.mk (PyData.keyHash P "check_all") (Value.str "check_all" 573) (Value.ref 295)), (DictEntry.mk (PyData.keyHash P "tiny") (Value.str "tiny" 580) (Value.ref 302)), (DictEntry.mk (PyData.keyHash P "__static_attributes__") (Value.str "__static_attributes__" 602) (Value.ref 303)), (DictEntry.mk (PyData.keyHash P "__dict__") (Value.str "__dict__" 604) (Value.ref 306)), (DictEntry.mk (PyData.keyHash P "__weakref__") (Value.str "__weakref__" 606) (Value.ref 307)), (DictEntry.mk (PyData.keyHash P "__doc__") (Value.str "__doc__" 607) Value.none)] 4) #[]
noncomputable def o366 (P : Params) : Obj := Obj.mk (Value.type "type") (Option.none) (Data.cls (ClassData.mk "Options" [(Value.type "object")] [(Value.ref 305), (Value.type "object")] 304 "Options" Bool.true [] [] Bool.false (Option.none) Bool.false)) #[(Option.none), (Option.none), (Option.some (Value.str "Options" 542)), (Option.some (Value.str "Options" 550)), (Option.some (Value.builtin "object.__new__")), (Option.some (Value.bool Bool.true))]
noncomputable def o367 (P : Params) : Obj := Obj.mk (Value.type "getset_descriptor") (Option.none) (Data.fields #[(Value.str "__dict__" 603), (Value.ref 305), (Value.builtin "function.__dict__"), (Value.builtin "function.__dict__#set")]) #[]
noncomputable def o368 (P : Params) : Obj := Obj.mk (Value.type "getset_descriptor") (Option.none) (Data.fields #[(Value.str "__weakref__" 605), (Value.ref 305), (Value.builtin "ExceptionGroup.__weakref__"), Value.none]) #[]
noncomputable def o369 (P : Params) : Obj := Obj.mk (Value.type "super") (Option.none) (Data.fields #[(Value.ref 305), (Value.ref 305), (Value.ref 305)]) #[]
noncomputable def o370 (P : Params) : Obj := Obj.mk (Value.type "builtin_function_or_method") (Option.none) (Data.fields #[(Value.builtin "object.__init_subclass__"), (Value.ref 305)]) #[]
noncomputable def o371 (P : Params) : Obj := Obj.mk (Value.type "tuple") (Option.none) (Data.seq #[] 0) #[]
noncomputable def o372 (P : Params) : Obj := Obj.mk Value.none (Option.none) (Data.fields #[]) #[]
noncomputable def o373 (P : Params) : Obj := Obj.mk (Value.type "tuple") (Option.none) (Data.seq #[(Value.str "max_height" 613), (Value.str "heights" 614), (Value.str "height" 615)] 0) #[]
noncomputable def o374 (P : Params) : Obj := Obj.mk (Value.type "tuple") (Option.none) (Data.seq #[] 0) #[]
noncomputable def o375 (P : Params) : Obj := Obj.mk Value.none (Option.none) (Data.func fp52.1) #[]
noncomputable def o376 (P : Params) : Obj := Obj.mk (Value.type "code") (Option.none) (Data.fields #[(Value.str "check_heights" 610), (Value.str "check_heights" 611), (Value.str "/claim/cut.py" 612), (Value.int 179 0), (Value.int 2 0), (Value.int 0 0), (Value.int 0 0), (Value.int 3 0), (Value.ref 310), (Value.bool Bool.true), (Value.int 181 0), (Value.ref 311), Value.none, (Value.ref 312), (Value.ref 313), (Value.ref 314), (Value.int 616 0), (Value.int 179 0), (Value.str "/claim/cut.py" 617)]) #[]
noncomputable def o377 (P : Params) : Obj := Obj.mk (Value.type "function") (Option.none) (Data.func fp53.1) #[]
noncomputable def o378 (P : Params) : Obj := Obj.mk (Value.type "dict") (Option.none) (Data.dict #[(DictEntry.mk (PyData.keyHash P "__name__") (Value.str "__name__" 165) (Value.str "raftkeep.versions" 619)), (DictEntry.mk (PyData.keyHash P "__doc__") (Value.str "__doc__" 166) Value.none), (DictEntry.mk (PyData.keyHash P "__package__") (Value.str "__package__" 167) Value.none), (DictEntry.mk (PyData.keyHash P "__loader__") (Value.str "__loader__" 168) (Value.builtin "__main__.__loader__#opaque")), (DictEntry.mk (PyData.keyHash P "__spec__") (Value.str "__spec__" 169) Value.none), (DictEntry.mk (PyData.keyHash P "__annotations__") (Value.str "__annotations__" 170) (Value.ref 6)), (DictEntry.mk (PyData.keyHash P "__builtins__") (Value.str "__builtins__" 171) (Value.ref 4)), (DictEntry.mk (PyData.keyHash P "__file__") (Value.str "__file__" 173) (Value.str "/claim/cut.py" 172)), (DictEntry.mk (PyData.keyHash P "__cached__") (Value.str "__cached__" 174) Value.none), (DictEntry.mk (PyData.keyHash P "_wall") (Value.str "_wall" 193) (Value.ref 21)), (DictEntry.mk (PyData.keyHash P "KeepError") (Value.str "KeepError" 215) (Value.ref 31)), (DictEntry.mk (PyData.keyHash P "StoreError") (Value.str "StoreError" 231) (Value.ref 44)), (DictEntry.mk (PyData.keyHash P "Corrupt") (Value.str "Corrupt" 247) (Value.ref 56)), (DictEntry.mk (PyData.keyHash P "ShortOctets") (Value.str "ShortOctets" 263) (Value.ref 68)), (DictEntry.mk (PyData.keyHash P "BadOption") (Value.str "BadOption" 279) (Value.ref 80)), (DictEntry.mk (PyData.keyHash P "MAX_32") (Value.str "MAX_32" 283) (Value.int 4294967295 282)), (DictEntry.mk (PyData.keyHash P "MAX_64") (Value.str "MAX_64" 285) (Value.int 18446744073709551615 284)), (DictEntry.mk (PyData.keyHash P "CHECK_CRC") (Value.str "CHECK_CRC" 287) (Value.int 1 286)), (DictEntry.mk (PyData.keyHash P "CHECK_SUM") (Value.str "CHECK_SUM" 289) (Value.int 2 288)), (DictEntry.mk (PyData.keyHash P "put_fixed32") (Value.str "put_fixed32" 296) (Value.ref 89)), (DictEntry.mk (PyData.keyHash P "put_fixed64") (Value.str "put_fixed64" 303) (Value.ref 96)), (DictEntry.mk (PyData.keyHash P "read_fixed32") (Value.str "read_fixed32" 311) (Value.ref 103)), (DictEntry.mk (PyData.keyHash P "read_fixed64") (Value.str "read_fixed64" 319) (Value.ref 110)), (DictEntry.mk (PyData.keyHash P "KIND_DELETE") (Value.str "KIND_DELETE" 323) (Value.int 0 322)), (DictEntry.mk (PyData.keyHash P "KIND_VALUE") (Value.str "KIND_VALUE" 325) (Value.int 1 324)), (DictEntry.mk (PyData.keyHash P "KIND_SEEK") (Value.str "KIND_SEEK" 327) (Value.int 1 326)), (DictEntry.mk (PyData.keyHash P "MAX_SEQ") (Value.str "MAX_SEQ" 329) (Value.int 72057594037927935 328)), (DictEntry.mk (PyData.keyHash P "TAG_LENGTH") (Value.str "TAG_LENGTH" 331) (Value.int 8 330)), (DictEntry.mk (PyData.keyHash P "LEAST_BLOCK") (Value.str "LEAST_BLOCK" 333) (Value.int 8 332)), (DictEntry.mk (PyData.keyHash P "MOST_BLOCK") (Value.str "MOST_BLOCK" 335) (Value.int 65542 334)), (DictEntry.mk (PyData.keyHash P "MOST_LEVELS") (Value.str "MOST_LEVELS" 337) (Value.int 12 336)), (DictEntry.mk (PyData.keyHash P "pack_tag") (Value.str "pack_tag" 345) (Value.ref 117)), (DictEntry.mk (PyData.keyHash P "make_ikey") (Value.str "make_ikey" 354) (Value.ref 124)), (DictEntry.mk (PyData.keyHash P "split_ikey") (Value.str "split_ikey" 364) (Value.ref 131)), (DictEntry.mk (PyData.keyHash P "user_of") (Value.str "user_of" 371) (Value.ref 138)), (DictEntry.mk (PyData.keyHash P "tag_of") (Value.str "tag_of" 378) (Value.ref 145)), (DictEntry.mk (PyData.keyHash P "Order") (Value.str "Order" 431) (Value.ref 183)), (DictEntry.mk (PyData.keyHash P "BytesOrder") (Value.str "BytesOrder" 471) (Value.ref 218)), (DictEntry.mk (PyData.keyHash P "InternalOrder") (Value.str "InternalOrder" 541) (Value.ref 272)), (DictEntry.mk (PyData.keyHash P "Options") (Value.str "Options" 609) (Value.ref 305)), (DictEntry.mk (PyData.keyHash P "check_heights") (Value.str "check_heights" 618) (Value.ref 316)), (DictEntry.mk (PyData.keyHash P "FileMeta") (Value.str "FileMeta" 662) (Value.ref 340))] 42) #[]
noncomputable def o379 (P : Params) : Obj := Obj.mk Value.none (Option.none) (Data.fields #[(Value.int 1 0), (Value.int 0 0), (Value.ref 20), (Value.int 5 0), (Value.int 0 0), (Value.ref 27), (Value.int 7 0), (Value.int 0 0), (Value.ref 40), (Value.int 9 0), (Value.int 0 0), (Value.ref 52), (Value.int 11 0), (Value.int 0 0), (Value.ref 64), (Value.int 13 0), (Value.int 0 0), (Value.ref 76), (Value.int 20 0), (Value.int 0 0), (Value.ref 88), (Value.int 24 0), (Value.int 0 0), (Value.ref 95), (Value.int 28 0), (Value.int 0 0), (Value.ref 102), (Value.int 32 0), (Value.int 0 0), (Value.ref 109), (Value.int 45 0), (Value.int 0 0), (Value.ref 116), (Value.int 51 0), (Value.int 0 0), (Value.ref 123), (Value.int 53 0), (Value.int 0 0), (Value.ref 130), (Value.int 60 0), (Value.int 0 0), (Value.ref 137), (Value.int 64 0), (Value.int 0 0), (Value.ref 144), (Value.int 68 0), (Value.int 0 0), (Value.ref 151), (Value.int 85 0), (Value.int 0 0), (Value.ref 193), (Value.int 95 0), (Value.int 0 0), (Value.ref 226), (Value.int 123 0), (Value.int 0 0), (Value.ref 280), (Value.int 179 0), (Value.int 0 0), (Value.ref 315), (Value.int 186 0), (Value.int 0 0), (Value.ref 322)]) #[]
noncomputable def o380 (P : Params) : Obj := Obj.mk (Value.type "tuple") (Option.none) (Data.seq #[] 0) #[]
noncomputable def o381 (P : Params) : Obj := Obj.mk (Value.type "builtin_function_or_method") (Option.none) (Data.fields #[(Value.builtin "type.__prepare__"), (Value.type "type")]) #[]
noncomputable def o382 (P : Params) : Obj := Obj.mk (Value.type "dict") (Option.none) (Data.dict #[(DictEntry.mk (PyData.keyHash P "__module__") (Value.str "__module__" 628) (Value.str "raftkeep.versions" 619)), (DictEntry.mk (PyData.keyHash P "__qualname__") (Value.str "__qualname__" 630) (Value.str "FileMeta" 629)), (DictEntry.mk (PyData.keyHash P "__firstlineno__") (Value.str "__firstlineno__" 632) (Value.int 186 631)), (DictEntry.mk (PyData.keyHash P "__init__") (Value.str "__init__" 643) (Value.ref 330)), (DictEntry.mk (PyData.keyHash P "row") (Value.str "row" 650) (Value.ref 337)), (DictEntry.mk (PyData.keyHash P "__static_attributes__") (Value.str "__static_attributes__" 655) (Value.ref 338))] 6) #[]
noncomputable def o383 (P : Params) : Obj := Obj.mk (Value.type "tuple") (Option.none) (Data.seq #[] 0) #[]
noncomputable def o384 (P : Params) : Obj := Obj.mk Value.none (Option.none) (Data.fields #[(Value.int 188 0), (Value.int 4 0), (Value.ref 329), (Value.int 194 0), (Value.int 4 0), (Value.ref 336)]) #[]
noncomputable def o385 (P : Params) : Obj := Obj.mk (Value.type "code") (Option.none) (Data.fields #[(Value.str "FileMeta" 623), (Value.str "FileMeta" 624), (Value.str "/claim/cut.py" 625), (Value.int 186 0), (Value.int 0 0), (Value.int 0 0), (Value.int 0 0), (Value.int 0 0), (Value.ref 320), (Value.bool Bool.false), (Value.int 181 0), (Value.ref 321), Value.none, Value.none, Value.none, Value.none, (Value.int 626 0), (Value.int 186 0), (Value.str "/claim/cut.py" 627)]) #[]
noncomputable def o386 (P : Params) : Obj := Obj.mk (Value.type "frame") (Option.none) Data.plain #[(Option.some (Value.ref 322)), (Option.some (Value.ref 3)), (Option.some (Value.ref 319)), (Option.none), (Option.some (Value.str "raftkeep.versions" 619)), (Option.none), (Option.some (Value.ref 0))]
noncomputable def o387 (P : Params) : Obj := Obj.mk (Value.type "tuple") (Option.none) (Data.seq #[] 0) #[]
noncomputable def o388 (P : Params) : Obj := Obj.mk Value.none (Option.none) (Data.fields #[]) #[]
noncomputable def o389 (P : Params) : Obj := Obj.mk (Value.type "tuple") (Option.none) (Data.seq #[(Value.str "self" 636), (Value.str "number" 637), (Value.str "size" 638), (Value.str "smallest" 639), (Value.str "largest" 640)] 0) #[]
noncomputable def o390 (P : Params) : Obj := Obj.mk (Value.type "tuple") (Option.none) (Data.seq #[] 0) #[]
noncomputable def o391 (P : Params) : Obj := Obj.mk Value.none (Option.none) (Data.func fp54.1) #[]
noncomputable def o392 (P : Params) : Obj := Obj.mk (Value.type "code") (Option.none) (Data.fields #[(Value.str "__init__" 633), (Value.str "FileMeta.__init__" 634), (Value.str "/claim/cut.py" 635), (Value.int 188 0), (Value.int 5 0), (Value.int 0 0), (Value.int 0 0), (Value.int 3 0), (Value.ref 324), (Value.bool Bool.true), (Value.int 181 0), (Value.ref 325), Value.none, (Value.ref 326), (Value.ref 327), (Value.ref 328), (Value.int 641 0), (Value.int 188 0), (Value.str "/claim/cut.py" 642)]) #[]
noncomputable def o393 (P : Params) : Obj := Obj.mk (Value.type "function") (Option.none) (Data.func fp55.1) #[]
noncomputable def o394 (P : Params) : Obj := Obj.mk (Value.type "tuple") (Option.none) (Data.seq #[] 0) #[]
noncomputable def o395 (P : Params) : Obj := Obj.mk Value.none (Option.none) (Data.fields #[]) #[]
noncomputable def o396 (P : Params) : Obj := Obj.mk (Value.type "tuple") (Option.none) (Data.seq #[(Value.str "self" 647)] 0) #[]
noncomputable def o397 (P : Params) : Obj := Obj.mk (Value.type "tuple") (Option.none) (Data.seq #[] 0) #[]
noncomputable def o398 (P : Params) : Obj := Obj.mk Value.none (Option.none) (Data.func fp56.1) #[]
noncomputable def o399 (P : Params) : Obj := Obj.mk (Value.type "code") (Option.none) (Data.fields #[(Value.str "row" 644), (Value.str "FileMeta.row" 645), (Value.str "/claim/cut.py" 646), (Value.int 194 0), (Value.int 1 0), (Value.int 0 0), (Value.int 0 0), (Value.int 3 0), (Value.ref 331), (Value.bool Bool.true), (Value.int 181 0), (Value.ref 332), Value.none, (Value.ref 333), (Value.ref 334), (Value.ref 335), (Value.int 648 0), (Value.int 194 0), (Value.str "/claim/cut.py" 649)]) #[]
noncomputable def o400 (P : Params) : Obj := Obj.mk (Value.type "function") (Option.none) (Data.func fp57.1) #[]
noncomputable def o401 (P : Params) : Obj := Obj.mk (Value.type "tuple") (Option.none) (Data.seq #[(Value.str "largest" 651), (Value.str "number" 652), (Value.str "size" 653), (Value.str "smallest" 654)] 0) #[]
noncomputable def o402 (P : Params) : Obj := Obj.mk (Value.type "dict") (Option.none) (Data.dict #[(DictEntry.mk (PyData.keyHash P "__module__") (Value.str "__module__" 628) (Value.str "raftkeep.versions" 619)), (DictEntry.mk (PyData.keyHash P "__firstlineno__") (Value.str "__firstlineno__" 632) (Value.int 186 631)), (DictEntry.mk (PyData.keyHash P "__init__") (Value.str "__init__" 643) (Value.ref 330)), (DictEntry.mk (PyData.keyHash P "row") (Value.str "row" 650) (Value.ref 337)), (DictEntry.mk (PyData.keyHash P "__static_attributes__") (Value.str "__static_attributes__" 655) (Value.ref 338)), (DictEntry.mk (PyData.keyHash P "__dict__") (Value.str "__dict__" 657) (Value.ref 341)), (DictEntry.mk (PyData.keyHash P "__weakref__") (Value.str "__weakref__" 659) (Value.ref 342)), (DictEntry.mk (PyData.keyHash P "__doc__") (Value.str "__doc__" 660) Value.none)] 4) #[]
noncomputable def o403 (P : Params) : Obj := Obj.mk (Value.type "type") (Option.none) (Data.cls (ClassData.mk "FileMeta" [(Value.type "object")] [(Value.ref 340), (Value.type "object")] 339 "FileMeta" Bool.true [] [] Bool.false (Option.none) Bool.false)) #[(Option.none), (Option.none), (Option.some (Value.str "FileMeta" 621)), (Option.some (Value.str "FileMeta" 629)), (Option.some (Value.builtin "object.__new__")), (Option.some (Value.bool Bool.true))]
noncomputable def o404 (P : Params) : Obj := Obj.mk (Value.type "getset_descriptor") (Option.none) (Data.fields #[(Value.str "__dict__" 656), (Value.ref 340), (Value.builtin "function.__dict__"), (Value.builtin "function.__dict__#set")]) #[]
noncomputable def o405 (P : Params) : Obj := Obj.mk (Value.type "getset_descriptor") (Option.none) (Data.fields #[(Value.str "__weakref__" 658), (Value.ref 340), (Value.builtin "ExceptionGroup.__weakref__"), Value.none]) #[]
noncomputable def o406 (P : Params) : Obj := Obj.mk (Value.type "super") (Option.none) (Data.fields #[(Value.ref 340), (Value.ref 340), (Value.ref 340)]) #[]
noncomputable def o407 (P : Params) : Obj := Obj.mk (Value.type "builtin_function_or_method") (Option.none) (Data.fields #[(Value.builtin "object.__init_subclass__"), (Value.ref 340)]) #[]
noncomputable def o408 (P : Params) : Obj := Obj.mk (Value.type "dict") (Option.none) (Data.dict #[(DictEntry.mk (PyData.keyHash P "__name__") (Value.str "__name__" 165) (Value.str "raftkeep.versions" 619)), (DictEntry.mk (PyData.keyHash P "__doc__") (Value.str "__doc__" 166) Value.none), (DictEntry.mk (PyData.keyHash P "__package__") (Value.str "__package__" 167) Value.none), (DictEntry.mk (PyData.keyHash P "__loader__") (Value.str "__loader__" 168) (Value.builtin "__main__.__loader__#opaque")), (DictEntry.mk (PyData.keyHash P "__spec__") (Value.str "__spec__" 169) Value.none), (DictEntry.mk (PyData.keyHash P "__annotations__") (Value.str "__annotations__" 170) (Value.ref 6)), (DictEntry.mk (PyData.keyHash P "__builtins__") (Value.str "__builtins__" 171) (Value.ref 4)), (DictEntry.mk (PyData.keyHash P "__file__") (Value.str "__file__" 173) (Value.str "/claim/cut.py" 172)), (DictEntry.mk (PyData.keyHash P "__cached__") (Value.str "__cached__" 174) Value.none), (DictEntry.mk (PyData.keyHash P "_wall") (Value.str "_wall" 193) (Value.ref 21)), (DictEntry.mk (PyData.keyHash P "KeepError") (Value.str "KeepError" 215) (Value.ref 31)), (DictEntry.mk (PyData.keyHash P "StoreError") (Value.str "StoreError" 231) (Value.ref 44)), (DictEntry.mk (PyData.keyHash P "Corrupt") (Value.str "Corrupt" 247) (Value.ref 56)), (DictEntry.mk (PyData.keyHash P "ShortOctets") (Value.str "ShortOctets" 263) (Value.ref 68)), (DictEntry.mk (PyData.keyHash P "BadOption") (Value.str "BadOption" 279) (Value.ref 80)), (DictEntry.mk (PyData.keyHash P "MAX_32") (Value.str "MAX_32" 283) (Value.int 4294967295 282)), (DictEntry.mk (PyData.keyHash P "MAX_64") (Value.str "MAX_64" 285) (Value.int 18446744073709551615 284)), (DictEntry.mk (PyData.keyHash P "CHECK_CRC") (Value.str "CHECK_CRC" 287) (Value.int 1 286)), (DictEntry.mk (PyData.keyHash P "CHECK_SUM") (Value.str "CHECK_SUM" 289) (Value.int 2 288)), (DictEntry.mk (PyData.keyHash P "put_fixed32") (Value.str "put_fixed32" 296) (Value.ref 89)), (DictEntry.mk (PyData.keyHash P "put_fixed64") (Value.str "put_fixed64" 303) (Value.ref 96)), (DictEntry.mk (PyData.keyHash P "read_fixed32") (Value.str "read_fixed32" 311) (Value.ref 103)), (DictEntry.mk (PyData.keyHash P "read_fixed64") (Value.str "read_fixed64" 319) (Value.ref 110)), (DictEntry.mk (PyData.keyHash P "KIND_DELETE") (Value.str "KIND_DELETE" 323) (Value.int 0 322)), (DictEntry.mk (PyData.keyHash P "KIND_VALUE") (Value.str "KIND_VALUE" 325) (Value.int 1 324)), (DictEntry.mk (PyData.keyHash P "KIND_SEEK") (Value.str "KIND_SEEK" 327) (Value.int 1 326)), (DictEntry.mk (PyData.keyHash P "MAX_SEQ") (Value.str "MAX_SEQ" 329) (Value.int 72057594037927935 328)), (DictEntry.mk (PyData.keyHash P "TAG_LENGTH") (Value.str "TAG_LENGTH" 331) (Value.int 8 330)), (DictEntry.mk (PyData.keyHash P "LEAST_BLOCK") (Value.str "LEAST_BLOCK" 333) (Value.int 8 332)), (DictEntry.mk (PyData.keyHash P "MOST_BLOCK") (Value.str "MOST_BLOCK" 335) (Value.int 65542 334)), (DictEntry.mk (PyData.keyHash P "MOST_LEVELS") (Value.str "MOST_LEVELS" 337) (Value.int 12 336)), (DictEntry.mk (PyData.keyHash P "pack_tag") (Value.str "pack_tag" 345) (Value.ref 117)), (DictEntry.mk (PyData.keyHash P "make_ikey") (Value.str "make_ikey" 354) (Value.ref 124)), (DictEntry.mk (PyData.keyHash P "split_ikey") (Value.str "split_ikey" 364) (Value.ref 131)), (DictEntry.mk (PyData.keyHash P "user_of") (Value.str "user_of" 371) (Value.ref 138)), (DictEntry.mk (PyData.keyHash P "tag_of") (Value.str "tag_of" 378) (Value.ref 145)), (DictEntry.mk (PyData.keyHash P "Order") (Value.str "Order" 431) (Value.ref 183)), (DictEntry.mk (PyData.keyHash P "BytesOrder") (Value.str "BytesOrder" 471) (Value.ref 218)), (DictEntry.mk (PyData.keyHash P "InternalOrder") (Value.str "InternalOrder" 541) (Value.ref 272)), (DictEntry.mk (PyData.keyHash P "Options") (Value.str "Options" 609) (Value.ref 305)), (DictEntry.mk (PyData.keyHash P "check_heights") (Value.str "check_heights" 618) (Value.ref 316)), (DictEntry.mk (PyData.keyHash P "FileMeta") (Value.str "FileMeta" 662) (Value.ref 340)), (DictEntry.mk (PyData.keyHash P "VersionEdit") (Value.str "VersionEdit" 714) (Value.ref 375)), (DictEntry.mk (PyData.keyHash P "find_file") (Value.str "find_file" 726) (Value.ref 386))] 44) #[]
noncomputable def o409 (P : Params) : Obj := Obj.mk Value.none (Option.none) (Data.fields #[(Value.int 1 0), (Value.int 0 0), (Value.ref 20), (Value.int 5 0), (Value.int 0 0), (Value.ref 27), (Value.int 7 0), (Value.int 0 0), (Value.ref 40), (Value.int 9 0), (Value.int 0 0), (Value.ref 52), (Value.int 11 0), (Value.int 0 0), (Value.ref 64), (Value.int 13 0), (Value.int 0 0), (Value.ref 76), (Value.int 20 0), (Value.int 0 0), (Value.ref 88), (Value.int 24 0), (Value.int 0 0), (Value.ref 95), (Value.int 28 0), (Value.int 0 0), (Value.ref 102), (Value.int 32 0), (Value.int 0 0), (Value.ref 109), (Value.int 45 0), (Value.int 0 0), (Value.ref 116), (Value.int 51 0), (Value.int 0 0), (Value.ref 123), (Value.int 53 0), (Value.int 0 0), (Value.ref 130), (Value.int 60 0), (Value.int 0 0), (Value.ref 137), (Value.int 64 0), (Value.int 0 0), (Value.ref 144), (Value.int 68 0), (Value.int 0 0), (Value.ref 151), (Value.int 85 0), (Value.int 0 0), (Value.ref 193), (Value.int 95 0), (Value.int 0 0), (Value.ref 226), (Value.int 123 0), (Value.int 0 0), (Value.ref 280), (Value.int 179 0), (Value.int 0 0), (Value.ref 315), (Value.int 186 0), (Value.int 0 0), (Value.ref 322), (Value.int 196 0), (Value.int 0 0), (Value.ref 350), (Value.int 216 0), (Value.int 0 0), (Value.ref 385)]) #[]
noncomputable def o410 (P : Params) : Obj := Obj.mk (Value.type "tuple") (Option.none) (Data.seq #[] 0) #[]
noncomputable def o411 (P : Params) : Obj := Obj.mk (Value.type "builtin_function_or_method") (Option.none) (Data.fields #[(Value.builtin "type.__prepare__"), (Value.type "type")]) #[]
noncomputable def o412 (P : Params) : Obj := Obj.mk (Value.type "dict") (Option.none) (Data.dict #[(DictEntry.mk (PyData.keyHash P "__module__") (Value.str "__module__" 670) (Value.str "raftkeep.versions" 619)), (DictEntry.mk (PyData.keyHash P "__qualname__") (Value.str "__qualname__" 672) (Value.str "VersionEdit" 671)), (DictEntry.mk (PyData.keyHash P "__firstlineno__") (Value.str "__firstlineno__" 674) (Value.int 196 673)), (DictEntry.mk (PyData.keyHash P "__init__") (Value.str "__init__" 681) (Value.ref 358)), (DictEntry.mk (PyData.keyHash P "row") (Value.str "row" 691) (Value.ref 365)), (DictEntry.mk (PyData.keyHash P "encode") (Value.str "encode" 698) (Value.ref 372)), (DictEntry.mk (PyData.keyHash P "__static_attributes__") (Value.str "__static_attributes__" 707) (Value.ref 373))] 7) #[]
noncomputable def o413 (P : Params) : Obj := Obj.mk (Value.type "tuple") (Option.none) (Data.seq #[] 0) #[]
noncomputable def o414 (P : Params) : Obj := Obj.mk Value.none (Option.none) (Data.fields #[(Value.int 198 0), (Value.int 4 0), (Value.ref 357), (Value.int 208 0), (Value.int 4 0), (Value.ref 364), (Value.int 214 0), (Value.int 4 0), (Value.ref 371)]) #[]
noncomputable def o415 (P : Params) : Obj := Obj.mk (Value.type "code") (Option.none) (Data.fields #[(Value.str "VersionEdit" 665), (Value.str "VersionEdit" 666), (Value.str "/claim/cut.py" 667), (Value.int 196 0), (Value.int 0 0), (Value.int 0 0), (Value.int 0 0), (Value.int 0 0), (Value.ref 348), (Value.bool Bool.false), (Value.int 181 0), (Value.ref 349), Value.none, Value.none, Value.none, Value.none, (Value.int 668 0), (Value.int 196 0), (Value.str "/claim/cut.py" 669)]) #[]
noncomputable def o416 (P : Params) : Obj := Obj.mk (Value.type "frame") (Option.none) Data.plain #[(Option.some (Value.ref 350)), (Option.some (Value.ref 3)), (Option.some (Value.ref 347)), (Option.none), (Option.some (Value.str "raftkeep.versions" 619)), (Option.none), (Option.some (Value.ref 0))]
noncomputable def o417 (P : Params) : Obj := Obj.mk (Value.type "tuple") (Option.none) (Data.seq #[] 0) #[]
noncomputable def o418 (P : Params) : Obj := Obj.mk Value.none (Option.none) (Data.fields #[]) #[]
noncomputable def o419 (P : Params) : Obj := Obj.mk (Value.type "tuple") (Option.none) (Data.seq #[(Value.str "self" 678)] 0) #[]
noncomputable def o420 (P : Params) : Obj := Obj.mk (Value.type "tuple") (Option.none) (Data.seq #[] 0) #[]
noncomputable def o421 (P : Params) : Obj := Obj.mk Value.none (Option.none) (Data.func fp58.1) #[]
noncomputable def o422 (P : Params) : Obj := Obj.mk (Value.type "code") (Option.none) (Data.fields #[(Value.str "__init__" 675), (Value.str "VersionEdit.__init__" 676), (Value.str "/claim/cut.py" 677), (Value.int 198 0), (Value.int 1 0), (Value.int 0 0), (Value.int 0 0), (Value.int 3 0), (Value.ref 352), (Value.bool Bool.true), (Value.int 181 0), (Value.ref 353), Value.none, (Value.ref 354), (Value.ref 355), (Value.ref 356), (Value.int 679 0), (Value.int 198 0), (Value.str "/claim/cut.py" 680)]) #[]
noncomputable def o423 (P : Params) : Obj := Obj.mk (Value.type "function") (Option.none) (Data.func fp59.1) #[]
noncomputable def o424 (P : Params) : Obj := Obj.mk (Value.type "tuple") (Option.none) (Data.seq #[] 0) #[]
noncomputable def o425 (P : Params) : Obj := Obj.mk Value.none (Option.none) (Data.fields #[]) #[]
noncomputable def o426 (P : Params) : Obj := Obj.mk (Value.type "tuple") (Option.none) (Data.seq #[(Value.str "self" 685), (Value.str "added" 686), (Value.str "level" 687), (Value.str "meta" 688)] 0) #[]
noncomputable def o427 (P : Params) : Obj := Obj.mk (Value.type "tuple") (Option.none) (Data.seq #[] 0) #[]
noncomputable def o428 (P : Params) : Obj := Obj.mk Value.none (Option.none) (Data.func fp60.1) #[]
noncomputable def o429 (P : Params) : Obj := Obj.mk (Value.type "code") (Option.none) (Data.fields #[(Value.str "row" 682), (Value.str "VersionEdit.row" 683), (Value.str "/claim/cut.py" 684), (Value.int 208 0), (Value.int 1 0), (Value.int 0 0), (Value.int 0 0), (Value.int 3 0), (Value.ref 359), (Value.bool Bool.true), (Value.int 181 0), (Value.ref 360), Value.none, (Value.ref 361), (Value.ref 362), (Value.ref 363), (Value.int 689 0), (Value.int 208 0), (Value.str "/claim/cut.py" 690)]) #[]
noncomputable def o430 (P : Params) : Obj := Obj.mk (Value.type "function") (Option.none) (Data.func fp61.1) #[]
noncomputable def o431 (P : Params) : Obj := Obj.mk (Value.type "tuple") (Option.none) (Data.seq #[] 0) #[]
noncomputable def o432 (P : Params) : Obj := Obj.mk Value.none (Option.none) (Data.fields #[]) #[]
noncomputable def o433 (P : Params) : Obj := Obj.mk (Value.type "tuple") (Option.none) (Data.seq #[(Value.str "self" 695)] 0) #[]
noncomputable def o434 (P : Params) : Obj := Obj.mk (Value.type "tuple") (Option.none) (Data.seq #[] 0) #[]
noncomputable def o435 (P : Params) : Obj := Obj.mk Value.none (Option.none) (Data.func fp62.1) #[]
noncomputable def o436 (P : Params) : Obj := Obj.mk (Value.type "code") (Option.none) (Data.fields #[(Value.str "encode" 692), (Value.str "VersionEdit.encode" 693), (Value.str "/claim/cut.py" 694), (Value.int 214 0), (Value.int 1 0), (Value.int 0 0), (Value.int 0 0), (Value.int 3 0), (Value.ref 366), (Value.bool Bool.true), (Value.int 181 0), (Value.ref 367), Value.none, (Value.ref 368), (Value.ref 369), (Value.ref 370), (Value.int 696 0), (Value.int 214 0), (Value.str "/claim/cut.py" 697)]) #[]
noncomputable def o437 (P : Params) : Obj := Obj.mk (Value.type "function") (Option.none) (Data.func fp63.1) #[]
noncomputable def o438 (P : Params) : Obj := Obj.mk (Value.type "tuple") (Option.none) (Data.seq #[(Value.str "added" 699), (Value.str "compact_pointers" 700), (Value.str "comparator" 701), (Value.str "deleted" 702), (Value.str "last_seq" 703), (Value.str "log_number" 704), (Value.str "next_file" 705), (Value.str "reset" 706)] 0) #[]
noncomputable def o439 (P : Params) : Obj := Obj.mk (Value.type "dict") (Option.none) (Data.dict #[(DictEntry.mk (PyData.keyHash P "__module__") (Value.str "__module__" 670) (Value.str "raftkeep.versions" 619)), (DictEntry.mk (PyData.keyHash P "__firstlineno__") (Value.str "__firstlineno__" 674) (Value.int 196 673)), (DictEntry.mk (PyData.keyHash P "__init__") (Value.str "__init__" 681) (Value.ref 358)), (DictEntry.mk (PyData.keyHash P "row") (Value.str "row" 691) (Value.ref 365)), (DictEntry.mk (PyData.keyHash P "encode") (Value.str "encode" 698) (Value.ref 372)), (DictEntry.mk (PyData.keyHash P "__static_attributes__") (Value.str "__static_attributes__" 707) (Value.ref 373)), (DictEntry.mk (PyData.keyHash P "__dict__") (Value.str "__dict__" 709) (Value.ref 376)), (DictEntry.mk (PyData.keyHash P "__weakref__") (Value.str "__weakref__" 711) (Value.ref 377)), (DictEntry.mk (PyData.keyHash P "__doc__") (Value.str "__doc__" 712) Value.none)] 4) #[]
noncomputable def o440 (P : Params) : Obj := Obj.mk (Value.type "type") (Option.none) (Data.cls (ClassData.mk "VersionEdit" [(Value.type "object")] [(Value.ref 375), (Value.type "object")] 374 "VersionEdit" Bool.true [] [] Bool.false (Option.none) Bool.false)) #[(Option.none), (Option.none), (Option.some (Value.str "VersionEdit" 663)), (Option.some (Value.str "VersionEdit" 671)), (Option.some (Value.builtin "object.__new__")), (Option.some (Value.bool Bool.true))]
noncomputable def o441 (P : Params) : Obj := Obj.mk (Value.type "getset_descriptor") (Option.none) (Data.fields #[(Value.str "__dict__" 708), (Value.ref 375), (Value.builtin "function.__dict__"), (Value.builtin "function.__dict__#set")]) #[]
noncomputable def o442 (P : Params) : Obj := Obj.mk (Value.type "getset_descriptor") (Option.none) (Data.fields #[(Value.str "__weakref__" 710), (Value.ref 375), (Value.builtin "ExceptionGroup.__weakref__"), Value.none]) #[]
noncomputable def o443 (P : Params) : Obj := Obj.mk (Value.type "super") (Option.none) (Data.fields #[(Value.ref 375), (Value.ref 375), (Value.ref 375)]) #[]
noncomputable def o444 (P : Params) : Obj := Obj.mk (Value.type "builtin_function_or_method") (Option.none) (Data.fields #[(Value.builtin "object.__init_subclass__"), (Value.ref 375)]) #[]
noncomputable def o445 (P : Params) : Obj := Obj.mk (Value.type "tuple") (Option.none) (Data.seq #[] 0) #[]
noncomputable def o446 (P : Params) : Obj := Obj.mk Value.none (Option.none) (Data.fields #[]) #[]
noncomputable def o447 (P : Params) : Obj := Obj.mk (Value.type "tuple") (Option.none) (Data.seq #[(Value.str "files" 718), (Value.str "ikey" 719), (Value.str "order" 720), (Value.str "low" 721), (Value.str "high" 722), (Value.str "mid" 723)] 0) #[]
noncomputable def o448 (P : Params) : Obj := Obj.mk (Value.type "tuple") (Option.none) (Data.seq #[] 0) #[]
noncomputable def o449 (P : Params) : Obj := Obj.mk Value.none (Option.none) (Data.func fp64.1) #[]
noncomputable def o450 (P : Params) : Obj := Obj.mk (Value.type "code") (Option.none) (Data.fields #[(Value.str "find_file" 715), (Value.str "find_file" 716), (Value.str "/claim/cut.py" 717), (Value.int 216 0), (Value.int 3 0), (Value.int 0 0), (Value.int 0 0), (Value.int 3 0), (Value.ref 380), (Value.bool Bool.true), (Value.int 181 0), (Value.ref 381), Value.none, (Value.ref 382), (Value.ref 383), (Value.ref 384), (Value.int 724 0), (Value.int 216 0), (Value.str "/claim/cut.py" 725)]) #[]
noncomputable def o451 (P : Params) : Obj := Obj.mk (Value.type "function") (Option.none) (Data.func fp65.1) #[]
noncomputable def o452 (P : Params) : Obj := Obj.mk (Value.type "dict") (Option.none) (Data.dict #[(DictEntry.mk (PyData.keyHash P "__name__") (Value.str "__name__" 165) (Value.str "raftkeep.versions" 619)), (DictEntry.mk (PyData.keyHash P "__doc__") (Value.str "__doc__" 166) Value.none), (DictEntry.mk (PyData.keyHash P "__package__") (Value.str "__package__" 167) Value.none), (DictEntry.mk (PyData.keyHash P "__loader__") (Value.str "__loader__" 168) (Value.builtin "__main__.__loader__#opaque")), (DictEntry.mk (PyData.keyHash P "__spec__") (Value.str "__spec__" 169) Value.none), (DictEntry.mk (PyData.keyHash P "__annotations__") (Value.str "__annotations__" 170) (Value.ref 6)), (DictEntry.mk (PyData.keyHash P "__builtins__") (Value.str "__builtins__" 171) (Value.ref 4)), (DictEntry.mk (PyData.keyHash P "__file__") (Value.str "__file__" 173) (Value.str "/claim/cut.py" 172)), (DictEntry.mk (PyData.keyHash P "__cached__") (Value.str "__cached__" 174) Value.none), (DictEntry.mk (PyData.keyHash P "_wall") (Value.str "_wall" 193) (Value.ref 21)), (DictEntry.mk (PyData.keyHash P "KeepError") (Value.str "KeepError" 215) (Value.ref 31)), (DictEntry.mk (PyData.keyHash P "StoreError") (Value.str "StoreError" 231) (Value.ref 44)), (DictEntry.mk (PyData.keyHash P "Corrupt") (Value.str "Corrupt" 247) (Value.ref 56)), (DictEntry.mk (PyData.keyHash P "ShortOctets") (Value.str "ShortOctets" 263) (Value.ref 68)), (DictEntry.mk (PyData.keyHash P "BadOption") (Value.str "BadOption" 279) (Value.ref 80)), (DictEntry.mk (PyData.keyHash P "MAX_32") (Value.str "MAX_32" 283) (Value.int 4294967295 282)), (DictEntry.mk (PyData.keyHash P "MAX_64") (Value.str "MAX_64" 285) (Value.int 18446744073709551615 284)), (DictEntry.mk (PyData.keyHash P "CHECK_CRC") (Value.str "CHECK_CRC" 287) (Value.int 1 286)), (DictEntry.mk (PyData.keyHash P "CHECK_SUM") (Value.str "CHECK_SUM" 289) (Value.int 2 288)), (DictEntry.mk (PyData.keyHash P "put_fixed32") (Value.str "put_fixed32" 296) (Value.ref 89)), (DictEntry.mk (PyData.keyHash P "put_fixed64") (Value.str "put_fixed64" 303) (Value.ref 96)), (DictEntry.mk (PyData.keyHash P "read_fixed32") (Value.str "read_fixed32" 311) (Value.ref 103)), (DictEntry.mk (PyData.keyHash P "read_fixed64") (Value.str "read_fixed64" 319) (Value.ref 110)), (DictEntry.mk (PyData.keyHash P "KIND_DELETE") (Value.str "KIND_DELETE" 323) (Value.int 0 322)), (DictEntry.mk (PyData.keyHash P "KIND_VALUE") (Value.str "KIND_VALUE" 325) (Value.int 1 324)), (DictEntry.mk (PyData.keyHash P "KIND_SEEK") (Value.str "KIND_SEEK" 327) (Value.int 1 326)), (DictEntry.mk (PyData.keyHash P "MAX_SEQ") (Value.str "MAX_SEQ" 329) (Value.int 72057594037927935 328)), (DictEntry.mk (PyData.keyHash P "TAG_LENGTH") (Value.str "TAG_LENGTH" 331) (Value.int 8 330)), (DictEntry.mk (PyData.keyHash P "LEAST_BLOCK") (Value.str "LEAST_BLOCK" 333) (Value.int 8 332)), (DictEntry.mk (PyData.keyHash P "MOST_BLOCK") (Value.str "MOST_BLOCK" 335) (Value.int 65542 334)), (DictEntry.mk (PyData.keyHash P "MOST_LEVELS") (Value.str "MOST_LEVELS" 337) (Value.int 12 336)), (DictEntry.mk (PyData.keyHash P "pack_tag") (Value.str "pack_tag" 345) (Value.ref 117)), (DictEntry.mk (PyData.keyHash P "make_ikey") (Value.str "make_ikey" 354) (Value.ref 124)), (DictEntry.mk (PyData.keyHash P "split_ikey") (Value.str "split_ikey" 364) (Value.ref 131)), (DictEntry.mk (PyData.keyHash P "user_of") (Value.str "user_of" 371) (Value.ref 138)), (DictEntry.mk (PyData.keyHash P "tag_of") (Value.str "tag_of" 378) (Value.ref 145)), (DictEntry.mk (PyData.keyHash P "Order") (Value.str "Order" 431) (Value.ref 183)), (DictEntry.mk (PyData.keyHash P "BytesOrder") (Value.str "BytesOrder" 471) (Value.ref 218)), (DictEntry.mk (PyData.keyHash P "InternalOrder") (Value.str "InternalOrder" 541) (Value.ref 272)), (DictEntry.mk (PyData.keyHash P "Options") (Value.str "Options" 609) (Value.ref 305)), (DictEntry.mk (PyData.keyHash P "check_heights") (Value.str "check_heights" 618) (Value.ref 316)), (DictEntry.mk (PyData.keyHash P "FileMeta") (Value.str "FileMeta" 662) (Value.ref 340)), (DictEntry.mk (PyData.keyHash P "VersionEdit") (Value.str "VersionEdit" 714) (Value.ref 375)), (DictEntry.mk (PyData.keyHash P "find_file") (Value.str "find_file" 726) (Value.ref 386)), (DictEntry.mk (PyData.keyHash P "Version") (Value.str "Version" 877) (Value.ref 466))] 45) #[]
noncomputable def o453 (P : Params) : Obj := Obj.mk Value.none (Option.none) (Data.fields #[(Value.int 1 0), (Value.int 0 0), (Value.ref 20), (Value.int 5 0), (Value.int 0 0), (Value.ref 27), (Value.int 7 0), (Value.int 0 0), (Value.ref 40), (Value.int 9 0), (Value.int 0 0), (Value.ref 52), (Value.int 11 0), (Value.int 0 0), (Value.ref 64), (Value.int 13 0), (Value.int 0 0), (Value.ref 76), (Value.int 20 0), (Value.int 0 0), (Value.ref 88), (Value.int 24 0), (Value.int 0 0), (Value.ref 95), (Value.int 28 0), (Value.int 0 0), (Value.ref 102), (Value.int 32 0), (Value.int 0 0), (Value.ref 109), (Value.int 45 0), (Value.int 0 0), (Value.ref 116), (Value.int 51 0), (Value.int 0 0), (Value.ref 123), (Value.int 53 0), (Value.int 0 0), (Value.ref 130), (Value.int 60 0), (Value.int 0 0), (Value.ref 137), (Value.int 64 0), (Value.int 0 0), (Value.ref 144), (Value.int 68 0), (Value.int 0 0), (Value.ref 151), (Value.int 85 0), (Value.int 0 0), (Value.ref 193), (Value.int 95 0), (Value.int 0 0), (Value.ref 226), (Value.int 123 0), (Value.int 0 0), (Value.ref 280), (Value.int 179 0), (Value.int 0 0), (Value.ref 315), (Value.int 186 0), (Value.int 0 0), (Value.ref 322), (Value.int 196 0), (Value.int 0 0), (Value.ref 350), (Value.int 216 0), (Value.int 0 0), (Value.ref 385), (Value.int 226 0), (Value.int 0 0), (Value.ref 392)]) #[]
noncomputable def o454 (P : Params) : Obj := Obj.mk (Value.type "tuple") (Option.none) (Data.seq #[] 0) #[]
noncomputable def o455 (P : Params) : Obj := Obj.mk (Value.type "builtin_function_or_method") (Option.none) (Data.fields #[(Value.builtin "type.__prepare__"), (Value.type "type")]) #[]
noncomputable def o456 (P : Params) : Obj := Obj.mk (Value.type "dict") (Option.none) (Data.dict #[(DictEntry.mk (PyData.keyHash P "__module__") (Value.str "__module__" 734) (Value.str "raftkeep.versions" 619)), (DictEntry.mk (PyData.keyHash P "__qualname__") (Value.str "__qualname__" 736) (Value.str "Version" 735)), (DictEntry.mk (PyData.keyHash P "__firstlineno__") (Value.str "__firstlineno__" 738) (Value.int 226 737)), (DictEntry.mk (PyData.keyHash P "__init__") (Value.str "__init__" 748) (Value.ref 400)), (DictEntry.mk (PyData.keyHash P "overlapping") (Value.str "overlapping" 765) (Value.ref 407)), (DictEntry.mk (PyData.keyHash P "candidates") (Value.str "candidates" 780) (Value.ref 414)), (DictEntry.mk (PyData.keyHash P "get") (Value.str "get" 797) (Value.ref 421)), (DictEntry.mk (PyData.keyHash P "overlaps") (Value.str "overlaps" 812) (Value.ref 428)), (DictEntry.mk (PyData.keyHash P "level_for_mem") (Value.str "level_for_mem" 822) (Value.ref 435)), (DictEntry.mk (PyData.keyHash P "level_octets") (Value.str "level_octets" 832) (Value.ref 442)), (DictEntry.mk (PyData.keyHash P "numbers") (Value.str "numbers" 842) (Value.ref 449)), (DictEntry.mk (PyData.keyHash P "iterators") (Value.str "iterators" 850) (Value.ref 456)), (DictEntry.mk (PyData.keyHash P "check") (Value.str "check" 863) (Value.ref 463)), (DictEntry.mk (PyData.keyHash P "__static_attributes__") (Value.str "__static_attributes__" 870) (Value.ref 464))] 14) #[]
noncomputable def o457 (P : Params) : Obj := Obj.mk (Value.type "tuple") (Option.none) (Data.seq #[] 0) #[]
noncomputable def o458 (P : Params) : Obj := Obj.mk Value.none (Option.none) (Data.fields #[(Value.int 228 0), (Value.int 4 0), (Value.ref 399), (Value.int 238 0), (Value.int 4 0), (Value.ref 406), (Value.int 264 0), (Value.int 4 0), (Value.ref 413), (Value.int 279 0), (Value.int 4 0), (Value.ref 420), (Value.int 292 0), (Value.int 4 0), (Value.ref 427), (Value.int 308 0), (Value.int 4 0), (Value.ref 434), (Value.int 311 0), (Value.int 4 0), (Value.ref 441), (Value.int 317 0), (Value.int 4 0), (Value.ref 448), (Value.int 324 0), (Value.int 4 0), (Value.ref 455), (Value.int 327 0), (Value.int 4 0), (Value.ref 462)]) #[]
noncomputable def o459 (P : Params) : Obj := Obj.mk (Value.type "code") (Option.none) (Data.fields #[(Value.str "Version" 729), (Value.str "Version" 730), (Value.str "/claim/cut.py" 731), (Value.int 226 0), (Value.int 0 0), (Value.int 0 0), (Value.int 0 0), (Value.int 0 0), (Value.ref 390), (Value.bool Bool.false), (Value.int 181 0), (Value.ref 391), Value.none, Value.none, Value.none, Value.none, (Value.int 732 0), (Value.int 226 0), (Value.str "/claim/cut.py" 733)]) #[]
noncomputable def o460 (P : Params) : Obj := Obj.mk (Value.type "frame") (Option.none) Data.plain #[(Option.some (Value.ref 392)), (Option.some (Value.ref 3)), (Option.some (Value.ref 389)), (Option.none), (Option.some (Value.str "raftkeep.versions" 619)), (Option.none), (Option.some (Value.ref 0))]
noncomputable def o461 (P : Params) : Obj := Obj.mk (Value.type "tuple") (Option.none) (Data.seq #[] 0) #[]
noncomputable def o462 (P : Params) : Obj := Obj.mk Value.none (Option.none) (Data.fields #[]) #[]
noncomputable def o463 (P : Params) : Obj := Obj.mk (Value.type "tuple") (Option.none) (Data.seq #[(Value.str "self" 742), (Value.str "num_levels" 743), (Value.str "order" 744), (Value.str "level" 745)] 0) #[]
noncomputable def o464 (P : Params) : Obj := Obj.mk (Value.type "tuple") (Option.none) (Data.seq #[] 0) #[]
noncomputable def o465 (P : Params) : Obj := Obj.mk Value.none (Option.none) (Data.func fp66.1) #[]
noncomputable def o466 (P : Params) : Obj := Obj.mk (Value.type "code") (Option.none) (Data.fields #[(Value.str "__init__" 739), (Value.str "Version.__init__" 740), (Value.str "/claim/cut.py" 741), (Value.int 228 0), (Value.int 3 0), (Value.int 0 0), (Value.int 0 0), (Value.int 3 0), (Value.ref 394), (Value.bool Bool.true), (Value.int 181 0), (Value.ref 395), Value.none, (Value.ref 396), (Value.ref 397), (Value.ref 398), (Value.int 746 0), (Value.int 228 0), (Value.str "/claim/cut.py" 747)]) #[]
noncomputable def o467 (P : Params) : Obj := Obj.mk (Value.type "function") (Option.none) (Data.func fp67.1) #[]
noncomputable def o468 (P : Params) : Obj := Obj.mk (Value.type "tuple") (Option.none) (Data.seq #[] 0) #[]
noncomputable def o469 (P : Params) : Obj := Obj.mk Value.none (Option.none) (Data.fields #[]) #[]
noncomputable def o470 (P : Params) : Obj := Obj.mk (Value.type "tuple") (Option.none) (Data.seq #[(Value.str "self" 752), (Value.str "level" 753), (Value.str "low_user" 754), (Value.str "high_user" 755), (Value.str "low" 756), (Value.str "high" 757), (Value.str "found" 758), (Value.str "i" 759), (Value.str "meta" 760), (Value.str "first" 761), (Value.str "last" 762)] 0) #[]
noncomputable def o471 (P : Params) : Obj := Obj.mk (Value.type "tuple") (Option.none) (Data.seq #[] 0) #[]
noncomputable def o472 (P : Params) : Obj := Obj.mk Value.none (Option.none) (Data.func fp68.1) #[]
noncomputable def o473 (P : Params) : Obj := Obj.mk (Value.type "code") (Option.none) (Data.fields #[(Value.str "overlapping" 749), (Value.str "Version.overlapping" 750), (Value.str "/claim/cut.py" 751), (Value.int 238 0), (Value.int 4 0), (Value.int 0 0), (Value.int 0 0), (Value.int 3 0), (Value.ref 401), (Value.bool Bool.true), (Value.int 181 0), (Value.ref 402), Value.none, (Value.ref 403), (Value.ref 404), (Value.ref 405), (Value.int 763 0), (Value.int 238 0), (Value.str "/claim/cut.py" 764)]) #[]
noncomputable def o474 (P : Params) : Obj := Obj.mk (Value.type "function") (Option.none) (Data.func fp69.1) #[]
noncomputable def o475 (P : Params) : Obj := Obj.mk (Value.type "tuple") (Option.none) (Data.seq #[] 0) #[]
noncomputable def o476 (P : Params) : Obj := Obj.mk Value.none (Option.none) (Data.fields #[]) #[]
noncomputable def o477 (P : Params) : Obj := Obj.mk (Value.type "tuple") (Option.none) (Data.seq #[(Value.str "self" 769), (Value.str "ikey" 770), (Value.str "user" 771), (Value.str "found" 772), (Value.str "level0" 773), (Value.str "i" 774), (Value.str "meta" 775), (Value.str "level" 776), (Value.str "files" 777)] 0) #[]
noncomputable def o478 (P : Params) : Obj := Obj.mk (Value.type "tuple") (Option.none) (Data.seq #[] 0) #[]
noncomputable def o479 (P : Params) : Obj := Obj.mk Value.none (Option.none) (Data.func fp70.1) #[]
noncomputable def o480 (P : Params) : Obj := Obj.mk (Value.type "code") (Option.none) (Data.fields #[(Value.str "candidates" 766), (Value.str "Version.candidates" 767), (Value.str "/claim/cut.py" 768), (Value.int 264 0), (Value.int 2 0), (Value.int 0 0), (Value.int 0 0), (Value.int 3 0), (Value.ref 408), (Value.bool Bool.true), (Value.int 181 0), (Value.ref 409), Value.none, (Value.ref 410), (Value.ref 411), (Value.ref 412), (Value.int 778 0), (Value.int 264 0), (Value.str "/claim/cut.py" 779)]) #[]
noncomputable def o481 (P : Params) : Obj := Obj.mk (Value.type "function") (Option.none) (Data.func fp71.1) #[]
noncomputable def o482 (P : Params) : Obj := Obj.mk (Value.type "tuple") (Option.none) (Data.seq #[] 0) #[]
noncomputable def o483 (P : Params) : Obj := Obj.mk Value.none (Option.none) (Data.fields #[]) #[]
noncomputable def o484 (P : Params) : Obj := Obj.mk (Value.type "tuple") (Option.none) (Data.seq #[(Value.str "self" 784), (Value.str "cache" 785), (Value.str "user" 786), (Value.str "seq" 787), (Value.str "ikey" 788), (Value.str "level" 789), (Value.str "meta" 790), (Value.str "entry" 791), (Value.str "there" 792), (Value.str "its_seq" 793), (Value.str "kind" 794)] 0) #[]
noncomputable def o485 (P : Params) : Obj := Obj.mk (Value.type "tuple") (Option.none) (Data.seq #[] 0) #[]
noncomputable def o486 (P : Params) : Obj := Obj.mk Value.none (Option.none) (Data.func fp72.1) #[]
noncomputable def o487 (P : Params) : Obj := Obj.mk (Value.type "code") (Option.none) (Data.fields #[(Value.str "get" 781), (Value.str "Version.get" 782), (Value.str "/claim/cut.py" 783), (Value.int 279 0), (Value.int 4 0), (Value.int 0 0), (Value.int 0 0), (Value.int 3 0), (Value.ref 415), (Value.bool Bool.true), (Value.int 181 0), (Value.ref 416), Value.none, (Value.ref 417), (Value.ref 418), (Value.ref 419), (Value.int 795 0), (Value.int 279 0), (Value.str "/claim/cut.py" 796)]) #[]
noncomputable def o488 (P : Params) : Obj := Obj.mk (Value.type "function") (Option.none) (Data.func fp73.1) #[]
noncomputable def o489 (P : Params) : Obj := Obj.mk (Value.type "tuple") (Option.none) (Data.seq #[] 0) #[]
noncomputable def o490 (P : Params) : Obj := Obj.mk Value.none (Option.none) (Data.fields #[]) #[]
noncomputable def o491 (P : Params) : Obj := Obj.mk (Value.type "tuple") (Option.none) (Data.seq #[(Value.str "self" 801), (Value.str "level" 802), (Value.str "low" 803), (Value.str "high" 804), (Value.str "files" 805), (Value.str "meta" 806), (Value.str "before" 807), (Value.str "behind" 808), (Value.str "i" 809)] 0) #[]
noncomputable def o492 (P : Params) : Obj := Obj.mk (Value.type "tuple") (Option.none) (Data.seq #[] 0) #[]
noncomputable def o493 (P : Params) : Obj := Obj.mk Value.none (Option.none) (Data.func fp74.1) #[]
noncomputable def o494 (P : Params) : Obj := Obj.mk (Value.type "code") (Option.none) (Data.fields #[(Value.str "overlaps" 798), (Value.str "Version.overlaps" 799), (Value.str "/claim/cut.py" 800), (Value.int 292 0), (Value.int 4 0), (Value.int 0 0), (Value.int 0 0), (Value.int 3 0), (Value.ref 422), (Value.bool Bool.true), (Value.int 181 0), (Value.ref 423), Value.none, (Value.ref 424), (Value.ref 425), (Value.ref 426), (Value.int 810 0), (Value.int 292 0), (Value.str "/claim/cut.py" 811)]) #[]
noncomputable def o495 (P : Params) : Obj := Obj.mk (Value.type "function") (Option.none) (Data.func fp75.1) #[]
noncomputable def o496 (P : Params) : Obj := Obj.mk (Value.type "tuple") (Option.none) (Data.seq #[] 0) #[]
noncomputable def o497 (P : Params) : Obj := Obj.mk Value.none (Option.none) (Data.fields #[]) #[]
noncomputable def o498 (P : Params) : Obj := Obj.mk (Value.type "tuple") (Option.none) (Data.seq #[(Value.str "self" 816), (Value.str "low" 817), (Value.str "high" 818), (Value.str "options" 819)] 0) #[]
noncomputable def o499 (P : Params) : Obj := Obj.mk (Value.type "tuple") (Option.none) (Data.seq #[] 0) #[]
noncomputable def o500 (P : Params) : Obj := Obj.mk Value.none (Option.none) (Data.func fp76.1) #[]
noncomputable def o501 (P : Params) : Obj := Obj.mk (Value.type "code") (Option.none) (Data.fields #[(Value.str "level_for_mem" 813), (Value.str "Version.level_for_mem" 814), (Value.str "/claim/cut.py" 815), (Value.int 308 0), (Value.int 4 0), (Value.int 0 0), (Value.int 0 0), (Value.int 3 0), (Value.ref 429), (Value.bool Bool.true), (Value.int 181 0), (Value.ref 430), Value.none, (Value.ref 431), (Value.ref 432), (Value.ref 433), (Value.int 820 0), (Value.int 308 0), (Value.str "/claim/cut.py" 821)]) #[]
noncomputable def o502 (P : Params) : Obj := Obj.mk (Value.type "function") (Option.none) (Data.func fp77.1) #[]
noncomputable def o503 (P : Params) : Obj := Obj.mk (Value.type "tuple") (Option.none) (Data.seq #[] 0) #[]
noncomputable def o504 (P : Params) : Obj := Obj.mk Value.none (Option.none) (Data.fields #[]) #[]
noncomputable def o505 (P : Params) : Obj := Obj.mk (Value.type "tuple") (Option.none) (Data.seq #[(Value.str "self" 826), (Value.str "level" 827), (Value.str "octets" 828), (Value.str "meta" 829)] 0) #[]
noncomputable def o506 (P : Params) : Obj := Obj.mk (Value.type "tuple") (Option.none) (Data.seq #[] 0) #[]
noncomputable def o507 (P : Params) : Obj := Obj.mk Value.none (Option.none) (Data.func fp78.1) #[]
noncomputable def o508 (P : Params) : Obj := Obj.mk (Value.type "code") (Option.none) (Data.fields #[(Value.str "level_octets" 823), (Value.str "Version.level_octets" 824), (Value.str "/claim/cut.py" 825), (Value.int 311 0), (Value.int 2 0), (Value.int 0 0), (Value.int 0 0), (Value.int 3 0), (Value.ref 436), (Value.bool Bool.true), (Value.int 181 0), (Value.ref 437), Value.none, (Value.ref 438), (Value.ref 439), (Value.ref 440), (Value.int 830 0), (Value.int 311 0), (Value.str "/claim/cut.py" 831)]) #[]
noncomputable def o509 (P : Params) : Obj := Obj.mk (Value.type "function") (Option.none) (Data.func fp79.1) #[]
noncomputable def o510 (P : Params) : Obj := Obj.mk (Value.type "tuple") (Option.none) (Data.seq #[] 0) #[]
noncomputable def o511 (P : Params) : Obj := Obj.mk Value.none (Option.none) (Data.fields #[]) #[]
noncomputable def o512 (P : Params) : Obj := Obj.mk (Value.type "tuple") (Option.none) (Data.seq #[(Value.str "self" 836), (Value.str "found" 837), (Value.str "files" 838), (Value.str "meta" 839)] 0) #[]
noncomputable def o513 (P : Params) : Obj := Obj.mk (Value.type "tuple") (Option.none) (Data.seq #[] 0) #[]
noncomputable def o514 (P : Params) : Obj := Obj.mk Value.none (Option.none) (Data.func fp80.1) #[]
noncomputable def o515 (P : Params) : Obj := Obj.mk (Value.type "code") (Option.none) (Data.fields #[(Value.str "numbers" 833), (Value.str "Version.numbers" 834), (Value.str "/claim/cut.py" 835), (Value.int 317 0), (Value.int 1 0), (Value.int 0 0), (Value.int 0 0), (Value.int 3 0), (Value.ref 443), (Value.bool Bool.true), (Value.int 181 0), (Value.ref 444), Value.none, (Value.ref 445), (Value.ref 446), (Value.ref 447), (Value.int 840 0), (Value.int 317 0), (Value.str "/claim/cut.py" 841)]) #[]
noncomputable def o516 (P : Params) : Obj := Obj.mk (Value.type "function") (Option.none) (Data.func fp81.1) #[]
noncomputable def o517 (P : Params) : Obj := Obj.mk (Value.type "tuple") (Option.none) (Data.seq #[] 0) #[]
noncomputable def o518 (P : Params) : Obj := Obj.mk Value.none (Option.none) (Data.fields #[]) #[]
noncomputable def o519 (P : Params) : Obj := Obj.mk (Value.type "tuple") (Option.none) (Data.seq #[(Value.str "self" 846), (Value.str "cache" 847)] 0) #[]
noncomputable def o520 (P : Params) : Obj := Obj.mk (Value.type "tuple") (Option.none) (Data.seq #[] 0) #[]
noncomputable def o521 (P : Params) : Obj := Obj.mk Value.none (Option.none) (Data.func fp82.1) #[]
noncomputable def o522 (P : Params) : Obj := Obj.mk (Value.type "code") (Option.none) (Data.fields #[(Value.str "iterators" 843), (Value.str "Version.iterators" 844), (Value.str "/claim/cut.py" 845), (Value.int 324 0), (Value.int 2 0), (Value.int 0 0), (Value.int 0 0), (Value.int 3 0), (Value.ref 450), (Value.bool Bool.true), (Value.int 181 0), (Value.ref 451), Value.none, (Value.ref 452), (Value.ref 453), (Value.ref 454), (Value.int 848 0), (Value.int 324 0), (Value.str "/claim/cut.py" 849)]) #[]
noncomputable def o523 (P : Params) : Obj := Obj.mk (Value.type "function") (Option.none) (Data.func fp83.1) #[]
noncomputable def o524 (P : Params) : Obj := Obj.mk (Value.type "tuple") (Option.none) (Data.seq #[] 0) #[]
noncomputable def o525 (P : Params) : Obj := Obj.mk Value.none (Option.none) (Data.fields #[]) #[]
noncomputable def o526 (P : Params) : Obj := Obj.mk (Value.type "tuple") (Option.none) (Data.seq #[(Value.str "self" 854), (Value.str "numbers" 855), (Value.str "i" 856), (Value.str "level" 857), (Value.str "files" 858), (Value.str "meta" 859), (Value.str "before" 860)] 0) #[]
noncomputable def o527 (P : Params) : Obj := Obj.mk (Value.type "tuple") (Option.none) (Data.seq #[] 0) #[]
noncomputable def o528 (P : Params) : Obj := Obj.mk Value.none (Option.none) (Data.func fp84.1) #[]
noncomputable def o529 (P : Params) : Obj := Obj.mk (Value.type "code") (Option.none) (Data.fields #[(Value.str "check" 851), (Value.str "Version.check" 852), (Value.str "/claim/cut.py" 853), (Value.int 327 0), (Value.int 1 0), (Value.int 0 0), (Value.int 0 0), (Value.int 3 0), (Value.ref 457), (Value.bool Bool.true), (Value.int 181 0), (Value.ref 458), Value.none, (Value.ref 459), (Value.ref 460), (Value.ref 461), (Value.int 861 0), (Value.int 327 0), (Value.str "/claim/cut.py" 862)]) #[]
noncomputable def o530 (P : Params) : Obj := Obj.mk (Value.type "function") (Option.none) (Data.func fp85.1) #[]
noncomputable def o531 (P : Params) : Obj := Obj.mk (Value.type "tuple") (Option.none) (Data.seq #[(Value.str "files" 864), (Value.str "num_levels" 865), (Value.str "order" 866), (Value.str "refs" 867), (Value.str "score" 868), (Value.str "score_level" 869)] 0) #[]
noncomputable def o532 (P : Params) : Obj := Obj.mk (Value.type "dict") (Option.none) (Data.dict #[(DictEntry.mk (PyData.keyHash P "__module__") (Value.str "__module__" 734) (Value.str "raftkeep.versions" 619)), (DictEntry.mk (PyData.keyHash P "__firstlineno__") (Value.str "__firstlineno__" 738) (Value.int 226 737)), (DictEntry.mk (PyData.keyHash P "__init__") (Value.str "__init__" 748) (Value.ref 400)), (DictEntry.mk (PyData.keyHash P "overlapping") (Value.str "overlapping" 765) (Value.ref 407)), (DictEntry.mk (PyData.keyHash P "candidates") (Value.str "candidates" 780) (Value.ref 414)), (DictEntry.mk (PyData.keyHash P "get") (Value.str "get" 797) (Value.ref 421)), (DictEntry.mk (PyData.keyHash P "overlaps") (Value.str "overlaps" 812) (Value.ref 428)), (DictEntry.mk (PyData.keyHash P "level_for_mem") (Value.str "level_for_mem" 822) (Value.ref 435)), (DictEntry.mk (PyData.keyHash P "level_octets") (Value.str "level_octets" 832) (Value.ref 442)), (DictEntry.mk (PyData.keyHash P "numbers") (Value.str "numbers" 842) (Value.ref 449)), (DictEntry.mk (PyData.keyHash P "iterators") (Value.str "iterators" 850) (Value.ref 456)), (DictEntry.mk (PyData.keyHash P "check") (Value.str "check" 863) (Value.ref 463)), (DictEntry.mk (PyData.keyHash P "__static_attributes__") (Value.str "__static_attributes__" 870) (Value.ref 464)), (DictEntry.mk (PyData.keyHash P "__dict__") (Value.str "__dict__" 872) (Value.ref 467)), (DictEntry.mk (PyData.keyHash P "__weakref__") (Value.str "__weakref__" 874) (Value.ref 468)), (DictEntry.mk (PyData.keyHash P "__doc__") (Value.str "__doc__" 875) Value.none)] 4) #[]
noncomputable def o533 (P : Params) : Obj := Obj.mk (Value.type "type") (Option.none) (Data.cls (ClassData.mk "Version" [(Value.type "object")] [(Value.ref 466), (Value.type "object")] 465 "Version" Bool.true [] [] Bool.false (Option.none) Bool.false)) #[(Option.none), (Option.none), (Option.some (Value.str "Version" 727)), (Option.some (Value.str "Version" 735)), (Option.some (Value.builtin "object.__new__")), (Option.some (Value.bool Bool.true))]
noncomputable def o534 (P : Params) : Obj := Obj.mk (Value.type "getset_descriptor") (Option.none) (Data.fields #[(Value.str "__dict__" 871), (Value.ref 466), (Value.builtin "function.__dict__"), (Value.builtin "function.__dict__#set")]) #[]
noncomputable def o535 (P : Params) : Obj := Obj.mk (Value.type "getset_descriptor") (Option.none) (Data.fields #[(Value.str "__weakref__" 873), (Value.ref 466), (Value.builtin "ExceptionGroup.__weakref__"), Value.none]) #[]
noncomputable def o536 (P : Params) : Obj := Obj.mk (Value.type "super") (Option.none) (Data.fields #[(Value.ref 466), (Value.ref 466), (Value.ref 466)]) #[]
noncomputable def o537 (P : Params) : Obj := Obj.mk (Value.type "builtin_function_or_method") (Option.none) (Data.fields #[(Value.builtin "object.__init_subclass__"), (Value.ref 466)]) #[]
noncomputable def o538 (P : Params) : Obj := Obj.mk (Value.type "dict") (Option.none) (Data.dict #[(DictEntry.mk (PyData.keyHash P "__name__") (Value.str "__name__" 165) (Value.str "raftkeep.versionset" 878)), (DictEntry.mk (PyData.keyHash P "__doc__") (Value.str "__doc__" 166) Value.none), (DictEntry.mk (PyData.keyHash P "__package__") (Value.str "__package__" 167) Value.none), (DictEntry.mk (PyData.keyHash P "__loader__") (Value.str "__loader__" 168) (Value.builtin "__main__.__loader__#opaque")), (DictEntry.mk (PyData.keyHash P "__spec__") (Value.str "__spec__" 169) Value.none), (DictEntry.mk (PyData.keyHash P "__annotations__") (Value.str "__annotations__" 170) (Value.ref 6)), (DictEntry.mk (PyData.keyHash P "__builtins__") (Value.str "__builtins__" 171) (Value.ref 4)), (DictEntry.mk (PyData.keyHash P "__file__") (Value.str "__file__" 173) (Value.str "/claim/cut.py" 172)), (DictEntry.mk (PyData.keyHash P "__cached__") (Value.str "__cached__" 174) Value.none), (DictEntry.mk (PyData.keyHash P "_wall") (Value.str "_wall" 193) (Value.ref 21)), (DictEntry.mk (PyData.keyHash P "KeepError") (Value.str "KeepError" 215) (Value.ref 31)), (DictEntry.mk (PyData.keyHash P "StoreError") (Value.str "StoreError" 231) (Value.ref 44)), (DictEntry.mk (PyData.keyHash P "Corrupt") (Value.str "Corrupt" 247) (Value.ref 56)), (DictEntry.mk (PyData.keyHash P "ShortOctets") (Value.str "ShortOctets" 263) (Value.ref 68)), (DictEntry.mk (PyData.keyHash P "BadOption") (Value.str "BadOption" 279) (Value.ref 80)), (DictEntry.mk (PyData.keyHash P "MAX_32") (Value.str "MAX_32" 283) (Value.int 4294967295 282)), (DictEntry.mk (PyData.keyHash P "MAX_64") (Value.str "MAX_64" 285) (Value.int 18446744073709551615 284)), (DictEntry.mk (PyData.keyHash P "CHECK_CRC") (Value.str "CHECK_CRC" 287) (Value.int 1 286)), (DictEntry.mk (PyData.keyHash P "CHECK_SUM") (Value.str "CHECK_SUM" 289) (Value.int 2 288)), (DictEntry.mk (PyData.keyHash P "put_fixed32") (Value.str "put_fixed32" 296) (Value.ref 89)), (DictEntry.mk (PyData.keyHash P "put_fixed64") (Value.str "put_fixed64" 303) (Value.ref 96)), (DictEntry.mk (PyData.keyHash P "read_fixed32") (Value.str "read_fixed32" 311) (Value.ref 103)), (DictEntry.mk (PyData.keyHash P "read_fixed64") (Value.str "read_fixed64" 319) (Value.ref 110)), (DictEntry.mk (PyData.keyHash P "KIND_DELETE") (Value.str "KIND_DELETE" 323) (Value.int 0 322)), (DictEntry.mk (PyData.keyHash P "KIND_VALUE") (Value.str "KIND_VALUE" 325) (Value.int 1 324)), (DictEntry.mk (PyData.keyHash P "KIND_SEEK") (Value.str "KIND_SEEK" 327) (Value.int 1 326)), (DictEntry.mk (PyData.keyHash P "MAX_SEQ") (Value.str "MAX_SEQ" 329) (Value.int 72057594037927935 328)), (DictEntry.mk (PyData.keyHash P "TAG_LENGTH") (Value.str "TAG_LENGTH" 331) (Value.int 8 330)), (DictEntry.mk (PyData.keyHash P "LEAST_BLOCK") (Value.str "LEAST_BLOCK" 333) (Value.int 8 332)), (DictEntry.mk (PyData.keyHash P "MOST_BLOCK") (Value.str "MOST_BLOCK" 335) (Value.int 65542 334)), (DictEntry.mk (PyData.keyHash P "MOST_LEVELS") (Value.str "MOST_LEVELS" 337) (Value.int 12 336)), (DictEntry.mk (PyData.keyHash P "pack_tag") (Value.str "pack_tag" 345) (Value.ref 117)), (DictEntry.mk (PyData.keyHash P "make_ikey") (Value.str "make_ikey" 354) (Value.ref 124)), (DictEntry.mk (PyData.keyHash P "split_ikey") (Value.str "split_ikey" 364) (Value.ref 131)), (DictEntry.mk (PyData.keyHash P "user_of") (Value.str "user_of" 371) (Value.ref 138)), (DictEntry.mk (PyData.keyHash P "tag_of") (Value.str "tag_of" 378) (Value.ref 145)), (DictEntry.mk (PyData.keyHash P "Order") (Value.str "Order" 431) (Value.ref 183)), (DictEntry.mk (PyData.keyHash P "BytesOrder") (Value.str "BytesOrder" 471) (Value.ref 218)), (DictEntry.mk (PyData.keyHash P "InternalOrder") (Value.str "InternalOrder" 541) (Value.ref 272)), (DictEntry.mk (PyData.keyHash P "Options") (Value.str "Options" 609) (Value.ref 305)), (DictEntry.mk (PyData.keyHash P "check_heights") (Value.str "check_heights" 618) (Value.ref 316)), (DictEntry.mk (PyData.keyHash P "FileMeta") (Value.str "FileMeta" 662) (Value.ref 340)), (DictEntry.mk (PyData.keyHash P "VersionEdit") (Value.str "VersionEdit" 714) (Value.ref 375)), (DictEntry.mk (PyData.keyHash P "find_file") (Value.str "find_file" 726) (Value.ref 386)), (DictEntry.mk (PyData.keyHash P "Version") (Value.str "Version" 877) (Value.ref 466)), (DictEntry.mk (PyData.keyHash P "total_size") (Value.str "total_size" 888) (Value.ref 477)), (DictEntry.mk (PyData.keyHash P "key_range") (Value.str "key_range" 899) (Value.ref 484))] 47) #[]
noncomputable def o539 (P : Params) : Obj := Obj.mk Value.none (Option.none) (Data.fields #[(Value.int 1 0), (Value.int 0 0), (Value.ref 20), (Value.int 5 0), (Value.int 0 0), (Value.ref 27), (Value.int 7 0), (Value.int 0 0), (Value.ref 40), (Value.int 9 0), (Value.int 0 0), (Value.ref 52), (Value.int 11 0), (Value.int 0 0), (Value.ref 64), (Value.int 13 0), (Value.int 0 0), (Value.ref 76), (Value.int 20 0), (Value.int 0 0), (Value.ref 88), (Value.int 24 0), (Value.int 0 0), (Value.ref 95), (Value.int 28 0), (Value.int 0 0), (Value.ref 102), (Value.int 32 0), (Value.int 0 0), (Value.ref 109), (Value.int 45 0), (Value.int 0 0), (Value.ref 116), (Value.int 51 0), (Value.int 0 0), (Value.ref 123), (Value.int 53 0), (Value.int 0 0), (Value.ref 130), (Value.int 60 0), (Value.int 0 0), (Value.ref 137), (Value.int 64 0), (Value.int 0 0), (Value.ref 144), (Value.int 68 0), (Value.int 0 0), (Value.ref 151), (Value.int 85 0), (Value.int 0 0), (Value.ref 193), (Value.int 95 0), (Value.int 0 0), (Value.ref 226), (Value.int 123 0), (Value.int 0 0), (Value.ref 280), (Value.int 179 0), (Value.int 0 0), (Value.ref 315), (Value.int 186 0), (Value.int 0 0), (Value.ref 322), (Value.int 196 0), (Value.int 0 0), (Value.ref 350), (Value.int 216 0), (Value.int 0 0), (Value.ref 385), (Value.int 226 0), (Value.int 0 0), (Value.ref 392), (Value.int 347 0), (Value.int 0 0), (Value.ref 476), (Value.int 352 0), (Value.int 0 0), (Value.ref 483)]) #[]
noncomputable def o540 (P : Params) : Obj := Obj.mk (Value.type "tuple") (Option.none) (Data.seq #[] 0) #[]
noncomputable def o541 (P : Params) : Obj := Obj.mk Value.none (Option.none) (Data.fields #[]) #[]
noncomputable def o542 (P : Params) : Obj := Obj.mk (Value.type "tuple") (Option.none) (Data.seq #[(Value.str "files" 883), (Value.str "total" 884), (Value.str "meta" 885)] 0) #[]
noncomputable def o543 (P : Params) : Obj := Obj.mk (Value.type "tuple") (Option.none) (Data.seq #[] 0) #[]
noncomputable def o544 (P : Params) : Obj := Obj.mk Value.none (Option.none) (Data.func fp86.1) #[]
noncomputable def o545 (P : Params) : Obj := Obj.mk (Value.type "code") (Option.none) (Data.fields #[(Value.str "total_size" 880), (Value.str "total_size" 881), (Value.str "/claim/cut.py" 882), (Value.int 347 0), (Value.int 1 0), (Value.int 0 0), (Value.int 0 0), (Value.int 3 0), (Value.ref 471), (Value.bool Bool.true), (Value.int 181 0), (Value.ref 472), Value.none, (Value.ref 473), (Value.ref 474), (Value.ref 475), (Value.int 886 0), (Value.int 347 0), (Value.str "/claim/cut.py" 887)]) #[]
noncomputable def o546 (P : Params) : Obj := Obj.mk (Value.type "function") (Option.none) (Data.func fp87.1) #[]
noncomputable def o547 (P : Params) : Obj := Obj.mk (Value.type "tuple") (Option.none) (Data.seq #[] 0) #[]
noncomputable def o548 (P : Params) : Obj := Obj.mk Value.none (Option.none) (Data.fields #[]) #[]
noncomputable def o549 (P : Params) : Obj := Obj.mk (Value.type "tuple") (Option.none) (Data.seq #[(Value.str "files" 892), (Value.str "order" 893), (Value.str "smallest" 894), (Value.str "largest" 895), (Value.str "meta" 896)] 0) #[]
noncomputable def o550 (P : Params) : Obj := Obj.mk (Value.type "tuple") (Option.none) (Data.seq #[] 0) #[]
noncomputable def o551 (P : Params) : Obj := Obj.mk Value.none (Option.none) (Data.func fp88.1) #[]
noncomputable def o552 (P : Params) : Obj := Obj.mk (Value.type "code") (Option.none) (Data.fields #[(Value.str "key_range" 889), (Value.str "key_range" 890), (Value.str "/claim/cut.py" 891), (Value.int 352 0), (Value.int 2 0), (Value.int 0 0), (Value.int 0 0), (Value.int 3 0), (Value.ref 478), (Value.bool Bool.true), (Value.int 181 0), (Value.ref 479), Value.none, (Value.ref 480), (Value.ref 481), (Value.ref 482), (Value.int 897 0), (Value.int 352 0), (Value.str "/claim/cut.py" 898)]) #[]
noncomputable def o553 (P : Params) : Obj := Obj.mk (Value.type "function") (Option.none) (Data.func fp89.1) #[]
noncomputable def o554 (P : Params) : Obj := Obj.mk (Value.type "dict") (Option.none) (Data.dict #[(DictEntry.mk (PyData.keyHash P "__name__") (Value.str "__name__" 165) (Value.str "raftkeep.versionset" 878)), (DictEntry.mk (PyData.keyHash P "__doc__") (Value.str "__doc__" 166) Value.none), (DictEntry.mk (PyData.keyHash P "__package__") (Value.str "__package__" 167) Value.none), (DictEntry.mk (PyData.keyHash P "__loader__") (Value.str "__loader__" 168) (Value.builtin "__main__.__loader__#opaque")), (DictEntry.mk (PyData.keyHash P "__spec__") (Value.str "__spec__" 169) Value.none), (DictEntry.mk (PyData.keyHash P "__annotations__") (Value.str "__annotations__" 170) (Value.ref 6)), (DictEntry.mk (PyData.keyHash P "__builtins__") (Value.str "__builtins__" 171) (Value.ref 4)), (DictEntry.mk (PyData.keyHash P "__file__") (Value.str "__file__" 173) (Value.str "/claim/cut.py" 172)), (DictEntry.mk (PyData.keyHash P "__cached__") (Value.str "__cached__" 174) Value.none), (DictEntry.mk (PyData.keyHash P "_wall") (Value.str "_wall" 193) (Value.ref 21)), (DictEntry.mk (PyData.keyHash P "KeepError") (Value.str "KeepError" 215) (Value.ref 31)), (DictEntry.mk (PyData.keyHash P "StoreError") (Value.str "StoreError" 231) (Value.ref 44)), (DictEntry.mk (PyData.keyHash P "Corrupt") (Value.str "Corrupt" 247) (Value.ref 56)), (DictEntry.mk (PyData.keyHash P "ShortOctets") (Value.str "ShortOctets" 263) (Value.ref 68)), (DictEntry.mk (PyData.keyHash P "BadOption") (Value.str "BadOption" 279) (Value.ref 80)), (DictEntry.mk (PyData.keyHash P "MAX_32") (Value.str "MAX_32" 283) (Value.int 4294967295 282)), (DictEntry.mk (PyData.keyHash P "MAX_64") (Value.str "MAX_64" 285) (Value.int 18446744073709551615 284)), (DictEntry.mk (PyData.keyHash P "CHECK_CRC") (Value.str "CHECK_CRC" 287) (Value.int 1 286)), (DictEntry.mk (PyData.keyHash P "CHECK_SUM") (Value.str "CHECK_SUM" 289) (Value.int 2 288)), (DictEntry.mk (PyData.keyHash P "put_fixed32") (Value.str "put_fixed32" 296) (Value.ref 89)), (DictEntry.mk (PyData.keyHash P "put_fixed64") (Value.str "put_fixed64" 303) (Value.ref 96)), (DictEntry.mk (PyData.keyHash P "read_fixed32") (Value.str "read_fixed32" 311) (Value.ref 103)), (DictEntry.mk (PyData.keyHash P "read_fixed64") (Value.str "read_fixed64" 319) (Value.ref 110)), (DictEntry.mk (PyData.keyHash P "KIND_DELETE") (Value.str "KIND_DELETE" 323) (Value.int 0 322)), (DictEntry.mk (PyData.keyHash P "KIND_VALUE") (Value.str "KIND_VALUE" 325) (Value.int 1 324)), (DictEntry.mk (PyData.keyHash P "KIND_SEEK") (Value.str "KIND_SEEK" 327) (Value.int 1 326)), (DictEntry.mk (PyData.keyHash P "MAX_SEQ") (Value.str "MAX_SEQ" 329) (Value.int 72057594037927935 328)), (DictEntry.mk (PyData.keyHash P "TAG_LENGTH") (Value.str "TAG_LENGTH" 331) (Value.int 8 330)), (DictEntry.mk (PyData.keyHash P "LEAST_BLOCK") (Value.str "LEAST_BLOCK" 333) (Value.int 8 332)), (DictEntry.mk (PyData.keyHash P "MOST_BLOCK") (Value.str "MOST_BLOCK" 335) (Value.int 65542 334)), (DictEntry.mk (PyData.keyHash P "MOST_LEVELS") (Value.str "MOST_LEVELS" 337) (Value.int 12 336)), (DictEntry.mk (PyData.keyHash P "pack_tag") (Value.str "pack_tag" 345) (Value.ref 117)), (DictEntry.mk (PyData.keyHash P "make_ikey") (Value.str "make_ikey" 354) (Value.ref 124)), (DictEntry.mk (PyData.keyHash P "split_ikey") (Value.str "split_ikey" 364) (Value.ref 131)), (DictEntry.mk (PyData.keyHash P "user_of") (Value.str "user_of" 371) (Value.ref 138)), (DictEntry.mk (PyData.keyHash P "tag_of") (Value.str "tag_of" 378) (Value.ref 145)), (DictEntry.mk (PyData.keyHash P "Order") (Value.str "Order" 431) (Value.ref 183)), (DictEntry.mk (PyData.keyHash P "BytesOrder") (Value.str "BytesOrder" 471) (Value.ref 218)), (DictEntry.mk (PyData.keyHash P "InternalOrder") (Value.str "InternalOrder" 541) (Value.ref 272)), (DictEntry.mk (PyData.keyHash P "Options") (Value.str "Options" 609) (Value.ref 305)), (DictEntry.mk (PyData.keyHash P "check_heights") (Value.str "check_heights" 618) (Value.ref 316)), (DictEntry.mk (PyData.keyHash P "FileMeta") (Value.str "FileMeta" 662) (Value.ref 340)), (DictEntry.mk (PyData.keyHash P "VersionEdit") (Value.str "VersionEdit" 714) (Value.ref 375)), (DictEntry.mk (PyData.keyHash P "find_file") (Value.str "find_file" 726) (Value.ref 386)), (DictEntry.mk (PyData.keyHash P "Version") (Value.str "Version" 877) (Value.ref 466)), (DictEntry.mk (PyData.keyHash P "total_size") (Value.str "total_size" 888) (Value.ref 477)), (DictEntry.mk (PyData.keyHash P "key_range") (Value.str "key_range" 899) (Value.ref 484)), (DictEntry.mk (PyData.keyHash P "Compaction") (Value.str "Compaction" 979) (Value.ref 536))] 48) #[]
noncomputable def o555 (P : Params) : Obj := Obj.mk Value.none (Option.none) (Data.fields #[(Value.int 1 0), (Value.int 0 0), (Value.ref 20), (Value.int 5 0), (Value.int 0 0), (Value.ref 27), (Value.int 7 0), (Value.int 0 0), (Value.ref 40), (Value.int 9 0), (Value.int 0 0), (Value.ref 52), (Value.int 11 0), (Value.int 0 0), (Value.ref 64), (Value.int 13 0), (Value.int 0 0), (Value.ref 76), (Value.int 20 0), (Value.int 0 0), (Value.ref 88), (Value.int 24 0), (Value.int 0 0), (Value.ref 95), (Value.int 28 0), (Value.int 0 0), (Value.ref 102), (Value.int 32 0), (Value.int 0 0), (Value.ref 109), (Value.int 45 0), (Value.int 0 0), (Value.ref 116), (Value.int 51 0), (Value.int 0 0), (Value.ref 123), (Value.int 53 0), (Value.int 0 0), (Value.ref 130), (Value.int 60 0), (Value.int 0 0), (Value.ref 137), (Value.int 64 0), (Value.int 0 0), (Value.ref 144), (Value.int 68 0), (Value.int 0 0), (Value.ref 151), (Value.int 85 0), (Value.int 0 0), (Value.ref 193), (Value.int 95 0), (Value.int 0 0), (Value.ref 226), (Value.int 123 0), (Value.int 0 0), (Value.ref 280), (Value.int 179 0), (Value.int 0 0), (Value.ref 315), (Value.int 186 0), (Value.int 0 0), (Value.ref 322), (Value.int 196 0), (Value.int 0 0), (Value.ref 350), (Value.int 216 0), (Value.int 0 0), (Value.ref 385), (Value.int 226 0), (Value.int 0 0), (Value.ref 392), (Value.int 347 0), (Value.int 0 0), (Value.ref 476), (Value.int 352 0), (Value.int 0 0), (Value.ref 483), (Value.int 361 0), (Value.int 0 0), (Value.ref 490)]) #[]
noncomputable def o556 (P : Params) : Obj := Obj.mk (Value.type "tuple") (Option.none) (Data.seq #[] 0) #[]
noncomputable def o557 (P : Params) : Obj := Obj.mk (Value.type "builtin_function_or_method") (Option.none) (Data.fields #[(Value.builtin "type.__prepare__"), (Value.type "type")]) #[]
noncomputable def o558 (P : Params) : Obj := Obj.mk (Value.type "dict") (Option.none) (Data.dict #[(DictEntry.mk (PyData.keyHash P "__module__") (Value.str "__module__" 907) (Value.str "raftkeep.versionset" 878)), (DictEntry.mk (PyData.keyHash P "__qualname__") (Value.str "__qualname__" 909) (Value.str "Compaction" 908)), (DictEntry.mk (PyData.keyHash P "__firstlineno__") (Value.str "__firstlineno__" 911) (Value.int 361 910)), (DictEntry.mk (PyData.keyHash P "__init__") (Value.str "__init__" 921) (Value.ref 498)), (DictEntry.mk (PyData.keyHash P "grand_limit") (Value.str "grand_limit" 928) (Value.ref 505)), (DictEntry.mk (PyData.keyHash P "trivial") (Value.str "trivial" 935) (Value.ref 512)), (DictEntry.mk (PyData.keyHash P "stop_before") (Value.str "stop_before" 943) (Value.ref 519)), (DictEntry.mk (PyData.keyHash P "base_level_for") (Value.str "base_level_for" 951) (Value.ref 526)), (DictEntry.mk (PyData.keyHash P "add_deletions") (Value.str "add_deletions" 958) (Value.ref 533)), (DictEntry.mk (PyData.keyHash P "__static_attributes__") (Value.str "__static_attributes__" 972) (Value.ref 534))] 10) #[]
noncomputable def o559 (P : Params) : Obj := Obj.mk (Value.type "tuple") (Option.none) (Data.seq #[] 0) #[]
noncomputable def o560 (P : Params) : Obj := Obj.mk Value.none (Option.none) (Data.fields #[(Value.int 363 0), (Value.int 4 0), (Value.ref 497), (Value.int 378 0), (Value.int 4 0), (Value.ref 504), (Value.int 381 0), (Value.int 4 0), (Value.ref 511), (Value.int 384 0), (Value.int 4 0), (Value.ref 518), (Value.int 387 0), (Value.int 4 0), (Value.ref 525), (Value.int 390 0), (Value.int 4 0), (Value.ref 532)]) #[]
noncomputable def o561 (P : Params) : Obj := Obj.mk (Value.type "code") (Option.none) (Data.fields #[(Value.str "Compaction" 902), (Value.str "Compaction" 903), (Value.str "/claim/cut.py" 904), (Value.int 361 0), (Value.int 0 0), (Value.int 0 0), (Value.int 0 0), (Value.int 0 0), (Value.ref 488), (Value.bool Bool.false), (Value.int 181 0), (Value.ref 489), Value.none, Value.none, Value.none, Value.none, (Value.int 905 0), (Value.int 361 0), (Value.str "/claim/cut.py" 906)]) #[]
noncomputable def o562 (P : Params) : Obj := Obj.mk (Value.type "frame") (Option.none) Data.plain #[(Option.some (Value.ref 490)), (Option.some (Value.ref 3)), (Option.some (Value.ref 487)), (Option.none), (Option.some (Value.str "raftkeep.versionset" 878)), (Option.none), (Option.some (Value.ref 0))]
noncomputable def o563 (P : Params) : Obj := Obj.mk (Value.type "tuple") (Option.none) (Data.seq #[] 0) #[]
noncomputable def o564 (P : Params) : Obj := Obj.mk Value.none (Option.none) (Data.fields #[]) #[]
noncomputable def o565 (P : Params) : Obj := Obj.mk (Value.type "tuple") (Option.none) (Data.seq #[(Value.str "self" 915), (Value.str "level" 916), (Value.str "version" 917), (Value.str "options" 918)] 0) #[]
noncomputable def o566 (P : Params) : Obj := Obj.mk (Value.type "tuple") (Option.none) (Data.seq #[] 0) #[]
noncomputable def o567 (P : Params) : Obj := Obj.mk Value.none (Option.none) (Data.func fp90.1) #[]
noncomputable def o568 (P : Params) : Obj := Obj.mk (Value.type "code") (Option.none) (Data.fields #[(Value.str "__init__" 912), (Value.str "Compaction.__init__" 913), (Value.str "/claim/cut.py" 914), (Value.int 363 0), (Value.int 4 0), (Value.int 0 0), (Value.int 0 0), (Value.int 3 0), (Value.ref 492), (Value.bool Bool.true), (Value.int 181 0), (Value.ref 493), Value.none, (Value.ref 494), (Value.ref 495), (Value.ref 496), (Value.int 919 0), (Value.int 363 0), (Value.str "/claim/cut.py" 920)]) #[]
noncomputable def o569 (P : Params) : Obj := Obj.mk (Value.type "function") (Option.none) (Data.func fp91.1) #[]
noncomputable def o570 (P : Params) : Obj := Obj.mk (Value.type "tuple") (Option.none) (Data.seq #[] 0) #[]
noncomputable def o571 (P : Params) : Obj := Obj.mk Value.none (Option.none) (Data.fields #[]) #[]
noncomputable def o572 (P : Params) : Obj := Obj.mk (Value.type "tuple") (Option.none) (Data.seq #[(Value.str "self" 925)] 0) #[]
noncomputable def o573 (P : Params) : Obj := Obj.mk (Value.type "tuple") (Option.none) (Data.seq #[] 0) #[]
noncomputable def o574 (P : Params) : Obj := Obj.mk Value.none (Option.none) (Data.func fp92.1) #[]
noncomputable def o575 (P : Params) : Obj := Obj.mk (Value.type "code") (Option.none) (Data.fields #[(Value.str "grand_limit" 922), (Value.str "Compaction.grand_limit" 923), (Value.str "/claim/cut.py" 924), (Value.int 378 0), (Value.int 1 0), (Value.int 0 0), (Value.int 0 0), (Value.int 3 0), (Value.ref 499), (Value.bool Bool.true), (Value.int 181 0), (Value.ref 500), Value.none, (Value.ref 501), (Value.ref 502), (Value.ref 503), (Value.int 926 0), (Value.int 378 0), (Value.str "/claim/cut.py" 927)]) #[]
noncomputable def o576 (P : Params) : Obj := Obj.mk (Value.type "function") (Option.none) (Data.func fp93.1) #[]
noncomputable def o577 (P : Params) : Obj := Obj.mk (Value.type "tuple") (Option.none) (Data.seq #[] 0) #[]
noncomputable def o578 (P : Params) : Obj := Obj.mk Value.none (Option.none) (Data.fields #[]) #[]
noncomputable def o579 (P : Params) : Obj := Obj.mk (Value.type "tuple") (Option.none) (Data.seq #[(Value.str "self" 932)] 0) #[]
noncomputable def o580 (P : Params) : Obj := Obj.mk (Value.type "tuple") (Option.none) (Data.seq #[] 0) #[]
noncomputable def o581 (P : Params) : Obj := Obj.mk Value.none (Option.none) (Data.func fp94.1) #[]
noncomputable def o582 (P : Params) : Obj := Obj.mk (Value.type "code") (Option.none) (Data.fields #[(Value.str "trivial" 929), (Value.str "Compaction.trivial" 930), (Value.str "/claim/cut.py" 931), (Value.int 381 0), (Value.int 1 0), (Value.int 0 0), (Value.int 0 0), (Value.int 3 0), (Value.ref 506), (Value.bool Bool.true), (Value.int 181 0), (Value.ref 507), Value.none, (Value.ref 508), (Value.ref 509), (Value.ref 510), (Value.int 933 0), (Value.int 381 0), (Value.str "/claim/cut.py" 934)]) #[]
noncomputable def o583 (P : Params) : Obj := Obj.mk (Value.type "function") (Option.none) (Data.func fp95.1) #[]
noncomputable def o584 (P : Params) : Obj := Obj.mk (Value.type "tuple") (Option.none) (Data.seq #[] 0) #[]
noncomputable def o585 (P : Params) : Obj := Obj.mk Value.none (Option.none) (Data.fields #[]) #[]
noncomputable def o586 (P : Params) : Obj := Obj.mk (Value.type "tuple") (Option.none) (Data.seq #[(Value.str "self" 939), (Value.str "ikey" 940)] 0) #[]
noncomputable def o587 (P : Params) : Obj := Obj.mk (Value.type "tuple") (Option.none) (Data.seq #[] 0) #[]
noncomputable def o588 (P : Params) : Obj := Obj.mk Value.none (Option.none) (Data.func fp96.1) #[]
noncomputable def o589 (P : Params) : Obj := Obj.mk (Value.type "code") (Option.none) (Data.fields #[(Value.str "stop_before" 936), (Value.str "Compaction.stop_before" 937), (Value.str "/claim/cut.py" 938), (Value.int 384 0), (Value.int 2 0), (Value.int 0 0), (Value.int 0 0), (Value.int 3 0), (Value.ref 513), (Value.bool Bool.true), (Value.int 181 0), (Value.ref 514), Value.none, (Value.ref 515), (Value.ref 516), (Value.ref 517), (Value.int 941 0), (Value.int 384 0), (Value.str "/claim/cut.py" 942)]) #[]
noncomputable def o590 (P : Params) : Obj := Obj.mk (Value.type "function") (Option.none) (Data.func fp97.1) #[]
noncomputable def o591 (P : Params) : Obj := Obj.mk (Value.type "tuple") (Option.none) (Data.seq #[] 0) #[]
noncomputable def o592 (P : Params) : Obj := Obj.mk Value.none (Option.none) (Data.fields #[]) #[]
noncomputable def o593 (P : Params) : Obj := Obj.mk (Value.type "tuple") (Option.none) (Data.seq #[(Value.str "self" 947), (Value.str "user" 948)] 0) #[]
noncomputable def o594 (P : Params) : Obj := Obj.mk (Value.type "tuple") (Option.none) (Data.seq #[] 0) #[]
noncomputable def o595 (P : Params) : Obj := Obj.mk Value.none (Option.none) (Data.func fp98.1) #[]
noncomputable def o596 (P : Params) : Obj := Obj.mk (Value.type "code") (Option.none) (Data.fields #[(Value.str "base_level_for" 944), (Value.str "Compaction.base_level_for" 945), (Value.str "/claim/cut.py" 946), (Value.int 387 0), (Value.int 2 0), (Value.int 0 0), (Value.int 0 0), (Value.int 3 0), (Value.ref 520), (Value.bool Bool.true), (Value.int 181 0), (Value.ref 521), Value.none, (Value.ref 522), (Value.ref 523), (Value.ref 524), (Value.int 949 0), (Value.int 387 0), (Value.str "/claim/cut.py" 950)]) #[]
noncomputable def o597 (P : Params) : Obj := Obj.mk (Value.type "function") (Option.none) (Data.func fp99.1) #[]
noncomputable def o598 (P : Params) : Obj := Obj.mk (Value.type "tuple") (Option.none) (Data.seq #[] 0) #[]
noncomputable def o599 (P : Params) : Obj := Obj.mk Value.none (Option.none) (Data.fields #[]) #[]
noncomputable def o600 (P : Params) : Obj := Obj.mk (Value.type "tuple") (Option.none) (Data.seq #[(Value.str "self" 955)] 0) #[]
noncomputable def o601 (P : Params) : Obj := Obj.mk (Value.type "tuple") (Option.none) (Data.seq #[] 0) #[]
noncomputable def o602 (P : Params) : Obj := Obj.mk Value.none (Option.none) (Data.func fp100.1) #[]
noncomputable def o603 (P : Params) : Obj := Obj.mk (Value.type "code") (Option.none) (Data.fields #[(Value.str "add_deletions" 952), (Value.str "Compaction.add_deletions" 953), (Value.str "/claim/cut.py" 954), (Value.int 390 0), (Value.int 1 0), (Value.int 0 0), (Value.int 0 0), (Value.int 3 0), (Value.ref 527), (Value.bool Bool.true), (Value.int 181 0), (Value.ref 528), Value.none, (Value.ref 529), (Value.ref 530), (Value.ref 531), (Value.int 956 0), (Value.int 390 0), (Value.str "/claim/cut.py" 957)]) #[]
noncomputable def o604 (P : Params) : Obj := Obj.mk (Value.type "function") (Option.none) (Data.func fp101.1) #[]
noncomputable def o605 (P : Params) : Obj := Obj.mk (Value.type "tuple") (Option.none) (Data.seq #[(Value.str "edit" 959), (Value.str "grand_at" 960), (Value.str "grand_octets" 961), (Value.str "grandparents" 962), (Value.str "inputs" 963), (Value.str "level" 964), (Value.str "manual" 965), (Value.str "options" 966), (Value.str "order" 967), (Value.str "places" 968), (Value.str "seen_key" 969), (Value.str "users" 970), (Value.str "version" 971)] 0) #[]
noncomputable def o606 (P : Params) : Obj := Obj.mk (Value.type "dict") (Option.none) (Data.dict #[(DictEntry.mk (PyData.keyHash P "__module__") (Value.str "__module__" 907) (Value.str "raftkeep.versionset" 878)), (DictEntry.mk (PyData.keyHash P "__firstlineno__") (Value.str "__firstlineno__" 911) (Value.int 361 910)), (DictEntry.mk (PyData.keyHash P "__init__") (Value.str "__init__" 921) (Value.ref 498)), (DictEntry.mk (PyData.keyHash P "grand_limit") (Value.str "grand_limit" 928) (Value.ref 505)), (DictEntry.mk (PyData.keyHash P "trivial") (Value.str "trivial" 935) (Value.ref 512)), (DictEntry.mk (PyData.keyHash P "stop_before") (Value.str "stop_before" 943) (Value.ref 519)), (DictEntry.mk (PyData.keyHash P "base_level_for") (Value.str "base_level_for" 951) (Value.ref 526)), (DictEntry.mk (PyData.keyHash P "add_deletions") (Value.str "add_deletions" 958) (Value.ref 533)), (DictEntry.mk (PyData.keyHash P "__static_attributes__") (Value.str "__static_attributes__" 972) (Value.ref 534)), (DictEntry.mk (PyData.keyHash P "__dict__") (Value.str "__dict__" 974) (Value.ref 537)), (DictEntry.mk (PyData.keyHash P "__weakref__") (Value.str "__weakref__" 976) (Value.ref 538)), (DictEntry.mk (PyData.keyHash P "__doc__") (Value.str "__doc__" 977) Value.none)] 4) #[]
noncomputable def o607 (P : Params) : Obj := Obj.mk (Value.type "type") (Option.none) (Data.cls (ClassData.mk "Compaction" [(Value.type "object")] [(Value.ref 536), (Value.type "object")] 535 "Compaction" Bool.true [] [] Bool.false (Option.none) Bool.false)) #[(Option.none), (Option.none), (Option.some (Value.str "Compaction" 900)), (Option.some (Value.str "Compaction" 908)), (Option.some (Value.builtin "object.__new__")), (Option.some (Value.bool Bool.true))]
noncomputable def o608 (P : Params) : Obj := Obj.mk (Value.type "getset_descriptor") (Option.none) (Data.fields #[(Value.str "__dict__" 973), (Value.ref 536), (Value.builtin "function.__dict__"), (Value.builtin "function.__dict__#set")]) #[]
noncomputable def o609 (P : Params) : Obj := Obj.mk (Value.type "getset_descriptor") (Option.none) (Data.fields #[(Value.str "__weakref__" 975), (Value.ref 536), (Value.builtin "ExceptionGroup.__weakref__"), Value.none]) #[]
noncomputable def o610 (P : Params) : Obj := Obj.mk (Value.type "super") (Option.none) (Data.fields #[(Value.ref 536), (Value.ref 536), (Value.ref 536)]) #[]
noncomputable def o611 (P : Params) : Obj := Obj.mk (Value.type "builtin_function_or_method") (Option.none) (Data.fields #[(Value.builtin "object.__init_subclass__"), (Value.ref 536)]) #[]
noncomputable def o612 (P : Params) : Obj := Obj.mk (Value.type "dict") (Option.none) (Data.dict #[(DictEntry.mk (PyData.keyHash P "__name__") (Value.str "__name__" 165) (Value.str "raftkeep.versionset" 878)), (DictEntry.mk (PyData.keyHash P "__doc__") (Value.str "__doc__" 166) Value.none), (DictEntry.mk (PyData.keyHash P "__package__") (Value.str "__package__" 167) Value.none), (DictEntry.mk (PyData.keyHash P "__loader__") (Value.str "__loader__" 168) (Value.builtin "__main__.__loader__#opaque")), (DictEntry.mk (PyData.keyHash P "__spec__") (Value.str "__spec__" 169) Value.none), (DictEntry.mk (PyData.keyHash P "__annotations__") (Value.str "__annotations__" 170) (Value.ref 6)), (DictEntry.mk (PyData.keyHash P "__builtins__") (Value.str "__builtins__" 171) (Value.ref 4)), (DictEntry.mk (PyData.keyHash P "__file__") (Value.str "__file__" 173) (Value.str "/claim/cut.py" 172)), (DictEntry.mk (PyData.keyHash P "__cached__") (Value.str "__cached__" 174) Value.none), (DictEntry.mk (PyData.keyHash P "_wall") (Value.str "_wall" 193) (Value.ref 21)), (DictEntry.mk (PyData.keyHash P "KeepError") (Value.str "KeepError" 215) (Value.ref 31)), (DictEntry.mk (PyData.keyHash P "StoreError") (Value.str "StoreError" 231) (Value.ref 44)), (DictEntry.mk (PyData.keyHash P "Corrupt") (Value.str "Corrupt" 247) (Value.ref 56)), (DictEntry.mk (PyData.keyHash P "ShortOctets") (Value.str "ShortOctets" 263) (Value.ref 68)), (DictEntry.mk (PyData.keyHash P "BadOption") (Value.str "BadOption" 279) (Value.ref 80)), (DictEntry.mk (PyData.keyHash P "MAX_32") (Value.str "MAX_32" 283) (Value.int 4294967295 282)), (DictEntry.mk (PyData.keyHash P "MAX_64") (Value.str "MAX_64" 285) (Value.int 18446744073709551615 284)), (DictEntry.mk (PyData.keyHash P "CHECK_CRC") (Value.str "CHECK_CRC" 287) (Value.int 1 286)), (DictEntry.mk (PyData.keyHash P "CHECK_SUM") (Value.str "CHECK_SUM" 289) (Value.int 2 288)), (DictEntry.mk (PyData.keyHash P "put_fixed32") (Value.str "put_fixed32" 296) (Value.ref 89)), (DictEntry.mk (PyData.keyHash P "put_fixed64") (Value.str "put_fixed64" 303) (Value.ref 96)), (DictEntry.mk (PyData.keyHash P "read_fixed32") (Value.str "read_fixed32" 311) (Value.ref 103)), (DictEntry.mk (PyData.keyHash P "read_fixed64") (Value.str "read_fixed64" 319) (Value.ref 110)), (DictEntry.mk (PyData.keyHash P "KIND_DELETE") (Value.str "KIND_DELETE" 323) (Value.int 0 322)), (DictEntry.mk (PyData.keyHash P "KIND_VALUE") (Value.str "KIND_VALUE" 325) (Value.int 1 324)), (DictEntry.mk (PyData.keyHash P "KIND_SEEK") (Value.str "KIND_SEEK" 327) (Value.int 1 326)), (DictEntry.mk (PyData.keyHash P "MAX_SEQ") (Value.str "MAX_SEQ" 329) (Value.int 72057594037927935 328)), (DictEntry.mk (PyData.keyHash P "TAG_LENGTH") (Value.str "TAG_LENGTH" 331) (Value.int 8 330)), (DictEntry.mk (PyData.keyHash P "LEAST_BLOCK") (Value.str "LEAST_BLOCK" 333) (Value.int 8 332)), (DictEntry.mk (PyData.keyHash P "MOST_BLOCK") (Value.str "MOST_BLOCK" 335) (Value.int 65542 334)), (DictEntry.mk (PyData.keyHash P "MOST_LEVELS") (Value.str "MOST_LEVELS" 337) (Value.int 12 336)), (DictEntry.mk (PyData.keyHash P "pack_tag") (Value.str "pack_tag" 345) (Value.ref 117)), (DictEntry.mk (PyData.keyHash P "make_ikey") (Value.str "make_ikey" 354) (Value.ref 124)), (DictEntry.mk (PyData.keyHash P "split_ikey") (Value.str "split_ikey" 364) (Value.ref 131)), (DictEntry.mk (PyData.keyHash P "user_of") (Value.str "user_of" 371) (Value.ref 138)), (DictEntry.mk (PyData.keyHash P "tag_of") (Value.str "tag_of" 378) (Value.ref 145)), (DictEntry.mk (PyData.keyHash P "Order") (Value.str "Order" 431) (Value.ref 183)), (DictEntry.mk (PyData.keyHash P "BytesOrder") (Value.str "BytesOrder" 471) (Value.ref 218)), (DictEntry.mk (PyData.keyHash P "InternalOrder") (Value.str "InternalOrder" 541) (Value.ref 272)), (DictEntry.mk (PyData.keyHash P "Options") (Value.str "Options" 609) (Value.ref 305)), (DictEntry.mk (PyData.keyHash P "check_heights") (Value.str "check_heights" 618) (Value.ref 316)), (DictEntry.mk (PyData.keyHash P "FileMeta") (Value.str "FileMeta" 662) (Value.ref 340)), (DictEntry.mk (PyData.keyHash P "VersionEdit") (Value.str "VersionEdit" 714) (Value.ref 375)), (DictEntry.mk (PyData.keyHash P "find_file") (Value.str "find_file" 726) (Value.ref 386)), (DictEntry.mk (PyData.keyHash P "Version") (Value.str "Version" 877) (Value.ref 466)), (DictEntry.mk (PyData.keyHash P "total_size") (Value.str "total_size" 888) (Value.ref 477)), (DictEntry.mk (PyData.keyHash P "key_range") (Value.str "key_range" 899) (Value.ref 484)), (DictEntry.mk (PyData.keyHash P "Compaction") (Value.str "Compaction" 979) (Value.ref 536)), (DictEntry.mk (PyData.keyHash P "max_octets_of") (Value.str "max_octets_of" 988) (Value.ref 547)), (DictEntry.mk (PyData.keyHash P "score_of") (Value.str "score_of" 1002) (Value.ref 554))] 50) #[]
noncomputable def o613 (P : Params) : Obj := Obj.mk Value.none (Option.none) (Data.fields #[(Value.int 1 0), (Value.int 0 0), (Value.ref 20), (Value.int 5 0), (Value.int 0 0), (Value.ref 27), (Value.int 7 0), (Value.int 0 0), (Value.ref 40), (Value.int 9 0), (Value.int 0 0), (Value.ref 52), (Value.int 11 0), (Value.int 0 0), (Value.ref 64), (Value.int 13 0), (Value.int 0 0), (Value.ref 76), (Value.int 20 0), (Value.int 0 0), (Value.ref 88), (Value.int 24 0), (Value.int 0 0), (Value.ref 95), (Value.int 28 0), (Value.int 0 0), (Value.ref 102), (Value.int 32 0), (Value.int 0 0), (Value.ref 109), (Value.int 45 0), (Value.int 0 0), (Value.ref 116), (Value.int 51 0), (Value.int 0 0), (Value.ref 123), (Value.int 53 0), (Value.int 0 0), (Value.ref 130), (Value.int 60 0), (Value.int 0 0), (Value.ref 137), (Value.int 64 0), (Value.int 0 0), (Value.ref 144), (Value.int 68 0), (Value.int 0 0), (Value.ref 151), (Value.int 85 0), (Value.int 0 0), (Value.ref 193), (Value.int 95 0), (Value.int 0 0), (Value.ref 226), (Value.int 123 0), (Value.int 0 0), (Value.ref 280), (Value.int 179 0), (Value.int 0 0), (Value.ref 315), (Value.int 186 0), (Value.int 0 0), (Value.ref 322), (Value.int 196 0), (Value.int 0 0), (Value.ref 350), (Value.int 216 0), (Value.int 0 0), (Value.ref 385), (Value.int 226 0), (Value.int 0 0), (Value.ref 392), (Value.int 347 0), (Value.int 0 0), (Value.ref 476), (Value.int 352 0), (Value.int 0 0), (Value.ref 483), (Value.int 361 0), (Value.int 0 0), (Value.ref 490), (Value.int 392 0), (Value.int 0 0), (Value.ref 546), (Value.int 398 0), (Value.int 0 0), (Value.ref 553)]) #[]
noncomputable def o614 (P : Params) : Obj := Obj.mk (Value.type "tuple") (Option.none) (Data.seq #[] 0) #[]
noncomputable def o615 (P : Params) : Obj := Obj.mk Value.none (Option.none) (Data.fields #[]) #[]
noncomputable def o616 (P : Params) : Obj := Obj.mk (Value.type "tuple") (Option.none) (Data.seq #[(Value.str "options" 983), (Value.str "level" 984), (Value.str "result" 985)] 0) #[]
noncomputable def o617 (P : Params) : Obj := Obj.mk (Value.type "tuple") (Option.none) (Data.seq #[] 0) #[]
noncomputable def o618 (P : Params) : Obj := Obj.mk Value.none (Option.none) (Data.func fp102.1) #[]
noncomputable def o619 (P : Params) : Obj := Obj.mk (Value.type "code") (Option.none) (Data.fields #[(Value.str "max_octets_of" 980), (Value.str "max_octets_of" 981), (Value.str "/claim/cut.py" 982), (Value.int 392 0), (Value.int 2 0), (Value.int 0 0), (Value.int 0 0), (Value.int 3 0), (Value.ref 541), (Value.bool Bool.true), (Value.int 181 0), (Value.ref 542), Value.none, (Value.ref 543), (Value.ref 544), (Value.ref 545), (Value.int 986 0), (Value.int 392 0), (Value.str "/claim/cut.py" 987)]) #[]
noncomputable def o620 (P : Params) : Obj := Obj.mk (Value.type "function") (Option.none) (Data.func fp103.1) #[]
noncomputable def o621 (P : Params) : Obj := Obj.mk (Value.type "tuple") (Option.none) (Data.seq #[] 0) #[]
noncomputable def o622 (P : Params) : Obj := Obj.mk Value.none (Option.none) (Data.fields #[]) #[]
noncomputable def o623 (P : Params) : Obj := Obj.mk (Value.type "tuple") (Option.none) (Data.seq #[(Value.str "version" 992), (Value.str "options" 993), (Value.str "best_top" 994), (Value.str "best_bottom" 995), (Value.str "best_level" 996), (Value.str "level" 997), (Value.str "top" 998), (Value.str "bottom" 999)] 0) #[]
noncomputable def o624 (P : Params) : Obj := Obj.mk (Value.type "tuple") (Option.none) (Data.seq #[] 0) #[]
noncomputable def o625 (P : Params) : Obj := Obj.mk Value.none (Option.none) (Data.func fp104.1) #[]
noncomputable def o626 (P : Params) : Obj := Obj.mk (Value.type "code") (Option.none) (Data.fields #[(Value.str "score_of" 989), (Value.str "score_of" 990), (Value.str "/claim/cut.py" 991), (Value.int 398 0), (Value.int 2 0), (Value.int 0 0), (Value.int 0 0), (Value.int 3 0), (Value.ref 548), (Value.bool Bool.true), (Value.int 181 0), (Value.ref 549), Value.none, (Value.ref 550), (Value.ref 551), (Value.ref 552), (Value.int 1000 0), (Value.int 398 0), (Value.str "/claim/cut.py" 1001)]) #[]
noncomputable def o627 (P : Params) : Obj := Obj.mk (Value.type "function") (Option.none) (Data.func fp105.1) #[]
noncomputable def o628 (P : Params) : Obj := Obj.mk (Value.type "dict") (Option.none) (Data.dict #[(DictEntry.mk (PyData.keyHash P "__name__") (Value.str "__name__" 165) (Value.str "raftkeep.versionset" 878)), (DictEntry.mk (PyData.keyHash P "__doc__") (Value.str "__doc__" 166) Value.none), (DictEntry.mk (PyData.keyHash P "__package__") (Value.str "__package__" 167) Value.none), (DictEntry.mk (PyData.keyHash P "__loader__") (Value.str "__loader__" 168) (Value.builtin "__main__.__loader__#opaque")), (DictEntry.mk (PyData.keyHash P "__spec__") (Value.str "__spec__" 169) Value.none), (DictEntry.mk (PyData.keyHash P "__annotations__") (Value.str "__annotations__" 170) (Value.ref 6)), (DictEntry.mk (PyData.keyHash P "__builtins__") (Value.str "__builtins__" 171) (Value.ref 4)), (DictEntry.mk (PyData.keyHash P "__file__") (Value.str "__file__" 173) (Value.str "/claim/cut.py" 172)), (DictEntry.mk (PyData.keyHash P "__cached__") (Value.str "__cached__" 174) Value.none), (DictEntry.mk (PyData.keyHash P "_wall") (Value.str "_wall" 193) (Value.ref 21)), (DictEntry.mk (PyData.keyHash P "KeepError") (Value.str "KeepError" 215) (Value.ref 31)), (DictEntry.mk (PyData.keyHash P "StoreError") (Value.str "StoreError" 231) (Value.ref 44)), (DictEntry.mk (PyData.keyHash P "Corrupt") (Value.str "Corrupt" 247) (Value.ref 56)), (DictEntry.mk (PyData.keyHash P "ShortOctets") (Value.str "ShortOctets" 263) (Value.ref 68)), (DictEntry.mk (PyData.keyHash P "BadOption") (Value.str "BadOption" 279) (Value.ref 80)), (DictEntry.mk (PyData.keyHash P "MAX_32") (Value.str "MAX_32" 283) (Value.int 4294967295 282)), (DictEntry.mk (PyData.keyHash P "MAX_64") (Value.str "MAX_64" 285) (Value.int 18446744073709551615 284)), (DictEntry.mk (PyData.keyHash P "CHECK_CRC") (Value.str "CHECK_CRC" 287) (Value.int 1 286)), (DictEntry.mk (PyData.keyHash P "CHECK_SUM") (Value.str "CHECK_SUM" 289) (Value.int 2 288)), (DictEntry.mk (PyData.keyHash P "put_fixed32") (Value.str "put_fixed32" 296) (Value.ref 89)), (DictEntry.mk (PyData.keyHash P "put_fixed64") (Value.str "put_fixed64" 303) (Value.ref 96)), (DictEntry.mk (PyData.keyHash P "read_fixed32") (Value.str "read_fixed32" 311) (Value.ref 103)), (DictEntry.mk (PyData.keyHash P "read_fixed64") (Value.str "read_fixed64" 319) (Value.ref 110)), (DictEntry.mk (PyData.keyHash P "KIND_DELETE") (Value.str "KIND_DELETE" 323) (Value.int 0 322)), (DictEntry.mk (PyData.keyHash P "KIND_VALUE") (Value.str "KIND_VALUE" 325) (Value.int 1 324)), (DictEntry.mk (PyData.keyHash P "KIND_SEEK") (Value.str "KIND_SEEK" 327) (Value.int 1 326)), (DictEntry.mk (PyData.keyHash P "MAX_SEQ") (Value.str "MAX_SEQ" 329) (Value.int 72057594037927935 328)), (DictEntry.mk (PyData.keyHash P "TAG_LENGTH") (Value.str "TAG_LENGTH" 331) (Value.int 8 330)), (DictEntry.mk (PyData.keyHash P "LEAST_BLOCK") (Value.str "LEAST_BLOCK" 333) (Value.int 8 332)), (DictEntry.mk (PyData.keyHash P "MOST_BLOCK") (Value.str "MOST_BLOCK" 335) (Value.int 65542 334)), (DictEntry.mk (PyData.keyHash P "MOST_LEVELS") (Value.str "MOST_LEVELS" 337) (Value.int 12 336)), (DictEntry.mk (PyData.keyHash P "pack_tag") (Value.str "pack_tag" 345) (Value.ref 117)), (DictEntry.mk (PyData.keyHash P "make_ikey") (Value.str "make_ikey" 354) (Value.ref 124)), (DictEntry.mk (PyData.keyHash P "split_ikey") (Value.str "split_ikey" 364) (Value.ref 131)), (DictEntry.mk (PyData.keyHash P "user_of") (Value.str "user_of" 371) (Value.ref 138)), (DictEntry.mk (PyData.keyHash P "tag_of") (Value.str "tag_of" 378) (Value.ref 145)), (DictEntry.mk (PyData.keyHash P "Order") (Value.str "Order" 431) (Value.ref 183)), (DictEntry.mk (PyData.keyHash P "BytesOrder") (Value.str "BytesOrder" 471) (Value.ref 218)), (DictEntry.mk (PyData.keyHash P "InternalOrder") (Value.str "InternalOrder" 541) (Value.ref 272)), (DictEntry.mk (PyData.keyHash P "Options") (Value.str "Options" 609) (Value.ref 305)), (DictEntry.mk (PyData.keyHash P "check_heights") (Value.str "check_heights" 618) (Value.ref 316)), (DictEntry.mk (PyData.keyHash P "FileMeta") (Value.str "FileMeta" 662) (Value.ref 340)), (DictEntry.mk (PyData.keyHash P "VersionEdit") (Value.str "VersionEdit" 714) (Value.ref 375)), (DictEntry.mk (PyData.keyHash P "find_file") (Value.str "find_file" 726) (Value.ref 386)), (DictEntry.mk (PyData.keyHash P "Version") (Value.str "Version" 877) (Value.ref 466)), (DictEntry.mk (PyData.keyHash P "total_size") (Value.str "total_size" 888) (Value.ref 477)), (DictEntry.mk (PyData.keyHash P "key_range") (Value.str "key_range" 899) (Value.ref 484)), (DictEntry.mk (PyData.keyHash P "Compaction") (Value.str "Compaction" 979) (Value.ref 536)), (DictEntry.mk (PyData.keyHash P "max_octets_of") (Value.str "max_octets_of" 988) (Value.ref 547)), (DictEntry.mk (PyData.keyHash P "score_of") (Value.str "score_of" 1002) (Value.ref 554)), (DictEntry.mk (PyData.keyHash P "Picker") (Value.str "Picker" 1096) (Value.ref 606))] 51) #[]
noncomputable def o629 (P : Params) : Obj := Obj.mk Value.none (Option.none) (Data.fields #[(Value.int 1 0), (Value.int 0 0), (Value.ref 20), (Value.int 5 0), (Value.int 0 0), (Value.ref 27), (Value.int 7 0), (Value.int 0 0), (Value.ref 40), (Value.int 9 0), (Value.int 0 0), (Value.ref 52), (Value.int 11 0), (Value.int 0 0), (Value.ref 64), (Value.int 13 0), (Value.int 0 0), (Value.ref 76), (Value.int 20 0), (Value.int 0 0), (Value.ref 88), (Value.int 24 0), (Value.int 0 0), (Value.ref 95), (Value.int 28 0), (Value.int 0 0), (Value.ref 102), (Value.int 32 0), (Value.int 0 0), (Value.ref 109), (Value.int 45 0), (Value.int 0 0), (Value.ref 116), (Value.int 51 0), (Value.int 0 0), (Value.ref 123), (Value.int 53 0), (Value.int 0 0), (Value.ref 130), (Value.int 60 0), (Value.int 0 0), (Value.ref 137), (Value.int 64 0), (Value.int 0 0), (Value.ref 144), (Value.int 68 0), (Value.int 0 0), (Value.ref 151), (Value.int 85 0), (Value.int 0 0), (Value.ref 193), (Value.int 95 0), (Value.int 0 0), (Value.ref 226), (Value.int 123 0), (Value.int 0 0), (Value.ref 280), (Value.int 179 0), (Value.int 0 0), (Value.ref 315), (Value.int 186 0), (Value.int 0 0), (Value.ref 322), (Value.int 196 0), (Value.int 0 0), (Value.ref 350), (Value.int 216 0), (Value.int 0 0), (Value.ref 385), (Value.int 226 0), (Value.int 0 0), (Value.ref 392), (Value.int 347 0), (Value.int 0 0), (Value.ref 476), (Value.int 352 0), (Value.int 0 0), (Value.ref 483), (Value.int 361 0), (Value.int 0 0), (Value.ref 490), (Value.int 392 0), (Value.int 0 0), (Value.ref 546), (Value.int 398 0), (Value.int 0 0), (Value.ref 553), (Value.int 414 0), (Value.int 0 0), (Value.ref 560)]) #[]
noncomputable def o630 (P : Params) : Obj := Obj.mk (Value.type "tuple") (Option.none) (Data.seq #[] 0) #[]
noncomputable def o631 (P : Params) : Obj := Obj.mk (Value.type "builtin_function_or_method") (Option.none) (Data.fields #[(Value.builtin "type.__prepare__"), (Value.type "type")]) #[]
noncomputable def o632 (P : Params) : Obj := Obj.mk (Value.type "dict") (Option.none) (Data.dict #[(DictEntry.mk (PyData.keyHash P "__module__") (Value.str "__module__" 1010) (Value.str "raftkeep.versionset" 878)), (DictEntry.mk (PyData.keyHash P "__qualname__") (Value.str "__qualname__" 1012) (Value.str "Picker" 1011)), (DictEntry.mk (PyData.keyHash P "__firstlineno__") (Value.str "__firstlineno__" 1014) (Value.int 414 1013)), (DictEntry.mk (PyData.keyHash P "__init__") (Value.str "__init__" 1023) (Value.ref 568)), (DictEntry.mk (PyData.keyHash P "needs_compaction") (Value.str "needs_compaction" 1031) (Value.ref 575)), (DictEntry.mk (PyData.keyHash P "user_range") (Value.str "user_range" 1040) (Value.ref 582)), (DictEntry.mk (PyData.keyHash P "pick") (Value.str "pick" 1056) (Value.ref 589)), (DictEntry.mk (PyData.keyHash P "pick_range") (Value.str "pick_range" 1068) (Value.ref 596)), (DictEntry.mk (PyData.keyHash P "set_up_other") (Value.str "set_up_other" 1086) (Value.ref 603)), (DictEntry.mk (PyData.keyHash P "__static_attributes__") (Value.str "__static_attributes__" 1089) (Value.ref 604))] 10) #[]
noncomputable def o633 (P : Params) : Obj := Obj.mk (Value.type "tuple") (Option.none) (Data.seq #[] 0) #[]
noncomputable def o634 (P : Params) : Obj := Obj.mk Value.none (Option.none) (Data.fields #[(Value.int 416 0), (Value.int 4 0), (Value.ref 567), (Value.int 420 0), (Value.int 4 0), (Value.ref 574), (Value.int 423 0), (Value.int 4 0), (Value.ref 581), (Value.int 427 0), (Value.int 4 0), (Value.ref 588), (Value.int 446 0), (Value.int 4 0), (Value.ref 595), (Value.int 449 0), (Value.int 4 0), (Value.ref 602)]) #[]
noncomputable def o635 (P : Params) : Obj := Obj.mk (Value.type "code") (Option.none) (Data.fields #[(Value.str "Picker" 1005), (Value.str "Picker" 1006), (Value.str "/claim/cut.py" 1007), (Value.int 414 0), (Value.int 0 0), (Value.int 0 0), (Value.int 0 0), (Value.int 0 0), (Value.ref 558), (Value.bool Bool.false), (Value.int 181 0), (Value.ref 559), Value.none, Value.none, Value.none, Value.none, (Value.int 1008 0), (Value.int 414 0), (Value.str "/claim/cut.py" 1009)]) #[]
noncomputable def o636 (P : Params) : Obj := Obj.mk (Value.type "frame") (Option.none) Data.plain #[(Option.some (Value.ref 560)), (Option.some (Value.ref 3)), (Option.some (Value.ref 557)), (Option.none), (Option.some (Value.str "raftkeep.versionset" 878)), (Option.none), (Option.some (Value.ref 0))]
noncomputable def o637 (P : Params) : Obj := Obj.mk (Value.type "tuple") (Option.none) (Data.seq #[] 0) #[]
noncomputable def o638 (P : Params) : Obj := Obj.mk Value.none (Option.none) (Data.fields #[]) #[]
noncomputable def o639 (P : Params) : Obj := Obj.mk (Value.type "tuple") (Option.none) (Data.seq #[(Value.str "self" 1018), (Value.str "options" 1019), (Value.str "order" 1020)] 0) #[]
noncomputable def o640 (P : Params) : Obj := Obj.mk (Value.type "tuple") (Option.none) (Data.seq #[] 0) #[]
noncomputable def o641 (P : Params) : Obj := Obj.mk Value.none (Option.none) (Data.func fp106.1) #[]
noncomputable def o642 (P : Params) : Obj := Obj.mk (Value.type "code") (Option.none) (Data.fields #[(Value.str "__init__" 1015), (Value.str "Picker.__init__" 1016), (Value.str "/claim/cut.py" 1017), (Value.int 416 0), (Value.int 3 0), (Value.int 0 0), (Value.int 0 0), (Value.int 3 0), (Value.ref 562), (Value.bool Bool.true), (Value.int 181 0), (Value.ref 563), Value.none, (Value.ref 564), (Value.ref 565), (Value.ref 566), (Value.int 1021 0), (Value.int 416 0), (Value.str "/claim/cut.py" 1022)]) #[]
noncomputable def o643 (P : Params) : Obj := Obj.mk (Value.type "function") (Option.none) (Data.func fp107.1) #[]
noncomputable def o644 (P : Params) : Obj := Obj.mk (Value.type "tuple") (Option.none) (Data.seq #[] 0) #[]
noncomputable def o645 (P : Params) : Obj := Obj.mk Value.none (Option.none) (Data.fields #[]) #[]
noncomputable def o646 (P : Params) : Obj := Obj.mk (Value.type "tuple") (Option.none) (Data.seq #[(Value.str "self" 1027), (Value.str "version" 1028)] 0) #[]
noncomputable def o647 (P : Params) : Obj := Obj.mk (Value.type "tuple") (Option.none) (Data.seq #[] 0) #[]
noncomputable def o648 (P : Params) : Obj := Obj.mk Value.none (Option.none) (Data.func fp108.1) #[]
noncomputable def o649 (P : Params) : Obj := Obj.mk (Value.type "code") (Option.none) (Data.fields #[(Value.str "needs_compaction" 1024), (Value.str "Picker.needs_compaction" 1025), (Value.str "/claim/cut.py" 1026), (Value.int 420 0), (Value.int 2 0), (Value.int 0 0), (Value.int 0 0), (Value.int 3 0), (Value.ref 569), (Value.bool Bool.true), (Value.int 181 0), (Value.ref 570), Value.none, (Value.ref 571), (Value.ref 572), (Value.ref 573), (Value.int 1029 0), (Value.int 420 0), (Value.str "/claim/cut.py" 1030)]) #[]
noncomputable def o650 (P : Params) : Obj := Obj.mk (Value.type "function") (Option.none) (Data.func fp109.1) #[]
noncomputable def o651 (P : Params) : Obj := Obj.mk (Value.type "tuple") (Option.none) (Data.seq #[] 0) #[]
noncomputable def o652 (P : Params) : Obj := Obj.mk Value.none (Option.none) (Data.fields #[]) #[]
noncomputable def o653 (P : Params) : Obj := Obj.mk (Value.type "tuple") (Option.none) (Data.seq #[(Value.str "self" 1035), (Value.str "files" 1036), (Value.str "ends" 1037)] 0) #[]
noncomputable def o654 (P : Params) : Obj := Obj.mk (Value.type "tuple") (Option.none) (Data.seq #[] 0) #[]
noncomputable def o655 (P : Params) : Obj := Obj.mk Value.none (Option.none) (Data.func fp110.1) #[]
noncomputable def o656 (P : Params) : Obj := Obj.mk (Value.type "code") (Option.none) (Data.fields #[(Value.str "user_range" 1032), (Value.str "Picker.user_range" 1033), (Value.str "/claim/cut.py" 1034), (Value.int 423 0), (Value.int 2 0), (Value.int 0 0), (Value.int 0 0), (Value.int 3 0), (Value.ref 576), (Value.bool Bool.true), (Value.int 181 0), (Value.ref 577), Value.none, (Value.ref 578), (Value.ref 579), (Value.ref 580), (Value.int 1038 0), (Value.int 423 0), (Value.str "/claim/cut.py" 1039)]) #[]
noncomputable def o657 (P : Params) : Obj := Obj.mk (Value.type "function") (Option.none) (Data.func fp111.1) #[]
noncomputable def o658 (P : Params) : Obj := Obj.mk (Value.type "tuple") (Option.none) (Data.seq #[] 0) #[]
noncomputable def o659 (P : Params) : Obj := Obj.mk Value.none (Option.none) (Data.fields #[]) #[]
noncomputable def o660 (P : Params) : Obj := Obj.mk (Value.type "tuple") (Option.none) (Data.seq #[(Value.str "self" 1044), (Value.str "version" 1045), (Value.str "pointers" 1046), (Value.str "level" 1047), (Value.str "c" 1048), (Value.str "files" 1049), (Value.str "pointer" 1050), (Value.str "first" 1051), (Value.str "meta" 1052), (Value.str "ends" 1053)] 0) #[]
noncomputable def o661 (P : Params) : Obj := Obj.mk (Value.type "tuple") (Option.none) (Data.seq #[] 0) #[]
noncomputable def o662 (P : Params) : Obj := Obj.mk Value.none (Option.none) (Data.func fp112.1) #[]
noncomputable def o663 (P : Params) : Obj := Obj.mk (Value.type "code") (Option.none) (Data.fields #[(Value.str "pick" 1041), (Value.str "Picker.pick" 1042), (Value.str "/claim/cut.py" 1043), (Value.int 427 0), (Value.int 3 0), (Value.int 0 0), (Value.int 0 0), (Value.int 3 0), (Value.ref 583), (Value.bool Bool.true), (Value.int 181 0), (Value.ref 584), Value.none, (Value.ref 585), (Value.ref 586), (Value.ref 587), (Value.int 1054 0), (Value.int 427 0), (Value.str "/claim/cut.py" 1055)]) #[]
noncomputable def o664 (P : Params) : Obj := Obj.mk (Value.type "function") (Option.none) (Data.func fp113.1) #[]
noncomputable def o665 (P : Params) : Obj := Obj.mk (Value.type "tuple") (Option.none) (Data.seq #[] 0) #[]
noncomputable def o666 (P : Params) : Obj := Obj.mk Value.none (Option.none) (Data.fields #[]) #[]
noncomputable def o667 (P : Params) : Obj := Obj.mk (Value.type "tuple") (Option.none) (Data.seq #[(Value.str "self" 1060), (Value.str "version" 1061), (Value.str "pointers" 1062), (Value.str "level" 1063), (Value.str "low" 1064), (Value.str "high" 1065)] 0) #[]
noncomputable def o668 (P : Params) : Obj := Obj.mk (Value.type "tuple") (Option.none) (Data.seq #[] 0) #[]
noncomputable def o669 (P : Params) : Obj := Obj.mk Value.none (Option.none) (Data.func fp114.1) #[]
noncomputable def o670 (P : Params) : Obj := Obj.mk (Value.type "code") (Option.none) (Data.fields #[(Value.str "pick_range" 1057), (Value.str "Picker.pick_range" 1058), (Value.str "/claim/cut.py" 1059), (Value.int 446 0), (Value.int 6 0), (Value.int 0 0), (Value.int 0 0), (Value.int 3 0), (Value.ref 590), (Value.bool Bool.true), (Value.int 181 0), (Value.ref 591), Value.none, (Value.ref 592), (Value.ref 593), (Value.ref 594), (Value.int 1066 0), (Value.int 446 0), (Value.str "/claim/cut.py" 1067)]) #[]
noncomputable def o671 (P : Params) : Obj := Obj.mk (Value.type "function") (Option.none) (Data.func fp115.1) #[]
noncomputable def o672 (P : Params) : Obj := Obj.mk (Value.type "tuple") (Option.none) (Data.seq #[] 0) #[]
noncomputable def o673 (P : Params) : Obj := Obj.mk Value.none (Option.none) (Data.fields #[]) #[]
noncomputable def o674 (P : Params) : Obj := Obj.mk (Value.type "tuple") (Option.none) (Data.seq #[(Value.str "self" 1072), (Value.str "c" 1073), (Value.str "pointers" 1074), (Value.str "level" 1075), (Value.str "version" 1076), (Value.str "ends" 1077), (Value.str "span" 1078), (Value.str "grown" 1079), (Value.str "room" 1080), (Value.str "cost" 1081), (Value.str "above" 1082), (Value.str "largest" 1083)] 0) #[]
noncomputable def o675 (P : Params) : Obj := Obj.mk (Value.type "tuple") (Option.none) (Data.seq #[] 0) #[]
noncomputable def o676 (P : Params) : Obj := Obj.mk Value.none (Option.none) (Data.func fp116.1) #[]
noncomputable def o677 (P : Params) : Obj := Obj.mk (Value.type "code") (Option.none) (Data.fields #[(Value.str "set_up_other" 1069), (Value.str "Picker.set_up_other" 1070), (Value.str "/claim/cut.py" 1071), (Value.int 449 0), (Value.int 3 0), (Value.int 0 0), (Value.int 0 0), (Value.int 3 0), (Value.ref 597), (Value.bool Bool.true), (Value.int 181 0), (Value.ref 598), Value.none, (Value.ref 599), (Value.ref 600), (Value.ref 601), (Value.int 1084 0), (Value.int 449 0), (Value.str "/claim/cut.py" 1085)]) #[]
noncomputable def o678 (P : Params) : Obj := Obj.mk (Value.type "function") (Option.none) (Data.func fp117.1) #[]
noncomputable def o679 (P : Params) : Obj := Obj.mk (Value.type "tuple") (Option.none) (Data.seq #[(Value.str "options" 1087), (Value.str "order" 1088)] 0) #[]
noncomputable def o680 (P : Params) : Obj := Obj.mk (Value.type "dict") (Option.none) (Data.dict #[(DictEntry.mk (PyData.keyHash P "__module__") (Value.str "__module__" 1010) (Value.str "raftkeep.versionset" 878)), (DictEntry.mk (PyData.keyHash P "__firstlineno__") (Value.str "__firstlineno__" 1014) (Value.int 414 1013)), (DictEntry.mk (PyData.keyHash P "__init__") (Value.str "__init__" 1023) (Value.ref 568)), (DictEntry.mk (PyData.keyHash P "needs_compaction") (Value.str "needs_compaction" 1031) (Value.ref 575)), (DictEntry.mk (PyData.keyHash P "user_range") (Value.str "user_range" 1040) (Value.ref 582)), (DictEntry.mk (PyData.keyHash P "pick") (Value.str "pick" 1056) (Value.ref 589)), (DictEntry.mk (PyData.keyHash P "pick_range") (Value.str "pick_range" 1068) (Value.ref 596)), (DictEntry.mk (PyData.keyHash P "set_up_other") (Value.str "set_up_other" 1086) (Value.ref 603)), (DictEntry.mk (PyData.keyHash P "__static_attributes__") (Value.str "__static_attributes__" 1089) (Value.ref 604)), (DictEntry.mk (PyData.keyHash P "__dict__") (Value.str "__dict__" 1091) (Value.ref 607)), (DictEntry.mk (PyData.keyHash P "__weakref__") (Value.str "__weakref__" 1093) (Value.ref 608)), (DictEntry.mk (PyData.keyHash P "__doc__") (Value.str "__doc__" 1094) Value.none)] 4) #[]
noncomputable def o681 (P : Params) : Obj := Obj.mk (Value.type "type") (Option.none) (Data.cls (ClassData.mk "Picker" [(Value.type "object")] [(Value.ref 606), (Value.type "object")] 605 "Picker" Bool.true [] [] Bool.false (Option.none) Bool.false)) #[(Option.none), (Option.none), (Option.some (Value.str "Picker" 1003)), (Option.some (Value.str "Picker" 1011)), (Option.some (Value.builtin "object.__new__")), (Option.some (Value.bool Bool.true))]
noncomputable def o682 (P : Params) : Obj := Obj.mk (Value.type "getset_descriptor") (Option.none) (Data.fields #[(Value.str "__dict__" 1090), (Value.ref 606), (Value.builtin "function.__dict__"), (Value.builtin "function.__dict__#set")]) #[]
noncomputable def o683 (P : Params) : Obj := Obj.mk (Value.type "getset_descriptor") (Option.none) (Data.fields #[(Value.str "__weakref__" 1092), (Value.ref 606), (Value.builtin "ExceptionGroup.__weakref__"), Value.none]) #[]
noncomputable def o684 (P : Params) : Obj := Obj.mk (Value.type "super") (Option.none) (Data.fields #[(Value.ref 606), (Value.ref 606), (Value.ref 606)]) #[]
noncomputable def o685 (P : Params) : Obj := Obj.mk (Value.type "builtin_function_or_method") (Option.none) (Data.fields #[(Value.builtin "object.__init_subclass__"), (Value.ref 606)]) #[]
noncomputable def o686 (P : Params) : Obj := Obj.mk (Value.type "dict") (Option.none) (Data.dict #[(DictEntry.mk (PyData.keyHash P "__name__") (Value.str "__name__" 165) (Value.str "law_nz0378_01" 1097)), (DictEntry.mk (PyData.keyHash P "__doc__") (Value.str "__doc__" 166) Value.none), (DictEntry.mk (PyData.keyHash P "__package__") (Value.str "__package__" 167) Value.none), (DictEntry.mk (PyData.keyHash P "__loader__") (Value.str "__loader__" 168) (Value.builtin "__main__.__loader__#opaque")), (DictEntry.mk (PyData.keyHash P "__spec__") (Value.str "__spec__" 169) Value.none), (DictEntry.mk (PyData.keyHash P "__annotations__") (Value.str "__annotations__" 170) (Value.ref 6)), (DictEntry.mk (PyData.keyHash P "__builtins__") (Value.str "__builtins__" 171) (Value.ref 4)), (DictEntry.mk (PyData.keyHash P "__file__") (Value.str "__file__" 173) (Value.str "/claim/cut.py" 172)), (DictEntry.mk (PyData.keyHash P "__cached__") (Value.str "__cached__" 174) Value.none), (DictEntry.mk (PyData.keyHash P "_wall") (Value.str "_wall" 193) (Value.ref 21)), (DictEntry.mk (PyData.keyHash P "KeepError") (Value.str "KeepError" 215) (Value.ref 31)), (DictEntry.mk (PyData.keyHash P "StoreError") (Value.str "StoreError" 231) (Value.ref 44)), (DictEntry.mk (PyData.keyHash P "Corrupt") (Value.str "Corrupt" 247) (Value.ref 56)), (DictEntry.mk (PyData.keyHash P "ShortOctets") (Value.str "ShortOctets" 263) (Value.ref 68)), (DictEntry.mk (PyData.keyHash P "BadOption") (Value.str "BadOption" 279) (Value.ref 80)), (DictEntry.mk (PyData.keyHash P "MAX_32") (Value.str "MAX_32" 283) (Value.int 4294967295 282)), (DictEntry.mk (PyData.keyHash P "MAX_64") (Value.str "MAX_64" 285) (Value.int 18446744073709551615 284)), (DictEntry.mk (PyData.keyHash P "CHECK_CRC") (Value.str "CHECK_CRC" 287) (Value.int 1 286)), (DictEntry.mk (PyData.keyHash P "CHECK_SUM") (Value.str "CHECK_SUM" 289) (Value.int 2 288)), (DictEntry.mk (PyData.keyHash P "put_fixed32") (Value.str "put_fixed32" 296) (Value.ref 89)), (DictEntry.mk (PyData.keyHash P "put_fixed64") (Value.str "put_fixed64" 303) (Value.ref 96)), (DictEntry.mk (PyData.keyHash P "read_fixed32") (Value.str "read_fixed32" 311) (Value.ref 103)), (DictEntry.mk (PyData.keyHash P "read_fixed64") (Value.str "read_fixed64" 319) (Value.ref 110)), (DictEntry.mk (PyData.keyHash P "KIND_DELETE") (Value.str "KIND_DELETE" 323) (Value.int 0 322)), (DictEntry.mk (PyData.keyHash P "KIND_VALUE") (Value.str "KIND_VALUE" 325) (Value.int 1 324)), (DictEntry.mk (PyData.keyHash P "KIND_SEEK") (Value.str "KIND_SEEK" 327) (Value.int 1 326)), (DictEntry.mk (PyData.keyHash P "MAX_SEQ") (Value.str "MAX_SEQ" 329) (Value.int 72057594037927935 328)), (DictEntry.mk (PyData.keyHash P "TAG_LENGTH") (Value.str "TAG_LENGTH" 331) (Value.int 8 330)), (DictEntry.mk (PyData.keyHash P "LEAST_BLOCK") (Value.str "LEAST_BLOCK" 333) (Value.int 8 332)), (DictEntry.mk (PyData.keyHash P "MOST_BLOCK") (Value.str "MOST_BLOCK" 335) (Value.int 65542 334)), (DictEntry.mk (PyData.keyHash P "MOST_LEVELS") (Value.str "MOST_LEVELS" 337) (Value.int 12 336)), (DictEntry.mk (PyData.keyHash P "pack_tag") (Value.str "pack_tag" 345) (Value.ref 117)), (DictEntry.mk (PyData.keyHash P "make_ikey") (Value.str "make_ikey" 354) (Value.ref 124)), (DictEntry.mk (PyData.keyHash P "split_ikey") (Value.str "split_ikey" 364) (Value.ref 131)), (DictEntry.mk (PyData.keyHash P "user_of") (Value.str "user_of" 371) (Value.ref 138)), (DictEntry.mk (PyData.keyHash P "tag_of") (Value.str "tag_of" 378) (Value.ref 145)), (DictEntry.mk (PyData.keyHash P "Order") (Value.str "Order" 431) (Value.ref 183)), (DictEntry.mk (PyData.keyHash P "BytesOrder") (Value.str "BytesOrder" 471) (Value.ref 218)), (DictEntry.mk (PyData.keyHash P "InternalOrder") (Value.str "InternalOrder" 541) (Value.ref 272)), (DictEntry.mk (PyData.keyHash P "Options") (Value.str "Options" 609) (Value.ref 305)), (DictEntry.mk (PyData.keyHash P "check_heights") (Value.str "check_heights" 618) (Value.ref 316)), (DictEntry.mk (PyData.keyHash P "FileMeta") (Value.str "FileMeta" 662) (Value.ref 340)), (DictEntry.mk (PyData.keyHash P "VersionEdit") (Value.str "VersionEdit" 714) (Value.ref 375)), (DictEntry.mk (PyData.keyHash P "find_file") (Value.str "find_file" 726) (Value.ref 386)), (DictEntry.mk (PyData.keyHash P "Version") (Value.str "Version" 877) (Value.ref 466)), (DictEntry.mk (PyData.keyHash P "total_size") (Value.str "total_size" 888) (Value.ref 477)), (DictEntry.mk (PyData.keyHash P "key_range") (Value.str "key_range" 899) (Value.ref 484)), (DictEntry.mk (PyData.keyHash P "Compaction") (Value.str "Compaction" 979) (Value.ref 536)), (DictEntry.mk (PyData.keyHash P "max_octets_of") (Value.str "max_octets_of" 988) (Value.ref 547)), (DictEntry.mk (PyData.keyHash P "score_of") (Value.str "score_of" 1002) (Value.ref 554)), (DictEntry.mk (PyData.keyHash P "Picker") (Value.str "Picker" 1096) (Value.ref 606)), (DictEntry.mk (PyData.keyHash P "_law_users") (Value.str "_law_users" 1104) (Value.ref 617)), (DictEntry.mk (PyData.keyHash P "_law_draw") (Value.str "_law_draw" 1112) (Value.ref 624)), (DictEntry.mk (PyData.keyHash P "_law_ikey") (Value.str "_law_ikey" 1120) (Value.ref 631)), (DictEntry.mk (PyData.keyHash P "_law_version") (Value.str "_law_version" 1126) (Value.ref 636)), (DictEntry.mk (PyData.keyHash P "_law_sunk") (Value.str "_law_sunk" 1139) (Value.ref 643)), (DictEntry.mk (PyData.keyHash P "_law_lapped") (Value.str "_law_lapped" 1145) (Value.ref 648)), (DictEntry.mk (PyData.keyHash P "law") (Value.str "law" 1151) (Value.ref 653))] 58) #[]
noncomputable def o687 (P : Params) : Obj := Obj.mk Value.none (Option.none) (Data.fields #[(Value.int 1 0), (Value.int 0 0), (Value.ref 20), (Value.int 5 0), (Value.int 0 0), (Value.ref 27), (Value.int 7 0), (Value.int 0 0), (Value.ref 40), (Value.int 9 0), (Value.int 0 0), (Value.ref 52), (Value.int 11 0), (Value.int 0 0), (Value.ref 64), (Value.int 13 0), (Value.int 0 0), (Value.ref 76), (Value.int 20 0), (Value.int 0 0), (Value.ref 88), (Value.int 24 0), (Value.int 0 0), (Value.ref 95), (Value.int 28 0), (Value.int 0 0), (Value.ref 102), (Value.int 32 0), (Value.int 0 0), (Value.ref 109), (Value.int 45 0), (Value.int 0 0), (Value.ref 116), (Value.int 51 0), (Value.int 0 0), (Value.ref 123), (Value.int 53 0), (Value.int 0 0), (Value.ref 130), (Value.int 60 0), (Value.int 0 0), (Value.ref 137), (Value.int 64 0), (Value.int 0 0), (Value.ref 144), (Value.int 68 0), (Value.int 0 0), (Value.ref 151), (Value.int 85 0), (Value.int 0 0), (Value.ref 193), (Value.int 95 0), (Value.int 0 0), (Value.ref 226), (Value.int 123 0), (Value.int 0 0), (Value.ref 280), (Value.int 179 0), (Value.int 0 0), (Value.ref 315), (Value.int 186 0), (Value.int 0 0), (Value.ref 322), (Value.int 196 0), (Value.int 0 0), (Value.ref 350), (Value.int 216 0), (Value.int 0 0), (Value.ref 385), (Value.int 226 0), (Value.int 0 0), (Value.ref 392), (Value.int 347 0), (Value.int 0 0), (Value.ref 476), (Value.int 352 0), (Value.int 0 0), (Value.ref 483), (Value.int 361 0), (Value.int 0 0), (Value.ref 490), (Value.int 392 0), (Value.int 0 0), (Value.ref 546), (Value.int 398 0), (Value.int 0 0), (Value.ref 553), (Value.int 414 0), (Value.int 0 0), (Value.ref 560), (Value.int 472 0), (Value.int 0 0), (Value.ref 616), (Value.int 474 0), (Value.int 0 0), (Value.ref 623), (Value.int 476 0), (Value.int 0 0), (Value.ref 630), (Value.int 478 0), (Value.int 0 0), (Value.ref 635), (Value.int 487 0), (Value.int 0 0), (Value.ref 642), (Value.int 494 0), (Value.int 0 0), (Value.ref 647), (Value.int 500 0), (Value.int 0 0), (Value.ref 652)]) #[]
noncomputable def o688 (P : Params) : Obj := Obj.mk (Value.type "tuple") (Option.none) (Data.seq #[] 0) #[]
noncomputable def o689 (P : Params) : Obj := Obj.mk Value.none (Option.none) (Data.fields #[]) #[]
noncomputable def o690 (P : Params) : Obj := Obj.mk (Value.type "tuple") (Option.none) (Data.seq #[] 0) #[]
noncomputable def o691 (P : Params) : Obj := Obj.mk (Value.type "tuple") (Option.none) (Data.seq #[] 0) #[]
noncomputable def o692 (P : Params) : Obj := Obj.mk Value.none (Option.none) (Data.func fp118.1) #[]
noncomputable def o693 (P : Params) : Obj := Obj.mk (Value.type "code") (Option.none) (Data.fields #[(Value.str "_law_users" 1099), (Value.str "_law_users" 1100), (Value.str "/claim/cut.py" 1101), (Value.int 472 0), (Value.int 0 0), (Value.int 0 0), (Value.int 0 0), (Value.int 3 0), (Value.ref 611), (Value.bool Bool.true), (Value.int 181 0), (Value.ref 612), Value.none, (Value.ref 613), (Value.ref 614), (Value.ref 615), (Value.int 1102 0), (Value.int 472 0), (Value.str "/claim/cut.py" 1103)]) #[]
noncomputable def o694 (P : Params) : Obj := Obj.mk (Value.type "function") (Option.none) (Data.func fp119.1) #[]
noncomputable def o695 (P : Params) : Obj := Obj.mk (Value.type "tuple") (Option.none) (Data.seq #[] 0) #[]
noncomputable def o696 (P : Params) : Obj := Obj.mk Value.none (Option.none) (Data.fields #[]) #[]
noncomputable def o697 (P : Params) : Obj := Obj.mk (Value.type "tuple") (Option.none) (Data.seq #[(Value.str "nums" 1108), (Value.str "i" 1109)] 0) #[]
noncomputable def o698 (P : Params) : Obj := Obj.mk (Value.type "tuple") (Option.none) (Data.seq #[] 0) #[]
noncomputable def o699 (P : Params) : Obj := Obj.mk Value.none (Option.none) (Data.func fp120.1) #[]
noncomputable def o700 (P : Params) : Obj := Obj.mk (Value.type "code") (Option.none) (Data.fields #[(Value.str "_law_draw" 1105), (Value.str "_law_draw" 1106), (Value.str "/claim/cut.py" 1107), (Value.int 474 0), (Value.int 2 0), (Value.int 0 0), (Value.int 0 0), (Value.int 3 0), (Value.ref 618), (Value.bool Bool.true), (Value.int 181 0), (Value.ref 619), Value.none, (Value.ref 620), (Value.ref 621), (Value.ref 622), (Value.int 1110 0), (Value.int 474 0), (Value.str "/claim/cut.py" 1111)]) #[]
noncomputable def o701 (P : Params) : Obj := Obj.mk (Value.type "function") (Option.none) (Data.func fp121.1) #[]
noncomputable def o702 (P : Params) : Obj := Obj.mk (Value.type "tuple") (Option.none) (Data.seq #[] 0) #[]
noncomputable def o703 (P : Params) : Obj := Obj.mk Value.none (Option.none) (Data.fields #[]) #[]
noncomputable def o704 (P : Params) : Obj := Obj.mk (Value.type "tuple") (Option.none) (Data.seq #[(Value.str "u" 1116), (Value.str "seq" 1117)] 0) #[]
noncomputable def o705 (P : Params) : Obj := Obj.mk (Value.type "tuple") (Option.none) (Data.seq #[] 0) #[]
noncomputable def o706 (P : Params) : Obj := Obj.mk Value.none (Option.none) (Data.func fp122.1) #[]
noncomputable def o707 (P : Params) : Obj := Obj.mk (Value.type "code") (Option.none) (Data.fields #[(Value.str "_law_ikey" 1113), (Value.str "_law_ikey" 1114), (Value.str "/claim/cut.py" 1115), (Value.int 476 0), (Value.int 2 0), (Value.int 0 0), (Value.int 0 0), (Value.int 3 0), (Value.ref 625), (Value.bool Bool.true), (Value.int 181 0), (Value.ref 626), Value.none, (Value.ref 627), (Value.ref 628), (Value.ref 629), (Value.int 1118 0), (Value.int 476 0), (Value.str "/claim/cut.py" 1119)]) #[]
noncomputable def o708 (P : Params) : Obj := Obj.mk (Value.type "function") (Option.none) (Data.func fp123.1) #[]
noncomputable def o709 (P : Params) : Obj := Obj.mk (Value.type "tuple") (Option.none) (Data.seq #[] 0) #[]
noncomputable def o710 (P : Params) : Obj := Obj.mk Value.none (Option.none) (Data.fields #[]) #[]
noncomputable def o711 (P : Params) : Obj := Obj.mk Value.none (Option.none) (Data.func fp124.1) #[]
noncomputable def o712 (P : Params) : Obj := Obj.mk (Value.type "code") (Option.none) (Data.fields #[(Value.str "_law_version" 1121), (Value.str "_law_version" 1122), (Value.str "/claim/cut.py" 1123), (Value.int 478 0), (Value.int 3 0), (Value.int 0 0), (Value.int 0 0), (Value.int 3 0), (Value.ref 632), (Value.bool Bool.true), (Value.int 181 0), (Value.ref 633), Value.none, Value.none, Value.none, (Value.ref 634), (Value.int 1124 0), (Value.int 478 0), (Value.str "/claim/cut.py" 1125)]) #[]
noncomputable def o713 (P : Params) : Obj := Obj.mk (Value.type "function") (Option.none) (Data.func fp125.1) #[]
noncomputable def o714 (P : Params) : Obj := Obj.mk (Value.type "tuple") (Option.none) (Data.seq #[] 0) #[]
noncomputable def o715 (P : Params) : Obj := Obj.mk Value.none (Option.none) (Data.fields #[]) #[]
noncomputable def o716 (P : Params) : Obj := Obj.mk (Value.type "tuple") (Option.none) (Data.seq #[(Value.str "spots" 1130), (Value.str "holder" 1131), (Value.str "meets" 1132), (Value.str "i" 1133), (Value.str "j" 1134), (Value.str "new" 1135), (Value.str "old" 1136)] 0) #[]
noncomputable def o717 (P : Params) : Obj := Obj.mk (Value.type "tuple") (Option.none) (Data.seq #[] 0) #[]
noncomputable def o718 (P : Params) : Obj := Obj.mk Value.none (Option.none) (Data.func fp126.1) #[]
noncomputable def o719 (P : Params) : Obj := Obj.mk (Value.type "code") (Option.none) (Data.fields #[(Value.str "_law_sunk" 1127), (Value.str "_law_sunk" 1128), (Value.str "/claim/cut.py" 1129), (Value.int 487 0), (Value.int 3 0), (Value.int 0 0), (Value.int 0 0), (Value.int 3 0), (Value.ref 637), (Value.bool Bool.true), (Value.int 181 0), (Value.ref 638), Value.none, (Value.ref 639), (Value.ref 640), (Value.ref 641), (Value.int 1137 0), (Value.int 487 0), (Value.str "/claim/cut.py" 1138)]) #[]
noncomputable def o720 (P : Params) : Obj := Obj.mk (Value.type "function") (Option.none) (Data.func fp127.1) #[]
noncomputable def o721 (P : Params) : Obj := Obj.mk (Value.type "tuple") (Option.none) (Data.seq #[] 0) #[]
noncomputable def o722 (P : Params) : Obj := Obj.mk Value.none (Option.none) (Data.fields #[]) #[]
noncomputable def o723 (P : Params) : Obj := Obj.mk Value.none (Option.none) (Data.func fp128.1) #[]
noncomputable def o724 (P : Params) : Obj := Obj.mk (Value.type "code") (Option.none) (Data.fields #[(Value.str "_law_lapped" 1140), (Value.str "_law_lapped" 1141), (Value.str "/claim/cut.py" 1142), (Value.int 494 0), (Value.int 1 0), (Value.int 0 0), (Value.int 0 0), (Value.int 3 0), (Value.ref 644), (Value.bool Bool.true), (Value.int 181 0), (Value.ref 645), Value.none, Value.none, Value.none, (Value.ref 646), (Value.int 1143 0), (Value.int 494 0), (Value.str "/claim/cut.py" 1144)]) #[]
noncomputable def o725 (P : Params) : Obj := Obj.mk (Value.type "function") (Option.none) (Data.func fp129.1) #[]
noncomputable def o726 (P : Params) : Obj := Obj.mk (Value.type "tuple") (Option.none) (Data.seq #[] 0) #[]
noncomputable def o727 (P : Params) : Obj := Obj.mk Value.none (Option.none) (Data.fields #[]) #[]
noncomputable def o728 (P : Params) : Obj := Obj.mk Value.none (Option.none) (Data.func fp130.1) #[]
noncomputable def o729 (P : Params) : Obj := Obj.mk (Value.type "code") (Option.none) (Data.fields #[(Value.str "law" 1146), (Value.str "law" 1147), (Value.str "/claim/cut.py" 1148), (Value.int 500 0), (Value.int 1 0), (Value.int 0 0), (Value.int 0 0), (Value.int 3 0), (Value.ref 649), (Value.bool Bool.true), (Value.int 181 0), (Value.ref 650), Value.none, Value.none, Value.none, (Value.ref 651), (Value.int 1149 0), (Value.int 500 0), (Value.str "/claim/cut.py" 1150)]) #[]
noncomputable def o730 (P : Params) : Obj := Obj.mk (Value.type "function") (Option.none) (Data.func fp131.1) #[]
noncomputable def tree47 (P : Params) : BT := (.node (boot_o_0 P) (.node (boot_o_1 P) (.node (boot_o_3 P) (lf (boot_o_7 P)) (lf (o43 P))) (.node (boot_o_5 P) (lf (boot_o_9 P)) (lf (o45 P)))) (.node (boot_o_2 P) (.node (boot_o_4 P) (lf (boot_o_8 P)) (lf (o44 P))) (.node (boot_o_6 P) (lf (boot_o_10 P)) (lf (o46 P)))))
noncomputable def tree71 (P : Params) : BT := (.node (boot_o_0 P) (.node (boot_o_1 P) (.node (o50 P) (.node (boot_o_7 P) (.node (o52 P) (lf (o68 P)) .nil) (lf (o60 P))) (.node (o43 P) (lf (o56 P)) (lf (o64 P)))) (.node (boot_o_5 P) (.node (boot_o_9 P) (.node (o54 P) (lf (o70 P)) .nil) (lf (o62 P))) (.node (o45 P) (lf (o58 P)) (lf (o66 P))))) (.node (o49 P) (.node (boot_o_4 P) (.node (boot_o_8 P) (.node (o53 P) (lf (o69 P)) .nil) (lf (o61 P))) (.node (o51 P) (lf (o57 P)) (lf (o65 P)))) (.node (boot_o_6 P) (.node (boot_o_10 P) (.node (o55 P) (lf (o71 P)) .nil) (lf (o63 P))) (.node (o46 P) (lf (o59 P)) (lf (o67 P))))))
noncomputable def tree86 (P : Params) : BT := (.node (boot_o_0 P) (.node (boot_o_1 P) (.node (o72 P) (.node (boot_o_7 P) (.node (o52 P) (lf (o74 P)) .nil) (.node (o60 P) (lf (o79 P)) .nil)) (.node (o43 P) (.node (o56 P) (lf (o75 P)) .nil) (.node (o64 P) (lf (o83 P)) .nil))) (.node (boot_o_5 P) (.node (boot_o_9 P) (.node (o54 P) (lf (o70 P)) .nil) (.node (o62 P) (lf (o81 P)) .nil)) (.node (o45 P) (.node (o58 P) (lf (o77 P)) .nil) (.node (o66 P) (lf (o85 P)) .nil)))) (.node (o49 P) (.node (boot_o_4 P) (.node (boot_o_8 P) (.node (o53 P) (lf (o69 P)) .nil) (.node (o61 P) (lf (o80 P)) .nil)) (.node (o73 P) (.node (o57 P) (lf (o76 P)) .nil) (.node (o65 P) (lf (o84 P)) .nil))) (.node (boot_o_6 P) (.node (boot_o_10 P) (.node (o55 P) (lf (o71 P)) .nil) (.node (o63 P) (lf (o82 P)) .nil)) (.node (o46 P) (.node (o59 P) (lf (o78 P)) .nil) (.node (o67 P) (lf (o86 P)) .nil)))))
noncomputable def tree101 (P : Params) : BT := (.node (boot_o_0 P) (.node (boot_o_1 P) (.node (o87 P) (.node (boot_o_7 P) (.node (o52 P) (lf (o74 P)) (lf (o90 P))) (.node (o60 P) (lf (o79 P)) (lf (o98 P)))) (.node (o43 P) (.node (o56 P) (lf (o75 P)) (lf (o94 P))) (.node (o64 P) (lf (o83 P)) .nil))) (.node (boot_o_5 P) (.node (boot_o_9 P) (.node (o54 P) (lf (o70 P)) (lf (o92 P))) (.node (o62 P) (lf (o81 P)) (lf (o100 P)))) (.node (o45 P) (.node (o58 P) (lf (o77 P)) (lf (o96 P))) (.node (o66 P) (lf (o85 P)) .nil)))) (.node (o49 P) (.node (boot_o_4 P) (.node (boot_o_8 P) (.node (o53 P) (lf (o69 P)) (lf (o91 P))) (.node (o61 P) (lf (o80 P)) (lf (o99 P)))) (.node (o88 P) (.node (o57 P) (lf (o76 P)) (lf (o95 P))) (.node (o65 P) (lf (o89 P)) .nil))) (.node (boot_o_6 P) (.node (boot_o_10 P) (.node (o55 P) (lf (o71 P)) (lf (o93 P))) (.node (o63 P) (lf (o82 P)) (lf (o101 P)))) (.node (o46 P) (.node (o59 P) (lf (o78 P)) (lf (o97 P))) (.node (o67 P) (lf (o86 P)) .nil)))))
noncomputable def tree116 (P : Params) : BT := (.node (boot_o_0 P) (.node (boot_o_1 P) (.node (o102 P) (.node (boot_o_7 P) (.node (o52 P) (.node (o74 P) (lf (o109 P)) .nil) (lf (o90 P))) (.node (o60 P) (lf (o79 P)) (lf (o98 P)))) (.node (o43 P) (.node (o56 P) (.node (o75 P) (lf (o113 P)) .nil) (lf (o94 P))) (.node (o64 P) (lf (o83 P)) (lf (o105 P))))) (.node (boot_o_5 P) (.node (boot_o_9 P) (.node (o54 P) (.node (o70 P) (lf (o111 P)) .nil) (lf (o92 P))) (.node (o62 P) (lf (o81 P)) (lf (o100 P)))) (.node (o45 P) (.node (o58 P) (.node (o77 P) (lf (o115 P)) .nil) (lf (o96 P))) (.node (o66 P) (lf (o85 P)) (lf (o107 P)))))) (.node (o49 P) (.node (boot_o_4 P) (.node (boot_o_8 P) (.node (o53 P) (.node (o69 P) (lf (o110 P)) .nil) (lf (o91 P))) (.node (o61 P) (lf (o80 P)) (lf (o104 P)))) (.node (o103 P) (.node (o57 P) (.node (o76 P) (lf (o114 P)) .nil) (lf (o95 P))) (.node (o65 P) (lf (o89 P)) (lf (o106 P))))) (.node (boot_o_6 P) (.node (boot_o_10 P) (.node (o55 P) (.node (o71 P) (lf (o112 P)) .nil) (lf (o93 P))) (.node (o63 P) (lf (o82 P)) (lf (o101 P)))) (.node (o46 P) (.node (o59 P) (.node (o78 P) (lf (o116 P)) .nil) (lf (o97 P))) (.node (o67 P) (lf (o86 P)) (lf (o108 P)))))))
noncomputable def tree159 (P : Params) : BT := (.node (boot_o_0 P) (.node (boot_o_1 P) (.node (o117 P) (.node (boot_o_7 P) (.node (o52 P) (.node (o74 P) (lf (o109 P)) (lf (o144 P))) (.node (o90 P) (lf (o128 P)) .nil)) (.node (o60 P) (.node (o79 P) (lf (o120 P)) (lf (o152 P))) (.node (o98 P) (lf (o136 P)) .nil))) (.node (o43 P) (.node (o56 P) (.node (o75 P) (lf (o113 P)) (lf (o148 P))) (.node (o94 P) (lf (o132 P)) .nil)) (.node (o64 P) (.node (o83 P) (lf (o124 P)) (lf (o156 P))) (.node (o105 P) (lf (o140 P)) .nil)))) (.node (boot_o_5 P) (.node (boot_o_9 P) (.node (o54 P) (.node (o70 P) (lf (o111 P)) (lf (o146 P))) (.node (o92 P) (lf (o130 P)) .nil)) (.node (o62 P) (.node (o81 P) (lf (o122 P)) (lf (o154 P))) (.node (o100 P) (lf (o138 P)) .nil))) (.node (o45 P) (.node (o58 P) (.node (o77 P) (lf (o115 P)) (lf (o150 P))) (.node (o96 P) (lf (o134 P)) .nil)) (.node (o66 P) (.node (o85 P) (lf (o126 P)) (lf (o158 P))) (.node (o107 P) (lf (o142 P)) .nil))))) (.node (o49 P) (.node (boot_o_4 P) (.node (boot_o_8 P) (.node (o53 P) (.node (o69 P) (lf (o110 P)) (lf (o145 P))) (.node (o91 P) (lf (o129 P)) .nil)) (.node (o61 P) (.node (o80 P) (lf (o121 P)) (lf (o153 P))) (.node (o104 P) (lf (o137 P)) .nil))) (.node (o118 P) (.node (o57 P) (.node (o76 P) (lf (o114 P)) (lf (o149 P))) (.node (o95 P) (lf (o133 P)) .nil)) (.node (o65 P) (.node (o119 P) (lf (o125 P)) (lf (o157 P))) (.node (o106 P) (lf (o141 P)) .nil)))) (.node (boot_o_6 P) (.node (boot_o_10 P) (.node (o55 P) (.node (o71 P) (lf (o112 P)) (lf (o147 P))) (.node (o93 P) (lf (o131 P)) .nil)) (.node (o63 P) (.node (o82 P) (lf (o123 P)) (lf (o155 P))) (.node (o101 P) (lf (o139 P)) .nil))) (.node (o46 P) (.node (o59 P) (.node (o78 P) (lf (o116 P)) (lf (o151 P))) (.node (o97 P) (lf (o135 P)) .nil)) (.node (o67 P) (.node (o86 P) (lf (o127 P)) (lf (o159 P))) (.node (o108 P) (lf (o143 P)) .nil))))))
noncomputable def tree196 (P : Params) : BT := (.node (boot_o_0 P) (.node (boot_o_1 P) (.node (o160 P) (.node (boot_o_7 P) (.node (o52 P) (.node (o74 P) (.node (o109 P) (lf (o178 P)) .nil) (lf (o144 P))) (.node (o90 P) (.node (o128 P) (lf (o194 P)) .nil) (lf (o162 P)))) (.node (o60 P) (.node (o79 P) (.node (o120 P) (lf (o186 P)) .nil) (lf (o152 P))) (.node (o98 P) (lf (o136 P)) (lf (o170 P))))) (.node (o43 P) (.node (o56 P) (.node (o75 P) (.node (o113 P) (lf (o182 P)) .nil) (lf (o148 P))) (.node (o94 P) (lf (o132 P)) (lf (o166 P)))) (.node (o64 P) (.node (o83 P) (.node (o124 P) (lf (o190 P)) .nil) (lf (o156 P))) (.node (o105 P) (lf (o140 P)) (lf (o174 P)))))) (.node (boot_o_5 P) (.node (boot_o_9 P) (.node (o54 P) (.node (o70 P) (.node (o111 P) (lf (o180 P)) .nil) (lf (o146 P))) (.node (o92 P) (.node (o130 P) (lf (o196 P)) .nil) (lf (o164 P)))) (.node (o62 P) (.node (o81 P) (.node (o122 P) (lf (o188 P)) .nil) (lf (o154 P))) (.node (o100 P) (lf (o138 P)) (lf (o172 P))))) (.node (o45 P) (.node (o58 P) (.node (o77 P) (.node (o115 P) (lf (o184 P)) .nil) (lf (o150 P))) (.node (o96 P) (lf (o134 P)) (lf (o168 P)))) (.node (o66 P) (.node (o85 P) (.node (o126 P) (lf (o192 P)) .nil) (lf (o158 P))) (.node (o107 P) (lf (o142 P)) (lf (o176 P))))))) (.node (o49 P) (.node (boot_o_4 P) (.node (boot_o_8 P) (.node (o53 P) (.node (o69 P) (.node (o110 P) (lf (o179 P)) .nil) (lf (o145 P))) (.node (o91 P) (.node (o129 P) (lf (o195 P)) .nil) (lf (o163 P)))) (.node (o61 P) (.node (o80 P) (.node (o121 P) (lf (o187 P)) .nil) (lf (o153 P))) (.node (o104 P) (lf (o137 P)) (lf (o171 P))))) (.node (o161 P) (.node (o57 P) (.node (o76 P) (.node (o114 P) (lf (o183 P)) .nil) (lf (o149 P))) (.node (o95 P) (lf (o133 P)) (lf (o167 P)))) (.node (o65 P) (.node (o119 P) (.node (o125 P) (lf (o191 P)) .nil) (lf (o157 P))) (.node (o106 P) (lf (o141 P)) (lf (o175 P)))))) (.node (boot_o_6 P) (.node (boot_o_10 P) (.node (o55 P) (.node (o71 P) (.node (o112 P) (lf (o181 P)) .nil) (lf (o147 P))) (.node (o93 P) (lf (o131 P)) (lf (o165 P)))) (.node (o63 P) (.node (o82 P) (.node (o123 P) (lf (o189 P)) .nil) (lf (o155 P))) (.node (o101 P) (lf (o139 P)) (lf (o173 P))))) (.node (o46 P) (.node (o59 P) (.node (o78 P) (.node (o116 P) (lf (o185 P)) .nil) (lf (o151 P))) (.node (o97 P) (lf (o135 P)) (lf (o169 P)))) (.node (o67 P) (.node (o86 P) (.node (o127 P) (lf (o193 P)) .nil) (lf (o159 P))) (.node (o108 P) (lf (o143 P)) (lf (o177 P))))))))
noncomputable def tree240 (P : Params) : BT := (.node (boot_o_0 P) (.node (boot_o_1 P) (.node (o197 P) (.node (boot_o_7 P) (.node (o52 P) (.node (o74 P) (.node (o109 P) (lf (o178 P)) .nil) (.node (o144 P) (lf (o212 P)) .nil)) (.node (o90 P) (.node (o128 P) (lf (o194 P)) .nil) (.node (o162 P) (lf (o228 P)) .nil))) (.node (o60 P) (.node (o79 P) (.node (o120 P) (lf (o186 P)) .nil) (.node (o152 P) (lf (o220 P)) .nil)) (.node (o98 P) (.node (o136 P) (lf (o204 P)) .nil) (.node (o170 P) (lf (o236 P)) .nil)))) (.node (o43 P) (.node (o56 P) (.node (o75 P) (.node (o113 P) (lf (o182 P)) .nil) (.node (o148 P) (lf (o216 P)) .nil)) (.node (o94 P) (.node (o132 P) (lf (o200 P)) .nil) (.node (o166 P) (lf (o232 P)) .nil))) (.node (o64 P) (.node (o83 P) (.node (o124 P) (lf (o190 P)) .nil) (.node (o156 P) (lf (o224 P)) .nil)) (.node (o105 P) (.node (o140 P) (lf (o208 P)) .nil) (.node (o174 P) (lf (o240 P)) .nil))))) (.node (boot_o_5 P) (.node (boot_o_9 P) (.node (o54 P) (.node (o70 P) (.node (o111 P) (lf (o180 P)) .nil) (.node (o146 P) (lf (o214 P)) .nil)) (.node (o92 P) (.node (o130 P) (lf (o196 P)) .nil) (.node (o164 P) (lf (o230 P)) .nil))) (.node (o62 P) (.node (o81 P) (.node (o122 P) (lf (o188 P)) .nil) (.node (o154 P) (lf (o222 P)) .nil)) (.node (o100 P) (.node (o138 P) (lf (o206 P)) .nil) (.node (o172 P) (lf (o238 P)) .nil)))) (.node (o45 P) (.node (o58 P) (.node (o77 P) (.node (o115 P) (lf (o184 P)) .nil) (.node (o150 P) (lf (o218 P)) .nil)) (.node (o96 P) (.node (o134 P) (lf (o202 P)) .nil) (.node (o168 P) (lf (o234 P)) .nil))) (.node (o66 P) (.node (o85 P) (.node (o126 P) (lf (o192 P)) .nil) (.node (o158 P) (lf (o226 P)) .nil)) (.node (o107 P) (.node (o142 P) (lf (o210 P)) .nil) (lf (o176 P))))))) (.node (o49 P) (.node (boot_o_4 P) (.node (boot_o_8 P) (.node (o53 P) (.node (o69 P) (.node (o110 P) (lf (o179 P)) .nil) (.node (o145 P) (lf (o213 P)) .nil)) (.node (o91 P) (.node (o129 P) (lf (o195 P)) .nil) (.node (o163 P) (lf (o229 P)) .nil))) (.node (o61 P) (.node (o80 P) (.node (o121 P) (lf (o187 P)) .nil) (.node (o153 P) (lf (o221 P)) .nil)) (.node (o104 P) (.node (o137 P) (lf (o205 P)) .nil) (.node (o171 P) (lf (o237 P)) .nil)))) (.node (o198 P) (.node (o57 P) (.node (o76 P) (.node (o114 P) (lf (o183 P)) .nil) (.node (o149 P) (lf (o217 P)) .nil)) (.node (o95 P) (.node (o133 P) (lf (o201 P)) .nil) (.node (o167 P) (lf (o233 P)) .nil))) (.node (o65 P) (.node (o119 P) (.node (o125 P) (lf (o191 P)) .nil) (.node (o157 P) (lf (o225 P)) .nil)) (.node (o106 P) (.node (o141 P) (lf (o209 P)) .nil) (lf (o175 P)))))) (.node (boot_o_6 P) (.node (boot_o_10 P) (.node (o55 P) (.node (o71 P) (.node (o112 P) (lf (o181 P)) .nil) (.node (o147 P) (lf (o215 P)) .nil)) (.node (o93 P) (.node (o131 P) (lf (o199 P)) .nil) (.node (o165 P) (lf (o231 P)) .nil))) (.node (o63 P) (.node (o82 P) (.node (o123 P) (lf (o189 P)) .nil) (.node (o155 P) (lf (o223 P)) .nil)) (.node (o101 P) (.node (o139 P) (lf (o207 P)) .nil) (.node (o173 P) (lf (o239 P)) .nil)))) (.node (o46 P) (.node (o59 P) (.node (o78 P) (.node (o116 P) (lf (o185 P)) .nil) (.node (o151 P) (lf (o219 P)) .nil)) (.node (o97 P) (.node (o135 P) (lf (o203 P)) .nil) (.node (o169 P) (lf (o235 P)) .nil))) (.node (o67 P) (.node (o86 P) (.node (o127 P) (lf (o193 P)) .nil) (.node (o159 P) (lf (o227 P)) .nil)) (.node (o108 P) (.node (o143 P) (lf (o211 P)) .nil) (lf (o177 P))))))))
noncomputable def tree276 (P : Params) : BT := (.node (boot_o_0 P) (.node (boot_o_1 P) (.node (o241 P) (.node (boot_o_7 P) (.node (o52 P) (.node (o74 P) (.node (o109 P) (lf (o178 P)) (lf (o247 P))) (.node (o144 P) (lf (o212 P)) .nil)) (.node (o90 P) (.node (o128 P) (lf (o194 P)) (lf (o263 P))) (.node (o162 P) (lf (o228 P)) .nil))) (.node (o60 P) (.node (o79 P) (.node (o120 P) (lf (o186 P)) (lf (o255 P))) (.node (o152 P) (lf (o220 P)) .nil)) (.node (o98 P) (.node (o136 P) (lf (o204 P)) (lf (o271 P))) (.node (o170 P) (lf (o243 P)) .nil)))) (.node (o43 P) (.node (o56 P) (.node (o75 P) (.node (o113 P) (lf (o182 P)) (lf (o251 P))) (.node (o148 P) (lf (o216 P)) .nil)) (.node (o94 P) (.node (o132 P) (lf (o200 P)) (lf (o267 P))) (.node (o166 P) (lf (o232 P)) .nil))) (.node (o64 P) (.node (o83 P) (.node (o124 P) (lf (o190 P)) (lf (o259 P))) (.node (o156 P) (lf (o224 P)) .nil)) (.node (o105 P) (.node (o140 P) (lf (o208 P)) (lf (o275 P))) (.node (o174 P) (lf (o240 P)) .nil))))) (.node (boot_o_5 P) (.node (boot_o_9 P) (.node (o54 P) (.node (o70 P) (.node (o111 P) (lf (o180 P)) (lf (o249 P))) (.node (o146 P) (lf (o214 P)) .nil)) (.node (o92 P) (.node (o130 P) (lf (o196 P)) (lf (o265 P))) (.node (o164 P) (lf (o230 P)) .nil))) (.node (o62 P) (.node (o81 P) (.node (o122 P) (lf (o188 P)) (lf (o257 P))) (.node (o154 P) (lf (o222 P)) .nil)) (.node (o100 P) (.node (o138 P) (lf (o206 P)) (lf (o273 P))) (.node (o172 P) (lf (o238 P)) .nil)))) (.node (o45 P) (.node (o58 P) (.node (o77 P) (.node (o115 P) (lf (o184 P)) (lf (o253 P))) (.node (o150 P) (lf (o218 P)) .nil)) (.node (o96 P) (.node (o134 P) (lf (o202 P)) (lf (o269 P))) (.node (o168 P) (lf (o234 P)) .nil))) (.node (o66 P) (.node (o85 P) (.node (o126 P) (lf (o192 P)) (lf (o261 P))) (.node (o158 P) (lf (o226 P)) .nil)) (.node (o107 P) (.node (o142 P) (lf (o210 P)) .nil) (.node (o176 P) (lf (o245 P)) .nil)))))) (.node (o49 P) (.node (boot_o_4 P) (.node (boot_o_8 P) (.node (o53 P) (.node (o69 P) (.node (o110 P) (lf (o179 P)) (lf (o248 P))) (.node (o145 P) (lf (o213 P)) .nil)) (.node (o91 P) (.node (o129 P) (lf (o195 P)) (lf (o264 P))) (.node (o163 P) (lf (o229 P)) .nil))) (.node (o61 P) (.node (o80 P) (.node (o121 P) (lf (o187 P)) (lf (o256 P))) (.node (o153 P) (lf (o221 P)) .nil)) (.node (o104 P) (.node (o137 P) (lf (o205 P)) (lf (o272 P))) (.node (o171 P) (lf (o237 P)) .nil)))) (.node (o242 P) (.node (o57 P) (.node (o76 P) (.node (o114 P) (lf (o183 P)) (lf (o252 P))) (.node (o149 P) (lf (o217 P)) .nil)) (.node (o95 P) (.node (o133 P) (lf (o201 P)) (lf (o268 P))) (.node (o167 P) (lf (o233 P)) .nil))) (.node (o65 P) (.node (o119 P) (.node (o125 P) (lf (o191 P)) (lf (o260 P))) (.node (o157 P) (lf (o225 P)) .nil)) (.node (o106 P) (.node (o141 P) (lf (o209 P)) (lf (o276 P))) (.node (o175 P) (lf (o244 P)) .nil))))) (.node (boot_o_6 P) (.node (boot_o_10 P) (.node (o55 P) (.node (o71 P) (.node (o112 P) (lf (o181 P)) (lf (o250 P))) (.node (o147 P) (lf (o215 P)) .nil)) (.node (o93 P) (.node (o131 P) (lf (o199 P)) (lf (o266 P))) (.node (o165 P) (lf (o231 P)) .nil))) (.node (o63 P) (.node (o82 P) (.node (o123 P) (lf (o189 P)) (lf (o258 P))) (.node (o155 P) (lf (o223 P)) .nil)) (.node (o101 P) (.node (o139 P) (lf (o207 P)) (lf (o274 P))) (.node (o173 P) (lf (o239 P)) .nil)))) (.node (o46 P) (.node (o59 P) (.node (o78 P) (.node (o116 P) (lf (o185 P)) (lf (o254 P))) (.node (o151 P) (lf (o219 P)) .nil)) (.node (o97 P) (.node (o135 P) (lf (o203 P)) (lf (o270 P))) (.node (o169 P) (lf (o235 P)) .nil))) (.node (o67 P) (.node (o86 P) (.node (o127 P) (lf (o193 P)) (lf (o262 P))) (.node (o159 P) (lf (o227 P)) .nil)) (.node (o108 P) (.node (o143 P) (lf (o211 P)) .nil) (.node (o177 P) (lf (o246 P)) .nil)))))))
noncomputable def tree333 (P : Params) : BT := (.node (boot_o_0 P) (.node (boot_o_1 P) (.node (o277 P) (.node (boot_o_7 P) (.node (o52 P) (.node (o74 P) (.node (o109 P) (.node (o178 P) (lf (o314 P)) .nil) (lf (o247 P))) (.node (o144 P) (lf (o212 P)) (lf (o282 P)))) (.node (o90 P) (.node (o128 P) (.node (o194 P) (lf (o330 P)) .nil) (lf (o263 P))) (.node (o162 P) (lf (o228 P)) (lf (o298 P))))) (.node (o60 P) (.node (o79 P) (.node (o120 P) (.node (o186 P) (lf (o322 P)) .nil) (lf (o255 P))) (.node (o152 P) (lf (o220 P)) (lf (o290 P)))) (.node (o98 P) (.node (o136 P) (lf (o204 P)) (lf (o271 P))) (.node (o170 P) (lf (o279 P)) (lf (o306 P)))))) (.node (o43 P) (.node (o56 P) (.node (o75 P) (.node (o113 P) (.node (o182 P) (lf (o318 P)) .nil) (lf (o251 P))) (.node (o148 P) (lf (o216 P)) (lf (o286 P)))) (.node (o94 P) (.node (o132 P) (lf (o200 P)) (lf (o267 P))) (.node (o166 P) (lf (o232 P)) (lf (o302 P))))) (.node (o64 P) (.node (o83 P) (.node (o124 P) (.node (o190 P) (lf (o326 P)) .nil) (lf (o259 P))) (.node (o156 P) (lf (o224 P)) (lf (o294 P)))) (.node (o105 P) (.node (o140 P) (lf (o208 P)) (lf (o275 P))) (.node (o174 P) (lf (o240 P)) (lf (o310 P))))))) (.node (boot_o_5 P) (.node (boot_o_9 P) (.node (o54 P) (.node (o70 P) (.node (o111 P) (.node (o180 P) (lf (o316 P)) .nil) (lf (o249 P))) (.node (o146 P) (lf (o214 P)) (lf (o284 P)))) (.node (o92 P) (.node (o130 P) (.node (o196 P) (lf (o332 P)) .nil) (lf (o265 P))) (.node (o164 P) (lf (o230 P)) (lf (o300 P))))) (.node (o62 P) (.node (o81 P) (.node (o122 P) (.node (o188 P) (lf (o324 P)) .nil) (lf (o257 P))) (.node (o154 P) (lf (o222 P)) (lf (o292 P)))) (.node (o100 P) (.node (o138 P) (lf (o206 P)) (lf (o273 P))) (.node (o172 P) (lf (o238 P)) (lf (o308 P)))))) (.node (o45 P) (.node (o58 P) (.node (o77 P) (.node (o115 P) (.node (o184 P) (lf (o320 P)) .nil) (lf (o253 P))) (.node (o150 P) (lf (o218 P)) (lf (o288 P)))) (.node (o96 P) (.node (o134 P) (lf (o202 P)) (lf (o269 P))) (.node (o168 P) (lf (o234 P)) (lf (o304 P))))) (.node (o66 P) (.node (o85 P) (.node (o126 P) (.node (o192 P) (lf (o328 P)) .nil) (lf (o261 P))) (.node (o158 P) (lf (o226 P)) (lf (o296 P)))) (.node (o107 P) (.node (o142 P) (lf (o210 P)) (lf (o280 P))) (.node (o176 P) (lf (o245 P)) (lf (o312 P)))))))) (.node (o49 P) (.node (boot_o_4 P) (.node (boot_o_8 P) (.node (o53 P) (.node (o69 P) (.node (o110 P) (.node (o179 P) (lf (o315 P)) .nil) (lf (o248 P))) (.node (o145 P) (lf (o213 P)) (lf (o283 P)))) (.node (o91 P) (.node (o129 P) (.node (o195 P) (lf (o331 P)) .nil) (lf (o264 P))) (.node (o163 P) (lf (o229 P)) (lf (o299 P))))) (.node (o61 P) (.node (o80 P) (.node (o121 P) (.node (o187 P) (lf (o323 P)) .nil) (lf (o256 P))) (.node (o153 P) (lf (o221 P)) (lf (o291 P)))) (.node (o104 P) (.node (o137 P) (lf (o205 P)) (lf (o272 P))) (.node (o171 P) (lf (o237 P)) (lf (o307 P)))))) (.node (o278 P) (.node (o57 P) (.node (o76 P) (.node (o114 P) (.node (o183 P) (lf (o319 P)) .nil) (lf (o252 P))) (.node (o149 P) (lf (o217 P)) (lf (o287 P)))) (.node (o95 P) (.node (o133 P) (lf (o201 P)) (lf (o268 P))) (.node (o167 P) (lf (o233 P)) (lf (o303 P))))) (.node (o65 P) (.node (o119 P) (.node (o125 P) (.node (o191 P) (lf (o327 P)) .nil) (lf (o260 P))) (.node (o157 P) (lf (o225 P)) (lf (o295 P)))) (.node (o106 P) (.node (o141 P) (lf (o209 P)) (lf (o276 P))) (.node (o175 P) (lf (o244 P)) (lf (o311 P))))))) (.node (boot_o_6 P) (.node (boot_o_10 P) (.node (o55 P) (.node (o71 P) (.node (o112 P) (.node (o181 P) (lf (o317 P)) .nil) (lf (o250 P))) (.node (o147 P) (lf (o215 P)) (lf (o285 P)))) (.node (o93 P) (.node (o131 P) (.node (o199 P) (lf (o333 P)) .nil) (lf (o266 P))) (.node (o165 P) (lf (o231 P)) (lf (o301 P))))) (.node (o63 P) (.node (o82 P) (.node (o123 P) (.node (o189 P) (lf (o325 P)) .nil) (lf (o258 P))) (.node (o155 P) (lf (o223 P)) (lf (o293 P)))) (.node (o101 P) (.node (o139 P) (lf (o207 P)) (lf (o274 P))) (.node (o173 P) (lf (o239 P)) (lf (o309 P)))))) (.node (o46 P) (.node (o59 P) (.node (o78 P) (.node (o116 P) (.node (o185 P) (lf (o321 P)) .nil) (lf (o254 P))) (.node (o151 P) (lf (o219 P)) (lf (o289 P)))) (.node (o97 P) (.node (o135 P) (lf (o203 P)) (lf (o270 P))) (.node (o169 P) (lf (o235 P)) (lf (o305 P))))) (.node (o67 P) (.node (o86 P) (.node (o127 P) (.node (o193 P) (lf (o329 P)) .nil) (lf (o262 P))) (.node (o159 P) (lf (o227 P)) (lf (o297 P)))) (.node (o108 P) (.node (o143 P) (lf (o211 P)) (lf (o281 P))) (.node (o177 P) (lf (o246 P)) (lf (o313 P)))))))))
noncomputable def tree377 (P : Params) : BT := (.node (boot_o_0 P) (.node (boot_o_1 P) (.node (o334 P) (.node (boot_o_7 P) (.node (o52 P) (.node (o74 P) (.node (o109 P) (.node (o178 P) (lf (o314 P)) .nil) (lf (o247 P))) (.node (o144 P) (.node (o212 P) (lf (o348 P)) .nil) (lf (o282 P)))) (.node (o90 P) (.node (o128 P) (.node (o194 P) (lf (o330 P)) .nil) (lf (o263 P))) (.node (o162 P) (.node (o228 P) (lf (o364 P)) .nil) (lf (o298 P))))) (.node (o60 P) (.node (o79 P) (.node (o120 P) (.node (o186 P) (lf (o322 P)) .nil) (lf (o255 P))) (.node (o152 P) (.node (o220 P) (lf (o356 P)) .nil) (lf (o290 P)))) (.node (o98 P) (.node (o136 P) (.node (o204 P) (lf (o340 P)) .nil) (lf (o271 P))) (.node (o170 P) (.node (o279 P) (lf (o372 P)) .nil) (lf (o306 P)))))) (.node (o43 P) (.node (o56 P) (.node (o75 P) (.node (o113 P) (.node (o182 P) (lf (o318 P)) .nil) (lf (o251 P))) (.node (o148 P) (.node (o216 P) (lf (o352 P)) .nil) (lf (o286 P)))) (.node (o94 P) (.node (o132 P) (.node (o200 P) (lf (o336 P)) .nil) (lf (o267 P))) (.node (o166 P) (.node (o232 P) (lf (o368 P)) .nil) (lf (o302 P))))) (.node (o64 P) (.node (o83 P) (.node (o124 P) (.node (o190 P) (lf (o326 P)) .nil) (lf (o259 P))) (.node (o156 P) (.node (o224 P) (lf (o360 P)) .nil) (lf (o294 P)))) (.node (o105 P) (.node (o140 P) (.node (o208 P) (lf (o344 P)) .nil) (lf (o275 P))) (.node (o174 P) (.node (o240 P) (lf (o376 P)) .nil) (lf (o310 P))))))) (.node (boot_o_5 P) (.node (boot_o_9 P) (.node (o54 P) (.node (o70 P) (.node (o111 P) (.node (o180 P) (lf (o316 P)) .nil) (lf (o249 P))) (.node (o146 P) (.node (o214 P) (lf (o350 P)) .nil) (lf (o284 P)))) (.node (o92 P) (.node (o130 P) (.node (o196 P) (lf (o332 P)) .nil) (lf (o265 P))) (.node (o164 P) (.node (o230 P) (lf (o366 P)) .nil) (lf (o300 P))))) (.node (o62 P) (.node (o81 P) (.node (o122 P) (.node (o188 P) (lf (o324 P)) .nil) (lf (o257 P))) (.node (o154 P) (.node (o222 P) (lf (o358 P)) .nil) (lf (o292 P)))) (.node (o100 P) (.node (o138 P) (.node (o206 P) (lf (o342 P)) .nil) (lf (o273 P))) (.node (o172 P) (.node (o238 P) (lf (o374 P)) .nil) (lf (o308 P)))))) (.node (o45 P) (.node (o58 P) (.node (o77 P) (.node (o115 P) (.node (o184 P) (lf (o320 P)) .nil) (lf (o253 P))) (.node (o150 P) (.node (o218 P) (lf (o354 P)) .nil) (lf (o288 P)))) (.node (o96 P) (.node (o134 P) (.node (o202 P) (lf (o338 P)) .nil) (lf (o269 P))) (.node (o168 P) (.node (o234 P) (lf (o370 P)) .nil) (lf (o304 P))))) (.node (o66 P) (.node (o85 P) (.node (o126 P) (.node (o192 P) (lf (o328 P)) .nil) (lf (o261 P))) (.node (o158 P) (.node (o226 P) (lf (o362 P)) .nil) (lf (o296 P)))) (.node (o107 P) (.node (o142 P) (.node (o210 P) (lf (o346 P)) .nil) (lf (o280 P))) (.node (o176 P) (lf (o245 P)) (lf (o312 P)))))))) (.node (o49 P) (.node (boot_o_4 P) (.node (boot_o_8 P) (.node (o53 P) (.node (o69 P) (.node (o110 P) (.node (o179 P) (lf (o315 P)) .nil) (lf (o248 P))) (.node (o145 P) (.node (o213 P) (lf (o349 P)) .nil) (lf (o283 P)))) (.node (o91 P) (.node (o129 P) (.node (o195 P) (lf (o331 P)) .nil) (lf (o264 P))) (.node (o163 P) (.node (o229 P) (lf (o365 P)) .nil) (lf (o299 P))))) (.node (o61 P) (.node (o80 P) (.node (o121 P) (.node (o187 P) (lf (o323 P)) .nil) (lf (o256 P))) (.node (o153 P) (.node (o221 P) (lf (o357 P)) .nil) (lf (o291 P)))) (.node (o104 P) (.node (o137 P) (.node (o205 P) (lf (o341 P)) .nil) (lf (o272 P))) (.node (o171 P) (.node (o237 P) (lf (o373 P)) .nil) (lf (o307 P)))))) (.node (o335 P) (.node (o57 P) (.node (o76 P) (.node (o114 P) (.node (o183 P) (lf (o319 P)) .nil) (lf (o252 P))) (.node (o149 P) (.node (o217 P) (lf (o353 P)) .nil) (lf (o287 P)))) (.node (o95 P) (.node (o133 P) (.node (o201 P) (lf (o337 P)) .nil) (lf (o268 P))) (.node (o167 P) (.node (o233 P) (lf (o369 P)) .nil) (lf (o303 P))))) (.node (o65 P) (.node (o119 P) (.node (o125 P) (.node (o191 P) (lf (o327 P)) .nil) (lf (o260 P))) (.node (o157 P) (.node (o225 P) (lf (o361 P)) .nil) (lf (o295 P)))) (.node (o106 P) (.node (o141 P) (.node (o209 P) (lf (o345 P)) .nil) (lf (o276 P))) (.node (o175 P) (.node (o244 P) (lf (o377 P)) .nil) (lf (o311 P))))))) (.node (boot_o_6 P) (.node (boot_o_10 P) (.node (o55 P) (.node (o71 P) (.node (o112 P) (.node (o181 P) (lf (o317 P)) .nil) (lf (o250 P))) (.node (o147 P) (.node (o215 P) (lf (o351 P)) .nil) (lf (o285 P)))) (.node (o93 P) (.node (o131 P) (.node (o199 P) (lf (o333 P)) .nil) (lf (o266 P))) (.node (o165 P) (.node (o231 P) (lf (o367 P)) .nil) (lf (o301 P))))) (.node (o63 P) (.node (o82 P) (.node (o123 P) (.node (o189 P) (lf (o325 P)) .nil) (lf (o258 P))) (.node (o155 P) (.node (o223 P) (lf (o359 P)) .nil) (lf (o293 P)))) (.node (o101 P) (.node (o139 P) (.node (o207 P) (lf (o343 P)) .nil) (lf (o274 P))) (.node (o173 P) (.node (o239 P) (lf (o375 P)) .nil) (lf (o309 P)))))) (.node (o46 P) (.node (o59 P) (.node (o78 P) (.node (o116 P) (.node (o185 P) (lf (o321 P)) .nil) (lf (o254 P))) (.node (o151 P) (.node (o219 P) (lf (o355 P)) .nil) (lf (o289 P)))) (.node (o97 P) (.node (o135 P) (.node (o203 P) (lf (o339 P)) .nil) (lf (o270 P))) (.node (o169 P) (.node (o235 P) (lf (o371 P)) .nil) (lf (o305 P))))) (.node (o67 P) (.node (o86 P) (.node (o127 P) (.node (o193 P) (lf (o329 P)) .nil) (lf (o262 P))) (.node (o159 P) (.node (o227 P) (lf (o363 P)) .nil) (lf (o297 P)))) (.node (o108 P) (.node (o143 P) (.node (o211 P) (lf (o347 P)) .nil) (lf (o281 P))) (.node (o177 P) (lf (o246 P)) (lf (o313 P)))))))))
noncomputable def tree407 (P : Params) : BT := (.node (boot_o_0 P) (.node (boot_o_1 P) (.node (o378 P) (.node (boot_o_7 P) (.node (o52 P) (.node (o74 P) (.node (o109 P) (.node (o178 P) (lf (o314 P)) .nil) (.node (o247 P) (lf (o382 P)) .nil)) (.node (o144 P) (.node (o212 P) (lf (o348 P)) .nil) (lf (o282 P)))) (.node (o90 P) (.node (o128 P) (.node (o194 P) (lf (o330 P)) .nil) (.node (o263 P) (lf (o398 P)) .nil)) (.node (o162 P) (.node (o228 P) (lf (o364 P)) .nil) (lf (o298 P))))) (.node (o60 P) (.node (o79 P) (.node (o120 P) (.node (o186 P) (lf (o322 P)) .nil) (.node (o255 P) (lf (o390 P)) .nil)) (.node (o152 P) (.node (o220 P) (lf (o356 P)) .nil) (lf (o290 P)))) (.node (o98 P) (.node (o136 P) (.node (o204 P) (lf (o340 P)) .nil) (.node (o271 P) (lf (o406 P)) .nil)) (.node (o170 P) (.node (o279 P) (lf (o372 P)) .nil) (lf (o306 P)))))) (.node (o43 P) (.node (o56 P) (.node (o75 P) (.node (o113 P) (.node (o182 P) (lf (o318 P)) .nil) (.node (o251 P) (lf (o386 P)) .nil)) (.node (o148 P) (.node (o216 P) (lf (o352 P)) .nil) (lf (o286 P)))) (.node (o94 P) (.node (o132 P) (.node (o200 P) (lf (o336 P)) .nil) (.node (o267 P) (lf (o402 P)) .nil)) (.node (o166 P) (.node (o232 P) (lf (o368 P)) .nil) (lf (o302 P))))) (.node (o64 P) (.node (o83 P) (.node (o124 P) (.node (o190 P) (lf (o326 P)) .nil) (.node (o259 P) (lf (o394 P)) .nil)) (.node (o156 P) (.node (o224 P) (lf (o360 P)) .nil) (lf (o294 P)))) (.node (o105 P) (.node (o140 P) (.node (o208 P) (lf (o344 P)) .nil) (lf (o275 P))) (.node (o174 P) (.node (o240 P) (lf (o376 P)) .nil) (lf (o310 P))))))) (.node (boot_o_5 P) (.node (boot_o_9 P) (.node (o54 P) (.node (o70 P) (.node (o111 P) (.node (o180 P) (lf (o316 P)) .nil) (.node (o249 P) (lf (o384 P)) .nil)) (.node (o146 P) (.node (o214 P) (lf (o350 P)) .nil) (lf (o284 P)))) (.node (o92 P) (.node (o130 P) (.node (o196 P) (lf (o332 P)) .nil) (.node (o265 P) (lf (o400 P)) .nil)) (.node (o164 P) (.node (o230 P) (lf (o366 P)) .nil) (lf (o300 P))))) (.node (o62 P) (.node (o81 P) (.node (o122 P) (.node (o188 P) (lf (o324 P)) .nil) (.node (o257 P) (lf (o392 P)) .nil)) (.node (o154 P) (.node (o222 P) (lf (o358 P)) .nil) (lf (o292 P)))) (.node (o100 P) (.node (o138 P) (.node (o206 P) (lf (o342 P)) .nil) (lf (o273 P))) (.node (o172 P) (.node (o238 P) (lf (o374 P)) .nil) (lf (o308 P)))))) (.node (o45 P) (.node (o58 P) (.node (o77 P) (.node (o115 P) (.node (o184 P) (lf (o320 P)) .nil) (.node (o253 P) (lf (o388 P)) .nil)) (.node (o150 P) (.node (o218 P) (lf (o354 P)) .nil) (lf (o288 P)))) (.node (o96 P) (.node (o134 P) (.node (o202 P) (lf (o338 P)) .nil) (.node (o269 P) (lf (o404 P)) .nil)) (.node (o168 P) (.node (o234 P) (lf (o370 P)) .nil) (lf (o304 P))))) (.node (o66 P) (.node (o85 P) (.node (o126 P) (.node (o192 P) (lf (o328 P)) .nil) (.node (o261 P) (lf (o396 P)) .nil)) (.node (o158 P) (.node (o226 P) (lf (o362 P)) .nil) (lf (o296 P)))) (.node (o107 P) (.node (o142 P) (.node (o210 P) (lf (o346 P)) .nil) (lf (o280 P))) (.node (o176 P) (.node (o245 P) (lf (o380 P)) .nil) (lf (o312 P)))))))) (.node (o49 P) (.node (boot_o_4 P) (.node (boot_o_8 P) (.node (o53 P) (.node (o69 P) (.node (o110 P) (.node (o179 P) (lf (o315 P)) .nil) (.node (o248 P) (lf (o383 P)) .nil)) (.node (o145 P) (.node (o213 P) (lf (o349 P)) .nil) (lf (o283 P)))) (.node (o91 P) (.node (o129 P) (.node (o195 P) (lf (o331 P)) .nil) (.node (o264 P) (lf (o399 P)) .nil)) (.node (o163 P) (.node (o229 P) (lf (o365 P)) .nil) (lf (o299 P))))) (.node (o61 P) (.node (o80 P) (.node (o121 P) (.node (o187 P) (lf (o323 P)) .nil) (.node (o256 P) (lf (o391 P)) .nil)) (.node (o153 P) (.node (o221 P) (lf (o357 P)) .nil) (lf (o291 P)))) (.node (o104 P) (.node (o137 P) (.node (o205 P) (lf (o341 P)) .nil) (.node (o272 P) (lf (o407 P)) .nil)) (.node (o171 P) (.node (o237 P) (lf (o373 P)) .nil) (lf (o307 P)))))) (.node (o379 P) (.node (o57 P) (.node (o76 P) (.node (o114 P) (.node (o183 P) (lf (o319 P)) .nil) (.node (o252 P) (lf (o387 P)) .nil)) (.node (o149 P) (.node (o217 P) (lf (o353 P)) .nil) (lf (o287 P)))) (.node (o95 P) (.node (o133 P) (.node (o201 P) (lf (o337 P)) .nil) (.node (o268 P) (lf (o403 P)) .nil)) (.node (o167 P) (.node (o233 P) (lf (o369 P)) .nil) (lf (o303 P))))) (.node (o65 P) (.node (o119 P) (.node (o125 P) (.node (o191 P) (lf (o327 P)) .nil) (.node (o260 P) (lf (o395 P)) .nil)) (.node (o157 P) (.node (o225 P) (lf (o361 P)) .nil) (lf (o295 P)))) (.node (o106 P) (.node (o141 P) (.node (o209 P) (lf (o345 P)) .nil) (lf (o276 P))) (.node (o175 P) (.node (o244 P) (lf (o377 P)) .nil) (lf (o311 P))))))) (.node (boot_o_6 P) (.node (boot_o_10 P) (.node (o55 P) (.node (o71 P) (.node (o112 P) (.node (o181 P) (lf (o317 P)) .nil) (.node (o250 P) (lf (o385 P)) .nil)) (.node (o147 P) (.node (o215 P) (lf (o351 P)) .nil) (lf (o285 P)))) (.node (o93 P) (.node (o131 P) (.node (o199 P) (lf (o333 P)) .nil) (.node (o266 P) (lf (o401 P)) .nil)) (.node (o165 P) (.node (o231 P) (lf (o367 P)) .nil) (lf (o301 P))))) (.node (o63 P) (.node (o82 P) (.node (o123 P) (.node (o189 P) (lf (o325 P)) .nil) (.node (o258 P) (lf (o393 P)) .nil)) (.node (o155 P) (.node (o223 P) (lf (o359 P)) .nil) (lf (o293 P)))) (.node (o101 P) (.node (o139 P) (.node (o207 P) (lf (o343 P)) .nil) (lf (o274 P))) (.node (o173 P) (.node (o239 P) (lf (o375 P)) .nil) (lf (o309 P)))))) (.node (o46 P) (.node (o59 P) (.node (o78 P) (.node (o116 P) (.node (o185 P) (lf (o321 P)) .nil) (.node (o254 P) (lf (o389 P)) .nil)) (.node (o151 P) (.node (o219 P) (lf (o355 P)) .nil) (lf (o289 P)))) (.node (o97 P) (.node (o135 P) (.node (o203 P) (lf (o339 P)) .nil) (.node (o270 P) (lf (o405 P)) .nil)) (.node (o169 P) (.node (o235 P) (lf (o371 P)) .nil) (lf (o305 P))))) (.node (o67 P) (.node (o86 P) (.node (o127 P) (.node (o193 P) (lf (o329 P)) .nil) (.node (o262 P) (lf (o397 P)) .nil)) (.node (o159 P) (.node (o227 P) (lf (o363 P)) .nil) (lf (o297 P)))) (.node (o108 P) (.node (o143 P) (.node (o211 P) (lf (o347 P)) .nil) (lf (o281 P))) (.node (o177 P) (.node (o246 P) (lf (o381 P)) .nil) (lf (o313 P)))))))))
noncomputable def tree451 (P : Params) : BT := (.node (boot_o_0 P) (.node (boot_o_1 P) (.node (o408 P) (.node (boot_o_7 P) (.node (o52 P) (.node (o74 P) (.node (o109 P) (.node (o178 P) (lf (o314 P)) (lf (o448 P))) (.node (o247 P) (lf (o382 P)) .nil)) (.node (o144 P) (.node (o212 P) (lf (o348 P)) .nil) (.node (o282 P) (lf (o416 P)) .nil))) (.node (o90 P) (.node (o128 P) (.node (o194 P) (lf (o330 P)) .nil) (.node (o263 P) (lf (o398 P)) .nil)) (.node (o162 P) (.node (o228 P) (lf (o364 P)) .nil) (.node (o298 P) (lf (o432 P)) .nil)))) (.node (o60 P) (.node (o79 P) (.node (o120 P) (.node (o186 P) (lf (o322 P)) .nil) (.node (o255 P) (lf (o390 P)) .nil)) (.node (o152 P) (.node (o220 P) (lf (o356 P)) .nil) (.node (o290 P) (lf (o424 P)) .nil))) (.node (o98 P) (.node (o136 P) (.node (o204 P) (lf (o340 P)) .nil) (.node (o271 P) (lf (o406 P)) .nil)) (.node (o170 P) (.node (o279 P) (lf (o372 P)) .nil) (.node (o306 P) (lf (o440 P)) .nil))))) (.node (o43 P) (.node (o56 P) (.node (o75 P) (.node (o113 P) (.node (o182 P) (lf (o318 P)) .nil) (.node (o251 P) (lf (o386 P)) .nil)) (.node (o148 P) (.node (o216 P) (lf (o352 P)) .nil) (.node (o286 P) (lf (o420 P)) .nil))) (.node (o94 P) (.node (o132 P) (.node (o200 P) (lf (o336 P)) .nil) (.node (o267 P) (lf (o402 P)) .nil)) (.node (o166 P) (.node (o232 P) (lf (o368 P)) .nil) (.node (o302 P) (lf (o436 P)) .nil)))) (.node (o64 P) (.node (o83 P) (.node (o124 P) (.node (o190 P) (lf (o326 P)) .nil) (.node (o259 P) (lf (o394 P)) .nil)) (.node (o156 P) (.node (o224 P) (lf (o360 P)) .nil) (.node (o294 P) (lf (o428 P)) .nil))) (.node (o105 P) (.node (o140 P) (.node (o208 P) (lf (o344 P)) .nil) (.node (o275 P) (lf (o412 P)) .nil)) (.node (o174 P) (.node (o240 P) (lf (o376 P)) .nil) (.node (o310 P) (lf (o444 P)) .nil)))))) (.node (boot_o_5 P) (.node (boot_o_9 P) (.node (o54 P) (.node (o70 P) (.node (o111 P) (.node (o180 P) (lf (o316 P)) (lf (o450 P))) (.node (o249 P) (lf (o384 P)) .nil)) (.node (o146 P) (.node (o214 P) (lf (o350 P)) .nil) (.node (o284 P) (lf (o418 P)) .nil))) (.node (o92 P) (.node (o130 P) (.node (o196 P) (lf (o332 P)) .nil) (.node (o265 P) (lf (o400 P)) .nil)) (.node (o164 P) (.node (o230 P) (lf (o366 P)) .nil) (.node (o300 P) (lf (o434 P)) .nil)))) (.node (o62 P) (.node (o81 P) (.node (o122 P) (.node (o188 P) (lf (o324 P)) .nil) (.node (o257 P) (lf (o392 P)) .nil)) (.node (o154 P) (.node (o222 P) (lf (o358 P)) .nil) (.node (o292 P) (lf (o426 P)) .nil))) (.node (o100 P) (.node (o138 P) (.node (o206 P) (lf (o342 P)) .nil) (.node (o273 P) (lf (o410 P)) .nil)) (.node (o172 P) (.node (o238 P) (lf (o374 P)) .nil) (.node (o308 P) (lf (o442 P)) .nil))))) (.node (o45 P) (.node (o58 P) (.node (o77 P) (.node (o115 P) (.node (o184 P) (lf (o320 P)) .nil) (.node (o253 P) (lf (o388 P)) .nil)) (.node (o150 P) (.node (o218 P) (lf (o354 P)) .nil) (.node (o288 P) (lf (o422 P)) .nil))) (.node (o96 P) (.node (o134 P) (.node (o202 P) (lf (o338 P)) .nil) (.node (o269 P) (lf (o404 P)) .nil)) (.node (o168 P) (.node (o234 P) (lf (o370 P)) .nil) (.node (o304 P) (lf (o438 P)) .nil)))) (.node (o66 P) (.node (o85 P) (.node (o126 P) (.node (o192 P) (lf (o328 P)) .nil) (.node (o261 P) (lf (o396 P)) .nil)) (.node (o158 P) (.node (o226 P) (lf (o362 P)) .nil) (.node (o296 P) (lf (o430 P)) .nil))) (.node (o107 P) (.node (o142 P) (.node (o210 P) (lf (o346 P)) .nil) (.node (o280 P) (lf (o414 P)) .nil)) (.node (o176 P) (.node (o245 P) (lf (o380 P)) .nil) (.node (o312 P) (lf (o446 P)) .nil))))))) (.node (o49 P) (.node (boot_o_4 P) (.node (boot_o_8 P) (.node (o53 P) (.node (o69 P) (.node (o110 P) (.node (o179 P) (lf (o315 P)) (lf (o449 P))) (.node (o248 P) (lf (o383 P)) .nil)) (.node (o145 P) (.node (o213 P) (lf (o349 P)) .nil) (.node (o283 P) (lf (o417 P)) .nil))) (.node (o91 P) (.node (o129 P) (.node (o195 P) (lf (o331 P)) .nil) (.node (o264 P) (lf (o399 P)) .nil)) (.node (o163 P) (.node (o229 P) (lf (o365 P)) .nil) (.node (o299 P) (lf (o433 P)) .nil)))) (.node (o61 P) (.node (o80 P) (.node (o121 P) (.node (o187 P) (lf (o323 P)) .nil) (.node (o256 P) (lf (o391 P)) .nil)) (.node (o153 P) (.node (o221 P) (lf (o357 P)) .nil) (.node (o291 P) (lf (o425 P)) .nil))) (.node (o104 P) (.node (o137 P) (.node (o205 P) (lf (o341 P)) .nil) (.node (o272 P) (lf (o407 P)) .nil)) (.node (o171 P) (.node (o237 P) (lf (o373 P)) .nil) (.node (o307 P) (lf (o441 P)) .nil))))) (.node (o409 P) (.node (o57 P) (.node (o76 P) (.node (o114 P) (.node (o183 P) (lf (o319 P)) .nil) (.node (o252 P) (lf (o387 P)) .nil)) (.node (o149 P) (.node (o217 P) (lf (o353 P)) .nil) (.node (o287 P) (lf (o421 P)) .nil))) (.node (o95 P) (.node (o133 P) (.node (o201 P) (lf (o337 P)) .nil) (.node (o268 P) (lf (o403 P)) .nil)) (.node (o167 P) (.node (o233 P) (lf (o369 P)) .nil) (.node (o303 P) (lf (o437 P)) .nil)))) (.node (o65 P) (.node (o119 P) (.node (o125 P) (.node (o191 P) (lf (o327 P)) .nil) (.node (o260 P) (lf (o395 P)) .nil)) (.node (o157 P) (.node (o225 P) (lf (o361 P)) .nil) (.node (o295 P) (lf (o429 P)) .nil))) (.node (o106 P) (.node (o141 P) (.node (o209 P) (lf (o345 P)) .nil) (.node (o276 P) (lf (o413 P)) .nil)) (.node (o175 P) (.node (o244 P) (lf (o377 P)) .nil) (.node (o311 P) (lf (o445 P)) .nil)))))) (.node (boot_o_6 P) (.node (boot_o_10 P) (.node (o55 P) (.node (o71 P) (.node (o112 P) (.node (o181 P) (lf (o317 P)) (lf (o451 P))) (.node (o250 P) (lf (o385 P)) .nil)) (.node (o147 P) (.node (o215 P) (lf (o351 P)) .nil) (.node (o285 P) (lf (o419 P)) .nil))) (.node (o93 P) (.node (o131 P) (.node (o199 P) (lf (o333 P)) .nil) (.node (o266 P) (lf (o401 P)) .nil)) (.node (o165 P) (.node (o231 P) (lf (o367 P)) .nil) (.node (o301 P) (lf (o435 P)) .nil)))) (.node (o63 P) (.node (o82 P) (.node (o123 P) (.node (o189 P) (lf (o325 P)) .nil) (.node (o258 P) (lf (o393 P)) .nil)) (.node (o155 P) (.node (o223 P) (lf (o359 P)) .nil) (.node (o293 P) (lf (o427 P)) .nil))) (.node (o101 P) (.node (o139 P) (.node (o207 P) (lf (o343 P)) .nil) (.node (o274 P) (lf (o411 P)) .nil)) (.node (o173 P) (.node (o239 P) (lf (o375 P)) .nil) (.node (o309 P) (lf (o443 P)) .nil))))) (.node (o46 P) (.node (o59 P) (.node (o78 P) (.node (o116 P) (.node (o185 P) (lf (o321 P)) .nil) (.node (o254 P) (lf (o389 P)) .nil)) (.node (o151 P) (.node (o219 P) (lf (o355 P)) .nil) (.node (o289 P) (lf (o423 P)) .nil))) (.node (o97 P) (.node (o135 P) (.node (o203 P) (lf (o339 P)) .nil) (.node (o270 P) (lf (o405 P)) .nil)) (.node (o169 P) (.node (o235 P) (lf (o371 P)) .nil) (.node (o305 P) (lf (o439 P)) .nil)))) (.node (o67 P) (.node (o86 P) (.node (o127 P) (.node (o193 P) (lf (o329 P)) .nil) (.node (o262 P) (lf (o397 P)) .nil)) (.node (o159 P) (.node (o227 P) (lf (o363 P)) .nil) (.node (o297 P) (lf (o431 P)) .nil))) (.node (o108 P) (.node (o143 P) (.node (o211 P) (lf (o347 P)) .nil) (.node (o281 P) (lf (o415 P)) .nil)) (.node (o177 P) (.node (o246 P) (lf (o381 P)) .nil) (.node (o313 P) (lf (o447 P)) .nil))))))))
noncomputable def tree537 (P : Params) : BT := (.node (boot_o_0 P) (.node (boot_o_1 P) (.node (o452 P) (.node (boot_o_7 P) (.node (o52 P) (.node (o74 P) (.node (o109 P) (.node (o178 P) (lf (o314 P)) (lf (o448 P))) (.node (o247 P) (lf (o382 P)) (lf (o514 P)))) (.node (o144 P) (.node (o212 P) (lf (o348 P)) (lf (o482 P))) (.node (o282 P) (lf (o416 P)) .nil))) (.node (o90 P) (.node (o128 P) (.node (o194 P) (lf (o330 P)) (lf (o466 P))) (.node (o263 P) (lf (o398 P)) (lf (o530 P)))) (.node (o162 P) (.node (o228 P) (lf (o364 P)) (lf (o498 P))) (.node (o298 P) (lf (o432 P)) .nil)))) (.node (o60 P) (.node (o79 P) (.node (o120 P) (.node (o186 P) (lf (o322 P)) (lf (o458 P))) (.node (o255 P) (lf (o390 P)) (lf (o522 P)))) (.node (o152 P) (.node (o220 P) (lf (o356 P)) (lf (o490 P))) (.node (o290 P) (lf (o424 P)) .nil))) (.node (o98 P) (.node (o136 P) (.node (o204 P) (lf (o340 P)) (lf (o474 P))) (.node (o271 P) (lf (o406 P)) .nil)) (.node (o170 P) (.node (o279 P) (lf (o372 P)) (lf (o506 P))) (.node (o306 P) (lf (o440 P)) .nil))))) (.node (o43 P) (.node (o56 P) (.node (o75 P) (.node (o113 P) (.node (o182 P) (lf (o318 P)) (lf (o454 P))) (.node (o251 P) (lf (o386 P)) (lf (o518 P)))) (.node (o148 P) (.node (o216 P) (lf (o352 P)) (lf (o486 P))) (.node (o286 P) (lf (o420 P)) .nil))) (.node (o94 P) (.node (o132 P) (.node (o200 P) (lf (o336 P)) (lf (o470 P))) (.node (o267 P) (lf (o402 P)) (lf (o534 P)))) (.node (o166 P) (.node (o232 P) (lf (o368 P)) (lf (o502 P))) (.node (o302 P) (lf (o436 P)) .nil)))) (.node (o64 P) (.node (o83 P) (.node (o124 P) (.node (o190 P) (lf (o326 P)) (lf (o462 P))) (.node (o259 P) (lf (o394 P)) (lf (o526 P)))) (.node (o156 P) (.node (o224 P) (lf (o360 P)) (lf (o494 P))) (.node (o294 P) (lf (o428 P)) .nil))) (.node (o105 P) (.node (o140 P) (.node (o208 P) (lf (o344 P)) (lf (o478 P))) (.node (o275 P) (lf (o412 P)) .nil)) (.node (o174 P) (.node (o240 P) (lf (o376 P)) (lf (o510 P))) (.node (o310 P) (lf (o444 P)) .nil)))))) (.node (boot_o_5 P) (.node (boot_o_9 P) (.node (o54 P) (.node (o70 P) (.node (o111 P) (.node (o180 P) (lf (o316 P)) (lf (o450 P))) (.node (o249 P) (lf (o384 P)) (lf (o516 P)))) (.node (o146 P) (.node (o214 P) (lf (o350 P)) (lf (o484 P))) (.node (o284 P) (lf (o418 P)) .nil))) (.node (o92 P) (.node (o130 P) (.node (o196 P) (lf (o332 P)) (lf (o468 P))) (.node (o265 P) (lf (o400 P)) (lf (o532 P)))) (.node (o164 P) (.node (o230 P) (lf (o366 P)) (lf (o500 P))) (.node (o300 P) (lf (o434 P)) .nil)))) (.node (o62 P) (.node (o81 P) (.node (o122 P) (.node (o188 P) (lf (o324 P)) (lf (o460 P))) (.node (o257 P) (lf (o392 P)) (lf (o524 P)))) (.node (o154 P) (.node (o222 P) (lf (o358 P)) (lf (o492 P))) (.node (o292 P) (lf (o426 P)) .nil))) (.node (o100 P) (.node (o138 P) (.node (o206 P) (lf (o342 P)) (lf (o476 P))) (.node (o273 P) (lf (o410 P)) .nil)) (.node (o172 P) (.node (o238 P) (lf (o374 P)) (lf (o508 P))) (.node (o308 P) (lf (o442 P)) .nil))))) (.node (o45 P) (.node (o58 P) (.node (o77 P) (.node (o115 P) (.node (o184 P) (lf (o320 P)) (lf (o456 P))) (.node (o253 P) (lf (o388 P)) (lf (o520 P)))) (.node (o150 P) (.node (o218 P) (lf (o354 P)) (lf (o488 P))) (.node (o288 P) (lf (o422 P)) .nil))) (.node (o96 P) (.node (o134 P) (.node (o202 P) (lf (o338 P)) (lf (o472 P))) (.node (o269 P) (lf (o404 P)) (lf (o536 P)))) (.node (o168 P) (.node (o234 P) (lf (o370 P)) (lf (o504 P))) (.node (o304 P) (lf (o438 P)) .nil)))) (.node (o66 P) (.node (o85 P) (.node (o126 P) (.node (o192 P) (lf (o328 P)) (lf (o464 P))) (.node (o261 P) (lf (o396 P)) (lf (o528 P)))) (.node (o158 P) (.node (o226 P) (lf (o362 P)) (lf (o496 P))) (.node (o296 P) (lf (o430 P)) .nil))) (.node (o107 P) (.node (o142 P) (.node (o210 P) (lf (o346 P)) (lf (o480 P))) (.node (o280 P) (lf (o414 P)) .nil)) (.node (o176 P) (.node (o245 P) (lf (o380 P)) (lf (o512 P))) (.node (o312 P) (lf (o446 P)) .nil))))))) (.node (o49 P) (.node (boot_o_4 P) (.node (boot_o_8 P) (.node (o53 P) (.node (o69 P) (.node (o110 P) (.node (o179 P) (lf (o315 P)) (lf (o449 P))) (.node (o248 P) (lf (o383 P)) (lf (o515 P)))) (.node (o145 P) (.node (o213 P) (lf (o349 P)) (lf (o483 P))) (.node (o283 P) (lf (o417 P)) .nil))) (.node (o91 P) (.node (o129 P) (.node (o195 P) (lf (o331 P)) (lf (o467 P))) (.node (o264 P) (lf (o399 P)) (lf (o531 P)))) (.node (o163 P) (.node (o229 P) (lf (o365 P)) (lf (o499 P))) (.node (o299 P) (lf (o433 P)) .nil)))) (.node (o61 P) (.node (o80 P) (.node (o121 P) (.node (o187 P) (lf (o323 P)) (lf (o459 P))) (.node (o256 P) (lf (o391 P)) (lf (o523 P)))) (.node (o153 P) (.node (o221 P) (lf (o357 P)) (lf (o491 P))) (.node (o291 P) (lf (o425 P)) .nil))) (.node (o104 P) (.node (o137 P) (.node (o205 P) (lf (o341 P)) (lf (o475 P))) (.node (o272 P) (lf (o407 P)) .nil)) (.node (o171 P) (.node (o237 P) (lf (o373 P)) (lf (o507 P))) (.node (o307 P) (lf (o441 P)) .nil))))) (.node (o453 P) (.node (o57 P) (.node (o76 P) (.node (o114 P) (.node (o183 P) (lf (o319 P)) (lf (o455 P))) (.node (o252 P) (lf (o387 P)) (lf (o519 P)))) (.node (o149 P) (.node (o217 P) (lf (o353 P)) (lf (o487 P))) (.node (o287 P) (lf (o421 P)) .nil))) (.node (o95 P) (.node (o133 P) (.node (o201 P) (lf (o337 P)) (lf (o471 P))) (.node (o268 P) (lf (o403 P)) (lf (o535 P)))) (.node (o167 P) (.node (o233 P) (lf (o369 P)) (lf (o503 P))) (.node (o303 P) (lf (o437 P)) .nil)))) (.node (o65 P) (.node (o119 P) (.node (o125 P) (.node (o191 P) (lf (o327 P)) (lf (o463 P))) (.node (o260 P) (lf (o395 P)) (lf (o527 P)))) (.node (o157 P) (.node (o225 P) (lf (o361 P)) (lf (o495 P))) (.node (o295 P) (lf (o429 P)) .nil))) (.node (o106 P) (.node (o141 P) (.node (o209 P) (lf (o345 P)) (lf (o479 P))) (.node (o276 P) (lf (o413 P)) .nil)) (.node (o175 P) (.node (o244 P) (lf (o377 P)) (lf (o511 P))) (.node (o311 P) (lf (o445 P)) .nil)))))) (.node (boot_o_6 P) (.node (boot_o_10 P) (.node (o55 P) (.node (o71 P) (.node (o112 P) (.node (o181 P) (lf (o317 P)) (lf (o451 P))) (.node (o250 P) (lf (o385 P)) (lf (o517 P)))) (.node (o147 P) (.node (o215 P) (lf (o351 P)) (lf (o485 P))) (.node (o285 P) (lf (o419 P)) .nil))) (.node (o93 P) (.node (o131 P) (.node (o199 P) (lf (o333 P)) (lf (o469 P))) (.node (o266 P) (lf (o401 P)) (lf (o533 P)))) (.node (o165 P) (.node (o231 P) (lf (o367 P)) (lf (o501 P))) (.node (o301 P) (lf (o435 P)) .nil)))) (.node (o63 P) (.node (o82 P) (.node (o123 P) (.node (o189 P) (lf (o325 P)) (lf (o461 P))) (.node (o258 P) (lf (o393 P)) (lf (o525 P)))) (.node (o155 P) (.node (o223 P) (lf (o359 P)) (lf (o493 P))) (.node (o293 P) (lf (o427 P)) .nil))) (.node (o101 P) (.node (o139 P) (.node (o207 P) (lf (o343 P)) (lf (o477 P))) (.node (o274 P) (lf (o411 P)) .nil)) (.node (o173 P) (.node (o239 P) (lf (o375 P)) (lf (o509 P))) (.node (o309 P) (lf (o443 P)) .nil))))) (.node (o46 P) (.node (o59 P) (.node (o78 P) (.node (o116 P) (.node (o185 P) (lf (o321 P)) (lf (o457 P))) (.node (o254 P) (lf (o389 P)) (lf (o521 P)))) (.node (o151 P) (.node (o219 P) (lf (o355 P)) (lf (o489 P))) (.node (o289 P) (lf (o423 P)) .nil))) (.node (o97 P) (.node (o135 P) (.node (o203 P) (lf (o339 P)) (lf (o473 P))) (.node (o270 P) (lf (o405 P)) (lf (o537 P)))) (.node (o169 P) (.node (o235 P) (lf (o371 P)) (lf (o505 P))) (.node (o305 P) (lf (o439 P)) .nil)))) (.node (o67 P) (.node (o86 P) (.node (o127 P) (.node (o193 P) (lf (o329 P)) (lf (o465 P))) (.node (o262 P) (lf (o397 P)) (lf (o529 P)))) (.node (o159 P) (.node (o227 P) (lf (o363 P)) (lf (o497 P))) (.node (o297 P) (lf (o431 P)) .nil))) (.node (o108 P) (.node (o143 P) (.node (o211 P) (lf (o347 P)) (lf (o481 P))) (.node (o281 P) (lf (o415 P)) .nil)) (.node (o177 P) (.node (o246 P) (lf (o381 P)) (lf (o513 P))) (.node (o313 P) (lf (o447 P)) .nil))))))))
noncomputable def tree553 (P : Params) : BT := (.node (boot_o_0 P) (.node (boot_o_1 P) (.node (o538 P) (.node (boot_o_7 P) (.node (o52 P) (.node (o74 P) (.node (o109 P) (.node (o178 P) (lf (o314 P)) (lf (o448 P))) (.node (o247 P) (lf (o382 P)) (lf (o514 P)))) (.node (o144 P) (.node (o212 P) (lf (o348 P)) (lf (o482 P))) (.node (o282 P) (lf (o416 P)) (lf (o548 P))))) (.node (o90 P) (.node (o128 P) (.node (o194 P) (lf (o330 P)) (lf (o466 P))) (.node (o263 P) (lf (o398 P)) (lf (o530 P)))) (.node (o162 P) (.node (o228 P) (lf (o364 P)) (lf (o498 P))) (.node (o298 P) (lf (o432 P)) .nil)))) (.node (o60 P) (.node (o79 P) (.node (o120 P) (.node (o186 P) (lf (o322 P)) (lf (o458 P))) (.node (o255 P) (lf (o390 P)) (lf (o522 P)))) (.node (o152 P) (.node (o220 P) (lf (o356 P)) (lf (o490 P))) (.node (o290 P) (lf (o424 P)) .nil))) (.node (o98 P) (.node (o136 P) (.node (o204 P) (lf (o340 P)) (lf (o474 P))) (.node (o271 P) (lf (o406 P)) (lf (o540 P)))) (.node (o170 P) (.node (o279 P) (lf (o372 P)) (lf (o506 P))) (.node (o306 P) (lf (o440 P)) .nil))))) (.node (o43 P) (.node (o56 P) (.node (o75 P) (.node (o113 P) (.node (o182 P) (lf (o318 P)) (lf (o454 P))) (.node (o251 P) (lf (o386 P)) (lf (o518 P)))) (.node (o148 P) (.node (o216 P) (lf (o352 P)) (lf (o486 P))) (.node (o286 P) (lf (o420 P)) (lf (o552 P))))) (.node (o94 P) (.node (o132 P) (.node (o200 P) (lf (o336 P)) (lf (o470 P))) (.node (o267 P) (lf (o402 P)) (lf (o534 P)))) (.node (o166 P) (.node (o232 P) (lf (o368 P)) (lf (o502 P))) (.node (o302 P) (lf (o436 P)) .nil)))) (.node (o64 P) (.node (o83 P) (.node (o124 P) (.node (o190 P) (lf (o326 P)) (lf (o462 P))) (.node (o259 P) (lf (o394 P)) (lf (o526 P)))) (.node (o156 P) (.node (o224 P) (lf (o360 P)) (lf (o494 P))) (.node (o294 P) (lf (o428 P)) .nil))) (.node (o105 P) (.node (o140 P) (.node (o208 P) (lf (o344 P)) (lf (o478 P))) (.node (o275 P) (lf (o412 P)) (lf (o544 P)))) (.node (o174 P) (.node (o240 P) (lf (o376 P)) (lf (o510 P))) (.node (o310 P) (lf (o444 P)) .nil)))))) (.node (boot_o_5 P) (.node (boot_o_9 P) (.node (o54 P) (.node (o70 P) (.node (o111 P) (.node (o180 P) (lf (o316 P)) (lf (o450 P))) (.node (o249 P) (lf (o384 P)) (lf (o516 P)))) (.node (o146 P) (.node (o214 P) (lf (o350 P)) (lf (o484 P))) (.node (o284 P) (lf (o418 P)) (lf (o550 P))))) (.node (o92 P) (.node (o130 P) (.node (o196 P) (lf (o332 P)) (lf (o468 P))) (.node (o265 P) (lf (o400 P)) (lf (o532 P)))) (.node (o164 P) (.node (o230 P) (lf (o366 P)) (lf (o500 P))) (.node (o300 P) (lf (o434 P)) .nil)))) (.node (o62 P) (.node (o81 P) (.node (o122 P) (.node (o188 P) (lf (o324 P)) (lf (o460 P))) (.node (o257 P) (lf (o392 P)) (lf (o524 P)))) (.node (o154 P) (.node (o222 P) (lf (o358 P)) (lf (o492 P))) (.node (o292 P) (lf (o426 P)) .nil))) (.node (o100 P) (.node (o138 P) (.node (o206 P) (lf (o342 P)) (lf (o476 P))) (.node (o273 P) (lf (o410 P)) (lf (o542 P)))) (.node (o172 P) (.node (o238 P) (lf (o374 P)) (lf (o508 P))) (.node (o308 P) (lf (o442 P)) .nil))))) (.node (o45 P) (.node (o58 P) (.node (o77 P) (.node (o115 P) (.node (o184 P) (lf (o320 P)) (lf (o456 P))) (.node (o253 P) (lf (o388 P)) (lf (o520 P)))) (.node (o150 P) (.node (o218 P) (lf (o354 P)) (lf (o488 P))) (.node (o288 P) (lf (o422 P)) .nil))) (.node (o96 P) (.node (o134 P) (.node (o202 P) (lf (o338 P)) (lf (o472 P))) (.node (o269 P) (lf (o404 P)) (lf (o536 P)))) (.node (o168 P) (.node (o234 P) (lf (o370 P)) (lf (o504 P))) (.node (o304 P) (lf (o438 P)) .nil)))) (.node (o66 P) (.node (o85 P) (.node (o126 P) (.node (o192 P) (lf (o328 P)) (lf (o464 P))) (.node (o261 P) (lf (o396 P)) (lf (o528 P)))) (.node (o158 P) (.node (o226 P) (lf (o362 P)) (lf (o496 P))) (.node (o296 P) (lf (o430 P)) .nil))) (.node (o107 P) (.node (o142 P) (.node (o210 P) (lf (o346 P)) (lf (o480 P))) (.node (o280 P) (lf (o414 P)) (lf (o546 P)))) (.node (o176 P) (.node (o245 P) (lf (o380 P)) (lf (o512 P))) (.node (o312 P) (lf (o446 P)) .nil))))))) (.node (o49 P) (.node (boot_o_4 P) (.node (boot_o_8 P) (.node (o53 P) (.node (o69 P) (.node (o110 P) (.node (o179 P) (lf (o315 P)) (lf (o449 P))) (.node (o248 P) (lf (o383 P)) (lf (o515 P)))) (.node (o145 P) (.node (o213 P) (lf (o349 P)) (lf (o483 P))) (.node (o283 P) (lf (o417 P)) (lf (o549 P))))) (.node (o91 P) (.node (o129 P) (.node (o195 P) (lf (o331 P)) (lf (o467 P))) (.node (o264 P) (lf (o399 P)) (lf (o531 P)))) (.node (o163 P) (.node (o229 P) (lf (o365 P)) (lf (o499 P))) (.node (o299 P) (lf (o433 P)) .nil)))) (.node (o61 P) (.node (o80 P) (.node (o121 P) (.node (o187 P) (lf (o323 P)) (lf (o459 P))) (.node (o256 P) (lf (o391 P)) (lf (o523 P)))) (.node (o153 P) (.node (o221 P) (lf (o357 P)) (lf (o491 P))) (.node (o291 P) (lf (o425 P)) .nil))) (.node (o104 P) (.node (o137 P) (.node (o205 P) (lf (o341 P)) (lf (o475 P))) (.node (o272 P) (lf (o407 P)) (lf (o541 P)))) (.node (o171 P) (.node (o237 P) (lf (o373 P)) (lf (o507 P))) (.node (o307 P) (lf (o441 P)) .nil))))) (.node (o539 P) (.node (o57 P) (.node (o76 P) (.node (o114 P) (.node (o183 P) (lf (o319 P)) (lf (o455 P))) (.node (o252 P) (lf (o387 P)) (lf (o519 P)))) (.node (o149 P) (.node (o217 P) (lf (o353 P)) (lf (o487 P))) (.node (o287 P) (lf (o421 P)) (lf (o553 P))))) (.node (o95 P) (.node (o133 P) (.node (o201 P) (lf (o337 P)) (lf (o471 P))) (.node (o268 P) (lf (o403 P)) (lf (o535 P)))) (.node (o167 P) (.node (o233 P) (lf (o369 P)) (lf (o503 P))) (.node (o303 P) (lf (o437 P)) .nil)))) (.node (o65 P) (.node (o119 P) (.node (o125 P) (.node (o191 P) (lf (o327 P)) (lf (o463 P))) (.node (o260 P) (lf (o395 P)) (lf (o527 P)))) (.node (o157 P) (.node (o225 P) (lf (o361 P)) (lf (o495 P))) (.node (o295 P) (lf (o429 P)) .nil))) (.node (o106 P) (.node (o141 P) (.node (o209 P) (lf (o345 P)) (lf (o479 P))) (.node (o276 P) (lf (o413 P)) (lf (o545 P)))) (.node (o175 P) (.node (o244 P) (lf (o377 P)) (lf (o511 P))) (.node (o311 P) (lf (o445 P)) .nil)))))) (.node (boot_o_6 P) (.node (boot_o_10 P) (.node (o55 P) (.node (o71 P) (.node (o112 P) (.node (o181 P) (lf (o317 P)) (lf (o451 P))) (.node (o250 P) (lf (o385 P)) (lf (o517 P)))) (.node (o147 P) (.node (o215 P) (lf (o351 P)) (lf (o485 P))) (.node (o285 P) (lf (o419 P)) (lf (o551 P))))) (.node (o93 P) (.node (o131 P) (.node (o199 P) (lf (o333 P)) (lf (o469 P))) (.node (o266 P) (lf (o401 P)) (lf (o533 P)))) (.node (o165 P) (.node (o231 P) (lf (o367 P)) (lf (o501 P))) (.node (o301 P) (lf (o435 P)) .nil)))) (.node (o63 P) (.node (o82 P) (.node (o123 P) (.node (o189 P) (lf (o325 P)) (lf (o461 P))) (.node (o258 P) (lf (o393 P)) (lf (o525 P)))) (.node (o155 P) (.node (o223 P) (lf (o359 P)) (lf (o493 P))) (.node (o293 P) (lf (o427 P)) .nil))) (.node (o101 P) (.node (o139 P) (.node (o207 P) (lf (o343 P)) (lf (o477 P))) (.node (o274 P) (lf (o411 P)) (lf (o543 P)))) (.node (o173 P) (.node (o239 P) (lf (o375 P)) (lf (o509 P))) (.node (o309 P) (lf (o443 P)) .nil))))) (.node (o46 P) (.node (o59 P) (.node (o78 P) (.node (o116 P) (.node (o185 P) (lf (o321 P)) (lf (o457 P))) (.node (o254 P) (lf (o389 P)) (lf (o521 P)))) (.node (o151 P) (.node (o219 P) (lf (o355 P)) (lf (o489 P))) (.node (o289 P) (lf (o423 P)) .nil))) (.node (o97 P) (.node (o135 P) (.node (o203 P) (lf (o339 P)) (lf (o473 P))) (.node (o270 P) (lf (o405 P)) (lf (o537 P)))) (.node (o169 P) (.node (o235 P) (lf (o371 P)) (lf (o505 P))) (.node (o305 P) (lf (o439 P)) .nil)))) (.node (o67 P) (.node (o86 P) (.node (o127 P) (.node (o193 P) (lf (o329 P)) (lf (o465 P))) (.node (o262 P) (lf (o397 P)) (lf (o529 P)))) (.node (o159 P) (.node (o227 P) (lf (o363 P)) (lf (o497 P))) (.node (o297 P) (lf (o431 P)) .nil))) (.node (o108 P) (.node (o143 P) (.node (o211 P) (lf (o347 P)) (lf (o481 P))) (.node (o281 P) (lf (o415 P)) (lf (o547 P)))) (.node (o177 P) (.node (o246 P) (lf (o381 P)) (lf (o513 P))) (.node (o313 P) (lf (o447 P)) .nil))))))))
noncomputable def tree611 (P : Params) : BT := (.node (boot_o_0 P) (.node (boot_o_1 P) (.node (o554 P) (.node (boot_o_7 P) (.node (o52 P) (.node (o74 P) (.node (o109 P) (.node (o178 P) (.node (o314 P) (lf (o582 P)) .nil) (lf (o448 P))) (.node (o247 P) (lf (o382 P)) (lf (o514 P)))) (.node (o144 P) (.node (o212 P) (lf (o348 P)) (lf (o482 P))) (.node (o282 P) (lf (o416 P)) (lf (o548 P))))) (.node (o90 P) (.node (o128 P) (.node (o194 P) (.node (o330 P) (lf (o598 P)) .nil) (lf (o466 P))) (.node (o263 P) (lf (o398 P)) (lf (o530 P)))) (.node (o162 P) (.node (o228 P) (lf (o364 P)) (lf (o498 P))) (.node (o298 P) (lf (o432 P)) (lf (o566 P)))))) (.node (o60 P) (.node (o79 P) (.node (o120 P) (.node (o186 P) (.node (o322 P) (lf (o590 P)) .nil) (lf (o458 P))) (.node (o255 P) (lf (o390 P)) (lf (o522 P)))) (.node (o152 P) (.node (o220 P) (lf (o356 P)) (lf (o490 P))) (.node (o290 P) (lf (o424 P)) (lf (o558 P))))) (.node (o98 P) (.node (o136 P) (.node (o204 P) (.node (o340 P) (lf (o606 P)) .nil) (lf (o474 P))) (.node (o271 P) (lf (o406 P)) (lf (o540 P)))) (.node (o170 P) (.node (o279 P) (lf (o372 P)) (lf (o506 P))) (.node (o306 P) (lf (o440 P)) (lf (o574 P))))))) (.node (o43 P) (.node (o56 P) (.node (o75 P) (.node (o113 P) (.node (o182 P) (.node (o318 P) (lf (o586 P)) .nil) (lf (o454 P))) (.node (o251 P) (lf (o386 P)) (lf (o518 P)))) (.node (o148 P) (.node (o216 P) (lf (o352 P)) (lf (o486 P))) (.node (o286 P) (lf (o420 P)) (lf (o552 P))))) (.node (o94 P) (.node (o132 P) (.node (o200 P) (.node (o336 P) (lf (o602 P)) .nil) (lf (o470 P))) (.node (o267 P) (lf (o402 P)) (lf (o534 P)))) (.node (o166 P) (.node (o232 P) (lf (o368 P)) (lf (o502 P))) (.node (o302 P) (lf (o436 P)) (lf (o570 P)))))) (.node (o64 P) (.node (o83 P) (.node (o124 P) (.node (o190 P) (.node (o326 P) (lf (o594 P)) .nil) (lf (o462 P))) (.node (o259 P) (lf (o394 P)) (lf (o526 P)))) (.node (o156 P) (.node (o224 P) (lf (o360 P)) (lf (o494 P))) (.node (o294 P) (lf (o428 P)) (lf (o562 P))))) (.node (o105 P) (.node (o140 P) (.node (o208 P) (.node (o344 P) (lf (o610 P)) .nil) (lf (o478 P))) (.node (o275 P) (lf (o412 P)) (lf (o544 P)))) (.node (o174 P) (.node (o240 P) (lf (o376 P)) (lf (o510 P))) (.node (o310 P) (lf (o444 P)) (lf (o578 P)))))))) (.node (boot_o_5 P) (.node (boot_o_9 P) (.node (o54 P) (.node (o70 P) (.node (o111 P) (.node (o180 P) (.node (o316 P) (lf (o584 P)) .nil) (lf (o450 P))) (.node (o249 P) (lf (o384 P)) (lf (o516 P)))) (.node (o146 P) (.node (o214 P) (lf (o350 P)) (lf (o484 P))) (.node (o284 P) (lf (o418 P)) (lf (o550 P))))) (.node (o92 P) (.node (o130 P) (.node (o196 P) (.node (o332 P) (lf (o600 P)) .nil) (lf (o468 P))) (.node (o265 P) (lf (o400 P)) (lf (o532 P)))) (.node (o164 P) (.node (o230 P) (lf (o366 P)) (lf (o500 P))) (.node (o300 P) (lf (o434 P)) (lf (o568 P)))))) (.node (o62 P) (.node (o81 P) (.node (o122 P) (.node (o188 P) (.node (o324 P) (lf (o592 P)) .nil) (lf (o460 P))) (.node (o257 P) (lf (o392 P)) (lf (o524 P)))) (.node (o154 P) (.node (o222 P) (lf (o358 P)) (lf (o492 P))) (.node (o292 P) (lf (o426 P)) (lf (o560 P))))) (.node (o100 P) (.node (o138 P) (.node (o206 P) (.node (o342 P) (lf (o608 P)) .nil) (lf (o476 P))) (.node (o273 P) (lf (o410 P)) (lf (o542 P)))) (.node (o172 P) (.node (o238 P) (lf (o374 P)) (lf (o508 P))) (.node (o308 P) (lf (o442 P)) (lf (o576 P))))))) (.node (o45 P) (.node (o58 P) (.node (o77 P) (.node (o115 P) (.node (o184 P) (.node (o320 P) (lf (o588 P)) .nil) (lf (o456 P))) (.node (o253 P) (lf (o388 P)) (lf (o520 P)))) (.node (o150 P) (.node (o218 P) (lf (o354 P)) (lf (o488 P))) (.node (o288 P) (lf (o422 P)) (lf (o556 P))))) (.node (o96 P) (.node (o134 P) (.node (o202 P) (.node (o338 P) (lf (o604 P)) .nil) (lf (o472 P))) (.node (o269 P) (lf (o404 P)) (lf (o536 P)))) (.node (o168 P) (.node (o234 P) (lf (o370 P)) (lf (o504 P))) (.node (o304 P) (lf (o438 P)) (lf (o572 P)))))) (.node (o66 P) (.node (o85 P) (.node (o126 P) (.node (o192 P) (.node (o328 P) (lf (o596 P)) .nil) (lf (o464 P))) (.node (o261 P) (lf (o396 P)) (lf (o528 P)))) (.node (o158 P) (.node (o226 P) (lf (o362 P)) (lf (o496 P))) (.node (o296 P) (lf (o430 P)) (lf (o564 P))))) (.node (o107 P) (.node (o142 P) (.node (o210 P) (lf (o346 P)) (lf (o480 P))) (.node (o280 P) (lf (o414 P)) (lf (o546 P)))) (.node (o176 P) (.node (o245 P) (lf (o380 P)) (lf (o512 P))) (.node (o312 P) (lf (o446 P)) (lf (o580 P))))))))) (.node (o49 P) (.node (boot_o_4 P) (.node (boot_o_8 P) (.node (o53 P) (.node (o69 P) (.node (o110 P) (.node (o179 P) (.node (o315 P) (lf (o583 P)) .nil) (lf (o449 P))) (.node (o248 P) (lf (o383 P)) (lf (o515 P)))) (.node (o145 P) (.node (o213 P) (lf (o349 P)) (lf (o483 P))) (.node (o283 P) (lf (o417 P)) (lf (o549 P))))) (.node (o91 P) (.node (o129 P) (.node (o195 P) (.node (o331 P) (lf (o599 P)) .nil) (lf (o467 P))) (.node (o264 P) (lf (o399 P)) (lf (o531 P)))) (.node (o163 P) (.node (o229 P) (lf (o365 P)) (lf (o499 P))) (.node (o299 P) (lf (o433 P)) (lf (o567 P)))))) (.node (o61 P) (.node (o80 P) (.node (o121 P) (.node (o187 P) (.node (o323 P) (lf (o591 P)) .nil) (lf (o459 P))) (.node (o256 P) (lf (o391 P)) (lf (o523 P)))) (.node (o153 P) (.node (o221 P) (lf (o357 P)) (lf (o491 P))) (.node (o291 P) (lf (o425 P)) (lf (o559 P))))) (.node (o104 P) (.node (o137 P) (.node (o205 P) (.node (o341 P) (lf (o607 P)) .nil) (lf (o475 P))) (.node (o272 P) (lf (o407 P)) (lf (o541 P)))) (.node (o171 P) (.node (o237 P) (lf (o373 P)) (lf (o507 P))) (.node (o307 P) (lf (o441 P)) (lf (o575 P))))))) (.node (o555 P) (.node (o57 P) (.node (o76 P) (.node (o114 P) (.node (o183 P) (.node (o319 P) (lf (o587 P)) .nil) (lf (o455 P))) (.node (o252 P) (lf (o387 P)) (lf (o519 P)))) (.node (o149 P) (.node (o217 P) (lf (o353 P)) (lf (o487 P))) (.node (o287 P) (lf (o421 P)) (lf (o553 P))))) (.node (o95 P) (.node (o133 P) (.node (o201 P) (.node (o337 P) (lf (o603 P)) .nil) (lf (o471 P))) (.node (o268 P) (lf (o403 P)) (lf (o535 P)))) (.node (o167 P) (.node (o233 P) (lf (o369 P)) (lf (o503 P))) (.node (o303 P) (lf (o437 P)) (lf (o571 P)))))) (.node (o65 P) (.node (o119 P) (.node (o125 P) (.node (o191 P) (.node (o327 P) (lf (o595 P)) .nil) (lf (o463 P))) (.node (o260 P) (lf (o395 P)) (lf (o527 P)))) (.node (o157 P) (.node (o225 P) (lf (o361 P)) (lf (o495 P))) (.node (o295 P) (lf (o429 P)) (lf (o563 P))))) (.node (o106 P) (.node (o141 P) (.node (o209 P) (.node (o345 P) (lf (o611 P)) .nil) (lf (o479 P))) (.node (o276 P) (lf (o413 P)) (lf (o545 P)))) (.node (o175 P) (.node (o244 P) (lf (o377 P)) (lf (o511 P))) (.node (o311 P) (lf (o445 P)) (lf (o579 P)))))))) (.node (boot_o_6 P) (.node (boot_o_10 P) (.node (o55 P) (.node (o71 P) (.node (o112 P) (.node (o181 P) (.node (o317 P) (lf (o585 P)) .nil) (lf (o451 P))) (.node (o250 P) (lf (o385 P)) (lf (o517 P)))) (.node (o147 P) (.node (o215 P) (lf (o351 P)) (lf (o485 P))) (.node (o285 P) (lf (o419 P)) (lf (o551 P))))) (.node (o93 P) (.node (o131 P) (.node (o199 P) (.node (o333 P) (lf (o601 P)) .nil) (lf (o469 P))) (.node (o266 P) (lf (o401 P)) (lf (o533 P)))) (.node (o165 P) (.node (o231 P) (lf (o367 P)) (lf (o501 P))) (.node (o301 P) (lf (o435 P)) (lf (o569 P)))))) (.node (o63 P) (.node (o82 P) (.node (o123 P) (.node (o189 P) (.node (o325 P) (lf (o593 P)) .nil) (lf (o461 P))) (.node (o258 P) (lf (o393 P)) (lf (o525 P)))) (.node (o155 P) (.node (o223 P) (lf (o359 P)) (lf (o493 P))) (.node (o293 P) (lf (o427 P)) (lf (o561 P))))) (.node (o101 P) (.node (o139 P) (.node (o207 P) (.node (o343 P) (lf (o609 P)) .nil) (lf (o477 P))) (.node (o274 P) (lf (o411 P)) (lf (o543 P)))) (.node (o173 P) (.node (o239 P) (lf (o375 P)) (lf (o509 P))) (.node (o309 P) (lf (o443 P)) (lf (o577 P))))))) (.node (o46 P) (.node (o59 P) (.node (o78 P) (.node (o116 P) (.node (o185 P) (.node (o321 P) (lf (o589 P)) .nil) (lf (o457 P))) (.node (o254 P) (lf (o389 P)) (lf (o521 P)))) (.node (o151 P) (.node (o219 P) (lf (o355 P)) (lf (o489 P))) (.node (o289 P) (lf (o423 P)) (lf (o557 P))))) (.node (o97 P) (.node (o135 P) (.node (o203 P) (.node (o339 P) (lf (o605 P)) .nil) (lf (o473 P))) (.node (o270 P) (lf (o405 P)) (lf (o537 P)))) (.node (o169 P) (.node (o235 P) (lf (o371 P)) (lf (o505 P))) (.node (o305 P) (lf (o439 P)) (lf (o573 P)))))) (.node (o67 P) (.node (o86 P) (.node (o127 P) (.node (o193 P) (.node (o329 P) (lf (o597 P)) .nil) (lf (o465 P))) (.node (o262 P) (lf (o397 P)) (lf (o529 P)))) (.node (o159 P) (.node (o227 P) (lf (o363 P)) (lf (o497 P))) (.node (o297 P) (lf (o431 P)) (lf (o565 P))))) (.node (o108 P) (.node (o143 P) (.node (o211 P) (lf (o347 P)) (lf (o481 P))) (.node (o281 P) (lf (o415 P)) (lf (o547 P)))) (.node (o177 P) (.node (o246 P) (lf (o381 P)) (lf (o513 P))) (.node (o313 P) (lf (o447 P)) (lf (o581 P))))))))))
noncomputable def tree627 (P : Params) : BT := (.node (boot_o_0 P) (.node (boot_o_1 P) (.node (o612 P) (.node (boot_o_7 P) (.node (o52 P) (.node (o74 P) (.node (o109 P) (.node (o178 P) (.node (o314 P) (lf (o582 P)) .nil) (lf (o448 P))) (.node (o247 P) (lf (o382 P)) (lf (o514 P)))) (.node (o144 P) (.node (o212 P) (.node (o348 P) (lf (o616 P)) .nil) (lf (o482 P))) (.node (o282 P) (lf (o416 P)) (lf (o548 P))))) (.node (o90 P) (.node (o128 P) (.node (o194 P) (.node (o330 P) (lf (o598 P)) .nil) (lf (o466 P))) (.node (o263 P) (lf (o398 P)) (lf (o530 P)))) (.node (o162 P) (.node (o228 P) (lf (o364 P)) (lf (o498 P))) (.node (o298 P) (lf (o432 P)) (lf (o566 P)))))) (.node (o60 P) (.node (o79 P) (.node (o120 P) (.node (o186 P) (.node (o322 P) (lf (o590 P)) .nil) (lf (o458 P))) (.node (o255 P) (lf (o390 P)) (lf (o522 P)))) (.node (o152 P) (.node (o220 P) (.node (o356 P) (lf (o624 P)) .nil) (lf (o490 P))) (.node (o290 P) (lf (o424 P)) (lf (o558 P))))) (.node (o98 P) (.node (o136 P) (.node (o204 P) (.node (o340 P) (lf (o606 P)) .nil) (lf (o474 P))) (.node (o271 P) (lf (o406 P)) (lf (o540 P)))) (.node (o170 P) (.node (o279 P) (lf (o372 P)) (lf (o506 P))) (.node (o306 P) (lf (o440 P)) (lf (o574 P))))))) (.node (o43 P) (.node (o56 P) (.node (o75 P) (.node (o113 P) (.node (o182 P) (.node (o318 P) (lf (o586 P)) .nil) (lf (o454 P))) (.node (o251 P) (lf (o386 P)) (lf (o518 P)))) (.node (o148 P) (.node (o216 P) (.node (o352 P) (lf (o620 P)) .nil) (lf (o486 P))) (.node (o286 P) (lf (o420 P)) (lf (o552 P))))) (.node (o94 P) (.node (o132 P) (.node (o200 P) (.node (o336 P) (lf (o602 P)) .nil) (lf (o470 P))) (.node (o267 P) (lf (o402 P)) (lf (o534 P)))) (.node (o166 P) (.node (o232 P) (lf (o368 P)) (lf (o502 P))) (.node (o302 P) (lf (o436 P)) (lf (o570 P)))))) (.node (o64 P) (.node (o83 P) (.node (o124 P) (.node (o190 P) (.node (o326 P) (lf (o594 P)) .nil) (lf (o462 P))) (.node (o259 P) (lf (o394 P)) (lf (o526 P)))) (.node (o156 P) (.node (o224 P) (lf (o360 P)) (lf (o494 P))) (.node (o294 P) (lf (o428 P)) (lf (o562 P))))) (.node (o105 P) (.node (o140 P) (.node (o208 P) (.node (o344 P) (lf (o610 P)) .nil) (lf (o478 P))) (.node (o275 P) (lf (o412 P)) (lf (o544 P)))) (.node (o174 P) (.node (o240 P) (lf (o376 P)) (lf (o510 P))) (.node (o310 P) (lf (o444 P)) (lf (o578 P)))))))) (.node (boot_o_5 P) (.node (boot_o_9 P) (.node (o54 P) (.node (o70 P) (.node (o111 P) (.node (o180 P) (.node (o316 P) (lf (o584 P)) .nil) (lf (o450 P))) (.node (o249 P) (lf (o384 P)) (lf (o516 P)))) (.node (o146 P) (.node (o214 P) (.node (o350 P) (lf (o618 P)) .nil) (lf (o484 P))) (.node (o284 P) (lf (o418 P)) (lf (o550 P))))) (.node (o92 P) (.node (o130 P) (.node (o196 P) (.node (o332 P) (lf (o600 P)) .nil) (lf (o468 P))) (.node (o265 P) (lf (o400 P)) (lf (o532 P)))) (.node (o164 P) (.node (o230 P) (lf (o366 P)) (lf (o500 P))) (.node (o300 P) (lf (o434 P)) (lf (o568 P)))))) (.node (o62 P) (.node (o81 P) (.node (o122 P) (.node (o188 P) (.node (o324 P) (lf (o592 P)) .nil) (lf (o460 P))) (.node (o257 P) (lf (o392 P)) (lf (o524 P)))) (.node (o154 P) (.node (o222 P) (.node (o358 P) (lf (o626 P)) .nil) (lf (o492 P))) (.node (o292 P) (lf (o426 P)) (lf (o560 P))))) (.node (o100 P) (.node (o138 P) (.node (o206 P) (.node (o342 P) (lf (o608 P)) .nil) (lf (o476 P))) (.node (o273 P) (lf (o410 P)) (lf (o542 P)))) (.node (o172 P) (.node (o238 P) (lf (o374 P)) (lf (o508 P))) (.node (o308 P) (lf (o442 P)) (lf (o576 P))))))) (.node (o45 P) (.node (o58 P) (.node (o77 P) (.node (o115 P) (.node (o184 P) (.node (o320 P) (lf (o588 P)) .nil) (lf (o456 P))) (.node (o253 P) (lf (o388 P)) (lf (o520 P)))) (.node (o150 P) (.node (o218 P) (.node (o354 P) (lf (o622 P)) .nil) (lf (o488 P))) (.node (o288 P) (lf (o422 P)) (lf (o556 P))))) (.node (o96 P) (.node (o134 P) (.node (o202 P) (.node (o338 P) (lf (o604 P)) .nil) (lf (o472 P))) (.node (o269 P) (lf (o404 P)) (lf (o536 P)))) (.node (o168 P) (.node (o234 P) (lf (o370 P)) (lf (o504 P))) (.node (o304 P) (lf (o438 P)) (lf (o572 P)))))) (.node (o66 P) (.node (o85 P) (.node (o126 P) (.node (o192 P) (.node (o328 P) (lf (o596 P)) .nil) (lf (o464 P))) (.node (o261 P) (lf (o396 P)) (lf (o528 P)))) (.node (o158 P) (.node (o226 P) (lf (o362 P)) (lf (o496 P))) (.node (o296 P) (lf (o430 P)) (lf (o564 P))))) (.node (o107 P) (.node (o142 P) (.node (o210 P) (.node (o346 P) (lf (o614 P)) .nil) (lf (o480 P))) (.node (o280 P) (lf (o414 P)) (lf (o546 P)))) (.node (o176 P) (.node (o245 P) (lf (o380 P)) (lf (o512 P))) (.node (o312 P) (lf (o446 P)) (lf (o580 P))))))))) (.node (o49 P) (.node (boot_o_4 P) (.node (boot_o_8 P) (.node (o53 P) (.node (o69 P) (.node (o110 P) (.node (o179 P) (.node (o315 P) (lf (o583 P)) .nil) (lf (o449 P))) (.node (o248 P) (lf (o383 P)) (lf (o515 P)))) (.node (o145 P) (.node (o213 P) (.node (o349 P) (lf (o617 P)) .nil) (lf (o483 P))) (.node (o283 P) (lf (o417 P)) (lf (o549 P))))) (.node (o91 P) (.node (o129 P) (.node (o195 P) (.node (o331 P) (lf (o599 P)) .nil) (lf (o467 P))) (.node (o264 P) (lf (o399 P)) (lf (o531 P)))) (.node (o163 P) (.node (o229 P) (lf (o365 P)) (lf (o499 P))) (.node (o299 P) (lf (o433 P)) (lf (o567 P)))))) (.node (o61 P) (.node (o80 P) (.node (o121 P) (.node (o187 P) (.node (o323 P) (lf (o591 P)) .nil) (lf (o459 P))) (.node (o256 P) (lf (o391 P)) (lf (o523 P)))) (.node (o153 P) (.node (o221 P) (.node (o357 P) (lf (o625 P)) .nil) (lf (o491 P))) (.node (o291 P) (lf (o425 P)) (lf (o559 P))))) (.node (o104 P) (.node (o137 P) (.node (o205 P) (.node (o341 P) (lf (o607 P)) .nil) (lf (o475 P))) (.node (o272 P) (lf (o407 P)) (lf (o541 P)))) (.node (o171 P) (.node (o237 P) (lf (o373 P)) (lf (o507 P))) (.node (o307 P) (lf (o441 P)) (lf (o575 P))))))) (.node (o613 P) (.node (o57 P) (.node (o76 P) (.node (o114 P) (.node (o183 P) (.node (o319 P) (lf (o587 P)) .nil) (lf (o455 P))) (.node (o252 P) (lf (o387 P)) (lf (o519 P)))) (.node (o149 P) (.node (o217 P) (.node (o353 P) (lf (o621 P)) .nil) (lf (o487 P))) (.node (o287 P) (lf (o421 P)) (lf (o553 P))))) (.node (o95 P) (.node (o133 P) (.node (o201 P) (.node (o337 P) (lf (o603 P)) .nil) (lf (o471 P))) (.node (o268 P) (lf (o403 P)) (lf (o535 P)))) (.node (o167 P) (.node (o233 P) (lf (o369 P)) (lf (o503 P))) (.node (o303 P) (lf (o437 P)) (lf (o571 P)))))) (.node (o65 P) (.node (o119 P) (.node (o125 P) (.node (o191 P) (.node (o327 P) (lf (o595 P)) .nil) (lf (o463 P))) (.node (o260 P) (lf (o395 P)) (lf (o527 P)))) (.node (o157 P) (.node (o225 P) (lf (o361 P)) (lf (o495 P))) (.node (o295 P) (lf (o429 P)) (lf (o563 P))))) (.node (o106 P) (.node (o141 P) (.node (o209 P) (.node (o345 P) (lf (o611 P)) .nil) (lf (o479 P))) (.node (o276 P) (lf (o413 P)) (lf (o545 P)))) (.node (o175 P) (.node (o244 P) (lf (o377 P)) (lf (o511 P))) (.node (o311 P) (lf (o445 P)) (lf (o579 P)))))))) (.node (boot_o_6 P) (.node (boot_o_10 P) (.node (o55 P) (.node (o71 P) (.node (o112 P) (.node (o181 P) (.node (o317 P) (lf (o585 P)) .nil) (lf (o451 P))) (.node (o250 P) (lf (o385 P)) (lf (o517 P)))) (.node (o147 P) (.node (o215 P) (.node (o351 P) (lf (o619 P)) .nil) (lf (o485 P))) (.node (o285 P) (lf (o419 P)) (lf (o551 P))))) (.node (o93 P) (.node (o131 P) (.node (o199 P) (.node (o333 P) (lf (o601 P)) .nil) (lf (o469 P))) (.node (o266 P) (lf (o401 P)) (lf (o533 P)))) (.node (o165 P) (.node (o231 P) (lf (o367 P)) (lf (o501 P))) (.node (o301 P) (lf (o435 P)) (lf (o569 P)))))) (.node (o63 P) (.node (o82 P) (.node (o123 P) (.node (o189 P) (.node (o325 P) (lf (o593 P)) .nil) (lf (o461 P))) (.node (o258 P) (lf (o393 P)) (lf (o525 P)))) (.node (o155 P) (.node (o223 P) (.node (o359 P) (lf (o627 P)) .nil) (lf (o493 P))) (.node (o293 P) (lf (o427 P)) (lf (o561 P))))) (.node (o101 P) (.node (o139 P) (.node (o207 P) (.node (o343 P) (lf (o609 P)) .nil) (lf (o477 P))) (.node (o274 P) (lf (o411 P)) (lf (o543 P)))) (.node (o173 P) (.node (o239 P) (lf (o375 P)) (lf (o509 P))) (.node (o309 P) (lf (o443 P)) (lf (o577 P))))))) (.node (o46 P) (.node (o59 P) (.node (o78 P) (.node (o116 P) (.node (o185 P) (.node (o321 P) (lf (o589 P)) .nil) (lf (o457 P))) (.node (o254 P) (lf (o389 P)) (lf (o521 P)))) (.node (o151 P) (.node (o219 P) (.node (o355 P) (lf (o623 P)) .nil) (lf (o489 P))) (.node (o289 P) (lf (o423 P)) (lf (o557 P))))) (.node (o97 P) (.node (o135 P) (.node (o203 P) (.node (o339 P) (lf (o605 P)) .nil) (lf (o473 P))) (.node (o270 P) (lf (o405 P)) (lf (o537 P)))) (.node (o169 P) (.node (o235 P) (lf (o371 P)) (lf (o505 P))) (.node (o305 P) (lf (o439 P)) (lf (o573 P)))))) (.node (o67 P) (.node (o86 P) (.node (o127 P) (.node (o193 P) (.node (o329 P) (lf (o597 P)) .nil) (lf (o465 P))) (.node (o262 P) (lf (o397 P)) (lf (o529 P)))) (.node (o159 P) (.node (o227 P) (lf (o363 P)) (lf (o497 P))) (.node (o297 P) (lf (o431 P)) (lf (o565 P))))) (.node (o108 P) (.node (o143 P) (.node (o211 P) (.node (o347 P) (lf (o615 P)) .nil) (lf (o481 P))) (.node (o281 P) (lf (o415 P)) (lf (o547 P)))) (.node (o177 P) (.node (o246 P) (lf (o381 P)) (lf (o513 P))) (.node (o313 P) (lf (o447 P)) (lf (o581 P))))))))))
noncomputable def tree685 (P : Params) : BT := (.node (boot_o_0 P) (.node (boot_o_1 P) (.node (o628 P) (.node (boot_o_7 P) (.node (o52 P) (.node (o74 P) (.node (o109 P) (.node (o178 P) (.node (o314 P) (lf (o582 P)) .nil) (lf (o448 P))) (.node (o247 P) (.node (o382 P) (lf (o650 P)) .nil) (lf (o514 P)))) (.node (o144 P) (.node (o212 P) (.node (o348 P) (lf (o616 P)) .nil) (lf (o482 P))) (.node (o282 P) (.node (o416 P) (lf (o682 P)) .nil) (lf (o548 P))))) (.node (o90 P) (.node (o128 P) (.node (o194 P) (.node (o330 P) (lf (o598 P)) .nil) (lf (o466 P))) (.node (o263 P) (.node (o398 P) (lf (o666 P)) .nil) (lf (o530 P)))) (.node (o162 P) (.node (o228 P) (.node (o364 P) (lf (o634 P)) .nil) (lf (o498 P))) (.node (o298 P) (lf (o432 P)) (lf (o566 P)))))) (.node (o60 P) (.node (o79 P) (.node (o120 P) (.node (o186 P) (.node (o322 P) (lf (o590 P)) .nil) (lf (o458 P))) (.node (o255 P) (.node (o390 P) (lf (o658 P)) .nil) (lf (o522 P)))) (.node (o152 P) (.node (o220 P) (.node (o356 P) (lf (o624 P)) .nil) (lf (o490 P))) (.node (o290 P) (lf (o424 P)) (lf (o558 P))))) (.node (o98 P) (.node (o136 P) (.node (o204 P) (.node (o340 P) (lf (o606 P)) .nil) (lf (o474 P))) (.node (o271 P) (.node (o406 P) (lf (o674 P)) .nil) (lf (o540 P)))) (.node (o170 P) (.node (o279 P) (.node (o372 P) (lf (o642 P)) .nil) (lf (o506 P))) (.node (o306 P) (lf (o440 P)) (lf (o574 P))))))) (.node (o43 P) (.node (o56 P) (.node (o75 P) (.node (o113 P) (.node (o182 P) (.node (o318 P) (lf (o586 P)) .nil) (lf (o454 P))) (.node (o251 P) (.node (o386 P) (lf (o654 P)) .nil) (lf (o518 P)))) (.node (o148 P) (.node (o216 P) (.node (o352 P) (lf (o620 P)) .nil) (lf (o486 P))) (.node (o286 P) (lf (o420 P)) (lf (o552 P))))) (.node (o94 P) (.node (o132 P) (.node (o200 P) (.node (o336 P) (lf (o602 P)) .nil) (lf (o470 P))) (.node (o267 P) (.node (o402 P) (lf (o670 P)) .nil) (lf (o534 P)))) (.node (o166 P) (.node (o232 P) (.node (o368 P) (lf (o638 P)) .nil) (lf (o502 P))) (.node (o302 P) (lf (o436 P)) (lf (o570 P)))))) (.node (o64 P) (.node (o83 P) (.node (o124 P) (.node (o190 P) (.node (o326 P) (lf (o594 P)) .nil) (lf (o462 P))) (.node (o259 P) (.node (o394 P) (lf (o662 P)) .nil) (lf (o526 P)))) (.node (o156 P) (.node (o224 P) (.node (o360 P) (lf (o630 P)) .nil) (lf (o494 P))) (.node (o294 P) (lf (o428 P)) (lf (o562 P))))) (.node (o105 P) (.node (o140 P) (.node (o208 P) (.node (o344 P) (lf (o610 P)) .nil) (lf (o478 P))) (.node (o275 P) (.node (o412 P) (lf (o678 P)) .nil) (lf (o544 P)))) (.node (o174 P) (.node (o240 P) (.node (o376 P) (lf (o646 P)) .nil) (lf (o510 P))) (.node (o310 P) (lf (o444 P)) (lf (o578 P)))))))) (.node (boot_o_5 P) (.node (boot_o_9 P) (.node (o54 P) (.node (o70 P) (.node (o111 P) (.node (o180 P) (.node (o316 P) (lf (o584 P)) .nil) (lf (o450 P))) (.node (o249 P) (.node (o384 P) (lf (o652 P)) .nil) (lf (o516 P)))) (.node (o146 P) (.node (o214 P) (.node (o350 P) (lf (o618 P)) .nil) (lf (o484 P))) (.node (o284 P) (.node (o418 P) (lf (o684 P)) .nil) (lf (o550 P))))) (.node (o92 P) (.node (o130 P) (.node (o196 P) (.node (o332 P) (lf (o600 P)) .nil) (lf (o468 P))) (.node (o265 P) (.node (o400 P) (lf (o668 P)) .nil) (lf (o532 P)))) (.node (o164 P) (.node (o230 P) (.node (o366 P) (lf (o636 P)) .nil) (lf (o500 P))) (.node (o300 P) (lf (o434 P)) (lf (o568 P)))))) (.node (o62 P) (.node (o81 P) (.node (o122 P) (.node (o188 P) (.node (o324 P) (lf (o592 P)) .nil) (lf (o460 P))) (.node (o257 P) (.node (o392 P) (lf (o660 P)) .nil) (lf (o524 P)))) (.node (o154 P) (.node (o222 P) (.node (o358 P) (lf (o626 P)) .nil) (lf (o492 P))) (.node (o292 P) (lf (o426 P)) (lf (o560 P))))) (.node (o100 P) (.node (o138 P) (.node (o206 P) (.node (o342 P) (lf (o608 P)) .nil) (lf (o476 P))) (.node (o273 P) (.node (o410 P) (lf (o676 P)) .nil) (lf (o542 P)))) (.node (o172 P) (.node (o238 P) (.node (o374 P) (lf (o644 P)) .nil) (lf (o508 P))) (.node (o308 P) (lf (o442 P)) (lf (o576 P))))))) (.node (o45 P) (.node (o58 P) (.node (o77 P) (.node (o115 P) (.node (o184 P) (.node (o320 P) (lf (o588 P)) .nil) (lf (o456 P))) (.node (o253 P) (.node (o388 P) (lf (o656 P)) .nil) (lf (o520 P)))) (.node (o150 P) (.node (o218 P) (.node (o354 P) (lf (o622 P)) .nil) (lf (o488 P))) (.node (o288 P) (lf (o422 P)) (lf (o556 P))))) (.node (o96 P) (.node (o134 P) (.node (o202 P) (.node (o338 P) (lf (o604 P)) .nil) (lf (o472 P))) (.node (o269 P) (.node (o404 P) (lf (o672 P)) .nil) (lf (o536 P)))) (.node (o168 P) (.node (o234 P) (.node (o370 P) (lf (o640 P)) .nil) (lf (o504 P))) (.node (o304 P) (lf (o438 P)) (lf (o572 P)))))) (.node (o66 P) (.node (o85 P) (.node (o126 P) (.node (o192 P) (.node (o328 P) (lf (o596 P)) .nil) (lf (o464 P))) (.node (o261 P) (.node (o396 P) (lf (o664 P)) .nil) (lf (o528 P)))) (.node (o158 P) (.node (o226 P) (.node (o362 P) (lf (o632 P)) .nil) (lf (o496 P))) (.node (o296 P) (lf (o430 P)) (lf (o564 P))))) (.node (o107 P) (.node (o142 P) (.node (o210 P) (.node (o346 P) (lf (o614 P)) .nil) (lf (o480 P))) (.node (o280 P) (.node (o414 P) (lf (o680 P)) .nil) (lf (o546 P)))) (.node (o176 P) (.node (o245 P) (.node (o380 P) (lf (o648 P)) .nil) (lf (o512 P))) (.node (o312 P) (lf (o446 P)) (lf (o580 P))))))))) (.node (o49 P) (.node (boot_o_4 P) (.node (boot_o_8 P) (.node (o53 P) (.node (o69 P) (.node (o110 P) (.node (o179 P) (.node (o315 P) (lf (o583 P)) .nil) (lf (o449 P))) (.node (o248 P) (.node (o383 P) (lf (o651 P)) .nil) (lf (o515 P)))) (.node (o145 P) (.node (o213 P) (.node (o349 P) (lf (o617 P)) .nil) (lf (o483 P))) (.node (o283 P) (.node (o417 P) (lf (o683 P)) .nil) (lf (o549 P))))) (.node (o91 P) (.node (o129 P) (.node (o195 P) (.node (o331 P) (lf (o599 P)) .nil) (lf (o467 P))) (.node (o264 P) (.node (o399 P) (lf (o667 P)) .nil) (lf (o531 P)))) (.node (o163 P) (.node (o229 P) (.node (o365 P) (lf (o635 P)) .nil) (lf (o499 P))) (.node (o299 P) (lf (o433 P)) (lf (o567 P)))))) (.node (o61 P) (.node (o80 P) (.node (o121 P) (.node (o187 P) (.node (o323 P) (lf (o591 P)) .nil) (lf (o459 P))) (.node (o256 P) (.node (o391 P) (lf (o659 P)) .nil) (lf (o523 P)))) (.node (o153 P) (.node (o221 P) (.node (o357 P) (lf (o625 P)) .nil) (lf (o491 P))) (.node (o291 P) (lf (o425 P)) (lf (o559 P))))) (.node (o104 P) (.node (o137 P) (.node (o205 P) (.node (o341 P) (lf (o607 P)) .nil) (lf (o475 P))) (.node (o272 P) (.node (o407 P) (lf (o675 P)) .nil) (lf (o541 P)))) (.node (o171 P) (.node (o237 P) (.node (o373 P) (lf (o643 P)) .nil) (lf (o507 P))) (.node (o307 P) (lf (o441 P)) (lf (o575 P))))))) (.node (o629 P) (.node (o57 P) (.node (o76 P) (.node (o114 P) (.node (o183 P) (.node (o319 P) (lf (o587 P)) .nil) (lf (o455 P))) (.node (o252 P) (.node (o387 P) (lf (o655 P)) .nil) (lf (o519 P)))) (.node (o149 P) (.node (o217 P) (.node (o353 P) (lf (o621 P)) .nil) (lf (o487 P))) (.node (o287 P) (lf (o421 P)) (lf (o553 P))))) (.node (o95 P) (.node (o133 P) (.node (o201 P) (.node (o337 P) (lf (o603 P)) .nil) (lf (o471 P))) (.node (o268 P) (.node (o403 P) (lf (o671 P)) .nil) (lf (o535 P)))) (.node (o167 P) (.node (o233 P) (.node (o369 P) (lf (o639 P)) .nil) (lf (o503 P))) (.node (o303 P) (lf (o437 P)) (lf (o571 P)))))) (.node (o65 P) (.node (o119 P) (.node (o125 P) (.node (o191 P) (.node (o327 P) (lf (o595 P)) .nil) (lf (o463 P))) (.node (o260 P) (.node (o395 P) (lf (o663 P)) .nil) (lf (o527 P)))) (.node (o157 P) (.node (o225 P) (.node (o361 P) (lf (o631 P)) .nil) (lf (o495 P))) (.node (o295 P) (lf (o429 P)) (lf (o563 P))))) (.node (o106 P) (.node (o141 P) (.node (o209 P) (.node (o345 P) (lf (o611 P)) .nil) (lf (o479 P))) (.node (o276 P) (.node (o413 P) (lf (o679 P)) .nil) (lf (o545 P)))) (.node (o175 P) (.node (o244 P) (.node (o377 P) (lf (o647 P)) .nil) (lf (o511 P))) (.node (o311 P) (lf (o445 P)) (lf (o579 P)))))))) (.node (boot_o_6 P) (.node (boot_o_10 P) (.node (o55 P) (.node (o71 P) (.node (o112 P) (.node (o181 P) (.node (o317 P) (lf (o585 P)) .nil) (lf (o451 P))) (.node (o250 P) (.node (o385 P) (lf (o653 P)) .nil) (lf (o517 P)))) (.node (o147 P) (.node (o215 P) (.node (o351 P) (lf (o619 P)) .nil) (lf (o485 P))) (.node (o285 P) (.node (o419 P) (lf (o685 P)) .nil) (lf (o551 P))))) (.node (o93 P) (.node (o131 P) (.node (o199 P) (.node (o333 P) (lf (o601 P)) .nil) (lf (o469 P))) (.node (o266 P) (.node (o401 P) (lf (o669 P)) .nil) (lf (o533 P)))) (.node (o165 P) (.node (o231 P) (.node (o367 P) (lf (o637 P)) .nil) (lf (o501 P))) (.node (o301 P) (lf (o435 P)) (lf (o569 P)))))) (.node (o63 P) (.node (o82 P) (.node (o123 P) (.node (o189 P) (.node (o325 P) (lf (o593 P)) .nil) (lf (o461 P))) (.node (o258 P) (.node (o393 P) (lf (o661 P)) .nil) (lf (o525 P)))) (.node (o155 P) (.node (o223 P) (.node (o359 P) (lf (o627 P)) .nil) (lf (o493 P))) (.node (o293 P) (lf (o427 P)) (lf (o561 P))))) (.node (o101 P) (.node (o139 P) (.node (o207 P) (.node (o343 P) (lf (o609 P)) .nil) (lf (o477 P))) (.node (o274 P) (.node (o411 P) (lf (o677 P)) .nil) (lf (o543 P)))) (.node (o173 P) (.node (o239 P) (.node (o375 P) (lf (o645 P)) .nil) (lf (o509 P))) (.node (o309 P) (lf (o443 P)) (lf (o577 P))))))) (.node (o46 P) (.node (o59 P) (.node (o78 P) (.node (o116 P) (.node (o185 P) (.node (o321 P) (lf (o589 P)) .nil) (lf (o457 P))) (.node (o254 P) (.node (o389 P) (lf (o657 P)) .nil) (lf (o521 P)))) (.node (o151 P) (.node (o219 P) (.node (o355 P) (lf (o623 P)) .nil) (lf (o489 P))) (.node (o289 P) (lf (o423 P)) (lf (o557 P))))) (.node (o97 P) (.node (o135 P) (.node (o203 P) (.node (o339 P) (lf (o605 P)) .nil) (lf (o473 P))) (.node (o270 P) (.node (o405 P) (lf (o673 P)) .nil) (lf (o537 P)))) (.node (o169 P) (.node (o235 P) (.node (o371 P) (lf (o641 P)) .nil) (lf (o505 P))) (.node (o305 P) (lf (o439 P)) (lf (o573 P)))))) (.node (o67 P) (.node (o86 P) (.node (o127 P) (.node (o193 P) (.node (o329 P) (lf (o597 P)) .nil) (lf (o465 P))) (.node (o262 P) (.node (o397 P) (lf (o665 P)) .nil) (lf (o529 P)))) (.node (o159 P) (.node (o227 P) (.node (o363 P) (lf (o633 P)) .nil) (lf (o497 P))) (.node (o297 P) (lf (o431 P)) (lf (o565 P))))) (.node (o108 P) (.node (o143 P) (.node (o211 P) (.node (o347 P) (lf (o615 P)) .nil) (lf (o481 P))) (.node (o281 P) (.node (o415 P) (lf (o681 P)) .nil) (lf (o547 P)))) (.node (o177 P) (.node (o246 P) (.node (o381 P) (lf (o649 P)) .nil) (lf (o513 P))) (.node (o313 P) (lf (o447 P)) (lf (o581 P))))))))))
noncomputable def tree730 (P : Params) : BT := (.node (boot_o_0 P) (.node (boot_o_1 P) (.node (o686 P) (.node (boot_o_7 P) (.node (o52 P) (.node (o74 P) (.node (o109 P) (.node (o178 P) (.node (o314 P) (lf (o582 P)) .nil) (.node (o448 P) (lf (o716 P)) .nil)) (.node (o247 P) (.node (o382 P) (lf (o650 P)) .nil) (lf (o514 P)))) (.node (o144 P) (.node (o212 P) (.node (o348 P) (lf (o616 P)) .nil) (lf (o482 P))) (.node (o282 P) (.node (o416 P) (lf (o682 P)) .nil) (lf (o548 P))))) (.node (o90 P) (.node (o128 P) (.node (o194 P) (.node (o330 P) (lf (o598 P)) .nil) (lf (o466 P))) (.node (o263 P) (.node (o398 P) (lf (o666 P)) .nil) (lf (o530 P)))) (.node (o162 P) (.node (o228 P) (.node (o364 P) (lf (o634 P)) .nil) (lf (o498 P))) (.node (o298 P) (.node (o432 P) (lf (o700 P)) .nil) (lf (o566 P)))))) (.node (o60 P) (.node (o79 P) (.node (o120 P) (.node (o186 P) (.node (o322 P) (lf (o590 P)) .nil) (.node (o458 P) (lf (o724 P)) .nil)) (.node (o255 P) (.node (o390 P) (lf (o658 P)) .nil) (lf (o522 P)))) (.node (o152 P) (.node (o220 P) (.node (o356 P) (lf (o624 P)) .nil) (lf (o490 P))) (.node (o290 P) (.node (o424 P) (lf (o692 P)) .nil) (lf (o558 P))))) (.node (o98 P) (.node (o136 P) (.node (o204 P) (.node (o340 P) (lf (o606 P)) .nil) (lf (o474 P))) (.node (o271 P) (.node (o406 P) (lf (o674 P)) .nil) (lf (o540 P)))) (.node (o170 P) (.node (o279 P) (.node (o372 P) (lf (o642 P)) .nil) (lf (o506 P))) (.node (o306 P) (.node (o440 P) (lf (o708 P)) .nil) (lf (o574 P))))))) (.node (o43 P) (.node (o56 P) (.node (o75 P) (.node (o113 P) (.node (o182 P) (.node (o318 P) (lf (o586 P)) .nil) (.node (o454 P) (lf (o720 P)) .nil)) (.node (o251 P) (.node (o386 P) (lf (o654 P)) .nil) (lf (o518 P)))) (.node (o148 P) (.node (o216 P) (.node (o352 P) (lf (o620 P)) .nil) (lf (o486 P))) (.node (o286 P) (.node (o420 P) (lf (o688 P)) .nil) (lf (o552 P))))) (.node (o94 P) (.node (o132 P) (.node (o200 P) (.node (o336 P) (lf (o602 P)) .nil) (lf (o470 P))) (.node (o267 P) (.node (o402 P) (lf (o670 P)) .nil) (lf (o534 P)))) (.node (o166 P) (.node (o232 P) (.node (o368 P) (lf (o638 P)) .nil) (lf (o502 P))) (.node (o302 P) (.node (o436 P) (lf (o704 P)) .nil) (lf (o570 P)))))) (.node (o64 P) (.node (o83 P) (.node (o124 P) (.node (o190 P) (.node (o326 P) (lf (o594 P)) .nil) (.node (o462 P) (lf (o728 P)) .nil)) (.node (o259 P) (.node (o394 P) (lf (o662 P)) .nil) (lf (o526 P)))) (.node (o156 P) (.node (o224 P) (.node (o360 P) (lf (o630 P)) .nil) (lf (o494 P))) (.node (o294 P) (.node (o428 P) (lf (o696 P)) .nil) (lf (o562 P))))) (.node (o105 P) (.node (o140 P) (.node (o208 P) (.node (o344 P) (lf (o610 P)) .nil) (lf (o478 P))) (.node (o275 P) (.node (o412 P) (lf (o678 P)) .nil) (lf (o544 P)))) (.node (o174 P) (.node (o240 P) (.node (o376 P) (lf (o646 P)) .nil) (lf (o510 P))) (.node (o310 P) (.node (o444 P) (lf (o712 P)) .nil) (lf (o578 P)))))))) (.node (boot_o_5 P) (.node (boot_o_9 P) (.node (o54 P) (.node (o70 P) (.node (o111 P) (.node (o180 P) (.node (o316 P) (lf (o584 P)) .nil) (.node (o450 P) (lf (o718 P)) .nil)) (.node (o249 P) (.node (o384 P) (lf (o652 P)) .nil) (lf (o516 P)))) (.node (o146 P) (.node (o214 P) (.node (o350 P) (lf (o618 P)) .nil) (lf (o484 P))) (.node (o284 P) (.node (o418 P) (lf (o684 P)) .nil) (lf (o550 P))))) (.node (o92 P) (.node (o130 P) (.node (o196 P) (.node (o332 P) (lf (o600 P)) .nil) (lf (o468 P))) (.node (o265 P) (.node (o400 P) (lf (o668 P)) .nil) (lf (o532 P)))) (.node (o164 P) (.node (o230 P) (.node (o366 P) (lf (o636 P)) .nil) (lf (o500 P))) (.node (o300 P) (.node (o434 P) (lf (o702 P)) .nil) (lf (o568 P)))))) (.node (o62 P) (.node (o81 P) (.node (o122 P) (.node (o188 P) (.node (o324 P) (lf (o592 P)) .nil) (.node (o460 P) (lf (o726 P)) .nil)) (.node (o257 P) (.node (o392 P) (lf (o660 P)) .nil) (lf (o524 P)))) (.node (o154 P) (.node (o222 P) (.node (o358 P) (lf (o626 P)) .nil) (lf (o492 P))) (.node (o292 P) (.node (o426 P) (lf (o694 P)) .nil) (lf (o560 P))))) (.node (o100 P) (.node (o138 P) (.node (o206 P) (.node (o342 P) (lf (o608 P)) .nil) (lf (o476 P))) (.node (o273 P) (.node (o410 P) (lf (o676 P)) .nil) (lf (o542 P)))) (.node (o172 P) (.node (o238 P) (.node (o374 P) (lf (o644 P)) .nil) (lf (o508 P))) (.node (o308 P) (.node (o442 P) (lf (o710 P)) .nil) (lf (o576 P))))))) (.node (o45 P) (.node (o58 P) (.node (o77 P) (.node (o115 P) (.node (o184 P) (.node (o320 P) (lf (o588 P)) .nil) (.node (o456 P) (lf (o722 P)) .nil)) (.node (o253 P) (.node (o388 P) (lf (o656 P)) .nil) (lf (o520 P)))) (.node (o150 P) (.node (o218 P) (.node (o354 P) (lf (o622 P)) .nil) (lf (o488 P))) (.node (o288 P) (.node (o422 P) (lf (o690 P)) .nil) (lf (o556 P))))) (.node (o96 P) (.node (o134 P) (.node (o202 P) (.node (o338 P) (lf (o604 P)) .nil) (lf (o472 P))) (.node (o269 P) (.node (o404 P) (lf (o672 P)) .nil) (lf (o536 P)))) (.node (o168 P) (.node (o234 P) (.node (o370 P) (lf (o640 P)) .nil) (lf (o504 P))) (.node (o304 P) (.node (o438 P) (lf (o706 P)) .nil) (lf (o572 P)))))) (.node (o66 P) (.node (o85 P) (.node (o126 P) (.node (o192 P) (.node (o328 P) (lf (o596 P)) .nil) (.node (o464 P) (lf (o730 P)) .nil)) (.node (o261 P) (.node (o396 P) (lf (o664 P)) .nil) (lf (o528 P)))) (.node (o158 P) (.node (o226 P) (.node (o362 P) (lf (o632 P)) .nil) (lf (o496 P))) (.node (o296 P) (.node (o430 P) (lf (o698 P)) .nil) (lf (o564 P))))) (.node (o107 P) (.node (o142 P) (.node (o210 P) (.node (o346 P) (lf (o614 P)) .nil) (lf (o480 P))) (.node (o280 P) (.node (o414 P) (lf (o680 P)) .nil) (lf (o546 P)))) (.node (o176 P) (.node (o245 P) (.node (o380 P) (lf (o648 P)) .nil) (lf (o512 P))) (.node (o312 P) (.node (o446 P) (lf (o714 P)) .nil) (lf (o580 P))))))))) (.node (o49 P) (.node (boot_o_4 P) (.node (boot_o_8 P) (.node (o53 P) (.node (o69 P) (.node (o110 P) (.node (o179 P) (.node (o315 P) (lf (o583 P)) .nil) (.node (o449 P) (lf (o717 P)) .nil)) (.node (o248 P) (.node (o383 P) (lf (o651 P)) .nil) (lf (o515 P)))) (.node (o145 P) (.node (o213 P) (.node (o349 P) (lf (o617 P)) .nil) (lf (o483 P))) (.node (o283 P) (.node (o417 P) (lf (o683 P)) .nil) (lf (o549 P))))) (.node (o91 P) (.node (o129 P) (.node (o195 P) (.node (o331 P) (lf (o599 P)) .nil) (lf (o467 P))) (.node (o264 P) (.node (o399 P) (lf (o667 P)) .nil) (lf (o531 P)))) (.node (o163 P) (.node (o229 P) (.node (o365 P) (lf (o635 P)) .nil) (lf (o499 P))) (.node (o299 P) (.node (o433 P) (lf (o701 P)) .nil) (lf (o567 P)))))) (.node (o61 P) (.node (o80 P) (.node (o121 P) (.node (o187 P) (.node (o323 P) (lf (o591 P)) .nil) (.node (o459 P) (lf (o725 P)) .nil)) (.node (o256 P) (.node (o391 P) (lf (o659 P)) .nil) (lf (o523 P)))) (.node (o153 P) (.node (o221 P) (.node (o357 P) (lf (o625 P)) .nil) (lf (o491 P))) (.node (o291 P) (.node (o425 P) (lf (o693 P)) .nil) (lf (o559 P))))) (.node (o104 P) (.node (o137 P) (.node (o205 P) (.node (o341 P) (lf (o607 P)) .nil) (lf (o475 P))) (.node (o272 P) (.node (o407 P) (lf (o675 P)) .nil) (lf (o541 P)))) (.node (o171 P) (.node (o237 P) (.node (o373 P) (lf (o643 P)) .nil) (lf (o507 P))) (.node (o307 P) (.node (o441 P) (lf (o709 P)) .nil) (lf (o575 P))))))) (.node (o687 P) (.node (o57 P) (.node (o76 P) (.node (o114 P) (.node (o183 P) (.node (o319 P) (lf (o587 P)) .nil) (.node (o455 P) (lf (o721 P)) .nil)) (.node (o252 P) (.node (o387 P) (lf (o655 P)) .nil) (lf (o519 P)))) (.node (o149 P) (.node (o217 P) (.node (o353 P) (lf (o621 P)) .nil) (lf (o487 P))) (.node (o287 P) (.node (o421 P) (lf (o689 P)) .nil) (lf (o553 P))))) (.node (o95 P) (.node (o133 P) (.node (o201 P) (.node (o337 P) (lf (o603 P)) .nil) (lf (o471 P))) (.node (o268 P) (.node (o403 P) (lf (o671 P)) .nil) (lf (o535 P)))) (.node (o167 P) (.node (o233 P) (.node (o369 P) (lf (o639 P)) .nil) (lf (o503 P))) (.node (o303 P) (.node (o437 P) (lf (o705 P)) .nil) (lf (o571 P)))))) (.node (o65 P) (.node (o119 P) (.node (o125 P) (.node (o191 P) (.node (o327 P) (lf (o595 P)) .nil) (.node (o463 P) (lf (o729 P)) .nil)) (.node (o260 P) (.node (o395 P) (lf (o663 P)) .nil) (lf (o527 P)))) (.node (o157 P) (.node (o225 P) (.node (o361 P) (lf (o631 P)) .nil) (lf (o495 P))) (.node (o295 P) (.node (o429 P) (lf (o697 P)) .nil) (lf (o563 P))))) (.node (o106 P) (.node (o141 P) (.node (o209 P) (.node (o345 P) (lf (o611 P)) .nil) (lf (o479 P))) (.node (o276 P) (.node (o413 P) (lf (o679 P)) .nil) (lf (o545 P)))) (.node (o175 P) (.node (o244 P) (.node (o377 P) (lf (o647 P)) .nil) (lf (o511 P))) (.node (o311 P) (.node (o445 P) (lf (o713 P)) .nil) (lf (o579 P)))))))) (.node (boot_o_6 P) (.node (boot_o_10 P) (.node (o55 P) (.node (o71 P) (.node (o112 P) (.node (o181 P) (.node (o317 P) (lf (o585 P)) .nil) (.node (o451 P) (lf (o719 P)) .nil)) (.node (o250 P) (.node (o385 P) (lf (o653 P)) .nil) (lf (o517 P)))) (.node (o147 P) (.node (o215 P) (.node (o351 P) (lf (o619 P)) .nil) (lf (o485 P))) (.node (o285 P) (.node (o419 P) (lf (o685 P)) .nil) (lf (o551 P))))) (.node (o93 P) (.node (o131 P) (.node (o199 P) (.node (o333 P) (lf (o601 P)) .nil) (lf (o469 P))) (.node (o266 P) (.node (o401 P) (lf (o669 P)) .nil) (lf (o533 P)))) (.node (o165 P) (.node (o231 P) (.node (o367 P) (lf (o637 P)) .nil) (lf (o501 P))) (.node (o301 P) (.node (o435 P) (lf (o703 P)) .nil) (lf (o569 P)))))) (.node (o63 P) (.node (o82 P) (.node (o123 P) (.node (o189 P) (.node (o325 P) (lf (o593 P)) .nil) (.node (o461 P) (lf (o727 P)) .nil)) (.node (o258 P) (.node (o393 P) (lf (o661 P)) .nil) (lf (o525 P)))) (.node (o155 P) (.node (o223 P) (.node (o359 P) (lf (o627 P)) .nil) (lf (o493 P))) (.node (o293 P) (.node (o427 P) (lf (o695 P)) .nil) (lf (o561 P))))) (.node (o101 P) (.node (o139 P) (.node (o207 P) (.node (o343 P) (lf (o609 P)) .nil) (lf (o477 P))) (.node (o274 P) (.node (o411 P) (lf (o677 P)) .nil) (lf (o543 P)))) (.node (o173 P) (.node (o239 P) (.node (o375 P) (lf (o645 P)) .nil) (lf (o509 P))) (.node (o309 P) (.node (o443 P) (lf (o711 P)) .nil) (lf (o577 P))))))) (.node (o46 P) (.node (o59 P) (.node (o78 P) (.node (o116 P) (.node (o185 P) (.node (o321 P) (lf (o589 P)) .nil) (.node (o457 P) (lf (o723 P)) .nil)) (.node (o254 P) (.node (o389 P) (lf (o657 P)) .nil) (lf (o521 P)))) (.node (o151 P) (.node (o219 P) (.node (o355 P) (lf (o623 P)) .nil) (lf (o489 P))) (.node (o289 P) (.node (o423 P) (lf (o691 P)) .nil) (lf (o557 P))))) (.node (o97 P) (.node (o135 P) (.node (o203 P) (.node (o339 P) (lf (o605 P)) .nil) (lf (o473 P))) (.node (o270 P) (.node (o405 P) (lf (o673 P)) .nil) (lf (o537 P)))) (.node (o169 P) (.node (o235 P) (.node (o371 P) (lf (o641 P)) .nil) (lf (o505 P))) (.node (o305 P) (.node (o439 P) (lf (o707 P)) .nil) (lf (o573 P)))))) (.node (o67 P) (.node (o86 P) (.node (o127 P) (.node (o193 P) (.node (o329 P) (lf (o597 P)) .nil) (lf (o465 P))) (.node (o262 P) (.node (o397 P) (lf (o665 P)) .nil) (lf (o529 P)))) (.node (o159 P) (.node (o227 P) (.node (o363 P) (lf (o633 P)) .nil) (lf (o497 P))) (.node (o297 P) (.node (o431 P) (lf (o699 P)) .nil) (lf (o565 P))))) (.node (o108 P) (.node (o143 P) (.node (o211 P) (.node (o347 P) (lf (o615 P)) .nil) (lf (o481 P))) (.node (o281 P) (.node (o415 P) (lf (o681 P)) .nil) (lf (o547 P)))) (.node (o177 P) (.node (o246 P) (.node (o381 P) (lf (o649 P)) .nil) (lf (o513 P))) (.node (o313 P) (.node (o447 P) (lf (o715 P)) .nil) (lf (o581 P))))))))))
noncomputable def heap46 (P : Params) : Heap := Heap.mk (Array.mk [boot_o_0 P, boot_o_1 P, boot_o_2 P, boot_o_3 P, boot_o_4 P, boot_o_5 P, boot_o_6 P, boot_o_7 P, boot_o_8 P, boot_o_9 P, boot_o_10 P, o43 P, o44 P, o45 P, o46 P]) (Life.mk [] [] [] 0 [] [] Bool.false #[] [] 0 Bool.false Bool.false Bool.false 0 [2000, 10, 10] Bool.false 0 Bool.true [] [] 0 Bool.false)
noncomputable def heap731 (P : Params) : Heap := Heap.mk (Array.mk [boot_o_0 P, boot_o_1 P, o49 P, o686 P, boot_o_4 P, boot_o_5 P, boot_o_6 P, boot_o_7 P, boot_o_8 P, boot_o_9 P, boot_o_10 P, o43 P, o687 P, o45 P, o46 P, o52 P, o53 P, o54 P, o55 P, o56 P, o57 P, o58 P, o59 P, o60 P, o61 P, o62 P, o63 P, o64 P, o65 P, o66 P, o67 P, o74 P, o69 P, o70 P, o71 P, o75 P, o76 P, o77 P, o78 P, o79 P, o80 P, o81 P, o82 P, o83 P, o119 P, o85 P, o86 P, o90 P, o91 P, o92 P, o93 P, o94 P, o95 P, o96 P, o97 P, o98 P, o104 P, o100 P, o101 P, o105 P, o106 P, o107 P, o108 P, o109 P, o110 P, o111 P, o112 P, o113 P, o114 P, o115 P, o116 P, o120 P, o121 P, o122 P, o123 P, o124 P, o125 P, o126 P, o127 P, o128 P, o129 P, o130 P, o131 P, o132 P, o133 P, o134 P, o135 P, o136 P, o137 P, o138 P, o139 P, o140 P, o141 P, o142 P, o143 P, o144 P, o145 P, o146 P, o147 P, o148 P, o149 P, o150 P, o151 P, o152 P, o153 P, o154 P, o155 P, o156 P, o157 P, o158 P, o159 P, o162 P, o163 P, o164 P, o165 P, o166 P, o167 P, o168 P, o169 P, o170 P, o171 P, o172 P, o173 P, o174 P, o175 P, o176 P, o177 P, o178 P, o179 P, o180 P, o181 P, o182 P, o183 P, o184 P, o185 P, o186 P, o187 P, o188 P, o189 P, o190 P, o191 P, o192 P, o193 P, o194 P, o195 P, o196 P, o199 P, o200 P, o201 P, o202 P, o203 P, o204 P, o205 P, o206 P, o207 P, o208 P, o209 P, o210 P, o211 P, o212 P, o213 P, o214 P, o215 P, o216 P, o217 P, o218 P, o219 P, o220 P, o221 P, o222 P, o223 P, o224 P, o225 P, o226 P, o227 P, o228 P, o229 P, o230 P, o231 P, o232 P, o233 P, o234 P, o235 P, o279 P, o237 P, o238 P, o239 P, o240 P, o244 P, o245 P, o246 P, o247 P, o248 P, o249 P, o250 P, o251 P, o252 P, o253 P, o254 P, o255 P, o256 P, o257 P, o258 P, o259 P, o260 P, o261 P, o262 P, o263 P, o264 P, o265 P, o266 P, o267 P, o268 P, o269 P, o270 P, o271 P, o272 P, o273 P, o274 P, o275 P, o276 P, o280 P, o281 P, o282 P, o283 P, o284 P, o285 P, o286 P, o287 P, o288 P, o289 P, o290 P, o291 P, o292 P, o293 P, o294 P, o295 P, o296 P, o297 P, o298 P, o299 P, o300 P, o301 P, o302 P, o303 P, o304 P, o305 P, o306 P, o307 P, o308 P, o309 P, o310 P, o311 P, o312 P, o313 P, o314 P, o315 P, o316 P, o317 P, o318 P, o319 P, o320 P, o321 P, o322 P, o323 P, o324 P, o325 P, o326 P, o327 P, o328 P, o329 P, o330 P, o331 P, o332 P, o333 P, o336 P, o337 P, o338 P, o339 P, o340 P, o341 P, o342 P, o343 P, o344 P, o345 P, o346 P, o347 P, o348 P, o349 P, o350 P, o351 P, o352 P, o353 P, o354 P, o355 P, o356 P, o357 P, o358 P, o359 P, o360 P, o361 P, o362 P, o363 P, o364 P, o365 P, o366 P, o367 P, o368 P, o369 P, o370 P, o371 P, o372 P, o373 P, o374 P, o375 P, o376 P, o377 P, o380 P, o381 P, o382 P, o383 P, o384 P, o385 P, o386 P, o387 P, o388 P, o389 P, o390 P, o391 P, o392 P, o393 P, o394 P, o395 P, o396 P, o397 P, o398 P, o399 P, o400 P, o401 P, o402 P, o403 P, o404 P, o405 P, o406 P, o407 P, o410 P, o411 P, o412 P, o413 P, o414 P, o415 P, o416 P, o417 P, o418 P, o419 P, o420 P, o421 P, o422 P, o423 P, o424 P, o425 P, o426 P, o427 P, o428 P, o429 P, o430 P, o431 P, o432 P, o433 P, o434 P, o435 P, o436 P, o437 P, o438 P, o439 P, o440 P, o441 P, o442 P, o443 P, o444 P, o445 P, o446 P, o447 P, o448 P, o449 P, o450 P, o451 P, o454 P, o455 P, o456 P, o457 P, o458 P, o459 P, o460 P, o461 P, o462 P, o463 P, o464 P, o465 P, o466 P, o467 P, o468 P, o469 P, o470 P, o471 P, o472 P, o473 P, o474 P, o475 P, o476 P, o477 P, o478 P, o479 P, o480 P, o481 P, o482 P, o483 P, o484 P, o485 P, o486 P, o487 P, o488 P, o489 P, o490 P, o491 P, o492 P, o493 P, o494 P, o495 P, o496 P, o497 P, o498 P, o499 P, o500 P, o501 P, o502 P, o503 P, o504 P, o505 P, o506 P, o507 P, o508 P, o509 P, o510 P, o511 P, o512 P, o513 P, o514 P, o515 P, o516 P, o517 P, o518 P, o519 P, o520 P, o521 P, o522 P, o523 P, o524 P, o525 P, o526 P, o527 P, o528 P, o529 P, o530 P, o531 P, o532 P, o533 P, o534 P, o535 P, o536 P, o537 P, o540 P, o541 P, o542 P, o543 P, o544 P, o545 P, o546 P, o547 P, o548 P, o549 P, o550 P, o551 P, o552 P, o553 P, o556 P, o557 P, o558 P, o559 P, o560 P, o561 P, o562 P, o563 P, o564 P, o565 P, o566 P, o567 P, o568 P, o569 P, o570 P, o571 P, o572 P, o573 P, o574 P, o575 P, o576 P, o577 P, o578 P, o579 P, o580 P, o581 P, o582 P, o583 P, o584 P, o585 P, o586 P, o587 P, o588 P, o589 P, o590 P, o591 P, o592 P, o593 P, o594 P, o595 P, o596 P, o597 P, o598 P, o599 P, o600 P, o601 P, o602 P, o603 P, o604 P, o605 P, o606 P, o607 P, o608 P, o609 P, o610 P, o611 P, o614 P, o615 P, o616 P, o617 P, o618 P, o619 P, o620 P, o621 P, o622 P, o623 P, o624 P, o625 P, o626 P, o627 P, o630 P, o631 P, o632 P, o633 P, o634 P, o635 P, o636 P, o637 P, o638 P, o639 P, o640 P, o641 P, o642 P, o643 P, o644 P, o645 P, o646 P, o647 P, o648 P, o649 P, o650 P, o651 P, o652 P, o653 P, o654 P, o655 P, o656 P, o657 P, o658 P, o659 P, o660 P, o661 P, o662 P, o663 P, o664 P, o665 P, o666 P, o667 P, o668 P, o669 P, o670 P, o671 P, o672 P, o673 P, o674 P, o675 P, o676 P, o677 P, o678 P, o679 P, o680 P, o681 P, o682 P, o683 P, o684 P, o685 P, o688 P, o689 P, o690 P, o691 P, o692 P, o693 P, o694 P, o695 P, o696 P, o697 P, o698 P, o699 P, o700 P, o701 P, o702 P, o703 P, o704 P, o705 P, o706 P, o707 P, o708 P, o709 P, o710 P, o711 P, o712 P, o713 P, o714 P, o715 P, o716 P, o717 P, o718 P, o719 P, o720 P, o721 P, o722 P, o723 P, o724 P, o725 P, o726 P, o727 P, o728 P, o729 P, o730 P]) (Life.mk [] [] [] 0 [] [] Bool.false #[] [] 0 Bool.false Bool.false Bool.false 0 [2000, 10, 10] Bool.false 0 Bool.true [] [] 0 Bool.false)
noncomputable def sb0 : List Stmt := (bE.drop 0).take 3
theorem sg0 (w : World) : (fun os => segRunT treeTable pW w 11 (some (.ref 6)) 1 235 (SS (tree47 w.params) 15 187 os) (piecesOf sb0 evE cB ⟨0, 0, 0, 0⟩ tF)) = fun os => some (.next, (SS (tree71 w.params) 35 216 os), cB, ⟨5, 0, 6, 8⟩) := by
  rewrite [PySem.W.Fast.te10110043849684766642, PySem.W.Fast.te14364793385576792824]
  kernel_rfl
noncomputable def sb1 : List Stmt := (bE.drop 3).take 1
theorem sg1 (w : World) : (fun os => segRunT treeTable pW w 11 (some (.ref 6)) 1 214 (SS (tree71 w.params) 35 216 os) (piecesOf sb1 evE cB ⟨5, 0, 6, 8⟩ tF)) = fun os => some (.next, (SS (tree86 w.params) 47 232 os), cB, ⟨7, 0, 8, 8⟩) := by
  rewrite [PySem.W.Fast.te10110043849684766642, PySem.W.Fast.te14364793385576792824]
  kernel_rfl
noncomputable def sb2 : List Stmt := (bE.drop 4).take 1
theorem sg2 (w : World) : (fun os => segRunT treeTable pW w 11 (some (.ref 6)) 1 228 (SS (tree86 w.params) 47 232 os) (piecesOf sb2 evE cB ⟨7, 0, 8, 8⟩ tF)) = fun os => some (.next, (SS (tree101 w.params) 59 248 os), cB, ⟨9, 0, 10, 8⟩) := by
  rewrite [PySem.W.Fast.te10110043849684766642, PySem.W.Fast.te14364793385576792824]
  kernel_rfl
noncomputable def sb3 : List Stmt := (bE.drop 5).take 1
theorem sg3 (w : World) : (fun os => segRunT treeTable pW w 11 (some (.ref 6)) 1 242 (SS (tree101 w.params) 59 248 os) (piecesOf sb3 evE cB ⟨9, 0, 10, 8⟩ tF)) = fun os => some (.next, (SS (tree116 w.params) 71 264 os), cB, ⟨11, 0, 12, 8⟩) := by
  rewrite [PySem.W.Fast.te10110043849684766642, PySem.W.Fast.te14364793385576792824]
  kernel_rfl
noncomputable def sb4 : List Stmt := (bE.drop 6).take 11
theorem sg4 (w : World) : (fun os => segRunT treeTable pW w 11 (some (.ref 6)) 1 400 (SS (tree116 w.params) 71 264 os) (piecesOf sb4 evE cB ⟨11, 0, 12, 8⟩ tF)) = fun os => some (.next, (SS (tree159 w.params) 111 322 os), cB, ⟨36, 0, 36, 8⟩) := by
  rewrite [PySem.W.Fast.te10110043849684766642, PySem.W.Fast.te14364793385576792824]
  kernel_rfl
noncomputable def sb5 : List Stmt := (bE.drop 17).take 13
theorem sg5 (w : World) : (fun os => segRunT treeTable pW w 11 (some (.ref 6)) 1 224 (SS (tree159 w.params) 111 322 os) (piecesOf sb5 evE cB ⟨36, 0, 36, 8⟩ tF)) = fun os => some (.next, (SS (tree196 w.params) 146 379 os), cB, ⟨64, 0, 67, 49⟩) := by
  rewrite [PySem.W.Fast.te10110043849684766642, PySem.W.Fast.te14364793385576792824]
  kernel_rfl
noncomputable def sb6 : List Stmt := (bE.drop 30).take 1
theorem sg6 (w : World) : (fun os => segRunT treeTable pW w 11 (some (.ref 6)) 1 319 (SS (tree196 w.params) 146 379 os) (piecesOf sb6 evE cB ⟨64, 0, 67, 49⟩ tF)) = fun os => some (.next, (SS (tree240 w.params) 188 432 os), cB, ⟨68, 0, 84, 32⟩) := by
  rewrite [PySem.W.Fast.te10110043849684766642, PySem.W.Fast.te14364793385576792824]
  kernel_rfl
noncomputable def sb7 : List Stmt := (bE.drop 31).take 1
theorem sg7 (w : World) : (fun os => segRunT treeTable pW w 11 (some (.ref 6)) 1 309 (SS (tree240 w.params) 188 432 os) (piecesOf sb7 evE cB ⟨68, 0, 84, 32⟩ tF)) = fun os => some (.next, (SS (tree276 w.params) 221 472 os), cB, ⟨85, 0, 94, 32⟩) := by
  rewrite [PySem.W.Fast.te10110043849684766642, PySem.W.Fast.te14364793385576792824]
  kernel_rfl
noncomputable def sb8 : List Stmt := (bE.drop 32).take 1
theorem sg8 (w : World) : (fun os => segRunT treeTable pW w 11 (some (.ref 6)) 1 411 (SS (tree276 w.params) 221 472 os) (piecesOf sb8 evE cB ⟨85, 0, 94, 32⟩ tF)) = fun os => some (.next, (SS (tree333 w.params) 275 542 os), cB, ⟨95, 0, 122, 35⟩) := by
  rewrite [PySem.W.Fast.te10110043849684766642, PySem.W.Fast.te14364793385576792824]
  kernel_rfl
noncomputable def sb9 : List Stmt := (bE.drop 33).take 3
theorem sg9 (w : World) : (fun os => segRunT treeTable pW w 11 (some (.ref 6)) 1 350 (SS (tree333 w.params) 275 542 os) (piecesOf sb9 evE cB ⟨95, 0, 122, 35⟩ tF)) = fun os => some (.next, (SS (tree377 w.params) 317 621 os), cB, ⟨185, 0, 185, 8⟩) := by
  rewrite [PySem.W.Fast.te10110043849684766642, PySem.W.Fast.te14364793385576792824]
  kernel_rfl
noncomputable def sb10 : List Stmt := (bE.drop 36).take 1
theorem sg10 (w : World) : (fun os => segRunT treeTable pW w 11 (some (.ref 6)) 1 260 (SS (tree377 w.params) 317 621 os) (piecesOf sb10 evE cB ⟨185, 0, 185, 8⟩ tF)) = fun os => some (.next, (SS (tree407 w.params) 345 663 os), cB, ⟨186, 0, 195, 68⟩) := by
  rewrite [PySem.W.Fast.te10110043849684766642, PySem.W.Fast.te14364793385576792824]
  kernel_rfl
noncomputable def sb11 : List Stmt := (bE.drop 37).take 2
theorem sg11 (w : World) : (fun os => segRunT treeTable pW w 11 (some (.ref 6)) 1 328 (SS (tree407 w.params) 345 663 os) (piecesOf sb11 evE cB ⟨186, 0, 195, 68⟩ tF)) = fun os => some (.next, (SS (tree451 w.params) 387 727 os), cB, ⟨216, 0, 225, 14⟩) := by
  rewrite [PySem.W.Fast.te10110043849684766642, PySem.W.Fast.te14364793385576792824]
  kernel_rfl
noncomputable def sb12 : List Stmt := (bE.drop 39).take 1
theorem sg12 (w : World) : (fun os => segRunT treeTable pW w 11 (some (.ref 6)) 1 561 (SS (tree451 w.params) 387 727 os) (piecesOf sb12 evE cB ⟨216, 0, 225, 14⟩ tF)) = fun os => some (.next, (SS (tree537 w.params) 471 878 os), cB, ⟨226, 0, 345, 111⟩) := by
  rewrite [PySem.W.Fast.te10110043849684766642, PySem.W.Fast.te14364793385576792824]
  kernel_rfl
noncomputable def sb13 : List Stmt := (bE.drop 40).take 3
theorem sg13 (w : World) : (fun os => segRunT treeTable pW w 11 (some (.ref 6)) 1 74 (SS (tree537 w.params) 471 878 os) (piecesOf sb13 evE cB ⟨226, 0, 345, 111⟩ tF)) = fun os => some (.next, (SS (tree553 w.params) 485 900 os), cB, ⟨352, 0, 360, 30⟩) := by
  rewrite [PySem.W.Fast.te10110043849684766642, PySem.W.Fast.te14364793385576792824]
  kernel_rfl
noncomputable def sb14 : List Stmt := (bE.drop 43).take 1
theorem sg14 (w : World) : (fun os => segRunT treeTable pW w 11 (some (.ref 6)) 1 394 (SS (tree553 w.params) 485 900 os) (piecesOf sb14 evE cB ⟨352, 0, 360, 30⟩ tF)) = fun os => some (.next, (SS (tree611 w.params) 541 980 os), cB, ⟨361, 0, 391, 17⟩) := by
  rewrite [PySem.W.Fast.te10110043849684766642, PySem.W.Fast.te14364793385576792824]
  kernel_rfl
noncomputable def sb15 : List Stmt := (bE.drop 44).take 2
theorem sg15 (w : World) : (fun os => segRunT treeTable pW w 11 (some (.ref 6)) 1 68 (SS (tree611 w.params) 541 980 os) (piecesOf sb15 evE cB ⟨361, 0, 391, 17⟩ tF)) = fun os => some (.next, (SS (tree627 w.params) 555 1003 os), cB, ⟨398, 0, 413, 24⟩) := by
  rewrite [PySem.W.Fast.te10110043849684766642, PySem.W.Fast.te14364793385576792824]
  kernel_rfl
noncomputable def sb16 : List Stmt := (bE.drop 46).take 1
theorem sg16 (w : World) : (fun os => segRunT treeTable pW w 11 (some (.ref 6)) 1 408 (SS (tree627 w.params) 555 1003 os) (piecesOf sb16 evE cB ⟨398, 0, 413, 24⟩ tF)) = fun os => some (.next, (SS (tree685 w.params) 611 1097 os), cB, ⟨414, 0, 470, 56⟩) := by
  rewrite [PySem.W.Fast.te10110043849684766642, PySem.W.Fast.te14364793385576792824]
  kernel_rfl
noncomputable def sb17 : List Stmt := (bE.drop 47).take 8
theorem sg17 (w : World) : (fun os => segRunT treeTable pW w 11 (some (.ref 6)) 1 211 (SS (tree685 w.params) 611 1097 os) (piecesOf sb17 evE cB ⟨414, 0, 470, 56⟩ tF)) = fun os => some (.next, (SS (tree730 w.params) 654 1152 os), cB, ⟨500, 0, 580, 80⟩) := by
  rewrite [PySem.W.Fast.te10110043849684766642, PySem.W.Fast.te14364793385576792824]
  kernel_rfl
noncomputable def KM (P : Params) : Frag := (nat_lit 2, o49 P) :: (nat_lit 3, o686 P) :: (nat_lit 15, o52 P) :: (nat_lit 17, o54 P) :: (nat_lit 18, o55 P) :: (nat_lit 20, o57 P) :: (nat_lit 21, o58 P) :: (nat_lit 22, o59 P) :: (nat_lit 29, o66 P) :: (nat_lit 30, o67 P) :: (nat_lit 31, o74 P) :: (nat_lit 32, o69 P) :: (nat_lit 35, o75 P) :: (nat_lit 42, o82 P) :: (nat_lit 43, o83 P) :: (nat_lit 44, o119 P) :: (nat_lit 47, o90 P) :: (nat_lit 54, o97 P) :: (nat_lit 55, o98 P) :: (nat_lit 56, o104 P) :: (nat_lit 59, o105 P) :: (nat_lit 66, o112 P) :: (nat_lit 67, o113 P) :: (nat_lit 68, o114 P) :: (nat_lit 71, o120 P) :: (nat_lit 78, o127 P) :: (nat_lit 79, o128 P) :: (nat_lit 80, o129 P) :: (nat_lit 83, o132 P) :: (nat_lit 85, o134 P) :: (nat_lit 86, o135 P) :: (nat_lit 88, o137 P) :: (nat_lit 89, o138 P) :: (nat_lit 90, o139 P) :: (nat_lit 92, o141 P) :: (nat_lit 93, o142 P) :: (nat_lit 95, o144 P) :: (nat_lit 96, o145 P) :: (nat_lit 97, o146 P) :: (nat_lit 99, o148 P) :: (nat_lit 100, o149 P) :: (nat_lit 102, o151 P) :: (nat_lit 103, o152 P) :: (nat_lit 104, o153 P) :: (nat_lit 106, o155 P) :: (nat_lit 107, o156 P) :: (nat_lit 109, o158 P) :: (nat_lit 110, o159 P) :: (nat_lit 111, o162 P) :: (nat_lit 113, o164 P) :: (nat_lit 114, o165 P) :: (nat_lit 116, o167 P) :: (nat_lit 117, o168 P) :: (nat_lit 118, o169 P) :: (nat_lit 120, o171 P) :: (nat_lit 121, o172 P) :: (nat_lit 123, o174 P) :: (nat_lit 124, o175 P) :: (nat_lit 125, o176 P) :: (nat_lit 127, o178 P) :: (nat_lit 128, o179 P) :: (nat_lit 130, o181 P) :: (nat_lit 131, o182 P) :: (nat_lit 132, o183 P) :: (nat_lit 134, o185 P) :: (nat_lit 135, o186 P) :: (nat_lit 137, o188 P) :: (nat_lit 138, o189 P) :: (nat_lit 139, o190 P) :: (nat_lit 141, o192 P) :: (nat_lit 142, o193 P) :: (nat_lit 144, o195 P) :: (nat_lit 145, o196 P) :: (nat_lit 153, o206 P) :: (nat_lit 155, o208 P) :: (nat_lit 156, o209 P) :: (nat_lit 158, o211 P) :: (nat_lit 159, o212 P) :: (nat_lit 160, o213 P) :: (nat_lit 162, o215 P) :: (nat_lit 163, o216 P) :: (nat_lit 165, o218 P) :: (nat_lit 166, o219 P) :: (nat_lit 167, o220 P) :: (nat_lit 169, o222 P) :: (nat_lit 170, o223 P) :: (nat_lit 172, o225 P) :: (nat_lit 173, o226 P) :: (nat_lit 174, o227 P) :: (nat_lit 176, o229 P) :: (nat_lit 177, o230 P) :: (nat_lit 179, o232 P) :: (nat_lit 180, o233 P) :: (nat_lit 181, o234 P) :: (nat_lit 182, o235 P) :: (nat_lit 183, o279 P) :: (nat_lit 184, o237 P) :: (nat_lit 185, o238 P) :: (nat_lit 188, o244 P) :: (nat_lit 195, o251 P) :: (nat_lit 197, o253 P) :: (nat_lit 198, o254 P) :: (nat_lit 200, o256 P) :: (nat_lit 201, o257 P) :: (nat_lit 202, o258 P) :: (nat_lit 204, o260 P) :: (nat_lit 205, o261 P) :: (nat_lit 207, o263 P) :: (nat_lit 208, o264 P) :: (nat_lit 209, o265 P) :: (nat_lit 211, o267 P) :: (nat_lit 212, o268 P) :: (nat_lit 214, o270 P) :: (nat_lit 215, o271 P) :: (nat_lit 216, o272 P) :: (nat_lit 217, o273 P) :: (nat_lit 218, o274 P) :: (nat_lit 221, o280 P) :: (nat_lit 228, o287 P) :: (nat_lit 230, o289 P) :: (nat_lit 231, o290 P) :: (nat_lit 233, o292 P) :: (nat_lit 234, o293 P) :: (nat_lit 235, o294 P) :: (nat_lit 237, o296 P) :: (nat_lit 238, o297 P) :: (nat_lit 240, o299 P) :: (nat_lit 241, o300 P) :: (nat_lit 242, o301 P) :: (nat_lit 244, o303 P) :: (nat_lit 245, o304 P) :: (nat_lit 247, o306 P) :: (nat_lit 248, o307 P) :: (nat_lit 249, o308 P) :: (nat_lit 251, o310 P) :: (nat_lit 252, o311 P) :: (nat_lit 254, o313 P) :: (nat_lit 255, o314 P) :: (nat_lit 256, o315 P) :: (nat_lit 258, o317 P) :: (nat_lit 259, o318 P) :: (nat_lit 261, o320 P) :: (nat_lit 262, o321 P) :: (nat_lit 263, o322 P) :: (nat_lit 265, o324 P) :: (nat_lit 266, o325 P) :: (nat_lit 268, o327 P) :: (nat_lit 269, o328 P) :: (nat_lit 270, o329 P) :: (nat_lit 271, o330 P) :: (nat_lit 272, o331 P) :: (nat_lit 282, o343 P) :: (nat_lit 284, o345 P) :: (nat_lit 285, o346 P) :: (nat_lit 287, o348 P) :: (nat_lit 288, o349 P) :: (nat_lit 289, o350 P) :: (nat_lit 291, o352 P) :: (nat_lit 292, o353 P) :: (nat_lit 294, o355 P) :: (nat_lit 295, o356 P) :: (nat_lit 296, o357 P) :: (nat_lit 298, o359 P) :: (nat_lit 299, o360 P) :: (nat_lit 301, o362 P) :: (nat_lit 302, o363 P) :: (nat_lit 303, o364 P) :: (nat_lit 304, o365 P) :: (nat_lit 305, o366 P) :: (nat_lit 306, o367 P) :: (nat_lit 307, o368 P) :: (nat_lit 310, o371 P) :: (nat_lit 312, o373 P) :: (nat_lit 313, o374 P) :: (nat_lit 315, o376 P) :: (nat_lit 316, o377 P) :: (nat_lit 324, o387 P) :: (nat_lit 326, o389 P) :: (nat_lit 327, o390 P) :: (nat_lit 329, o392 P) :: (nat_lit 330, o393 P) :: (nat_lit 331, o394 P) :: (nat_lit 333, o396 P) :: (nat_lit 334, o397 P) :: (nat_lit 336, o399 P) :: (nat_lit 337, o400 P) :: (nat_lit 338, o401 P) :: (nat_lit 339, o402 P) :: (nat_lit 340, o403 P) :: (nat_lit 341, o404 P) :: (nat_lit 342, o405 P) :: (nat_lit 352, o417 P) :: (nat_lit 354, o419 P) :: (nat_lit 355, o420 P) :: (nat_lit 357, o422 P) :: (nat_lit 358, o423 P) :: (nat_lit 359, o424 P) :: (nat_lit 361, o426 P) :: (nat_lit 362, o427 P) :: (nat_lit 364, o429 P) :: (nat_lit 365, o430 P) :: (nat_lit 366, o431 P) :: (nat_lit 368, o433 P) :: (nat_lit 369, o434 P) :: (nat_lit 371, o436 P) :: (nat_lit 372, o437 P) :: (nat_lit 373, o438 P) :: (nat_lit 374, o439 P) :: (nat_lit 375, o440 P) :: (nat_lit 376, o441 P) :: (nat_lit 377, o442 P) :: (nat_lit 380, o445 P) :: (nat_lit 382, o447 P) :: (nat_lit 383, o448 P) :: (nat_lit 385, o450 P) :: (nat_lit 386, o451 P) :: (nat_lit 394, o461 P) :: (nat_lit 396, o463 P) :: (nat_lit 397, o464 P) :: (nat_lit 399, o466 P) :: (nat_lit 400, o467 P) :: (nat_lit 401, o468 P) :: (nat_lit 403, o470 P) :: (nat_lit 404, o471 P) :: (nat_lit 406, o473 P) :: (nat_lit 407, o474 P) :: (nat_lit 408, o475 P) :: (nat_lit 410, o477 P) :: (nat_lit 411, o478 P) :: (nat_lit 413, o480 P) :: (nat_lit 414, o481 P) :: (nat_lit 415, o482 P) :: (nat_lit 417, o484 P) :: (nat_lit 418, o485 P) :: (nat_lit 420, o487 P) :: (nat_lit 421, o488 P) :: (nat_lit 422, o489 P) :: (nat_lit 424, o491 P) :: (nat_lit 425, o492 P) :: (nat_lit 427, o494 P) :: (nat_lit 428, o495 P) :: (nat_lit 429, o496 P) :: (nat_lit 431, o498 P) :: (nat_lit 432, o499 P) :: (nat_lit 434, o501 P) :: (nat_lit 435, o502 P) :: (nat_lit 436, o503 P) :: (nat_lit 438, o505 P) :: (nat_lit 439, o506 P) :: (nat_lit 441, o508 P) :: (nat_lit 442, o509 P) :: (nat_lit 443, o510 P) :: (nat_lit 445, o512 P) :: (nat_lit 446, o513 P) :: (nat_lit 448, o515 P) :: (nat_lit 449, o516 P) :: (nat_lit 450, o517 P) :: (nat_lit 452, o519 P) :: (nat_lit 453, o520 P) :: (nat_lit 455, o522 P) :: (nat_lit 456, o523 P) :: (nat_lit 457, o524 P) :: (nat_lit 459, o526 P) :: (nat_lit 460, o527 P) :: (nat_lit 462, o529 P) :: (nat_lit 463, o530 P) :: (nat_lit 464, o531 P) :: (nat_lit 465, o532 P) :: (nat_lit 466, o533 P) :: (nat_lit 467, o534 P) :: (nat_lit 468, o535 P) :: (nat_lit 471, o540 P) :: (nat_lit 473, o542 P) :: (nat_lit 474, o543 P) :: (nat_lit 476, o545 P) :: (nat_lit 477, o546 P) :: (nat_lit 478, o547 P) :: (nat_lit 480, o549 P) :: (nat_lit 481, o550 P) :: (nat_lit 483, o552 P) :: (nat_lit 484, o553 P) :: (nat_lit 492, o563 P) :: (nat_lit 494, o565 P) :: (nat_lit 495, o566 P) :: (nat_lit 497, o568 P) :: (nat_lit 498, o569 P) :: (nat_lit 499, o570 P) :: (nat_lit 501, o572 P) :: (nat_lit 502, o573 P) :: (nat_lit 504, o575 P) :: (nat_lit 505, o576 P) :: (nat_lit 506, o577 P) :: (nat_lit 508, o579 P) :: (nat_lit 509, o580 P) :: (nat_lit 511, o582 P) :: (nat_lit 512, o583 P) :: (nat_lit 513, o584 P) :: (nat_lit 515, o586 P) :: (nat_lit 516, o587 P) :: (nat_lit 518, o589 P) :: (nat_lit 519, o590 P) :: (nat_lit 520, o591 P) :: (nat_lit 522, o593 P) :: (nat_lit 523, o594 P) :: (nat_lit 525, o596 P) :: (nat_lit 526, o597 P) :: (nat_lit 527, o598 P) :: (nat_lit 529, o600 P) :: (nat_lit 530, o601 P) :: (nat_lit 532, o603 P) :: (nat_lit 533, o604 P) :: (nat_lit 534, o605 P) :: (nat_lit 535, o606 P) :: (nat_lit 536, o607 P) :: (nat_lit 537, o608 P) :: (nat_lit 538, o609 P) :: (nat_lit 541, o614 P) :: (nat_lit 543, o616 P) :: (nat_lit 544, o617 P) :: (nat_lit 546, o619 P) :: (nat_lit 547, o620 P) :: (nat_lit 548, o621 P) :: (nat_lit 550, o623 P) :: (nat_lit 551, o624 P) :: (nat_lit 553, o626 P) :: (nat_lit 554, o627 P) :: (nat_lit 562, o637 P) :: (nat_lit 564, o639 P) :: (nat_lit 565, o640 P) :: (nat_lit 567, o642 P) :: (nat_lit 568, o643 P) :: (nat_lit 569, o644 P) :: (nat_lit 571, o646 P) :: (nat_lit 572, o647 P) :: (nat_lit 574, o649 P) :: (nat_lit 575, o650 P) :: (nat_lit 576, o651 P) :: (nat_lit 578, o653 P) :: (nat_lit 579, o654 P) :: (nat_lit 581, o656 P) :: (nat_lit 582, o657 P) :: (nat_lit 583, o658 P) :: (nat_lit 585, o660 P) :: (nat_lit 586, o661 P) :: (nat_lit 588, o663 P) :: (nat_lit 589, o664 P) :: (nat_lit 590, o665 P) :: (nat_lit 592, o667 P) :: (nat_lit 593, o668 P) :: (nat_lit 595, o670 P) :: (nat_lit 596, o671 P) :: (nat_lit 597, o672 P) :: (nat_lit 599, o674 P) :: (nat_lit 600, o675 P) :: (nat_lit 602, o677 P) :: (nat_lit 603, o678 P) :: (nat_lit 604, o679 P) :: (nat_lit 605, o680 P) :: (nat_lit 606, o681 P) :: (nat_lit 607, o682 P) :: (nat_lit 608, o683 P) :: (nat_lit 611, o688 P) :: (nat_lit 613, o690 P) :: (nat_lit 614, o691 P) :: (nat_lit 616, o693 P) :: (nat_lit 617, o694 P) :: (nat_lit 618, o695 P) :: (nat_lit 620, o697 P) :: (nat_lit 621, o698 P) :: (nat_lit 623, o700 P) :: (nat_lit 624, o701 P) :: (nat_lit 625, o702 P) :: (nat_lit 627, o704 P) :: (nat_lit 628, o705 P) :: (nat_lit 630, o707 P) :: (nat_lit 631, o708 P) :: (nat_lit 632, o709 P) :: (nat_lit 635, o712 P) :: (nat_lit 636, o713 P) :: (nat_lit 637, o714 P) :: (nat_lit 639, o716 P) :: (nat_lit 640, o717 P) :: (nat_lit 642, o719 P) :: (nat_lit 643, o720 P) :: (nat_lit 644, o721 P) :: (nat_lit 647, o724 P) :: (nat_lit 648, o725 P) :: (nat_lit 649, o726 P) :: (nat_lit 652, o729 P) :: (nat_lit 653, o730 P) :: []
noncomputable def aK : List Addr := [2, 3, 15, 17, 18, 20, 21, 22, 29, 30, 31, 32, 35, 42, 43, 44, 47, 54, 55, 56, 59, 66, 67, 68, 71, 78, 79, 80, 83, 85, 86, 88, 89, 90, 92, 93, 95, 96, 97, 99, 100, 102, 103, 104, 106, 107, 109, 110, 111, 113, 114, 116, 117, 118, 120, 121, 123, 124, 125, 127, 128, 130, 131, 132, 134, 135, 137, 138, 139, 141, 142, 144, 145, 153, 155, 156, 158, 159, 160, 162, 163, 165, 166, 167, 169, 170, 172, 173, 174, 176, 177, 179, 180, 181, 182, 183, 184, 185, 188, 195, 197, 198, 200, 201, 202, 204, 205, 207, 208, 209, 211, 212, 214, 215, 216, 217, 218, 221, 228, 230, 231, 233, 234, 235, 237, 238, 240, 241, 242, 244, 245, 247, 248, 249, 251, 252, 254, 255, 256, 258, 259, 261, 262, 263, 265, 266, 268, 269, 270, 271, 272, 282, 284, 285, 287, 288, 289, 291, 292, 294, 295, 296, 298, 299, 301, 302, 303, 304, 305, 306, 307, 310, 312, 313, 315, 316, 324, 326, 327, 329, 330, 331, 333, 334, 336, 337, 338, 339, 340, 341, 342, 352, 354, 355, 357, 358, 359, 361, 362, 364, 365, 366, 368, 369, 371, 372, 373, 374, 375, 376, 377, 380, 382, 383, 385, 386, 394, 396, 397, 399, 400, 401, 403, 404, 406, 407, 408, 410, 411, 413, 414, 415, 417, 418, 420, 421, 422, 424, 425, 427, 428, 429, 431, 432, 434, 435, 436, 438, 439, 441, 442, 443, 445, 446, 448, 449, 450, 452, 453, 455, 456, 457, 459, 460, 462, 463, 464, 465, 466, 467, 468, 471, 473, 474, 476, 477, 478, 480, 481, 483, 484, 492, 494, 495, 497, 498, 499, 501, 502, 504, 505, 506, 508, 509, 511, 512, 513, 515, 516, 518, 519, 520, 522, 523, 525, 526, 527, 529, 530, 532, 533, 534, 535, 536, 537, 538, 541, 543, 544, 546, 547, 548, 550, 551, 553, 554, 562, 564, 565, 567, 568, 569, 571, 572, 574, 575, 576, 578, 579, 581, 582, 583, 585, 586, 588, 589, 590, 592, 593, 595, 596, 597, 599, 600, 602, 603, 604, 605, 606, 607, 608, 611, 613, 614, 616, 617, 618, 620, 621, 623, 624, 625, 627, 628, 630, 631, 632, 635, 636, 637, 639, 640, 642, 643, 644, 647, 648, 649, 652, 653]
noncomputable def VW : Program := { pW with main := { pW.main with body := [0, 2, 3, 4, 5, 6, 8, 9, 10, 11, 12, 13, 14, 15, 17, 18, 19, 20, 21, 22, 23, 24, 25, 26, 27, 28, 29, 30, 31, 32, 33, 34, 36, 37, 38, 39, 41, 42, 43, 44, 45, 46, 48, 49, 50, 51, 52, 53, 54].filterMap fun i => pW.main.body[i]? } }
noncomputable abbrev hS (w : World) (os : OsState) : Shared := { heap := heap731 w.params, gens := Array.mk [], drawn := {}, toks := 1152, os := os }
noncomputable abbrev hB (w : World) (os : OsState) : Shared := { heap := boot_heap w.params, gens := Array.mk [], drawn := boot_drawn, toks := boot_toks, os := os }
noncomputable abbrev hC (w : World) (os : OsState) : Shared := { heap := heap46 w.params, gens := Array.mk [], drawn := {}, toks := 187, os := os }
theorem hpre (w : World) : (fun os => topGo treeTable pW w 11 (some (.ref 6)) 12 (hB w os) (topStub pW)) = fun os => some (hC w os, { cur := denote treeTable cB, code := cB, pos := ⟨0, 0, 0, 0⟩, stack := tF }) := by
  rewrite [PySem.W.Fast.te15667345088766844465, PySem.W.Fast.te14364793385576792824, PySem.W.Fast.te11892475500146522536]
  kernel_rfl
theorem hblk (w : World) : (fun os => segRun treeTable pW w 11 (some (.ref 6)) 1 1 (hC w os) (blockOf bE evE cB ⟨0, 0, 0, 0⟩ tF)) = fun os => some (.next, (SS (tree47 w.params) 15 187 os).abs, cB, ⟨0, 0, 0, 0⟩) := by
  rewrite [PySem.W.Fast.te14374325043358763698, PySem.W.Fast.te14364793385576792824]
  kernel_rfl
theorem hfin (w : World) : (fun os => topRun treeTable pW w 11 (some (.ref 6)) 2 (SS (tree730 w.params) 654 1152 os).abs { cur := doneF .next, code := cB, pos := ⟨500, 0, 580, 80⟩, stack := tF }) = fun os => some (hS w os) := by
  rewrite [PySem.W.Fast.te14082659384304107361, PySem.W.Fast.te14364793385576792824]
  kernel_rfl
theorem hsize (w : World) : ((boot_heap w.params).isNs mainGlobals && (Array.mk [] : Array GenState).size == 0, (boot_heap w.params).objs.size, (boot_heap w.params).nsMap mainGlobals "__annotations__") = (true, 11, some (.ref 6)) := by
  rewrite [PySem.W.Fast.te8920871248978507458]
  kernel_rfl
theorem hsplit : sb0 ++ (sb1 ++ (sb2 ++ (sb3 ++ (sb4 ++ (sb5 ++ (sb6 ++ (sb7 ++ (sb8 ++ (sb9 ++ (sb10 ++ (sb11 ++ (sb12 ++ (sb13 ++ (sb14 ++ (sb15 ++ (sb16 ++ (sb17 ++ []))))))))))))))))) = bE := by kernel_rfl
theorem hchain (w : World) (os : OsState) : topRun treeTable pW w 11 (some (.ref 6)) (235 + (214 + (228 + (242 + (400 + (224 + (319 + (309 + (411 + (350 + (260 + (328 + (561 + (74 + (394 + (68 + (408 + (211 + 2)))))))))))))))))) (SS (tree47 w.params) 15 187 os).abs (restOf (sb0 ++ (sb1 ++ (sb2 ++ (sb3 ++ (sb4 ++ (sb5 ++ (sb6 ++ (sb7 ++ (sb8 ++ (sb9 ++ (sb10 ++ (sb11 ++ (sb12 ++ (sb13 ++ (sb14 ++ (sb15 ++ (sb16 ++ (sb17 ++ [])))))))))))))))))) evE cB ⟨0, 0, 0, 0⟩ tF) = some (hS w os) :=
  (piece_app (segRun_of (congrFun (sg0 w) os)) (piece_app (segRun_of (congrFun (sg1 w) os)) (piece_app (segRun_of (congrFun (sg2 w) os)) (piece_app (segRun_of (congrFun (sg3 w) os)) (piece_app (segRun_of (congrFun (sg4 w) os)) (piece_app (segRun_of (congrFun (sg5 w) os)) (piece_app (segRun_of (congrFun (sg6 w) os)) (piece_app (segRun_of (congrFun (sg7 w) os)) (piece_app (segRun_of (congrFun (sg8 w) os)) (piece_app (segRun_of (congrFun (sg9 w) os)) (piece_app (segRun_of (congrFun (sg10 w) os)) (piece_app (segRun_of (congrFun (sg11 w) os)) (piece_app (segRun_of (congrFun (sg12 w) os)) (piece_app (segRun_of (congrFun (sg13 w) os)) (piece_app (segRun_of (congrFun (sg14 w) os)) (piece_app (segRun_of (congrFun (sg15 w) os)) (piece_app (segRun_of (congrFun (sg16 w) os)) (piece_app (segRun_of (congrFun (sg17 w) os)) (show topRun treeTable pW w 11 (some (.ref 6)) 2 (SS (tree730 w.params) 654 1152 os).abs (restOf [] evE cB ⟨500, 0, 580, 80⟩ tF) = some (hS w os) from congrFun (hfin w) os)))))))))))))))))))
theorem hrun (w : World) (os : OsState) : topRun treeTable pW w 11 (some (.ref 6)) (12 + (1 + (235 + (214 + (228 + (242 + (400 + (224 + (319 + (309 + (411 + (350 + (260 + (328 + (561 + (74 + (394 + (68 + (408 + (211 + 2)))))))))))))))))))) (hB w os) (topStub pW) = some (hS w os) :=
  go_top (congrFun (hpre w) os) (piece_block (congrFun (hblk w) os) (hsplit ▸ hchain w os))
theorem hopen (w : World) : (fencedOpening treeTable pW w 10562).map (fun s => (s.heap, s.gens, s.drawn, s.toks)) = some (boot_heap w.params, Array.mk [], boot_drawn, boot_toks) :=
  boot_open (p := pW) (N := 10562) (by kernel_rfl) (by kernel_rfl) (fun s => by kernel_rfl) w
theorem lk1 (w : World) : (fun os => staticsOk (importedModules pW.main.body) (boot_heap w.params) (heap731 w.params) && namesBound pW (heap731 w.params) && gensDone (hS w os) && laidKept (boot_heap w.params) (heap731 w.params)) = fun os => true := by
  rewrite [PySem.W.Fast.te5923862056798008813]
  kernel_rfl
theorem lk2 (w : World) : (fun os => seen (List.map (fun x => x.name) (recsOf VW)) (ownsOf VW) [] (hS w os)) = fun os => expectedOf VW := by
  rewrite [PySem.W.Fast.te5160383126252970620, PySem.W.R.mapR_eq, PySem.W.Fast.te3399658132070893891, PySem.W.Fast.te5991557255702980513]
  kernel_rfl
theorem lk3 (w : World) : (fun os => (hS w os).heap.bltView) = fun os => bltViewBooted := by kernel_rfl
theorem lk4 (w : World) : (fun os => (hS w os).heap.keysOk (looseW VW []) (List.map (fun x => x.name) (recsOf VW)) (List.map (fun x => x.fst) (litsOf VW)) (List.map (fun x => x.name) (clssOf VW (looseW VW []))) && (hS w os).heap.accountedOkI (importedModules pW.main.body) && (hS w os).heap.isNs mainGlobals && (hS w os).heap.isNs builtinsNs && tablesOk VW (hS w os).heap && (fun s => xlAt VW [] s && recOk PySem.Challenge.rw_nz0378_01.row.records s) (hS w os) && if true = true then (hS w os).gens.size == 0 else !leftWithCleanup (hS w os).gens) = fun os => true := by
  rewrite [PySem.W.Fast.te10880121769531294198, PySem.W.Fast.te821141287760084731, PySem.W.Fast.te3399658132070893891, PySem.W.Fast.te7409074990110511671, PySem.W.Fast.te13664370479719496447, PySem.W.Fast.te14722251495701143533, PySem.W.Fast.te5923862056798008813, PySem.W.Fast.te10994771534591457954]
  kernel_rfl
theorem lk5 (w : World) : (fun os => tabsOk VW (hS w os)) = fun os => true := by
  rewrite [PySem.W.Fast.te479339242167458305]
  kernel_rfl
theorem lk6 (w : World) : (fun os => pinSeenD VW (drecsOf VW) (hS w os)) = fun os => pinGoodD (drecsOf VW) := by
  rewrite [PySem.W.Fast.te16090120013241838585, PySem.W.Fast.te3247288618530077131]
  kernel_rfl
theorem lk7 (w : World) : (fun os => plainSeenE VW (looseW VW []) (hS w os)) = fun os => plainGoodE VW (looseW VW []) := by
  rewrite [PySem.W.Fast.te2386780881361962483, PySem.W.Fast.te821141287760084731]
  kernel_rfl
theorem lk8 (w : World) : (fun os => plainSeenD VW [] (hS w os)) = fun os => plainGoodD VW [] := by
  rewrite [PySem.W.Fast.te11698064438423848299]
  kernel_rfl
theorem lk9 (w : World) : (fun os => wideSeen VW (hS w os)) = fun os => wideGood VW := by
  rewrite [PySem.W.Fast.te7317090234206586261]
  kernel_rfl
theorem lk10 (w : World) : (fun os => clsSeenW VW [] (hS w os)) = fun os => clsGoodW VW [] := by
  rewrite [PySem.W.Fast.te7369524293546568484]
  kernel_rfl
theorem hKa (P : Params) : aK = (KM P).map (·.1) := by kernel_rfl
theorem lk11 (w : World) : (fun os => (kHook KM aK hKa).obs (hS w os)) = fun os => (kHook KM aK hKa).val w := by kernel_rfl
theorem said1 : namesResolve PySem.Challenge.rw_nz0378_01.row.prog = true := by
  rewrite [PySem.W.Fast.te8377067652309620493]
  kernel_rfl
theorem said2 : noRoadLSs { strict := !(importedModules PySem.Challenge.rw_nz0378_01.row.prog.main.body).all cThrough.contains, foot := none, bare := (["vars", "dir", "locals"] : List Str).filter (readsOut PySem.Challenge.rw_nz0378_01.row.prog PySem.Challenge.rw_nz0378_01.row.prog.main.body) } PySem.Challenge.rw_nz0378_01.row.prog.main.body = true := by
  rewrite [PySem.W.Fast.te8326940854005059898, PySem.W.Fast.te5923862056798008813, PySem.W.Fast.te13343964577679436407]
  kernel_rfl
theorem said3 : namesMeet PySem.Challenge.rw_nz0378_01.row.prog PySem.Challenge.rw_nz0378_01.row.prog.main.body (fun _ n => attrL n) = true := by
  rewrite [PySem.W.Fast.te17119622794617984870, PySem.W.Fast.te17868728402115742887]
  kernel_rfl
theorem said : PySem.Challenge.rw_nz0378_01.wellSaid = true := by
  unfold OpenLaw.wellSaid OpenRow.wellSaid OpenRow.partSaid looksOpen
  rewrite [said1, said2, said3, PySem.W.Fast.te17119622794617984870]
  kernel_rfl
noncomputable abbrev XT (s : Shared) : Bool := xlAt VW [] s && recOk PySem.Challenge.rw_nz0378_01.row.records s
theorem hos (w : World) (os : OsState) : openSeen VW [] (importedModules pW.main.body) XT true (hS w os) = openGood VW [] := by
  unfold openSeen openGood
  exact looks_pair (congrFun (lk2 w) os) (looks_pair (congrFun (lk3 w) os) (looks_pair (congrFun (lk4 w) os) (looks_pair (congrFun (lk5 w) os) (looks_pair (congrFun (lk6 w) os) (looks_pair (congrFun (lk7 w) os) (looks_pair (congrFun (lk8 w) os) (looks_pair (congrFun (lk9 w) os) (congrFun (lk10 w) os))))))))
theorem hleft : LeftO pW VW [] XT (kHook KM aK hKa).obs (kHook KM aK hKa).val 10562 true :=
  LeftO.of_pieces (H₀ := boot_heap) (H₁ := heap731) (gs₀ := Array.mk []) (gs₁ := Array.mk []) (d₀ := boot_drawn) (d₁ := {}) (k₀ := boot_toks) (k₁ := 1152) hopen hsize hrun (by kernel_rfl) fun w => funext fun os => looks_pair (congrFun (lk1 w) os) (looks_pair (hos w os) (congrFun (lk11 w) os))
-- keys
theorem reg2 : (PySem.Challenge.rw_nz0378_01 = PySem.Challenge.rw_nz0378_01) ∧ (KM = KM) := by k_fill; exact ⟨rfl, rfl⟩
local macro_rules | `(tactic| walk_at $s:str) => `(tactic| k_extra $s)
local macro_rules | `(tactic| k_ne) => `(tactic| k_extra "mine k_ne")
local macro_rules | `(tactic| k_room) => `(tactic| k_extra "mine k_room")
local macro_rules | `(tactic| k_units) => `(tactic| k_extra "mine k_units")
local macro_rules | `(tactic| k_mem) => `(tactic| k_extra "mine k_mem")
local macro_rules | `(tactic| k_all) => `(tactic| k_extra "mine k_all")
local macro_rules | `(tactic| k_enter) => `(tactic| k_extra "mine k_enter")
noncomputable abbrev P : PySem.Program := PySem.Challenge.pw_nz0378_01
theorem chkA : (chainsOk VW && opensWell PySem.Challenge.rw_nz0378_01.row.prog && (frees PySem.Challenge.rw_nz0378_01.row.toRowW && PySem.Challenge.rw_nz0378_01.row.within.isEmpty)) = true := by decide +kernel
theorem chkB : PySem.Challenge.rw_nz0378_01.row.prog.bare := ⟨rfl, rfl, rfl, rfl, rfl, by decide +kernel⟩

inductive CxB (A : Around) (h₀ : Heap) (L : Addr) : Prop
  | mk (A₀ : Around) (base : Heap) (env : Env) (outer : List Env) (b : Below A₀ base outer h₀) (f : A.frames = some (env :: outer)) (l : env.frame = some L) (k : env.scope.kind = .function)
inductive CxT (h₀ : Heap) : Prop
  | mk (loose : List Str) (mean : ExcName → Option Value) (mg mb : Str → Option Value) (t : Top VW loose mean mg mb h₀)
/-- the goal out of the way, while its facts are opened -/
theorem hideG {P : Prop} (h : ∀ G : Prop, (P → G) → G) : P := h P id
/-- the fields of the state that no step changes -/
noncomputable def StK (_ : Array GenState) (_ : Drawn) (_ : OsState) : Prop := True
theorem st_mark {α : Type} {M : Model} {A : Around} {t : Sem α} {Q : α → Shared → Prop} {E : Value → Shared → Prop} {s : Shared} (H : StK s.gens s.drawn s.os → wpAny M A t Q E s) : wpAny M A t Q E s := H trivial
section
variable {prog : Program} {w : World} {M : Model} {A : Around} {E : Value → Shared → Prop} {s : Shared} {h₀ h : Heap} {L a : Addr} {m : Str → Option Value} {ge : Array GenState} {dr : Drawn} {os : OsState} {tk : Nat}
theorem st_norm {α : Type} {t : Sem α} {Q : α → Shared → Prop} (F : Fr h₀ L h m) (K : StK ge dr os) (e1 : s.heap = h) (e2 : s.gens = ge) (e3 : s.drawn = dr) (e4 : s.os = os) (H : ∀ tk, wpAny M A t Q E ⟨h, ge, dr, tk, os⟩) : wpAny M A t Q E s := by
  subst e1 e2 e3 e4; exact H s.toks
variable {cn : Str} {cs : Scope} {ccd : Value} {cl : List (Str × Addr)} {x : Str} {v : Value} {Q : Unit → Shared → Prop} {news : List (Addr × Obj)}
theorem store_L (K : StK ge dr os) (hk : cs.kind = .function) (hx : (envX cn cs L a ccd cl).kindOf x = some .local) (F : Fr h₀ L h m) (N : News h₀ L h news) (e1 : s.heap = h) (e2 : s.gens = ge) (e3 : s.drawn = dr) (e4 : s.os = os)
    (H : ∀ h' tk, Fr h₀ L h' (fun y => if y = x then some v else m y) → News h₀ L h' news → Q () ⟨h', ge, dr, tk, os⟩) : wpAny M A (storeName (envX cn cs L a ccd cl) x v) Q E s := by
  subst e1 e2 e3 e4; exact storeX_L F N (fun h' F' N' => H h' _ F' N') hk hx
theorem store_Li {i : Int} {t₀ : Tok} (K : StK ge dr os) (hk : cs.kind = .function) (hx : (envX cn cs L a ccd cl).kindOf x = some .local) (F : Fr h₀ L h m) (N : News h₀ L h news) (e1 : s.heap = h) (e2 : s.gens = ge) (e3 : s.drawn = dr) (e4 : s.os = os)
    (H : ∀ h' tk t, Fr h₀ L h' (fun y => if y = x then some (.int i t) else m y) → News h₀ L h' news → Q () ⟨h', ge, dr, tk, os⟩) : wpAny M A (storeName (envX cn cs L a ccd cl) x (.int i t₀)) Q E s :=
  store_L K hk hx F N e1 e2 e3 e4 (fun h' tk => H h' tk t₀)
theorem store_Lb {b : Array UInt8} {t₀ : Tok} (K : StK ge dr os) (hk : cs.kind = .function) (hx : (envX cn cs L a ccd cl).kindOf x = some .local) (F : Fr h₀ L h m) (N : News h₀ L h news) (e1 : s.heap = h) (e2 : s.gens = ge) (e3 : s.drawn = dr) (e4 : s.os = os)
    (H : ∀ h' tk t, Fr h₀ L h' (fun y => if y = x then some (.bytes b t) else m y) → News h₀ L h' news → Q () ⟨h', ge, dr, tk, os⟩) : wpAny M A (storeName (envX cn cs L a ccd cl) x (.bytes b t₀)) Q E s :=
  store_L K hk hx F N e1 e2 e3 e4 (fun h' tk => H h' tk t₀)
end
section
variable {prog : Program} {w : World} {A : Around} {E : Value → Shared → Prop} {K : Frag} {x C dx L : Addr} {h₀ h : Heap} {m : Str → Option Value} {news news' : List (Addr × Obj)} {ox : Obj} {es es' : List DictEntry} {n n' : Nat} {name : Str} {v : Value} {ge : Array GenState} {dr : Drawn} {os : OsState} {tk : Nat}
theorem set_dictS {Q : Unit → Shared → Prop} (F : Fr h₀ L h m) (X₀ : K.In h₀) (N : News h₀ L h news) (I : InstAt h x ox C (some (dictOf es n))) (hd : ox.dict = some dx)
    (hs : findIn K (.ref C) "__setattr__" = some (some (.builtin "object.__setattr__"))) (hp : plainOver K C = true) (ht : takerIn K C name = some none) (hh : hasDictIn K C = true) (hl : (getL name es).isSome = true)
    (e : (putL name (PyData.keyHash w.params name) (.str name (tk + 1)) v es, putN name es n) = (es', n')) (U : Upd dx (dictOf es n) (dictOf es' n') news news') (hz : es'.length ≤ 1000)
    (H : ∀ h' tk, Fr h₀ L h' m → News h₀ L h' news' → Q () ⟨h', ge, dr, tk, os⟩) :
    wpAny (model prog w) A (setAttr (.ref x) name v) Q E ⟨h, ge, dr, tk, os⟩ :=
  set_dict (s := ⟨h, ge, dr, tk, os⟩) F X₀ N I hd hs hp ht hh hl e U hz fun h' F' N' => H h' _ F' N'
end
theorem rg02_0 : True := by
  k_with "storeName" => (k_dflt (first | (refine' store_Li (by assumption) (by exact rfl) (by exact rfl) (by k_asm) (by k_asm) (by exact rfl) (by exact rfl) (by exact rfl) (by exact rfl) ?_; k_whole; intro _ _ _ _ _; (try k_sweep)) | (refine' store_Lb (by assumption) (by exact rfl) (by exact rfl) (by k_asm) (by k_asm) (by exact rfl) (by exact rfl) (by exact rfl) (by exact rfl) ?_; k_whole; intro _ _ _ _ _; (try k_sweep)) | (refine' store_L (by assumption) (by exact rfl) (by exact rfl) (by k_asm) (by k_asm) (by exact rfl) (by exact rfl) (by exact rfl) (by exact rfl) ?_; k_whole; intro _ _ _ _; (try k_sweep))))
  k_with "mine norm" => ((refine' st_norm (by k_asm) (by assumption) (by exact rfl) (by exact rfl) (by exact rfl) (by exact rfl) ?_; k_whole; intro _))
  k_with "setAttr ref" => (k_dflt (walk_at "mine norm"; refine' set_dictS (by k_asm) (by k_asm) (by k_asm) (by k_inst) (by exact rfl) (by k_is) (by k_is) (by k_is) (by k_is) (by k_get) (by k_put) (by k_upd) (by exact Nat.le_of_ble_eq_true rfl) ?_; k_whole; intro _ _ _ _; (try k_sweep)))
  exact trivial
/-- what a frame stands on -/
structure Cx (w : World) (A : Around) (h₀ : Heap) (L : Addr) (h : Heap) (m : Str → Option Value) (news : List (Addr × Obj)) : Prop where
  B : CxB A h₀ L
  F : Fr h₀ L h m
  X : (KM w.params).In h₀
  N : News h₀ L h news
  T : CxT h₀
  hh : A.handled = none

theorem rm0 {d n : Nat} (h : d + n < 1000) : d < 1000 := by omega
theorem rm1 {d a n : Nat} (h : d + n < 1000) (k : Nat.ble a n = true) : d + a < 1000 := by have := Nat.le_of_ble_eq_true k; omega
theorem rm2 {d a b n : Nat} (h : d + n < 1000) (k : Nat.ble (a + b) n = true) : d + a + b < 1000 := by have := Nat.le_of_ble_eq_true k; omega
theorem rm3 {d a b c n : Nat} (h : d + n < 1000) (k : Nat.ble (a + b + c) n = true) : d + a + b + c < 1000 := by have := Nat.le_of_ble_eq_true k; omega
theorem rm4 {d a b c e n : Nat} (h : d + n < 1000) (k : Nat.ble (a + b + c + e) n = true) : d + a + b + c + e < 1000 := by have := Nat.le_of_ble_eq_true k; omega
theorem pk1 {p q : Prop} (h : p ∧ q) : p := h.1
theorem pk2 {a p q : Prop} (h : a ∧ p ∧ q) : p := h.2.1
theorem pk3 {a b p q : Prop} (h : a ∧ b ∧ p ∧ q) : p := h.2.2.1
theorem pk4 {a b c p q : Prop} (h : a ∧ b ∧ c ∧ p ∧ q) : p := h.2.2.2.1
theorem pk5 {a b c d p q : Prop} (h : a ∧ b ∧ c ∧ d ∧ p ∧ q) : p := h.2.2.2.2.1
theorem pk6 {a b c d e p q : Prop} (h : a ∧ b ∧ c ∧ d ∧ e ∧ p ∧ q) : p := h.2.2.2.2.2.1
theorem pk7 {a b c d e f p q : Prop} (h : a ∧ b ∧ c ∧ d ∧ e ∧ f ∧ p ∧ q) : p := h.2.2.2.2.2.2.1
theorem pk8 {a b c d e f g p q : Prop} (h : a ∧ b ∧ c ∧ d ∧ e ∧ f ∧ g ∧ p ∧ q) : p := h.2.2.2.2.2.2.2.1
theorem pl1 {a p : Prop} (h : a ∧ p) : p := h.2
theorem pl2 {a b p : Prop} (h : a ∧ b ∧ p) : p := h.2.2
theorem pl3 {a b c p : Prop} (h : a ∧ b ∧ c ∧ p) : p := h.2.2.2
theorem pl4 {a b c d p : Prop} (h : a ∧ b ∧ c ∧ d ∧ p) : p := h.2.2.2.2
theorem pl5 {a b c d e p : Prop} (h : a ∧ b ∧ c ∧ d ∧ e ∧ p) : p := h.2.2.2.2.2
theorem pl6 {a b c d e f p : Prop} (h : a ∧ b ∧ c ∧ d ∧ e ∧ f ∧ p) : p := h.2.2.2.2.2.2
/-- a fact that omega is not to see -/
noncomputable def Hid (p : Prop) : Prop := p
theorem hid {p : Prop} (h : p) : Hid p := h
/-- two addresses that differ; omega does not see it -/
noncomputable def NeA (a b : Nat) : Prop := a ≠ b
theorem neA {a b : Nat} (h : NeA a b) : a ≠ b := h
theorem neB {a b : Nat} (h : NeA b a) : a ≠ b := Ne.symm h
theorem pl7 {a b c d e f g P : Prop} (h : a ∧ b ∧ c ∧ d ∧ e ∧ f ∧ g ∧ P) : P := h.2.2.2.2.2.2.2
theorem pl8 {a b c d e f g i P : Prop} (h : a ∧ b ∧ c ∧ d ∧ e ∧ f ∧ g ∧ i ∧ P) : P := h.2.2.2.2.2.2.2.2
theorem pl9 {a b c d e f g i j P : Prop} (h : a ∧ b ∧ c ∧ d ∧ e ∧ f ∧ g ∧ i ∧ j ∧ P) : P := h.2.2.2.2.2.2.2.2.2
theorem pl10 {a b c d e f g i j k P : Prop} (h : a ∧ b ∧ c ∧ d ∧ e ∧ f ∧ g ∧ i ∧ j ∧ k ∧ P) : P := h.2.2.2.2.2.2.2.2.2.2
theorem pl11 {a b c d e f g i j k l P : Prop} (h : a ∧ b ∧ c ∧ d ∧ e ∧ f ∧ g ∧ i ∧ j ∧ k ∧ l ∧ P) : P := h.2.2.2.2.2.2.2.2.2.2.2
theorem pl12 {a b c d e f g i j k l o P : Prop} (h : a ∧ b ∧ c ∧ d ∧ e ∧ f ∧ g ∧ i ∧ j ∧ k ∧ l ∧ o ∧ P) : P := h.2.2.2.2.2.2.2.2.2.2.2.2
theorem pl13 {a b c d e f g i j k l o p P : Prop} (h : a ∧ b ∧ c ∧ d ∧ e ∧ f ∧ g ∧ i ∧ j ∧ k ∧ l ∧ o ∧ p ∧ P) : P := h.2.2.2.2.2.2.2.2.2.2.2.2.2
theorem pl14 {a b c d e f g i j k l o p r P : Prop} (h : a ∧ b ∧ c ∧ d ∧ e ∧ f ∧ g ∧ i ∧ j ∧ k ∧ l ∧ o ∧ p ∧ r ∧ P) : P := h.2.2.2.2.2.2.2.2.2.2.2.2.2.2
theorem nl0 {D d' : Nat} (h2 : d' < D) : D ≠ d' := Nat.ne_of_gt h2
theorem ngh {D t a : Nat} {q : Prop} (h : a < D ∧ q) (k : a < D ∧ q → t < D) : D ≠ t := Nat.ne_of_gt (k h)
theorem nxh {D d' t a : Nat} {q : Prop} (h2 : d' < D) (h : a < d' ∧ q) (k : a < d' ∧ q → t < d') : D ≠ t := Nat.ne_of_gt (Nat.lt_trans (k h) h2)
theorem pk9 {a b c d e f g i p q : Prop} (h : a ∧ b ∧ c ∧ d ∧ e ∧ f ∧ g ∧ i ∧ p ∧ q) : p := h.2.2.2.2.2.2.2.2.1
theorem pk10 {a b c d e f g i j p q : Prop} (h : a ∧ b ∧ c ∧ d ∧ e ∧ f ∧ g ∧ i ∧ j ∧ p ∧ q) : p := h.2.2.2.2.2.2.2.2.2.1
theorem pk11 {a b c d e f g i j k p q : Prop} (h : a ∧ b ∧ c ∧ d ∧ e ∧ f ∧ g ∧ i ∧ j ∧ k ∧ p ∧ q) : p := h.2.2.2.2.2.2.2.2.2.2.1
theorem pk12 {a b c d e f g i j k l p q : Prop} (h : a ∧ b ∧ c ∧ d ∧ e ∧ f ∧ g ∧ i ∧ j ∧ k ∧ l ∧ p ∧ q) : p := h.2.2.2.2.2.2.2.2.2.2.2.1
theorem pk13 {a b c d e f g i j k l m p q : Prop} (h : a ∧ b ∧ c ∧ d ∧ e ∧ f ∧ g ∧ i ∧ j ∧ k ∧ l ∧ m ∧ p ∧ q) : p := h.2.2.2.2.2.2.2.2.2.2.2.2.1
theorem pk14 {a b c d e f g i j k l m n p q : Prop} (h : a ∧ b ∧ c ∧ d ∧ e ∧ f ∧ g ∧ i ∧ j ∧ k ∧ l ∧ m ∧ n ∧ p ∧ q) : p := h.2.2.2.2.2.2.2.2.2.2.2.2.2.1
theorem pk15 {a b c d e f g i j k l m n o p q : Prop} (h : a ∧ b ∧ c ∧ d ∧ e ∧ f ∧ g ∧ i ∧ j ∧ k ∧ l ∧ m ∧ n ∧ o ∧ p ∧ q) : p := h.2.2.2.2.2.2.2.2.2.2.2.2.2.2.1
theorem pk16 {a b c d e f g i j k l m n o r p q : Prop} (h : a ∧ b ∧ c ∧ d ∧ e ∧ f ∧ g ∧ i ∧ j ∧ k ∧ l ∧ m ∧ n ∧ o ∧ r ∧ p ∧ q) : p := h.2.2.2.2.2.2.2.2.2.2.2.2.2.2.2.1
theorem rg02_1 : True := by
  k_with "mine pick" => ((with_reducible (first | exact pk1 | exact pk2 | exact pk3 | exact pk4 | exact pk5 | exact pk6 | exact pk7 | exact pk8 | exact pk9 | exact pk10 | exact pk11 | exact pk12 | exact pk13 | exact pk14 | exact pk15 | exact pk16)))
  k_with "mine ne1" => ((first | with_reducible exact nl0 (by assumption) | (with_reducible refine ngh (by assumption) ?_; walk_at "mine pick") | (with_reducible refine nxh (by assumption) (by assumption) ?_; walk_at "mine pick")))
  k_with "mine ne" => ((first | with_reducible (first | exact neA (by assumption) | exact neB (by assumption) | assumption) | walk_at "mine ne1" | (refine Ne.symm ?_; first | walk_at "mine ne1" | with_reducible assumption)))
  k_with "mine al" => ((with_reducible (first | assumption | exact pl1 (by assumption) | exact pl2 (by assumption) | exact pl3 (by assumption) | exact pl4 (by assumption) | exact pl5 (by assumption) | exact pl6 (by assumption) | exact pl7 (by assumption) | exact pl8 (by assumption) | exact pl9 (by assumption) | exact pl10 (by assumption) | exact pl11 (by assumption) | exact pl12 (by assumption) | exact pl13 (by assumption) | exact pl14 (by assumption))))
  k_with "mine rm" => ((with_reducible (first | exact rm1 (by assumption) (by decide) | exact rm2 (by assumption) (by decide) | exact rm3 (by assumption) (by decide) | exact rm4 (by assumption) (by decide) | exact rm0 (by assumption))))
  exact trivial
section
variable {i j n x y M N : Nat} {a b c k l : Int}
theorem oa1 : (0 + (i : Int)).toNat = i := by rw [Int.zero_add]; rfl
theorem oa2 : (0 : Int) ≤ 0 + (i : Int) := by rw [Int.zero_add]; exact Int.natCast_nonneg i
theorem oa3 : (a - 0).toNat = a.toNat := by rw [Int.sub_zero]
theorem oa4 : ((n : Int) - 0).toNat = n := by rw [Int.sub_zero]; rfl
theorem ox1 (h : i < M) (k : Nat.ble M 9223372036854775808 = true) : (i : Int) < 2 ^ 63 := Int.ofNat_lt.mpr (Nat.lt_of_lt_of_le h (Nat.le_of_ble_eq_true k))
theorem oa7 (h : i < n) (h2 : n < M) (k : Nat.ble M 9223372036854775808 = true) : (i : Int) < 2 ^ 63 := ox1 (Nat.lt_trans h h2) k
theorem oa6 (h : i < M) (k : Nat.ble M 9223372036854775808 = true) : (0 + (i : Int)) < 2 ^ 63 := by rw [Int.zero_add]; exact ox1 h k
theorem oa5 (h : i < n) (h2 : n < M) (k : Nat.ble M 9223372036854775808 = true) : (0 + (i : Int)) < 2 ^ 63 := oa6 (Nat.lt_trans h h2) k
theorem oa8 (h : i < a.toNat) (h2 : a < 100) : (0 + (i : Int)) < 2 ^ 63 := by rw [Int.zero_add]; exact Int.lt_trans (Int.lt_trans (Int.lt_toNat.mp h) h2) (by decide)
theorem ob1 (h : x < M) (k : Nat.ble M N = true) : x < N := Nat.lt_of_lt_of_le h (Nat.le_of_ble_eq_true k)
theorem ob2 (h : x < M) (k : Nat.ble M N = true) : x ≤ N := Nat.le_of_lt (ob1 h k)
theorem ob3 (h : x ≤ M) (k : Nat.ble M N = true) : x ≤ N := Nat.le_trans h (Nat.le_of_ble_eq_true k)
theorem ob4 (h : x ≤ M) (k : Nat.ble (M + 1) N = true) : x < N := Nat.lt_of_le_of_lt h (Nat.le_of_ble_eq_true k)
theorem ob5 (h : a < b) (k : decide (b ≤ c) = true) : a < c := Int.lt_of_lt_of_le h (of_decide_eq_true k)
theorem ob6 (e : x = y) (h : y ≤ M) (k : Nat.ble M N = true) : x ≤ N := e ▸ ob3 h k
theorem ob7 (e : x = y) (h : y < M) (k : Nat.ble M N = true) : x < N := e ▸ ob1 h k
theorem ob8 (e : x = y) (h : y < M) (k : Nat.ble M N = true) : x ≤ N := e ▸ ob2 h k
theorem ob9 (h : x ≤ y) (h2 : y < M) (k : Nat.ble M N = true) : x < N := ob1 (Nat.lt_of_le_of_lt h h2) k
theorem oc1 (h : 0 ≤ k) : 0 ≤ k + 1 := Int.le_add_one h
theorem oc2 (h : 0 ≤ k) : 0 ≤ k + 2 := Int.add_nonneg h (by decide)
theorem oc3 (h : i < j + 1) (h2 : ¬ i = j) : i < j := Nat.lt_of_le_of_ne (Nat.le_of_lt_succ h) h2
theorem oc4 (h : i < j + 1) (h2 : ¬ i < j) : i = j := Nat.le_antisymm (Nat.le_of_lt_succ h) (Nat.not_lt.mp h2)
theorem oc5 (h : ¬ a = b) (h2 : a ≤ b) : a < b := Int.not_le.mp fun q => h (Int.le_antisymm h2 q)
theorem oc6 : (1 + (i : Int)).toNat = i + 1 := by rw [Int.add_comm]; rfl
theorem oc7 : (1 + (i : Int) - 1).toNat = i := by rw [Int.add_comm, Int.add_sub_cancel]; rfl
theorem oc8 : (0 : Int) ≤ 1 + (i : Int) - 1 := by rw [Int.add_comm, Int.add_sub_cancel]; exact Int.natCast_nonneg i
theorem oc9 (h : 0 ≤ a) : ((a.toNat : Nat) : Int) = a := Int.toNat_of_nonneg h
theorem od1 : (a - 1 - 1).toNat = (a - 2).toNat := by rw [Int.sub_sub]; rfl
theorem od2 : min i n ≤ n := Nat.min_le_right i n
theorem od3 (h : 0 ≤ k) (h2 : k < l) : k.toNat < l.toNat := (Int.toNat_lt_toNat (Int.lt_of_le_of_lt h h2)).mpr h2
theorem od4 : x < x + 1 := Nat.lt_succ_self x
theorem od5 : x < x + 1 + 1 := Nat.lt_succ_of_lt (Nat.lt_succ_self x)
theorem od6 : x < x + 1 + 1 + 1 := Nat.lt_succ_of_lt (Nat.lt_succ_of_lt (Nat.lt_succ_self x))
theorem of1 (e : x = y) (h : i < y) : i < x := e ▸ h
theorem of2 (e : y = x) (h : i < y) : i < x := e ▸ h
theorem of3 (e : x = y) (e2 : y = n) (h : i < n) : i < x := e ▸ e2 ▸ h
theorem og1 (h : ¬ a < b) : b ≤ a := Int.not_lt.mp h
theorem og2 (h : ¬ a ≤ b) : b < a := Int.not_le.mp h
theorem og3 (h : ¬ i < j) : j ≤ i := Nat.not_lt.mp h
theorem og4 (h : ¬ i ≤ j) : j < i := Nat.not_le.mp h
theorem og5 (h : i < j) : i ≤ j := Nat.le_of_lt h
theorem og6 (h : a < b) : a ≤ b := Int.le_of_lt h
theorem oh1 (h : i < j) : (i : Int) < (j : Int) := Int.ofNat_lt.mpr h
theorem oh2 (h : i ≤ j) : (i : Int) ≤ (j : Int) := Int.ofNat_le.mpr h
theorem oh3 (h : (i : Int) < (j : Int)) : i < j := Int.ofNat_lt.mp h
theorem oh4 (h : (i : Int) ≤ (j : Int)) : i ≤ j := Int.ofNat_le.mp h
theorem oh5 (h : ¬ i ≤ j) (h2 : (i : Int) ≤ (j : Int)) : False := h (Int.ofNat_le.mp h2)
theorem oi1 (h : n < M) (k : Nat.ble M 1001 = true) : -1000 ≤ (n : Int) ∧ (n : Int) ≤ 1000 := ⟨Int.le_trans (by decide) (Int.natCast_nonneg n), Int.ofNat_le.mpr (Nat.le_of_lt_succ (ob1 h k))⟩
theorem oi2 (e : n = y) (h : y < M) (k : Nat.ble M 1001 = true) : -1000 ≤ (n : Int) ∧ (n : Int) ≤ 1000 := e ▸ oi1 h k
theorem oi4 (h0 : 0 ≤ a) (h : a < 100) : -1000 ≤ a ∧ a ≤ 1000 := ⟨Int.le_trans (by decide) h0, Int.le_trans (Int.le_of_lt h) (by decide)⟩
theorem oi3 (h : 3 ≤ a ∧ a ≤ 4) : -1000 ≤ a ∧ a ≤ 1000 := ⟨Int.le_trans (by decide) h.1, Int.le_trans h.2 (by decide)⟩
theorem oi5 (h : 3 ≤ a ∧ a ≤ 4) : 0 < a := Int.lt_of_lt_of_le (by decide) h.1
variable {nl : Int}
theorem oj1 (h : j = 0) : 0 + (j : Int) = 0 := by rw [h]; rfl
theorem oj2 (h : ¬ j = 0) : ¬ (0 + (j : Int)) = 0 := by rw [Int.zero_add]; exact fun q => h (Int.ofNat.inj q)
theorem oj3 (h : j < n) : j - 1 < n := Nat.lt_of_le_of_lt (Nat.sub_le j 1) h
theorem oj4 : (0 + (j : Int) - 1).toNat = j - 1 := by rw [Int.zero_add]; exact Int.toNat_sub j 1
theorem oj5 (h : ¬ j = 0) : 1 ≤ j := Nat.pos_of_ne_zero h
theorem oj6 (h : ¬ 0 + (j : Int) = 0) : 0 ≤ 0 + (j : Int) - 1 := by omega
theorem ox3 (h : i < ((n : Int) - 1).toNat) : (i : Int) < (n : Int) - 1 := Int.lt_toNat.mp h
theorem oj8 (h : i < ((n : Int) - 1).toNat) : i + 1 < n := by have := ox3 h; omega
theorem oj9 (h : i < ((n : Int) - 1).toNat) : i < n := Nat.lt_of_succ_lt (oj8 h)
theorem oz1 (h : i < ((n : Int) - 1).toNat) (e : n = y) (h2 : y < M) (k : Nat.ble M 9223372036854775807 = true) : 1 + (i : Int) < 2 ^ 63 := by rw [Int.add_comm]; exact ox1 (Nat.lt_trans (oj8 h) (e ▸ h2)) (Nat.ble_eq_true_of_le (Nat.le_succ_of_le (Nat.le_of_ble_eq_true k)))
theorem oz2 (h : i < ((n : Int) - 1).toNat) (e : n = y) (h2 : y < M) (k : Nat.ble M 9223372036854775808 = true) : 1 + (i : Int) - 1 < 2 ^ 63 := by rw [Int.add_comm, Int.add_sub_cancel]; exact ox1 (Nat.lt_trans (oj9 h) (e ▸ h2)) k
theorem oz3 (h : j < n) (h2 : n < M) (k : Nat.ble M 9223372036854775808 = true) : 0 + (j : Int) - 1 < 2 ^ 63 := Int.lt_of_le_of_lt (Int.sub_le_self _ (by decide)) (oa5 h h2 k)
theorem oz4 (h : a < b) : ¬ a ≥ b := Int.not_le.mpr h
theorem oz5 (h : i < j) : ¬ j ≤ i := Nat.not_le.mpr h
theorem oz6 : (0 + (i : Int) - 0).toNat = i := by rw [Int.sub_zero, Int.zero_add]; rfl
theorem oz7 (h : 0 ≤ a ∧ a < b) : a = ((a.toNat : Nat) : Int) := (Int.toNat_of_nonneg h.1).symm
theorem oz8 (e : n = i) (h : i < M) (k : Nat.ble M 1001 = true) : -1000 ≤ 0 + (i : Int) ∧ 0 + (i : Int) ≤ 1000 := by rw [Int.zero_add]; exact oi1 h k
theorem oz9 : (((1 + (i : Int)).toNat : Nat) : Int) = 1 + (i : Int) := Int.toNat_of_nonneg (Int.add_nonneg (by decide) (Int.natCast_nonneg i))
theorem ol1 : (0 : Int) ≤ 1 + (i : Int) := Int.add_nonneg (by decide) (Int.natCast_nonneg i)
theorem ol2 (h : i < x) (e : x = n) (h2 : n < M) (k : Nat.ble M 9223372036854775808 = true) : (0 + (i : Int)) < 2 ^ 63 := oa5 h (e ▸ h2) k
theorem ol3 (e : x = n) (h : i < n) (h2 : n < M) (k : Nat.ble M 9223372036854775808 = true) : (0 + (i : Int)) < 2 ^ 63 := oa5 h h2 k
theorem ol4 (h : 3 ≤ a ∧ a ≤ 4) (h2 : i < a.toNat) : (0 + (i : Int)) < 2 ^ 63 := oa8 h2 (Int.lt_of_le_of_lt h.2 (by decide))
theorem ol5 (h : x ≤ y) (h2 : y < n) : x < n := Nat.lt_of_le_of_lt h h2
theorem ol6 (h : ¬ i = j) (h2 : i ≤ j) : i < j := Nat.lt_of_le_of_ne h2 h
theorem ol7 (h : 3 ≤ nl ∧ nl ≤ 4) (e : n = (7 - nl).toNat) : n ≤ 4 := e ▸ Int.toNat_le.mpr (by have := h.1; omega)
theorem ol8 (h : a > b) : b ≤ a := Int.le_of_lt h
theorem ol9 (h : a < b) (h2 : b ≤ a) : False := Int.not_le.mpr h h2
theorem om1 (h : i < j) (h2 : j ≤ i) : False := Nat.not_le.mpr h h2
theorem om2 (e : j = 0) : 0 ≤ 0 + (j : Int) := oa2
theorem om3 (h : k + 1 ≤ l) : k ≤ l := Int.le_trans (Int.le_of_lt (Int.lt_succ k)) h
theorem om4 (h : i + 1 ≤ j) : i ≤ j := Nat.le_of_succ_le h
theorem ox2 (h1 : i < (nl - 2).toNat) : 1 + (i : Int) + 1 < nl := by have := Int.lt_toNat.mp h1; omega
theorem op8 (e : n = nl.toNat) (h1 : k + 1 < nl) (h0 : 0 ≤ k) : (k + 1).toNat < n := e ▸ od3 (oc1 h0) h1
theorem op9 (e : n = nl.toNat) (h1 : k + 1 < nl) (h0 : 0 ≤ k) : k.toNat < n := e ▸ od3 h0 (Int.lt_trans (Int.lt_succ k) h1)
theorem oq1 (e : n = nl.toNat) (h1 : k + 2 < nl) (h0 : 0 ≤ k) : (k + 2).toNat < n := e ▸ od3 (oc2 h0) h1
theorem oq2 (e : n = nl.toNat) (h1 : i < (nl - 2).toNat) : (1 + (i : Int)).toNat < n := e ▸ od3 (Int.add_nonneg (by decide) (Int.natCast_nonneg i)) (Int.lt_trans (Int.lt_succ _) (ox2 h1))
variable {d : Int}
theorem on2 (h : 0 ≤ a ∧ a < b) (h2 : 0 ≤ c ∧ c < d) : a + c = (((a + c).toNat : Nat) : Int) := (Int.toNat_of_nonneg (Int.add_nonneg h.1 h2.1)).symm
theorem on5 (h : (x : Int) < (y : Int)) : 0 < y := Nat.lt_of_le_of_lt (Nat.zero_le x) (Int.ofNat_lt.mp h)
theorem on4 (h : (x : Int) < (y : Int)) : 0 < y + n := Nat.lt_of_lt_of_le (on5 h) (Nat.le_add_right y n)
theorem on6 (h : 0 ≤ a) (h1 : a < b) (h2 : x ≤ y ∧ y < n) (h0 : 0 ≤ c) : 0 ≤ a ∧ a < b ∧ x ≤ y ∧ y < n ∧ 1 ≤ 1 + c := ⟨h, h1, h2.1, h2.2, Int.le_add_of_nonneg_right h0⟩
theorem on7 (h : (j : Int) < a) : a.toNat - (j + 1) < a.toNat - j := Nat.sub_lt_sub_left (Int.lt_toNat.mpr h) (Nat.lt_succ_self j)
theorem on8 (h : i < j + 1) (h2 : ¬ j = i) : i < j := oc3 h fun q => h2 q.symm
theorem on9 (h : i < n) : x * (n + 1) + (n - (i + 1)) < x * (n + 1) + (n - i) := Nat.add_lt_add_left (Nat.sub_lt_sub_left h (Nat.lt_succ_self i)) _
theorem os1 (h2 : y < 6) (h : x < y) : n + (5 - y) < n + (5 - x) := Nat.add_lt_add_left (Nat.sub_lt_sub_left (Nat.lt_of_lt_of_le h (Nat.le_of_lt_succ h2)) h) n
theorem os2 (h : x < y) : x + n < y + n := Nat.add_lt_add_right h n
theorem os6 (h : x ≤ 4) (e : y = x) (e2 : n = min i y) : n ≤ 16777216 := e2 ▸ Nat.le_trans (Nat.min_le_right _ _) (e ▸ Nat.le_trans h (by decide))
theorem os7 (h : x + 1 < y) : x < y := Nat.lt_of_succ_lt h
theorem os8 (h : x + 1 + 1 + 1 < y) : y ≠ x := Nat.ne_of_gt (Nat.lt_of_succ_lt (Nat.lt_of_succ_lt (Nat.lt_of_succ_lt h)))
theorem ot1 (h : x + 1 < y) : y ≠ x := Nat.ne_of_gt (Nat.lt_of_succ_lt h)
theorem os9 (h : 10 ≤ a) (h2 : a ≤ 50 + b) (h1 : b ≤ c) (h0 : c ≤ 20) : 0 ≤ a ∧ a < 1000 := ⟨Int.le_trans (by decide) h, Int.lt_of_le_of_lt (Int.le_trans h2 (Int.add_le_add_left (Int.le_trans h1 h0) 50)) (by decide)⟩
theorem ot2 (h : a = b) (h1 : (x : Int) ≤ (y : Int)) (h2 : (i : Int) ≤ (j : Int)) : a = b ∧ x ≤ y ∧ i ≤ j := ⟨h, Int.ofNat_le.mp h1, Int.ofNat_le.mp h2⟩
theorem ot3 (e : x = y) (h : i < y ∧ j < y) : i < x ∧ j < x := e ▸ h
theorem ot4 (h : (j : Int) ≤ a) (h2 : ¬ (j : Int) < a) : j = a.toNat := by have := Int.le_antisymm h (Int.not_lt.mp h2); rw [← this]; rfl
theorem ot5 (h : n ≤ 4) (e : a = 10 + (i : Int)) (h2 : i < n) : 0 ≤ a ∧ a < 1000 := e ▸ ⟨Int.add_nonneg (by decide) (Int.natCast_nonneg i), Int.lt_trans (Int.add_lt_add_left (Int.ofNat_lt.mpr (Nat.lt_of_lt_of_le h2 h)) 10) (by decide)⟩
theorem ot6 (h : ¬ 0 + (i : Int) = 0) : 0 < i := Nat.pos_of_ne_zero fun q => h (oj1 q)
theorem ot7 (h : x ≠ y ∧ x ≠ n ∧ y ≠ n) : y ≠ x := h.1.symm
theorem ot8 (h : x ≠ y ∧ x ≠ n ∧ y ≠ n) : n ≠ x := h.2.1.symm
theorem ot9 (h : x ≠ y ∧ x ≠ n ∧ y ≠ n) : n ≠ y := h.2.2.symm
theorem ou1 (h : 3 ≤ b ∧ b ≤ 4) (h0 : 0 ≤ a) : b - 1 - a ≤ 3 := Int.le_trans (Int.sub_le_self _ h0) (Int.sub_le_sub_right h.2 1)
theorem ou2 : a ≤ max 0 a := Int.le_max_right 0 a
theorem ou3 (h : 3 ≤ a ∧ a ≤ 4) (h1 : i < (7 - a).toNat) : i < 4 := Nat.lt_of_lt_of_le h1 (ol7 h rfl)
variable {l0 ba fa mf ex : Int} (h : (3 ≤ nl ∧ nl ≤ 4) ∧ (1 ≤ l0 ∧ l0 ≤ 100) ∧ (1 ≤ ba ∧ ba ≤ 100) ∧ (1 ≤ fa ∧ fa ≤ 100) ∧ (1 ≤ mf ∧ mf ≤ 100) ∧ (1 ≤ ex ∧ ex ≤ 100))
include h
theorem op1 (h1 : k + 1 < nl) : k + 1 < 100 := Int.lt_trans (Int.lt_of_lt_of_le h1 h.1.2) (by decide)
theorem op2 (h1 : k + 1 < nl) : k < 100 := Int.lt_trans (Int.lt_succ k) (op1 h h1)
theorem op3 (h1 : k + 1 < nl) : k < 2 ^ 63 := Int.lt_trans (op2 h h1) (by decide)
theorem op4 (h1 : k + 2 < nl) : k + 2 < 100 := Int.lt_trans (Int.lt_of_lt_of_le h1 h.1.2) (by decide)
theorem op5 (e : n = nl.toNat) : n < 100 := e ▸ (Int.toNat_lt' (by decide)).mpr (Int.lt_of_le_of_lt h.1.2 (by decide))
theorem op6 (e : n = nl.toNat) : 3 ≤ n := e ▸ (Int.le_toNat (Int.le_trans (by decide) h.1.1)).mpr h.1.1
theorem op7 (e : n = nl.toNat) : 0 < n := Nat.lt_of_lt_of_le (by decide) (op6 h e)
theorem oq3 (h1 : i < (nl - 2).toNat) : 1 + (i : Int) ≤ 3 := Int.le_of_add_le_add_right (Int.le_trans (Int.le_of_lt (ox2 h1)) (Int.le_trans h.1.2 (by decide)))
theorem oq4 (h1 : i < (nl - 2).toNat) : 1 + (i : Int) < 100 := op2 h (ox2 h1)
theorem oq5 : -1000 ≤ nl - 1 ∧ nl - 1 ≤ 1000 := ⟨Int.le_sub_right_of_add_le (Int.le_trans (by decide) h.1.1), Int.le_trans (Int.sub_le_self nl (by decide)) (Int.le_trans h.1.2 (by decide))⟩
theorem oq6 : 3 ≤ nl ∧ nl ≤ 4 := h.1
theorem oq7 : 1 ≤ ex := h.2.2.2.2.2.1
theorem oq8 : ex ≤ 100 := h.2.2.2.2.2.2
theorem oq9 : 1 ≤ fa ∧ fa ≤ 100 := h.2.2.2.1
theorem on3 (e : n = nl.toNat) : Int.toNat 0 < n := op7 h e
theorem ox4 {ml : Int} (e : nl = ml) (e2 : n = ml.toNat) : 0 < n := op7 h (e ▸ e2)
theorem on1 {ml : Int} (e : nl = ml) (h1 : i < (ml - 2).toNat) : 0 ≤ 1 + (i : Int) - 1 ∧ 1 + (i : Int) - 1 ≤ 10 := by
  subst e
  rw [Int.add_comm, Int.add_sub_cancel]
  exact ⟨Int.natCast_nonneg i, Int.le_trans (Int.le_of_lt (Int.lt_toNat.mp h1)) (Int.le_trans (Int.sub_le_self nl (by decide)) (Int.le_trans h.1.2 (by decide)))⟩
theorem os3 (h1 : i < (nl - 2).toNat) (h2 : k ≤ ((i + 1 : Nat) : Int)) : k ≤ 3 := Int.le_trans h2 (by have := oq3 h h1; rw [Int.add_comm] at this; exact this)
theorem os4 (h1 : i < (nl - 2).toNat) (h2 : k ≤ (i : Int)) : k ≤ 3 := os3 h h1 (Int.le_trans h2 (Int.ofNat_le.mpr (Nat.le_succ i)))
theorem ou4 : ba ≤ 100 := h.2.2.1.2
end
theorem rg02_2 : True := by
  k_with "mine om" => ((first | ((with_reducible show @LT.lt Nat _ _ _); first | ((with_reducible (apply ob1; assumption)); exact rfl) | ((with_reducible (apply ob4; assumption)); exact rfl) | ((with_reducible (apply ob7; assumption; assumption)); exact rfl) | ((with_reducible (apply ob9; assumption; assumption)); exact rfl) | with_reducible (apply oc3; assumption; assumption) | with_reducible (apply od3; assumption; assumption) | with_reducible (apply od4) | with_reducible (apply od5) | with_reducible (apply od6) | with_reducible (apply of1; assumption; assumption) | with_reducible (apply of2; assumption; assumption) | with_reducible (apply of3; assumption; assumption; assumption) | with_reducible (apply og4; assumption) | with_reducible (apply oh3; assumption) | with_reducible (apply oj3; assumption) | with_reducible (apply oj8; assumption) | with_reducible (apply oj9; assumption) | with_reducible (apply ol5; assumption; assumption) | with_reducible (apply ol6; assumption; assumption) | with_reducible (apply op8; assumption; assumption; assumption) | with_reducible (apply op9; assumption; assumption; assumption) | with_reducible (apply oq1; assumption; assumption; assumption) | with_reducible (apply oq2; assumption; assumption) | with_reducible (apply on5; assumption) | with_reducible (apply on4; assumption) | with_reducible (apply on7; assumption) | with_reducible (apply on8; assumption; assumption) | with_reducible (apply on9; assumption) | with_reducible (apply os1; assumption; assumption) | with_reducible (apply os2; assumption) | with_reducible (apply os7; assumption) | with_reducible (apply ot6; assumption) | with_reducible (apply ou3; assumption; assumption) | with_reducible (apply op5; assumption; assumption) | with_reducible (apply op7; assumption; assumption) | with_reducible (apply on3; assumption; assumption) | with_reducible (apply ox4; assumption; assumption; assumption) | (refine ob1 (M := 400) ?_ rfl; with_reducible assumption) | (refine ob1 (M := 1000) ?_ rfl; with_reducible assumption) | (refine ob1 (M := 60) ?_ rfl; with_reducible assumption)) | ((with_reducible show @LE.le Nat _ _ _); first | ((with_reducible (apply ob2; assumption)); exact rfl) | ((with_reducible (apply ob3; assumption)); exact rfl) | ((with_reducible (apply ob6; assumption; assumption)); exact rfl) | ((with_reducible (apply ob8; assumption; assumption)); exact rfl) | with_reducible (apply od2) | with_reducible (apply og3; assumption) | with_reducible (apply og5; assumption) | with_reducible (apply oh4; assumption) | with_reducible (apply oj5; assumption) | with_reducible (apply ol7; assumption; assumption) | with_reducible (apply om4; assumption) | with_reducible (apply os6; assumption; assumption; assumption) | with_reducible (apply op6; assumption; assumption) | (refine ob2 (M := 400) ?_ rfl; with_reducible assumption) | (refine ob2 (M := 500) ?_ rfl; with_reducible assumption) | (refine ob2 (M := 1000) ?_ rfl; with_reducible assumption)) | ((with_reducible show @LT.lt Int _ _ _); first | ((with_reducible (apply ox1; assumption)); exact rfl) | ((with_reducible (apply oa7; assumption; assumption)); exact rfl) | ((with_reducible (apply oa6; assumption)); exact rfl) | ((with_reducible (apply oa5; assumption; assumption)); exact rfl) | with_reducible (apply oa8; assumption; assumption) | ((with_reducible (apply ob5; assumption)); exact rfl) | with_reducible (apply oc5; assumption; assumption) | with_reducible (apply og2; assumption) | with_reducible (apply oh1; assumption) | with_reducible (apply oi5; assumption) | with_reducible (apply ox3; assumption) | ((with_reducible (apply oz1; assumption; assumption; assumption)); exact rfl) | ((with_reducible (apply oz2; assumption; assumption; assumption)); exact rfl) | ((with_reducible (apply oz3; assumption; assumption)); exact rfl) | ((with_reducible (apply ol2; assumption; assumption; assumption)); exact rfl) | ((with_reducible (apply ol3; assumption; assumption; assumption)); exact rfl) | with_reducible (apply ol4; assumption; assumption) | with_reducible (apply ox2; assumption) | with_reducible (apply op1; assumption; assumption) | with_reducible (apply op2; assumption; assumption) | with_reducible (apply op3; assumption; assumption) | with_reducible (apply op4; assumption; assumption) | with_reducible (apply oq4; assumption; assumption)) | ((with_reducible show @LE.le Int _ _ _); first | with_reducible (apply oa2) | with_reducible (apply oc1; assumption) | with_reducible (apply oc2; assumption) | with_reducible (apply oc8) | with_reducible (apply og1; assumption) | with_reducible (apply og6; assumption) | with_reducible (apply oh2; assumption) | with_reducible (apply oj6; assumption) | with_reducible (apply ol1) | with_reducible (apply ol8; assumption) | with_reducible (apply om2; assumption) | with_reducible (apply om3; assumption) | with_reducible (apply ou1; assumption; assumption) | with_reducible (apply ou2) | with_reducible (apply oq3; assumption; assumption) | with_reducible (apply oq7; assumption) | with_reducible (apply oq8; assumption) | with_reducible (apply os3; assumption; assumption; assumption) | with_reducible (apply os4; assumption; assumption; assumption) | with_reducible (apply ou4; assumption)) | ((with_reducible show _ = _); first | with_reducible (apply oa1) | with_reducible (apply oa3) | with_reducible (apply oa4) | with_reducible (apply oc4; assumption; assumption) | with_reducible (apply oc6) | with_reducible (apply oc7) | with_reducible (apply oc9; assumption) | with_reducible (apply od1) | with_reducible (apply oj1; assumption) | with_reducible (apply oj4) | with_reducible (apply oz6) | with_reducible (apply oz7; assumption) | with_reducible (apply oz9) | with_reducible (apply on2; assumption; assumption) | with_reducible (apply ot4; assumption; assumption)) | ((with_reducible show _ ∧ _); first | ((with_reducible (apply oi1; assumption)); exact rfl) | ((with_reducible (apply oi2; assumption; assumption)); exact rfl) | with_reducible (apply oi4; assumption; assumption) | with_reducible (apply oi3; assumption) | ((with_reducible (apply oz8; assumption; assumption)); exact rfl) | with_reducible (apply on6; assumption; assumption; assumption; assumption) | with_reducible (apply os9; assumption; assumption; assumption; assumption) | with_reducible (apply ot2; assumption; assumption; assumption) | with_reducible (apply ot3; assumption; assumption) | with_reducible (apply ot5; assumption; assumption; assumption) | with_reducible (apply oq5; assumption) | with_reducible (apply oq6; assumption) | with_reducible (apply oq9; assumption) | with_reducible (apply on1; assumption; assumption; assumption)) | ((with_reducible show False); first | with_reducible (apply oh5; assumption; assumption) | with_reducible (apply ol9; assumption; assumption) | with_reducible (apply om1; assumption; assumption)) | ((with_reducible show _ ≠ _); first | with_reducible (apply oj2; assumption) | with_reducible (apply os8; assumption) | with_reducible (apply ot1; assumption) | with_reducible (apply ot7; assumption) | with_reducible (apply ot8; assumption) | with_reducible (apply ot9; assumption) | walk_at "mine ne") | ((with_reducible show ¬ _); first | with_reducible (apply oz4; assumption) | with_reducible (apply oz5; assumption)) | omega))
  k_with "mine k_ne" => ((refine neN ?_; (try dsimp only); first | walk_at "mine ne" | omega))
  k_with "mine k_room" => ((first | ((try dsimp only [depth_under_make, depth_under_kw, depth_in1, depth_deeper, depth_caller, recursionLimit, Around.mark]); walk_at "mine rm") | ((simp only [depth_under_make, depth_under_kw, depth_in1, depth_deeper, depth_caller, recursionLimit, Around.mark] at *); omega)))
  k_with "mine k_units" => ((have := cLine_is; (simp only [units_in1, units_deeper, Around.mark_units, units_caller] at *); omega))
  exact trivial

section
variable {M : Model} {A : Around} {E : Value → Shared → Prop} {s : Shared} {h₀ : Heap} {L a : Addr} {m : Str → Option Value} {cn : Str} {cs : Scope} {ccd : Value} {cl : List (Str × Addr)} {x : Str} {v : Value} {xp pos : Pos}
/-- a local name at the first place of a sum, a question, an item, a list of arguments -/
theorem args_N {rest : List Expr} {Q : List Value → Shared → Prop} (hk : cs.kind = .function) (hx : (envX cn cs L a ccd cl).kindOf x = some .local) (F : Fr h₀ L s.heap m) (hv : m x = some v) (h : wpAny M A (spliced (backTo pos (starEach rest (envX cn cs L a ccd cl)))) (fun vs s₂ => Q (v :: vs) s₂) E s)
    (hd : (x == ("__debug__" : Str)) = false := by decide) :
    wpAny M A (spliced (backTo pos (starEach (.Name x xp :: rest) (envX cn cs L a ccd cl)))) Q E s := args_cons (nameX_L F hv h hk hx hd)
theorem cmp_N {op : CmpOp} {r : Expr} {whole : Sem Value} {Q : Bool → Shared → Prop} (hk : cs.kind = .function) (hx : (envX cn cs L a ccd cl).kindOf x = some .local) (F : Fr h₀ L s.heap m) (hv : m x = some v)
    (h : wpAny M A (eval r (envX cn cs L a ccd cl)) (fun b s₂ => wpAny M A (compareOp op v b) (fun c s₃ => wpAny M A (truthy c) Q E s₃) E s₂) E s)
    (hm : behindInMarks op r = false := by with_unfolding_all rfl) (hd : (x == ("__debug__" : Str)) = false := by decide) :
    wpAny M A (isTrue (.Compare (.Name x xp) [op] [r] pos) (envX cn cs L a ccd cl) whole) Q E s := wpAny_isTrue_Compare1 (nameX_L F hv h hk hx hd) hm
theorem bin_N {op : Operator} {r : Expr} {Q : Value → Shared → Prop} (hk : cs.kind = .function) (hx : (envX cn cs L a ccd cl).kindOf x = some .local) (F : Fr h₀ L s.heap m) (hv : m x = some v)
    (h : wpAny M A (eval r (envX cn cs L a ccd cl)) (fun b s₂ => wpAny M A (binaryOp op v b) Q E s₂) E s)
    (hd : (x == ("__debug__" : Str)) = false := by decide) :
    wpAny M A (eval (.BinOp (.Name x xp) op r pos) (envX cn cs L a ccd cl)) Q E s := wpAny_BinOp (nameX_L F hv h hk hx hd)
theorem sub_N {slice : Expr} {Q : Value → Shared → Prop} (hk : cs.kind = .function) (hx : (envX cn cs L a ccd cl).kindOf x = some .local) (F : Fr h₀ L s.heap m) (hv : m x = some v)
    (h : wpAny M A (eval slice (envX cn cs L a ccd cl)) (fun i s₂ => wpAny M A (subscriptTail (.Name x xp) slice v i) Q E s₂) E s)
    (hd : (x == ("__debug__" : Str)) = false := by decide) :
    wpAny M A (eval (.Subscript (.Name x xp) slice pos) (envX cn cs L a ccd cl)) Q E s := Subscript_ (nameX_L F hv h hk hx hd)
theorem bin_xC {l : Expr} {op : Operator} {n : Int} {k : Nat} {cp : Pos} {env : Env} {Q : Value → Shared → Prop}
    (h : wpAny M A (eval l env) (fun a s₁ => wpAny M A (binaryOp op a (.int n s₁.toks)) Q E { s₁ with toks := s₁.toks + 1 }) E s) : wpAny M A (eval (.BinOp l op (.Constant (.int n) k cp) pos) env) Q E s :=
  wpAny_BinOp (wpAny_mono h (fun _ _ h₁ => wpAny_Constant_int h₁) fun _ _ x => x)
theorem bin_NC {op : Operator} {n : Int} {k : Nat} {cp : Pos} {Q : Value → Shared → Prop} (hk : cs.kind = .function) (hx : (envX cn cs L a ccd cl).kindOf x = some .local) (F : Fr h₀ L s.heap m) (hv : m x = some v)
    (h : wpAny M A (binaryOp op v (.int n s.toks)) Q E { s with toks := s.toks + 1 }) (hd : (x == ("__debug__" : Str)) = false := by decide) :
    wpAny M A (eval (.BinOp (.Name x xp) op (.Constant (.int n) k cp) pos) (envX cn cs L a ccd cl)) Q E s := bin_N hk hx F hv (wpAny_Constant_int h) hd
theorem cmp_xC {l : Expr} {op : CmpOp} {n : Int} {k : Nat} {cp : Pos} {env : Env} {whole : Sem Value} {Q : Bool → Shared → Prop}
    (h : wpAny M A (eval l env) (fun a s₁ => wpAny M A (compareOp op a (.int n s₁.toks)) (fun c s₃ => wpAny M A (truthy c) Q E s₃) E { s₁ with toks := s₁.toks + 1 }) E s)
    (hm : behindInMarks op (.Constant (.int n) k cp) = false := by with_unfolding_all rfl) : wpAny M A (isTrue (.Compare l [op] [.Constant (.int n) k cp] pos) env whole) Q E s :=
  wpAny_isTrue_Compare1 (wpAny_mono h (fun _ _ h₁ => wpAny_Constant_int h₁) fun _ _ x => x) hm
theorem cmp_NC {op : CmpOp} {n : Int} {k : Nat} {cp : Pos} {whole : Sem Value} {Q : Bool → Shared → Prop} (hk : cs.kind = .function) (hx : (envX cn cs L a ccd cl).kindOf x = some .local) (F : Fr h₀ L s.heap m) (hv : m x = some v)
    (h : wpAny M A (compareOp op v (.int n s.toks)) (fun c s₃ => wpAny M A (truthy c) Q E s₃) E { s with toks := s.toks + 1 })
    (hm : behindInMarks op (.Constant (.int n) k cp) = false := by with_unfolding_all rfl) (hd : (x == ("__debug__" : Str)) = false := by decide) :
    wpAny M A (isTrue (.Compare (.Name x xp) [op] [.Constant (.int n) k cp] pos) (envX cn cs L a ccd cl) whole) Q E s := cmp_N hk hx F hv (wpAny_Constant_int h) hm hd
theorem sub_NC {n : Int} {k : Nat} {cp : Pos} {Q : Value → Shared → Prop} (hk : cs.kind = .function) (hx : (envX cn cs L a ccd cl).kindOf x = some .local) (F : Fr h₀ L s.heap m) (hv : m x = some v)
    (h : wpAny M A (subscriptTail (.Name x xp) (.Constant (.int n) k cp) v (.int n s.toks)) Q E { s with toks := s.toks + 1 }) (hd : (x == ("__debug__" : Str)) = false := by decide) :
    wpAny M A (eval (.Subscript (.Name x xp) (.Constant (.int n) k cp) pos) (envX cn cs L a ccd cl)) Q E s := sub_N hk hx F hv (wpAny_Constant_int h) hd
end
section
variable {prog : Program} {w : World} {A : Around} {E : Value → Shared → Prop} {s : Shared} {K : Frag} {h₀ : Heap} {L f : Addr} {m : Str → Option Value} {cn : Str} {cs : Scope} {ccd : Value} {cl : List (Str × Addr)} {x : Str} {xp pos : Pos}
theorem attr_N {o C dx : Addr} {sl : Array (Option Value)} {es : List DictEntry} {n : Nat} {name : Str} {v : Value} {attr : Option Value} {news : List (Addr × Obj)} {Q : Value → Shared → Prop}
    (hk : cs.kind = .function) (hx : (envX cn cs L f ccd cl).kindOf x = some .local) (F : Fr h₀ L s.heap m) (hv : m x = some (.ref o)) (X₀ : K.In h₀) (N : News h₀ L s.heap news) (h1 : (o, (⟨.ref C, some dx, .plain, sl⟩ : Obj)) ∈ news) (h2 : (dx, dictOf es n) ∈ news) (hg : plainGet K C name = true) (hh : hasDictIn K C = true)
    (ha : findIn K (.ref C) name = some attr) (hn : noGet K attr = true) (hl : getL name es = some (some v)) (hi : handedIn v = true) (h : Q v { s with toks := s.toks + 1 })
    (hd : (x == ("__debug__" : Str)) = false := by decide)
    (he : eval (.Attribute (.Name x xp) name pos) (envX cn cs L f ccd cl) = (do
      let o ← eval (.Name x xp) (envX cn cs L f ccd cl)
      standAt pos.atName
      let r ← holding [o] (getAttr o name true)
      letTemporaryGo (.Name x xp) o r
      pure r) := by with_unfolding_all rfl) : wpAny (model prog w) A (eval (.Attribute (.Name x xp) name pos) (envX cn cs L f ccd cl)) Q E s :=
  Attribute_Name_ (nameX_L F hv (get_own F X₀ (InstAt.of_news N h1 h2) hg hh ha hn hl hi h) hk hx hd) he
end
theorem rg02_3 : True := by
  k_with "spliced" => (((with_reducible show wpAny _ _ (spliced (backTo _ (starEach (Expr.Name _ _ :: _) (PyProof.Rows.envOf _ _ _ _ _)))) _ _ _); k_dflt (refine' args_N (by exact rfl) (by exact rfl) (by k_asm) (by exact rfl) ?_; k_whole)))
  k_with "isTrue Compare" => (((with_reducible show wpAny _ _ (isTrue (Expr.Compare (Expr.Name _ _) [_] [_] _) (PyProof.Rows.envOf _ _ _ _ _) _) _ _ _); k_dflt (refine' cmp_N (by exact rfl) (by exact rfl) (by k_asm) (by exact rfl) ?_; k_whole)))
  k_with "eval BinOp" => (((with_reducible show wpAny _ _ (eval (Expr.BinOp (Expr.Name _ _) _ _ _) (PyProof.Rows.envOf _ _ _ _ _)) _ _ _); k_dflt (refine' bin_N (by exact rfl) (by exact rfl) (by k_asm) (by exact rfl) ?_; k_whole)))
  k_with "eval Subscript" => (((with_reducible show wpAny _ _ (eval (Expr.Subscript (Expr.Name _ _) _ _) (PyProof.Rows.envOf _ _ _ _ _)) _ _ _); k_dflt (refine' sub_N (by exact rfl) (by exact rfl) (by k_asm) (by exact rfl) ?_; k_whole)))
  k_with "eval Attribute Name" => (((with_reducible show wpAny _ _ (eval (Expr.Attribute (Expr.Name _ _) _ _) (PyProof.Rows.envOf _ _ _ _ _)) _ _ _); k_dflt (refine' attr_N (by exact rfl) (by exact rfl) (by k_asm) (by exact rfl) (by k_asm) (by k_asm) (by k_mem) (by k_mem) (by k_is) (by k_is) (by k_is) (by k_is) (by k_get) (by first | exact rfl | k_handed) ?_; k_whole)))
  exact trivial

theorem rg02_4 : True := by
  k_with "isTrue Compare" => (((with_reducible show wpAny _ _ (isTrue (Expr.Compare _ [_] [(Expr.Constant (Const.int _) _ _)] _) _ _) _ _ _); k_dflt (refine' cmp_xC ?_; k_whole)))
  k_with "isTrue Compare" => (((with_reducible show wpAny _ _ (isTrue (Expr.Compare (Expr.Name _ _) [_] [(Expr.Constant (Const.int _) _ _)] _) (PyProof.Rows.envOf _ _ _ _ _) _) _ _ _); k_dflt (refine' cmp_NC (by exact rfl) (by exact rfl) (by k_asm) (by exact rfl) ?_; k_whole)))
  k_with "eval BinOp" => (((with_reducible show wpAny _ _ (eval (Expr.BinOp _ _ (Expr.Constant (Const.int _) _ _) _) _) _ _ _); k_dflt (refine' bin_xC ?_; k_whole)))
  k_with "eval BinOp" => (((with_reducible show wpAny _ _ (eval (Expr.BinOp (Expr.Name _ _) _ (Expr.Constant (Const.int _) _ _) _) (PyProof.Rows.envOf _ _ _ _ _)) _ _ _); k_dflt (refine' bin_NC (by exact rfl) (by exact rfl) (by k_asm) (by exact rfl) ?_; k_whole)))
  k_with "eval Subscript" => (((with_reducible show wpAny _ _ (eval (Expr.Subscript (Expr.Name _ _) (Expr.Constant (Const.int _) _ _) _) (PyProof.Rows.envOf _ _ _ _ _)) _ _ _); k_dflt (refine' sub_NC (by exact rfl) (by exact rfl) (by k_asm) (by exact rfl) ?_; k_whole)))
  exact trivial

namespace By
open Builtin
noncomputable def cmpd (n : String) (b c : Array UInt8) : Bool := Bytes.holds n (Bytes.order b.toList c.toList)

theorem slot_lt : Slot "bytes" (cmpInfo .Lt).2.1 "bytes.__lt__" :=
  .of (owner := "bytes") (n := "__lt__") (by rw [typeLookup_type, builtinLookup_eq_fast]; kernel_rfl) (by decide +kernel) (by decide +kernel) (by decide +kernel)
    (by first | exact .inl (by decide +kernel) | exact .inr (by decide +kernel)) (by rw [isSubtype_type]; kernel_rfl)
theorem entry_lt : entryFor table "bytes.__lt__" = some Builtin.«bytes.__lt__» := entryFor_of_tree (by kernel_rfl)
theorem args_lt (a b : Value) : argsOk "bytes.__lt__" ⟨[a, b], []⟩ := by
  unfold argsOk; rw [signature?_of (id := "bytes.__lt__") (n := ['_', '_', 't', 'l', '_', '_']) (o := ['s', 'e', 't', 'y', 'b']) (by kernel_rfl) FB.owner_bytes]; kernel_rfl
theorem gives_lt (b c : Array UInt8) (t u : Tok) : Gives («bytes.__lt__» ⟨[.bytes b t, .bytes c u], []⟩) (.val (.bool (cmpd "__lt__" b c))) := by
  refine .of_wp fun M A E s Q hq => ?_
  show wpAny M A (isInstance (.bytes c u) (.type "bytes") >>= fun r => _) _ E s
  refine wpAny_bind (wpAny_isInstance (typeIs_bytes s c u) F.sub_bytes_bytes ?_)
  exact wpAny_pure ⟨_, rfl, hq⟩
theorem lt_bytes {prog : Program} {w : World} {A : Around} {E : Value → Shared → Prop} {s : Shared} {b c : Array UInt8} {t u : Tok} {Q : Value → Shared → Prop} (h : Q (.bool (cmpd "__lt__" b c)) s) : wpAny (model prog w) A (compareOp .Lt (.bytes b t) (.bytes c u)) Q E s :=
  compareOp_gives (op := .Lt) (typeIs_bytes s b t) (typeIs_bytes s c u) slot_lt entry_lt (args_lt _ _) (gives_lt b c t u) (fun e => nomatch e) h

theorem slot_gt : Slot "bytes" (cmpInfo .Gt).2.1 "bytes.__gt__" :=
  .of (owner := "bytes") (n := "__gt__") (by rw [typeLookup_type, builtinLookup_eq_fast]; kernel_rfl) (by decide +kernel) (by decide +kernel) (by decide +kernel)
    (by first | exact .inl (by decide +kernel) | exact .inr (by decide +kernel)) (by rw [isSubtype_type]; kernel_rfl)
theorem entry_gt : entryFor table "bytes.__gt__" = some Builtin.«bytes.__gt__» := entryFor_of_tree (by kernel_rfl)
theorem args_gt (a b : Value) : argsOk "bytes.__gt__" ⟨[a, b], []⟩ := by
  unfold argsOk; rw [signature?_of (id := "bytes.__gt__") (n := ['_', '_', 't', 'g', '_', '_']) (o := ['s', 'e', 't', 'y', 'b']) (by kernel_rfl) FB.owner_bytes]; kernel_rfl
theorem gives_gt (b c : Array UInt8) (t u : Tok) : Gives («bytes.__gt__» ⟨[.bytes b t, .bytes c u], []⟩) (.val (.bool (cmpd "__gt__" b c))) := by
  refine .of_wp fun M A E s Q hq => ?_
  show wpAny M A (isInstance (.bytes c u) (.type "bytes") >>= fun r => _) _ E s
  refine wpAny_bind (wpAny_isInstance (typeIs_bytes s c u) F.sub_bytes_bytes ?_)
  exact wpAny_pure ⟨_, rfl, hq⟩
theorem gt_bytes {prog : Program} {w : World} {A : Around} {E : Value → Shared → Prop} {s : Shared} {b c : Array UInt8} {t u : Tok} {Q : Value → Shared → Prop} (h : Q (.bool (cmpd "__gt__" b c)) s) : wpAny (model prog w) A (compareOp .Gt (.bytes b t) (.bytes c u)) Q E s :=
  compareOp_gives (op := .Gt) (typeIs_bytes s b t) (typeIs_bytes s c u) slot_gt entry_gt (args_gt _ _) (gives_gt b c t u) (fun e => nomatch e) h

theorem slot_ge : Slot "bytes" (cmpInfo .GtE).2.1 "bytes.__ge__" :=
  .of (owner := "bytes") (n := "__ge__") (by rw [typeLookup_type, builtinLookup_eq_fast]; kernel_rfl) (by decide +kernel) (by decide +kernel) (by decide +kernel)
    (by first | exact .inl (by decide +kernel) | exact .inr (by decide +kernel)) (by rw [isSubtype_type]; kernel_rfl)
theorem entry_ge : entryFor table "bytes.__ge__" = some Builtin.«bytes.__ge__» := entryFor_of_tree (by kernel_rfl)
theorem args_ge (a b : Value) : argsOk "bytes.__ge__" ⟨[a, b], []⟩ := by
  unfold argsOk; rw [signature?_of (id := "bytes.__ge__") (n := ['_', '_', 'e', 'g', '_', '_']) (o := ['s', 'e', 't', 'y', 'b']) (by kernel_rfl) FB.owner_bytes]; kernel_rfl
theorem gives_ge (b c : Array UInt8) (t u : Tok) : Gives («bytes.__ge__» ⟨[.bytes b t, .bytes c u], []⟩) (.val (.bool (cmpd "__ge__" b c))) := by
  refine .of_wp fun M A E s Q hq => ?_
  show wpAny M A (isInstance (.bytes c u) (.type "bytes") >>= fun r => _) _ E s
  refine wpAny_bind (wpAny_isInstance (typeIs_bytes s c u) F.sub_bytes_bytes ?_)
  exact wpAny_pure ⟨_, rfl, hq⟩
theorem ge_bytes {prog : Program} {w : World} {A : Around} {E : Value → Shared → Prop} {s : Shared} {b c : Array UInt8} {t u : Tok} {Q : Value → Shared → Prop} (h : Q (.bool (cmpd "__ge__" b c)) s) : wpAny (model prog w) A (compareOp .GtE (.bytes b t) (.bytes c u)) Q E s :=
  compareOp_gives (op := .GtE) (typeIs_bytes s b t) (typeIs_bytes s c u) slot_ge entry_ge (args_ge _ _) (gives_ge b c t u) (fun e => nomatch e) h

theorem sp_bytes : typeLookup (.type "bytes") "__bytes__" = pure (some (.builtin "bytes.__bytes__")) := by rw [typeLookup_type, builtinLookup_eq_fast]; kernel_rfl
theorem bb_new {prog : Program} {w : World} {A : Around} {E : Value → Shared → Prop} {s : Shared} {b : Array UInt8} {t : Tok} {Q : Value → Shared → Prop} (h : Q (.bytes b t) s) :
    codeAny (model prog w) A (.call (.builtin "bytes.__new__") ⟨[.type "bytes", .bytes b t], []⟩) (wants Q E) s := by
  refine codeAny_of_tree ?_
  show wpAny _ A.in1 (do checkBuiltinCall "bytes.__new__" ⟨[.type "bytes", .bytes b t], []⟩; again (.builtin "bytes.__new__" ⟨[.type "bytes", .bytes b t], []⟩)) _ _ s
  refine wpAny_bind (wpAny_of_eq (F.bm_newCall _) (wpAny_pure ⟨plainId_quiet F.bm_plain _, codeAny_builtin F.bm_entry ?_⟩))
  rw [Around.under_plainId F.bm_plain _]
  have hT : s.TypeIs (.bytes b t) "bytes" := PySem.W.typeIs_bytes _ _ _
  unfold Builtin.«bytes.__new__»
  refine wpAny_bind (wpAny_of_eq (a := true) rfl ?_)
  refine bm_if_false rfl ?_
  refine wpAny_bind (wpAny_of_eq F.bm_sub ?_)
  refine bm_if_false rfl ?_
  refine wpAny_bind (wpAny_of_eq (F.bm_bind _) ?_)
  refine wpAny_bind (wpAny_of_eq (a := ()) rfl ?_)
  refine wpAny_bind (wpAny_of_eq (a := ()) rfl ?_)
  refine bm_if_false rfl ?_
  refine wpAny_bind (wpAny_specialOf hT sp_bytes ?_)
  refine wpAny_bind (wpAny_rule ?_)
  refine wpAny_bind (wpAny_typeOf hT ?_)
  refine bm_if_true rfl ?_
  first
    | exact wpAny_pure h
    | exact wpAny_bind (wpAny_pure (wpAny_pure h))
theorem call_bb {prog : Program} {w : World} {A : Around} {E : Value → Shared → Prop} {s : Shared} {b : Array UInt8} {t : Tok} {Q : Value → Shared → Prop} (h : Q (.bytes b t) s) :
    wpAny (model prog w) A (call (.type "bytes") [.bytes b t]) Q E s := by
  refine callType_codes (Q₁ := fun obj s₁ => s₁.TypeIs obj "bytes" ∧ Q obj s₁) F.bm_called (F.bm_typeCall _) F.entry_object_init (bb_new ⟨PySem.W.typeIs_bytes _ _ _, h⟩) fun obj s₁ h₁ => ?_
  exact ⟨h₁.1, F.args_object_init_2 obj _, object_init_meets F.bm_called.init.lookup F.bm_called.made (by decide) prog w A.in1 _ s₁ ⟨h₁.1, rfl, h₁.2⟩⟩
end By

/-- the six user keys, and the keys of the tables -/
noncomputable def us : Nat → List UInt8
  | 0 => []
  | 1 => [97]
  | 2 => [97, 0]
  | 3 => [98]
  | 4 => [99, 255]
  | _ => [100]
noncomputable def ub (u : Nat) : Array UInt8 := (us u).toArray
noncomputable def ik (u : Nat) (q : UInt8) : Array UInt8 := (us u ++ [1, q, 0, 0, 0, 0, 0, 0]).toArray
theorem cmp_lt {u v : Nat} (hu : u < 6) (hv : v < 6) : By.cmpd "__lt__" (ub u) (ub v) = decide (u < v) := by
  have h : ∀ u < 6, ∀ v < 6, By.cmpd "__lt__" (ub u) (ub v) = decide (u < v) := by decide +kernel
  exact h u hu v hv
theorem cmp_gt {u v : Nat} (hu : u < 6) (hv : v < 6) : By.cmpd "__gt__" (ub u) (ub v) = decide (v < u) := by
  have h : ∀ u < 6, ∀ v < 6, By.cmpd "__gt__" (ub u) (ub v) = decide (v < u) := by decide +kernel
  exact h u hu v hv
theorem cmp_ge {u v : Nat} (hu : u < 6) (hv : v < 6) : By.cmpd "__ge__" (ub u) (ub v) = decide (v ≤ u) := by
  have h : ∀ u < 6, ∀ v < 6, By.cmpd "__ge__" (ub u) (ub v) = decide (v ≤ u) := by decide +kernel
  exact h u hu v hv
theorem ik_size {u : Nat} {q : UInt8} (hu : u < 6) : 8 ≤ (ik u q).size ∧ (ik u q).size ≤ 10 := by
  match u, hu with
  | 0, _ | 1, _ | 2, _ | 3, _ | 4, _ | 5, _ => simp [ik, us]
theorem ub_size {u : Nat} (hu : u < 6) : (ub u).size ≤ 2 := by
  match u, hu with
  | 0, _ | 1, _ | 2, _ | 3, _ | 4, _ | 5, _ => simp [ub, us]
theorem picked_ik {u : Nat} {q : UInt8} (hu : u < 6) : KBy.picked (ik u q) none (some (((ik u q).size : Int) - 8)) = ub u := by
  rw [KBc.picked_eq]
  match u, hu with
  | 0, _ | 1, _ | 2, _ | 3, _ | 4, _ | 5, _ => rfl


theorem rg02_5 : True := by
  k_with "compareOp Lt bytes bytes" => ((refine By.lt_bytes ?_))
  k_with "compareOp Gt bytes bytes" => ((refine By.gt_bytes ?_))
  k_with "compareOp GtE bytes bytes" => ((refine By.ge_bytes ?_))
  k_with "call type:bytes" => (((with_reducible show wpAny _ _ (call (Value.type "bytes") [Value.bytes _ _]) _ _ _); refine By.call_bb ?_))
  exact trivial
-- the premises of code_def, and the new frame
theorem rg02_6 : True := by
  k_with "mine enter" => (((case k6 => k_is); (case k7 => k_is); (case k8 => k_room); (case k9 => exact BindsTo.of_eq rfl); (case c5 => decide); (case kB => exact locs rfl); (case c2 => exact rfl); (case c3 => exact rfl); (case c4 => exact rfl); k_whole; intro _ _ _ _ _ _ _ _ _; (try dsimp only); (refine st_mark ?_); (intro hK9q9); (try dsimp only at hK9q9); (try k_fold); (try (revert hK9q9; intro _))))
  exact trivial

theorem spec_user_of {w : World} {A : Around} {h₀ : Heap} {L : Addr} {m : Str → Option Value} {news : List (Addr × Obj)} {s : Shared} {R : Result → Shared → Prop}
  {u : Nat} {q : UInt8} {tk : Tok} (C : Cx w A h₀ L s.heap m news) (hroom : A.depth + 10 < 1000)
  (h6 : u < 6)
  (ret : ∀ tk' h' tks, Fr h₀ L h' m → News h₀ L h' news → R (.ok (.ret (.bytes (ub u) tk'))) { s with heap := h', toks := tks }) :
  codeAny (model P w) A (.call (.ref 138) ⟨[.bytes (ik u q) tk], []⟩) R s := by
  obtain ⟨⟨A₀, base, env, outer, B, hA, hf, hke⟩, F, X, N, ⟨loose, mean, mg, mb, T⟩, hh⟩ := C
  have hk : KBw.bInts (ik u q) = KBw.bInts (ik u q) := rfl
  have hsz := ik_size (q := q) h6
  have hsz' := KBw.ints_length (ik u q)
  refine' code_def (binds := [(Str.ofString "ik", .bytes (ik u q) tk)]) B F X N T hA hf hke ?k6 ?k7 ?k8 ?k9 ?kB ?_ ?c2 ?c3 ?c4 ?c5
  walk_at "mine enter"
  k_steps
  rw [hsz', picked_ik h6]
  exact ret _ _ _ (by k_asm) (by k_asm)
-- tags
theorem cx_mk {w : World} {A : Around} {h₀ : Heap} {L : Addr} {h : Heap} {m : Str → Option Value} {news : List (Addr × Obj)} (F : Fr h₀ L h m) (N : News h₀ L h news) (X : (KM w.params).In h₀) (T : CxT h₀) (hh : A.handled = none) (B : CxB A h₀ L) : Cx w A h₀ L h m news := ⟨B, F, X, N, T, hh⟩
theorem rg03_0 : True := by
  k_with "mine cx" => ((refine' cx_mk (by k_asm) (by k_asm) (by k_asm) (by exact ⟨_, _, _, _, by assumption⟩) (by first | rfl | assumption) (by exact ⟨_, _, _, _, by assumption, (by first | exact rfl | exact Around.frames_deeper (Below.stack (by assumption))), rfl, (by first | exact rfl | assumption)⟩)))
  k_with "mine room" => ((first | k_room | k_units))
  k_with "call ref" => (k_dflt ((with_reducible show wpAny _ _ (call (Value.ref 138) _ _) _ _ _); refine wpAny_call ?_; refine' spec_user_of (by walk_at "mine cx") (by walk_at "mine room") (by assumption) ?_; intro _ _ _ _ _; (try k_sweep); (try dsimp only)))
  exact trivial

noncomputable def tv (q : UInt8) : Nat → Int
  | 0 => 1 + 256 * (q.toNat : Int)
  | _ => 0
theorem tv_small {q : UInt8} {e : Nat} (hq : q = 1 ∨ q = 9) : (tv q e).natAbs < 2 ^ 64 := by
  rcases hq with rfl | rfl <;> cases e <;> simp [tv] <;> decide
theorem rg03_1 : True := by
  k_with "binaryOp LShift int int" => ((refine lshift_int_small (by decide) (by decide) (by first | exact tv_small (by assumption) | walk_at "mine om") ?_))
  k_with "binaryOp BitOr int int" => ((refine or_int ?_))
  exact trivial
theorem ik_ints {u : Nat} {q : UInt8} : KBw.bInts (ik u q) = ((us u).map fun c => (c.toNat : Int)) ++ [1, (q.toNat : Int), 0, 0, 0, 0, 0, 0] := by
  unfold ik
  rw [KBw.ints_list, List.map_append]
  rfl
theorem us_len {u : Nat} (hu : u < 6) : (us u).length ≤ 2 := by
  match u, hu with
  | 0, _ | 1, _ | 2, _ | 3, _ | 4, _ | 5, _ => simp [us]
theorem ik_at {u : Nat} {q : UInt8} {i : Int} (j : Nat) (hi : i = ((us u).length : Int) + j) : (KBw.bInts (ik u q)).getD i.toNat 0 = [1, (q.toNat : Int), 0, 0, 0, 0, 0, 0].getD j 0 := by
  have e : i.toNat = (us u).length + j := by walk_at "mine om"
  rw [ik_ints, e]
  simp [List.getElem?_append_right]

theorem spec_read32 {w : World} {A : Around} {h₀ : Heap} {L : Addr} {m : Str → Option Value} {news : List (Addr × Obj)} {s : Shared} {R : Result → Shared → Prop}
  {u : Nat} {q : UInt8} {tk ti : Tok} {i : Int} (e : Nat) (C : Cx w A h₀ L s.heap m news) (hroom : A.depth + 10 < 1000)
  (h6 : u < 6) (hq : q = 1 ∨ q = 9) (hi : i = ((us u).length : Int) + e) (he : e = 0 ∨ e = 4)
  (ret : ∀ tk' h' tks, Fr h₀ L h' m → News h₀ L h' news → R (.ok (.ret (.int (tv q e) tk'))) { s with heap := h', toks := tks }) :
  codeAny (model P w) A (.call (.ref 103) ⟨[.bytes (ik u q) tk, .int i ti], []⟩) R s := by
  obtain ⟨⟨A₀, base, env, outer, B, hA, hf, hke⟩, F, X, N, ⟨loose, mean, mg, mb, T⟩, hh⟩ := C
  have hl := us_len h6
  have hk : KBw.bInts (ik u q) = KBw.bInts (ik u q) := rfl
  have hlen : (KBw.bInts (ik u q)).length = (us u).length + 8 := by rw [ik_ints]; simp
  refine' code_def (binds := [(Str.ofString "data", .bytes (ik u q) tk), (Str.ofString "at", .int i ti)]) B F X N T hA hf hke ?k6 ?k7 ?k8 ?k9 ?kB ?_ ?c2 ?c3 ?c4 ?c5
  walk_at "mine enter"
  k_steps
  have h0 : (KBw.bInts (ik u q)).getD i.toNat 0 = [1, (q.toNat : Int), 0, 0, 0, 0, 0, 0].getD e 0 := ik_at e hi
  have h1 : (KBw.bInts (ik u q)).getD (i + 1).toNat 0 = [1, (q.toNat : Int), 0, 0, 0, 0, 0, 0].getD (e + 1) 0 := ik_at (e + 1) (by walk_at "mine om")
  have h2 : (KBw.bInts (ik u q)).getD (i + 2).toNat 0 = [1, (q.toNat : Int), 0, 0, 0, 0, 0, 0].getD (e + 2) 0 := ik_at (e + 2) (by walk_at "mine om")
  have h3 : (KBw.bInts (ik u q)).getD (i + 3).toNat 0 = [1, (q.toNat : Int), 0, 0, 0, 0, 0, 0].getD (e + 3) 0 := ik_at (e + 3) (by walk_at "mine om")
  rw [h0, h1, h2, h3]
  have hv : Builtin.bitOr (Builtin.bitOr (Builtin.bitOr ([1, (q.toNat : Int), 0, 0, 0, 0, 0, 0].getD e 0) ([1, (q.toNat : Int), 0, 0, 0, 0, 0, 0].getD (e + 1) 0 * 2 ^ Int.toNat 8)) ([1, (q.toNat : Int), 0, 0, 0, 0, 0, 0].getD (e + 2) 0 * 2 ^ Int.toNat 16)) ([1, (q.toNat : Int), 0, 0, 0, 0, 0, 0].getD (e + 3) 0 * 2 ^ Int.toNat 24) = tv q e := by
    rcases he with rfl | rfl <;> rcases hq with rfl | rfl <;> decide +kernel
  rw [hv]
  exact ret _ _ _ (by k_asm) (by k_asm)
theorem rg03_2 : True := by
  k_with "call ref" => (k_dflt ((with_reducible show wpAny _ _ (call (Value.ref 103) _ _) _ _ _); refine wpAny_call ?_; (first | (refine' spec_read32 0 (by walk_at "mine cx") (by walk_at "mine room") (by assumption) (by assumption) (by walk_at "mine om") (.inl rfl) ?_) | (refine' spec_read32 4 (by walk_at "mine cx") (by walk_at "mine room") (by assumption) (by assumption) (by walk_at "mine om") (.inr rfl) ?_)); intro _ _ _ _ _; (try k_sweep); (try dsimp only)))
  exact trivial

theorem spec_read64 {w : World} {A : Around} {h₀ : Heap} {L : Addr} {m : Str → Option Value} {news : List (Addr × Obj)} {s : Shared} {R : Result → Shared → Prop}
  {u : Nat} {q : UInt8} {tk ti : Tok} {i : Int} (C : Cx w A h₀ L s.heap m news) (hroom : A.depth + 20 < 1000)
  (h6 : u < 6) (hq : q = 1 ∨ q = 9) (hi : i = ((us u).length : Int))
  (ret : ∀ tk' h' tks, Fr h₀ L h' m → News h₀ L h' news → R (.ok (.ret (.int (tv q 0) tk'))) { s with heap := h', toks := tks }) :
  codeAny (model P w) A (.call (.ref 110) ⟨[.bytes (ik u q) tk, .int i ti], []⟩) R s := by
  obtain ⟨⟨A₀, base, env, outer, B, hA, hf, hke⟩, F, X, N, ⟨loose, mean, mg, mb, T⟩, hh⟩ := C
  have hl := us_len h6
  have hk : KBw.bInts (ik u q) = KBw.bInts (ik u q) := rfl
  have hlen : (KBw.bInts (ik u q)).length = (us u).length + 8 := by rw [ik_ints]; simp
  refine' code_def (binds := [(Str.ofString "data", .bytes (ik u q) tk), (Str.ofString "at", .int i ti)]) B F X N T hA hf hke ?k6 ?k7 ?k8 ?k9 ?kB ?_ ?c2 ?c3 ?c4 ?c5
  walk_at "mine enter"
  k_steps
  have hv : Builtin.bitOr (tv q 0) (tv q 4 * 2 ^ Int.toNat 32) = tv q 0 := by
    rcases hq with rfl | rfl <;> decide +kernel
  rw [hv]
  exact ret _ _ _ (by k_asm) (by k_asm)
theorem rg03_3 : True := by
  k_with "call ref" => (k_dflt ((with_reducible show wpAny _ _ (call (Value.ref 110) _ _) _ _ _); refine wpAny_call ?_; refine' spec_read64 (by walk_at "mine cx") (by walk_at "mine room") (by assumption) (by assumption) (by walk_at "mine om") ?_; intro _ _ _ _ _; (try k_sweep); (try dsimp only)))
  exact trivial

theorem spec_tag_of {w : World} {A : Around} {h₀ : Heap} {L : Addr} {m : Str → Option Value} {news : List (Addr × Obj)} {s : Shared} {R : Result → Shared → Prop}
  {u : Nat} {q : UInt8} {tk : Tok} (C : Cx w A h₀ L s.heap m news) (hroom : A.depth + 30 < 1000)
  (h6 : u < 6) (hq : q = 1 ∨ q = 9)
  (ret : ∀ tk' h' tks, Fr h₀ L h' m → News h₀ L h' news → R (.ok (.ret (.int (tv q 0) tk'))) { s with heap := h', toks := tks }) :
  codeAny (model P w) A (.call (.ref 145) ⟨[.bytes (ik u q) tk], []⟩) R s := by
  obtain ⟨⟨A₀, base, env, outer, B, hA, hf, hke⟩, F, X, N, ⟨loose, mean, mg, mb, T⟩, hh⟩ := C
  have hl := us_len h6
  have hk : KBw.bInts (ik u q) = KBw.bInts (ik u q) := rfl
  have hlen : (KBw.bInts (ik u q)).length = (us u).length + 8 := by rw [ik_ints]; simp
  refine' code_def (binds := [(Str.ofString "ik", .bytes (ik u q) tk)]) B F X N T hA hf hke ?k6 ?k7 ?k8 ?k9 ?kB ?_ ?c2 ?c3 ?c4 ?c5
  walk_at "mine enter"
  k_steps
  exact ret _ _ _ (by k_asm) (by k_asm)
theorem rg03_4 : True := by
  k_with "mine k_enter" => ((apply code_def; (case hA => first | exact rfl | exact Around.frames_deeper (Below.stack (by assumption))); (case hf => exact rfl); (case hke => first | exact rfl | assumption); (case B => k_asm); (case F => k_asm); (case X₀ => k_asm); (case N => k_asm); (case T => k_asm); (case ho => k_is); (case hcd => k_is); (case hroom => k_room); (case hbind => first | exact BindsTo.of_eq rfl | exact binds_K (by k_in) rfl (by k_is) rfl rfl rfl | fail "k_enter: no rule for these arguments"); (case hcell => decide); (case hloc => exact locs rfl); (case hco => exact rfl); (case hgen => exact rfl); (case hk => exact rfl); k_whole; intro _ _ _ _ _ _ Bq9 _ _; (try dsimp only); (try k_lift Bq9); (try k_fold); (try (revert Bq9; intro _))))
  k_with "call ref" => (k_dflt ((with_reducible show wpAny _ _ (call (Value.ref 145) _ _) _ _ _); refine wpAny_call ?_; refine' spec_tag_of (by walk_at "mine cx") (by walk_at "mine room") (by assumption) (by assumption) ?_; intro _ _ _ _ _; (try k_sweep); (try dsimp only)))
  exact trivial
-- order
/-- a field of an object's dict -/
noncomputable abbrev fe (w : World) (n : String) (t : Tok) (v : Value) : DictEntry := ⟨PyData.keyHash w.params (Str.ofString n), .str (Str.ofString n) t, v⟩
/-- the ledger bears the order of the internal keys at o -/
inductive OrdAt (w : World) (news : List (Addr × Obj)) (o : Addr) : Prop
  | mk (d b e : Addr) (t : Tok) (h1 : (o, instObj 272 d) ∈ news) (h2 : (d, dictOf [fe w "user_order" t (.ref b)] 1) ∈ news) (h3 : (b, instObj 218 e) ∈ news) (h4 : (e, dictOf [] 0) ∈ news)
theorem OrdAt.mono {w : World} {news news' : List (Addr × Obj)} {o : Addr} (h : OrdAt w news o) (hs : ∀ p ∈ news, p ∈ news') : OrdAt w news' o :=
  let ⟨d, b, e, t, h1, h2, h3, h4⟩ := h; ⟨d, b, e, t, hs _ h1, hs _ h2, hs _ h3, hs _ h4⟩
theorem cvI {R : Result → Shared → Prop} {x y : Int} {t : Tok} {s : Shared} (e : x = y) (h : R (.ok (.ret (.int x t))) s) : R (.ok (.ret (.int y t))) s := e ▸ h
theorem lt_ub {prog : Program} {w : World} {A : Around} {E : Value → Shared → Prop} {s : Shared} {u v : Nat} {t t' : Tok} {Q : Value → Shared → Prop} (hu : u < 6) (hv : v < 6) (h : Q (.bool (decide (u < v))) s) : wpAny (model prog w) A (compareOp .Lt (.bytes (ub u) t) (.bytes (ub v) t')) Q E s :=
  By.lt_bytes (by rw [cmp_lt hu hv]; exact h)
theorem gt_ub {prog : Program} {w : World} {A : Around} {E : Value → Shared → Prop} {s : Shared} {u v : Nat} {t t' : Tok} {Q : Value → Shared → Prop} (hu : u < 6) (hv : v < 6) (h : Q (.bool (decide (v < u))) s) : wpAny (model prog w) A (compareOp .Gt (.bytes (ub u) t) (.bytes (ub v) t')) Q E s :=
  By.gt_bytes (by rw [cmp_gt hu hv]; exact h)
theorem ge_ub {prog : Program} {w : World} {A : Around} {E : Value → Shared → Prop} {s : Shared} {u v : Nat} {t t' : Tok} {Q : Value → Shared → Prop} (hu : u < 6) (hv : v < 6) (h : Q (.bool (decide (v ≤ u))) s) : wpAny (model prog w) A (compareOp .GtE (.bytes (ub u) t) (.bytes (ub v) t')) Q E s :=
  By.ge_bytes (by rw [cmp_ge hu hv]; exact h)
theorem rg04_0 : True := by
  k_with "compareOp Lt bytes bytes" => ((refine lt_ub (by assumption) (by assumption) ?_))
  k_with "compareOp Gt bytes bytes" => ((refine gt_ub (by assumption) (by assumption) ?_))
  k_with "compareOp GtE bytes bytes" => ((refine ge_ub (by assumption) (by assumption) ?_))
  exact trivial
noncomputable def ucmp (u v : Nat) : Int := if u < v then -1 else if v < u then 1 else 0
theorem spec_ucmp {w : World} {A : Around} {h₀ : Heap} {L : Addr} {m : Str → Option Value} {news : List (Addr × Obj)} {s : Shared} {R : Result → Shared → Prop}
  {self : Value} {u v : Nat} {t1 t2 : Tok} (C : Cx w A h₀ L s.heap m news) (hroom : A.depth + 10 < 1000) (h6 : u < 6) (h6' : v < 6)
  (ret : ∀ tk' h' tks, Fr h₀ L h' m → News h₀ L h' news → R (.ok (.ret (.int (ucmp u v) tk'))) { s with heap := h', toks := tks }) :
  codeAny (model P w) A (.call (.ref 159) ⟨[self, .bytes (ub u) t1, .bytes (ub v) t2], []⟩) R s := by
  obtain ⟨⟨A₀, base, env, outer, B, hA, hf, hke⟩, F, X, N, ⟨loose, mean, mg, mb, T⟩, hh⟩ := C
  refine' code_def (binds := [(Str.ofString "self", self), (Str.ofString "a", .bytes (ub u) t1), (Str.ofString "b", .bytes (ub v) t2)]) B F X N T hA hf hke ?k6 ?k7 ?k8 ?k9 ?kB ?_ ?c2 ?c3 ?c4 ?c5
  walk_at "mine enter"
  k_steps
  all_goals exact cvI (by simp only [decide_eq_true_eq, decide_eq_false_iff_not] at *; unfold ucmp; (repeat' split) <;> first | rfl | walk_at "mine om") (ret _ _ _ (by k_asm) (by k_asm))
theorem rg04_1 : True := by
  k_with "call ref" => (k_dflt ((with_reducible show wpAny _ _ (call (Value.ref 159) _ _) _ _ _); refine wpAny_call ?_; refine' spec_ucmp (by walk_at "mine cx") (by walk_at "mine room") (by assumption) (by assumption) ?_; intro _ _ _ _ _; (try k_sweep); (try dsimp only)))
  exact trivial
noncomputable def kcmp (u : Nat) (q : UInt8) (v : Nat) (q' : UInt8) : Int := if ucmp u v ≠ 0 then ucmp u v else if tv q' 0 < tv q 0 then -1 else if tv q 0 < tv q' 0 then 1 else 0
theorem spec_kcmp {w : World} {A : Around} {h₀ : Heap} {L : Addr} {m : Str → Option Value} {news : List (Addr × Obj)} {s : Shared} {R : Result → Shared → Prop}
  {o : Addr} {u v : Nat} {q q' : UInt8} {t1 t2 : Tok} (C : Cx w A h₀ L s.heap m news) (hroom : A.depth + 60 < 1000) (ho : OrdAt w news o) (h6 : u < 6) (h6' : v < 6) (hq : q = 1 ∨ q = 9) (hq' : q' = 1 ∨ q' = 9)
  (ret : ∀ tk' h' tks, Fr h₀ L h' m → News h₀ L h' news → R (.ok (.ret (.int (kcmp u q v q') tk'))) { s with heap := h', toks := tks }) :
  codeAny (model P w) A (.call (.ref 241) ⟨[.ref o, .bytes (ik u q) t1, .bytes (ik v q') t2], []⟩) R s := by
  obtain ⟨⟨A₀, base, env, outer, B, hA, hf, hke⟩, F, X, N, ⟨loose, mean, mg, mb, T⟩, hh⟩ := C
  obtain ⟨d, b, e, t, o1, o2, o3, o4⟩ := ho
  refine' code_def (binds := [(Str.ofString "self", .ref o), (Str.ofString "a", .bytes (ik u q) t1), (Str.ofString "b", .bytes (ik v q') t2)]) B F X N T hA hf hke ?k6 ?k7 ?k8 ?k9 ?kB ?_ ?c2 ?c3 ?c4 ?c5
  walk_at "mine enter"
  k_steps
  all_goals exact cvI (by simp only [decide_eq_true_eq, decide_eq_false_iff_not] at *; unfold kcmp; (repeat' split) <;> first | rfl | walk_at "mine om") (ret _ _ _ (by k_asm) (by k_asm))
theorem rg04_2 : True := by
  k_with "call ref" => (k_dflt ((with_reducible show wpAny _ _ (call (Value.ref 241) _ _) _ _ _); refine wpAny_call ?_; refine' spec_kcmp (by walk_at "mine cx") (by walk_at "mine room") (by first | assumption | (refine OrdAt.mono (by assumption) ?_; intro q hq; (repeat (first | exact hq | refine List.mem_cons_of_mem _ ?_)); done)) (by assumption) (by assumption) (by first | assumption | exact .inl rfl | exact .inr rfl) (by first | assumption | exact .inl rfl | exact .inr rfl) ?_; intro _ _ _ _ _; (try k_sweep); (try dsimp only)))
  exact trivial
-- loops
theorem mem_of {a : Addr × Obj} {l : List (Addr × Obj)} (h : a ∈ l) : List.Mem a l := h
theorem rg05_0 : True := by
  k_with "mine k_mem" => ((refine mem_of ?_; ktr_member))
  exact trivial
noncomputable def offL (I : Addr) (l : List (Addr × Obj)) : List (Addr × Obj) := l.filter (fun p => !(p.1 == I))
theorem mem_offL {I : Addr} {l : List (Addr × Obj)} {p : Addr × Obj} : p ∈ offL I l ↔ p ∈ l ∧ p.1 ≠ I := by
  unfold offL
  rw [List.mem_filter]
  simp
/-- behind a statement: the rest waits -/
noncomputable def CutQ (M : Model) (A : Around) (rest : List Stmt) (env : Env) (Q : Flow → Shared → Prop) (E : Value → Shared → Prop) (f : Flow) (s : Shared) : Prop := match f with | .next => wpAny M A (execs rest env) Q E s | f => Q f s
theorem wp_cut {M : Model} {A : Around} {a : Stmt} {rest : List Stmt} {env : Env} {Q : Flow → Shared → Prop} {E : Value → Shared → Prop} {s : Shared} (h : wpAny M A (exec a env) (CutQ M A rest env Q E) E s) : wpAny M A (execs (a :: rest) env) Q E s :=
  wpAny_execs_cons h
theorem wp_cutn {M : Model} {A : Around} {env : Env} {Q : Flow → Shared → Prop} {E : Value → Shared → Prop} (k : Nat) (l : List Stmt) {s : Shared} (h : wpAny M A (execs (l.take k) env) (CutQ M A (l.drop k) env Q E) E s) : wpAny M A (execs l env) Q E s := by
  intro Γ p hΓ
  have g := h Γ p hΓ
  clear h
  induction k generalizing l s p with
  | zero => exact g Γ p hΓ
  | succ k ih =>
    cases l with
    | nil => exact g Γ p hΓ
    | cons a r =>
      rw [List.take_succ_cons, execs_cons, Sem.wp_bind'] at g
      rw [execs_cons, Sem.wp_bind']
      refine Sem.wp_mono M Γ _ (fun f p' s' h' => ?_) (fun _ _ _ h' => h') _ _ g
      cases f with
      | next => exact ih r _ h'
      | ret v => exact h'
      | brk => exact h'
      | cont => exact h'
/-- where the ways of some statements meet: what holds of the frame and the ledger -/
inductive JEnd (h₀ : Heap) (L : Addr) (J : (Str → Option Value) → List (Addr × Obj) → Prop) (ge : Array GenState) (dr : Drawn) (os : OsState) (s₃ : Shared) : Prop
  | mk (h' : Heap) (tk : Nat) (m' : Str → Option Value) (led : List (Addr × Obj)) (e : s₃ = { heap := h', gens := ge, drawn := dr, toks := tk, os := os }) (F : Fr h₀ L h' m') (N : News h₀ L h' led) (j : J m' led)
noncomputable def JPost (h₀ : Heap) (L : Addr) (J : (Str → Option Value) → List (Addr × Obj) → Prop) (s : Shared) (Q : Flow → Shared → Prop) (f : Flow) (s₃ : Shared) : Prop := match f with
  | .next => JEnd h₀ L J s.gens s.drawn s.os s₃
  | f => Q f s₃
theorem wp_join {M : Model} {A : Around} {env : Env} {Q : Flow → Shared → Prop} {E : Value → Shared → Prop} {h₀ : Heap} {L : Addr} {m : Str → Option Value} (k : Nat) (l : List Stmt) {s : Shared} (_F : Fr h₀ L s.heap m) (J : (Str → Option Value) → List (Addr × Obj) → Prop)
    (h : wpAny M A (execs (l.take k) env) (JPost h₀ L J s Q) E s) (h2 : ∀ h' tk m' led, Fr h₀ L h' m' → News h₀ L h' led → J m' led → wpAny M A (execs (l.drop k) env) Q E { s with heap := h', toks := tk }) : wpAny M A (execs l env) Q E s :=
  wp_cutn k l (wpAny_mono h (fun f s₃ hf => by
    cases f with
    | next => obtain ⟨h', tk, m', led, rfl, F, N, j⟩ := hf; exact h2 h' tk m' led F N j
    | brk => exact hf
    | cont => exact hf
    | ret v => exact hf) fun _ _ e => e)
/-- the end of a turn of a loop -/
inductive TurnI (h₀ : Heap) (L I : Addr) (own : List (Addr × Obj)) (J : (Str → Option Value) → List (Addr × Obj) → Prop) (ge : Array GenState) (dr : Drawn) (os : OsState) (s₃ : Shared) : Prop
  | mk (h' : Heap) (tk : Nat) (m' : Str → Option Value) (led : List (Addr × Obj)) (e : s₃ = { heap := h', gens := ge, drawn := dr, toks := tk, os := os }) (F : Fr h₀ L h' m') (N : News h₀ L h' led) (o : ∀ p ∈ own, p ∈ led) (j : J m' (offL I led))
abbrev Turn (h₀ : Heap) (L I : Addr) (own : List (Addr × Obj)) (J : (Str → Option Value) → List (Addr × Obj) → Prop) (s s₃ : Shared) : Prop := TurnI h₀ L I own J s.gens s.drawn s.os s₃
noncomputable def TurnPost (h₀ : Heap) (L I : Addr) (own : List (Addr × Obj)) (J : (Str → Option Value) → List (Addr × Obj) → Prop) (s : Shared) (Q : Flow → Shared → Prop) (f : Flow) (s₃ : Shared) : Prop :=
  match f with
  | .ret v => Q (.ret v) s₃
  | .brk => Q .next s₃
  | _ => Turn h₀ L I own J s s₃
abbrev noE : Value → Shared → Prop := fun _ _ => False
noncomputable def flowR (Q : Flow → Shared → Prop) : Result → Shared → Prop := fun r s' => match r with | .ok f => Q f s' | .error _ => False

theorem own_fp {h₀ h : Heap} {fp : List Addr} {p : Addr × Obj} (hp : p ∈ ownOf h₀ fp h) : p.1 ∈ fp := by
  obtain ⟨b, hb, e⟩ := List.mem_filterMap.mp hp
  split at e
  · obtain ⟨o, _, rfl⟩ := Option.map_eq_some_iff.mp e
    exact hb
  · cases e
theorem forW {prog : Program} {w : World} {A : Around} {s : Shared} {env : Env} {h₀ : Heap} {Q : Flow → Shared → Prop} {target : Expr} {body : List Stmt} {I : Addr} {fp : List Addr} {n : Nat} {P : Nat → Value → Prop} {St : Nat → Heap → Prop}
    {m : Str → Option Value} {news : List (Addr × Obj)} (W : Walks prog w A I fp [I] n P St)
    (hgo : ∀ i v (s' : Shared) (Q : Unit → Shared → Prop) (E : Value → Shared → Prop), P i v → St (i + 1) s'.heap → Q () s' → wpAny (model prog w) A (letOwnedTupleGo target (.ref I) v) Q E s')
    (hLf : env.locals ∉ fp) (hwr : h₀.get? I = none) (hnw : ∀ p ∈ news, p.1 ≠ I)
    (hst : St 0 s.heap) (F : Fr h₀ env.locals s.heap m) (N : News h₀ env.locals s.heap news)
    (J : Nat → (Str → Option Value) → List (Addr × Obj) → Prop) (h0 : J 0 m news)
    (step : ∀ i v m₁ nw led own h tk, i < n → P i v → J i m₁ nw → (∀ p ∈ nw, p ∈ led) → (∀ p ∈ nw, p.1 ≠ I) → (∀ p ∈ own, p ∈ led) → (∀ p ∈ own, p.1 ∈ fp) → (∀ b ∈ fp, h₀.get? b = none → ∀ o, h.get? b = some o → (b, o) ∈ own) → St (i + 1) h →
      Fr h₀ env.locals h m₁ → News h₀ env.locals h led →
      wpAny (model prog w) A (assign target env v) (fun _ s₂ => wpAny (model prog w) A (execs body env) (TurnPost h₀ env.locals I own (J (i + 1)) s Q) noE s₂) noE { s with heap := h, toks := tk })
    (hR : ∀ h' tk m' news', Fr h₀ env.locals h' m' → News h₀ env.locals h' news' → J n m' news' → Q .next { s with heap := h', toks := tk }) :
    codeAny (model prog w) A (.forLoop target (.ref I) body [] env) (flowR Q) s := by
  have old : ∀ b o, h₀.get? b = some o → b ≠ I := fun b o e hb => by subst hb; rw [hwr] at e; cases e
  have hLI : env.locals ≠ I := fun e => hLf (e ▸ W.sub _ (by simp))
  refine codeAny_forLoop_any
    (fun k s' => ∃ h' tk m' news' i, s' = { s with heap := h', toks := tk } ∧ St i h' ∧ Fr h₀ env.locals h' m' ∧ News h₀ env.locals h' news' ∧ (∀ p ∈ news', p.1 ≠ I) ∧ J i m' news' ∧ i ≤ n ∧ k = n + 1 - i) ?_ (n + 1)
    ⟨s.heap, s.toks, m, news, 0, rfl, hst, F, N, hnw, h0, Nat.zero_le _, rfl⟩
  rintro k s' ⟨h', tk, m', news', i, rfl, hst', F', N', hnw', hJ, hi, rfl⟩
  have next : ∀ h₁ : Heap, (∀ b o, b ∉ [I] → h'.get? b = some o → h₁.get? b = some o) → Fr h₀ env.locals h₁ m' ∧ News h₀ env.locals h₁ news' := fun h₁ hk₁ =>
    ⟨⟨F'.ns.at' fun o e => hk₁ _ o (by simpa using hLI) e, fun b o e => hk₁ b o (by simpa using old b o e) (F'.keep b o e), F'.above⟩, fun p hp => ⟨hk₁ _ _ (by simpa using hnw' p hp) (N' p hp).1, (N' p hp).2⟩⟩
  by_cases hlt : i < n
  · refine W.item i _ _ _ hlt hst' fun v h₁ tk₁ hP hst₁ hk₁ => ?_
    obtain ⟨F₁, N₁⟩ := next h₁ hk₁
    refine hgo i v _ _ _ hP hst₁ ?_
    have Nown : News h₀ env.locals h₁ (ownOf h₀ fp h₁) := news_ownOf hLf
    refine wpAny_mono (step i v m' news' (ownOf h₀ fp h₁ ++ news') (ownOf h₀ fp h₁) h₁ tk₁ hlt hP hJ (fun p hp => List.mem_append_right _ hp) hnw' (fun p hp => List.mem_append_left _ hp) (fun p hp => own_fp hp) (fun b hb hn o e => mem_ownOf hb hn e) hst₁ F₁ (Nown.append N₁)) (fun _ s₂ h₂ => ?_) fun _ _ e => e.elim
    refine wpAny_mono h₂ (fun f s₃ h₃ => ?_) fun _ _ e => e.elim
    have goOn : Turn h₀ env.locals I (ownOf h₀ fp h₁) (J (i + 1)) s s₃ → ∃ m, m < n + 1 - i ∧ ∃ h' tk m' news' i, s₃ = { s with heap := h', toks := tk } ∧ St i h' ∧ Fr h₀ env.locals h' m' ∧ News h₀ env.locals h' news' ∧ (∀ p ∈ news', p.1 ≠ I) ∧ J i m' news' ∧ i ≤ n ∧ m = n + 1 - i := by
      rintro ⟨h₃', tk₃, m₂, led, rfl, F₃, N₃, ho, hJ₃⟩
      refine ⟨n + 1 - (i + 1), by walk_at "mine om", h₃', tk₃, m₂, offL I led, i + 1, rfl, ?_, F₃, fun p hp => N₃ p (mem_offL.mp hp).1, fun p hp => (mem_offL.mp hp).2, hJ₃, hlt, rfl⟩
      refine W.frame _ _ _ hst₁ fun b hb o e => ?_
      cases hn : h₀.get? b with
      | some o₀ =>
        have : o₀ = o := by have := F₁.keep b o₀ hn; rw [e] at this; exact (Option.some.inj this).symm
        exact this ▸ F₃.keep b o₀ hn
      | none => exact (N₃ _ (ho _ (mem_ownOf hb hn e))).1
    cases f with
    | ret v => exact h₃
    | brk => exact h₃
    | cont => exact goOn h₃
    | next => exact goOn h₃
  · have hin : i = n := by walk_at "mine om"
    subst hin
    refine W.done _ _ _ hst' fun h₁ tk₁ hk₁ => wpAny_execs_nil ?_
    obtain ⟨F₁, N₁⟩ := next h₁ hk₁
    exact hR h₁ tk₁ m' news' F₁ N₁ hJ

/-- a for loop behind its source -/
noncomputable def MyFor (prog : Program) (w : World) (A : Around) (env : Env) (target : Expr) (body : List Stmt) (Q : Flow → Shared → Prop) (xv : Value) (s : Shared) : Prop :=
  wpAny (model prog w) A (pyIter xv) (fun it s₂ => codeAny (model prog w) A (.forLoop target it body [] env) (flowR Q) s₂) noE s
theorem myFor {prog : Program} {w : World} {A : Around} {s : Shared} {env : Env} {Q : Flow → Shared → Prop} {E : Value → Shared → Prop} {target iter : Expr} {body : List Stmt} {pos : Pos}
    (h : wpAny (model prog w) A (eval iter env) (fun xv s₁ => MyFor prog w A env target body Q xv s₁) E s) (hs : ∀ x, foldedSetIterable iter env x = pure x := by intro _; rfl) :
    wpAny (model prog w) A (exec (.For target iter body [] pos) env) Q E s :=
  wpAny_For (wpAny_mono h (fun xv s₁ h₁ => wpAny_mono h₁ (fun it s₂ h₂ => codeAny_mono h₂ fun r s' hr => by cases r with | ok f => exact hr | error e => exact hr.elim) fun _ _ e => e.elim) fun _ _ e => e) hs

theorem fresh_ne {h₀ h : Heap} {L : Addr} {news : List (Addr × Obj)} (N : News h₀ L h news) : ∀ p ∈ news, p.1 ≠ h.objs.size := fun p hp e => absurd (Heap.lt_size (N p hp).1) (e ▸ Nat.lt_irrefl _)
theorem base_none {h₀ h : Heap} {L : Addr} {m : Str → Option Value} (F : Fr h₀ L h m) : h₀.get? h.objs.size = none := by
  cases hq : h₀.get? h.objs.size with
  | none => rfl
  | some o' => exact absurd (Heap.lt_size (F.keep _ _ hq)) (Nat.lt_irrefl _)
theorem loc_lt {h₀ h : Heap} {L : Addr} {m : Str → Option Value} (F : Fr h₀ L h m) : L ≠ h.objs.size := fun e => by
  obtain ⟨oL, _, _, hL, _⟩ := F.ns
  exact absurd (Heap.lt_size hL) (e ▸ Nat.lt_irrefl _)

section
variable {prog : Program} {w : World} {A : Around} {s : Shared} {env : Env} {h₀ : Heap} {Q : Flow → Shared → Prop} {body : List Stmt} {m : Str → Option Value} {news : List (Addr × Obj)}

theorem for_list_go {L : Addr} (hL : env.locals = L) {target : Expr} {l : Addr} {its : Array Value} {k : Nat} (hh : A.handled = none) (F : Fr h₀ L s.heap m) (N : News h₀ L s.heap news) (hl : (l, listOf its k) ∈ news)
    (hgo : ∀ (I : Addr) (i : Nat) (v : Value) (s' : Shared) (Q : Unit → Shared → Prop) (E : Value → Shared → Prop), its[i]? = some v → s'.heap.IsListIter I l (i + 1) → Q () s' → wpAny (model prog w) A (letOwnedTupleGo target (.ref I) v) Q E s')
    (J : Nat → (Str → Option Value) → List (Addr × Obj) → Prop) (h0 : J 0 m news)
    (step : ∀ (I : Addr) (i : Nat) (v : Value) (m₁ : Str → Option Value) (nw led own : List (Addr × Obj)) (h : Heap) (tk : Nat), its[i]? = some v → J i m₁ nw → (∀ p ∈ nw, p ∈ led) → (∀ p ∈ nw, p.1 ≠ I) → (∀ p ∈ own, p ∈ led) → (∀ p ∈ own, p.1 = I ∨ p.1 = l) → (l, listOf its k) ∈ led → (∃ oI : Obj, (I, oI) ∈ led ∧ oI.cls = .type "list_iterator") → (∀ p ∈ news, p.1 ≠ I) →
      Fr h₀ L h m₁ → News h₀ L h led →
      wpAny (model prog w) A (assign target env v) (fun _ s₂ => wpAny (model prog w) A (execs body env) (TurnPost h₀ L I own (J (i + 1)) s Q) noE s₂) noE { s with heap := h, toks := tk })
    (done : ∀ h' tk m' news', Fr h₀ L h' m' → News h₀ L h' news' → J its.size m' news' → Q .next { s with heap := h', toks := tk }) :
    MyFor prog w A env target body Q (.ref l) s := by
  subst hL
  have hol := (N _ hl).1
  have hlt : l < s.heap.objs.size := Heap.lt_size hol
  have hls : s.heap.IsList l its := ⟨_, hol, rfl, _, rfl⟩
  refine wpAny_pyIter_list hls ?_
  have hnl : h₀.get? l = none := (N _ hl).2.2
  have W := Walks.list (prog := prog) (w := w) hh s.heap.objs.size l (Nat.ne_of_lt hlt) its
  refine forW (s := { s with heap := s.heap.push { cls := .type "list_iterator", data := .fields #[.ref l, .int 0 0] } }) W (fun i v s' Q E hP st hQ => hgo _ i v s' Q E hP st.1 hQ) ?_ (base_none F) (fresh_ne N)
    ⟨⟨_, Heap.get?_push_size _ rfl, rfl, rfl⟩, hls.at fun o e => Heap.get?_push_of_some _ e⟩ (F.push _) (fun p hp => ⟨Heap.get?_push_of_some _ (N p hp).1, (N p hp).2⟩) (fun i m nw => J i m nw ∧ (l, listOf its k) ∈ nw) ⟨h0, hl⟩ ?_ (fun h' tk m' news' F' N' hJ => done h' tk m' news' F' N' hJ.1)
  · intro hm
    rcases List.mem_cons.mp hm with e | hm
    · exact loc_lt F e
    · exact (N _ hl).2.1 (List.mem_singleton.mp hm).symm
  · intro i v m₁ nw led own h tk hi hP hJ hsub hnI hown hownI hmem hst F₁ N₁
    have hI : s.heap.objs.size ∈ [s.heap.objs.size, l] := List.mem_cons_self ..
    have hI' : l ∈ [s.heap.objs.size, l] := List.mem_cons_of_mem _ (List.mem_singleton.mpr rfl)
    obtain ⟨oI, hoI, hcI, _⟩ := hst.1
    have hll : (l, listOf its k) ∈ led := hsub _ hJ.2
    have hown' : (l, listOf its k) ∈ own := hmem l hI' hnl _ (N₁ _ hll).1
    refine wpAny_mono (step _ i v m₁ nw led own h tk hP hJ.1 hsub hnI hown (fun p hp => by have := hownI p hp; simpa using this) hll ⟨oI, hown _ (hmem _ hI (base_none F) oI hoI), hcI⟩ (fresh_ne N) F₁ N₁) (fun _ s₂ h₂ => wpAny_mono h₂ (fun f s₃ h₃ => ?_) fun _ _ e => e) fun _ _ e => e
    have go : Turn h₀ env.locals s.heap.objs.size own (J (i + 1)) s s₃ → Turn h₀ env.locals s.heap.objs.size own (fun m nw => J (i + 1) m nw ∧ (l, listOf its k) ∈ nw) { s with heap := s.heap.push { cls := .type "list_iterator", data := .fields #[.ref l, .int 0 0] } } s₃ := by
      rintro ⟨g3, tk₃, m₃, led', rfl, F₃, N₃, ho, hJ₃⟩
      exact ⟨g3, tk₃, m₃, led', rfl, F₃, N₃, ho, hJ₃, mem_offL.mpr ⟨ho _ hown', Nat.ne_of_lt hlt⟩⟩
    cases f with
    | ret v => exact h₃
    | brk => exact h₃
    | cont => exact go h₃
    | next => exact go h₃

theorem for_list2 {L : Addr} (hL : env.locals = L) {x : Str} {px : Pos} {l : Addr} {its : Array Value} {k : Nat} (hh : A.handled = none) (F : Fr h₀ L s.heap m) (N : News h₀ L s.heap news) (hl : (l, listOf its k) ∈ news)
    (J : Nat → (Str → Option Value) → List (Addr × Obj) → Prop) (h0 : J 0 m news)
    (step : ∀ (I : Addr) (i : Nat) (v : Value) (m₁ : Str → Option Value) (nw led own : List (Addr × Obj)) (h : Heap) (tk : Nat), its[i]? = some v → J i m₁ nw → (∀ p ∈ nw, p ∈ led) → (∀ p ∈ nw, p.1 ≠ I) → (∀ p ∈ own, p ∈ led) → (∀ p ∈ own, p.1 = I ∨ p.1 = l) → (l, listOf its k) ∈ led → (∃ oI : Obj, (I, oI) ∈ led ∧ oI.cls = .type "list_iterator") → (∀ p ∈ news, p.1 ≠ I) →
      Fr h₀ L h m₁ → News h₀ L h led →
      wpAny (model prog w) A (storeName env x v) (fun _ s₂ => wpAny (model prog w) A (execs body env) (TurnPost h₀ L I own (J (i + 1)) s Q) noE s₂) noE { s with heap := h, toks := tk })
    (done : ∀ h' tk m' news', Fr h₀ L h' m' → News h₀ L h' news' → J its.size m' news' → Q .next { s with heap := h', toks := tk }) :
    MyFor prog w A env (.Name x px) body Q (.ref l) s :=
  for_list_go hL hh F N hl (fun _ _ _ _ _ _ _ _ h => wpAny_pure h) J h0 (fun I i v m₁ nw led own h tk a1 a2 a3 a4 a5 a6 a7 a8 a9 a10 a11 => wpAny_assign_Name (step I i v m₁ nw led own h tk a1 a2 a3 a4 a5 a6 a7 a8 a9 a10 a11)) done

theorem for_list {L : Addr} (hL : env.locals = L) {x : Str} {px : Pos} {l : Addr} {its : Array Value} {k : Nat} (hh : A.handled = none) (F : Fr h₀ L s.heap m) (N : News h₀ L s.heap news) (hl : (l, listOf its k) ∈ news)
    (J : Nat → (Str → Option Value) → List (Addr × Obj) → Prop) (h0 : J 0 m news)
    (step : ∀ (I : Addr) (i : Nat) (v : Value) (m₁ : Str → Option Value) (nw led own : List (Addr × Obj)) (h : Heap) (tk : Nat), its[i]? = some v → J i m₁ nw → (∀ p ∈ nw, p ∈ led) → (∀ p ∈ nw, p.1 ≠ I) → (∀ p ∈ own, p ∈ led) → (l, listOf its k) ∈ led → (∃ oI : Obj, (I, oI) ∈ led ∧ oI.cls = .type "list_iterator") → (∀ p ∈ news, p.1 ≠ I) →
      Fr h₀ L h m₁ → News h₀ L h led →
      wpAny (model prog w) A (storeName env x v) (fun _ s₂ => wpAny (model prog w) A (execs body env) (TurnPost h₀ L I own (J (i + 1)) s Q) noE s₂) noE { s with heap := h, toks := tk })
    (done : ∀ h' tk m' news', Fr h₀ L h' m' → News h₀ L h' news' → J its.size m' news' → Q .next { s with heap := h', toks := tk }) :
    MyFor prog w A env (.Name x px) body Q (.ref l) s :=
  for_list2 hL hh F N hl J h0 (fun I i v m₁ nw led own h tk a1 a2 a3 a4 a5 _ a6 a7 a8 a9 a10 => step I i v m₁ nw led own h tk a1 a2 a3 a4 a5 a6 a7 a8 a9 a10) done

theorem for_listP2 {L : Addr} (hL : env.locals = L) {elts : List Expr} {x1 : Nat} {px : Pos} {l : Addr} {its : Array Value} {k : Nat} (hh : A.handled = none) (F : Fr h₀ L s.heap m) (N : News h₀ L s.heap news) (hl : (l, listOf its k) ∈ news)
    (hrefs : ∀ (i : Nat) (v : Value), its[i]? = some v → ∃ T : Addr, v = Value.ref T)
    (J : Nat → (Str → Option Value) → List (Addr × Obj) → Prop) (h0 : J 0 m news)
    (step : ∀ (I : Addr) (i : Nat) (v : Value) (m₁ : Str → Option Value) (nw led own : List (Addr × Obj)) (h : Heap) (tk : Nat), its[i]? = some v → J i m₁ nw → (∀ p ∈ nw, p ∈ led) → (∀ p ∈ nw, p.1 ≠ I) → (∀ p ∈ own, p ∈ led) → (∀ p ∈ own, p.1 = I ∨ p.1 = l) → (l, listOf its k) ∈ led → (∃ oI : Obj, (I, oI) ∈ led ∧ oI.cls = .type "list_iterator") → (∀ p ∈ news, p.1 ≠ I) →
      Fr h₀ L h m₁ → News h₀ L h led →
      wpAny (model prog w) A (assign (.Tuple elts x1 px) env v) (fun _ s₂ => wpAny (model prog w) A (execs body env) (TurnPost h₀ L I own (J (i + 1)) s Q) noE s₂) noE { s with heap := h, toks := tk })
    (done : ∀ h' tk m' news', Fr h₀ L h' m' → News h₀ L h' news' → J its.size m' news' → Q .next { s with heap := h', toks := tk }) :
    MyFor prog w A env (.Tuple elts x1 px) body Q (.ref l) s :=
  for_list_go hL hh F N hl (fun I i v s' Q E hv hit h => by obtain ⟨T, rfl⟩ := hrefs i v hv; exact wpAny_letOwnedTupleGo_listiter hit h) J h0 step done

theorem for_listP {L : Addr} (hL : env.locals = L) {elts : List Expr} {x1 : Nat} {px : Pos} {l : Addr} {its : Array Value} {k : Nat} (hh : A.handled = none) (F : Fr h₀ L s.heap m) (N : News h₀ L s.heap news) (hl : (l, listOf its k) ∈ news)
    (hrefs : ∀ (i : Nat) (v : Value), its[i]? = some v → ∃ T : Addr, v = Value.ref T)
    (J : Nat → (Str → Option Value) → List (Addr × Obj) → Prop) (h0 : J 0 m news)
    (step : ∀ (I : Addr) (i : Nat) (v : Value) (m₁ : Str → Option Value) (nw led own : List (Addr × Obj)) (h : Heap) (tk : Nat), its[i]? = some v → J i m₁ nw → (∀ p ∈ nw, p ∈ led) → (∀ p ∈ nw, p.1 ≠ I) → (∀ p ∈ own, p ∈ led) → (l, listOf its k) ∈ led → (∃ oI : Obj, (I, oI) ∈ led ∧ oI.cls = .type "list_iterator") → (∀ p ∈ news, p.1 ≠ I) →
      Fr h₀ L h m₁ → News h₀ L h led →
      wpAny (model prog w) A (assign (.Tuple elts x1 px) env v) (fun _ s₂ => wpAny (model prog w) A (execs body env) (TurnPost h₀ L I own (J (i + 1)) s Q) noE s₂) noE { s with heap := h, toks := tk })
    (done : ∀ h' tk m' news', Fr h₀ L h' m' → News h₀ L h' news' → J its.size m' news' → Q .next { s with heap := h', toks := tk }) :
    MyFor prog w A env (.Tuple elts x1 px) body Q (.ref l) s :=
  for_listP2 hL hh F N hl hrefs J h0 (fun I i v m₁ nw led own h tk a1 a2 a3 a4 a5 _ a6 a7 a8 a9 a10 => step I i v m₁ nw led own h tk a1 a2 a3 a4 a5 a6 a7 a8 a9 a10) done

theorem for_range2 {L : Addr} (hL : env.locals = L) {x : Str} {px : Pos} {r : Addr} {a b : Int} {t u v : Tok} (n : Nat) (hh : A.handled = none) (F : Fr h₀ L s.heap m) (N : News h₀ L s.heap news) (hr : IsRange s.heap r a b 1 t u v)
    (hsm : Builtin.Range.small a b 1 = true) (hn : Builtin.Range.rangeSize a b 1 = ((n : Nat) : Int))
    (J : Nat → (Str → Option Value) → List (Addr × Obj) → Prop) (h0 : J 0 m news)
    (step : ∀ (I : Addr) (i : Nat) (tv : Tok) (m₁ : Str → Option Value) (nw led own : List (Addr × Obj)) (h : Heap) (tk : Nat), i < n → J i m₁ nw → (∀ p ∈ nw, p ∈ led) → (∀ p ∈ nw, p.1 ≠ I) → (∀ p ∈ own, p ∈ led) → (∀ p ∈ own, p.1 = I) → (∃ oI : Obj, (I, oI) ∈ led ∧ oI.cls = .type "range_iterator") → (∀ p ∈ news, p.1 ≠ I) →
      Fr h₀ L h m₁ → News h₀ L h led →
      wpAny (model prog w) A (storeName env x (.int (a + (i : Nat)) tv)) (fun _ s₂ => wpAny (model prog w) A (execs body env) (TurnPost h₀ L I own (J (i + 1)) s Q) noE s₂) noE { s with heap := h, toks := tk })
    (done : ∀ h' tk m' news', Fr h₀ L h' m' → News h₀ L h' news' → J n m' news' → Q .next { s with heap := h', toks := tk }) :
    MyFor prog w A env (.Name x px) body Q (.ref r) s := by
  subst hL
  refine wpAny_pyIter_range hr hsm ?_
  have W := Walks.range (prog := prog) (w := w) hh s.heap.objs.size a 1 n
  have st0 : IsRangeIter (s.heap.push { cls := .type "range_iterator", data := .fields #[rawInt a, rawInt (Builtin.Range.rangeSize a b 1), rawInt 1] }) s.heap.objs.size (a + ((0 : Nat) : Int) * 1) ((n : Int) - ((0 : Nat) : Int)) 1 := by
    rw [hn]
    simp only [Int.natCast_zero, Int.zero_mul, Int.add_zero, Int.sub_zero]
    exact Heap.get?_push_size _ rfl
  refine forW (s := { s with heap := s.heap.push { cls := .type "range_iterator", data := .fields #[rawInt a, rawInt (Builtin.Range.rangeSize a b 1), rawInt 1] } }) W (fun _ _ _ _ _ _ _ h => wpAny_pure h) ?_ (base_none F) (fresh_ne N) st0 (F.push _) (fun p hp => ⟨Heap.get?_push_of_some _ (N p hp).1, (N p hp).2⟩) J h0 ?_ done
  · intro hm
    exact loc_lt F (List.mem_singleton.mp hm)
  · intro i v m₁ nw led own h tk hi hP hJ hsub hnI hown hownI hmem hst F₁ N₁
    obtain ⟨tv, rfl⟩ := hP
    refine wpAny_assign_Name ?_
    rw [show a + (i : Int) * 1 = a + (i : Int) by rw [Int.mul_one]]
    exact step _ i tv m₁ nw led own h tk hi hJ hsub hnI hown (fun p hp => by have := hownI p hp; simpa using this) ⟨_, hown _ (hmem _ (List.mem_singleton.mpr rfl) (base_none F) _ hst), rfl⟩ (fresh_ne N) F₁ N₁
theorem for_range {L : Addr} (hL : env.locals = L) {x : Str} {px : Pos} {r : Addr} {a b : Int} {t u v : Tok} (n : Nat) (hh : A.handled = none) (F : Fr h₀ L s.heap m) (N : News h₀ L s.heap news) (hr : IsRange s.heap r a b 1 t u v)
    (hsm : Builtin.Range.small a b 1 = true) (hn : Builtin.Range.rangeSize a b 1 = ((n : Nat) : Int))
    (J : Nat → (Str → Option Value) → List (Addr × Obj) → Prop) (h0 : J 0 m news)
    (step : ∀ (I : Addr) (i : Nat) (tv : Tok) (m₁ : Str → Option Value) (nw led own : List (Addr × Obj)) (h : Heap) (tk : Nat), i < n → J i m₁ nw → (∀ p ∈ nw, p ∈ led) → (∀ p ∈ nw, p.1 ≠ I) → (∀ p ∈ own, p ∈ led) → (∃ oI : Obj, (I, oI) ∈ led ∧ oI.cls = .type "range_iterator") → (∀ p ∈ news, p.1 ≠ I) →
      Fr h₀ L h m₁ → News h₀ L h led →
      wpAny (model prog w) A (storeName env x (.int (a + (i : Nat)) tv)) (fun _ s₂ => wpAny (model prog w) A (execs body env) (TurnPost h₀ L I own (J (i + 1)) s Q) noE s₂) noE { s with heap := h, toks := tk })
    (done : ∀ h' tk m' news', Fr h₀ L h' m' → News h₀ L h' news' → J n m' news' → Q .next { s with heap := h', toks := tk }) :
    MyFor prog w A env (.Name x px) body Q (.ref r) s :=
  for_range2 hL n hh F N hr hsm hn J h0 (fun I i tv m₁ nw led own h tk a1 a2 a3 a4 a5 _ a6 a7 a8 a9 => step I i tv m₁ nw led own h tk a1 a2 a3 a4 a5 a6 a7 a8 a9) done
end
-- a while loop
noncomputable def MyStop (P : Prop) : Prop := P
theorem myStop {P : Prop} (h : MyStop P) : P := h
theorem myFor_mono {prog : Program} {w : World} {A : Around} {env : Env} {target : Expr} {body : List Stmt} {Q Q' : Flow → Shared → Prop} {xv : Value} {s : Shared} (h : MyFor prog w A env target body Q xv s) (hq : ∀ f s, Q f s → Q' f s) : MyFor prog w A env target body Q' xv s :=
  wpAny_mono h (fun _ _ h₂ => codeAny_mono h₂ fun r s' hr => by cases r with | ok f => exact hq f s' hr | error e => exact hr.elim) fun _ _ e => e
/-- behind a loop that may break -/
noncomputable def QB (h₀ : Heap) (L : Addr) (K : (Str → Option Value) → List (Addr × Obj) → Prop) (s : Shared) (Q : Flow → Shared → Prop) (f : Flow) (s₃ : Shared) : Prop :=
  match f with
  | .next => JEnd h₀ L K s.gens s.drawn s.os s₃
  | f => Q f s₃
theorem for_brk {prog : Program} {w : World} {A : Around} {env : Env} {target : Expr} {body : List Stmt} {Q : Flow → Shared → Prop} {xv : Value} {s : Shared} {h₀ : Heap} {L : Addr} {m : Str → Option Value} (_F : Fr h₀ L s.heap m) (K : (Str → Option Value) → List (Addr × Obj) → Prop)
    (h : MyFor prog w A env target body (QB h₀ L K s Q) xv s) (hk : ∀ h' tk m' led, Fr h₀ L h' m' → News h₀ L h' led → K m' led → Q .next { s with heap := h', toks := tk }) : MyFor prog w A env target body Q xv s :=
  myFor_mono h fun f s₃ hf => by
    cases f with
    | next => obtain ⟨h', tk, m', led, rfl, F, N, k⟩ := hf; exact hk h' tk m' led F N k
    | brk => exact hf
    | cont => exact hf
    | ret v => exact hf
inductive WTurn (h₀ : Heap) (L : Addr) (n : Nat) (J : Nat → (Str → Option Value) → List (Addr × Obj) → Prop) (s s₃ : Shared) : Prop
  | mk (h' : Heap) (tk' : Nat) (m' : Str → Option Value) (nw' : List (Addr × Obj)) (n' : Nat) (e : s₃ = { s with heap := h', toks := tk' }) (F : Fr h₀ L h' m') (N : News h₀ L h' nw') (l : n' < n) (j : J n' m' nw')
noncomputable def WPost (h₀ : Heap) (L : Addr) (n : Nat) (J : Nat → (Str → Option Value) → List (Addr × Obj) → Prop) (s : Shared) (Q : Flow → Shared → Prop) (f : Flow) (s₃ : Shared) : Prop :=
  match f with
  | .brk => Q .next s₃
  | .ret v => Q (.ret v) s₃
  | _ => WTurn h₀ L n J s s₃
noncomputable def MyWhile (prog : Program) (w : World) (A : Around) (env : Env) (test : Expr) (body : List Stmt) (Q : Flow → Shared → Prop) (E : Value → Shared → Prop) (pos : Pos) (s : Shared) : Prop := wpAny (model prog w) A (exec (.While test body [] pos) env) Q E s
theorem myWhile0 {prog : Program} {w : World} {A : Around} {s : Shared} {env : Env} {Q : Flow → Shared → Prop} {E : Value → Shared → Prop} {test : Expr} {body : List Stmt} {pos : Pos} (h : MyWhile prog w A env test body Q E pos s) : wpAny (model prog w) A (exec (.While test body [] pos) env) Q E s := h
theorem myWhile {prog : Program} {w : World} {A : Around} {s : Shared} {env : Env} {h₀ : Heap} {L : Addr} {Q : Flow → Shared → Prop} {E : Value → Shared → Prop} {test : Expr} {body : List Stmt} {pos : Pos} {m : Str → Option Value} {news : List (Addr × Obj)}
    (J : Nat → (Str → Option Value) → List (Addr × Obj) → Prop) (n : Nat) (h0 : J n m news) (F : Fr h₀ L s.heap m) (N : News h₀ L s.heap news)
    (step : ∀ n m₁ nw h tk, J n m₁ nw → Fr h₀ L h m₁ → News h₀ L h nw →
      wpAny (model prog w) A (isTrue test env (eval test env)) (fun b s₂ =>
        if b then wpAny (model prog w) A (execs body env) (WPost h₀ L n J s Q) noE s₂
        else Q .next s₂) noE { s with heap := h, toks := tk }) :
    MyWhile prog w A env test body Q E pos s := by
  show wpAny _ _ _ _ _ _
  refine wpAny_While ?_
  refine codeAny_mono (codeAny_whileLoop (R := flowR Q) (fun k s' => ∃ h' tk' m' nw', s' = { s with heap := h', toks := tk' } ∧ Fr h₀ L h' m' ∧ News h₀ L h' nw' ∧ J k m' nw') ?_ n ⟨s.heap, s.toks, m, news, rfl, F, N, h0⟩)
    fun r s' hr => by cases r with | ok f => exact hr | error e => exact hr.elim
  rintro k s' ⟨h', tk', m', nw', rfl, F', N', hJ⟩
  refine wpAny_mono (step k m' nw' h' tk' hJ F' N') (fun b s₂ h₂ => ?_) fun _ _ e => e.elim
  cases b with
  | false => exact wpAny_execs_nil h₂
  | true =>
    refine wpAny_mono h₂ (fun f s₃ h₃ => ?_) fun _ _ e => e.elim
    have goOn : WTurn h₀ L k J s s₃ → ∃ j, j < k ∧ ∃ h' tk' m' nw', s₃ = { s with heap := h', toks := tk' } ∧ Fr h₀ L h' m' ∧ News h₀ L h' nw' ∧ J j m' nw' := by
      rintro ⟨h', tk', m', nw', n', e, F, N, hn, hJ⟩
      exact ⟨n', hn, h', tk', m', nw', e, F, N, hJ⟩
    cases f with
    | ret v => exact h₃
    | brk => exact h₃
    | cont => exact goOn h₃
    | next => exact goOn h₃
-- files
noncomputable def withL (l : List (Str × Value)) (m : Str → Option Value) : Str → Option Value := fun y => match l.lookup y with
  | some v => some v
  | none => m y
abbrev Fm := Str → Option Value
abbrev Led := List (Addr × Obj)
/-- names of a frame and what they hold -/
noncomputable def Has (m : Str → Option Value) (l : List (Str × Value)) : Prop := ∀ p ∈ l, m p.1 = some p.2
theorem has0 {m : Str → Option Value} : Has m [] := fun p h => by cases h
theorem has1 {m : Str → Option Value} {x : Str} {v : Value} {l : List (Str × Value)} (h : m x = some v) (r : Has m l) : Has m ((x, v) :: l) := fun p hp => (List.mem_cons.mp hp).elim (fun e => e ▸ h) (r p)
/-- names of the frame, and a part of the ledger -/
inductive JHas (l : List (Str × Value)) (base : Led) (m : Fm) (led : Led) : Prop
  | mk (hm : Has m l) (hn : ∀ p ∈ base, p ∈ led)
theorem rg06_0 : True := by
  k_with "mine has" => ((repeat (first | exact has0 | refine has1 rfl ?_)))
  exact trivial
theorem mem_of_lookup {y : Str} {v : Value} : ∀ {l : List (Str × Value)}, l.lookup y = some v → (y, v) ∈ l
  | [], e => by cases e
  | (z, u) :: r, e => by
    rw [List.lookup_cons] at e
    by_cases hz : (y == z) = true
    · rw [hz] at e
      have h1 := beq_iff_eq.mp hz
      cases e
      subst h1
      exact List.mem_cons_self ..
    · rw [Bool.not_eq_true] at hz
      rw [hz] at e
      exact List.mem_cons_of_mem _ (mem_of_lookup e)
theorem withL_eq {l : List (Str × Value)} {m : Str → Option Value} (h : ∀ p ∈ l, m p.1 = some p.2) : withL l m = m := by
  funext y
  unfold withL
  split
  · rename_i v e
    exact (h (y, v) (mem_of_lookup e)).symm
  · rfl
theorem Fr.with {h₀ h : Heap} {L : Addr} {m : Str → Option Value} (l : List (Str × Value)) (F : Fr h₀ L h m) (e : ∀ p ∈ l, m p.1 = some p.2) : Fr h₀ L h (withL l m) := by rw [withL_eq e]; exact F
/-- a table: its number, size and span -/
structure Tab where
  num : Int
  size : Int
  lo : Nat
  hi : Nat
noncomputable def Tab.Ok (t : Tab) : Prop := t.lo ≤ t.hi ∧ t.hi < 6
/-- the ledger bears a table's object at x -/
inductive MetaAt (w : World) (news : List (Addr × Obj)) (x : Addr) (t : Tab) : Prop
  | mk (ok : t.Ok) (d : Addr) (t1 t2 t3 t4 t5 t6 t7 t8 : Tok) (h1 : (x, instObj 340 d) ∈ news)
    (h2 : (d, dictOf [fe w "number" t1 (.int t.num t2), fe w "size" t3 (.int t.size t4), fe w "smallest" t5 (.bytes (ik t.lo 9) t6), fe w "largest" t7 (.bytes (ik t.hi 1) t8)] 4) ∈ news)
theorem MetaAt.ok {w : World} {news : List (Addr × Obj)} {x : Addr} {t : Tab} : MetaAt w news x t → t.Ok
  | ⟨h, _, _, _, _, _, _, _, _, _, _, _⟩ => h
theorem MetaAt.mono {w : World} {news news' : List (Addr × Obj)} {x : Addr} {t : Tab} (h : MetaAt w news x t) (hs : ∀ p ∈ news, p ∈ news') : MetaAt w news' x t :=
  let ⟨h0, d, t1, t2, t3, t4, t5, t6, t7, t8, h1, h2⟩ := h; ⟨h0, d, t1, t2, t3, t4, t5, t6, t7, t8, hs _ h1, hs _ h2⟩
noncomputable abbrev refsOf (fs : List (Addr × Tab)) : Array Value := (fs.map fun p => Value.ref p.1).toArray
inductive FilesAt (w : World) (news : List (Addr × Obj)) (l : Addr) (fs : List (Addr × Tab)) : Prop
  | mk (k : Nat) (h1 : (l, listOf (refsOf fs) k) ∈ news) (h2 : ∀ p ∈ fs, MetaAt w news p.1 p.2)
theorem FilesAt.metas {w : World} {news : List (Addr × Obj)} {l : Addr} {fs : List (Addr × Tab)} : FilesAt w news l fs → ∀ p ∈ fs, MetaAt w news p.1 p.2
  | ⟨_, _, h⟩ => h
theorem FilesAt.mono {w : World} {news news' : List (Addr × Obj)} {l : Addr} {fs : List (Addr × Tab)} (h : FilesAt w news l fs) (hs : ∀ p ∈ news, p ∈ news') : FilesAt w news' l fs :=
  let ⟨k, h1, h2⟩ := h; ⟨k, hs _ h1, fun p hp => (h2 p hp).mono hs⟩
theorem refs_at {fs : List (Addr × Tab)} {i : Nat} {v : Value} (h : (refsOf fs)[i]? = some v) : ∃ p, fs[i]? = some p ∧ v = .ref p.1 := by
  simp only [refsOf, List.getElem?_toArray, List.getElem?_map, Option.map_eq_some_iff] at h
  obtain ⟨p, h1, h2⟩ := h
  exact ⟨p, h1, h2.symm⟩
theorem refs_size {fs : List (Addr × Tab)} : (refsOf fs).size = fs.length := by simp
noncomputable def sizes (fs : List (Addr × Tab)) : Int := (fs.map fun p => p.2.size).sum
theorem sizes_take {fs : List (Addr × Tab)} {i : Nat} {p : Addr × Tab} (h : fs[i]? = some p) : sizes (fs.take (i + 1)) = sizes (fs.take i) + p.2.size := by
  unfold sizes
  rw [List.take_add_one, h]
  simp [List.map_append, List.sum_append]

theorem rg06_1 : True := by
  k_with "exec For Name Name cons nil" => (k_dflt (refine myFor ?_))
  k_with "exec For Name Call cons nil" => (k_dflt (refine myFor ?_))
  k_with "exec For Name Subscript cons nil" => (k_dflt (refine myFor ?_))
  k_with "exec For Name Attribute cons nil" => (k_dflt (refine myFor ?_))
  k_with "exec For Tuple Name cons nil" => (k_dflt (refine myFor ?_))
  k_with "exec For Tuple Attribute cons nil" => (k_dflt (refine myFor ?_))
  exact trivial

inductive JTotal (x : Str) (fs : List (Addr × Tab)) (news : Led) (i : Nat) (m : Fm) (nw : Led) : Prop
  | mk (t : Tok) (h1 : m x = some (.int (sizes (fs.take i)) t)) (hn : ∀ p ∈ news, p ∈ nw)
theorem spec_total {w : World} {A : Around} {h₀ : Heap} {L : Addr} {m : Str → Option Value} {news : List (Addr × Obj)} {s : Shared} {R : Result → Shared → Prop}
  {l : Addr} {fs : List (Addr × Tab)} (C : Cx w A h₀ L s.heap m news) (hroom : A.depth + 10 < 1000) (hl : FilesAt w news l fs)
  (ret : ∀ tk' h' tks, Fr h₀ L h' m → News h₀ L h' news → R (.ok (.ret (.int (sizes fs) tk'))) { s with heap := h', toks := tks }) :
  codeAny (model P w) A (.call (.ref 477) ⟨[.ref l], []⟩) R s := by
  obtain ⟨⟨A₀, base, env, outer, B, hA, hf, hke⟩, F, X, N, ⟨loose, mean, mg, mb, T⟩, hh⟩ := C
  obtain ⟨k, hl, hm⟩ := hl
  refine' code_def (binds := [(Str.ofString "files", .ref l)]) B F X N T hA hf hke ?k6 ?k7 ?k8 ?k9 ?kB ?_ ?c2 ?c3 ?c4 ?c5
  walk_at "mine enter"
  k_steps
  refine for_list rfl hh (by k_asm) (by k_asm) hl (JTotal (Str.ofString "total") fs news) ⟨_, rfl, fun _ h => h⟩ ?_ ?_
  · intro I i v m₁ nw led own h tk hv hJ hsub hnI hown hll hI hnI' F₁ N₁
    obtain ⟨p, hp, rfl⟩ := refs_at hv
    obtain ⟨t, hm1, hn⟩ := hJ
    obtain ⟨hok, d, t1, t2, t3, t4, t5, t6, t7, t8, o1, o2⟩ := (hm p (List.mem_of_getElem? hp)).mono (fun q hq => hsub _ (hn q hq))
    have F₁ := Fr.with [(Str.ofString "total", .int (sizes (fs.take i)) t)] F₁ (by simpa using hm1)
    k_steps
    refine ⟨_, _, _, _, rfl, by k_asm, by k_asm, hown, _, by rw [sizes_take hp]; rfl, fun q hq => mem_offL.mpr ⟨hsub _ (hn q hq), hnI' q hq⟩⟩
  · intro h' tk m' news' F' N' hJ
    obtain ⟨t, hm1, hn⟩ := hJ
    rw [refs_size, List.take_length] at hm1
    have F' := Fr.with [(Str.ofString "total", .int (sizes fs) t)] F' (by simpa using hm1)
    have N' : News _ _ h' news := fun p hp => N' p (hn p hp)
    k_steps
    exact ret _ _ _ (by k_asm) (by k_asm)
-- range
theorem item_L {prog : Program} {w : World} {A : Around} {E : Value → Shared → Prop} {s : Shared} {h₀ : Heap} {L l : Addr} {news : List (Addr × Obj)} {its : Array Value} {k : Nat} {value slice : Expr} {i : Int} {u : Tok} {v : Value} {Q : Value → Shared → Prop}
    (N : News h₀ L s.heap news) (hl : (l, listOf its k) ∈ news) (hx : its[i.toNat]? = some v) (h0 : 0 ≤ i) (h1 : i < 2 ^ 63) (h : Q v s)
    (hs : subscripted slice false (.ref l) (.int i u) = operate [.ref l, .int i u] (getItem (.ref l) (.int i u)) := by with_unfolding_all rfl) :
    wpAny (model prog w) A (subscriptTail value slice (.ref l) (.int i u)) Q E s := by
  have hls : s.heap.IsList l its := ⟨_, (N _ hl).1, rfl, _, rfl⟩
  exact tail_any hls.typeIs slot_list_getitem.lookup (wpAny_getItem_list hls h0 h1 hx h) hs
theorem refs_head {p : Addr × Tab} {fs : List (Addr × Tab)} : (refsOf (p :: fs))[Int.toNat 0]? = some (.ref p.1) := rfl
theorem rg07_0 : True := by
  k_with "subscriptTail" => (k_dflt ((with_reducible show wpAny _ _ (subscriptTail _ _ (Value.ref _) (Value.int _ _)) _ _ _); refine' item_L (by k_asm) (by k_mem) (by first | assumption | exact refs_head) (by first | decide | walk_at "mine om") (by first | decide | walk_at "mine om") ?_))
  exact trivial
theorem slice1 {p : Addr × Tab} {fs : List (Addr × Tab)} {t : Int} (ht : t = 1) : (slicePick (refsOf (p :: fs)) (some t) none none).toList = fs.map fun p => Value.ref p.1 := by
  subst ht
  have e : sliceBounds (some 1) none none (refsOf (p :: fs)).size = (((1 : Nat) : Int), (((refsOf (p :: fs)).size : Nat) : Int), 1) := by
    have : (refsOf (p :: fs)).size = fs.length + 1 := by simp
    rw [this]
    simp [sliceBounds]
    walk_at "mine om"
  rw [kmk_pick_nat _ e]
  simp
  exact List.take_of_length_le (by simp)
theorem rg07_1 : True := by
  k_with "subscriptTail Name Slice ref ref" => (k_dflt (refine' kmk_slice_lit (by k_asm) (by k_asm) (by exact News.isList (by k_asm) (by k_mem)) (by kmk_part) (by kmk_part) (by exact slice1 rfl) ?_ (by with_unfolding_all rfl) (by kmk_pure) (by (rw [sizeLine_eq, refs_size, List.length_cons]; walk_at "mine om")); intro _ _ _ _ _; (try k_sweep)))
  exact trivial
theorem kcmp_neg {u v : Nat} {q : UInt8} : kcmp u q v q < 0 ↔ u < v := by
  unfold kcmp ucmp
  (repeat' split) <;> walk_at "mine om"
theorem kcmp_pos {u v : Nat} {q : UInt8} : kcmp u q v q > 0 ↔ v < u := by
  unfold kcmp ucmp
  (repeat' split) <;> walk_at "mine om"
noncomputable def mLo (a : Nat) (fs : List (Addr × Tab)) : Nat := fs.foldl (fun a p => if p.2.lo < a then p.2.lo else a) a
noncomputable def mHi (a : Nat) (fs : List (Addr × Tab)) : Nat := fs.foldl (fun a p => if a < p.2.hi then p.2.hi else a) a
theorem mLo_take {a : Nat} {fs : List (Addr × Tab)} {i : Nat} {p : Addr × Tab} (h : fs[i]? = some p) : mLo a (fs.take (i + 1)) = if p.2.lo < mLo a (fs.take i) then p.2.lo else mLo a (fs.take i) := by
  unfold mLo
  rw [List.take_add_one, h, List.foldl_append]
  rfl
theorem mHi_take {a : Nat} {fs : List (Addr × Tab)} {i : Nat} {p : Addr × Tab} (h : fs[i]? = some p) : mHi a (fs.take (i + 1)) = if mHi a (fs.take i) < p.2.hi then p.2.hi else mHi a (fs.take i) := by
  unfold mHi
  rw [List.take_add_one, h, List.foldl_append]
  rfl
theorem mLo_le {a : Nat} : ∀ {fs : List (Addr × Tab)}, mLo a fs ≤ a
  | [] => Nat.le_refl _
  | p :: r => by
    unfold mLo
    rw [List.foldl_cons]
    have := mLo_le (a := if p.2.lo < a then p.2.lo else a) (fs := r)
    unfold mLo at this
    refine Nat.le_trans this ?_
    split <;> walk_at "mine om"
theorem mHi_lt {a : Nat} : ∀ {fs : List (Addr × Tab)}, a < 6 → (∀ p ∈ fs, p.2.hi < 6) → mHi a fs < 6
  | [], h, _ => h
  | p :: r, h, hp => by
    unfold mHi
    rw [List.foldl_cons]
    have := mHi_lt (a := if a < p.2.hi then p.2.hi else a) (fs := r) (by have := hp p (List.mem_cons_self ..); split <;> walk_at "mine om") (fun q hq => hp q (List.mem_cons_of_mem _ hq))
    unfold mHi at this
    exact this
inductive JRange (a b : Nat) (fs : List (Addr × Tab)) (o : Addr) (news : Led) (i : Nat) (m : Fm) (nw : Led) : Prop
  | mk (s1 : Tok) (h1 : m (Str.ofString "smallest") = some (.bytes (ik (mLo a (fs.take i)) 9) s1)) (s2 : Tok) (h2 : m (Str.ofString "largest") = some (.bytes (ik (mHi b (fs.take i)) 1) s2)) (h3 : m (Str.ofString "order") = some (.ref o)) (hn : ∀ p ∈ news, p ∈ nw)
theorem spec_range {w : World} {A : Around} {h₀ : Heap} {L : Addr} {m : Str → Option Value} {news : List (Addr × Obj)} {s : Shared} {R : Result → Shared → Prop}
  {l o : Addr} {p₀ : Addr × Tab} {fs : List (Addr × Tab)} (C : Cx w A h₀ L s.heap m news) (hroom : A.depth + 100 < 1000) (hl : FilesAt w news l (p₀ :: fs)) (hz : fs.length < 1000) (ho : OrdAt w news o)
  (ret : ∀ T t1 t2 h' tks, Fr h₀ L h' m → News h₀ L h' ((T, { cls := .type "tuple", data := .seq #[.bytes (ik (mLo p₀.2.lo fs) 9) t1, .bytes (ik (mHi p₀.2.hi fs) 1) t2] }) :: news) → (∀ p ∈ news, p.1 < T) → R (.ok (.ret (.ref T))) { s with heap := h', toks := tks }) :
  codeAny (model P w) A (.call (.ref 484) ⟨[.ref l, .ref o], []⟩) R s := by
  obtain ⟨⟨A₀, base, env, outer, B, hA, hf, hke⟩, F, X, N, ⟨loose, mean, mg, mb, T⟩, hh⟩ := C
  obtain ⟨k, hl, hm⟩ := hl
  refine' code_def (binds := [(Str.ofString "files", .ref l), (Str.ofString "order", .ref o)]) B F X N T hA hf hke ?k6 ?k7 ?k8 ?k9 ?kB ?_ ?c2 ?c3 ?c4 ?c5
  walk_at "mine enter"
  obtain ⟨hok, d, t1, t2, t3, t4, t5, t6, t7, t8, o1, o2⟩ := hm p₀ (List.mem_cons_self ..)
  k_steps
  refine for_list rfl hh (by k_asm) (by k_asm) (by k_mem) (JRange p₀.2.lo p₀.2.hi fs o news) ⟨_, rfl, _, rfl, rfl, fun _ h => List.mem_cons_of_mem _ h⟩ ?_ ?_
  · intro I i v m₁ nw led own h tk hv hJ hsub hnI hown hll hI hnI' F₁ N₁
    obtain ⟨p, hp, rfl⟩ := refs_at hv
    obtain ⟨s1, hm1, s2, hm2, hm3, hn⟩ := hJ
    have ho' := ho.mono (fun q hq => hsub _ (hn q hq))
    obtain ⟨hok', d', t1, t2, t3, t4, t5, t6, t7, t8, o1', o2'⟩ := (hm p (List.mem_cons_of_mem _ (List.mem_of_getElem? hp))).mono (fun q hq => hsub _ (hn q hq))
    have F₁ := Fr.with [(Str.ofString "smallest", .bytes (ik (mLo p₀.2.lo (fs.take i)) 9) s1), (Str.ofString "largest", .bytes (ik (mHi p₀.2.hi (fs.take i)) 1) s2), (Str.ofString "order", .ref o)] F₁ (by simp [hm1, hm2, hm3])
    obtain ⟨od, ob, oe, ot, oo1, oo2, oo3, oo4⟩ := id ho'
    have h6a : p.2.lo < 6 := by have := hok'.1; have := hok'.2; walk_at "mine om"
    have h6b : p.2.hi < 6 := hok'.2
    have h6c : mLo p₀.2.lo (fs.take i) < 6 := Nat.lt_of_le_of_lt mLo_le (by have := hok.1; have := hok.2; walk_at "mine om")
    have h6d : mHi p₀.2.hi (fs.take i) < 6 := mHi_lt hok.2 (fun q hq => (hm q (List.mem_cons_of_mem _ (List.mem_of_mem_take hq))).ok.2)
    k_steps
    all_goals (
      simp only [decide_eq_true_eq, decide_eq_false_iff_not, kcmp_neg, kcmp_pos] at *
      have e1 := mLo_take (a := p₀.2.lo) hp
      have e2 := mHi_take (a := p₀.2.hi) hp
      (first | rw [if_pos (by assumption)] at e1 | rw [if_neg (by assumption)] at e1)
      (first | rw [if_pos (by assumption)] at e2 | rw [if_neg (by assumption)] at e2)
      refine ⟨_, _, _, _, rfl, by k_asm, by k_asm, ?_, _, by rw [e1]; rfl, _, by rw [e2]; rfl, rfl, fun q hq => mem_offL.mpr ⟨?_, hnI' q (List.mem_cons_of_mem _ hq)⟩⟩
      · exact hown
      · exact hsub _ (hn q hq))
  · intro h' tk m' news' F' N' hJ
    obtain ⟨s1, hm1, s2, hm2, hm3, hn⟩ := hJ
    have hsz : (List.map (fun p : Addr × Tab => Value.ref p.1) fs).toArray.size = fs.length := by simp
    rw [hsz, List.take_length] at hm1 hm2
    have F' := Fr.with [(Str.ofString "smallest", .bytes (ik (mLo p₀.2.lo fs) 9) s1), (Str.ofString "largest", .bytes (ik (mHi p₀.2.hi fs) 1) s2), (Str.ofString "order", .ref o)] F' (by simp [hm1, hm2, hm3])
    have N' : News _ _ h' news := fun p hp => N' p (hn p hp)
    k_steps
    exact ret _ _ _ _ _ (by k_asm) (by k_asm) (by assumption)
-- overlap
theorem led_split {h₀ h : Heap} {L l : Addr} {o : Obj} {led : List (Addr × Obj)} (N : News h₀ L h led) (hl : (l, o) ∈ led) :
    ∃ rest, News h₀ L h ((l, o) :: rest) ∧ (∀ p ∈ rest, p.1 ≠ l) ∧ (∀ p ∈ led, p.1 ≠ l → p ∈ rest) ∧ (∀ p ∈ rest, p ∈ led) :=
  ⟨offL l led, fun p hp => (List.mem_cons.mp hp).elim (fun e => e ▸ N _ hl) fun hp => N p (mem_offL.mp hp).1, fun p hp => (mem_offL.mp hp).2, fun p hp hn => mem_offL.mpr ⟨hp, hn⟩, fun p hp => (mem_offL.mp hp).1⟩
theorem led_eq {h₀ h : Heap} {L a : Addr} {o o' : Obj} {led : List (Addr × Obj)} (N : News h₀ L h led) (h1 : (a, o) ∈ led) (h2 : (a, o') ∈ led) : o = o' := by
  have e1 := (N _ h1).1
  have e2 := (N _ h2).1
  rw [e1] at e2
  exact Option.some.inj e2
theorem led_cls {h₀ h : Heap} {L a : Addr} {o o' : Obj} {led : List (Addr × Obj)} (N : News h₀ L h led) (h1 : (a, o) ∈ led) (h2 : (a, o') ∈ led) (hc : ¬ o.cls = o'.cls) : False := hc (congrArg Obj.cls (led_eq N h1 h2))
theorem split3 {h₀ h : Heap} {L a b c : Addr} {o1 o2 o3 : Obj} {led : List (Addr × Obj)} (N : News h₀ L h led) (h1 : (a, o1) ∈ led) (h2 : (b, o2) ∈ led) (h3 : (c, o3) ∈ led) :
    ∃ rest, News h₀ L h ((a, o1) :: (b, o2) :: (c, o3) :: rest) ∧ (∀ p ∈ rest, p.1 ≠ a) ∧ (∀ p ∈ rest, p.1 ≠ b) ∧ (∀ p ∈ rest, p.1 ≠ c) ∧ (∀ p ∈ led, @Ne Nat p.1 a → @Ne Nat p.1 b → @Ne Nat p.1 c → p ∈ rest) :=
  ⟨offL a (offL b (offL c led)), by
    intro p hp
    simp only [List.mem_cons, mem_offL] at hp
    rcases hp with rfl | rfl | rfl | hp
    · exact N _ h1
    · exact N _ h2
    · exact N _ h3
    · exact N _ hp.1.1.1, fun p hp => (mem_offL.mp hp).2, fun p hp => (mem_offL.mp (mem_offL.mp hp).1).2, fun p hp => (mem_offL.mp (mem_offL.mp (mem_offL.mp hp).1).1).2,
    fun p hp n1 n2 n3 => mem_offL.mpr ⟨mem_offL.mpr ⟨mem_offL.mpr ⟨hp, n3⟩, n2⟩, n1⟩⟩
theorem split4 {h₀ h : Heap} {L a b c d : Addr} {o1 o2 o3 o4 : Obj} {led : List (Addr × Obj)} (N : News h₀ L h led) (h1 : (a, o1) ∈ led) (h2 : (b, o2) ∈ led) (h3 : (c, o3) ∈ led) (h4 : (d, o4) ∈ led) :
    ∃ rest, News h₀ L h ((a, o1) :: (b, o2) :: (c, o3) :: (d, o4) :: rest) ∧ (∀ p ∈ rest, p.1 ≠ a) ∧ (∀ p ∈ rest, p.1 ≠ b) ∧ (∀ p ∈ rest, p.1 ≠ c) ∧ (∀ p ∈ rest, p.1 ≠ d) ∧ (∀ p ∈ led, @Ne Nat p.1 a → @Ne Nat p.1 b → @Ne Nat p.1 c → @Ne Nat p.1 d → p ∈ rest) :=
  ⟨offL a (offL b (offL c (offL d led))), by
    intro p hp
    simp only [List.mem_cons, mem_offL] at hp
    rcases hp with rfl | rfl | rfl | rfl | hp
    · exact N _ h1
    · exact N _ h2
    · exact N _ h3
    · exact N _ h4
    · exact N _ hp.1.1.1.1, fun p hp => (mem_offL.mp hp).2, fun p hp => (mem_offL.mp (mem_offL.mp hp).1).2, fun p hp => (mem_offL.mp (mem_offL.mp (mem_offL.mp hp).1).1).2, fun p hp => (mem_offL.mp (mem_offL.mp (mem_offL.mp (mem_offL.mp hp).1).1).1).2,
    fun p hp n1 n2 n3 n4 => mem_offL.mpr ⟨mem_offL.mpr ⟨mem_offL.mpr ⟨mem_offL.mpr ⟨hp, n4⟩, n3⟩, n2⟩, n1⟩⟩
theorem rg08_0 : True := by
  k_with "mine k_all" => ((assumption))
  exact trivial
theorem allLt_all {d : Addr} : ∀ {l : List (Addr × Obj)}, AllLt d l → ∀ p ∈ l, p.1 < d
  | [], _, p, hp => by cases hp
  | q :: r, h, p, hp => by
    rcases List.mem_cons.mp hp with rfl | hp
    · exact h.1
    · exact allLt_all h.2 p hp
theorem allLt_ne {d : Addr} : ∀ {l : List (Addr × Obj)}, AllLt d l → ∀ p ∈ l, p.1 ≠ d
  | [], _, p, hp => by cases hp
  | q :: r, h, p, hp => by
    rcases List.mem_cons.mp hp with rfl | hp
    · exact Nat.ne_of_lt h.1
    · exact allLt_ne h.2 p hp
theorem lt_all {d : Addr} {l : List (Addr × Obj)} {p : Addr × Obj} (h : ∀ p ∈ l, p.1 < d) (hp : p ∈ l) : p.1 < d := h p hp
theorem refs_push {fs : List (Addr × Tab)} {p : Addr × Tab} : (refsOf fs).push (.ref p.1) = refsOf (fs ++ [p]) := by simp [refsOf]
theorem rg08_1 : True := by
  k_with "mine size" => ((first | assumption | walk_at "mine om" | (rw [sizeLine_eq]; walk_at "mine om") | (rw [sizeLine_eq, refs_size]; walk_at "mine om")))
  k_with "call builtin:list.append" => (k_dflt ((with_reducible show wpAny _ _ (call (Value.builtin _) [Value.ref _, _]) _ _ _); refine' append_K (by k_asm) (by k_asm) (by k_upd) ?_ (by walk_at "mine size"); intro _ _ _; (try k_sweep)))
  exact trivial
theorem len_L {prog : Program} {w : World} {A : Around} {E : Value → Shared → Prop} {s : Shared} {h₀ : Heap} {L l : Addr} {news : List (Addr × Obj)} {its : Array Value} {k : Nat} {Q : Value → Shared → Prop}
    (N : News h₀ L s.heap news) (hl : (l, listOf its k) ∈ news) (hz : its.size ≤ 1099511627776) (h : ∀ t tk, Q (.int its.size t) { s with toks := tk }) :
    wpAny (model prog w) A (call (.builtin "len") [.ref l]) Q E s := by
  have hls : s.heap.IsList l its := ⟨_, (N _ hl).1, rfl, _, rfl⟩
  exact PyProof.Rows.len_list hls (by walk_at "mine om") (h _ _)
theorem len_F {prog : Program} {w : World} {A : Around} {E : Value → Shared → Prop} {s : Shared} {h₀ : Heap} {L l : Addr} {news : List (Addr × Obj)} {fs : List (Addr × Tab)} {k : Nat} {Q : Value → Shared → Prop}
    (N : News h₀ L s.heap news) (hl : (l, listOf (refsOf fs) k) ∈ news) (hz : fs.length < 1000) (h : ∀ t tk, Q (.int fs.length t) { s with toks := tk }) :
    wpAny (model prog w) A (call (.builtin "len") [.ref l]) Q E s :=
  len_L N hl (by rw [refs_size]; walk_at "mine om") (by rw [refs_size]; exact h)
theorem rg08_2 : True := by
  k_with "exec While Compare cons nil" => (k_dflt (refine myWhile0 ?_))
  k_with "call builtin:len" => (k_dflt ((with_reducible show wpAny _ _ (call (Value.builtin "len") [Value.ref _]) _ _ _); refine' len_F (by k_asm) (by k_mem) (by first | assumption | walk_at "mine om") ?_; intro _ _))
  exact trivial
/-- the files and their levels -/
inductive LevelsAt (w : World) (news : List (Addr × Obj)) (fl : Addr) (lv : List (Addr × List (Addr × Tab))) : Prop
  | mk (k : Nat) (h1 : (fl, listOf ((lv.map fun q => Value.ref q.1).toArray) k) ∈ news) (h2 : ∀ q ∈ lv, FilesAt w news q.1 q.2)
theorem LevelsAt.mono {w : World} {news news' : List (Addr × Obj)} {fl : Addr} {lv : List (Addr × List (Addr × Tab))} (h : LevelsAt w news fl lv) (hs : ∀ p ∈ news, p ∈ news') : LevelsAt w news' fl lv :=
  let ⟨k, h1, h2⟩ := h; ⟨k, hs _ h1, fun p hp => (h2 p hp).mono hs⟩
theorem lev_at {lv : List (Addr × List (Addr × Tab))} {i : Nat} {q : Addr × List (Addr × Tab)} (h : lv[i]? = some q) : ((lv.map fun q => Value.ref q.1).toArray)[i]? = some (.ref q.1) := by
  simp [h]
noncomputable abbrev tup2 (a b : Int) (t1 t2 : Tok) : Obj := { cls := .type "tuple", data := .seq #[.int a t1, .int b t2] }
noncomputable abbrev verD (w : World) (nl : Int) (o fl T : Addr) (sl : Int) (t : Nat → Tok) : Obj := dictOf [fe w "num_levels" (t 0) (.int nl (t 1)), fe w "order" (t 2) (.ref o), fe w "files" (t 3) (.ref fl), fe w "refs" (t 4) (.int 0 (t 5)), fe w "score" (t 6) (.ref T), fe w "score_level" (t 7) (.int sl (t 8))] 6
/-- a version's parts, but its dict d -/
structure VerAt (w : World) (news : List (Addr × Obj)) (v d fl o : Addr) (lv : List (Addr × List (Addr × Tab))) : Prop where
  h1 : (v, instObj 466 d) ∈ news
  h2 : LevelsAt w news fl lv
  h3 : OrdAt w news o
theorem VerAt.mono {w : World} {news news' : List (Addr × Obj)} {v d fl o : Addr} {lv : List (Addr × List (Addr × Tab))} (h : VerAt w news v d fl o lv) (hs : ∀ p ∈ news, p ∈ news') : VerAt w news' v d fl o lv :=
  ⟨hs _ h.h1, h.h2.mono hs, h.h3.mono hs⟩
noncomputable def meetsB (a b : Nat) (t : Tab) : Bool := decide (a ≤ t.hi) && decide (t.lo ≤ b)
theorem filt_take {fs : List (Addr × Tab)} {i : Nat} {p : Addr × Tab} (f : Addr × Tab → Bool) (h : fs[i]? = some p) : (fs.take (i + 1)).filter f = (fs.take i).filter f ++ (if f p then [p] else []) := by
  rw [List.take_add_one, h, List.filter_append]
  simp only [Option.toList]
  cases hf : f p <;> simp [hf]
theorem meas {x y L z : Nat} (h : x < y) : x * (L + 1) + L < y * (L + 1) + z := by
  have := Nat.mul_le_mul_right (L + 1) (show x + 1 ≤ y from h)
  rw [Nat.succ_mul] at this
  walk_at "mine om"
/-- what overlapping finds -/
structure Found (zero : Prop) (fs : List (Addr × Tab)) (a b : Nat) (fnd : List (Addr × Tab)) (a' b' : Nat) : Prop where
  lo : a' ≤ a
  hi : b ≤ b'
  is : fnd = fs.filter fun p => meetsB a' b' p.2
  deep : ¬ zero → a' = a ∧ b' = b
  top : zero → ∀ p ∈ fnd, a' ≤ p.2.lo ∧ p.2.hi ≤ b'

inductive JOver (v : Addr) (k : Int) (kt : Tok) (a b : Nat) (fs : List (Addr × Tab)) (news : Led) (n : Nat) (m : Fm) (nw : Led) : Prop
  | mk (i a' b' : Nat) (D : Addr) (kD : Nat) (fnd : List (Addr × Tab)) (ti tl th : Tok) (h1 : m (Str.ofString "i") = some (.int i ti)) (h2 : m (Str.ofString "low") = some (.bytes (ub a') tl)) (h3 : m (Str.ofString "high") = some (.bytes (ub b') th)) (h4 : m (Str.ofString "found") = some (.ref D))
    (h5 : m (Str.ofString "self") = some (.ref v)) (h6 : m (Str.ofString "level") = some (.int k kt)) (h7 : (D, listOf (refsOf fnd) kD) ∈ nw) (h8 : ∀ p ∈ news, p ∈ nw ∧ p.1 < D) (h9 : i ≤ fs.length) (ha : a' ≤ a) (hb : b ≤ b') (h6b : b' < 6) (hf : fnd = (fs.take i).filter (fun p => meetsB a' b' p.2))
    (hd : ¬ k = 0 → a' = a ∧ b' = b) (ht : k = 0 → ∀ p ∈ fnd, a' ≤ p.2.lo ∧ p.2.hi ≤ b') (hn : n = (a' + (5 - b')) * (fs.length + 1) + (fs.length - i))
theorem spec_over {w : World} {A : Around} {h₀ : Heap} {L : Addr} {m : Str → Option Value} {news : List (Addr × Obj)} {s : Shared} {R : Result → Shared → Prop}
  {v d fl o T : Addr} {lv : List (Addr × List (Addr × Tab))} {nl sl : Int} {t : Nat → Tok} {k : Int} {kt ta tb : Tok} {l : Addr} {fs : List (Addr × Tab)} {a b : Nat}
  (C : Cx w A h₀ L s.heap m news) (hroom : A.depth + 30 < 1000) (hv : VerAt w news v d fl o lv) (hd : (d, verD w nl o fl T sl t) ∈ news) (h0 : 0 ≤ k) (hk : k < 100) (hlv : lv[k.toNat]? = some (l, fs)) (hz : fs.length < 1000) (ha : a < 6) (hb : b < 6)
  (ret : ∀ D fnd n a' b' h' tks, Found (k = 0) fs a b fnd a' b' → b' < 6 → Fr h₀ L h' m → News h₀ L h' ((D, listOf (refsOf fnd) n) :: news) → (∀ p ∈ news, p.1 < D) → R (.ok (.ret (.ref D))) { s with heap := h', toks := tks }) :
  codeAny (model P w) A (.call (.ref 407) ⟨[.ref v, .int k kt, .bytes (ub a) ta, .bytes (ub b) tb], []⟩) R s := by
  obtain ⟨⟨A₀, base, env, outer, B, hA, hf, hke⟩, F, X, N, ⟨loose, mean, mg, mb, T'⟩, hh⟩ := C
  obtain ⟨hv1, ⟨kf, hfl, hlevs⟩, hord⟩ := id hv
  obtain ⟨kl, hl, hm⟩ := hlevs _ (List.mem_of_getElem? hlv)
  have hat := lev_at hlv
  refine' code_def (binds := [(Str.ofString "self", .ref v), (Str.ofString "level", .int k kt), (Str.ofString "low_user", .bytes (ub a) ta), (Str.ofString "high_user", .bytes (ub b) tb)]) B F X N T' hA hf hke ?k6 ?k7 ?k8 ?k9 ?kB ?_ ?c2 ?c3 ?c4 ?c5
  walk_at "mine enter"
  k_steps
  refine myWhile (JOver v k kt a b fs news) ((a + (5 - b)) * (fs.length + 1) + fs.length)
    ⟨0, a, b, _, _, [], _, _, _, rfl, rfl, rfl, rfl, rfl, rfl, List.mem_cons_self .., fun p hp => ⟨List.mem_cons_of_mem _ hp, ?_⟩, Nat.zero_le _, Nat.le_refl _, Nat.le_refl _, hb, rfl, fun _ => ⟨rfl, rfl⟩, (fun _ p hp => by cases hp), rfl⟩ (by k_asm) (by k_asm) ?_
  · exact lt_all (by assumption) hp
  · rintro n m₁ nw h tkn ⟨i, a', b', D, kD, fnd, ti, tl, th, m1, m2, m3, m4, m5, m6, hD, hn, hi, haa, hbb, hb6, hf, hdeep, htop, rfl⟩ F₁ N₀
    refine hideG fun G9 hG9 => ?_
    obtain ⟨rest, N₁, hr1, hr2, hr3⟩ := led_split N₀ hD
    have hn' : ∀ p ∈ news, p ∈ rest := fun p hp => hr2 p (hn p hp).1 (Nat.ne_of_lt (hn p hp).2)
    have F₁ := Fr.with [(Str.ofString "i", .int i ti), (Str.ofString "low", .bytes (ub a') tl), (Str.ofString "high", .bytes (ub b') th), (Str.ofString "found", .ref D), (Str.ofString "self", .ref v), (Str.ofString "level", .int k kt)] F₁ (by simp [m1, m2, m3, m4, m5, m6])
    clear N₀
    have ov := hn' _ hv1
    have od := hn' _ hd
    unfold verD at od
    have ofl := hn' _ hfl
    have ol := hn' _ hl
    by_cases hlt : i < fs.length
    · obtain ⟨p, hp⟩ : ∃ p, fs[i]? = some p := ⟨fs[i], List.getElem?_eq_getElem hlt⟩
      obtain ⟨hok, d', t1, t2, t3, t4, t5, t6, t7, t8, o1, o2⟩ := (hm p (List.mem_of_getElem? hp)).mono hn'
      have hpi : (refsOf fs)[((i : Nat) : Int).toNat]? = some (.ref p.1) := by simp [hp]
      have h6a : p.2.lo < 6 := by have := hok.1; have := hok.2; walk_at "mine om"
      have h6b : p.2.hi < 6 := hok.2
      have h6c : a' < 6 := by walk_at "mine om"
      have hfl' : fnd.length ≤ fs.length := by rw [hf]; exact Nat.le_trans (List.length_filter_le ..) (by simp; walk_at "mine om")
      have hsz : (refsOf fnd).size ≤ sizeLine := by rw [refs_size, sizeLine_eq]; walk_at "mine om"
      have hft := filt_take (fun p => meetsB a' b' p.2) hp
      rw [← hf] at hft
      refine hG9 ?_
      k_steps
      all_goals (simp only [decide_eq_true_eq, decide_eq_false_iff_not] at *)
      all_goals (first
        | exact ⟨_, _, _, _, (a' + (5 - b')) * (fs.length + 1) + (fs.length - (i + 1)), rfl, by k_asm, by k_asm, by walk_at "mine om", i + 1, a', b', D, _, fnd, _, _, _, rfl, rfl, rfl, rfl, rfl, rfl, List.mem_cons_self .., fun q hq => ⟨List.mem_cons_of_mem _ (hn' q hq), (hn q hq).2⟩, hlt, haa, hbb, hb6, by rw [hft]; simp [meetsB]; walk_at "mine om", hdeep, htop, rfl⟩
        | exact ⟨_, _, _, _, (a' + (5 - b')) * (fs.length + 1) + (fs.length - (i + 1)), rfl, by k_asm, by k_asm, by walk_at "mine om", i + 1, a', b', D, _, fnd ++ [p], _, _, _, rfl, rfl, rfl, rfl, rfl, rfl, by rw [← refs_push]; exact List.mem_cons_self .., fun q hq => ⟨List.mem_cons_of_mem _ (hn' q hq), (hn q hq).2⟩, hlt, haa, hbb, hb6, by rw [hft, if_pos (by simp [meetsB]; walk_at "mine om")], hdeep, by
            intro hk0 q hq
            rcases List.mem_append.mp hq with hq | hq
            · exact htop hk0 q hq
            · rw [List.mem_singleton.mp hq]; walk_at "mine om", rfl⟩
        | exact ⟨_, _, _, _, (p.2.lo + (5 - b')) * (fs.length + 1) + fs.length, rfl, by k_asm, by k_asm, meas (by walk_at "mine om"), 0, p.2.lo, b', _, _, [], _, _, _, rfl, rfl, rfl, rfl, rfl, rfl, List.mem_cons_self .., fun q hq => ⟨List.mem_cons_of_mem _ (List.mem_cons_of_mem _ (hn' q hq)), allLt_all (And.right (by assumption)) q (hn' q hq)⟩, Nat.zero_le _, by walk_at "mine om", hbb, hb6, rfl, fun hk0 => absurd (by assumption) hk0, (fun _ q hq => by cases hq), rfl⟩
        | exact ⟨_, _, _, _, (a' + (5 - p.2.hi)) * (fs.length + 1) + fs.length, rfl, by k_asm, by k_asm, meas (by walk_at "mine om"), 0, a', p.2.hi, _, _, [], _, _, _, rfl, rfl, rfl, rfl, rfl, rfl, List.mem_cons_self .., fun q hq => ⟨List.mem_cons_of_mem _ (List.mem_cons_of_mem _ (hn' q hq)), allLt_all (And.right (by assumption)) q (hn' q hq)⟩, Nat.zero_le _, haa, by walk_at "mine om", h6b, rfl, fun hk0 => absurd (by assumption) hk0, (fun _ q hq => by cases hq), rfl⟩
        | w_report)
    · refine hG9 ?_
      k_steps
      have hil : i = fs.length := by walk_at "mine om"
      rw [hil, List.take_length] at hf
      rename News h₀ L _ _ => Nz
      exact ret D fnd kD a' b' _ _ ⟨haa, hbb, hf, hdeep, htop⟩ hb6 (by k_asm) (fun p hp => (List.mem_cons.mp hp).elim (fun e => e ▸ Nz _ (List.mem_cons_self ..)) fun hp => Nz p (List.mem_cons_of_mem _ (hn' p hp))) (fun p hp => (hn p hp).2)
theorem rg08_3 : True := by
  k_with "mine ord" => ((first | assumption | (refine OrdAt.mono (by assumption) ?_; intro q hq; (repeat (first | exact hq | refine List.mem_cons_of_mem _ ?_)); done)))
  k_with "mine lt" => ((first | assumption | exact allLt_all (by assumption) | exact allLt_all (And.right (by assumption)) | exact allLt_all (And.right (And.right (by assumption)))))
  exact trivial
-- picker
inductive PickAt (w : World) (news : List (Addr × Obj)) (pk op o : Addr) : Prop
  | mk (d : Addr) (t1 t2 : Tok) (h1 : (pk, instObj 606 d) ∈ news) (h2 : (d, dictOf [fe w "options" t1 (.ref op), fe w "order" t2 (.ref o)] 2) ∈ news) (h3 : OrdAt w news o)
theorem PickAt.ord {w : World} {news : List (Addr × Obj)} {pk op o : Addr} : PickAt w news pk op o → OrdAt w news o
  | ⟨_, _, _, _, _, h⟩ => h
theorem PickAt.mono {w : World} {news news' : List (Addr × Obj)} {pk op o : Addr} (h : PickAt w news pk op o) (hs : ∀ p ∈ news, p ∈ news') : PickAt w news' pk op o :=
  let ⟨d, t1, t2, h1, h2, h3⟩ := h; ⟨d, t1, t2, hs _ h1, hs _ h2, h3.mono hs⟩
theorem rg09_0 : True := by
  k_with "mine files" => ((first | assumption | (refine FilesAt.mono (by assumption) ?_; intro q hq; (repeat (first | exact hq | refine List.mem_cons_of_mem _ ?_)); done)))
  exact trivial
noncomputable def gLo : List (Addr × Tab) → Nat
  | [] => 0
  | p :: r => mLo p.2.lo r
noncomputable def gHi : List (Addr × Tab) → Nat
  | [] => 0
  | p :: r => mHi p.2.hi r
theorem spec_range' {w : World} {A : Around} {h₀ : Heap} {L : Addr} {m : Str → Option Value} {news : List (Addr × Obj)} {s : Shared} {R : Result → Shared → Prop}
  {l o : Addr} {fs : List (Addr × Tab)} (C : Cx w A h₀ L s.heap m news) (hroom : A.depth + 100 < 1000) (hl : FilesAt w news l fs) (hz : fs.length < 1000) (hpos : 0 < fs.length) (ho : OrdAt w news o)
  (ret : ∀ T t1 t2 h' tks, Fr h₀ L h' m → News h₀ L h' ((T, { cls := .type "tuple", data := .seq #[.bytes (ik (gLo fs) 9) t1, .bytes (ik (gHi fs) 1) t2] }) :: news) → (∀ p ∈ news, p.1 < T) → gHi fs < 6 → R (.ok (.ret (.ref T))) { s with heap := h', toks := tks }) :
  codeAny (model P w) A (.call (.ref 484) ⟨[.ref l, .ref o], []⟩) R s := by
  cases fs with
  | nil => cases hpos
  | cons p r =>
    refine spec_range C hroom hl (by simp only [List.length_cons] at hz; walk_at "mine om") ho ?_
    intro T t1 t2 h' tks F N l1
    obtain ⟨_, _, hm⟩ := hl
    exact ret T t1 t2 h' tks F N l1 (mHi_lt (hm p (List.mem_cons_self ..)).ok.2 (fun q hq => (hm q (List.mem_cons_of_mem _ hq)).ok.2))
theorem rg09_1 : True := by
  k_with "mine len" => ((first | assumption | walk_at "mine om" | (simp only [decide_eq_true_eq, decide_eq_false_iff_not, List.append_eq, List.length_append, List.length_cons] at *; walk_at "mine om")))
  k_with "call ref" => (k_dflt ((with_reducible show wpAny _ _ (call (Value.ref 484) _ _) _ _ _); refine wpAny_call ?_; refine' spec_range' (by walk_at "mine cx") (by walk_at "mine room") (by walk_at "mine files") (by walk_at "mine len") (by walk_at "mine len") (by walk_at "mine ord") ?_; intro _ _ _ _ _ _ _ l1q9 _; (try k_lt l1q9); (try k_sweep); (try dsimp only); (revert l1q9; intro _)))
  exact trivial
theorem news2 {h₀ h : Heap} {L : Addr} {a b : Addr × Obj} {l : List (Addr × Obj)} (N : News h₀ L h (a :: b :: l)) : News h₀ L h (a :: l) := fun p hp => (List.mem_cons.mp hp).elim (fun e => e ▸ N _ (List.mem_cons_self ..)) fun hp => N p (List.mem_cons_of_mem _ (List.mem_cons_of_mem _ hp))
noncomputable abbrev tupB (a b : Nat) (t1 t2 : Tok) : Obj := { cls := .type "tuple", data := .seq #[.bytes (ub a) t1, .bytes (ub b) t2] }
theorem spec_urange {w : World} {A : Around} {h₀ : Heap} {L : Addr} {m : Str → Option Value} {news : List (Addr × Obj)} {s : Shared} {R : Result → Shared → Prop}
  {l o pk op : Addr} {fs : List (Addr × Tab)} (C : Cx w A h₀ L s.heap m news) (hroom : A.depth + 130 < 1000) (hp : PickAt w news pk op o) (hl : FilesAt w news l fs) (hz : fs.length < 1000) (hpos : 0 < fs.length)
  (ret : ∀ T t1 t2 h' tks, Fr h₀ L h' m → News h₀ L h' ((T, tupB (gLo fs) (gHi fs) t1 t2) :: news) → (∀ p ∈ news, p.1 < T) → gLo fs < 6 → gHi fs < 6 → R (.ok (.ret (.ref T))) { s with heap := h', toks := tks }) :
  codeAny (model P w) A (.call (.ref 582) ⟨[.ref pk, .ref l], []⟩) R s := by
  obtain ⟨⟨A₀, base, env, outer, B, hA, hf, hke⟩, F, X, N, ⟨loose, mean, mg, mb, T⟩, hh⟩ := C
  obtain ⟨d, t1, t2, o1, o2, ho⟩ := id hp
  have hm := hl.metas
  obtain ⟨h6a, h6b⟩ : gLo fs < 6 ∧ gHi fs < 6 := by
    cases fs with
    | nil => cases hpos
    | cons p r => exact ⟨Nat.lt_of_le_of_lt mLo_le (by have := (hm p (List.mem_cons_self ..)).ok; unfold Tab.Ok at this; walk_at "mine om"), mHi_lt (hm p (List.mem_cons_self ..)).ok.2 (fun q hq => (hm q (List.mem_cons_of_mem _ hq)).ok.2)⟩
  refine' code_def (binds := [(Str.ofString "self", .ref pk), (Str.ofString "files", .ref l)]) B F X N T hA hf hke ?k6 ?k7 ?k8 ?k9 ?kB ?_ ?c2 ?c3 ?c4 ?c5
  walk_at "mine enter"
  k_steps
  rename News h₀ L _ _ => Nz
  exact ret _ _ _ _ _ (by k_asm) (news2 Nz) (by walk_at "mine lt") h6a h6b
theorem rg09_2 : True := by
  k_with "call ref" => (k_dflt ((with_reducible show wpAny _ _ (call (Value.ref 582) _ _) _ _ _); refine wpAny_call ?_; refine' spec_urange (by walk_at "mine cx") (by walk_at "mine room") (by first | assumption | (refine PickAt.mono (by assumption) ?_; intro q hq; (repeat (first | exact hq | refine List.mem_cons_of_mem _ ?_)); done)) (by walk_at "mine files") (by walk_at "mine len") (by walk_at "mine len") ?_; intro _ _ _ _ _ _ _ l1q9 _ _; (try k_lt l1q9); (try k_sweep); (try dsimp only); (revert l1q9; intro _)))
  exact trivial
-- setup
noncomputable abbrev fsAt (lv : List (Addr × List (Addr × Tab))) (k : Int) : List (Addr × Tab) := ((lv[k.toNat]?).getD (0, [])).2
theorem fsAt_at {lv : List (Addr × List (Addr × Tab))} {k : Int} (h : k.toNat < lv.length) : lv[k.toNat]? = some (((lv[k.toNat]?).getD (0, [])).1, fsAt lv k) := by
  unfold fsAt
  rw [List.getElem?_eq_getElem h]
  rfl
noncomputable def Small (lv : List (Addr × List (Addr × Tab))) : Prop := ∀ k : Int, (fsAt lv k).length < 400
theorem spec_over' {w : World} {A : Around} {h₀ : Heap} {L : Addr} {m : Str → Option Value} {news : List (Addr × Obj)} {s : Shared} {R : Result → Shared → Prop}
  {v d fl o T : Addr} {lv : List (Addr × List (Addr × Tab))} {nl sl : Int} {t : Nat → Tok} {k : Int} {kt ta tb : Tok} {a b : Nat}
  (C : Cx w A h₀ L s.heap m news) (hroom : A.depth + 30 < 1000) (hv : VerAt w news v d fl o lv) (hd : (d, verD w nl o fl T sl t) ∈ news) (h0 : 0 ≤ k) (hk : k < 100) (hlv : k.toNat < lv.length) (hz : Small lv) (ha : a < 6) (hb : b < 6)
  (ret : ∀ D fnd n a' b' h' tks, Found (k = 0) (fsAt lv k) a b fnd a' b' → b' < 6 → (∀ nw, VerAt w nw v d fl o lv → ∀ p ∈ fnd, MetaAt w nw p.1 p.2) → fnd.length < 400 → Fr h₀ L h' m → News h₀ L h' ((D, listOf (refsOf fnd) n) :: news) → (∀ p ∈ news, p.1 < D) → R (.ok (.ret (.ref D))) { s with heap := h', toks := tks }) :
  codeAny (model P w) A (.call (.ref 407) ⟨[.ref v, .int k kt, .bytes (ub a) ta, .bytes (ub b) tb], []⟩) R s := by
  refine spec_over C hroom hv hd h0 hk (fsAt_at hlv) (by have := hz k; walk_at "mine om") ha hb ?_
  intro D fnd n a' b' h' tks hf hb6 F' N' hne
  have hsub : ∀ p ∈ fnd, p ∈ fsAt lv k := fun p hp => by rw [hf.is] at hp; exact (List.mem_filter.mp hp).1
  have hfl : ∀ nw, VerAt w nw v d fl o lv → ∀ p ∈ fnd, MetaAt w nw p.1 p.2 := by
    rintro nw ⟨_, ⟨_, _, hlevs⟩, _⟩ p hp
    obtain ⟨_, _, hm⟩ := hlevs _ (List.mem_of_getElem? (fsAt_at hlv))
    exact hm p (hsub p hp)
  refine ret D fnd n a' b' h' tks hf hb6 hfl ?_ F' N' hne
  have := hz k
  rw [hf.is]
  exact Nat.lt_of_le_of_lt (List.length_filter_le ..) this
theorem metas_mono {w : World} {nw led : List (Addr × Obj)} {fs : List (Addr × Tab)} (h : ∀ p ∈ fs, MetaAt w nw p.1 p.2) (hs : ∀ q ∈ nw, q ∈ led) : ∀ p ∈ fs, MetaAt w led p.1 p.2 := fun p hp => (h p hp).mono hs
theorem add_L {prog : Program} {w : World} {A : Around} {E : Value → Shared → Prop} {s : Shared} {h₀ : Heap} {L l l' : Addr} {m : Str → Option Value} {led : List (Addr × Obj)} {xs ys : List (Addr × Tab)} {k k' : Nat} {Q : Value → Shared → Prop}
    (F : Fr h₀ L s.heap m) (N : News h₀ L s.heap led) (hl : (l, listOf (refsOf xs) k) ∈ led) (hl' : (l', listOf (refsOf ys) k') ∈ led) (hz : xs.length < 500) (hz' : ys.length < 500)
    (h : ∀ D h' tk, Fr h₀ L h' m → News h₀ L h' ((D, listOf (refsOf (xs ++ ys)) 0) :: led) → (∀ p ∈ led, p.1 < D) → (∀ nw, (∀ p ∈ xs, MetaAt w nw p.1 p.2) → (∀ p ∈ ys, MetaAt w nw p.1 p.2) → ∀ p ∈ xs ++ ys, MetaAt w nw p.1 p.2) → Q (.ref D) { s with heap := h', toks := tk }) :
    wpAny (model prog w) A (binaryOp .Add (.ref l) (.ref l')) Q E s := by
  refine add_lists (vs := xs.map fun p => Value.ref p.1) (ws := ys.map fun p => Value.ref p.1) F N ⟨_, (N _ hl).1, rfl, _, rfl⟩ ⟨_, (N _ hl').1, rfl, _, rfl⟩ (fun h' F' N' => ?_) (by rw [List.length_map, List.length_map, sizeLine_eq]; walk_at "mine om")
  rw [← List.map_append] at N'
  exact h _ _ _ F' N' (fun p hp => Heap.lt_size (N p hp).1) fun nw h1 h2 p hp => (List.mem_append.mp hp).elim (h1 p) (h2 p)
theorem rg10_0 : True := by
  k_with "mine files" => ((first | assumption | (refine FilesAt.mono (by assumption) ?_; intro q hq; (repeat (first | exact hq | refine List.mem_cons_of_mem _ ?_)); done) | (refine' ⟨_, (by k_mem), (by exact metas_mono (by assumption) (by intro q hq; (repeat (first | exact hq | refine List.mem_cons_of_mem _ ?_)); done))⟩)))
  exact trivial
/-- the options: what the law asks of them -/
structure Opt where
  nl : Int
  l0 : Int
  base : Int
  fac : Int
  mfs : Int
  exp : Int
noncomputable abbrev optD (w : World) (q : Opt) (t : Nat → Tok) (v : Nat → Value) : Obj := dictOf [fe w "check" (t 0) (v 0), fe w "log_block" (t 1) (v 1), fe w "sync_writes" (t 2) (v 2), fe w "create_missing" (t 3) (v 3), fe w "paranoid" (t 4) (v 4), fe w "write_buffer" (t 5) (v 5), fe w "max_height" (t 6) (v 6), fe w "heights" (t 7) (v 7), fe w "block_size" (t 8) (v 8), fe w "restart_interval" (t 9) (v 9), fe w "filter_bits" (t 10) (v 10), fe w "filter_base_lg" (t 11) (v 11), fe w "max_file_size" (t 12) (.int q.mfs (t 13)), fe w "num_levels" (t 14) (.int q.nl (t 15)), fe w "l0_trigger" (t 16) (.int q.l0 (t 17)), fe w "l0_stop" (t 18) (v 12), fe w "base_bytes" (t 19) (.int q.base (t 20)), fe w "level_factor" (t 21) (.int q.fac (t 22)), fe w "max_mem_level" (t 23) (v 13), fe w "grandparent_factor" (t 24) (v 14), fe w "expand_factor" (t 25) (.int q.exp (t 26))] 21
inductive OptAt (w : World) (news : List (Addr × Obj)) (op : Addr) (q : Opt) : Prop
  | mk (d : Addr) (t : Nat → Tok) (v : Nat → Value) (h1 : (op, instObj 305 d) ∈ news) (h2 : (d, optD w q t v) ∈ news)
theorem OptAt.mono {w : World} {news news' : List (Addr × Obj)} {op : Addr} {q : Opt} (h : OptAt w news op q) (hs : ∀ p ∈ news, p ∈ news') : OptAt w news' op q :=
  let ⟨d, t, v, h1, h2⟩ := h; ⟨d, t, v, hs _ h1, hs _ h2⟩
noncomputable abbrev compD (w : World) (k : Int) (v op co us ci gp ed pl : Addr) (t : Nat → Tok) : Obj := dictOf [fe w "level" (t 0) (.int k (t 1)), fe w "version" (t 2) (.ref v), fe w "options" (t 3) (.ref op), fe w "order" (t 4) (.ref co), fe w "users" (t 5) (.ref us), fe w "inputs" (t 6) (.ref ci), fe w "grandparents" (t 7) (.ref gp), fe w "edit" (t 8) (.ref ed), fe w "manual" (t 9) (.bool false), fe w "grand_at" (t 10) (.int 0 (t 11)), fe w "grand_octets" (t 12) (.int 0 (t 13)), fe w "seen_key" (t 14) (.bool false), fe w "places" (t 15) (.ref pl)] 13
noncomputable abbrev editD (w : World) (cp de ad : Addr) (t : Nat → Tok) : Obj := dictOf [fe w "comparator" (t 0) .none, fe w "log_number" (t 1) .none, fe w "next_file" (t 2) .none, fe w "last_seq" (t 3) .none, fe w "compact_pointers" (t 4) (.ref cp), fe w "deleted" (t 5) (.ref de), fe w "added" (t 6) (.ref ad), fe w "reset" (t 7) (.bool false)] 8
noncomputable def PtrOk (v : Value) : Prop := (∃ t, v = .bytes #[] t) ∨ ∃ u t, u < 6 ∧ v = .bytes (ik u 1) t
theorem rg10_1 : True := by
  k_with "mine ver" => ((first | assumption | (refine VerAt.mono (by assumption) ?_; intro q hq; (repeat (first | exact hq | refine List.mem_cons_of_mem _ ?_)); done)))
  k_with "mine lev" => ((first | assumption | walk_at "mine om" | (simp only [Int.toNat_add_nat, *]; walk_at "mine om")))
  k_with "call ref" => (k_dflt ((with_reducible show wpAny _ _ (call (Value.ref 407) _ _) _ _ _); refine wpAny_call ?_; refine' spec_over' (by walk_at "mine cx") (by walk_at "mine room") (by walk_at "mine ver") (by k_mem) (by walk_at "mine om") (by walk_at "mine om") (by walk_at "mine lev") (by assumption) (by assumption) (by assumption) ?_; intro _ _ _ _ _ _ _ _ _ hflq9 _ _ _ l1q9; (have hfmq9 := hflq9 _ (by assumption)); clear hflq9; (try k_lt l1q9); (try k_sweep); (try dsimp only); (revert l1q9; intro _); (revert hfmq9; intro _)))
  k_with "call ref" => (k_dflt ((with_reducible show wpAny _ _ (call (Value.ref 477) _ _) _ _ _); refine wpAny_call ?_; refine' spec_total (by walk_at "mine cx") (by walk_at "mine room") (by walk_at "mine files") ?_; intro _ _ _ _ _; (try k_sweep); (try dsimp only)))
  k_with "binaryOp Add ref ref" => (k_dflt (refine' add_L (by k_asm) (by k_asm) (by k_mem) (by k_mem) (by ((try simp only [List.length_cons]); walk_at "mine om")) (by ((try simp only [List.length_cons]); walk_at "mine om")) ?_; intro _ _ _ _ _ l1q9 hfaq9; (have hfmq9 := hfaq9 _ (by assumption) (by assumption)); clear hfaq9; (try k_lt l1q9); (try k_sweep); (revert l1q9; intro _); (revert hfmq9; intro _)))
  exact trivial
theorem ki_setL_ok {v : Value} : ∀ {l : List Value} {j : Nat}, j < l.length → ki_setL l j v = some (l.set j v)
  | _ :: _, 0, _ => rfl
  | x :: l, j + 1, h => by
    have := ki_setL_ok (v := v) (l := l) (j := j) (by simpa using h)
    simp [ki_setL, this]
theorem set_L {prog : Program} {w : World} {A : Around} {E : Value → Shared → Prop} {s : Shared} {h₀ : Heap} {L D : Addr} {m : Str → Option Value} {news news' : List (Addr × Obj)} {its : Array Value} {n : Nat} {k : Int} {t : Tok} {v : Value} {Q : Unit → Shared → Prop}
    (F : Fr h₀ L s.heap m) (N : News h₀ L s.heap news) (U : Upd D (listOf its n) (listOf (its.toList.set k.toNat v).toArray n) news news') (h0 : 0 ≤ k) (hfit : k < 2 ^ 63) (hlt : k.toNat < its.size)
    (h : ∀ h', Fr h₀ L h' m → News h₀ L h' news' → Q () { s with heap := h' }) : wpAny (model prog w) A (setItem (.ref D) (.int k t) v) Q E s :=
  ki_set F N h0 hfit (ki_setL_ok (by simpa using hlt)) U h
theorem rg10_2 : True := by
  k_with "setItem ref int bytes" => (k_dflt (refine' set_L (by k_asm) (by k_asm) (by k_upd) (by walk_at "mine om") (by walk_at "mine om") (by first | assumption | walk_at "mine om") ?_; intro _ _ _; (try k_sweep)))
  exact trivial
noncomputable def OptOk (q : Opt) : Prop := (3 ≤ q.nl ∧ q.nl ≤ 4) ∧ (1 ≤ q.l0 ∧ q.l0 ≤ 100) ∧ (1 ≤ q.base ∧ q.base ≤ 100) ∧ (1 ≤ q.fac ∧ q.fac ≤ 100) ∧ (1 ≤ q.mfs ∧ q.mfs ≤ 100) ∧ (1 ≤ q.exp ∧ q.exp ≤ 100)
theorem mulOk {a b : Int} (h1 : 1 ≤ a) (h2 : a ≤ 100) : IntMulOk a b := IntMulOk.of_left (intBits_le_64 (by walk_at "mine om") (by walk_at "mine om"))
theorem rg10_3 : True := by
  k_with "binaryOp Mult int int" => (k_dflt (refine PyProof.Rows.mul_int ?_ (mulOk (by walk_at "mine om") (by walk_at "mine om"))))
  exact trivial
/-- what a pick takes -/
structure Picked (lv : List (Addr × List (Addr × Tab))) (k : Int) (f0 f1 : List (Addr × Tab)) : Prop where
  pos : 0 < f0.length
  sub0 : f0.Sublist (fsAt lv k)
  is1 : f1 = (fsAt lv (k + 1)).filter fun p => meetsB (gLo f0) (gHi f0) p.2
  zero : k = 0 → ∀ p ∈ fsAt lv k, meetsB (gLo f0) (gHi f0) p.2 = true → p ∈ f0
theorem mLo_ge {x : Nat} : ∀ {a : Nat} {fs : List (Addr × Tab)}, x ≤ a → (∀ p ∈ fs, x ≤ p.2.lo) → x ≤ mLo a fs
  | _, [], h, _ => h
  | a, p :: r, h, hp => by
    unfold mLo
    rw [List.foldl_cons]
    have := mLo_ge (x := x) (a := if p.2.lo < a then p.2.lo else a) (fs := r) (by have := hp p (List.mem_cons_self ..); split <;> walk_at "mine om") (fun q hq => hp q (List.mem_cons_of_mem _ hq))
    unfold mLo at this
    exact this
theorem mHi_le {x : Nat} : ∀ {a : Nat} {fs : List (Addr × Tab)}, a ≤ x → (∀ p ∈ fs, p.2.hi ≤ x) → mHi a fs ≤ x
  | _, [], h, _ => h
  | a, p :: r, h, hp => by
    unfold mHi
    rw [List.foldl_cons]
    have := mHi_le (x := x) (a := if a < p.2.hi then p.2.hi else a) (fs := r) (by have := hp p (List.mem_cons_self ..); split <;> walk_at "mine om") (fun q hq => hp q (List.mem_cons_of_mem _ hq))
    unfold mHi at this
    exact this
theorem found_zero {z : Prop} {fs fnd : List (Addr × Tab)} {a b a' b' : Nat} (h : Found z fs a b fnd a' b') (hz : z) (hp : 0 < fnd.length) : ∀ p ∈ fs, meetsB (gLo fnd) (gHi fnd) p.2 = true → p ∈ fnd := by
  intro p hpf hm
  have ht := h.top hz
  have h1 : a' ≤ gLo fnd ∧ gHi fnd ≤ b' := by
    cases fnd with
    | nil => cases hp
    | cons q r => exact ⟨mLo_ge (ht q (List.mem_cons_self ..)).1 fun x hx => (ht x (List.mem_cons_of_mem _ hx)).1, mHi_le (ht q (List.mem_cons_self ..)).2 fun x hx => (ht x (List.mem_cons_of_mem _ hx)).2⟩
  rw [h.is]
  refine List.mem_filter.mpr ⟨hpf, ?_⟩
  simp only [meetsB, Bool.and_eq_true, decide_eq_true_eq] at hm ⊢
  walk_at "mine om"
theorem picked_of {lv : List (Addr × List (Addr × Tab))} {k : Int} {f0 f1 : List (Addr × Tab)} {a' b' : Nat} (hk : 0 ≤ k) (hp : 0 < f0.length) (hs : f0.Sublist (fsAt lv k)) (hz : k = 0 → ∀ p ∈ fsAt lv k, meetsB (gLo f0) (gHi f0) p.2 = true → p ∈ f0) (h1 : Found (k + 1 = 0) (fsAt lv (k + 1)) (gLo f0) (gHi f0) f1 a' b') : Picked lv k f0 f1 := by
  obtain ⟨rfl, rfl⟩ := h1.deep (by walk_at "mine om")
  exact ⟨hp, hs, h1.is, hz⟩
theorem picked_grown {lv : List (Addr × List (Addr × Tab))} {k : Int} {f0 f1 : List (Addr × Tab)} {a b a' b' a'' b'' : Nat} (hk : 0 ≤ k) (hp : 0 < f0.length) (h0 : Found (k = 0) (fsAt lv k) a b f0 a'' b'') (h1 : Found (k + 1 = 0) (fsAt lv (k + 1)) (gLo f0) (gHi f0) f1 a' b') : Picked lv k f0 f1 :=
  picked_of hk hp (by rw [h0.is]; exact List.filter_sublist ..) (fun hz => found_zero h0 hz hp) h1
/-- what holds behind the choice of the two lists -/
inductive JSetA (w : World) (pk c pt v ci cd cp op co us ed pl gp : Addr) (tc : Nat → Tok) (k : Int) (ki kp kc : Nat) (ptrs cps : Array Value) (lv : List (Addr × List (Addr × Tab))) (rest : Led) (m : Fm) (led : Led) : Prop
  | mk (x0 x1 sp : Addr) (g0 g1 : List (Addr × Tab)) (lo hi k0 k1 : Nat) (t1 t2 tl : Tok) (hm : Has m [(Str.ofString "self", .ref pk), (Str.ofString "c", .ref c), (Str.ofString "pointers", .ref pt), (Str.ofString "level", .int k tl), (Str.ofString "version", .ref v), (Str.ofString "span", .ref sp)])
    (r1 : (ci, listOf #[.ref x0, .ref x1] ki) ∈ led) (r2 : (cd, compD w k v op co us ci gp ed pl tc) ∈ led) (r3 : (pt, listOf ptrs kp) ∈ led) (r4 : (cp, listOf cps kc) ∈ led) (r5 : ∀ p ∈ rest, p ∈ led)
    (r6 : (sp, tupB lo hi t1 t2) ∈ led) (n6 : @Ne Nat sp ci ∧ @Ne Nat sp cd ∧ @Ne Nat sp pt ∧ @Ne Nat sp cp) (hlo : lo < 6) (hhi : hi < 6)
    (f0 : (x0, listOf (refsOf g0) k0) ∈ led) (n0 : @Ne Nat x0 ci ∧ @Ne Nat x0 cd ∧ @Ne Nat x0 pt ∧ @Ne Nat x0 cp) (f1 : (x1, listOf (refsOf g1) k1) ∈ led) (n1 : @Ne Nat x1 ci ∧ @Ne Nat x1 cd ∧ @Ne Nat x1 pt ∧ @Ne Nat x1 cp) (z0 : g0.length < 400) (hp : Picked lv k g0 g1)
/-- and behind the grandparents -/
inductive JSetB (w : World) (pk c pt ci cd cp v op co us ed pl x0 x1 : Addr) (tc : Nat → Tok) (k : Int) (tl : Tok) (ki kp kc : Nat) (ptrs cps : Array Value) (rr : Led) (m : Fm) (led : Led) : Prop
  | mk (gp : Addr) (hm : Has m [(Str.ofString "self", .ref pk), (Str.ofString "c", .ref c), (Str.ofString "pointers", .ref pt), (Str.ofString "level", .int k tl)])
    (e : led = (ci, listOf #[.ref x0, .ref x1] ki) :: (cd, compD w k v op co us ci gp ed pl tc) :: (pt, listOf ptrs kp) :: (cp, listOf cps kc) :: rr)
theorem newsT {h₀ h : Heap} {L : Addr} {a : Addr × Obj} {l : List (Addr × Obj)} (N : News h₀ L h (a :: l)) : News h₀ L h l := fun p hp => N p (List.mem_cons_of_mem _ hp)
theorem metas_sub {w : World} {nw : Led} {v d fl o : Addr} {lv : List (Addr × List (Addr × Tab))} {k : Int} {g : List (Addr × Tab)} (hv : VerAt w nw v d fl o lv) (hk : k.toNat < lv.length) (hs : ∀ p ∈ g, p ∈ fsAt lv k) : ∀ p ∈ g, MetaAt w nw p.1 p.2 := fun p hp => by
  obtain ⟨_, ⟨_, _, hlevs⟩, _⟩ := hv
  exact (hlevs _ (List.mem_of_getElem? (fsAt_at hk))).metas p (hs p hp)
theorem spec_setup {w : World} {A : Around} {h₀ : Heap} {L : Addr} {m : Str → Option Value} {rest : List (Addr × Obj)} {s : Shared} {R : Result → Shared → Prop}
  {pk op o c cd ci v d fl vo T pt ed edd cp co us gp pl de ad a0 a1 : Addr} {lv : List (Addr × List (Addr × Tab))} {q : Opt} {sl : Int} {t tc te : Nat → Tok} {k : Int} {ki kp kc : Nat} {ptrs cps : Array Value} {f0 : List (Addr × Tab)}
  (C : Cx w A h₀ L s.heap m ((ci, listOf #[.ref a0, .ref a1] ki) :: (cd, compD w k v op co us ci gp ed pl tc) :: (pt, listOf ptrs kp) :: (cp, listOf cps kc) :: rest)) (hroom : A.depth + 200 < 1000)
  (hne : @Ne Nat ci cd ∧ @Ne Nat ci pt ∧ @Ne Nat ci cp ∧ @Ne Nat cd pt ∧ @Ne Nat cd cp ∧ @Ne Nat pt cp)
  (hr1 : ∀ p ∈ rest, p.1 ≠ ci) (hr2 : ∀ p ∈ rest, p.1 ≠ cd) (hr3 : ∀ p ∈ rest, p.1 ≠ pt) (hr4 : ∀ p ∈ rest, p.1 ≠ cp)
  (hc : (c, instObj 536 cd) ∈ rest) (hed : (ed, instObj 375 edd) ∈ rest) (hedd : (edd, editD w cp de ad te) ∈ rest)
  (hp : PickAt w rest pk op o) (hop : OptAt w rest op q) (hv : VerAt w rest v d fl vo lv) (hd : (d, verD w q.nl vo fl T sl t) ∈ rest)
  (hk0 : 0 ≤ k) (hk1 : k + 1 < q.nl) (hlen : lv.length = q.nl.toNat) (hptr : k.toNat < ptrs.size) (hcps : cps.size < 1000) (hsm : Small lv)
  (hq : OptOk q) (hf0 : FilesAt w rest a0 f0) (hz0 : f0.length < 400) (hpos : 0 < f0.length) (hsub : f0.Sublist (fsAt lv k)) (hzr : k = 0 → ∀ p ∈ fsAt lv k, meetsB (gLo f0) (gHi f0) p.2 = true → p ∈ f0)
  (ret : ∀ x0 x1 g0 g1 gp' v' led h' tks, Fr h₀ L h' m → News h₀ L h' led → (ci, listOf #[.ref x0, .ref x1] ki) ∈ led → (cd, compD w k v op co us ci gp' ed pl tc) ∈ led → (pt, listOf (ptrs.toList.set k.toNat v').toArray kp) ∈ led → PtrOk v' → (∀ p ∈ rest, p ∈ led) →
    FilesAt w led x0 g0 → FilesAt w led x1 g1 → Picked lv k g0 g1 → R (.ok (.ret .none)) { s with heap := h', toks := tks }) :
  codeAny (model P w) A (.call (.ref 603) ⟨[.ref pk, .ref c, .ref pt], []⟩) R s := by
  obtain ⟨⟨A₀, base, env, outer, B, hA, hf, hke⟩, F, X, N, ⟨loose, mean, mg, mb, T'⟩, hh⟩ := C
  obtain ⟨pd, pt1, pt2, po1, po2, pord⟩ := id hp
  obtain ⟨opd, ot, ov, oo1, oo2⟩ := hop
  unfold OptOk at hq
  have hzr' : Hid (k = 0 → ∀ p ∈ fsAt lv k, meetsB (gLo f0) (gHi f0) p.2 = true → p ∈ f0) := hzr
  clear hzr
  have hne' : NeA ci cd ∧ NeA ci pt ∧ NeA ci cp ∧ NeA cd pt ∧ NeA cd cp ∧ NeA pt cp := hne
  clear hne
  obtain ⟨ne1, ne2, ne3, ne4, ne5, ne6⟩ := hne'
  obtain ⟨hv1, _, _⟩ := id hv
  obtain ⟨kk0, hl0, hm0⟩ := id hf0
  refine' code_def (binds := [(Str.ofString "self", .ref pk), (Str.ofString "c", .ref c), (Str.ofString "pointers", .ref pt)]) B F X N T' hA hf hke ?k6 ?k7 ?k8 ?k9 ?kB ?_ ?c2 ?c3 ?c4 ?c5
  walk_at "mine enter"
  have hl0' : k.toNat < lv.length := by walk_at "mine om"
  have hl1' : (k + 1).toNat < lv.length := by walk_at "mine om"
  have hlz : lv.length < 100 := by walk_at "mine om"
  refine wp_join 6 _ (by k_asm) (JSetA w pk c pt v ci cd cp op co us ed pl gp tc k ki kp kc ptrs cps lv rest) ?_ ?_
  · simp only [List.take_succ_cons, List.take_zero]
    k_steps
    all_goals (
      rename News _ _ _ _ => Nz
      exact JEnd.mk _ _ _ _ rfl (by k_asm) Nz (JSetA.mk _ _ _ _ _ _ _ _ _ _ _ _ (by walk_at "mine has") (by k_mem) (by k_mem) (by k_mem) (by k_mem) (by intro q9 hq9; (repeat (first | exact hq9 | refine List.mem_cons_of_mem _ ?_)))
        (by k_mem) (by refine ⟨?_, ?_, ?_, ?_⟩ <;> first | walk_at "mine ne" | (walk_say "MINE omega"; walk_at "mine om")) (by assumption) (by assumption) (by k_mem) (by first | exact ⟨hr1 _ hl0, hr2 _ hl0, hr3 _ hl0, hr4 _ hl0⟩ | (refine ⟨?_, ?_, ?_, ?_⟩ <;> first | walk_at "mine ne" | (walk_say "MINE omega"; walk_at "mine om"))) (by k_mem) (by refine ⟨?_, ?_, ?_, ?_⟩ <;> first | walk_at "mine ne" | (walk_say "MINE omega"; walk_at "mine om")) (by walk_at "mine len")
        (by first
          | exact picked_of hk0 hpos hsub hzr' (by assumption)
          | exact picked_grown hk0 (by walk_at "mine len") (by assumption) (by assumption))))
  · rintro h6 tk6 m6 led F6 N6 ⟨x0, x1, sp, g0, g1, lo, hi, k0, k1, t1', t2', tl, hm6, r1, r2, r3, r4, r5, r6, n6, hlo, hhi, f0', n0, f1', n1, z0, hp6⟩
    refine hideG fun G9 hG9 => ?_
    obtain ⟨rr, N7, u1, u2, u3, u4, hin⟩ := split4 (a := ci) (b := cd) (c := pt) (d := cp) N6 r1 r2 r3 r4
    have hin' : ∀ x ∈ rest, x ∈ rr := fun x hx => hin x (r5 x hx) (hr1 x hx) (hr2 x hx) (hr3 x hx) (hr4 x hx)
    have s1 := hin _ r6 n6.1 n6.2.1 n6.2.2.1 n6.2.2.2
    have s2 := hin _ f0' n0.1 n0.2.1 n0.2.2.1 n0.2.2.2
    have s3 := hin _ f1' n1.1 n1.2.1 n1.2.2.1 n1.2.2.2
    clear n6 n0 n1
    have hv9 := hv.mono hin'
    have e1 : ∀ p ∈ g0, MetaAt w rr p.1 p.2 := metas_sub (k := k) hv9 hl0' fun p hp => hp6.sub0.subset hp
    have e2 : ∀ p ∈ g1, MetaAt w rr p.1 p.2 := metas_sub (k := k + 1) hv9 hl1' fun p hp => by rw [hp6.is1] at hp; exact (List.mem_filter.mp hp).1
    have q1 := hin' _ hc
    have q2 := hin' _ hed
    have q3 := hin' _ hedd
    have q4 := hin' _ po1
    have q5 := hin' _ po2
    have q6 := hin' _ oo1
    have q7 := hin' _ oo2
    have q8 := hin' _ hv1
    have q9 := hin' _ hd
    have pord' := pord.mono hin'
    have hp9 := hp.mono hin'
    have hpos6 := hp6.pos
    have F7 := Fr.with _ F6 hm6
    clear N6 F6 hm6 r1 r2 r3 r4 r6 f0' f1' hc hed hedd po1 po2 oo1 oo2 hv1 hd pord hp hv hm0 hl0 hf0 hsub hpos hz0
    refine hG9 ?_
    simp only [List.drop_succ_cons, List.drop_zero]
    refine wp_join 1 _ F7 (JSetB w pk c pt ci cd cp v op co us ed pl x0 x1 tc k tl ki kp kc ptrs cps rr) ?_ ?_
    · simp only [List.take_succ_cons, List.take_zero]
      k_steps
      all_goals (
        rename News _ _ _ _ => Nz
        first
          | exact JEnd.mk _ _ _ _ rfl (by k_asm) Nz ⟨_, by walk_at "mine has", rfl⟩
          | exact JEnd.mk _ _ _ _ rfl (by k_asm) (newsT Nz) ⟨_, by walk_at "mine has", rfl⟩)
    · rintro h8 tk8 m8 led8 F8 N8 ⟨gp', hm8, rfl⟩
      refine hideG fun G9 hG9 => ?_
      have F9 := Fr.with _ F8 hm8
      clear F8 hm8 F7 N7 s1
      refine hG9 ?_
      simp only [List.drop_succ_cons, List.drop_zero]
      k_steps
      exact ret _ _ _ _ _ _ _ _ _ (by k_asm) (by k_asm) (by k_mem) (by k_mem) (by k_mem) (.inr ⟨_, _, by assumption, rfl⟩) (by intro y hy; have hy := hin' y hy; (repeat (first | exact hy | refine List.mem_cons_of_mem _ ?_)))
        ⟨_, by k_mem, fun p hp => (e1 p hp).mono (by intro y hy; (repeat (first | exact hy | refine List.mem_cons_of_mem _ ?_)))⟩ ⟨_, by k_mem, fun p hp => (e2 p hp).mono (by intro y hy; (repeat (first | exact hy | refine List.mem_cons_of_mem _ ?_)))⟩ hp6
-- pick
noncomputable abbrev tkL (l : List Tok) (i : Nat) : Tok := l.getD i 0
theorem allLt_nat {d : Addr} {l : List (Addr × Obj)} (h : AllLt d l) {p : Addr × Obj} (hp : p ∈ l) : @LT.lt Nat _ p.1 d := allLt_all h p hp
theorem lt_nat {d : Addr} {l : List (Addr × Obj)} (h : ∀ p ∈ l, p.1 < d) {p : Addr × Obj} (hp : p ∈ l) : @LT.lt Nat _ p.1 d := h p hp
theorem spec_comp {w : World} {A₀ : Around} {h₀ base : Heap} {L a : Addr} {m mg mb : Str → Option Value} {news : List (Addr × Obj)} {s : Shared} {Q E} {scope : Scope} {cdv : Value} {nm : Str} {outer : List Env} {loose} {mean : ExcName → Option Value}
  {v op : Addr} {k : Int} {kt : Tok} {q : Opt}
  (B : Below A₀ base outer h₀) (F : Fr h₀ L s.heap m) (X : (KM w.params).In h₀) (N : News h₀ L s.heap news) (T : Top VW loose mean mg mb h₀) (hroom : A₀.depth + 100 < 1000) (hks : scope.kind = .function) (hh : A₀.handled = none)
  (hop : OptAt w news op q) (hq : OptOk q)
  (ret : ∀ c cd ci cp ed edd co us gp pl de ad a0 a1 tc te rest h' tks, Fr h₀ L h' m → News h₀ L h' ((ci, listOf #[.ref a0, .ref a1] 0) :: (cd, compD w k v op co us ci gp ed pl tc) :: (cp, listOf #[] 0) :: rest) →
    (@Ne Nat ci cd ∧ @Ne Nat ci cp ∧ @Ne Nat cd cp) → (∀ p ∈ rest, p.1 ≠ ci) → (∀ p ∈ rest, p.1 ≠ cd) → (∀ p ∈ rest, p.1 ≠ cp) → (c, instObj 536 cd) ∈ rest → (ed, instObj 375 edd) ∈ rest → (edd, editD w cp de ad te) ∈ rest → (∀ p ∈ news, p ∈ rest) → (∀ p ∈ news, p.1 < ci ∧ p.1 < cd ∧ p.1 < cp) → Q (.ref c) { s with heap := h', toks := tks }) :
  wpAny (model P w) (A₀.deeper (envOf nm scope L a cdv)) (call (.ref 536) [.int k kt, .ref v, .ref op]) Q E s := by
  have hA : (A₀.deeper (envOf nm scope L a cdv)).frames = some (envOf nm scope L a cdv :: outer) := Around.frames_deeper B.stack
  have hf : (envOf nm scope L a cdv).frame = some L := rfl
  have hke : (envOf nm scope L a cdv).scope.kind = .function := hks
  obtain ⟨opd, ot, ov, oo1, oo2⟩ := hop
  unfold OptOk at hq
  have ret2 : ∀ (c cd ci cp ed edd co us gp pl de ad a0 a1 : Addr) (t0 t1 t2 t3 t4 t5 t6 t7 t8 t9 t10 t11 t12 t13 t14 t15 e0 e1 e2 e3 e4 e5 e6 e7 : Tok) (full : List (Addr × Obj)) (h' : Heap) (tks : Nat), Fr h₀ L h' m → News h₀ L h' full → (c, instObj 536 cd) ∈ full → (cd, compD w k v op co us ci gp ed pl (tkL [t0, t1, t2, t3, t4, t5, t6, t7, t8, t9, t10, t11, t12, t13, t14, t15])) ∈ full →
      (ed, instObj 375 edd) ∈ full → (edd, editD w cp de ad (tkL [e0, e1, e2, e3, e4, e5, e6, e7])) ∈ full → (ci, listOf #[.ref a0, .ref a1] 0) ∈ full → (cp, listOf #[] 0) ∈ full → (∀ p ∈ news, p ∈ full) → (∀ p ∈ news, @LT.lt Nat _ p.1 ci ∧ @LT.lt Nat _ p.1 cd ∧ @LT.lt Nat _ p.1 cp) →
      (@Ne Nat ci cd ∧ @Ne Nat ci cp ∧ @Ne Nat cd cp) → (@Ne Nat c ci ∧ @Ne Nat c cd ∧ @Ne Nat c cp) → (@Ne Nat ed ci ∧ @Ne Nat ed cd ∧ @Ne Nat ed cp) → (@Ne Nat edd ci ∧ @Ne Nat edd cd ∧ @Ne Nat edd cp) → Q (.ref c) { s with heap := h', toks := tks } := by
    intro c cd ci cp ed edd co us gp pl de ad a0 a1 t0 t1 t2 t3 t4 t5 t6 t7 t8 t9 t10 t11 t12 t13 t14 t15 e0 e1 e2 e3 e4 e5 e6 e7 full h' tks F' N' m1 m2 m3 m4 m5 m6 hn hlt hd1 hd2 hd3 hd4
    obtain ⟨rest, Nr, n1, n2, n3, hin⟩ := split3 N' m5 m2 m6
    exact ret c cd ci cp ed edd co us gp pl de ad a0 a1 _ _ rest h' tks F' Nr hd1 n1 n2 n3 (hin _ m1 hd2.1 hd2.2.1 hd2.2.2) (hin _ m3 hd3.1 hd3.2.1 hd3.2.2) (hin _ m4 hd4.1 hd4.2.1 hd4.2.2)
      (fun p hp => hin p (hn p hp) (Nat.ne_of_lt (hlt p hp).1) (Nat.ne_of_lt (hlt p hp).2.1) (Nat.ne_of_lt (hlt p hp).2.2)) hlt
  clear ret
  refine st_mark ?_
  intro hK9
  k_steps
  rename News h₀ L _ _ => Nz
  refine' ret2 _ _ _ _ _ _ _ _ _ _ _ _ _ _ _ _ _ _ _ _ _ _ _ _ _ _ _ _ _ _ _ _ _ _ _ _ _ _ _ _ _ ?r1 Nz ?r3 ?r4 ?r5 ?r6 ?r7 ?r8 ?r9 ?r10 ?r11 ?r12 ?r13 ?r14
  case r1 => k_asm
  case r3 => k_mem
  case r4 => k_mem
  case r5 => k_mem
  case r6 => k_mem
  case r7 => k_mem
  case r8 => k_mem
  case r9 => intro q9 hq9; simp only [List.mem_cons, hq9, or_true]
  case r10 => intro q9 hq9; refine ⟨?_, ?_, ?_⟩ <;> first | exact lt_nat (by assumption) hq9 | exact allLt_nat (by walk_at "mine al") hq9
  all_goals refine ⟨?_, ?_, ?_⟩
  all_goals first | walk_at "mine ne" | walk_at "mine om"
theorem rg11_0 : True := by
  k_with "call ref" => (k_dflt ((with_reducible show wpAny _ _ (call (Value.ref 603) _ _) _ _ _); refine myStop ?_))
  k_with "mine opt" => ((first | assumption | (refine OptAt.mono (by assumption) ?_; intro q hq; (repeat (first | exact hq | refine List.mem_cons_of_mem _ ?_)); done)))
  k_with "call ref" => (k_dflt ((with_reducible show wpAny _ _ (call (Value.ref 536) _ _) _ _ _); refine myStop ?_))
  exact trivial
theorem files_single {w : World} {led : List (Addr × Obj)} {l : Addr} {p : Addr × Tab} {k : Nat} (hm : MetaAt w led p.1 p.2) (hl : (l, listOf #[.ref p.1] k) ∈ led) : FilesAt w led l [p] :=
  ⟨k, hl, fun q hq => by rw [List.mem_singleton.mp hq]; exact hm⟩
theorem rg11_1 : True := by
  k_with "mine files" => ((exact files_single (MetaAt.mono (by assumption) (by intro q hq; (repeat (first | exact hq | refine List.mem_cons_of_mem _ ?_)); done)) (by k_mem)))
  k_with "mine len" => ((simp only [List.length_cons, List.length_nil]; walk_at "mine om"))
  exact trivial
theorem single_of {fs : List (Addr × Tab)} {p : Addr × Tab} (h : p ∈ fs) : [p].Sublist fs := List.singleton_sublist.mpr h
theorem metas_of {w : World} {nw : List (Addr × Obj)} {v d fl o : Addr} {lv : List (Addr × List (Addr × Tab))} {k : Int} (hv : VerAt w nw v d fl o lv) (hk : k.toNat < lv.length) : ∀ p ∈ fsAt lv k, MetaAt w nw p.1 p.2 := by
  obtain ⟨_, ⟨_, _, hlevs⟩, _⟩ := hv
  exact (hlevs _ (List.mem_of_getElem? (fsAt_at hk))).metas
theorem found_mem {z : Prop} {fs fnd : List (Addr × Tab)} {a b a' b' : Nat} (h : Found z fs a b fnd a' b') {p : Addr × Tab} (hp : p ∈ fnd) : p ∈ fs := by
  rw [h.is] at hp
  exact (List.mem_filter.mp hp).1
theorem found_sub {z : Prop} {fs fnd : List (Addr × Tab)} {a b a' b' : Nat} (h : Found z fs a b fnd a' b') : fnd.Sublist fs := by
  rw [h.is]
  exact List.filter_sublist ..
theorem found_pos {z : Prop} {fs fnd : List (Addr × Tab)} {a' b' : Nat} {p : Addr × Tab} (h : Found z fs (gLo [p]) (gHi [p]) fnd a' b') (hp : p ∈ fs) (hok : p.2.Ok) : 0 < fnd.length := by
  have h1 : a' ≤ p.2.lo := h.lo
  have h2 : p.2.hi ≤ b' := h.hi
  have h3 := hok.1
  refine List.length_pos_of_mem (a := p) ?_
  rw [h.is]
  refine List.mem_filter.mpr ⟨hp, ?_⟩
  simp only [meetsB, Bool.and_eq_true, decide_eq_true_eq]
  walk_at "mine om"
inductive JPick (pk c v pt : Addr) (sl : Int) (fs : List (Addr × Tab)) (base : Led) (m : Fm) (led : Led) : Prop
  | mk (p : Addr × Tab) (hp : p ∈ fs) (lt : Tok) (hm : Has m [(Str.ofString "first", .ref p.1), (Str.ofString "self", .ref pk), (Str.ofString "c", .ref c), (Str.ofString "version", .ref v), (Str.ofString "level", .int sl lt), (Str.ofString "pointers", .ref pt)]) (hn : ∀ x ∈ base, x ∈ led)
inductive JPickI (pk c v pt : Addr) (sl : Int) (fs : List (Addr × Tab)) (base : Led) (bp : Array UInt8) (_ : Nat) (m : Fm) (led : Led) : Prop
  | mk (p : Addr × Tab) (hp : p ∈ fs) (lt tp : Tok) (hm : Has m [(Str.ofString "first", .ref p.1), (Str.ofString "self", .ref pk), (Str.ofString "c", .ref c), (Str.ofString "version", .ref v), (Str.ofString "level", .int sl lt), (Str.ofString "pointers", .ref pt), (Str.ofString "pointer", .bytes bp tp)]) (hn : ∀ x ∈ base, x ∈ led)
theorem has_cut {m : Fm} {a b c d e f g : Str × Value} (h : Has m [a, b, c, d, e, f, g]) : Has m [a, b, c, d, e, f] := fun p hp => h p (by simp only [List.mem_cons, List.not_mem_nil, or_false] at hp ⊢; rcases hp with h | h | h | h | h | h <;> simp [h])
theorem spec_pick {w : World} {A : Around} {h₀ : Heap} {L : Addr} {m : Str → Option Value} {rest : List (Addr × Obj)} {s : Shared} {R : Result → Shared → Prop}
  {pk op o v d fl vo T pt : Addr} {lv : List (Addr × List (Addr × Tab))} {q : Opt} {sl top bot : Int} {t : Nat → Tok} {tt1 tt2 : Tok} {kp : Nat} {ptrs : Array Value}
  (C : Cx w A h₀ L s.heap m ((pt, listOf ptrs kp) :: rest)) (hroom : A.depth + 260 < 1000) (hr : ∀ p ∈ rest, p.1 ≠ pt)
  (hp : PickAt w rest pk op o) (hop : OptAt w rest op q) (hv : VerAt w rest v d fl vo lv) (hd : (d, verD w q.nl vo fl T sl t) ∈ rest) (hT : (T, tup2 top bot tt1 tt2) ∈ rest)
  (hq : OptOk q) (hlen : lv.length = q.nl.toNat) (hptr : ptrs.size = q.nl.toNat) (hpo : ∀ x ∈ ptrs, PtrOk x) (hsm : Small lv)
  (hsc : bot ≤ top → 0 ≤ sl ∧ sl + 1 < q.nl ∧ 0 < (fsAt lv sl).length)
  (ret0 : top < bot → ∀ h' tks, Fr h₀ L h' m → News h₀ L h' ((pt, listOf ptrs kp) :: rest) → R (.ok (.ret .none)) { s with heap := h', toks := tks })
  (ret1 : bot ≤ top → ∀ c cd ci x0 x1 g0 g1 co us gp ed pl tc v' ptrs' led h' tks, Fr h₀ L h' m → News h₀ L h' led → (c, instObj 536 cd) ∈ led → (cd, compD w sl v op co us ci gp ed pl tc) ∈ led → (ci, listOf #[.ref x0, .ref x1] 0) ∈ led → (pt, listOf ptrs' kp) ∈ led → PtrOk v' → ptrs' = (ptrs.toList.set sl.toNat v').toArray → (∀ p ∈ rest, p ∈ led) →
    FilesAt w led x0 g0 → FilesAt w led x1 g1 → Picked lv sl g0 g1 → R (.ok (.ret (.ref c))) { s with heap := h', toks := tks }) :
  codeAny (model P w) A (.call (.ref 589) ⟨[.ref pk, .ref v, .ref pt], []⟩) R s := by
  obtain ⟨⟨A₀, base, env, outer, B, hA, hf, hke⟩, F, X, N, ⟨loose, mean, mg, mb, T'⟩, hh⟩ := C
  obtain ⟨pd, pt1, pt2, po1, po2, pord⟩ := id hp
  obtain ⟨hv1, ⟨kf, hfl, hlevs⟩, hvord⟩ := id hv
  have hq' := hq
  unfold OptOk at hq'
  replace ret0 := hid ret0
  replace hsc := hid hsc
  replace ret1 := hid ret1
  refine' code_def (binds := [(Str.ofString "self", .ref pk), (Str.ofString "version", .ref v), (Str.ofString "pointers", .ref pt)]) B F X N T' hA hf hke ?k6 ?k7 ?k8 ?k9 ?kB ?_ ?c2 ?c3 ?c4 ?c5
  walk_at "mine enter"
  by_cases hcmp : top < bot
  · k_steps
    exact ret0 hcmp _ _ (by k_asm) (by k_asm)
  · obtain ⟨hs0, hs1, hs2⟩ := hsc (by walk_at "mine om")
    have hlv := fsAt_at (lv := lv) (k := sl) (by walk_at "mine om")
    have hat := lev_at hlv
    obtain ⟨kl, hl, hm⟩ := hlevs _ (List.mem_of_getElem? hlv)
    have hpi : ptrs[sl.toNat]? = some (ptrs[sl.toNat]'(by walk_at "mine om")) := Array.getElem?_eq_getElem (by walk_at "mine om")
    obtain ⟨bp, tp, hbp, hbp'⟩ : ∃ bp tp, ptrs[sl.toNat]'(by walk_at "mine om") = .bytes bp tp ∧ (bp = #[] ∨ ∃ u, u < 6 ∧ bp = ik u 1) := by
      rcases hpo _ (Array.getElem_mem (by walk_at "mine om" : sl.toNat < ptrs.size)) with ⟨t, e⟩ | ⟨u, t, hu, e⟩
      · exact ⟨_, t, e, .inl rfl⟩
      · exact ⟨_, t, e, .inr ⟨u, hu, rfl⟩⟩
    rw [hbp] at hpi
    k_steps
    refine' spec_comp ?c1 ?c2 ?c3 ?c4 ?c5 ?c6 ?c7 ?c8 ?c9 ?c10 ?_
    case c2 => k_asm
    case c4 => k_asm
    case c3 => k_asm
    case c1 => k_asm
    case c5 => k_asm
    case c6 => k_room
    case c7 => rfl
    case c8 => first | rfl | assumption
    case c9 => walk_at "mine opt"
    case c10 => assumption
    intro c cd ci cp ed edd co us gp pl de ad a0 a1 tc te rs h5 tks5 F5 N5 hd1 n1 n2 n3 m1 m2 m3 hin hlt
    have hin' : ∀ p ∈ rest, p ∈ rs := fun p hp => hin p (List.mem_cons_of_mem _ hp)
    have ov := hin' _ hv1
    have od := hin' _ hd
    have ofl := hin' _ hfl
    have ol := hin' _ hl
    have opt := hin _ (List.mem_cons_self ..)
    have opk := hin' _ po1
    have opd := hin' _ po2
    have hord' := pord.mono hin'
    obtain ⟨xo, xb, xe, xt, xo1, xo2, xo3, xo4⟩ := id hord'
    have hp' := hp.mono hin'
    have hop' := hop.mono hin'
    have hv' := hv.mono hin'
    unfold verD at od
    obtain ⟨p0, f9, hfs⟩ : ∃ p0 f9, fsAt lv sl = p0 :: f9 := by
      cases hx : fsAt lv sl with
      | nil => rw [hx] at hs2; cases hs2
      | cons a b => exact ⟨a, b, rfl⟩
    rw [hfs] at ol hm
    clear N
    k_steps
    refine for_brk (by k_asm) (JPick pk c v pt sl (fsAt lv sl) ((ci, listOf #[.ref a0, .ref a1] 0) :: (cd, compD w sl v op co us ci gp ed pl tc) :: (cp, listOf #[] 0) :: rs)) ?_ ?_
    · refine for_list rfl hh (by k_asm) (by k_asm) (by k_mem) (JPickI pk c v pt sl (fsAt lv sl) ((ci, listOf #[.ref a0, .ref a1] 0) :: (cd, compD w sl v op co us ci gp ed pl tc) :: (cp, listOf #[] 0) :: rs) bp) ⟨p0, by rw [hfs]; exact List.mem_cons_self .., _, _, by walk_at "mine has", fun _ h => h⟩ ?_ ?_
      · intro I i v₁ m₁ nw led own h tkn hv₁ hJ hsub hnI hown hll hI hnI' F₁ N₁
        obtain ⟨p, hpp, rfl⟩ := refs_at hv₁
        obtain ⟨p', hp', lt, tp', hmm, hn⟩ := hJ
        have hnl : ∀ p ∈ rs, p ∈ led := fun q hq => hsub _ (hn q (List.mem_cons_of_mem _ (List.mem_cons_of_mem _ (List.mem_cons_of_mem _ hq))))
        obtain ⟨hok, d', t1, t2, t3, t4, t5, t6, t7, t8, o1, o2⟩ := (hm p (List.mem_of_getElem? hpp)).mono (fun q hq => hnl _ (hin' q hq))
        have F₁ := Fr.with _ F₁ hmm
        have hord'' := hord'.mono hnl
        have yo1 := hnl _ xo1
        have yo2 := hnl _ xo2
        have yo3 := hnl _ xo3
        have yo4 := hnl _ xo4
        have yk1 := hnl _ opk
        have yk2 := hnl _ opd
        have h6b : p.2.hi < 6 := hok.2
        have hmem : p ∈ fsAt lv sl := by rw [hfs]; exact List.mem_of_getElem? hpp
        rcases hbp' with rfl | ⟨u, hu, rfl⟩
        · k_steps
          all_goals exact ⟨_, _, _, _, rfl, by k_asm, by k_asm, p, hmem, _, by walk_at "mine has", fun q hq => hsub _ (hn q hq)⟩
        · k_steps
          all_goals first
            | exact ⟨_, _, _, _, rfl, by k_asm, by k_asm, p, hmem, _, by walk_at "mine has", fun q hq => hsub _ (hn q hq)⟩
            | exact ⟨_, _, _, _, rfl, by k_asm, by k_asm, hown, p', hp', _, _, by walk_at "mine has", fun q hq => mem_offL.mpr ⟨hsub _ (hn q hq), hnI' q hq⟩⟩
            | w_report
      · intro h' tkn m' led F' N' hJ
        obtain ⟨p', hp', lt, tp', hmm, hn⟩ := hJ
        exact ⟨h', tkn, m', led, rfl, F', N', p', hp', lt, has_cut hmm, hn⟩
    · rintro h6 tks6 m₁ led F₁ N₀ ⟨p, hpf, lt, hmm, hn⟩
      have hlp : @LT.lt Nat _ pt ci ∧ @LT.lt Nat _ pt cd ∧ @LT.lt Nat _ pt cp := hlt _ (List.mem_cons_self ..)
      have N₁ : News _ _ h6 ((ci, listOf #[.ref a0, .ref a1] 0) :: (cd, compD w sl v op co us ci gp ed pl tc) :: (cp, listOf #[] 0) :: rs) := fun p hp => N₀ p (hn p hp)
      clear N₀
      have hne2 : (c : Nat) ≠ pt ∧ (ed : Nat) ≠ pt ∧ (edd : Nat) ≠ pt := by
        refine ⟨?_, ?_, ?_⟩
        · rintro rfl; exact led_cls N₁ (List.mem_cons_of_mem _ (List.mem_cons_of_mem _ (List.mem_cons_of_mem _ m1))) (List.mem_cons_of_mem _ (List.mem_cons_of_mem _ (List.mem_cons_of_mem _ opt))) (by simp)
        · rintro rfl; exact led_cls N₁ (List.mem_cons_of_mem _ (List.mem_cons_of_mem _ (List.mem_cons_of_mem _ m2))) (List.mem_cons_of_mem _ (List.mem_cons_of_mem _ (List.mem_cons_of_mem _ opt))) (by simp)
        · rintro rfl; exact led_cls N₁ (List.mem_cons_of_mem _ (List.mem_cons_of_mem _ (List.mem_cons_of_mem _ m3))) (List.mem_cons_of_mem _ (List.mem_cons_of_mem _ (List.mem_cons_of_mem _ opt))) (by simp)
      have F₁ := Fr.with _ F₁ hmm
      have hmeta : MetaAt w rs p.1 p.2 := (hm p (by rw [← hfs]; exact hpf)).mono hin'
      k_steps
      all_goals (
        rename News _ _ _ _ => Nz
        simp only [decide_eq_true_eq, decide_eq_false_iff_not] at *
        obtain ⟨r4, N4, u1, u2, u3, u4, hin4⟩ := split4 (a := ci) (b := cd) (c := pt) (d := cp) Nz (by k_mem) (by k_mem) (by k_mem) (by k_mem)
        have hin5 : ∀ x ∈ rs, @Ne Nat x.1 pt → x ∈ r4 := fun x hx hne => hin4 x (by simp only [List.mem_cons, hx, or_true]) (n1 x hx) (n2 x hx) hne (n3 x hx)
        have hin6 : ∀ x ∈ rest, x ∈ r4 := fun x hx => hin5 x (hin' x hx) (hr x hx)
        clear Nz
        refine wpAny_call ?_
        refine' spec_setup ?c1 ?c2 ?c3 u1 u2 u3 u4 (hin5 _ m1 hne2.1) (hin5 _ m2 hne2.2.1) (hin5 _ m3 hne2.2.2) (hp.mono hin6) (hop.mono hin6) (hv.mono hin6) (hin6 _ hd) hs0 hs1 hlen ?c4 ?c10 hsm hq ?c5 ?c6 ?c7 ?c8 ?c9 ?_
        case c1 => walk_at "mine cx"
        case c2 => walk_at "mine room"
        case c3 => exact ⟨hd1.1, (Nat.ne_of_lt hlp.1).symm, hd1.2.1, (Nat.ne_of_lt hlp.2.1).symm, hd1.2.2, Nat.ne_of_lt hlp.2.2⟩
        case c10 => simp
        case c4 => walk_at "mine om"
        case c5 => first
          | exact files_single ((hm p (by rw [← hfs]; exact hpf)).mono hin6) (hin4 _ (by k_mem) (by walk_at "mine om") (by walk_at "mine om") (by walk_at "mine om") (by walk_at "mine om"))
          | exact ⟨_, hin4 _ (by k_mem) (by walk_at "mine om") (by walk_at "mine om") (by walk_at "mine om") (by walk_at "mine om"), fun x hx => (metas_of (k := 0) hv (by simp only [Int.toNat_zero]; walk_at "mine om") x (found_mem (by assumption) hx)).mono hin6⟩
        case c6 => first | assumption | (simp only [List.length_cons, List.length_nil]; walk_at "mine om")
        case c7 => first
          | exact found_pos (p := p) (by assumption) (by rw [show (0 : Int) = sl by walk_at "mine om"]; exact hpf) (hm p (by rw [← hfs]; exact hpf)).ok
          | exact Nat.zero_lt_one
        case c8 => first
          | exact single_of hpf
          | (rw [show sl = 0 by walk_at "mine om"]; exact found_sub (by assumption))
        case c9 => first
          | exact fun h => absurd h (by assumption)
          | (intro _; rw [show sl = 0 by walk_at "mine om"]; exact found_zero (z := True) (by assumption) trivial (found_pos (p := p) (by assumption) (by rw [show (0 : Int) = sl by walk_at "mine om"]; exact hpf) (hm p (by rw [← hfs]; exact hpf)).ok))
        intro x0 x1 g0 g1 gp' v' led' h8 tks8 F8 N8 r1 r2 r3 r4' r5 r6 r7 r8
        (try dsimp only)
        k_steps
        exact ret1 (by walk_at "mine om") c cd ci x0 x1 g0 g1 co us gp' ed pl tc v' _ led' _ _ (by k_asm) (by k_asm) (r5 _ (hin5 _ m1 hne2.1)) r2 r1 r3 r4' rfl (fun x hx => r5 _ (hin6 x hx)) r6 r7 r8)
-- score
theorem rg12_0 : True := by
  k_with "mine ver" => ((first | assumption | (refine VerAt.mono (by assumption) ?_; intro q hq; (repeat (first | exact hq | refine List.mem_cons_of_mem _ ?_)); done)))
  exact trivial
theorem mulOkR {a b : Int} (h1 : -1000000000 ≤ b) (h2 : b ≤ 1000000000) : IntMulOk a b := IntMulOk.of_right (intBits_le_64 (by walk_at "mine om") (by walk_at "mine om"))
theorem rg12_1 : True := by
  k_with "inplaceOp Mult int int" => (k_dflt (refine PyProof.Rows.imul_int ?_ (mulOkR (by walk_at "mine om") (by walk_at "mine om"))))
  k_with "binaryOp Mult int int" => (k_dflt (refine PyProof.Rows.mul_int ?_ (mulOkR (by walk_at "mine om") (by walk_at "mine om"))))
  exact trivial
theorem spec_loct {w : World} {A : Around} {h₀ : Heap} {L : Addr} {m : Str → Option Value} {news : List (Addr × Obj)} {s : Shared} {R : Result → Shared → Prop}
  {v d fl o T : Addr} {lv : List (Addr × List (Addr × Tab))} {nl sl : Int} {t : Nat → Tok} {k : Int} {kt : Tok}
  (C : Cx w A h₀ L s.heap m news) (hroom : A.depth + 30 < 1000) (hv : VerAt w news v d fl o lv) (hd : (d, verD w nl o fl T sl t) ∈ news) (h0 : 0 ≤ k) (hk : k < 100) (hlv : k.toNat < lv.length)
  (ret : ∀ tk' h' tks, Fr h₀ L h' m → News h₀ L h' news → R (.ok (.ret (.int (sizes (fsAt lv k)) tk'))) { s with heap := h', toks := tks }) :
  codeAny (model P w) A (.call (.ref 442) ⟨[.ref v, .int k kt], []⟩) R s := by
  obtain ⟨⟨A₀, base, env, outer, B, hA, hf, hke⟩, F, X, N, ⟨loose, mean, mg, mb, T'⟩, hh⟩ := C
  obtain ⟨hv1, ⟨kf, hfl, hlevs⟩, hord⟩ := id hv
  have hlv' := fsAt_at hlv
  have hat := lev_at hlv'
  obtain ⟨kl, hl, hm⟩ := hlevs _ (List.mem_of_getElem? hlv')
  unfold verD at hd
  refine' code_def (binds := [(Str.ofString "self", .ref v), (Str.ofString "level", .int k kt)]) B F X N T' hA hf hke ?k6 ?k7 ?k8 ?k9 ?kB ?_ ?c2 ?c3 ?c4 ?c5
  walk_at "mine enter"
  k_steps
  refine for_list rfl hh (by k_asm) (by k_asm) (by k_mem) (JTotal (Str.ofString "octets") (fsAt lv k) news) ⟨_, rfl, fun _ h => h⟩ ?_ ?_
  · intro I i v₁ m₁ nw led own h tk hv₁ hJ hsub hnI hown hll hI hnI' F₁ N₁
    obtain ⟨p, hp, rfl⟩ := refs_at hv₁
    obtain ⟨t', hm1, hn⟩ := hJ
    obtain ⟨hok, d', t1, t2, t3, t4, t5, t6, t7, t8, o1, o2⟩ := (hm p (List.mem_of_getElem? hp)).mono (fun q hq => hsub _ (hn q hq))
    have F₁ := Fr.with [(Str.ofString "octets", .int (sizes ((fsAt lv k).take i)) t')] F₁ (by simpa using hm1)
    k_steps
    refine ⟨_, _, _, _, rfl, by k_asm, by k_asm, hown, _, by rw [sizes_take hp]; rfl, fun q hq => mem_offL.mpr ⟨hsub _ (hn q hq), hnI' q hq⟩⟩
  · intro h' tk m' news' F' N' hJ
    obtain ⟨t', hm1, hn⟩ := hJ
    rw [refs_size, List.take_length] at hm1
    have F' := Fr.with [(Str.ofString "octets", .int (sizes (fsAt lv k)) t')] F' (by simpa using hm1)
    have N' : News _ _ h' news := fun p hp => N' p (hn p hp)
    k_steps
    exact ret _ _ _ (by k_asm) (by k_asm)
theorem rg12_2 : True := by
  k_with "call ref" => (k_dflt ((with_reducible show wpAny _ _ (call (Value.ref 442) _ _) _ _ _); refine wpAny_call ?_; refine' spec_loct (by walk_at "mine cx") (by walk_at "mine room") (by walk_at "mine ver") (by k_mem) (by walk_at "mine om") (by walk_at "mine om") (by walk_at "mine lev") ?_; intro _ _ _ _ _; (try k_sweep); (try dsimp only)))
  exact trivial
theorem len_V {prog : Program} {w : World} {A : Around} {E : Value → Shared → Prop} {s : Shared} {h₀ : Heap} {L l : Addr} {news : List (Addr × Obj)} {lv : List (Addr × List (Addr × Tab))} {k : Nat} {Q : Value → Shared → Prop}
    (N : News h₀ L s.heap news) (hl : (l, listOf ((lv.map fun q => Value.ref q.1).toArray) k) ∈ news) (hz : lv.length < 1000) (h : ∀ t tk, Q (.int lv.length t) { s with toks := tk }) :
    wpAny (model prog w) A (call (.builtin "len") [.ref l]) Q E s :=
  len_L N hl (by simp; walk_at "mine om") (by simpa using h)
theorem rg12_3 : True := by
  k_with "call builtin:len" => (k_dflt ((with_reducible show wpAny _ _ (call (Value.builtin "len") [Value.ref _]) _ _ _); (first | (refine' len_F (by k_asm) (by k_mem) (by first | assumption | walk_at "mine om") ?_) | (refine' len_V (by k_asm) (by k_mem) (by first | assumption | walk_at "mine om") ?_)); intro _ _))
  exact trivial
noncomputable def lvBot (q : Opt) (k : Int) : Int := if k = 0 then q.l0 else q.base * q.fac ^ (k - 1).toNat
inductive JMaxo (op : Addr) (q : Opt) (k : Int) (news : Led) (n : Nat) (m : Fm) (nw : Led) : Prop
  | mk (j : Nat) (tr tl : Tok) (hm : Has m [(Str.ofString "result", .int (q.base * q.fac ^ j) tr), (Str.ofString "level", .int (k - j) tl), (Str.ofString "options", .ref op)]) (hj : (j : Int) ≤ k - 1) (hn : ∀ p ∈ news, p ∈ nw) (e : n = (k - 1).toNat - j)
theorem spec_maxo {w : World} {A : Around} {h₀ : Heap} {L : Addr} {m : Str → Option Value} {news : List (Addr × Obj)} {s : Shared} {R : Result → Shared → Prop}
  {op : Addr} {q : Opt} {k : Int} {kt : Tok}
  (C : Cx w A h₀ L s.heap m news) (hroom : A.depth + 30 < 1000) (hop : OptAt w news op q) (hq : OptOk q) (h0 : 1 ≤ k) (hk : k < 100)
  (ret : ∀ tk' h' tks, Fr h₀ L h' m → News h₀ L h' news → R (.ok (.ret (.int (lvBot q k) tk'))) { s with heap := h', toks := tks }) :
  codeAny (model P w) A (.call (.ref 547) ⟨[.ref op, .int k kt], []⟩) R s := by
  obtain ⟨⟨A₀, base, env, outer, B, hA, hf, hke⟩, F, X, N, ⟨loose, mean, mg, mb, T'⟩, hh⟩ := C
  obtain ⟨opd, ot, ov, oo1, oo2⟩ := hop
  unfold OptOk at hq
  unfold optD at oo2
  refine' code_def (binds := [(Str.ofString "options", .ref op), (Str.ofString "level", .int k kt)]) B F X N T' hA hf hke ?k6 ?k7 ?k8 ?k9 ?kB ?_ ?c2 ?c3 ?c4 ?c5
  walk_at "mine enter"
  k_steps
  refine myWhile (JMaxo op q k news) (k - 1).toNat
    ?hz (by k_asm) (by k_asm) ?_
  case hz => exact ⟨0, _, _, has1 (by rw [Int.pow_zero, Int.mul_one]; rfl) (has1 (by rw [Int.natCast_zero, Int.sub_zero]; rfl) (has1 rfl has0)), by walk_at "mine om", fun _ h => h, rfl⟩
  rintro n m₁ nw h tkn ⟨j, tr, tl, hmm, hj, hn, rfl⟩ F₁ N₁
  have F₁ := Fr.with _ F₁ hmm
  have yo1 := hn _ oo1
  have yo2 := hn _ oo2
  by_cases hlt : (j : Int) < k - 1
  · k_steps
    all_goals exact ⟨_, _, _, _, (k - 1).toNat - (j + 1), rfl, by k_asm, by k_asm, by walk_at "mine om", j + 1, _, _, has1 (by rw [Int.pow_succ, ← Int.mul_assoc]; rfl) (has1 (by rw [show k - ((j + 1 : Nat) : Int) = k - (j : Int) - 1 by walk_at "mine om"]; rfl) (has1 rfl has0)), by walk_at "mine om", hn, rfl⟩
  · have e : j = (k - 1).toNat := by walk_at "mine om"
    k_steps
    rename News h₀ L _ _ => Nz
    have e : q.base * q.fac ^ j = lvBot q k := by
      unfold lvBot
      rw [if_neg (by walk_at "mine om"), e]
    rw [e]
    exact ret _ _ _ (by k_asm) (fun p hp => Nz p (hn p hp))
theorem rg12_4 : True := by
  k_with "call ref" => (k_dflt ((with_reducible show wpAny _ _ (call (Value.ref 547) _ _) _ _ _); refine wpAny_call ?_; refine' spec_maxo (by walk_at "mine cx") (by walk_at "mine room") (by walk_at "mine opt") (by assumption) (by walk_at "mine om") (by walk_at "mine om") ?_; intro _ _ _ _ _; (try k_sweep); (try dsimp only)))
  exact trivial
noncomputable def lvTop (lv : List (Addr × List (Addr × Tab))) (k : Int) : Int := if k = 0 then (fsAt lv 0).length else sizes (fsAt lv k)
/-- what score_of lays into the version -/
structure Scored (lv : List (Addr × List (Addr × Tab))) (q : Opt) (b : Int) : Prop where
  lo : 0 ≤ b
  hi : b + 1 < q.nl
  best : ∀ j, 0 ≤ j → j + 1 < q.nl → lvTop lv j * lvBot q b ≤ lvTop lv b * lvBot q j
theorem small1 {a b : Int} (ha : -1000 ≤ a ∧ a ≤ 1000) (hb : -1000 ≤ b ∧ b ≤ 1000) : Builtin.Range.small a b 1 = true := by
  unfold Builtin.Range.small
  rw [rangeSize_nat]
  simp [Builtin.Range.rangeFitsLong]
  walk_at "mine om"
theorem pow_bd {f : Int} (h1 : 1 ≤ f) (h2 : f ≤ 100) : ∀ {e : Nat}, e ≤ 2 → 1 ≤ f ^ e ∧ f ^ e ≤ 10000
  | 0, _ => by simp
  | 1, _ => by
    rw [show f ^ 1 = f by rw [Int.pow_succ, Int.pow_zero, Int.one_mul]]
    walk_at "mine om"
  | 2, _ => by
    rw [show f ^ 2 = f * f by rw [Int.pow_succ, Int.pow_succ, Int.pow_zero, Int.one_mul]]
    have a := Int.mul_le_mul h2 h2 (by walk_at "mine om") (by walk_at "mine om")
    have b := Int.mul_le_mul h1 h1 (by walk_at "mine om") (by walk_at "mine om")
    walk_at "mine om"
theorem lvBot_bd {q : Opt} (hq : OptOk q) {k : Int} (h0 : 0 ≤ k) (h3 : k ≤ 3) : 1 ≤ lvBot q k ∧ lvBot q k ≤ 1000000 := by
  unfold OptOk at hq
  unfold lvBot
  split
  · walk_at "mine om"
  · obtain ⟨p1, p2⟩ := pow_bd hq.2.2.2.1.1 hq.2.2.2.1.2 (e := (k - 1).toNat) (by walk_at "mine om")
    have a := Int.mul_le_mul hq.2.2.1.2 p2 (by walk_at "mine om") (by walk_at "mine om")
    have b := Int.mul_le_mul hq.2.2.1.1 p1 (by walk_at "mine om") (by walk_at "mine om")
    walk_at "mine om"
theorem ratio_trans {a b c x y z : Int} (hb : 0 < b) (hz : 0 < z) (hx : 0 < x) (h1 : a * b ≤ c * x) (h2 : c * z ≤ y * b) : a * z ≤ y * x := by
  -- a/x ≤ c/b ≤ y/z
  have e1 : (a * z) * b ≤ (y * x) * b := by
    have i1 := Int.mul_le_mul_of_nonneg_right h1 (Int.le_of_lt hz)
    have i2 := Int.mul_le_mul_of_nonneg_right h2 (Int.le_of_lt hx)
    have j1 : a * z * b = a * b * z := by rw [Int.mul_right_comm]
    have j2 : y * x * b = y * b * x := by rw [Int.mul_right_comm]
    have j3 : c * x * z = c * z * x := by rw [Int.mul_right_comm]
    walk_at "mine om"
  exact Int.le_of_mul_le_mul_right e1 hb
theorem news_swap {h₀ h : Heap} {L : Addr} {a b : Addr × Obj} {l : List (Addr × Obj)} (N : News h₀ L h (a :: b :: l)) : News h₀ L h (b :: a :: l) := fun p hp => N p (by simp only [List.mem_cons] at hp ⊢; rcases hp with h | h | h <;> simp [h])
inductive JScore (op v : Addr) (lv : List (Addr × List (Addr × Tab))) (q : Opt) (base : Led) (i : Nat) (m : Fm) (led : Led) : Prop
  | mk (b : Int) (x1 x2 x3 : Tok) (hm : Has m [(Str.ofString "best_top", .int (lvTop lv b) x1), (Str.ofString "best_bottom", .int (lvBot q b) x2), (Str.ofString "best_level", .int b x3), (Str.ofString "version", .ref v), (Str.ofString "options", .ref op)])
    (h0 : 0 ≤ b) (h1 : b ≤ i) (best : ∀ j : Int, 0 ≤ j → j ≤ i → lvTop lv j * lvBot q b ≤ lvTop lv b * lvBot q j) (hn : ∀ p ∈ base, p ∈ led)
theorem spec_score {w : World} {A : Around} {h₀ : Heap} {L : Addr} {m : Str → Option Value} {rest : List (Addr × Obj)} {s : Shared} {R : Result → Shared → Prop}
  {op v d fl vo T : Addr} {lv : List (Addr × List (Addr × Tab))} {q : Opt} {sl : Int} {t : Nat → Tok}
  (C : Cx w A h₀ L s.heap m ((d, verD w q.nl vo fl T sl t) :: rest)) (hroom : A.depth + 60 < 1000) (hr : ∀ p ∈ rest, p.1 ≠ d)
  (hop : OptAt w rest op q) (hv : VerAt w rest v d fl vo lv) (hq : OptOk q) (hlen : lv.length = q.nl.toNat) (hsm : Small lv)
  (ret : ∀ T' b tt1 tt2 t' h' tks, Scored lv q b → Fr h₀ L h' m → News h₀ L h' ((d, verD w q.nl vo fl T' b t') :: (T', tup2 (lvTop lv b) (lvBot q b) tt1 tt2) :: rest) → (∀ p ∈ rest, p.1 < T') → @Ne Nat d T' → R (.ok (.ret (.ref T'))) { s with heap := h', toks := tks }) :
  codeAny (model P w) A (.call (.ref 554) ⟨[.ref v, .ref op], []⟩) R s := by
  obtain ⟨⟨A₀, base, env, outer, B, hA, hf, hke⟩, F, X, N, ⟨loose, mean, mg, mb, T'⟩, hh⟩ := C
  have hop' := hop
  obtain ⟨opd, ot, ov, oo1, oo2⟩ := hop'
  obtain ⟨hv1, ⟨kf, hfl, hlevs⟩, hord⟩ := id hv
  have hq' := hq
  unfold OptOk at hq
  unfold optD at oo2
  have hlv := fsAt_at (lv := lv) (k := 0) (by simp only [Int.toNat_zero]; walk_at "mine om")
  have hat := lev_at hlv
  obtain ⟨kl, hl, hm⟩ := hlevs _ (List.mem_of_getElem? hlv)
  dsimp only at hl hat hm
  have hz0 := hsm 0
  have hge : 3 ≤ lv.length := by walk_at "mine om"
  refine' code_def (binds := [(Str.ofString "version", .ref v), (Str.ofString "options", .ref op)]) B F X N T' hA hf hke ?k6 ?k7 ?k8 ?k9 ?kB ?_ ?c2 ?c3 ?c4 ?c5
  walk_at "mine enter"
  k_steps
  · exfalso; walk_at "mine om"
  · refine for_range rfl (q.nl - 2).toNat hh (by k_asm) (by k_asm) (by assumption) (small1 (by walk_at "mine om") (by walk_at "mine om")) (by rw [rangeSize_nat]; congr 1; walk_at "mine om")
      (JScore op v lv q ((d, verD w q.nl vo fl T sl t) :: rest)) ⟨0, _, _, _, by walk_at "mine has", Int.le_refl _, by walk_at "mine om", ?_, fun _ h => h⟩ ?_ ?_
    · intro j hj0 hj1
      rw [show j = 0 by walk_at "mine om"]
      exact Int.le_refl _
    · intro I i tv m₁ nw led own h tkn hi hJ hsub hnI hown hI hnI' F₁ N₁
      obtain ⟨b, x1, x2, x3, hmm, hb0, hb1, hbest, hn⟩ := hJ
      have F₁ := Fr.with _ F₁ hmm
      have hrl : ∀ p ∈ rest, p ∈ led := fun p hp => hsub _ (hn p (List.mem_cons_of_mem _ hp))
      have hv' := hv.mono hrl
      have hop' := hop.mono hrl
      have ov := hrl _ hv1
      have hdl := hsub _ (hn _ (List.mem_cons_self ..))
      have b1 := lvBot_bd hq' hb0 (by walk_at "mine om")
      have b2 := lvBot_bd hq' (k := 1 + (i : Int)) (by walk_at "mine om") (by walk_at "mine om")
      have ht : sizes (fsAt lv (1 + (i : Int))) = lvTop lv (1 + (i : Int)) := by unfold lvTop; rw [if_neg (by walk_at "mine om")]
      k_steps
      all_goals (simp only [decide_eq_true_eq, decide_eq_false_iff_not] at *)
      · rename _ > _ => hgt
        refine ⟨_, _, _, _, rfl, by k_asm, by k_asm, hown, 1 + (i : Int), _, _, _, has1 (by rw [← ht]; rfl) (by walk_at "mine has"), by walk_at "mine om", by walk_at "mine om", ?_, fun p hp => mem_offL.mpr ⟨hsub _ (hn p hp), hnI' p hp⟩⟩
        intro j hj0 hj1
        by_cases hj : j = 1 + (i : Int)
        · rw [hj]; exact Int.le_refl _
        · have b3 := lvBot_bd hq' hj0 (by walk_at "mine om")
          rw [ht] at hgt
          exact ratio_trans (by walk_at "mine om") (by walk_at "mine om") (by walk_at "mine om") (hbest j hj0 (by walk_at "mine om")) (Int.le_of_lt hgt)
      · rename ¬ _ > _ => hgt
        refine ⟨_, _, _, _, rfl, by k_asm, by k_asm, hown, b, _, _, _, by walk_at "mine has", hb0, by walk_at "mine om", ?_, fun p hp => mem_offL.mpr ⟨hsub _ (hn p hp), hnI' p hp⟩⟩
        intro j hj0 hj1
        by_cases hj : j = 1 + (i : Int)
        · rw [hj, ← ht]; exact Int.not_lt.mp hgt
        · exact hbest j hj0 (by walk_at "mine om")
    · rintro h6 tkn m₁ led F₁ N₀ ⟨b, x1, x2, x3, hmm, hb0, hb1, hbest, hn⟩
      have N₁ : News _ _ h6 ((d, verD w q.nl vo fl T sl t) :: rest) := fun p hp => N₀ p (hn p hp)
      clear N₀
      have F₁ := Fr.with _ F₁ hmm
      unfold verD at N₁
      k_steps
      rename News h₀ L _ _ => Nz
      refine ret _ b _ _ (fun i => if i = 8 then _ else t i) _ _ ⟨hb0, by walk_at "mine om", fun j h0 h1 => hbest j h0 (by walk_at "mine om")⟩ (by k_asm) (news_swap Nz) (by walk_at "mine lt") (by walk_at "mine om")
-- law
/-- the law's table: its level, span and octets -/
structure Sp where
  lv : Int
  lo : Nat
  hi : Nat
  oct : Int
abbrev Spots := List (Int × Sp)
noncomputable def keysOf (S : Spots) : List Int := S.map Prod.fst
noncomputable def spAt (S : Spots) (n : Int) : Sp := ((S.find? fun p => p.1 = n).map (·.2)).getD ⟨0, 0, 0, 0⟩
theorem keys_mem {S : Spots} {n : Int} {p : Sp} (h : (n, p) ∈ S) : n ∈ keysOf S := List.mem_map.mpr ⟨_, h, rfl⟩
theorem spAt_mem : ∀ {S : Spots} {n : Int}, n ∈ keysOf S → (n, spAt S n) ∈ S
  | [], _, h => by cases h
  | (k, p) :: r, n, h => by
    unfold spAt
    rw [List.find?_cons]
    by_cases e : k = n
    · simp [e]
    · have h' : n ∈ keysOf r := by
        rcases List.mem_cons.mp h with h | h
        · exact absurd h.symm e
        · exact h
      have := spAt_mem h'
      unfold spAt at this
      simp only [e, decide_false]
      exact List.mem_cons_of_mem _ this
theorem spAt_of : ∀ {S : Spots} {n : Int} {p : Sp}, (keysOf S).Nodup → (n, p) ∈ S → spAt S n = p
  | [], _, _, _, h => by cases h
  | (k, q) :: r, n, p, hn, h => by
    have hn' := List.nodup_cons.mp hn
    unfold spAt
    rw [List.find?_cons]
    rcases List.mem_cons.mp h with e | h
    · cases e; simp
    · have hne : k ≠ n := fun e => hn'.1 (e ▸ keys_mem h)
      have := spAt_of hn'.2 h
      unfold spAt at this
      simp only [hne, decide_false]
      exact this
noncomputable def drop1 (S : Spots) (tk : List Int) : Spots := S.filter fun p => decide (p.1 ∉ tk)
theorem drop1_mem {S : Spots} {tk : List Int} {n : Int} {p : Sp} : (n, p) ∈ drop1 S tk ↔ (n, p) ∈ S ∧ n ∉ tk := by
  unfold drop1
  rw [List.mem_filter]
  simp
noncomputable def octs (S : Spots) : Int := (S.map fun p => p.2.oct).sum
theorem octs_one : ∀ {S : Spots} {n : Int} {p : Sp}, (keysOf S).Nodup → (n, p) ∈ S → octs S = octs (S.filter fun q => decide (q.1 ≠ n)) + p.oct
  | [], _, _, _, h => by cases h
  | (k, q) :: r, n, p, hn, h => by
    have hn' := List.nodup_cons.mp hn
    rcases List.mem_cons.mp h with e | h
    · cases e
      have hr : r.filter (fun q => decide (q.1 ≠ k)) = r := List.filter_eq_self.mpr fun x hx => by
        refine decide_eq_true fun e => hn'.1 ?_
        show k ∈ keysOf r
        rw [← e]
        exact keys_mem (p := x.2) hx
      rw [List.filter_cons_of_neg (by simp), hr]
      simp [octs]
      walk_at "mine om"
    · have hne : k ≠ n := fun e => hn'.1 (e ▸ keys_mem h)
      have ih := octs_one hn'.2 h
      rw [List.filter_cons_of_pos (by simpa using hne)]
      simp only [octs, List.map_cons, List.sum_cons] at ih ⊢
      walk_at "mine om"
theorem nodup_filter {S : Spots} {f : Int × Sp → Bool} (h : (keysOf S).Nodup) : (keysOf (S.filter f)).Nodup := by
  unfold keysOf at *
  exact List.Nodup.sublist ((List.filter_sublist ..).map _) h
theorem octs_drop {S : Spots} (hn : (keysOf S).Nodup) : ∀ {tk : List Int}, tk.Nodup → (∀ n ∈ tk, n ∈ keysOf S) → octs S = octs (drop1 S tk) + (tk.map fun n => (spAt S n).oct).sum
  | [], _, _ => by
    unfold drop1
    have : S.filter (fun p => decide (p.1 ∉ ([] : List Int))) = S := List.filter_eq_self.mpr fun x _ => by simp
    rw [this]
    simp
  | n :: r, hd, hk => by
    have hd' := List.nodup_cons.mp hd
    have ih := octs_drop hn hd'.2 (fun x hx => hk x (List.mem_cons_of_mem _ hx))
    have hm := spAt_mem (hk n (List.mem_cons_self ..))
    have h1 := octs_one (S := drop1 S r) (nodup_filter hn) (drop1_mem.mpr ⟨hm, hd'.1⟩)
    have h2 : (drop1 S r).filter (fun q => decide (q.1 ≠ n)) = drop1 S (n :: r) := by
      unfold drop1
      rw [List.filter_filter]
      refine List.filter_congr fun x _ => ?_
      by_cases a : x.1 = n <;> by_cases b : x.1 ∈ r <;> simp [a, b]
    rw [h2] at h1
    simp only [List.map_cons, List.sum_cons]
    walk_at "mine om"
theorem sum_le {α : Type} {f g : α → Int} : ∀ {l : List α}, (∀ x ∈ l, f x ≤ g x) → (l.map f).sum ≤ (l.map g).sum
  | [], _ => Int.le_refl _
  | x :: r, h => by
    have h1 := h x (List.mem_cons_self ..)
    have h2 := sum_le (l := r) fun y hy => h y (List.mem_cons_of_mem _ hy)
    simp only [List.map_cons, List.sum_cons]
    walk_at "mine om"
theorem sum_lt {α : Type} {f g : α → Int} : ∀ {l : List α}, (∀ x ∈ l, f x ≤ g x) → (∃ x ∈ l, f x < g x) → (l.map f).sum + 1 ≤ (l.map g).sum
  | [], _, ⟨_, h, _⟩ => by cases h
  | x :: r, h, ⟨y, hy, hl⟩ => by
    have h1 := h x (List.mem_cons_self ..)
    simp only [List.map_cons, List.sum_cons]
    rcases List.mem_cons.mp hy with rfl | hy
    · have h2 := sum_le (l := r) fun y hy => h y (List.mem_cons_of_mem _ hy)
      walk_at "mine om"
    · have h2 := sum_lt (l := r) (fun y hy => h y (List.mem_cons_of_mem _ hy)) ⟨y, hy, hl⟩
      walk_at "mine om"
/-- what a pick takes, by numbers -/
structure Pick (S : Spots) (k : Int) (t0 t1 : List Int) (a b : Nat) : Prop where
  ne : t0 ≠ []
  sub0 : ∀ n ∈ t0, ∃ p, (n, p) ∈ S ∧ p.lv = k ∧ a ≤ p.lo ∧ p.hi ≤ b
  in1 : ∀ n ∈ t1, ∃ p, (n, p) ∈ S ∧ p.lv = k + 1 ∧ a ≤ p.hi ∧ p.lo ≤ b
  all1 : ∀ n p, (n, p) ∈ S → p.lv = k + 1 → a ≤ p.hi → p.lo ≤ b → n ∈ t1
  zero : k = 0 → ∀ n p, (n, p) ∈ S → p.lv = 0 → a ≤ p.hi → p.lo ≤ b → n ∈ t0
  nd : (t0 ++ t1).Nodup
/-- what holds between the picks -/
structure LInv (nl : Int) (bg : List Sp) (mt : List (Nat × Nat)) (most : Int) (S : Spots) (hd : List Int) (picks : Int) : Prop where
  nd : (keysOf S).Nodup
  ok : ∀ p ∈ S, 0 ≤ p.2.lv ∧ p.2.lv < nl ∧ p.2.lo ≤ p.2.hi ∧ p.2.hi < 6 ∧ 1 ≤ p.2.oct
  key : ∀ p ∈ S, p.1 ≤ 50 + picks
  len : hd.length = bg.length
  held : ∀ n ∈ hd, n ∈ keysOf S
  all : ∀ n ∈ keysOf S, n ∈ hd
  span : ∀ (i : Nat) (b : Sp) (n : Int), bg[i]? = some b → hd[i]? = some n → b.lv ≤ (spAt S n).lv ∧ (spAt S n).lo ≤ b.lo ∧ b.hi ≤ (spAt S n).hi
  sunk : ∀ (i j : Nat) (n m : Int), (i, j) ∈ mt → hd[i]? = some n → hd[j]? = some m → (spAt S n).lv ≤ (spAt S m).lv ∧ ((spAt S n).lv = (spAt S m).lv → 0 < (spAt S n).lv → n = m)
  lap : ∀ p ∈ S, ∀ q ∈ S, 0 < p.2.lv → p.2.lv = q.2.lv → p.2.lo ≤ q.2.hi → q.2.lo ≤ p.2.hi → p.1 = q.1
  pot : picks + (hd.map fun n => nl - 1 - (spAt S n).lv).sum ≤ most
  oct : octs S = (bg.map fun b => b.oct).sum
/-- pairs that meet -/
noncomputable def MeetOk (bg : List Sp) (mt : List (Nat × Nat)) : Prop := ∀ i j, (i, j) ∈ mt → ∃ a b, bg[i]? = some a ∧ bg[j]? = some b ∧ a.lo ≤ b.hi ∧ b.lo ≤ a.hi
noncomputable def nextS (S : Spots) (k : Int) (tk : List Int) (num : Int) (lo hi : Nat) : Spots := drop1 S tk ++ [(num, ⟨k + 1, lo, hi, (tk.map fun n => (spAt S n).oct).sum⟩)]
noncomputable def nextH (hd : List Int) (tk : List Int) (num : Int) : List Int := hd.map fun n => if n ∈ tk then num else n
theorem LInv.step {nl : Int} {bg : List Sp} {mt : List (Nat × Nat)} {most : Int} {S : Spots} {hd : List Int} {picks : Int} (I : LInv nl bg mt most S hd picks) (M : MeetOk bg mt)
    {k : Int} {t0 t1 : List Int} {a b lo hi : Nat} {num : Int} (P : Pick S k t0 t1 a b) (hk0 : 0 ≤ k) (hk1 : k + 1 < nl)
    (hnum : num ∉ keysOf (drop1 S (t0 ++ t1))) (hnk : num ≤ 50 + (picks + 1))
    (hlo : ∀ n ∈ t0 ++ t1, lo ≤ (spAt S n).lo) (hlo' : ∃ n ∈ t0 ++ t1, (spAt S n).lo = lo)
    (hhi : ∀ n ∈ t0 ++ t1, (spAt S n).hi ≤ hi) (hhi' : ∃ n ∈ t0 ++ t1, (spAt S n).hi = hi) :
    LInv nl bg mt most (nextS S k (t0 ++ t1) num lo hi) (nextH hd (t0 ++ t1) num) (picks + 1) := by
  have at0 : ∀ n ∈ t0, (n, spAt S n) ∈ S ∧ (spAt S n).lv = k ∧ a ≤ (spAt S n).lo ∧ (spAt S n).hi ≤ b := fun n hn => by
    obtain ⟨p, h1, h2⟩ := P.sub0 n hn
    rw [spAt_of I.nd h1]
    exact ⟨h1, h2⟩
  have at1 : ∀ n ∈ t1, (n, spAt S n) ∈ S ∧ (spAt S n).lv = k + 1 ∧ a ≤ (spAt S n).hi ∧ (spAt S n).lo ≤ b := fun n hn => by
    obtain ⟨p, h1, h2⟩ := P.in1 n hn
    rw [spAt_of I.nd h1]
    exact ⟨h1, h2⟩
  have atT : ∀ n ∈ t0 ++ t1, (n, spAt S n) ∈ S := fun n hn => (List.mem_append.mp hn).elim (fun h => (at0 n h).1) fun h => (at1 n h).1
  have hkeys : ∀ n ∈ t0 ++ t1, n ∈ keysOf S := fun n hn => keys_mem (atT n hn)
  have hnd : (keysOf (nextS S k (t0 ++ t1) num lo hi)).Nodup := by
    unfold nextS keysOf
    rw [List.map_append, List.nodup_append]
    refine ⟨nodup_filter I.nd, by simp, ?_⟩
    intro x hx y hy e
    simp only [List.map_cons, List.map_nil, List.mem_singleton] at hy
    subst hy; subst e
    exact hnum hx
  have hnew : (num, (⟨k + 1, lo, hi, ((t0 ++ t1).map fun n => (spAt S n).oct).sum⟩ : Sp)) ∈ nextS S k (t0 ++ t1) num lo hi := List.mem_append_right _ (List.mem_singleton.mpr rfl)
  have hatn : spAt (nextS S k (t0 ++ t1) num lo hi) num = ⟨k + 1, lo, hi, ((t0 ++ t1).map fun n => (spAt S n).oct).sum⟩ := spAt_of hnd hnew
  have hkeep : ∀ n, n ∈ keysOf S → n ∉ t0 ++ t1 → spAt (nextS S k (t0 ++ t1) num lo hi) n = spAt S n := fun n h1 h2 => spAt_of hnd (List.mem_append_left _ (drop1_mem.mpr ⟨spAt_mem h1, h2⟩))
  have hcase : ∀ n p, (n, p) ∈ nextS S k (t0 ++ t1) num lo hi → ((n, p) ∈ S ∧ n ∉ t0 ++ t1) ∨ (n = num ∧ p = ⟨k + 1, lo, hi, ((t0 ++ t1).map fun n => (spAt S n).oct).sum⟩) := by
    intro n p h
    rcases List.mem_append.mp h with h | h
    · exact .inl (drop1_mem.mp h)
    · have := List.mem_singleton.mp h
      cases this
      exact .inr ⟨rfl, rfl⟩
  have hok := I.ok
  have okT : ∀ n ∈ t0 ++ t1, _ := fun n hn => I.ok _ (atT n hn)
  -- the new table's neighbours
  have hlap : ∀ n p, (n, p) ∈ S → n ∉ t0 ++ t1 → p.lv = k + 1 → p.lo ≤ hi → lo ≤ p.hi → False := by
    intro n p hp hn hl h1 h2
    have hn1 : n ∉ t1 := fun h => hn (List.mem_append_right _ h)
    have hx := I.ok _ hp
    have hout : ¬ (a ≤ p.hi ∧ p.lo ≤ b) := fun h => hn1 (P.all1 n p hp hl h.1 h.2)
    obtain ⟨y, hy, ey⟩ := hlo'
    obtain ⟨z, hz, ez⟩ := hhi'
    dsimp only at hx
    by_cases hc : a ≤ p.hi
    · -- p lies above b
      have hpb : b < p.lo := by walk_at "mine om"
      rcases List.mem_append.mp hz with h | h
      · have := at0 z h; walk_at "mine om"
      · have h4 := at1 z h
        have h5 := I.ok _ h4.1
        dsimp only at h5
        have := I.lap _ hp _ h4.1 (by dsimp only; walk_at "mine om") (by dsimp only; walk_at "mine om") (by dsimp only; walk_at "mine om") (by dsimp only; walk_at "mine om")
        dsimp only at this
        exact hn1 (this ▸ h)
    · rcases List.mem_append.mp hy with h | h
      · have := at0 y h; walk_at "mine om"
      · have h4 := at1 y h
        have h5 := I.ok _ h4.1
        dsimp only at h5
        have := I.lap _ hp _ h4.1 (by dsimp only; walk_at "mine om") (by dsimp only; walk_at "mine om") (by dsimp only; walk_at "mine om") (by dsimp only; walk_at "mine om")
        dsimp only at this
        exact hn1 (this ▸ h)
  obtain ⟨f, hf⟩ : ∃ f, f ∈ t0 := by
    cases ht : t0 with
    | nil => exact absurd ht P.ne
    | cons x r => exact ⟨x, List.mem_cons_self ..⟩
  have hget : ∀ (i : Nat) (n' : Int), (nextH hd (t0 ++ t1) num)[i]? = some n' → ∃ n, hd[i]? = some n ∧ n' = if n ∈ t0 ++ t1 then num else n := by
    intro i n' h
    unfold nextH at h
    rw [List.getElem?_map] at h
    simp only [Option.map_eq_some_iff] at h
    obtain ⟨n, h1, h2⟩ := h
    exact ⟨n, h1, h2.symm⟩
  refine ⟨hnd, ?_, ?_, ?_, ?_, ?_, ?_, ?_, ?_, ?_, ?_⟩
  · rintro ⟨n, p⟩ hp
    rcases hcase n p hp with ⟨h1, _⟩ | ⟨rfl, rfl⟩
    · exact I.ok _ h1
    · obtain ⟨y, hy, ey⟩ := hlo'
      obtain ⟨z, hz, ez⟩ := hhi'
      have h1 := okT y hy
      have h2 := okT z hz
      have h3 := hhi y hy
      dsimp only at h1 h2 ⊢
      refine ⟨by walk_at "mine om", hk1, by walk_at "mine om", by walk_at "mine om", ?_⟩
      have hs : ((t0 ++ t1).map fun _ => (0 : Int)).sum + 1 ≤ ((t0 ++ t1).map fun n => (spAt S n).oct).sum :=
        sum_lt (fun x hx => by have := okT x hx; dsimp only at this; walk_at "mine om") ⟨f, List.mem_append_left _ hf, by have := okT f (List.mem_append_left _ hf); dsimp only at this; walk_at "mine om"⟩
      have hz : ∀ l : List Int, (l.map fun _ => (0 : Int)).sum = 0 := fun l => by
        induction l with
        | nil => rfl
        | cons x r ih => rw [List.map_cons, List.sum_cons, ih]; rfl
      rw [hz] at hs
      walk_at "mine om"
  · rintro ⟨n, p⟩ hp
    rcases hcase n p hp with ⟨h1, _⟩ | ⟨rfl, rfl⟩
    · have := I.key _ h1; dsimp only at this ⊢; walk_at "mine om"
    · exact hnk
  · unfold nextH; rw [List.length_map]; exact I.len
  · intro n' h
    unfold nextH at h
    obtain ⟨n, hn, rfl⟩ := List.mem_map.mp h
    by_cases ht : n ∈ t0 ++ t1
    · rw [if_pos ht]; exact keys_mem hnew
    · rw [if_neg ht]
      exact keys_mem (List.mem_append_left _ (drop1_mem.mpr ⟨spAt_mem (I.held n hn), ht⟩))
  · intro n' h
    obtain ⟨⟨n, p⟩, hp, rfl⟩ := List.mem_map.mp h
    unfold nextH
    rcases hcase n p hp with ⟨h1, h2⟩ | ⟨rfl, rfl⟩
    · exact List.mem_map.mpr ⟨n, I.all n (keys_mem h1), by rw [if_neg h2]⟩
    · exact List.mem_map.mpr ⟨f, I.all f (hkeys f (List.mem_append_left _ hf)), by rw [if_pos (List.mem_append_left _ hf)]⟩
  · intro i bb n' hb hn'
    obtain ⟨n, hn, rfl⟩ := hget i n' hn'
    have h1 := I.span i bb n hb hn
    by_cases ht : n ∈ t0 ++ t1
    · rw [if_pos ht, hatn]
      have h2 := hlo n ht
      have h3 := hhi n ht
      refine ⟨?_, by dsimp only; walk_at "mine om", by dsimp only; walk_at "mine om"⟩
      dsimp only
      rcases List.mem_append.mp ht with h | h
      · have := (at0 n h).2.1; walk_at "mine om"
      · have := (at1 n h).2.1; walk_at "mine om"
    · rw [if_neg ht, hkeep n (I.held n (List.mem_of_getElem? hn)) ht]
      exact h1
  · intro i j n' m' hmt hn' hm'
    obtain ⟨n, hn, rfl⟩ := hget i n' hn'
    obtain ⟨m, hm, rfl⟩ := hget j m' hm'
    obtain ⟨hs1, hs2⟩ := I.sunk i j n m hmt hn hm
    have hnk := I.held n (List.mem_of_getElem? hn)
    have hmk := I.held m (List.mem_of_getElem? hm)
    obtain ⟨ba, bb, hba, hbb, hx1, hx2⟩ := M i j hmt
    have sp1 := I.span i ba n hba hn
    have sp2 := I.span j bb m hbb hm
    by_cases ht : n ∈ t0 ++ t1
    · rw [if_pos ht]
      by_cases hu : m ∈ t0 ++ t1
      · rw [if_pos hu]
        exact ⟨Int.le_refl _, fun _ _ => rfl⟩
      · rw [if_neg hu, hatn, hkeep m hmk hu]
        dsimp only
        have hmS := spAt_mem hmk
        have hlt : k + 1 < (spAt S m).lv := by
          rcases List.mem_append.mp ht with h | h
          · have h0 := at0 n h
            by_cases e1 : (spAt S m).lv = k
            · exfalso
              by_cases e2 : 0 < k
              · have := hs2 (by walk_at "mine om") (by walk_at "mine om")
                subst this
                exact hu ht
              · have hz := P.zero (by walk_at "mine om") m _ hmS (by walk_at "mine om") (by walk_at "mine om") (by walk_at "mine om")
                exact hu (List.mem_append_left _ hz)
            · by_cases e3 : (spAt S m).lv = k + 1
              · exact absurd (List.mem_append_right _ (P.all1 m _ hmS e3 (by walk_at "mine om") (by walk_at "mine om"))) hu
              · walk_at "mine om"
          · have h0 := at1 n h
            by_cases e1 : (spAt S m).lv = k + 1
            · have := hs2 (by walk_at "mine om") (by walk_at "mine om")
              subst this
              exact absurd ht hu
            · walk_at "mine om"
        exact ⟨by walk_at "mine om", fun h _ => by walk_at "mine om"⟩
    · rw [if_neg ht, hkeep n hnk ht]
      by_cases hu : m ∈ t0 ++ t1
      · rw [if_pos hu, hatn]
        dsimp only
        have hm1 : (spAt S m).lv ≤ k + 1 := by
          rcases List.mem_append.mp hu with h | h
          · have := (at0 m h).2.1; walk_at "mine om"
          · have := (at1 m h).2.1; walk_at "mine om"
        refine ⟨by walk_at "mine om", fun h1 h2 => ?_⟩
        have := hs2 (by walk_at "mine om") h2
        subst this
        exact absurd hu ht
      · rw [if_neg hu, hkeep m hmk hu]
        exact ⟨hs1, hs2⟩
  · rintro ⟨n, p⟩ hp ⟨m, q⟩ hq h1 h2 h3 h4
    dsimp only at h1 h2 h3 h4 ⊢
    rcases hcase n p hp with ⟨u1, u2⟩ | ⟨rfl, rfl⟩
    · rcases hcase m q hq with ⟨v1, v2⟩ | ⟨rfl, rfl⟩
      · exact I.lap _ u1 _ v1 h1 h2 h3 h4
      · exact (hlap n p u1 u2 h2 h3 h4).elim
    · rcases hcase m q hq with ⟨v1, v2⟩ | ⟨rfl, rfl⟩
      · exact (hlap m q v1 v2 h2.symm h4 h3).elim
      · rfl
  · have hp := I.pot
    have := sum_lt (l := hd) (f := fun n => nl - 1 - (spAt (nextS S k (t0 ++ t1) num lo hi) (if n ∈ t0 ++ t1 then num else n)).lv) (g := fun n => nl - 1 - (spAt S n).lv) ?_ ?_
    · unfold nextH
      rw [List.map_map]
      have e : (List.map ((fun n => nl - 1 - (spAt (nextS S k (t0 ++ t1) num lo hi) n).lv) ∘ fun n => if n ∈ t0 ++ t1 then num else n) hd) = List.map (fun n => nl - 1 - (spAt (nextS S k (t0 ++ t1) num lo hi) (if n ∈ t0 ++ t1 then num else n)).lv) hd := rfl
      rw [e]
      walk_at "mine om"
    · intro n hn
      (try dsimp only)
      by_cases ht : n ∈ t0 ++ t1
      · rw [if_pos ht, hatn]
        (try dsimp only)
        rcases List.mem_append.mp ht with h | h
        · have := (at0 n h).2.1; walk_at "mine om"
        · have := (at1 n h).2.1; walk_at "mine om"
      · rw [if_neg ht, hkeep n (I.held n hn) ht]
        exact Int.le_refl _
    · refine ⟨f, I.all f (hkeys f (List.mem_append_left _ hf)), ?_⟩
      (try dsimp only)
      rw [if_pos (List.mem_append_left _ hf), hatn]
      have := (at0 f hf).2.1
      (try dsimp only)
      walk_at "mine om"
  · have h1 := octs_drop I.nd P.nd hkeys
    have h2 := I.oct
    unfold nextS octs
    rw [List.map_append, List.sum_append]
    unfold octs at h1 h2
    simp only [List.map_cons, List.map_nil, List.sum_cons, List.sum_nil]
    walk_at "mine om"
-- check
/-- the numbers of a version's tables, level by level -/
noncomputable def numsOf (lv : List (Addr × List (Addr × Tab))) : List Int := lv.flatMap fun q => q.2.map fun p => p.2.num
theorem ints_at : ∀ {vs : List Value} {ns : List Int}, IntsAre vs ns → ∀ {i : Nat} {n : Int}, ns[i]? = some n → ∃ t, vs[i]? = some (.int n t)
  | _, _, .nil, i, n, h => by simp at h
  | _, _, .cons a t r, 0, n, h => by
    simp at h
    exact ⟨t, by rw [← h]; rfl⟩
  | _, _, .cons a t r, i + 1, n, h => by
    obtain ⟨t, e⟩ := ints_at r (i := i) (n := n) (by simpa using h)
    exact ⟨t, by simpa using e⟩
theorem lev_ref {lv : List (Addr × List (Addr × Tab))} {i : Nat} {v : Value} (h : ((lv.map fun q => Value.ref q.1).toArray)[i]? = some v) : ∃ q, lv[i]? = some q ∧ v = .ref q.1 := by
  simp only [List.getElem?_toArray, List.getElem?_map, Option.map_eq_some_iff] at h
  obtain ⟨p, h1, h2⟩ := h
  exact ⟨p, h1, h2.symm⟩
theorem numsOf_take {lv : List (Addr × List (Addr × Tab))} {i : Nat} {q : Addr × List (Addr × Tab)} (h : lv[i]? = some q) : numsOf (lv.take (i + 1)) = numsOf (lv.take i) ++ q.2.map fun p => p.2.num := by
  unfold numsOf
  rw [List.take_add_one, h]
  simp [List.flatMap_append]
theorem nums_le {lv : List (Addr × List (Addr × Tab))} {i : Nat} {q : Addr × List (Addr × Tab)} (h : lv[i]? = some q) : (numsOf (lv.take i)).length + q.2.length ≤ (numsOf lv).length := by
  have e : numsOf lv = numsOf (lv.take (i + 1)) ++ numsOf (lv.drop (i + 1)) := by
    unfold numsOf
    rw [← List.flatMap_append, List.take_append_drop]
  rw [e, numsOf_take h]
  simp
inductive JNum1 (lv : List (Addr × List (Addr × Tab))) (news : Led) (i : Nat) (m : Fm) (nw : Led) : Prop
  | mk (D : Addr) (vs : List Value) (k : Nat) (h1 : Has m [(Str.ofString "found", .ref D)]) (h2 : (D, listOf vs.toArray k) ∈ nw) (h3 : IntsAre vs (numsOf (lv.take i))) (h4 : ∀ p ∈ news, p ∈ nw ∧ p.1 < D)
inductive JNum2 (D : Addr) (pre : List Int) (fs : List (Addr × Tab)) (news own : Led) (j : Nat) (m : Fm) (nw : Led) : Prop
  | mk (vs : List Value) (k : Nat) (h1 : Has m [(Str.ofString "found", .ref D)]) (h2 : (D, listOf vs.toArray k) ∈ nw) (h3 : IntsAre vs (pre ++ (fs.take j).map fun p => p.2.num)) (h4 : ∀ p ∈ news, p ∈ nw ∧ p.1 < D) (h5 : ∀ p ∈ own, p ∈ nw)
theorem spec_numbers {w : World} {A : Around} {h₀ : Heap} {L : Addr} {m : Str → Option Value} {news : List (Addr × Obj)} {s : Shared} {R : Result → Shared → Prop}
  {v d fl o T : Addr} {lv : List (Addr × List (Addr × Tab))} {nl sl : Int} {t : Nat → Tok}
  (C : Cx w A h₀ L s.heap m news) (hroom : A.depth + 30 < 1000) (hv : VerAt w news v d fl o lv) (hd : (d, verD w nl o fl T sl t) ∈ news) (hz : (numsOf lv).length < 60)
  (ret : ∀ D vs ns k h' tks, Fr h₀ L h' m → News h₀ L h' ((D, listOf vs.toArray k) :: news) → IntsAre vs ns → ns.Perm (numsOf lv) → ns.Pairwise (· ≤ ·) → (∀ p ∈ news, p.1 < D) → R (.ok (.ret (.ref D))) { s with heap := h', toks := tks }) :
  codeAny (model P w) A (.call (.ref 449) ⟨[.ref v], []⟩) R s := by
  obtain ⟨⟨A₀, base, env, outer, B, hA, hf, hke⟩, F, X, N, ⟨loose, mean, mg, mb, T'⟩, hh⟩ := C
  obtain ⟨hv1, ⟨kf, hfl, hlevs⟩, hord⟩ := id hv
  unfold verD at hd
  refine' code_def (binds := [(Str.ofString "self", .ref v)]) B F X N T' hA hf hke ?k6 ?k7 ?k8 ?k9 ?kB ?_ ?c2 ?c3 ?c4 ?c5
  walk_at "mine enter"
  k_steps
  refine for_list2 rfl hh (by k_asm) (by k_asm) (by k_mem) (JNum1 lv news) ⟨_, [], 0, has1 rfl has0, List.mem_cons_self .., .nil, fun p hp => ⟨List.mem_cons_of_mem _ hp, lt_all (by assumption) hp⟩⟩ ?_ ?_
  · intro I i v₁ m₁ nw led own h tk hv₁ hJ hsub hnI hown hownI hll hI hnI' F₁ N₁
    refine hideG fun G9 hG9 => ?_
    obtain ⟨q, hq, rfl⟩ := lev_ref hv₁
    obtain ⟨D, vs, k, hm1, hD, hI1, hn⟩ := hJ
    obtain ⟨kl, hl, hm⟩ := hlevs q (List.mem_of_getElem? hq)
    have F₁ := Fr.with _ F₁ hm1
    have hl' := hsub _ (hn _ hl).1
    have hle := nums_le hq
    have hownO := hownI
    clear hownI
    refine hG9 ?_
    k_steps
    refine for_list2 rfl hh (by k_asm) (by k_asm) (by k_mem) (JNum2 D (numsOf (lv.take i)) q.2 news own) ⟨vs, k, has1 rfl has0, hsub _ hD, by simpa using hI1, fun p hp => ⟨hsub _ (hn p hp).1, (hn p hp).2⟩, hown⟩ ?_ ?_
    · intro I₂ j v₂ m₂ nw₂ led₂ own₂ h₂ tk₂ hv₂ hJ₂ hsub₂ hnI₂ hown₂ hownI₂ hll₂ hI₂ hnI₂' F₂ N₂
      refine hideG fun G9 hG9 => ?_
      obtain ⟨p, hp, rfl⟩ := refs_at hv₂
      obtain ⟨vs₂, k₂, hm2, hD₂, hI1₂, hn₂, hno₂⟩ := hJ₂
      obtain ⟨rest, N₃, r1, r2, r3⟩ := led_split N₂ (hsub₂ _ hD₂)
      clear N₂
      have hn' : ∀ p ∈ news, p ∈ rest := fun p hp => r2 p (hsub₂ _ (hn₂ p hp).1) (Nat.ne_of_lt (hn₂ p hp).2)
      obtain ⟨hok, d', t1, t2, t3, t4, t5, t6, t7, t8, o1, o2⟩ := (hm p (List.mem_of_getElem? hp)).mono hn'
      have F₂ := Fr.with _ F₂ hm2
      have hlt := IntsAre.length hI1₂
      have hjl : ((q.2.take j).map fun p => p.2.num).length ≤ q.2.length := by simp; walk_at "mine om"
      have hsz2 : vs₂.toArray.size ≤ sizeLine := by rw [sizeLine_eq]; simp only [List.length_append] at hlt; simp only [List.size_toArray]; walk_at "mine om"
      refine hG9 ?_
      k_steps
      refine ⟨_, _, _, _, rfl, by k_asm, by k_asm, ?_, vs₂ ++ [.int p.2.num t2], k₂ + 1, has1 rfl has0, ?_, ?_, ?_, ?_⟩
      · intro x hx
        refine List.mem_cons_of_mem _ (r2 x (hown₂ x hx) ?_)
        rcases hownI₂ x hx with e | e
        · rw [e]; exact (hnI₂ _ hD₂).symm
        · rw [e]; exact Nat.ne_of_lt (hn _ hl).2
      · rw [← List.push_toArray]
        exact mem_offL.mpr ⟨List.mem_cons_self .., hnI₂ (D, listOf vs₂.toArray k₂) hD₂⟩
      · rw [List.take_add_one, hp, List.map_append, ← List.append_assoc]
        exact IntsAre.append hI1₂ (.cons _ _ .nil)
      · exact fun x hx => ⟨mem_offL.mpr ⟨List.mem_cons_of_mem _ (hn' x hx), hnI₂ _ (hn₂ x hx).1⟩, (hn₂ x hx).2⟩
      · intro x hx
        have hxn := hno₂ x hx
        have e : x.1 ≠ D := by
          rcases hownO x hx with e | e
          · rw [e]; exact (hnI _ hD).symm
          · rw [e]; exact Nat.ne_of_lt (hn _ hfl).2
        exact mem_offL.mpr ⟨List.mem_cons_of_mem _ (r2 x (hsub₂ _ hxn) e), hnI₂ _ hxn⟩
    · intro h' tk m' news' F' N' hJ
      refine hideG fun G9 hG9 => ?_
      obtain ⟨vs₂, k₂, hm2, hD₂, hI1₂, hn₂, hno₂⟩ := hJ
      rw [refs_size, List.take_length, ← numsOf_take hq] at hI1₂
      refine hG9 ?_
      k_steps
      exact ⟨_, _, _, _, rfl, by k_asm, by k_asm, hno₂, D, vs₂, k₂, hm2, mem_offL.mpr ⟨hD₂, hnI (D, listOf vs.toArray k) hD⟩, hI1₂, fun p hp => ⟨mem_offL.mpr ⟨(hn₂ p hp).1, hnI _ (hn p hp).1⟩, (hn p hp).2⟩⟩
  · intro h' tk m' news' F' N' hJ
    refine hideG fun G9 hG9 => ?_
    obtain ⟨D, vs, k, hm1, hD, hI1, hn⟩ := hJ
    have F' := Fr.with _ F' hm1
    have hsz : ((lv.map fun q => Value.ref q.1).toArray).size = lv.length := by simp
    rw [hsz, List.take_length] at hI1
    have N' : News _ _ h' ((D, listOf vs.toArray k) :: news) := fun p hp => (List.mem_cons.mp hp).elim (fun e => e ▸ N' _ hD) fun hp => N' p (hn p hp).1
    have h64 : vs.length < 64 := by rw [IntsAre.length hI1]; walk_at "mine om"
    refine hG9 ?_
    k_steps
    rename News h₀ L _ _ => Nz
    exact ret _ _ _ _ _ _ (by k_asm) (fun p hp => (List.mem_cons.mp hp).elim (fun e => e ▸ Nz _ (List.mem_cons_self ..)) fun hp => Nz p (List.mem_cons_of_mem _ (List.mem_cons_of_mem _ hp))) (by assumption) (by assumption) (by assumption) (fun p hp => allLt_all (And.right (by assumption)) p hp)
theorem rg14_0 : True := by
  k_with "call ref" => (k_dflt ((with_reducible show wpAny _ _ (call (Value.ref 449) _ _) _ _ _); refine wpAny_call ?_; refine' spec_numbers (by walk_at "mine cx") (by walk_at "mine room") (by walk_at "mine ver") (by k_mem) (by assumption) ?_; intro _ _ _ _ _ _ _ _ _ hpq9 _ l1q9; (have heq9 := List.Perm.length_eq hpq9); (try k_lt l1q9); (try k_sweep); (try dsimp only); (revert hpq9; intro _); (revert l1q9; intro _); (revert heq9; intro _)))
  exact trivial
theorem len_I {prog : Program} {w : World} {A : Around} {E : Value → Shared → Prop} {s : Shared} {h₀ : Heap} {L l : Addr} {news : List (Addr × Obj)} {vs : List Value} {ns : List Int} {k : Nat} {Q : Value → Shared → Prop}
    (N : News h₀ L s.heap news) (hl : (l, listOf vs.toArray k) ∈ news) (hi : IntsAre vs ns) (hz : ns.length < 1000) (h : ∀ t tk, Q (.int ns.length t) { s with toks := tk }) :
    wpAny (model prog w) A (call (.builtin "len") [.ref l]) Q E s :=
  len_L N hl (by rw [List.size_toArray, IntsAre.length hi]; walk_at "mine om") (by rw [List.size_toArray, IntsAre.length hi]; exact h)
theorem rg14_1 : True := by
  k_with "call builtin:len" => (k_dflt ((with_reducible show wpAny _ _ (call (Value.builtin "len") [Value.ref _]) _ _ _); (first | (refine' len_F (by k_asm) (by k_mem) (by first | assumption | walk_at "mine om") ?_) | (refine' len_V (by k_asm) (by k_mem) (by first | assumption | walk_at "mine om") ?_) | (refine' len_I (by k_asm) (by k_mem) (by assumption) (by first | assumption | walk_at "mine om") ?_)); intro _ _))
  exact trivial
theorem kcmp_self {a b : Nat} (h : a ≤ b) : ¬ kcmp a 9 b 1 > 0 := by
  have e1 : tv 9 0 = 2305 := by decide
  have e2 : tv 1 0 = 257 := by decide
  unfold kcmp ucmp
  rw [e1, e2]
  (repeat' split) <;> walk_at "mine om"
/-- the levels as check wants them -/
noncomputable def Sorted (lv : List (Addr × List (Addr × Tab))) : Prop := ∀ (k : Nat) (q : Addr × List (Addr × Tab)), lv[k]? = some q → ∀ (i : Nat) (a b : Addr × Tab), q.2[i]? = some a → q.2[i + 1]? = some b → (k = 0 → a.2.num < b.2.num) ∧ (0 < k → a.2.hi < b.2.lo)
theorem nodup_ne {ns : List Int} (h : ns.Nodup) {i j : Nat} {a b : Int} (hij : i < j) (ha : ns[i]? = some a) (hb : ns[j]? = some b) : ¬ a = b := by
  obtain ⟨h1, rfl⟩ := List.getElem?_eq_some_iff.mp ha
  obtain ⟨h2, rfl⟩ := List.getElem?_eq_some_iff.mp hb
  exact List.pairwise_iff_getElem.mp h i j h1 h2 hij
theorem pair_le {ns : List Int} (h : ns.Pairwise (· ≤ ·)) {i j : Nat} {a b : Int} (hij : i < j) (ha : ns[i]? = some a) (hb : ns[j]? = some b) : a ≤ b := by
  obtain ⟨h1, rfl⟩ := List.getElem?_eq_some_iff.mp ha
  obtain ⟨h2, rfl⟩ := List.getElem?_eq_some_iff.mp hb
  exact List.pairwise_iff_getElem.mp h i j h1 h2 hij
theorem rsz {a b : Int} {n : Nat} (h : (b - a).toNat = n) : Builtin.Range.rangeSize a b 1 = ((n : Nat) : Int) := by
  rw [rangeSize_nat]
  congr 1
theorem rg14_2 : True := by
  k_with "ite" => (k_dflt (first | refine PySem.W.ite_neg (by (simp only [beq_iff_eq, decide_eq_true_eq, decide_eq_false_iff_not]); first | assumption | walk_at "mine om") ?_ | refine PySem.W.ite_pos (by (simp only [beq_iff_eq, decide_eq_true_eq, decide_eq_false_iff_not]); first | assumption | walk_at "mine om") ?_))
  exact trivial
inductive JChk (v l : Addr) (i : Nat) (news own : Led) (_ : Nat) (m : Fm) (led : Led) : Prop
  | mk (tv : Tok) (hm : Has m [(Str.ofString "self", .ref v), (Str.ofString "level", .int (0 + (i : Int)) tv), (Str.ofString "files", .ref l)]) (hn : ∀ p ∈ news, p ∈ led) (ho : ∀ p ∈ own, p ∈ led)
theorem spec_check {w : World} {A : Around} {h₀ : Heap} {L : Addr} {m : Str → Option Value} {news : List (Addr × Obj)} {s : Shared} {R : Result → Shared → Prop}
  {v d fl o T : Addr} {lv : List (Addr × List (Addr × Tab))} {nl sl : Int} {t : Nat → Tok}
  (C : Cx w A h₀ L s.heap m news) (hroom : A.depth + 100 < 1000) (hv : VerAt w news v d fl o lv) (hd : (d, verD w nl o fl T sl t) ∈ news) (hz : (numsOf lv).length < 60) (hnd : (numsOf lv).Nodup) (hso : Sorted lv) (hnl : lv.length = nl.toNat) (hn0 : 0 ≤ nl) (hn1 : nl < 100)
  (ret : ∀ h' tks, Fr h₀ L h' m → News h₀ L h' news → R (.ok (.ret .none)) { s with heap := h', toks := tks }) :
  codeAny (model P w) A (.call (.ref 463) ⟨[.ref v], []⟩) R s := by
  obtain ⟨⟨A₀, base, env, outer, B, hA, hf, hke⟩, F, X, N, ⟨loose, mean, mg, mb, T'⟩, hh⟩ := C
  obtain ⟨hv1, ⟨kf, hfl, hlevs⟩, hord⟩ := id hv
  have hd' := hd
  unfold verD at hd'
  refine' code_def (binds := [(Str.ofString "self", .ref v)]) B F X N T' hA hf hke ?k6 ?k7 ?k8 ?k9 ?kB ?_ ?c2 ?c3 ?c4 ?c5
  walk_at "mine enter"
  k_steps
  rename IntsAre _ _ => hi
  rename List.Perm _ _ => hp
  rename List.Pairwise _ _ => hs
  rename_i D vs ns kv hA1 tka l1 he hB1 tkS FB NB tB tkb hC1 tkc ra rb rc hr FC NC keep
  have hnd' : ns.Nodup := hp.nodup_iff.mpr hnd
  clear FB NB
  refine for_range rfl ((ns.length : Int) - 1).toNat hh (by k_asm) (by k_asm) hr (small1 (by walk_at "mine om") (by walk_at "mine om")) (rsz (by walk_at "mine om"))
    (fun _ => JHas [(Str.ofString "self", .ref v), (Str.ofString "numbers", .ref D)] ((D, listOf vs.toArray kv) :: news)) ⟨by walk_at "mine has", fun _ h => h⟩ ?_ ?_
  · intro I i tv m₁ nw led own h tkn hi' hJ hsub hnI hown hI hnI' F₁ N₁
    refine hideG fun G9 hG9 => ?_
    obtain ⟨hmm, hn⟩ := hJ
    have F₁ := Fr.with _ F₁ hmm
    have hD := hsub _ (hn _ (List.mem_cons_self ..))
    have e1 : (1 + (i : Int) - 1).toNat = i := by walk_at "mine om"
    have e2 : (1 + (i : Int)).toNat = i + 1 := by walk_at "mine om"
    obtain ⟨a, ha0⟩ : ∃ a, ns[i]? = some a := ⟨_, List.getElem?_eq_getElem (by walk_at "mine om")⟩
    obtain ⟨b, hb0⟩ : ∃ b, ns[i + 1]? = some b := ⟨_, List.getElem?_eq_getElem (by walk_at "mine om")⟩
    have hne : ¬ a = b := nodup_ne hnd' (Nat.lt_succ_self i) ha0 hb0
    have hlt : a < b := by
      have := pair_le hs (Nat.lt_succ_self i) ha0 hb0
      walk_at "mine om"
    obtain ⟨ta, ha⟩ := ints_at hi ha0
    obtain ⟨tb, hb⟩ := ints_at hi hb0
    have hx : vs.toArray[(1 + (i : Int) - 1).toNat]? = some (.int a ta) := by rw [e1, List.getElem?_toArray]; exact ha
    have hy : vs.toArray[(1 + (i : Int)).toNat]? = some (.int b tb) := by rw [e2, List.getElem?_toArray]; exact hb
    clear ha hb e1 e2 ha0 hb0
    refine hG9 ?_
    k_steps
    exact ⟨_, _, _, _, rfl, by k_asm, by k_asm, hown, by walk_at "mine has", fun q hq => mem_offL.mpr ⟨hsub _ (hn q hq), hnI' q hq⟩⟩
  · intro h' tkn m' led F' N' hJ
    refine hideG fun G9 hG9 => ?_
    obtain ⟨hmm, hn⟩ := hJ
    have F' := Fr.with _ F' hmm
    have N' : News _ _ h' news := fun p hp => N' p (hn p (List.mem_cons_of_mem _ hp))
    refine hG9 ?_
    k_steps
    refine for_range rfl nl.toNat hh (by k_asm) (by k_asm) (by assumption) (small1 (by walk_at "mine om") (by walk_at "mine om")) (rsz (by walk_at "mine om"))
      (fun _ => JHas [(Str.ofString "self", .ref v)] news) ⟨by walk_at "mine has", fun _ h => h⟩ ?_ ?_
    · intro I i tv m₁ nw led own h tkn hi' hJ hsub hnI hown hI hnI' F₁ N₁
      refine hideG fun G9 hG9 => ?_
      obtain ⟨hmm, hn⟩ := hJ
      have F₁ := Fr.with _ F₁ hmm
      have hnl' : ∀ p ∈ news, p ∈ led := fun p hp => hsub _ (hn p hp)
      have ov := hnl' _ hv1
      have od := hnl' _ hd'
      have ofl := hnl' _ hfl
      obtain ⟨q, hq⟩ : ∃ q, lv[i]? = some q := ⟨_, List.getElem?_eq_getElem (by walk_at "mine om")⟩
      have e0 : (0 + (i : Int)).toNat = i := by walk_at "mine om"
      have hat : ((lv.map fun q => Value.ref q.1).toArray)[(0 + (i : Int)).toNat]? = some (.ref q.1) := by rw [e0]; exact lev_at hq
      obtain ⟨kl, hl, hm⟩ := hlevs q (List.mem_of_getElem? hq)
      have ol := hnl' _ hl
      have hqz := Nat.le_trans (Nat.le_add_left _ _) (nums_le hq)
      have hq1000 : q.2.length < 1000 := by walk_at "mine om"
      refine hG9 ?_
      k_steps
      refine for_range rfl q.2.length hh (by k_asm) (by k_asm) (by assumption) (small1 (by walk_at "mine om") (by walk_at "mine om")) (rsz (by walk_at "mine om"))
        (JChk v q.1 i news own) ⟨_, by walk_at "mine has", hnl', hown⟩ ?_ ?_
      · intro I₂ j tv₂ m₂ nw₂ led₂ own₂ h₂ tkn₂ hj hJ₂ hsub₂ hnI₂ hown₂ hI₂ hnI₂' F₂ N₂
        refine hideG fun G9 hG9 => ?_
        obtain ⟨tv', hmm, hn₂, hno₂⟩ := hJ₂
        have F₂ := Fr.with _ F₂ hmm
        have hnl₂ : ∀ p ∈ news, p ∈ led₂ := fun p hp => hsub₂ _ (hn₂ p hp)
        have ov := hnl₂ _ hv1
        have od := hnl₂ _ hd'
        have ofl := hnl₂ _ hfl
        have ol := hnl₂ _ hl
        have hord' := hord.mono hnl₂
        obtain ⟨xd, xb, xe, xt, x1, x2, x3, x4⟩ := id hord'
        obtain ⟨p, hp⟩ : ∃ p, q.2[j]? = some p := ⟨_, List.getElem?_eq_getElem hj⟩
        have e1 : (0 + (j : Int)).toNat = j := by walk_at "mine om"
        have hpi : (refsOf q.2)[(0 + (j : Int)).toNat]? = some (.ref p.1) := by rw [e1]; simp [hp]
        obtain ⟨hok, d', t1, t2, t3, t4, t5, t6, t7, t8, o1, o2⟩ := (hm p (List.mem_of_getElem? hp)).mono hnl₂
        have hk := kcmp_self hok.1
        have h6a : p.2.lo < 6 := by have := hok.1; have := hok.2; walk_at "mine om"
        have h6b : p.2.hi < 6 := hok.2
        by_cases hj0 : j = 0
        · have hj0' : 0 + (j : Int) = 0 := by walk_at "mine om"
          refine hG9 ?_
          k_steps
          exact ⟨_, _, _, _, rfl, by k_asm, by k_asm, hown₂, _, by walk_at "mine has", fun p hp => mem_offL.mpr ⟨hnl₂ p hp, hnI₂ _ (hn₂ p hp)⟩, fun p hp => mem_offL.mpr ⟨hsub₂ _ (hno₂ p hp), hnI₂ _ (hno₂ p hp)⟩⟩
        · have hj0' : ¬ 0 + (j : Int) = 0 := by walk_at "mine om"
          obtain ⟨b, hb⟩ : ∃ b, q.2[j - 1]? = some b := ⟨_, List.getElem?_eq_getElem (by walk_at "mine om")⟩
          have e2 : (0 + (j : Int) - 1).toNat = j - 1 := by walk_at "mine om"
          have hbi : (refsOf q.2)[(0 + (j : Int) - 1).toNat]? = some (.ref b.1) := by rw [e2]; simp [hb]
          obtain ⟨hok', d₂, s1, s2, s3, s4, s5, s6, s7, s8, p1, p2⟩ := (hm b (List.mem_of_getElem? hb)).mono hnl₂
          have h6d : b.2.hi < 6 := hok'.2
          obtain ⟨so1, so2⟩ := hso i q hq (j - 1) b p hb (by rw [Nat.sub_add_cancel (by walk_at "mine om")]; exact hp)
          by_cases hi0 : i = 0
          · have hlv0 : 0 + (i : Int) = 0 := by walk_at "mine om"
            have so := so1 hi0
            have so' : ¬ b.2.num ≥ p.2.num := by walk_at "mine om"
            refine hG9 ?_
            k_steps
            exact ⟨_, _, _, _, rfl, by k_asm, by k_asm, hown₂, _, by walk_at "mine has", fun p hp => mem_offL.mpr ⟨hnl₂ p hp, hnI₂ _ (hn₂ p hp)⟩, fun p hp => mem_offL.mpr ⟨hsub₂ _ (hno₂ p hp), hnI₂ _ (hno₂ p hp)⟩⟩
          · have hlv0 : ¬ 0 + (i : Int) = 0 := by walk_at "mine om"
            have so := so2 (by walk_at "mine om")
            have so' : ¬ p.2.lo ≤ b.2.hi := by walk_at "mine om"
            refine hG9 ?_
            k_steps
            exact ⟨_, _, _, _, rfl, by k_asm, by k_asm, hown₂, _, by walk_at "mine has", fun p hp => mem_offL.mpr ⟨hnl₂ p hp, hnI₂ _ (hn₂ p hp)⟩, fun p hp => mem_offL.mpr ⟨hsub₂ _ (hno₂ p hp), hnI₂ _ (hno₂ p hp)⟩⟩
      · intro h' tkn m' led' F' N' hJ'
        refine hideG fun G9 hG9 => ?_
        obtain ⟨tv', hmm, hn₂, hno₂⟩ := hJ'
        have F' := Fr.with _ F' hmm
        refine hG9 ?_
        k_steps
        exact ⟨_, _, _, _, rfl, by k_asm, by k_asm, hno₂, by walk_at "mine has", fun p hp => mem_offL.mpr ⟨hn₂ p hp, hnI' p hp⟩⟩
    · intro h' tkn m' led F' N' hJ
      refine hideG fun G9 hG9 => ?_
      obtain ⟨hmm, hn⟩ := hJ
      have F' := Fr.with _ F' hmm
      have N' : News _ _ h' news := fun p hp => N' p (hn p hp)
      refine hG9 ?_
      k_steps
      exact ret _ _ (by k_asm) (by k_asm)
-- tools
/-- a spot's tuple, and the dict of the spots -/
noncomputable abbrev tup4 (p : Sp) (t : Nat → Tok) : Obj := { cls := .type "tuple", data := .seq #[.int p.lv (t 0), .int p.lo (t 1), .int p.hi (t 2), .int p.oct (t 3)] }
noncomputable def SpotsAt (w : World) (news : List (Addr × Obj)) (D : Addr) (S : Spots) : Prop :=
  (D == sysModules) = false ∧ (keysOf S).Nodup ∧ ∃ (o : Obj) (kvs : List (Int × Value)), (D, o) ∈ news ∧ o.IsDictOf (PySem.intKind P w) kvs ∧ kvs.map (·.1) = keysOf S ∧ ∀ n p, (n, p) ∈ S → ∃ a t, valueAt kvs n = some (.ref a) ∧ (a, tup4 p t) ∈ news
theorem SpotsAt.mono {w : World} {news news' : List (Addr × Obj)} {D : Addr} {S : Spots} (h : SpotsAt w news D S) (hs : ∀ p ∈ news, p ∈ news') : SpotsAt w news' D S :=
  let ⟨h1, h2, o, kvs, h3, h4, h5, h6⟩ := h; ⟨h1, h2, o, kvs, hs _ h3, h4, h5, fun n p hp => let ⟨a, t, e1, e2⟩ := h6 n p hp; ⟨a, t, e1, hs _ e2⟩⟩
section
variable {prog : Program} {w : World} {A : Around} {E : Value → Shared → Prop} {s : Shared} {env : Env} {h₀ : Heap} {Q : Flow → Shared → Prop} {body : List Stmt} {m : Str → Option Value} {news : List (Addr × Obj)}
theorem for_dict {L : Addr} (hL : env.locals = L) {x : Str} {px : Pos} {l : Addr} {o : Obj} {kvs : List (Int × Value)} (hh : A.handled = none) (F : Fr h₀ L s.heap m) (N : News h₀ L s.heap news) (hl : (l, o) ∈ news) (hd : o.IsDictOf (PySem.intKind prog w) kvs) (lo : (l == sysModules) = false)
    (J : Nat → (Str → Option Value) → List (Addr × Obj) → Prop) (h0 : J 0 m news)
    (step : ∀ (I : Addr) (i : Nat) (n : Int) (t : Tok) (m₁ : Str → Option Value) (nw led own : List (Addr × Obj)) (h : Heap) (tk : Nat), (kvs.map (·.1))[i]? = some n → J i m₁ nw → (∀ p ∈ nw, p ∈ led) → (∀ p ∈ nw, p.1 ≠ I) → (∀ p ∈ own, p ∈ led) → (∀ p ∈ own, p.1 = I ∨ p.1 = l) → (l, o) ∈ led → (∀ p ∈ news, p.1 ≠ I) →
      Fr h₀ L h m₁ → News h₀ L h led →
      wpAny (model prog w) A (storeName env x (.int n t)) (fun _ s₂ => wpAny (model prog w) A (execs body env) (TurnPost h₀ L I own (J (i + 1)) s Q) noE s₂) noE { s with heap := h, toks := tk })
    (done : ∀ h' tk m' news', Fr h₀ L h' m' → News h₀ L h' news' → J kvs.length m' news' → Q .next { s with heap := h', toks := tk }) :
    MyFor prog w A env (.Name x px) body Q (.ref l) s := by
  subst hL
  have hol := (N _ hl).1
  have hlt : l < s.heap.objs.size := Heap.lt_size hol
  obtain ⟨ep, hat⟩ := KdkAt.of hd
  have hda := hat.dictAt hol
  refine wpAny_pyIter_dict lo hda ?_
  have hnl : h₀.get? l = none := (N _ hl).2.2
  have W := Walks.dictKeys (knd := PySem.intKind prog w) (A := A) hh s.heap.objs.size l (Nat.ne_of_lt hlt) kvs ep
  refine forW (s := { s with heap := s.heap.push { cls := .type "dict_keyiterator", data := .fields #[.ref l, .int 0 0, .int kvs.length 0, .int ep 0] } }) W (fun i v s' Q E hP st h => wpAny_pure h) ?_ (base_none F) (fresh_ne N)
    ⟨⟨_, Heap.get?_push_size _ rfl, rfl, rfl⟩, hda.at' fun o e => Heap.get?_push_of_some _ e⟩ (F.push _) (fun p hp => ⟨Heap.get?_push_of_some _ (N p hp).1, (N p hp).2⟩) (fun i m nw => J i m nw ∧ (l, o) ∈ nw) ⟨h0, hl⟩ ?_ (fun h' tk m' news' F' N' hJ => done h' tk m' news' F' N' hJ.1)
  · intro hm
    rcases List.mem_cons.mp hm with e | hm
    · exact loc_lt F e
    · exact (N _ hl).2.1 (List.mem_singleton.mp hm).symm
  · intro i v m₁ nw led own h tk hi hP hJ hsub hnI hown hownI hmem hst F₁ N₁
    obtain ⟨k, y, hk, hv⟩ := hP
    obtain ⟨t, rfl⟩ := Value.isInt_shape hv
    have hI' : l ∈ [s.heap.objs.size, l] := List.mem_cons_of_mem _ (List.mem_singleton.mpr rfl)
    have hll : (l, o) ∈ led := hsub _ hJ.2
    have hown' : (l, o) ∈ own := hmem l hI' hnl _ (N₁ _ hll).1
    refine wpAny_assign_Name (wpAny_mono (step _ i k t m₁ nw led own h tk (by simp [hk]) hJ.1 hsub hnI hown (fun p hp => by have := hownI p hp; simpa using this) hll (fresh_ne N) F₁ N₁) (fun _ s₂ h₂ => wpAny_mono h₂ (fun f s₃ h₃ => ?_) fun _ _ e => e) fun _ _ e => e)
    have go : Turn h₀ env.locals s.heap.objs.size own (J (i + 1)) s s₃ → Turn h₀ env.locals s.heap.objs.size own (fun m nw => J (i + 1) m nw ∧ (l, o) ∈ nw) { s with heap := s.heap.push { cls := .type "dict_keyiterator", data := .fields #[.ref l, .int 0 0, .int kvs.length 0, .int ep 0] } } s₃ := by
      rintro ⟨g3, tk₃, m₃, led', rfl, F₃, N₃, ho, hJ₃⟩
      exact ⟨g3, tk₃, m₃, led', rfl, F₃, N₃, ho, hJ₃, mem_offL.mpr ⟨ho _ hown', Nat.ne_of_lt hlt⟩⟩
    cases f with
    | ret v => exact h₃
    | brk => exact h₃
    | cont => exact go h₃
    | next => exact go h₃
end
section
variable {prog : Program} {w : World} {A : Around} {E : Value → Shared → Prop} {s : Shared} {h₀ : Heap} {L l : Addr} {m : Str → Option Value} {news : List (Addr × Obj)} {vs : List Value} {ns : List Int} {k : Nat} {n : Int} {t : Tok} {Q : Value → Shared → Prop}
theorem any_mem : ∀ {l : List Int} {n : Int}, (l.any (· == n)) = decide (n ∈ l)
  | [], n => by simp
  | a :: r, n => by
    rw [List.any_cons, any_mem (l := r)]
    by_cases e : a = n
    · subst e; simp
    · have e' : ¬ n = a := fun h => e h.symm
      simp [e, e']
theorem in_I (N : News h₀ L s.heap news) (hl : (l, listOf vs.toArray k) ∈ news) (hi : IntsAre vs ns) (h : Q (.bool (decide (n ∈ ns))) s) : wpAny (model prog w) A (compareOp .In (.int n t) (.ref l)) Q E s :=
  in_list_ints (News.isList N hl) hi (by rw [any_mem]; exact h)
theorem notin_I (N : News h₀ L s.heap news) (hl : (l, listOf vs.toArray k) ∈ news) (hi : IntsAre vs ns) (h : Q (.bool (!decide (n ∈ ns))) s) : wpAny (model prog w) A (compareOp .NotIn (.int n t) (.ref l)) Q E s :=
  notin_list_ints (News.isList N hl) hi (by rw [any_mem]; exact h)
theorem valueAt_some {kvs : List (Int × Value)} {n : Int} : (valueAt kvs n).isSome = decide (n ∈ kvs.map (·.1)) := by
  unfold valueAt
  rw [Option.isSome_map]
  induction kvs with
  | nil => rfl
  | cons x r ih =>
    rw [List.find?_cons]
    by_cases e : x.1 = n
    · subst e; simp
    · have e' : ¬ n = x.1 := fun h => e h.symm
      simp only [e, decide_false, List.map_cons, List.mem_cons, e', false_or]
      exact ih
theorem notin_D {o : Obj} {kvs : List (Int × Value)} {ks : List Int} (N : News h₀ L s.heap news) (hl : (l, o) ∈ news) (hd : o.IsDictOf (PySem.intKind prog w) kvs) (lo : (l == sysModules) = false) (e : kvs.map (·.1) = ks) (h : Q (.bool (!decide (n ∈ ks))) { s with toks := s.toks + 1 }) : wpAny (model prog w) A (compareOp .NotIn (.int n t) (.ref l)) Q E s :=
  kdg_notin N hl hd lo (intKind_is _ _ _ _) _ (by rw [valueAt_some, e]) h
theorem min_I (hh : A.handled = none) (F : Fr h₀ L s.heap m) (N : News h₀ L s.heap news) (hl : (l, listOf vs.toArray k) ∈ news) (hi : IntsAre vs ns) (hne : 0 < ns.length)
    (h : ∀ h' M (t : Tok) tk, Fr h₀ L h' m → News h₀ L h' news → M ∈ ns → (∀ a, a ∈ ns → M ≤ a) → Q (.int M t) { s with heap := h', toks := tk }) : wpAny (model prog w) A (call (.builtin "min") [.ref l]) Q E s :=
  min_list_N hh F N (News.isList N hl) hi hne h
theorem max_I (hh : A.handled = none) (F : Fr h₀ L s.heap m) (N : News h₀ L s.heap news) (hl : (l, listOf vs.toArray k) ∈ news) (hi : IntsAre vs ns) (hne : 0 < ns.length)
    (h : ∀ h' M (t : Tok) tk, Fr h₀ L h' m → News h₀ L h' news → M ∈ ns → (∀ a, a ∈ ns → a ≤ M) → Q (.int M t) { s with heap := h', toks := tk }) : wpAny (model prog w) A (call (.builtin "max") [.ref l]) Q E s :=
  max_list_N hh F N (News.isList N hl) hi hne h
theorem sum_I (hh : A.handled = none) (F : Fr h₀ L s.heap m) (N : News h₀ L s.heap news) (hl : (l, listOf vs.toArray k) ∈ news) (hi : IntsAre vs ns)
    (h : ∀ h' tk t', Fr h₀ L h' m → News h₀ L h' news → Q (.int ns.sum t') { s with heap := h', toks := tk }) : wpAny (model prog w) A (call (.builtin "sum") [.ref l]) Q E s :=
  LSm.sum_ints F N hh (News.isList N hl) hi h
end
theorem rg15_0 : True := by
  k_with "mine hh" => ((first | rfl | assumption))
  k_with "compareOp In int ref" => (k_dflt (refine' in_I (by k_asm) (by k_mem) (by assumption) ?_))
  k_with "compareOp NotIn int ref" => (k_dflt (first | (refine' notin_I (by k_asm) (by k_mem) (by assumption) ?_) | (refine' notin_D (by k_asm) (by k_mem) (by assumption) (by assumption) (by assumption) ?_)))
  k_with "call builtin:min" => (k_dflt ((with_reducible show wpAny _ _ (call (Value.builtin _) [Value.ref _]) _ _ _); refine' min_I (by walk_at "mine hh") (by k_asm) (by k_asm) (by k_mem) (by assumption) (by first | assumption | (simp; omega)) ?_; intro _ _ _ _ _ _ _ _; (try k_sweep)))
  k_with "call builtin:max" => (k_dflt ((with_reducible show wpAny _ _ (call (Value.builtin _) [Value.ref _]) _ _ _); refine' max_I (by walk_at "mine hh") (by k_asm) (by k_asm) (by k_mem) (by assumption) (by first | assumption | (simp; omega)) ?_; intro _ _ _ _ _ _ _ _; (try k_sweep)))
  k_with "call builtin:sum" => (k_dflt ((with_reducible show wpAny _ _ (call (Value.builtin _) [Value.ref _]) _ _ _); refine' sum_I (by walk_at "mine hh") (by k_asm) (by k_asm) (by k_mem) (by assumption) ?_; intro _ _ _ _ _; (try k_sweep)))
  k_with "subscriptTail" => (k_dflt ((with_reducible show wpAny _ _ (subscriptTail _ _ (Value.ref _) (Value.int _ _)) _ _ _); refine' kda_item (by k_asm) (by k_mem) (by assumption) (intKind_is _ _ _ _) (by assumption) ?_))
  k_with "setItem ref int ref" => (k_dflt (refine' kda_set (by k_asm) (by k_asm) (by k_updF) (by assumption) (intKind_is _ _ _ _) (by walk_at "mine size") ?_; intro _ _ _ Nq9 _; (try dsimp only at Nq9); (try k_sweep); (revert Nq9; intro _)))
  exact trivial
-- comp
/-- a list comprehension behind its source -/
noncomputable def MyComp (prog : Program) (w : World) (A : Around) (env : Env) (elt : Expr) (x : Str) (px : Pos) (iter : Expr) (ifs : List Expr) (scope : Scope) (cl : List (Str × Addr)) (pos : Pos) (use : Option (Value → Sem Unit)) (Q : Value → Shared → Prop) (E : Value → Shared → Prop) (xv : Value) (s : Shared) : Prop :=
  wpAny (model prog w) A (pyIter xv) (fun it s₂ => wpAny (model prog w) A (newList []) (fun acc s₃ =>
    wpAny (model prog w) A (newFunctionEnv scope env.globals cl [] env.qual none .none (some env)) (fun cenv s₄ =>
      codeAny (model prog w) A (.compStart (.ListComp elt [⟨.Name x px, iter, ifs, 0⟩] scope pos) 0 it acc { cenv with scope := relabel scope env }) (compPost (model prog w) A E use Q acc cenv.locals) s₄) E s₃) E s₂) E s
theorem myComp {prog : Program} {w : World} {A : Around} {s : Shared} {env : Env} {Q : Value → Shared → Prop} {E : Value → Shared → Prop} {elt iter : Expr} {x : Str} {px : Pos} {ifs : List Expr} {scope : Scope} {pos : Pos} {cl : List (Str × Addr)}
    (hclos : closureFor scope env = pure cl) (hkind : scope.kind = .function) (hnames : ∀ y ∈ scope.names, y.2 = .local → scope.names.lookup y.1 = some .local)
    (h : wpAny (model prog w) A (eval iter env) (fun xv s₁ => MyComp prog w A env elt x px iter ifs scope cl pos none Q E xv s₁) E s) (hs : ∀ x, foldedSetIterable iter env x = pure x) :
    wpAny (model prog w) A (eval (.ListComp elt [⟨.Name x px, iter, ifs, 0⟩] scope pos) env) Q E s := by
  rw [eval_ListComp]
  exact wpAny_comprehension_free (use := none) rfl hs hclos hkind hnames h
theorem myCompA {prog : Program} {w : World} {A : Around} {s : Shared} {env : Env} {Q : Flow → Shared → Prop} {E : Value → Shared → Prop} {elt iter : Expr} {x y : Str} {px py : Pos} {ifs : List Expr} {scope : Scope} {pos spos : Pos} {cl : List (Str × Addr)}
    (hsw : swapsWith (.ListComp elt [⟨.Name x px, iter, ifs, 0⟩] scope pos) (some (.Name y py)) spos.line env = pure true)
    (hclos : closureFor scope env = pure cl) (hkind : scope.kind = .function) (hnames : ∀ y ∈ scope.names, y.2 = .local → scope.names.lookup y.1 = some .local)
    (h : wpAny (model prog w) A (eval iter env) (fun xv s₁ => MyComp prog w A env elt x px iter ifs scope cl pos (some (assign (.Name y py) env)) (fun _ s' => Q .next s') E xv s₁) E s) (hs : ∀ x, foldedSetIterable iter env x = pure x) :
    wpAny (model prog w) A (exec (.Assign [.Name y py] (.ListComp elt [⟨.Name x px, iter, ifs, 0⟩] scope pos) spos) env) Q E s := by
  rw [exec_Assign_Name_used _ _ _ _ hsw]
  refine wpAny_bind (wpAny_standAt (wpAny_bind ?_))
  show wpAny _ A (do let _ ← comprehension (.ListComp elt [⟨.Name x px, iter, ifs, 0⟩] scope pos) scope env _ (newList []) false (eval iter env) (some (assign (.Name y py) env))) _ _ s
  exact wpAny_bind (wpAny_mono (wpAny_comprehension_free (use := some (assign (.Name y py) env)) (Q := fun _ s' => Q .next s') rfl hs hclos hkind hnames h) (fun _ s' hq => wpAny_pure (wpAny_pure hq)) fun _ _ e => e)
/-- what the ledger keeps in a comprehension's turn -/
structure CTurn (h₀ : Heap) (L : Addr) (m : Str → Option Value) (news : List (Addr × Obj)) (C : Addr) (x : Str) (v : Value) (m₃ : Str → Option Value) (h : Heap) : Prop where
  F : Fr h₀ L h m
  N : News h₀ L h news
  ns : h.Ns C m₃
  at' : m₃ x = some v
theorem comp_run {prog : Program} {w : World} {A : Around} {s₂ : Shared} {env : Env} {E : Value → Shared → Prop} {elt iter : Expr} {x : Str} {px : Pos} {ifs : List Expr} {scope : Scope} {pos : Pos} {cl : List (Str × Addr)} {use : Option (Value → Sem Unit)} {Q : Value → Shared → Prop}
    {I : Addr} {fp : List Addr} {n : Nat} {P : Nat → Value → Prop} {St : Nat → Heap → Prop} {h₀ : Heap} {L : Addr} {m : Str → Option Value} {news : List (Addr × Obj)}
    (W : Walks prog w A I fp [I] n P St) (hsz : n ≤ sizeLine) (pz : Value → Bool) (Fe : Value → Value → Prop) (hcell : ∀ y ∈ scope.names, y.2 ≠ .cell) (hkind : scope.kind = .function) (hx : scope.names.lookup x = some .local)
    (hst : St 0 s₂.heap) (hfp : ∀ b ∈ fp, b < s₂.heap.objs.size) (F : Fr h₀ L s₂.heap m) (N : News h₀ L s₂.heap news) (hI₀ : h₀.get? I = none) (hIL : L ≠ I) (hnI : ∀ p ∈ news, p.1 ≠ I)
    (ht : ∀ C i v s₃ m₃ E', P i v → CTurn h₀ L m news C x v m₃ s₃.heap → wpAny (model prog w) A (forIn ifs true fun c r => if r = true then do let ok ← isTrue c (compEnvC scope cl C env) (eval c (compEnvC scope cl C env)); pure (ForInStep.yield ok) else pure (ForInStep.yield r))
      (fun ok s₄ => ok = pz v ∧ Keeps s₃ s₄) E' s₃)
    (he : ∀ C i v s₃ m₃ E', P i v → pz v = true → CTurn h₀ L m news C x v m₃ s₃.heap → wpAny (model prog w) A (eval elt (compEnvC scope cl C env)) (fun y s₄ => Fe v y ∧ Keeps s₃ s₄) E' s₃)
    (hQ : ∀ D C h' tk m' (ys vs : List Value) k, D ≠ C → h'.Ns C m' → C ≠ L → h₀.get? C = none → (∀ p ∈ news, p.1 ≠ C) → Fr h₀ L h' m → News h₀ L h' ((D, listOf ys.toArray k) :: news) → vs.length = n → (∀ j v, vs[j]? = some v → P j v) → Paired Fe (vs.filter pz) ys → (∀ p ∈ news, p.1 ≠ D) →
      compPost (model prog w) A E use Q (.ref D) C (.ok .next) { s₂ with heap := h', toks := tk }) :
    wpAny (model prog w) A (newList []) (fun acc s₃ =>
    wpAny (model prog w) A (newFunctionEnv scope env.globals cl [] env.qual none .none (some env)) (fun cenv s₄ =>
      codeAny (model prog w) A (.compStart (.ListComp elt [⟨.Name x px, iter, ifs, 0⟩] scope pos) 0 (.ref I) acc { cenv with scope := relabel scope env }) (compPost (model prog w) A E use Q acc cenv.locals) s₄) E s₃) E s₂ := by
  have keepF : ∀ h₁ : Heap, (∀ b o, b ∉ [I] → s₂.heap.get? b = some o → h₁.get? b = some o) → Fr h₀ L h₁ m ∧ News h₀ L h₁ news := fun h₁ hk =>
    ⟨⟨F.ns.at' fun o e => hk _ o (by simpa using hIL) e, fun b o e => hk b o (by intro hb; rw [List.mem_singleton.mp hb, hI₀] at e; cases e) (F.keep b o e), F.above⟩, fun p hp => ⟨hk _ _ (by simpa using hnI p hp) (N p hp).1, (N p hp).2⟩⟩
  refine comp_block_walkC (RR := fun acc C r s' => compPost (model prog w) A E use Q acc C r s') W hsz pz Fe hcell hkind hx hst hfp ⟨?_, ?_⟩ ?_
  · intro C i v s₃ m₃ E' hC hP hn hm hk _
    obtain ⟨F₃, N₃⟩ := keepF s₃.heap hk
    exact ht C i v s₃ m₃ E' hP ⟨F₃, N₃, hn, hm⟩
  · intro C i v s₃ m₃ E' hC hP hp hn hm hk _
    obtain ⟨F₃, N₃⟩ := keepF s₃.heap hk
    exact he C i v s₃ m₃ E' hP hp ⟨F₃, N₃, hn, hm⟩
  · intro D C h' tk m' ys vs hD hC hDC hn hl hpl hlen hP hF hk
    obtain ⟨F', N'⟩ := keepF h' hk
    obtain ⟨k, hpl⟩ := hpl
    have none₀ : ∀ b, s₂.heap.get? b = none → h₀.get? b = none := fun b e => by
      cases q : h₀.get? b with
      | none => rfl
      | some o => have := F.keep _ _ q; rw [e] at this; cases this
    have neN : ∀ b, s₂.heap.get? b = none → ∀ p ∈ news, p.1 ≠ b := fun b e p hp q => by have := (N p hp).1; rw [q, e] at this; cases this
    have neL : ∀ b, s₂.heap.get? b = none → b ≠ L := fun b e q => by obtain ⟨oL, _, _, hL, _⟩ := F.ns; rw [← q, e] at hL; cases hL
    refine hQ D C h' tk m' ys.toList vs k hDC hn (neL _ hC) (none₀ _ hC) (neN _ hC) F' ?_ hlen hP hF (neN _ hD)
    intro p hp
    rcases List.mem_cons.mp hp with rfl | hp
    · exact ⟨by rw [Array.toArray_toList]; exact hpl, neL _ hD, none₀ _ hD⟩
    · exact N' p hp
/-- behind a comprehension -/
noncomputable def CEnd (h₀ : Heap) (L : Addr) (m : Str → Option Value) (news : List (Addr × Obj)) (s : Shared) (Q : Value → Shared → Prop) (ys : List Value) : Prop :=
  ∀ D h' tk k, Fr h₀ L h' m → News h₀ L h' ((D, listOf ys.toArray k) :: news) → (∀ p ∈ news, p.1 ≠ D) → Q (.ref D) { s with heap := h', toks := tk }
noncomputable def CEndA (h₀ : Heap) (L : Addr) (m : Str → Option Value) (news : List (Addr × Obj)) (s : Shared) (y : Str) (Q : Flow → Shared → Prop) (ys : List Value) : Prop :=
  ∀ D h' tk k, Fr h₀ L h' (fun z => if z = y then some (.ref D) else m z) → News h₀ L h' ((D, listOf ys.toArray k) :: news) → (∀ p ∈ news, p.1 ≠ D) → Q .next { s with heap := h', toks := tk }
section
variable {prog : Program} {w : World} {A : Around} {s : Shared} {env : Env} {E : Value → Shared → Prop} {elt iter : Expr} {x y : Str} {px py : Pos} {ifs : List Expr} {scope : Scope} {pos : Pos} {cl : List (Str × Addr)}
  {h₀ : Heap} {L : Addr} {m : Str → Option Value} {news : List (Addr × Obj)}
theorem cend_post {Q : Value → Shared → Prop} {D C : Addr} {h' : Heap} {tk : Nat} {m' : Str → Option Value} {ys : List Value} {k : Nat} {M : Model} (h : CEnd h₀ L m news s Q ys) (hDC : D ≠ C) (hn : h'.Ns C m') (hCL : C ≠ L) (hC₀ : h₀.get? C = none) (hCn : ∀ p ∈ news, p.1 ≠ C) (F : Fr h₀ L h' m) (N : News h₀ L h' ((D, listOf ys.toArray k) :: news)) (hD : ∀ p ∈ news, p.1 ≠ D) :
    compPost M A E none Q (.ref D) C (.ok .next) { s with heap := h', toks := tk } :=
  ⟨m', hn, fun h'' hs => h D h'' tk k (F.change hs hCL hC₀) (fun p hp => ⟨(hs.2 _ (by
    rcases List.mem_cons.mp hp with rfl | hp
    · exact hDC
    · exact hCn p hp)).trans (N p hp).1, (N p hp).2⟩) hD⟩
theorem cend_postA {Q : Flow → Shared → Prop} {D C : Addr} {h' : Heap} {tk : Nat} {m' : Str → Option Value} {ys : List Value} {k : Nat} {M : Model} (hL : env.locals = L) (hy : env.kindOf y = some .local) (hp : (env.scope.kind == .class || (env.scope.kind == .module && env.locals != env.globals)) = false)
    (h : CEndA h₀ L m news s y Q ys) (hDC : D ≠ C) (hn : h'.Ns C m') (hCL : C ≠ L) (hC₀ : h₀.get? C = none) (hCn : ∀ p ∈ news, p.1 ≠ C) (F : Fr h₀ L h' m) (N : News h₀ L h' ((D, listOf ys.toArray k) :: news)) (hD : ∀ p ∈ news, p.1 ≠ D) :
    compPost M A E (some (assign (.Name y py) env)) (fun _ s' => Q .next s') (.ref D) C (.ok .next) { s with heap := h', toks := tk } := by
  subst hL
  show wpAny _ A (assign (.Name y py) env (.ref D)) _ _ _
  refine wpAny_assign_Name (wpAny_storeName_local hy F.ns (fun h₂ hn₂ hs₂ => ?_) hp)
  refine ⟨m', hn.sameBut hs₂ hCL, fun h₃ hs₃ => ?_⟩
  have F₂ : Fr h₀ env.locals h₂ (fun z => if z = y then some (.ref D) else m z) := F.set hn₂ hs₂
  refine h D h₃ _ k (F₂.change hs₃ hCL hC₀) (fun p hp => ⟨?_, (N p hp).2⟩) hD
  refine (hs₃.2 _ ?_).trans ((hs₂.2 _ (N p hp).2.1).trans (N p hp).1)
  rcases List.mem_cons.mp hp with rfl | hp
  · exact hDC
  · exact hCn p hp
theorem comp_src_list {l : Addr} {its : Array Value} {k : Nat} {use : Option (Value → Sem Unit)} {Q : Value → Shared → Prop} (hh : A.handled = none) (F : Fr h₀ L s.heap m) (N : News h₀ L s.heap news) (hl : (l, listOf its k) ∈ news) (hsz : its.size ≤ 1000000)
    (pz : Value → Bool) (Fe : Value → Value → Prop) (hcell : ∀ y ∈ scope.names, y.2 ≠ .cell) (hkind : scope.kind = .function) (hx : scope.names.lookup x = some .local)
    (ht : ∀ C (i : Nat) v s₃ m₃ E', its[i]? = some v → CTurn h₀ L m news C x v m₃ s₃.heap → wpAny (model prog w) A (forIn ifs true fun c r => if r = true then do let ok ← isTrue c (compEnvC scope cl C env) (eval c (compEnvC scope cl C env)); pure (ForInStep.yield ok) else pure (ForInStep.yield r))
      (fun ok s₄ => ok = pz v ∧ Keeps s₃ s₄) E' s₃)
    (he : ∀ C (i : Nat) v s₃ m₃ E', its[i]? = some v → pz v = true → CTurn h₀ L m news C x v m₃ s₃.heap → wpAny (model prog w) A (eval elt (compEnvC scope cl C env)) (fun y s₄ => Fe v y ∧ Keeps s₃ s₄) E' s₃)
    (hQ : ∀ D C h' tk m' (ys : List Value) k', D ≠ C → h'.Ns C m' → C ≠ L → h₀.get? C = none → (∀ p ∈ news, p.1 ≠ C) → Fr h₀ L h' m → News h₀ L h' ((D, listOf ys.toArray k') :: news) → Paired Fe (its.toList.filter pz) ys → (∀ p ∈ news, p.1 ≠ D) →
      compPost (model prog w) A E use Q (.ref D) C (.ok .next) { s with heap := h', toks := tk }) :
    MyComp prog w A env elt x px iter ifs scope cl pos use Q E (.ref l) s := by
  have hol := (N _ hl).1
  have hlt : l < s.heap.objs.size := Heap.lt_size hol
  have hls : s.heap.IsList l its := ⟨_, hol, rfl, _, rfl⟩
  refine wpAny_pyIter_list hls ?_
  have up : ∀ b o, s.heap.get? b = some o → (s.heap.push { cls := .type "list_iterator", data := .fields #[.ref l, .int 0 0] }).get? b = some o := fun b o e => Heap.get?_push_of_some _ e
  refine comp_run (s₂ := { s with heap := s.heap.push { cls := .type "list_iterator", data := .fields #[.ref l, .int 0 0] } }) (Walks.list hh s.heap.objs.size l (Nat.ne_of_lt hlt) its) (by rw [sizeLine_eq]; omega) pz Fe hcell hkind hx
    ⟨⟨_, Heap.get?_push_size _ rfl, rfl, rfl⟩, hls.push _⟩ ?_ (F.keeps up) (N.grown up) (next_is_new F) (Nat.ne_of_lt F.ns.lt) (fun p hp => Nat.ne_of_lt (Heap.lt_size (N p hp).1)) ht he ?_
  · intro b hb
    show b < (s.heap.push _).objs.size
    rw [Heap.size_push]
    rcases List.mem_cons.mp hb with rfl | hb
    · exact Nat.lt_succ_self _
    · rw [List.mem_singleton.mp hb]; exact Nat.lt_succ_of_lt hlt
  · intro D C h' tk m' ys vs k' h1 h2 h3 h4 h5 h6 h7 h8 h9 h10 h11
    have e : vs = its.toList := by
      apply List.ext_getElem?
      intro j
      rcases Nat.lt_or_ge j vs.length with hj | hj
      · have := h9 j vs[j] (List.getElem?_eq_getElem hj)
        rw [List.getElem?_eq_getElem hj, Array.getElem?_toList]
        exact this.symm
      · rw [List.getElem?_eq_none hj, List.getElem?_eq_none (by simp; omega)]
    subst e
    exact hQ D C h' tk m' ys k' h1 h2 h3 h4 h5 h6 h7 h10 h11
theorem int_is {k : Int} {v : Value} (h : (PySem.intKind prog w).is k v = true) : ∃ t, v = .int k t := Value.isInt_shape h
theorem comp_src_dict {l : Addr} {o : Obj} {kvs : List (Int × Value)} {use : Option (Value → Sem Unit)} {Q : Value → Shared → Prop} (hh : A.handled = none) (F : Fr h₀ L s.heap m) (N : News h₀ L s.heap news) (hl : (l, o) ∈ news) (hd : o.IsDictOf (PySem.intKind prog w) kvs) (lo : (l == sysModules) = false) (hsz : kvs.length ≤ 1000000)
    (pz : Value → Bool) (Fe : Value → Value → Prop) (hcell : ∀ y ∈ scope.names, y.2 ≠ .cell) (hkind : scope.kind = .function) (hx : scope.names.lookup x = some .local)
    (ht : ∀ C (i : Nat) n t s₃ m₃ E', (kvs.map (·.1))[i]? = some n → CTurn h₀ L m news C x (.int n t) m₃ s₃.heap → wpAny (model prog w) A (forIn ifs true fun c r => if r = true then do let ok ← isTrue c (compEnvC scope cl C env) (eval c (compEnvC scope cl C env)); pure (ForInStep.yield ok) else pure (ForInStep.yield r))
      (fun ok s₄ => ok = pz (.int n t) ∧ Keeps s₃ s₄) E' s₃)
    (he : ∀ C (i : Nat) n t s₃ m₃ E', (kvs.map (·.1))[i]? = some n → pz (.int n t) = true → CTurn h₀ L m news C x (.int n t) m₃ s₃.heap → wpAny (model prog w) A (eval elt (compEnvC scope cl C env)) (fun y s₄ => Fe (.int n t) y ∧ Keeps s₃ s₄) E' s₃)
    (hQ : ∀ D C h' tk m' (ys vs : List Value) k', D ≠ C → h'.Ns C m' → C ≠ L → h₀.get? C = none → (∀ p ∈ news, p.1 ≠ C) → Fr h₀ L h' m → News h₀ L h' ((D, listOf ys.toArray k') :: news) → IntsAre vs (kvs.map (·.1)) → Paired Fe (vs.filter pz) ys → (∀ p ∈ news, p.1 ≠ D) →
      compPost (model prog w) A E use Q (.ref D) C (.ok .next) { s with heap := h', toks := tk }) :
    MyComp prog w A env elt x px iter ifs scope cl pos use Q E (.ref l) s := by
  have hol := (N _ hl).1
  have hlt : l < s.heap.objs.size := Heap.lt_size hol
  obtain ⟨ep, hat⟩ := KdkAt.of hd
  have hda := hat.dictAt hol
  refine wpAny_pyIter_dict lo hda ?_
  have up : ∀ b ob, s.heap.get? b = some ob → (s.heap.push { cls := .type "dict_keyiterator", data := .fields #[.ref l, .int 0 0, .int kvs.length 0, .int ep 0] }).get? b = some ob := fun b ob e => Heap.get?_push_of_some _ e
  refine comp_run (s₂ := { s with heap := s.heap.push { cls := .type "dict_keyiterator", data := .fields #[.ref l, .int 0 0, .int kvs.length 0, .int ep 0] } }) (Walks.dictKeys (knd := PySem.intKind prog w) hh s.heap.objs.size l (Nat.ne_of_lt hlt) kvs ep) (by rw [sizeLine_eq]; omega) pz Fe hcell hkind hx
    ⟨⟨_, Heap.get?_push_size _ rfl, rfl, rfl⟩, hda.at' fun ob e => up _ ob e⟩ ?_ (F.keeps up) (N.grown up) (next_is_new F) (Nat.ne_of_lt F.ns.lt) (fun p hp => Nat.ne_of_lt (Heap.lt_size (N p hp).1)) ?_ ?_ ?_
  · intro b hb
    show b < (s.heap.push _).objs.size
    rw [Heap.size_push]
    rcases List.mem_cons.mp hb with rfl | hb
    · exact Nat.lt_succ_self _
    · rw [List.mem_singleton.mp hb]; exact Nat.lt_succ_of_lt hlt
  · rintro C i v s₃ m₃ E' ⟨k, y, hk, hv⟩ hT
    obtain ⟨t, rfl⟩ := int_is hv
    exact ht C i k t s₃ m₃ E' (by simp [hk]) hT
  · rintro C i v s₃ m₃ E' ⟨k, y, hk, hv⟩ hp hT
    obtain ⟨t, rfl⟩ := int_is hv
    exact he C i k t s₃ m₃ E' (by simp [hk]) hp hT
  · intro D C h' tk m' ys vs k' h1 h2 h3 h4 h5 h6 h7 h8 h9 h10 h11
    refine hQ D C h' tk m' ys vs k' h1 h2 h3 h4 h5 h6 h7 ?_ h10 h11
    refine kdy_ints (by simpa using h8) fun j v hj => ?_
    obtain ⟨k, y, hk, hv⟩ := h9 j v hj
    exact ⟨k, by simp [hk], int_is hv⟩
end
-- help
theorem rg17_0 : True := by
  k_with "mine news" => ((rename News _ _ _ _ => Nz; exact fun p hp => Nz p (by (repeat (first | exact hp | refine List.mem_cons_of_mem _ ?_)); done)))
  exact trivial
theorem spec_users {w : World} {A : Around} {h₀ : Heap} {L : Addr} {m : Str → Option Value} {news : List (Addr × Obj)} {s : Shared} {R : Result → Shared → Prop}
  (C : Cx w A h₀ L s.heap m news) (hroom : A.depth + 10 < 1000)
  (ret : ∀ D its k h' tks, Fr h₀ L h' m → News h₀ L h' ((D, listOf its k) :: news) → (∀ p ∈ news, p.1 < D) → (∀ u : Nat, u < 6 → ∃ t, its[u]? = some (.bytes (ub u) t)) → R (.ok (.ret (.ref D))) { s with heap := h', toks := tks }) :
  codeAny (model P w) A (.call (.ref 617) ⟨[], []⟩) R s := by
  obtain ⟨⟨A₀, base, env, outer, B, hA, hf, hke⟩, F, X, N, ⟨loose, mean, mg, mb, T⟩, hh⟩ := C
  refine' code_def (binds := []) B F X N T hA hf hke ?k6 ?k7 ?k8 ?k9 ?kB ?_ ?c2 ?c3 ?c4 ?c5
  walk_at "mine enter"
  k_steps
  rename News h₀ L _ _ => Nz
  refine ret _ _ _ _ _ (by k_asm) Nz (by walk_at "mine lt") ?_
  intro u hu
  match u, hu with
  | 0, _ => exact ⟨_, rfl⟩
  | 1, _ => exact ⟨_, rfl⟩
  | 2, _ => exact ⟨_, rfl⟩
  | 3, _ => exact ⟨_, rfl⟩
  | 4, _ => exact ⟨_, rfl⟩
  | 5, _ => exact ⟨_, rfl⟩
local macro_rules | `(tactic| walk_at "call ref") => `(tactic| k_dflt ((with_reducible show wpAny _ _ (call (Value.ref 617) _ _) _ _ _); refine wpAny_call ?_; refine' spec_users ?c1 ?c2 ?_; (case c1 => walk_at "mine cx"); (case c2 => walk_at "mine room"); intro D' its' k' h' tks' F' N' l1 hu'; (have hu2' := hu' _ (by assumption)); (obtain ⟨ut', hu3'⟩ := hu2'); clear hu'; (try k_lt l1); (try k_sweep); (try dsimp only)))
theorem getD_bd {ns : List Int} (hb : ∀ x ∈ ns, 0 ≤ x ∧ x < 999983) (j : Nat) : 0 ≤ ns.getD j 0 ∧ ns.getD j 0 < 999983 := by
  rw [List.getD_eq_getElem?_getD]
  cases h : ns[j]? with
  | none => simp
  | some x => exact hb x (List.mem_of_getElem? h)
theorem spec_draw {w : World} {A : Around} {h₀ : Heap} {L : Addr} {m : Str → Option Value} {news : List (Addr × Obj)} {s : Shared} {R : Result → Shared → Prop}
  {l : Addr} {vs : List Value} {ns : List Int} {k : Nat} {i : Int} {ti : Tok}
  (C : Cx w A h₀ L s.heap m news) (hroom : A.depth + 10 < 1000) (hl : (l, listOf vs.toArray k) ∈ news) (hI : IntsAre vs ns) (hpos : 0 < ns.length) (hlen : ns.length ≤ 6) (hb : ∀ x ∈ ns, 0 ≤ x ∧ x < 999983) (h0 : 0 ≤ i) (hi : i < 20)
  (ret : ∀ r t h' tks, 0 ≤ r → r < 2000000 → Fr h₀ L h' m → News h₀ L h' news → R (.ok (.ret (.int r t))) { s with heap := h', toks := tks }) :
  codeAny (model P w) A (.call (.ref 624) ⟨[.ref l, .int i ti], []⟩) R s := by
  obtain ⟨⟨A₀, base, env, outer, B, hA, hf, hke⟩, F, X, N, ⟨loose, mean, mg, mb, T⟩, hh⟩ := C
  have hz : ns.length < 1000 := by walk_at "mine om"
  refine' code_def (binds := [(Str.ofString "nums", .ref l), (Str.ofString "i", .int i ti)]) B F X N T hA hf hke ?k6 ?k7 ?k8 ?k9 ?kB ?_ ?c2 ?c3 ?c4 ?c5
  walk_at "mine enter"
  k_steps
  have h1 := getD_bd hb (i.fmod (ns.length : Int)).toNat
  have h2 : 0 ≤ i.fdiv (ns.length : Int) ∧ i.fdiv (ns.length : Int) ≤ i := by
    rw [Int.fdiv_eq_ediv_of_nonneg _ (by walk_at "mine om")]
    exact ⟨Int.ediv_nonneg h0 (by walk_at "mine om"), Int.ediv_le_self _ h0⟩
  exact ret _ _ _ _ (by walk_at "mine om") (by walk_at "mine om") (by k_asm) (by k_asm)
theorem rg17_1 : True := by
  k_with "call ref" => (k_dflt ((with_reducible show wpAny _ _ (call (Value.ref 624) _ _) _ _ _); refine wpAny_call ?_; refine' spec_draw (by walk_at "mine cx") (by walk_at "mine room") (by k_mem) (by assumption) (by assumption) (by assumption) (by assumption) (by walk_at "mine om") (by walk_at "mine om") ?_; intro _ _ _ _ _ _ _ _; (try k_sweep); (try dsimp only)))
  exact trivial
noncomputable def t8 (q : UInt8) : Array UInt8 := [1, q, 0, 0, 0, 0, 0, 0].toArray
theorem bytes8 {prog : Program} {w : World} {A : Around} {E : Value → Shared → Prop} {s : Shared} {h₀ : Heap} {L l : Addr} {m : Str → Option Value} {news : List (Addr × Obj)} {q : Int} {k : Nat} {t0 t1 t2 t3 t4 t5 t6 t7 : Tok} {Q : Value → Shared → Prop}
    (F : Fr h₀ L s.heap m) (N : News h₀ L s.heap news) (hl : (l, listOf #[.int 1 t0, .int q t1, .int 0 t2, .int 0 t3, .int 0 t4, .int 0 t5, .int 0 t6, .int 0 t7] k) ∈ news) (hh : A.handled = none) (hq : q = 1 ∨ q = 9)
    (h : ∀ h' t k, Fr h₀ L h' m → News h₀ L h' news → Q (.bytes (t8 (UInt8.ofNat q.toNat)) t) { s with heap := h', toks := k }) : wpAny (model prog w) A (call (.type "bytes") [.ref l]) Q E s := by
  refine bytes_K (vs := [.int 1 t0, .int q t1, .int 0 t2, .int 0 t3, .int 0 t4, .int 0 t5, .int 0 t6, .int 0 t7]) (ns := [1, q, 0, 0, 0, 0, 0, 0]) F N (News.isList N hl) (.cons _ _ (.cons _ _ (.cons _ _ (.cons _ _ (.cons _ _ (.cons _ _ (.cons _ _ (.cons _ _ .nil)))))))) ?_ (by rw [sizeLine_eq]; simp only [List.length_cons, List.length_nil]; walk_at "mine om") hh fun h' t k F' N' _ => ?_
  · intro n hn
    rcases hq with rfl | rfl <;> simp at hn <;> walk_at "mine om"
  · exact h h' t k F' N'
theorem add8 {prog : Program} {w : World} {A : Around} {E : Value → Shared → Prop} {s : Shared} {u : Nat} {q : UInt8} {t t' : Tok} {Q : Value → Shared → Prop} (hu : u < 6) (h : ∀ t' k, Q (.bytes (ik u q) t') { s with toks := k }) : wpAny (model prog w) A (binaryOp .Add (.bytes (ub u) t) (.bytes (t8 q) t')) Q E s := by
  refine KBy.add_bytes (by have := ub_size hu; simp [t8]; walk_at "mine om") fun t' k => ?_
  have e : ub u ++ t8 q = ik u q := by simp [ub, t8, ik]
  rw [e]
  exact h t' k
theorem rg17_2 : True := by
  k_with "call type:bytes" => (k_dflt ((with_reducible show wpAny _ _ (call (Value.type "bytes") [Value.ref _]) _ _ _); refine' bytes8 (by k_asm) (by k_asm) (by k_mem) (by walk_at "mine hh") (by first | exact .inl rfl | exact .inr rfl) ?_; intro _ _ _ _ _; (try k_sweep)))
  k_with "binaryOp Add bytes bytes" => (k_dflt (refine' add8 (by assumption) ?_; intro _ _))
  exact trivial
theorem spec_ikey {w : World} {A : Around} {h₀ : Heap} {L : Addr} {m : Str → Option Value} {news : List (Addr × Obj)} {s : Shared} {R : Result → Shared → Prop}
  {u : Nat} {q : Int} {tu tq : Tok}
  (C : Cx w A h₀ L s.heap m news) (hroom : A.depth + 30 < 1000) (h6 : u < 6) (hq : q = 1 ∨ q = 9)
  (ret : ∀ t h' tks, Fr h₀ L h' m → News h₀ L h' news → R (.ok (.ret (.bytes (ik u (UInt8.ofNat q.toNat)) t))) { s with heap := h', toks := tks }) :
  codeAny (model P w) A (.call (.ref 631) ⟨[.int (u : Int) tu, .int q tq], []⟩) R s := by
  obtain ⟨⟨A₀, base, env, outer, B, hA, hf, hke⟩, F, X, N, ⟨loose, mean, mg, mb, T⟩, hh⟩ := C
  have eu : ((u : Int)).toNat = u := by walk_at "mine om"
  rcases hq with rfl | rfl
  · refine' code_def (binds := [(Str.ofString "u", .int (u : Int) tu), (Str.ofString "seq", .int 1 tq)]) B F X N T hA hf hke ?k6 ?k7 ?k8 ?k9 ?kB ?_ ?c2 ?c3 ?c4 ?c5
    walk_at "mine enter"
    k_steps
    exact ret _ _ _ (by k_asm) (by walk_at "mine news")
  · refine' code_def (binds := [(Str.ofString "u", .int (u : Int) tu), (Str.ofString "seq", .int 9 tq)]) B F X N T hA hf hke ?k6 ?k7 ?k8 ?k9 ?kB ?_ ?c2 ?c3 ?c4 ?c5
    walk_at "mine enter"
    k_steps
    exact ret _ _ _ (by k_asm) (by walk_at "mine news")
theorem rg17_3 : True := by
  k_with "call ref" => (k_dflt ((with_reducible show wpAny _ _ (call (Value.ref 631) _ _) _ _ _); refine wpAny_call ?_; refine' spec_ikey (by walk_at "mine cx") (by walk_at "mine room") (by assumption) (by first | exact .inl rfl | exact .inr rfl) ?_; intro _ _ _ _ _; (try k_sweep); (try dsimp only)))
  exact trivial
-- sunk
theorem rg18_0 : True := by
  k_with "assign Tuple" => (((with_reducible show wpAny _ _ (assign (Expr.Tuple _ _ _) _ (Value.ref _)) _ _ _); k_dflt (refine' unpackN_ (by k_asm) (by k_asm) (by exact News.isTup (by k_asm) (by k_mem)) (by walk_at "mine hh") (by exact rfl) (by exact rfl) ?_); intro _ _ _; (try k_sweep)))
  exact trivial
local macro_rules | `(tactic| walk_at "mine inC") => `(tactic| (intro g' L' h' tk' cells' FG' F' N' Y' B' X' T' l1; (try k_lt l1); k_cells Y'; (try simp only [List.cons_append, List.nil_append] at N'); (try dsimp only); (refine st_mark ?_); (intro hK9); (try dsimp only at hK9); (try k_fold)))
theorem rg18_1 : True := by
  k_with "mine enterC" => (((case k6 => k_is); (case k7 => k_is); (case k8 => k_room); (case k9 => exact BindsTo.of_eq rfl); (case kB => exact rfl); (case kD => decide +kernel); (case c2 => exact rfl); (case c3 => exact rfl); (case c4 => exact rfl); k_whole; walk_at "mine inC"))
  exact trivial
inductive MeetsAt (news : List (Addr × Obj)) (M : Addr) (mt : List (Nat × Nat)) : Prop
  | mk (ml : List (Addr × (Nat × Nat))) (k : Nat) (h1 : ml.map (·.2) = mt) (h2 : (M, listOf ((ml.map fun q => Value.ref q.1).toArray) k) ∈ news) (h3 : ∀ q ∈ ml, ∃ t1 t2, (q.1, tup2 q.2.1 q.2.2 t1 t2) ∈ news)
theorem MeetsAt.mono {news news' : List (Addr × Obj)} {M : Addr} {mt : List (Nat × Nat)} (h : MeetsAt news M mt) (hs : ∀ p ∈ news, p ∈ news') : MeetsAt news' M mt :=
  let ⟨ml, k, h1, h2, h3⟩ := h; ⟨ml, k, h1, hs _ h2, fun q hq => let ⟨t1, t2, e⟩ := h3 q hq; ⟨t1, t2, hs _ e⟩⟩
inductive IntsAt (news : List (Addr × Obj)) (H : Addr) (hd : List Int) : Prop
  | mk (vs : List Value) (k : Nat) (h1 : (H, listOf vs.toArray k) ∈ news) (h2 : IntsAre vs hd)
theorem IntsAt.mono {news news' : List (Addr × Obj)} {H : Addr} {hd : List Int} (h : IntsAt news H hd) (hs : ∀ p ∈ news, p ∈ news') : IntsAt news' H hd := let ⟨vs, k, h1, h2⟩ := h; ⟨vs, k, hs _ h1, h2⟩
theorem refs_of {α : Type} {ml : List (Addr × α)} {i : Nat} {v : Value} (h : ((ml.map fun q => Value.ref q.1).toArray)[i]? = some v) : ∃ q, ml[i]? = some q ∧ v = .ref q.1 := by
  simp only [List.getElem?_toArray, List.getElem?_map, Option.map_eq_some_iff] at h
  obtain ⟨p, h1, h2⟩ := h
  exact ⟨p, h1, h2.symm⟩
theorem spec_sunk {w : World} {A : Around} {h₀ : Heap} {L : Addr} {m : Str → Option Value} {news : List (Addr × Obj)} {s : Shared} {R : Result → Shared → Prop}
  {D H M : Addr} {S : Spots} {hd : List Int} {mt : List (Nat × Nat)}
  (C : Cx w A h₀ L s.heap m news) (hroom : A.depth + 10 < 1000) (hS : SpotsAt w news D S) (hH : IntsAt news H hd) (hM : MeetsAt news M mt) (hb : ∀ q ∈ mt, q.1 < hd.length ∧ q.2 < hd.length) (hl : hd.length < 100) (hk : ∀ n ∈ hd, n ∈ keysOf S)
  (hs : ∀ (i j : Nat) (n m : Int), (i, j) ∈ mt → hd[i]? = some n → hd[j]? = some m → (spAt S n).lv ≤ (spAt S m).lv ∧ ((spAt S n).lv = (spAt S m).lv → 0 < (spAt S n).lv → n = m))
  (ret : ∀ h' tks, Fr h₀ L h' m → News h₀ L h' news → R (.ok (.ret (.bool false))) { s with heap := h', toks := tks }) :
  codeAny (model P w) A (.call (.ref 643) ⟨[.ref D, .ref H, .ref M], []⟩) R s := by
  obtain ⟨⟨A₀, base, env, outer, B, hA, hf, hke⟩, F, X, N, ⟨loose, mean, mg, mb, T'⟩, hh⟩ := C
  obtain ⟨lo, hnd, o, kvs, hD, hdd, hks, hat⟩ := hS
  obtain ⟨vs, kv, hHl, hI⟩ := hH
  obtain ⟨ml, km, rfl, hMl, hml⟩ := hM
  refine' code_def (binds := [(Str.ofString "spots", .ref D), (Str.ofString "holder", .ref H), (Str.ofString "meets", .ref M)]) B F X N T' hA hf hke ?k6 ?k7 ?k8 ?k9 ?kB ?_ ?c2 ?c3 ?c4 ?c5
  walk_at "mine enter"
  k_steps
  refine for_listP rfl hh (by k_asm) (by k_asm) (by k_mem) (fun i v hv => by obtain ⟨q, _, e⟩ := refs_of hv; exact ⟨_, e⟩) (fun _ => JHas [(Str.ofString "spots", .ref D), (Str.ofString "holder", .ref H)] news) ⟨by walk_at "mine has", fun _ h => h⟩ ?_ ?_
  · intro I i v₁ m₁ nw led own h tk hv₁ hJ hsub hnI hown hll hI' hnI' F₁ N₁
    refine hideG fun G9 hG9 => ?_
    obtain ⟨q, hq, rfl⟩ := refs_of hv₁
    obtain ⟨hmm, hn⟩ := hJ
    have F₁ := Fr.with _ F₁ hmm
    have hnl : ∀ p ∈ news, p ∈ led := fun p hp => hsub _ (hn p hp)
    have hqm := List.mem_of_getElem? hq
    obtain ⟨tq1, tq2, hT⟩ := hml q hqm
    have hT' := hnl _ hT
    have hD' := hnl _ hD
    have hH' := hnl _ hHl
    obtain ⟨b1, b2⟩ := hb q.2 (List.mem_map_of_mem hqm)
    obtain ⟨n, hn0⟩ : ∃ n, hd[q.2.1]? = some n := ⟨_, List.getElem?_eq_getElem b1⟩
    obtain ⟨n', hn0'⟩ : ∃ n, hd[q.2.2]? = some n := ⟨_, List.getElem?_eq_getElem b2⟩
    obtain ⟨ta, ha⟩ := ints_at hI hn0
    obtain ⟨tb, hb'⟩ := ints_at hI hn0'
    have hx : vs.toArray[((q.2.1 : Nat) : Int).toNat]? = some (.int n ta) := by rw [Int.toNat_natCast, List.getElem?_toArray]; exact ha
    have hy : vs.toArray[((q.2.2 : Nat) : Int).toNat]? = some (.int n' tb) := by rw [Int.toNat_natCast, List.getElem?_toArray]; exact hb'
    obtain ⟨a1, t1, e1, e2⟩ := hat n _ (spAt_mem (hk n (List.mem_of_getElem? hn0)))
    obtain ⟨a2, t2, e3, e4⟩ := hat n' _ (spAt_mem (hk n' (List.mem_of_getElem? hn0')))
    have e2' := hnl _ e2
    have e4' := hnl _ e4
    obtain ⟨s1, s2⟩ := hs q.2.1 q.2.2 n n' (List.mem_map_of_mem hqm) hn0 hn0'
    clear ha hb'
    by_cases c1 : (spAt S n).lv = (spAt S n').lv
    · by_cases c2 : 0 < (spAt S n).lv
      · have c3 := s2 c1 c2
        refine hG9 ?_
        k_steps
        all_goals first | exact ⟨_, _, _, _, rfl, by k_asm, by k_asm, hown, by walk_at "mine has", fun p hp => mem_offL.mpr ⟨hnl p hp, hnI _ (hn p hp)⟩⟩ | (exfalso; simp_all; done)
      · refine hG9 ?_
        k_steps
        all_goals first | exact ⟨_, _, _, _, rfl, by k_asm, by k_asm, hown, by walk_at "mine has", fun p hp => mem_offL.mpr ⟨hnl p hp, hnI _ (hn p hp)⟩⟩ | (exfalso; simp_all; done)
    · refine hG9 ?_
      k_steps
      all_goals first | exact ⟨_, _, _, _, rfl, by k_asm, by k_asm, hown, by walk_at "mine has", fun p hp => mem_offL.mpr ⟨hnl p hp, hnI _ (hn p hp)⟩⟩ | (exfalso; simp_all; done)
  · intro h' tk m' news' F' N' hJ
    refine hideG fun G9 hG9 => ?_
    obtain ⟨hmm, hn⟩ := hJ
    have N' : News _ _ h' news := fun p hp => N' p (hn p hp)
    refine hG9 ?_
    k_steps
    exact ret _ _ (by k_asm) (by k_asm)
-- lapped
theorem rg19_0 : True := by
  k_with "eval ListComp" => (k_dflt (refine myComp (by with_unfolding_all rfl) (by rfl) (by decide) ?_ (by intro _; rfl)))
  k_with "exec Assign cons ListComp" => (k_dflt (refine myCompA (by with_unfolding_all rfl) (by with_unfolding_all rfl) (by rfl) (by decide) ?_ (by intro _; rfl)))
  exact trivial
theorem ints_filter {f : Value → Bool} {g : Int → Bool} (h : ∀ n t, f (.int n t) = g n) : ∀ {vs : List Value} {ns : List Int}, IntsAre vs ns → IntsAre (vs.filter f) (ns.filter g)
  | _, _, .nil => .nil
  | _, _, .cons n t r => by
    have ih := ints_filter h r
    rw [List.filter_cons, List.filter_cons, h n t]
    cases g n with
    | true => exact .cons n t ih
    | false => exact ih
theorem paired_eq : ∀ {vs ys : List Value}, Paired (fun v y => y = v) vs ys → ys = vs
  | _, _, .nil => rfl
  | _, _, .cons h t => by rw [h, paired_eq t]
theorem paired_ints {f : Int → Int} {vs ys : List Value} (hp : Paired (fun v y => ∃ n t t', v = .int n t ∧ y = .int (f n) t') vs ys) : ∀ {ks : List Int}, IntsAre vs ks → IntsAre ys (ks.map f) := by
  induction hp with
  | nil => intro ks h; cases h; exact .nil
  | cons hf _ ih =>
    intro ks h
    obtain ⟨n, t, t', rfl, rfl⟩ := hf
    cases h with
    | cons a u r => exact .cons _ _ (ih r)
section
variable {prog : Program} {w : World} {A : Around} {s : Shared} {env : Env} {E : Value → Shared → Prop} {elt iter : Expr} {x y : Str} {px py : Pos} {ifs : List Expr} {scope : Scope} {pos : Pos} {cl : List (Str × Addr)}
  {h₀ : Heap} {L : Addr} {m : Str → Option Value} {news : List (Addr × Obj)}
theorem comp_dict {l : Addr} {o : Obj} {kvs : List (Int × Value)} {Q : Value → Shared → Prop} (hh : A.handled = none) (F : Fr h₀ L s.heap m) (N : News h₀ L s.heap news) (hl : (l, o) ∈ news) (hd : o.IsDictOf (PySem.intKind prog w) kvs) (lo : (l == sysModules) = false) (hsz : kvs.length ≤ 1000000)
    (pz : Value → Bool) (Fe : Value → Value → Prop) (hcell : ∀ y ∈ scope.names, y.2 ≠ .cell) (hkind : scope.kind = .function) (hx : scope.names.lookup x = some .local)
    (ht : ∀ C (i : Nat) n t s₃ m₃ E', (kvs.map (·.1))[i]? = some n → CTurn h₀ L m news C x (.int n t) m₃ s₃.heap → wpAny (model prog w) A (forIn ifs true fun c r => if r = true then do let ok ← isTrue c (compEnvC scope cl C env) (eval c (compEnvC scope cl C env)); pure (ForInStep.yield ok) else pure (ForInStep.yield r))
      (fun ok s₄ => ok = pz (.int n t) ∧ Keeps s₃ s₄) E' s₃)
    (he : ∀ C (i : Nat) n t s₃ m₃ E', (kvs.map (·.1))[i]? = some n → pz (.int n t) = true → CTurn h₀ L m news C x (.int n t) m₃ s₃.heap → wpAny (model prog w) A (eval elt (compEnvC scope cl C env)) (fun y s₄ => Fe (.int n t) y ∧ Keeps s₃ s₄) E' s₃)
    (hQ : ∀ ys vs, IntsAre vs (kvs.map (·.1)) → Paired Fe (vs.filter pz) ys → CEnd h₀ L m news s Q ys) : MyComp prog w A env elt x px iter ifs scope cl pos none Q E (.ref l) s :=
  comp_src_dict hh F N hl hd lo hsz pz Fe hcell hkind hx ht he fun D C h' tk m' ys vs k' h1 h2 h3 h4 h5 h6 h7 h8 h9 h10 => cend_post (hQ ys vs h8 h9) h1 h2 h3 h4 h5 h6 h7 h10
theorem comp_list {l : Addr} {its : Array Value} {k : Nat} {Q : Value → Shared → Prop} (hh : A.handled = none) (F : Fr h₀ L s.heap m) (N : News h₀ L s.heap news) (hl : (l, listOf its k) ∈ news) (hsz : its.size ≤ 1000000)
    (pz : Value → Bool) (Fe : Value → Value → Prop) (hcell : ∀ y ∈ scope.names, y.2 ≠ .cell) (hkind : scope.kind = .function) (hx : scope.names.lookup x = some .local)
    (ht : ∀ C (i : Nat) v s₃ m₃ E', its[i]? = some v → CTurn h₀ L m news C x v m₃ s₃.heap → wpAny (model prog w) A (forIn ifs true fun c r => if r = true then do let ok ← isTrue c (compEnvC scope cl C env) (eval c (compEnvC scope cl C env)); pure (ForInStep.yield ok) else pure (ForInStep.yield r))
      (fun ok s₄ => ok = pz v ∧ Keeps s₃ s₄) E' s₃)
    (he : ∀ C (i : Nat) v s₃ m₃ E', its[i]? = some v → pz v = true → CTurn h₀ L m news C x v m₃ s₃.heap → wpAny (model prog w) A (eval elt (compEnvC scope cl C env)) (fun y s₄ => Fe v y ∧ Keeps s₃ s₄) E' s₃)
    (hQ : ∀ ys, Paired Fe (its.toList.filter pz) ys → CEnd h₀ L m news s Q ys) : MyComp prog w A env elt x px iter ifs scope cl pos none Q E (.ref l) s :=
  comp_src_list hh F N hl hsz pz Fe hcell hkind hx ht he fun D C h' tk m' ys k' h1 h2 h3 h4 h5 h6 h7 h9 h10 => cend_post (hQ ys h9) h1 h2 h3 h4 h5 h6 h7 h10
end
theorem keeps_toks {s : Shared} {tk : Nat} : Keeps s { s with toks := tk } := ⟨_, _, rfl, fun _ _ e => e⟩
theorem one_of {n : Int} : ∀ {l : List Int}, l.Nodup → (∀ x ∈ l, x = n) → l.length ≤ 1
  | [], _, _ => Nat.zero_le _
  | [x], _, _ => Nat.le_refl _
  | x :: y :: r, h, hx => by
    have h1 := hx x (by simp)
    have h2 := hx y (by simp)
    rw [h1, h2] at h
    simp at h
noncomputable def overlap (S : Spots) (n q : Int) : Bool := decide ((spAt S q).lv = (spAt S n).lv ∧ (spAt S q).lo ≤ (spAt S n).hi ∧ (spAt S n).lo ≤ (spAt S q).hi)
theorem lap_one {S : Spots} (hnd : (keysOf S).Nodup) (hs : ∀ p ∈ S, ∀ q ∈ S, 0 < p.2.lv → p.2.lv = q.2.lv → p.2.lo ≤ q.2.hi → q.2.lo ≤ p.2.hi → p.1 = q.1) {n : Int} (hn : n ∈ keysOf S) (h0 : 0 < (spAt S n).lv) : ((keysOf S).filter (overlap S n)).length ≤ 1 := by
  refine one_of (n := n) (List.Nodup.sublist (List.filter_sublist ..) hnd) fun x hx => ?_
  obtain ⟨h1, h2⟩ := List.mem_filter.mp hx
  unfold overlap at h2
  simp only [decide_eq_true_eq] at h2
  exact (hs _ (spAt_mem hn) _ (spAt_mem h1) h0 h2.1.symm h2.2.2 h2.2.1).symm
inductive JLap (L' : Addr) (o4 : Obj) (news : Led) (_ : Nat) (_ : Fm) (nw : Led) : Prop
  | mk (o1 o2 o3 : Obj) (v1 v2 v3 : Option Value) (m1 : (L' + 1 + 1 + 1 + 1, o1) ∈ nw) (d1 : o1.data = .cell v1) (m2 : (L' + 1 + 1 + 1, o2) ∈ nw) (d2 : o2.data = .cell v2) (m3 : (L' + 1 + 1, o3) ∈ nw) (d3 : o3.data = .cell v3) (m4 : (L' + 1, o4) ∈ nw) (hn : ∀ p ∈ news, p ∈ nw)
theorem spec_lapped {w : World} {A : Around} {h₀ : Heap} {L : Addr} {m : Str → Option Value} {news : List (Addr × Obj)} {s : Shared} {R : Result → Shared → Prop}
  {D : Addr} {S : Spots}
  (C : Cx w A h₀ L s.heap m news) (hroom : A.depth + 10 < 1000) (hS : SpotsAt w news D S) (hz : S.length < 100)
  (hs : ∀ p ∈ S, ∀ q ∈ S, 0 < p.2.lv → p.2.lv = q.2.lv → p.2.lo ≤ q.2.hi → q.2.lo ≤ p.2.hi → p.1 = q.1)
  (ret : ∀ h' tks, Fr h₀ L h' m → News h₀ L h' news → R (.ok (.ret (.bool false))) { s with heap := h', toks := tks }) :
  codeAny (model P w) A (.call (.ref 648) ⟨[.ref D], []⟩) R s := by
  obtain ⟨⟨A₀, base, env, outer, B, hA, hf, hke⟩, F, X, N, ⟨loose, mean, mg, mb, T'⟩, hh⟩ := C
  obtain ⟨lo, hnd, o, kvs, hD, hdd, hks, hat⟩ := hS
  refine' code_defC (binds := [(Str.ofString "spots", .ref D)]) B F X N T' hA hf hke ?k6 ?k7 ?k8 ?k9 ?kB ?kD ?_ ?c2 ?c3 ?c4
  walk_at "mine enterC"
  k_steps
  rename_i g' L' h1 tkc FG FC BC XC TC l1 o1 o2 o3 o4 d1 d2 d3 d4 NC hK9
  have d4' : o4.data = .cell (some (.ref D)) := d4
  refine for_dict rfl hh (by k_asm) (by k_asm) (by k_mem) hdd lo (JLap L' o4 news)
    ⟨o1, o2, o3, _, _, _, by simp, d1, by simp, d2, by simp, d3, by simp, fun p hp => by simp [hp]⟩ ?_ ?_
  · intro I i n tn m₁ nw led own h tk hn hJ hsub hnI hown hownI hll hnI' F₁ N₁
    refine hideG fun G9 hG9 => ?_
    obtain ⟨o1, o2, o3, v1, v2, v3, m1, d1, m2, d2, m3, d3, m4, hn'⟩ := hJ
    obtain ⟨rest, Nr, r1, r2, r3, hin⟩ := split3 N₁ (hsub _ m1) (hsub _ m2) (hsub _ m3)
    clear N₁
    have hnr : ∀ p ∈ news, p ∈ rest := fun p hp => by
      have := lt_nat l1 hp
      exact hin p (hsub _ (hn' p hp)) (by walk_at "mine om") (by walk_at "mine om") (by walk_at "mine om")
    have m4' : (L' + 1, o4) ∈ rest := hin _ (hsub _ m4) (by simp) (by simp) (by simp)
    have hD' := hnr _ hD
    rw [hks] at hn
    have hnk := List.mem_of_getElem? hn
    have hS := spAt_mem hnk
    obtain ⟨a, t, e1, e2⟩ := hat n _ hS
    have e2' := hnr _ e2
    have iI1 : (L' + 1 + 1 + 1 + 1 : Addr) ≠ I := hnI _ m1
    have iI2 : (L' + 1 + 1 + 1 : Addr) ≠ I := hnI _ m2
    have iI3 : (L' + 1 + 1 : Addr) ≠ I := hnI _ m3
    have hownr : ∀ p ∈ own, p ∈ rest := fun p hp => by
      have hDl := lt_nat l1 hD
      rcases hownI p hp with e | e
      · exact hin p (hown p hp) (by rw [e]; exact Ne.symm iI1) (by rw [e]; exact Ne.symm iI2) (by rw [e]; exact Ne.symm iI3)
      · exact hin p (hown p hp) (by rw [e]; dsimp only at hDl; walk_at "mine om") (by rw [e]; dsimp only at hDl; walk_at "mine om") (by rw [e]; dsimp only at hDl; walk_at "mine om")
    by_cases hlv : 0 < (spAt S n).lv
    · refine hG9 ?_
      k_steps
      rename_i hA hB hC oC dC hE oB dB hG oA dA hK tkK tK FK NK
      refine comp_dict hh (by k_asm) (by k_asm) (by k_mem) hdd lo (by have := congrArg List.length hks; simp [keysOf] at this; walk_at "mine om")
        (fun v => match v with | .int q _ => overlap S n q | _ => false) (fun v y => y = v) (by decide) (by rfl) (by rfl) ?_ ?_ ?_
      · intro C j q tq s₃ m₃ E' hq hT
        refine hideG fun G9 hG9 => ?_
        refine hG9 ?_
        refine wpAny_tests_one ?_
        obtain ⟨F₃, N₃, ns₃, at₃⟩ := hT
        rw [hks] at hq
        have hqS := spAt_mem (List.mem_of_getElem? hq)
        obtain ⟨a', t', e1', e2''⟩ := hat q _ hqS
        have e3' := hnr _ e2''
        k_steps
        all_goals first | exact keeps_toks | (show _ = overlap S n q; unfold overlap; first | rw [decide_eq_true (by walk_at "mine om")] | rw [decide_eq_false (by walk_at "mine om")])
      · intro C j q tq s₃ m₃ E' hq hz hT
        refine hideG fun G9 hG9 => ?_
        obtain ⟨F₃, N₃, ns₃, at₃⟩ := hT
        refine hG9 ?_
        k_steps
        all_goals first | exact keeps_toks | rfl
      · intro ys vs hi hp D' h' tk k F' N' hne
        have e := paired_eq hp
        subst e
        have hi2 := ints_filter (f := fun v => match v with | .int q _ => overlap S n q | _ => false) (g := overlap S n) (fun _ _ => rfl) hi
        rw [hks] at hi2
        have hle := lap_one hnd hs hnk hlv
        have hle2 : ((keysOf S).filter (overlap S n)).length < 1000 := by walk_at "mine om"
        have hownR : ∀ p ∈ own, p ∈ (D', listOf (vs.filter fun v => match v with | .int q _ => overlap S n q | _ => false).toArray k) :: (L' + 1 + 1 + 1 + 1, oA) :: (L' + 1 + 1 + 1, oB) :: (L' + 1 + 1, oC) :: rest := fun p hp => by simp [hownr p hp]
        k_steps
        exact ⟨_, _, _, _, rfl, by k_asm, by k_asm, hownR, _, _, _, _, _, _, mem_offL.mpr ⟨by simp, iI1⟩, dA, mem_offL.mpr ⟨by simp, iI2⟩, dB, mem_offL.mpr ⟨by simp, iI3⟩, dC, mem_offL.mpr ⟨by simp [m4'], hnI _ m4⟩, fun p hp => mem_offL.mpr ⟨by simp [hnr p hp], hnI _ (hn' p hp)⟩⟩
    · refine hG9 ?_
      k_steps
      rename_i hA tkA hB hC oC dC hE oB dB hG oA dA hK tkK tK FK NK
      have hownR : ∀ p ∈ own, p ∈ (L' + 1 + 1 + 1 + 1, oA) :: (L' + 1 + 1 + 1, oB) :: (L' + 1 + 1, oC) :: rest := fun p hp => by simp [hownr p hp]
      exact ⟨_, _, _, _, rfl, by k_asm, by k_asm, hownR, _, _, _, _, _, _, mem_offL.mpr ⟨by simp, iI1⟩, dA, mem_offL.mpr ⟨by simp, iI2⟩, dB, mem_offL.mpr ⟨by simp, iI3⟩, dC, mem_offL.mpr ⟨by simp [m4'], hnI _ m4⟩, fun p hp => mem_offL.mpr ⟨by simp [hnr p hp], hnI _ (hn' p hp)⟩⟩
  · intro h' tk m' news' F' N' hJ
    refine hideG fun G9 hG9 => ?_
    obtain ⟨o1, o2, o3, v1, v2, v3, m1, d1, m2, d2, m3, d3, m4, hn'⟩ := hJ
    have N' : News _ _ h' news := fun p hp => N' p (hn' p hp)
    refine hG9 ?_
    k_steps
    exact ret _ _ (by k_asm) (by k_asm)
-- sort
noncomputable def runT {α : Type} (c : Nat → Nat → Bool) : KasT α → α
  | .ret a => a
  | .ask i j k => runT c (k (c i j))
noncomputable def okT {α : Type} (n : Nat) : KasT α → Bool
  | .ret _ => true
  | .ask i j k => decide (i < n) && decide (j < n) && okT n (k true) && okT n (k false)
theorem okT_ask {α : Type} {n i j : Nat} {k : Bool → KasT α} (h : okT n (.ask i j k) = true) : i < n ∧ j < n ∧ ∀ b, okT n (k b) = true := by
  unfold okT at h
  simp only [Bool.and_eq_true, decide_eq_true_eq] at h
  exact ⟨h.1.1.1, h.1.1.2, fun b => by cases b; exact h.2; exact h.1.2⟩
theorem runT_congr {α : Type} {n : Nat} {c c' : Nat → Nat → Bool} (h : ∀ i j, i < n → j < n → c i j = c' i j) : ∀ t : KasT α, okT n t = true → runT c t = runT c' t
  | .ret _, _ => rfl
  | .ask i j k, ho => by
    obtain ⟨h1, h2, h3⟩ := okT_ask ho
    show runT c (k (c i j)) = runT c' (k (c' i j))
    rw [h i j h1 h2]
    exact runT_congr h _ (h3 _)
theorem kasWp_run {α : Type} {cmp : Nat → Nat → (Bool → Shared → Prop) → Shared → Prop} {c : Nat → Nat → Bool} {n : Nat} {Q : α → Shared → Prop} {Inv : Shared → Prop}
    (hc : ∀ i j (C : Bool → Shared → Prop) s, i < n → j < n → Inv s → (∀ s', Inv s' → C (c i j) s') → cmp i j C s) : ∀ (t : KasT α) (s : Shared), okT n t = true → Inv s → (∀ s', Inv s' → Q (runT c t) s') → t.kasWp cmp Q s
  | .ret a, s, _, hi, hq => hq s hi
  | .ask i j k, s, ho, hi, hq => by
    obtain ⟨h1, h2, h3⟩ := okT_ask ho
    exact hc i j _ s h1 h2 hi fun s' hi' => kasWp_run hc _ s' (h3 _) hi' hq
noncomputable def goodR (n : Nat) (r : Nat → Nat) : Bool :=
  let p := (runT (fun i j => decide (r i < r j)) (kas_sort n)).toList
  p.isPerm (List.range n) && (List.range (n - 1)).all fun k => decide (r (p.getD k 0) ≤ r (p.getD (k + 1) 0))
theorem ok2 : okT 2 (kas_sort 2) = true := by decide +kernel
theorem ok3 : okT 3 (kas_sort 3) = true := by decide +kernel
theorem ok4 : okT 4 (kas_sort 4) = true := by decide +kernel
theorem good2 : ∀ a < 2, ∀ b < 2, goodR 2 (fun i => [a, b].getD i 0) = true := by decide +kernel
theorem good3 : ∀ a < 3, ∀ b < 3, ∀ c < 3, goodR 3 (fun i => [a, b, c].getD i 0) = true := by decide +kernel
theorem good4 : ∀ a < 4, ∀ b < 4, ∀ c < 4, ∀ d < 4, goodR 4 (fun i => [a, b, c, d].getD i 0) = true := by decide +kernel
noncomputable def rank (n : Nat) (key : Nat → Int) (i : Nat) : Nat := (List.range n).countP fun j => decide (key j < key i)
theorem cnt_le {p q : Nat → Bool} : ∀ {l : List Nat}, (∀ x ∈ l, p x = true → q x = true) → l.countP p ≤ l.countP q
  | [], _ => Nat.le_refl _
  | x :: r, h => by
    have ih := cnt_le (p := p) (q := q) (l := r) fun y hy => h y (List.mem_cons_of_mem _ hy)
    have hx := h x (List.mem_cons_self ..)
    rw [List.countP_cons, List.countP_cons]
    cases hp : p x <;> cases hq : q x <;> simp_all <;> omega
theorem cnt_lt {p q : Nat → Bool} : ∀ {l : List Nat}, (∀ x ∈ l, p x = true → q x = true) → (∃ x ∈ l, p x = false ∧ q x = true) → l.countP p < l.countP q
  | [], _, ⟨_, h, _⟩ => by cases h
  | x :: r, h, ⟨y, hy, h1, h2⟩ => by
    have h' : ∀ z ∈ r, p z = true → q z = true := fun z hz => h z (List.mem_cons_of_mem _ hz)
    have hx := h x (List.mem_cons_self ..)
    rw [List.countP_cons, List.countP_cons]
    rcases List.mem_cons.mp hy with rfl | hy
    · have ih := cnt_le h'
      rw [h1, h2]
      simp
      omega
    · have ih := cnt_lt h' ⟨y, hy, h1, h2⟩
      cases hp : p x <;> cases hq : q x <;> simp_all <;> omega
theorem rank_lt {n : Nat} {key : Nat → Int} {i j : Nat} (hi : i < n) : rank n key i < rank n key j ↔ key i < key j := by
  unfold rank
  constructor
  · intro h
    refine Int.not_le.mp fun hle => ?_
    have := cnt_le (l := List.range n) (p := fun x => decide (key x < key j)) (q := fun x => decide (key x < key i)) (fun x _ hx => by simp only [decide_eq_true_eq] at hx ⊢; omega)
    omega
  · intro h
    exact cnt_lt (fun x _ hx => by simp only [decide_eq_true_eq] at hx ⊢; omega) ⟨i, List.mem_range.mpr hi, by simp, by simpa using h⟩
theorem rank_n {n : Nat} {key : Nat → Int} {i : Nat} (hi : i < n) : rank n key i < n := by
  have h : (List.range n).countP (fun j => decide (key j < key i)) < (List.range n).countP fun _ => true := cnt_lt (fun x _ _ => rfl) ⟨i, List.mem_range.mpr hi, by simp, rfl⟩
  rw [List.countP_true, List.length_range] at h
  exact h
theorem kas_good {n : Nat} (h2 : 2 ≤ n) (h4 : n ≤ 4) (key : Nat → Int) : okT n (kas_sort n) = true ∧ (runT (fun i j => decide (key i < key j)) (kas_sort n)).toList.Perm (List.range n) ∧
    ∀ k, k + 1 < n → key ((runT (fun i j => decide (key i < key j)) (kas_sort n)).toList.getD k 0) ≤ key ((runT (fun i j => decide (key i < key j)) (kas_sort n)).toList.getD (k + 1) 0) := by
  obtain ⟨r, hr, ho, hg⟩ : ∃ r : Nat → Nat, (∀ i, i < n → r i = rank n key i) ∧ okT n (kas_sort n) = true ∧ goodR n r = true := by
    have c : n = 2 ∨ n = 3 ∨ n = 4 := by omega
    rcases c with rfl | rfl | rfl
    · exact ⟨_, fun i hi => by match i, hi with | 0, _ => rfl | 1, _ => rfl, ok2, good2 (rank 2 key 0) (rank_n (by omega)) (rank 2 key 1) (rank_n (by omega))⟩
    · exact ⟨_, fun i hi => by match i, hi with | 0, _ => rfl | 1, _ => rfl | 2, _ => rfl, ok3, good3 (rank 3 key 0) (rank_n (by omega)) (rank 3 key 1) (rank_n (by omega)) (rank 3 key 2) (rank_n (by omega))⟩
    · exact ⟨_, fun i hi => by match i, hi with | 0, _ => rfl | 1, _ => rfl | 2, _ => rfl | 3, _ => rfl, ok4, good4 (rank 4 key 0) (rank_n (by omega)) (rank 4 key 1) (rank_n (by omega)) (rank 4 key 2) (rank_n (by omega)) (rank 4 key 3) (rank_n (by omega))⟩
  have e : runT (fun i j => decide (key i < key j)) (kas_sort n) = runT (fun i j => decide (r i < r j)) (kas_sort n) :=
    runT_congr (n := n) (fun i j hi hj => by rw [hr i hi, hr j hj]; exact decide_eq_decide.mpr (rank_lt hi).symm) _ ho
  rw [e]
  unfold goodR at hg
  simp only [Bool.and_eq_true, List.all_eq_true, decide_eq_true_eq] at hg
  have hp := List.isPerm_iff.mp hg.1
  refine ⟨ho, hp, fun k hk => ?_⟩
  have hl : (runT (fun i j => decide (r i < r j)) (kas_sort n)).toList.length = n := by rw [hp.length_eq, List.length_range]
  have hm : ∀ k, k < n → (runT (fun i j => decide (r i < r j)) (kas_sort n)).toList.getD k 0 < n := fun k hk => by
    rw [List.getD_eq_getElem?_getD, List.getElem?_eq_getElem (by omega)]
    exact List.mem_range.mp (hp.mem_iff.mp (List.getElem_mem _))
  have h1 := hg.2 k (List.mem_range.mpr (by omega))
  rw [hr _ (hm k (by omega)), hr _ (hm (k + 1) hk)] at h1
  refine Int.not_lt.mp fun hlt => ?_
  have := (rank_lt (key := key) (hm (k + 1) hk) (j := (runT (fun i j => decide (r i < r j)) (kas_sort n)).toList.getD k 0)).mpr hlt
  omega
theorem tup_lt {prog : Program} {w : World} {A : Around} {E : Value → Shared → Prop} {s : Shared} {x y : Addr} {a b a' b' : Int} {t1 t2 u1 u2 : Tok} {Q : Bool → Shared → Prop}
    (hx : s.heap.get? x = some (tup2 a b t1 t2)) (hy : s.heap.get? y = some (tup2 a' b' u1 u2)) (h : ∀ tk, Q (decide (a < a' ∨ (a = a' ∧ b < b'))) { s with toks := tk }) : wpAny (model prog w) A (keyLt' (tuples' true) (.ref x) (.ref y)) Q E s := by
  refine kat_lt hx rfl hy rfl ?_
  show KatLex prog w A true false Q [(.int a t1, .int a' u1), (.int b t2, .int b' u2)] 0 s
  refine kat_cons (wpAny_eqBool_int ?_)
  by_cases e : a = a'
  · subst e
    rw [beq_self_eq_true]
    refine kat_yes (kat_cons (wpAny_eqBool_int ?_))
    by_cases e2 : b = b'
    · subst e2
      rw [beq_self_eq_true]
      refine kat_yes (kat_nil ?_)
      have := h s.toks
      simpa using this
    · rw [beq_false_of_ne e2]
      refine kat_no (kat_one _ _ (lt_int ?_))
      show Q _ _
      have := h s.toks
      simpa using this
  · rw [beq_false_of_ne e]
    refine kat_no (oneLt_int ?_)
    have := h s.toks
    simpa [e] using this
theorem list_sort_small {prog : Program} {w : World} {A : Around} {E : Value → Shared → Prop} {s : Shared} {a : Addr} {vs : List Value} {n : Nat} {P : PySem.Fin → Shared → Prop} (ho : s.heap.get? a = some (seqObj "list" vs.toArray n)) (h1 : vs.length < 2)
    (h : P (.done (.ret .none)) { s with heap := sortedHeap s.heap a vs vs.toArray }) :
    wpAny (model prog w) A (Builtin.«list.sort» ⟨[.ref a], []⟩) P E s := by
  rw [list_sort_plain]
  have ha : a < s.heap.objs.size := Heap.lt_size ho
  refine wpAny_bind (listItems_at ho rfl ?_)
  refine wpAny_bind (listUpdate_at ho rfl ?_ (by rw [List.size_toArray, sizeLine_eq]; omega) (Nat.zero_le _))
  obtain ⟨e1, ho1⟩ : ∃ e1, (s.heap.update a (Obj.mapSeq fun _ => #[])).get? a = some (seqObj "list" #[] e1) := ⟨_, get?_update_seq ho (fun _ => #[])⟩
  refine wpAny_bind (seqEpoch_at ho1 rfl ?_)
  refine wpAny_bind (wpAny_newTuple ?_ (by show vs.length ≤ _; rw [sizeLine_eq]; omega))
  refine wpAny_bind (wpAny_newList ?_ (Nat.zero_le _))
  refine wpAny_holding ?_
  have ho6 : (((s.heap.update a (Obj.mapSeq fun _ => #[])).push (seqObj "tuple" vs.toArray 0)).push (seqObj "list" #[] 0)).get? a = some (seqObj "list" #[] e1) :=
    Heap.get?_push_of_some _ (Heap.get?_push_of_some _ ho1)
  show wpAny (model prog w) A _ P E { s with heap := ((s.heap.update a (Obj.mapSeq fun _ => #[])).push (seqObj "tuple" vs.toArray 0)).push (seqObj "list" #[] 0) }
  dsimp only
  have h2 : vs.toArray.size < 2 := by rw [List.size_toArray]; exact h1
  rw [if_pos h2, if_pos h2]
  refine wpAny_bind (wpAny_pure ?_)
  rw [StateT.run_pure]
  refine wpAny_bind (wpAny_pure ?_)
  dsimp only
  refine wpAny_bind (seqEpoch_at ho6 rfl ?_)
  have hout : (arrOf (SortSt.mk' general' (vs.toArray.zip vs.toArray) #[] 7 none)).map (·.2) = vs.toArray := by
    show (vs.toArray.zip vs.toArray).map (·.2) = vs.toArray
    apply Array.toList_inj.mp
    rw [Array.toList_map, Array.toList_zip, List.map_snd_zip (Nat.le_refl _)]
  rw [hout]
  refine wpAny_bind (listUpdate_at ho6 rfl ?_ (Nat.zero_le _) (by rw [List.size_toArray, sizeLine_eq]; omega))
  simp only [bne_self_eq_false, Bool.false_eq_true, if_false]
  exact wpAny_pure h
theorem sorted_small {prog : Program} {w : World} {A : Around} {E : Value → Shared → Prop} {s : Shared} {h₀ : Heap} {L l : Addr} {m : Str → Option Value} {news : List (Addr × Obj)} {vs : List Value} {Q : Value → Shared → Prop}
    (F : Fr h₀ L s.heap m) (N : News h₀ L s.heap news) (hl : s.heap.IsList l vs.toArray) (h1 : vs.length < 2)
    (h : ∀ D h' e, Fr h₀ L h' m → News h₀ L h' ((D, seqObj "list" vs.toArray e) :: news) → (∀ q ∈ news, q.1 < D) → Q (.ref D) { s with heap := h' }) :
    wpAny (model prog w) A (call (.builtin "sorted") [.ref l]) Q E s := by
  refine Calls.call_function_entry kind_sorted plain_sorted entry_sorted (args_sorted1 _) ?_
  unfold Builtin.«sorted»
  refine wpAny_bind (m := checkCount "sorted" 1 1 _) (wpAny_pure ?_)
  refine wpAny_bind (collect_list hl ?_ (by rw [sizeLine_eq]; omega))
  refine wpAny_bind (wpAny_newList ?_ (by rw [sizeLine_eq]; omega))
  have hsz : ((s.heap.push (seqObj "list" #[] 0)).update s.heap.objs.size (Obj.mapSeq (· ++ vs.toArray))).objs.size = s.heap.objs.size + 1 := by
    rw [Heap.size_update, size_push']
  have hoL : (((s.heap.push (seqObj "list" #[] 0)).update s.heap.objs.size (Obj.mapSeq (· ++ vs.toArray))).push (seqObj "list" vs.toArray 0)).get? (s.heap.objs.size + 1) = some (seqObj "list" vs.toArray 0) := by
    rw [← hsz]; exact Heap.get?_push_size _ rfl
  show wpAny _ _ _ _ _ { s with heap := ((s.heap.push (seqObj "list" #[] 0)).update s.heap.objs.size (Obj.mapSeq (· ++ vs.toArray))).push (seqObj "list" vs.toArray 0) }
  rw [hsz]
  refine wpAny_bind (wpAny_holding (wpAny_call_entry slot_list_sort ⟨_, hoL, rfl⟩ entry_list_sort (list_sort_small hoL h1 ⟨_, rfl, ?_⟩) (args_list_sort _)))
  obtain ⟨e, he⟩ := sortedAll_at s.heap vs vs.toArray
  exact wpAny_pure ⟨_, rfl, h _ (sortedAll s.heap vs vs.toArray) e (F.kept fun _ _ => sortedAll_old) (N.kept_cons F (fun _ _ => sortedAll_old) (Nat.le_succ _) he) (fun q hq => Nat.lt_succ_of_lt (Heap.lt_size (N q hq).1))⟩
abbrev TL := List (Addr × (Int × Int))
noncomputable def TupsAt (led : List (Addr × Obj)) (tl : TL) : Prop := ∀ q ∈ tl, ∃ t1 t2, (q.1, tup2 q.2.1 q.2.2 t1 t2) ∈ led
noncomputable def enc (p : Int × Int) : Int := p.1 * 1000 + p.2
theorem enc_lt {p q : Int × Int} (hp : 0 ≤ p.2 ∧ p.2 < 1000) (hq : 0 ≤ q.2 ∧ q.2 < 1000) : enc p < enc q ↔ (p.1 < q.1 ∨ (p.1 = q.1 ∧ p.2 < q.2)) := by
  unfold enc
  omega
theorem kat_tups_of {h : Heap} : ∀ {tl : TL}, (∀ q ∈ tl, ∃ t1 t2, h.get? q.1 = some (tup2 q.2.1 q.2.2 t1 t2)) → ∃ fs : List Value, KatTups h (tl.map fun q => Value.ref q.1) fs ∧ fs.length = tl.length ∧ ∀ v ∈ fs, ∃ n t, v = .int n t
  | [], _ => ⟨[], KatTups.nil, rfl, fun _ h => nomatch h⟩
  | q :: r, hq => by
    obtain ⟨fs, h1, h2, h3⟩ := kat_tups_of (tl := r) fun x hx => hq x (List.mem_cons_of_mem _ hx)
    obtain ⟨t1, t2, e⟩ := hq q (List.mem_cons_self ..)
    refine ⟨.int q.2.1 t1 :: fs, KatTups.cons e rfl rfl rfl h1, by simp [h2], fun v hv => ?_⟩
    rcases List.mem_cons.mp hv with rfl | hv
    · exact ⟨_, _, rfl⟩
    · exact h3 v hv
noncomputable def tlAt (tl : TL) (i : Nat) : Addr × (Int × Int) := tl.getD i (0, (0, 0))
theorem tlAt_get {tl : TL} {i : Nat} (h : i < tl.length) : tl[i]? = some (tlAt tl i) := by
  unfold tlAt
  rw [List.getD_eq_getElem?_getD, List.getElem?_eq_getElem h]
  rfl
theorem sort_tups {prog : Program} {w : World} {A : Around} {E : Value → Shared → Prop} {s : Shared} {h₀ : Heap} {L l : Addr} {m : Str → Option Value} {news : List (Addr × Obj)} {tl : TL} {k : Nat} {Q : Value → Shared → Prop}
    (F : Fr h₀ L s.heap m) (N : News h₀ L s.heap news) (hl : (l, listOf (tl.map fun q => Value.ref q.1).toArray k) ∈ news) (hm : TupsAt news tl) (h4 : tl.length ≤ 4) (hb : ∀ q ∈ tl, 0 ≤ q.2.2 ∧ q.2.2 < 1000)
    (h : ∀ D (tl' : TL) e h' tk, Fr h₀ L h' m → News h₀ L h' ((D, listOf (tl'.map fun q => Value.ref q.1).toArray e) :: news) → (∀ q ∈ news, q.1 < D) → tl'.Perm tl → (∀ (i : Nat) a b, tl'[i]? = some a → tl'[i + 1]? = some b → enc a.2 ≤ enc b.2) → Q (.ref D) { s with heap := h', toks := tk }) :
    wpAny (model prog w) A (call (.builtin "sorted") [.ref l]) Q E s := by
  by_cases h1 : tl.length < 2
  · refine sorted_small F N (News.isList N hl) (by simpa using h1) fun D h' e F' N' l1 => h D tl e h' s.toks F' N' l1 (List.Perm.refl _) fun i a b _ hb => ?_
    have := (List.getElem?_eq_some_iff.mp hb).1
    omega
  · refine kat_sorted F N (News.isList N hl) (by simp; omega) (by simp; omega) fun D e1 h' F' N' l1 => ?_
    obtain ⟨fs, k1, k2, k3⟩ := kat_tups_of (h := h') (tl := tl) fun q hq => by
      obtain ⟨t1, t2, e⟩ := hm q hq
      exact ⟨t1, t2, (N' _ (List.mem_cons_of_mem _ e)).1⟩
    refine kat_kind (T := .type "int") k1 (by omega) (fun v hv => ?_) rfl ?_
    · obtain ⟨n, t, rfl⟩ := k3 v hv
      exact Looks.of_pure rfl
    rw [show (Value.type "int" != Value.type "tuple") = true by decide]
    obtain ⟨ho, hp, hs⟩ := kas_good (n := tl.length) (by omega) h4 (fun i => enc (tlAt tl i).2)
    rw [show (tl.map fun q => Value.ref q.1).length = tl.length by simp]
    refine kasWp_run (n := tl.length) (c := fun i j => decide (enc (tlAt tl i).2 < enc (tlAt tl j).2)) (Inv := fun s' => ∃ tk, s' = { s with heap := h', toks := tk }) ?_ _ _ ho ⟨s.toks, rfl⟩ ?_
    · rintro i j C s' hi hj ⟨tk, rfl⟩ hC
      have gi := tlAt_get hi
      have gj := tlAt_get hj
      obtain ⟨t1, t2, ei⟩ := hm _ (List.mem_of_getElem? gi)
      obtain ⟨u1, u2, ej⟩ := hm _ (List.mem_of_getElem? gj)
      have bi := hb _ (List.mem_of_getElem? gi)
      have bj := hb _ (List.mem_of_getElem? gj)
      unfold kas_ask
      rw [show (tl.map fun q => Value.ref q.1).getD i Value.none = .ref (tlAt tl i).1 by simp [List.getD_eq_getElem?_getD, gi], show (tl.map fun q => Value.ref q.1).getD j Value.none = .ref (tlAt tl j).1 by simp [List.getD_eq_getElem?_getD, gj]]
      refine tup_lt (N' _ (List.mem_cons_of_mem _ ei)).1 (N' _ (List.mem_cons_of_mem _ ej)).1 fun tk' => ?_
      have := hC { s with heap := h', toks := tk' } ⟨tk', rfl⟩
      rw [decide_eq_decide.mpr (enc_lt bi bj)] at this
      exact this
    · rintro s' ⟨tk, rfl⟩
      generalize runT (fun i j => decide (enc (tlAt tl i).2 < enc (tlAt tl j).2)) (kas_sort tl.length) = p at hp hs
      have hpl : p.toList.length = tl.length := by rw [hp.length_eq, List.length_range]
      have hpm : ∀ i ∈ p.toList, i < tl.length := fun i hi => List.mem_range.mp (hp.mem_iff.mp hi)
      have e : (p.toList.map fun i => (tl.map fun q => Value.ref q.1).getD i Value.none) = (p.toList.map (tlAt tl)).map fun q => Value.ref q.1 := by
        rw [List.map_map]
        refine List.map_congr_left fun i hi => ?_
        have := tlAt_get (hpm i hi)
        simp [List.getD_eq_getElem?_getD, this]
      rw [e]
      refine KasFin.intro F' N' (UpdF.head fun q hq => Nat.ne_of_lt (l1 q hq)) fun h'' c F'' N'' => ?_
      refine h D (p.toList.map (tlAt tl)) c h'' tk F'' N'' l1 ?_ ?_
      · refine (hp.map (tlAt tl)).trans ?_
        have : (List.range tl.length).map (tlAt tl) = tl := by
          apply List.ext_getElem?
          intro i
          rw [List.getElem?_map]
          rcases Nat.lt_or_ge i tl.length with hi | hi
          · rw [List.getElem?_range hi, tlAt_get hi]
            rfl
          · rw [List.getElem?_eq_none (by simpa using hi), List.getElem?_eq_none hi]
            rfl
        rw [this]
      · intro i a b ha hb'
        rw [List.getElem?_map] at ha hb'
        simp only [Option.map_eq_some_iff] at ha hb'
        obtain ⟨x, hx, rfl⟩ := ha
        obtain ⟨y, hy, rfl⟩ := hb'
        have hi := (List.getElem?_eq_some_iff.mp hy).1
        have := hs i (by omega)
        rw [List.getD_eq_getElem?_getD, List.getD_eq_getElem?_getD, hx, hy] at this
        exact this
-- comptup
noncomputable def TupEnd (h₀ : Heap) (L : Addr) (m : Str → Option Value) (led : List (Addr × Obj)) (a b : Int) (s₃ : Shared) (y : Value) (s₄ : Shared) : Prop :=
  ∃ T t1 t2 h' tk, y = .ref T ∧ s₄ = { s₃ with heap := h', toks := tk } ∧ Fr h₀ L h' m ∧ News h₀ L h' ((T, tup2 a b t1 t2) :: led) ∧ ∀ p ∈ led, p.1 < T
section
variable {prog : Program} {w : World} {A : Around} {s : Shared} {env : Env} {E : Value → Shared → Prop} {elt iter ct : Expr} {x : Str} {px : Pos} {scope : Scope} {pos : Pos} {cl : List (Str × Addr)}
  {h₀ : Heap} {L : Addr} {m : Str → Option Value} {news : List (Addr × Obj)}
theorem comp_tups {l : Addr} {o : Obj} {kvs : List (Int × Value)} {Q : Value → Shared → Prop} (hh : A.handled = none) (F : Fr h₀ L s.heap m) (N : News h₀ L s.heap news) (hl : (l, o) ∈ news) (hd : o.IsDictOf (PySem.intKind prog w) kvs) (lo : (l == sysModules) = false) (hsz : kvs.length ≤ 1000000)
    (f : Int → Bool) (g : Int → Int) (hcell : ∀ y ∈ scope.names, y.2 ≠ .cell) (hkind : scope.kind = .function) (hx : scope.names.lookup x = some .local)
    (ht : ∀ C (i : Nat) n t s₃ m₃ led E', (kvs.map (·.1))[i]? = some n → (∀ p ∈ news, p ∈ led) → CTurn h₀ L m led C x (.int n t) m₃ s₃.heap → wpAny (model prog w) A (isTrue ct (compEnvC scope cl C env) (eval ct (compEnvC scope cl C env)))
      (fun ok s₄ => ok = f n ∧ ∃ tk, s₄ = { s₃ with toks := tk }) E' s₃)
    (he : ∀ C (i : Nat) n t s₃ m₃ led E', (kvs.map (·.1))[i]? = some n → f n = true → (∀ p ∈ news, p ∈ led) → CTurn h₀ L m led C x (.int n t) m₃ s₃.heap → wpAny (model prog w) A (eval elt (compEnvC scope cl C env))
      (TupEnd h₀ L m led (g n) n s₃) E' s₃)
    (hQ : ∀ D (tl : TL) k h' tk led, Fr h₀ L h' m → News h₀ L h' ((D, listOf (tl.map fun q => Value.ref q.1).toArray k) :: led) → (∀ p ∈ led, p.1 ≠ D) → (∀ p ∈ news, p ∈ led) → TupsAt led tl → tl.map (·.2) = ((kvs.map (·.1)).filter f).map (fun n => (g n, n)) → Q (.ref D) { s with heap := h', toks := tk }) :
    MyComp prog w A env elt x px iter [ct] scope cl pos none Q E (.ref l) s := by
  have hol := (N _ hl).1
  have hlt : l < s.heap.objs.size := Heap.lt_size hol
  obtain ⟨ep, hat⟩ := KdkAt.of hd
  have hda := hat.dictAt hol
  refine wpAny_pyIter_dict lo hda ?_
  have up : ∀ b ob, s.heap.get? b = some ob → (s.heap.push { cls := .type "dict_keyiterator", data := .fields #[.ref l, .int 0 0, .int kvs.length 0, .int ep 0] }).get? b = some ob := fun b ob e => Heap.get?_push_of_some _ e
  generalize hs2 : ({ s with heap := s.heap.push { cls := .type "dict_keyiterator", data := .fields #[.ref l, .int 0 0, .int kvs.length 0, .int ep 0] } } : Shared) = s₂
  have rest : ∀ (k i : Nat) (ys : List Value) (nw : List (Addr × Obj)), i + k = kvs.length → (∃ tl : TL, ys = tl.map (fun q => Value.ref q.1) ∧ TupsAt nw tl ∧ (∀ p ∈ news, p ∈ nw) ∧ tl.map (·.2) = (((kvs.map (·.1)).take i).filter f).map (fun n => (g n, n))) →
      LCt.CompRestT prog w A h₀ L m env ct elt x scope cl s₂ (fun nw => ∀ p ∈ news, p ∈ nw) (fun i v => ∃ k x, kvs[i]? = some (k, x) ∧ (PySem.intKind prog w).is k v = true)
        (fun ys nw => ∃ tl : TL, ys = tl.map (fun q => Value.ref q.1) ∧ TupsAt nw tl ∧ (∀ p ∈ news, p ∈ nw) ∧ tl.map (·.2) = ((kvs.map (·.1)).filter f).map (fun n => (g n, n))) k i ys nw := by
    intro k
    induction k with
    | zero =>
      rintro i ys nw hi ⟨tl, h1, h2, h3, h4⟩
      refine LCt.CompRestT.zero ⟨tl, h1, h2, h3, ?_⟩
      rw [h4, List.take_of_length_le (by simp; omega)]
    | succ k ih =>
      rintro i ys nw hi ⟨tl, rfl, h2, h3, h4⟩
      refine LCt.CompRestT.succ ?_
      rintro v I oI C oC D m₂ h tk E' ⟨n, y, hn, hv⟩ hoC hmx F₁ N₁ off ne
      obtain ⟨t, rfl⟩ := int_is hv
      have hn' : (kvs.map (·.1))[i]? = some n := by simp [hn]
      have hsub : ∀ p ∈ news, p ∈ (I, oI) :: (C, oC) :: (D, LCg.lst (tl.map fun q => Value.ref q.1)) :: nw := fun p hp => List.mem_cons_of_mem _ (List.mem_cons_of_mem _ (List.mem_cons_of_mem _ (h3 p hp)))
      have hT : ∀ tk', CTurn h₀ L m ((I, oI) :: (C, oC) :: (D, LCg.lst (tl.map fun q => Value.ref q.1)) :: nw) C x (.int n t) m₂ ({ s₂ with heap := h, toks := tk' } : Shared).heap := fun tk' => ⟨F₁, N₁, hoC.ns (N₁ (C, oC) (List.mem_cons_of_mem _ (List.mem_cons_self ..))).1, hmx⟩
      refine wpAny_mono (ht C i n t _ m₂ _ E' hn' hsub (hT tk)) (fun ok s₄ h₄ => ?_) fun _ _ e => e
      obtain ⟨rfl, tk', rfl⟩ := h₄
      have htake : ((kvs.map (·.1)).take (i + 1)).filter f = ((kvs.map (·.1)).take i).filter f ++ (if f n then [n] else []) := by
        rw [List.take_add_one, hn', List.filter_append]
        simp only [Option.toList]
        cases hf : f n <;> simp [hf]
      cases hf : f n with
      | false =>
        simp only [Bool.false_eq_true, if_false]
        refine LCg.CompEnd.intro F₁ N₁ nw (fun p hp => hp) off h3 (ih (i + 1) _ nw (by omega) ⟨tl, rfl, h2, h3, ?_⟩)
        rw [htake, hf]
        simpa using h4
      | true =>
        simp only [if_true]
        refine wpAny_mono (he C i n t _ m₂ _ E' hn' hf hsub (hT tk')) (fun y s₅ h₅ => ?_) fun _ _ e => e
        obtain ⟨T, t1, t2, h', tk₅, rfl, rfl, F₂, N₂, l1⟩ := h₅
        have lI := l1 (I, oI) (List.mem_cons_self ..)
        have lC := l1 (C, oC) (List.mem_cons_of_mem _ (List.mem_cons_self ..))
        have lD := l1 _ (List.mem_cons_of_mem _ (List.mem_cons_of_mem _ (List.mem_cons_self (a := (D, LCg.lst (tl.map fun q => Value.ref q.1))) (l := nw))))
        refine ⟨h', tk₅, (T, tup2 (g n) n t1 t2) :: nw, rfl, F₂, ?_, ⟨⟨Nat.ne_of_gt lI, Nat.ne_of_gt lC, Nat.ne_of_gt lD⟩, off⟩, fun p hp => List.mem_cons_of_mem _ (h3 p hp), ?_⟩
        · intro p hp
          refine N₂ p ?_
          simp only [List.mem_cons] at hp ⊢
          rcases hp with h | h | h | h | h <;> simp [h]
        · refine ih (i + 1) _ _ (by omega) ⟨tl ++ [(T, (g n, n))], by simp, ?_, fun p hp => List.mem_cons_of_mem _ (h3 p hp), ?_⟩
          · intro q hq
            rcases List.mem_append.mp hq with hq | hq
            · obtain ⟨u1, u2, e⟩ := h2 q hq
              exact ⟨u1, u2, List.mem_cons_of_mem _ e⟩
            · rw [List.mem_singleton.mp hq]
              exact ⟨t1, t2, List.mem_cons_self ..⟩
          · rw [htake, hf, List.map_append, h4]
            simp
  subst hs2
  refine LCt.block_T (s₂ := { s with heap := s.heap.push { cls := .type "dict_keyiterator", data := .fields #[.ref l, .int 0 0, .int kvs.length 0, .int ep 0] } }) (Walks.dictKeys (knd := PySem.intKind prog w) hh s.heap.objs.size l (Nat.ne_of_lt hlt) kvs ep) (by rw [sizeLine_eq]; omega) (fun i h st => by obtain ⟨ob, e, _⟩ := st.1; exact ⟨ob, e⟩)
    (fun i h h' ob nw st e e' k N S => ⟨by obtain ⟨ob', q, r⟩ := st.1; rw [e] at q; cases q; exact ⟨_, e', r⟩, hat.dictAt (N _ (S _ hl)).1⟩) hcell hkind hx ⟨⟨_, Heap.get?_push_size _ rfl, rfl, rfl⟩, hda.at' fun ob e => up _ ob e⟩ ?_
    (F.keeps up) (N.grown up) (Nat.ne_of_lt F.ns.lt) (next_is_new F) (fun p hp => Nat.ne_of_lt (Heap.lt_size (N p hp).1)) (fun p hp => hp) (rest kvs.length 0 [] news (by omega) ⟨[], rfl, (fun _ h => by cases h), fun _ h => h, rfl⟩) ?_
  · intro b hb
    show b < (s.heap.push _).objs.size
    rw [Heap.size_push]
    rcases List.mem_cons.mp hb with rfl | hb
    · exact Nat.lt_succ_self _
    · rw [List.mem_singleton.mp hb]; exact Nat.lt_succ_of_lt hlt
  · rintro D C h tk m' ys news' F' N' o1 hn hC₀ hD₀ hCL hDL hCD offC ⟨tl, rfl, h2, h3, h4⟩
    refine ⟨m', hn, fun h'' hs'' => hQ D tl (tl.map fun q => Value.ref q.1).length h'' tk news' (F'.change hs'' hCL hC₀) (fun p hp => ?_) (fun p hp => ?_) h3 h2 h4⟩
    · refine ⟨hs''.extBut _ _ ?_ (N' p hp).1, (N' p hp).2⟩
      rcases List.mem_cons.mp hp with rfl | hp
      · exact Ne.symm hCD
      · exact offC p hp
    · have : ∀ l : List (Addr × Obj), LCg.Off1 D l → ∀ p ∈ l, p.1 ≠ D := fun l => by
        induction l with
        | nil => intro _ p hp; cases hp
        | cons a r ih =>
          intro ho p hp
          rcases List.mem_cons.mp hp with rfl | hp
          · exact ho.1
          · exact ih ho.2 p hp
      exact this _ o1 p hp
end
-- vinit
inductive JVin (x fl : Addr) (base : Led) (i : Nat) (m : Fm) (nw : Led) : Prop
  | mk (hm : Has m [(Str.ofString "self", .ref x)]) (ls : List Addr) (kf : Nat) (h1 : ls.length = i) (h2 : (fl, listOf (ls.map Value.ref).toArray kf) ∈ nw) (h3 : ∀ l ∈ ls, (l, listOf #[] 0) ∈ nw ∧ fl < l) (h4 : ls.Nodup) (hn : ∀ p ∈ base, p ∈ nw)
theorem spec_vinit {w : World} {A : Around} {h₀ : Heap} {L : Addr} {m : Str → Option Value} {news : List (Addr × Obj)} {s : Shared} {R : Result → Shared → Prop}
  {x dx o : Addr} {nl : Int} {tn : Tok}
  (C : Cx w A h₀ L s.heap m ((x, instObj 466 dx) :: (dx, dictOf [] 0) :: news)) (hroom : A.depth + 30 < 1000) (h3 : 3 ≤ nl ∧ nl ≤ 4) (hl : ∀ p ∈ news, p.1 < dx) (hx : dx < x)
  (ret : ∀ fl T t (ls : List Addr) kf led h' tks, Fr h₀ L h' m → News h₀ L h' ((dx, verD w nl o fl T (-1) t) :: led) → (∀ p ∈ led, p.1 ≠ dx) → (x, instObj 466 dx) ∈ led → (fl, listOf (ls.map Value.ref).toArray kf) ∈ led → (∃ t1 t2, (T, tup2 0 1 t1 t2) ∈ led) → ls.length = nl.toNat → (∀ l ∈ ls, (l, listOf #[] 0) ∈ led ∧ x < l ∧ fl < l ∧ T ≠ l) → ls.Nodup → (∀ p ∈ news, p ∈ led) → @LT.lt Nat _ x fl → R (.ok (.ret .none)) { s with heap := h', toks := tks }) :
  codeAny (model P w) A (.call (.ref 400) ⟨[.ref x, .int nl tn, .ref o], []⟩) R s := by
  obtain ⟨⟨A₀, base, env, outer, B, hA, hf, hke⟩, F, X, N, ⟨loose, mean, mg, mb, T'⟩, hh⟩ := C
  have hal := allLt_of hl
  have hlt2 : @LT.lt Nat _ dx x := hx
  refine' code_def (binds := [(Str.ofString "self", .ref x), (Str.ofString "num_levels", .int nl tn), (Str.ofString "order", .ref o)]) B F X N T' hA hf hke ?k6 ?k7 ?k8 ?k9 ?kB ?_ ?c2 ?c3 ?c4 ?c5
  walk_at "mine enter"
  k_steps
  rename_i gg LL hA1 FG BG XG TG hK6 tk6 hB1 tk5 tk4 hC1 tk3 fl hD1 l1 tk2 hE1 tk1 FB NB hF1 tkb ra rb rc hr FC NC keep
  obtain ⟨t0, t1, t2, t4, t5, hN⟩ : ∃ (t0 t1 t2 t4 t5 : Tok), News gg LL hF1 ((fl, listOf #[] 0) :: (x, instObj 466 dx) :: (dx, dictOf [fe w "num_levels" t0 (.int nl t1), fe w "order" t2 (.ref o), fe w "files" t4 (.ref fl)] 3) :: news) := ⟨_, _, _, _, 0, NC⟩
  clear FB NB NC
  have hlf : ∀ p ∈ news, @LT.lt Nat _ p.1 fl := fun p hp => allLt_all l1.2.2 p hp
  refine for_range2 rfl nl.toNat hh (by k_asm) (by k_asm) hr (small1 (by walk_at "mine om") (by walk_at "mine om")) (rsz (by walk_at "mine om"))
    (JVin x fl ((x, instObj 466 dx) :: (dx, dictOf [fe w "num_levels" t0 (.int nl t1), fe w "order" t2 (.ref o), fe w "files" t4 (.ref fl)] 3) :: news)) ⟨by walk_at "mine has", [], 0, rfl, by simp, by simp, by simp, fun p hp => List.mem_cons_of_mem _ hp⟩ ?_ ?_
  · intro I i tv m₁ nw led own h tkn hi hJ hsub hnI hown hownI hI hnI' F₁ N₁
    refine hideG fun G9 hG9 => ?_
    obtain ⟨hmm, ls, kf, hlen, hfl, hls, hnd, hn⟩ := hJ
    have F₁ := Fr.with _ F₁ hmm
    obtain ⟨rest, N₃, r1, r2, r3⟩ := led_split N₁ (hsub _ hfl)
    clear N₁
    have hx1 : (x, instObj 466 dx) ∈ rest := r2 _ (hsub _ (hn _ (List.mem_cons_self ..))) (Nat.ne_of_lt l1.1)
    have hd1 := r2 _ (hsub _ (hn _ (List.mem_cons_of_mem _ (List.mem_cons_self ..)))) (Nat.ne_of_lt l1.2.1)
    have hn1 : ∀ p ∈ news, p ∈ rest := fun p hp => r2 p (hsub _ (hn p (List.mem_cons_of_mem _ (List.mem_cons_of_mem _ hp)))) (Nat.ne_of_lt (hlf p hp))
    have hsz : (ls.map Value.ref).toArray.size ≤ sizeLine := by rw [sizeLine_eq]; simp; walk_at "mine om"
    refine hG9 ?_
    k_steps
    rename_i hA2 tkx D hB2 lD hC2 F2 N2
    have hDn : ∀ l ∈ ls, l ≠ D := fun l hl => Nat.ne_of_lt (allLt_all lD.2 (l, listOf #[] 0) (r2 _ (hsub _ (hls l hl).1) (Nat.ne_of_gt (hls l hl).2)))
    have hfI : fl ≠ I := hnI _ hfl
    refine ⟨_, _, _, _, rfl, by k_asm, by k_asm, ?_, by walk_at "mine has", ls ++ [D], kf + 1, by simp [hlen], ?_, ?_, ?_, ?_⟩
    · intro p hp
      have := r2 p (hown p hp) (by rw [hownI p hp]; exact hfI.symm)
      simp [this]
    · have e : (ls.map Value.ref).toArray.push (.ref D) = ((ls ++ [D]).map Value.ref).toArray := by simp
      rw [← e]
      exact mem_offL.mpr ⟨by simp, hfI⟩
    · intro l hl'
      rcases List.mem_append.mp hl' with hl' | hl'
      · have := r2 _ (hsub _ (hls l hl').1) (Nat.ne_of_gt (hls l hl').2)
        exact ⟨mem_offL.mpr ⟨by simp [this], hnI _ (hls l hl').1⟩, (hls l hl').2⟩
      · rw [List.mem_singleton.mp hl']
        refine ⟨mem_offL.mpr ⟨by simp, ?_⟩, lD.1⟩
        obtain ⟨oI, hoI, _⟩ := hI
        exact Nat.ne_of_gt (allLt_all lD.2 _ (r2 _ hoI hfI.symm))
    · refine List.nodup_append.mpr ⟨hnd, by simp, fun a ha b hb => ?_⟩
      rw [List.mem_singleton.mp hb]
      exact hDn a ha
    · intro p hp
      refine mem_offL.mpr ⟨?_, hnI _ (hn p hp)⟩
      simp only [List.mem_cons] at hp
      rcases hp with rfl | rfl | hp
      · simp [hx1]
      · simp [hd1]
      · simp [hn1 p hp]
  · intro h' tkn m' led F' N' hJ
    refine hideG fun G9 hG9 => ?_
    obtain ⟨hmm, ls, kf, hlen, hfl, hls, hnd, hn⟩ := hJ
    have F' := Fr.with _ F' hmm
    obtain ⟨rest, N₃, r1, r2, r3⟩ := led_split N' (hn _ (List.mem_cons_of_mem _ (List.mem_cons_self ..)))
    clear N'
    have hx1 : (x, instObj 466 dx) ∈ rest := r2 _ (hn _ (List.mem_cons_self ..)) (Nat.ne_of_gt hlt2)
    have ret2 : ∀ (T : Addr) (u1 u2 t0 t1 t2 t3 t4 t5 t6 t7 t8 : Tok) (h' : Heap) (tks : Nat), Fr h₀ L h' m → News h₀ L h' ((T, tup2 0 1 u1 u2) :: (dx, dictOf [fe w "num_levels" t0 (.int nl t1), fe w "order" t2 (.ref o), fe w "files" t3 (.ref fl), fe w "refs" t4 (.int 0 t5), fe w "score" t6 (.ref T), fe w "score_level" t7 (.int (-1) t8)] 6) :: rest) → (∀ p ∈ rest, @LT.lt Nat _ p.1 T) → @LT.lt Nat _ dx T → R (.ok (.ret .none)) { s with heap := h', toks := tks } := by
      intro T u1 u2 t0 t1 t2 t3 t4 t5 t6 t7 t8 h' tks F' N' lT lT2
      refine ret fl T (tkL [t0, t1, t2, t3, t4, t5, t6, t7, t8]) ls kf ((T, tup2 0 1 u1 u2) :: rest) h' tks F' (news_swap N') ?_ ?_ ?_ ⟨u1, u2, List.mem_cons_self ..⟩ hlen ?_ hnd ?_ l1.1
      · intro p hp
        rcases List.mem_cons.mp hp with rfl | hp
        · exact Nat.ne_of_gt lT2
        · exact r1 p hp
      · exact List.mem_cons_of_mem _ hx1
      · exact List.mem_cons_of_mem _ (r2 _ hfl (Nat.ne_of_gt l1.2.1))
      · intro l hl'
        have hm := r2 _ (hls l hl').1 (Nat.ne_of_gt (Nat.lt_trans l1.2.1 (hls l hl').2))
        exact ⟨List.mem_cons_of_mem _ hm, Nat.lt_trans l1.1 (hls l hl').2, (hls l hl').2, Nat.ne_of_gt (lT _ hm)⟩
      · intro p hp
        exact List.mem_cons_of_mem _ (r2 _ (hn _ (List.mem_cons_of_mem _ (List.mem_cons_of_mem _ hp))) (Nat.ne_of_lt (hl p hp)))
    refine hG9 ?_
    k_steps
    rename News h₀ L _ _ => Nz
    exact ret2 _ _ _ _ _ _ _ _ _ _ _ _ _ _ (by k_asm) Nz (fun p hp => by have := And.right (by assumption : @LT.lt Nat _ dx _ ∧ AllLt _ rest); exact allLt_all this p hp) (And.left (by assumption : @LT.lt Nat _ dx _ ∧ AllLt _ rest))
-- version
theorem rg23_0 : True := by
  k_with "mine k_enter" => (((with_reducible show codeAny _ _ (Code.call (Value.ref 400) _) _ _); refine' spec_vinit (by walk_at "mine cx") (by walk_at "mine room") (by assumption) (by walk_at "mine lt") (by assumption) ?_; intro _ _ _ _ _ _ _ _ _ _ _ _ _ _ _ _ _ _ _; (try dsimp only [InitBack]); (try refine ⟨rfl, ?_⟩); (try dsimp only)))
  exact trivial
noncomputable def tabOf (S : Spots) (n : Int) : Tab := ⟨n, (spAt S n).oct, (spAt S n).lo, (spAt S n).hi⟩
noncomputable def keyAt (S : Spots) (k : Nat) (n : Int) : Int := enc (if 0 < k then ((spAt S n).lo : Int) else 0, n)
/-- a level's tables: those of the spots that lie on it, in order -/
inductive LevOk (S : Spots) (k : Nat) (fs : List (Addr × Tab)) : Prop
  | mk (ns : List Int) (h1 : ns.Perm ((keysOf S).filter fun n => decide ((spAt S n).lv = (k : Int)))) (h2 : fs.map (·.2) = ns.map (tabOf S)) (h3 : ∀ (i : Nat) a b, ns[i]? = some a → ns[i + 1]? = some b → keyAt S k a ≤ keyAt S k b)
noncomputable def LvOk (S : Spots) (nl : Int) (lv : List (Addr × List (Addr × Tab))) : Prop := lv.length = nl.toNat ∧ ∀ (k : Nat) q, lv[k]? = some q → LevOk S k q.2
/-- an object that is no table's and no list -/
noncomputable def Odd (ob : Obj) : Prop := (∀ d, ob ≠ instObj 340 d) ∧ (∀ es, ob ≠ dictOf es 4)
theorem odd_list {its : Array Value} {k : Nat} : Odd (listOf its k) := ⟨fun d e => by have := congrArg Obj.cls e; simp at this, fun es e => by have := congrArg Obj.cls e; simp at this⟩
theorem odd_cell {ob : Obj} {v : Option Value} (h : ob.data = .cell v) : Odd ob := ⟨fun d e => by rw [e] at h; simp at h, fun es e => by rw [e] at h; simp at h⟩
theorem odd_ver {w : World} {nl sl : Int} {o fl T : Addr} {t : Nat → Tok} : Odd (verD w nl o fl T sl t) := ⟨fun d e => by have := congrArg Obj.cls e; simp at this, fun es e => by have := congrArg Obj.data e; simp at this⟩
theorem odd_range {ob : Obj} (h : ob.cls = .type "range_iterator") : Odd ob := ⟨fun d e => by rw [e] at h; simp at h, fun es e => by rw [e] at h; simp at h⟩
theorem cell_list {ob : Obj} {v : Option Value} (h : ob.data = .cell v) {its : Array Value} {k : Nat} : ob ≠ listOf its k := fun e => by rw [e] at h; simp at h
theorem MetaAt.but {w : World} {h₀ h : Heap} {L x l : Addr} {t : Tab} {nw nw' led : List (Addr × Obj)} {ob : Obj} (hm : MetaAt w nw x t) (N : News h₀ L h led) (hs : ∀ q ∈ nw, q ∈ led) (hl : (l, ob) ∈ led) (ho : Odd ob) (hk : ∀ q ∈ nw, @Ne Nat q.1 l → q ∈ nw') : MetaAt w nw' x t := by
  obtain ⟨h0, d, t1, t2, t3, t4, t5, t6, t7, t8, h1, h2⟩ := hm
  refine ⟨h0, d, t1, t2, t3, t4, t5, t6, t7, t8, hk _ h1 ?_, hk _ h2 ?_⟩
  · rintro rfl
    exact ho.1 _ (led_eq N hl (hs _ h1))
  · rintro rfl
    exact ho.2 _ (led_eq N hl (hs _ h2))
theorem FilesAt.but {w : World} {h₀ h : Heap} {L x l : Addr} {fs : List (Addr × Tab)} {nw nw' led : List (Addr × Obj)} {ob : Obj} (hm : FilesAt w nw x fs) (hx : @Ne Nat x l) (N : News h₀ L h led) (hs : ∀ q ∈ nw, q ∈ led) (hl : (l, ob) ∈ led) (ho : Odd ob) (hk : ∀ q ∈ nw, @Ne Nat q.1 l → q ∈ nw') : FilesAt w nw' x fs :=
  let ⟨kk, h1, h2⟩ := hm; ⟨kk, hk _ h1 hx, fun p hp => (h2 p hp).but N hs hl ho hk⟩
theorem TupsAt.mono {led led' : List (Addr × Obj)} {tl : TL} (h : TupsAt led tl) (hs : ∀ p ∈ led, p ∈ led') : TupsAt led' tl := fun q hq => let ⟨t1, t2, e⟩ := h q hq; ⟨t1, t2, hs _ e⟩
theorem rg23_1 : True := by
  k_with "call builtin:sorted" => (k_dflt (refine' sort_tups (by k_asm) (by k_asm) (by k_mem) (by exact TupsAt.mono (by assumption) (by intro q hq; (repeat (first | exact hq | refine List.mem_cons_of_mem _ ?_)); done)) (by assumption) (by assumption) ?_; intro _ _ _ _ _ _ _ l1q9 _ _; (try k_lt l1q9); (try k_sweep); (revert l1q9; intro _)))
  exact trivial
theorem nodup_at {α : Type} {l : List α} (h : l.Nodup) {i j : Nat} {a : α} (hi : l[i]? = some a) (hj : l[j]? = some a) : i = j := by
  obtain ⟨h1, e1⟩ := List.getElem?_eq_some_iff.mp hi
  obtain ⟨h2, e2⟩ := List.getElem?_eq_some_iff.mp hj
  rcases Nat.lt_trichotomy i j with hl | hl | hl
  · exact absurd (e1.trans e2.symm) (List.pairwise_iff_getElem.mp h i j h1 h2 hl)
  · exact hl
  · exact absurd (e2.trans e1.symm) (List.pairwise_iff_getElem.mp h j i h2 h1 hl)
theorem set_fst {lv : List (Addr × List (Addr × Tab))} {k : Nat} {q : Addr × List (Addr × Tab)} {fs : List (Addr × Tab)} (h : lv[k]? = some q) : (lv.set k (q.1, fs)).map (·.1) = lv.map (·.1) := by
  apply List.ext_getElem?
  intro j
  rw [List.getElem?_map, List.getElem?_map, List.getElem?_set]
  by_cases e : k = j
  · subst e
    obtain ⟨h1, h2⟩ := List.getElem?_eq_some_iff.mp h
    simp [h1, h2]
  · simp [e]
inductive JVer (w : World) (v : Addr) (S : Spots) (ls : List Addr) (c : Addr) (Bl : Led) (k : Nat) (m : Fm) (nw : Led) : Prop
  | mk (hm : Has m [(Str.ofString "version", .ref v)]) (lv : List (Addr × List (Addr × Tab))) (oC : Obj) (vC : Option Value) (h1 : lv.map (·.1) = ls) (h2 : (c, oC) ∈ nw) (h3 : oC.data = .cell vC) (h4 : ∀ q ∈ lv, FilesAt w nw q.1 q.2)
    (h5 : ∀ (j : Nat) q, lv[j]? = some q → (j < k → LevOk S j q.2) ∧ (k ≤ j → q.2 = [])) (h6 : ∀ p ∈ Bl, p ∈ nw)
inductive JRow (w : World) (l : Addr) (S : Spots) (ns : List Int) (led₃ : Led) (i : Nat) (nw : Led) : Prop
  | mk (fs : List (Addr × Tab)) (kk : Nat) (h1 : (l, listOf (refsOf fs) kk) ∈ nw) (h2 : ∀ p ∈ fs, MetaAt w nw p.1 p.2) (h3 : fs.map (·.2) = (ns.take i).map (tabOf S)) (h4 : ∀ p ∈ led₃, p ∈ nw)
inductive JRowI (w : World) (v l : Addr) (S : Spots) (ns : List Int) (led₃ : Led) (i : Nat) (m : Fm) (nw : Led) : Prop
  | mk (hm : Has m [(Str.ofString "version", .ref v)]) (h : JRow w l S ns led₃ i nw)
theorem spec_version {w : World} {A : Around} {h₀ : Heap} {L : Addr} {m : Str → Option Value} {news : List (Addr × Obj)} {s : Shared} {R : Result → Shared → Prop}
  {D o : Addr} {S : Spots} {nl : Int} {tn : Tok}
  (C : Cx w A h₀ L s.heap m news) (hroom : A.depth + 60 < 1000) (hS : SpotsAt w news D S) (ho : OrdAt w news o) (h3 : 3 ≤ nl ∧ nl ≤ 4) (hz : S.length ≤ 4) (hok : ∀ p ∈ S, 0 ≤ p.2.lv ∧ p.2.lv < nl ∧ p.2.lo ≤ p.2.hi ∧ p.2.hi < 6 ∧ 1 ≤ p.2.oct) (hk : ∀ p ∈ S, 0 ≤ p.1 ∧ p.1 < 1000)
  (ret : ∀ v d fl T t lv led h' tks, Fr h₀ L h' m → News h₀ L h' ((d, verD w nl o fl T (-1) t) :: led) → (∀ p ∈ led, p.1 ≠ d) → VerAt w led v d fl o lv → (∃ t1 t2, (T, tup2 0 1 t1 t2) ∈ led) → LvOk S nl lv → (∀ p ∈ news, p ∈ led) → (∀ p ∈ news, @Ne Nat p.1 fl) → (∀ q ∈ lv, ∀ p ∈ news, @Ne Nat p.1 q.1) → R (.ok (.ret (.ref v))) { s with heap := h', toks := tks }) :
  codeAny (model P w) A (.call (.ref 636) ⟨[.ref D, .int nl tn, .ref o], []⟩) R s := by
  obtain ⟨⟨A₀, base, env, outer, B, hA, hf, hke⟩, F, X, N, ⟨loose, mean, mg, mb, T'⟩, hh⟩ := C
  obtain ⟨lo, hnd, oD, kvs, hD, hdd, hks, hat⟩ := hS
  refine' code_defC (binds := [(Str.ofString "spots", .ref D), (Str.ofString "count", .int nl tn), (Str.ofString "order", .ref o)]) B F X N T' hA hf hke ?k6 ?k7 ?k8 ?k9 ?kB ?kD ?_ ?c2 ?c3 ?c4
  walk_at "mine enterC"
  k_steps
  rename_i gg LL hA1 tkA FG BG XG TG l1 oL oS dL dS hK9 v d hB1 l2 l3 fl T t ls kf led hC1 tkB hnd' hv hfl hT hlen hls hnod hsub hxf hD1 tkD FD ND hE1 tkC ra rb rc hr FC NC keep
  have dS' : oS.data = .cell (some (.ref D)) := dS
  have l2a : @LT.lt Nat _ (LL + 1 + 1) d := l2.1
  have l3' : @LT.lt Nat _ d v := l3
  obtain ⟨u1, u2, hT⟩ := hT
  clear FD ND
  obtain ⟨Bl, hBl⟩ : ∃ Bl : List (Addr × Obj), Bl = (d, verD w nl o fl T (-1) t) :: (v, instObj 466 d) :: (fl, listOf (ls.map Value.ref).toArray kf) :: (T, tup2 0 1 u1 u2) :: (LL + 1, oS) :: news := ⟨_, rfl⟩
  have hBled : ∀ p ∈ Bl, p ∈ (d, verD w nl o fl T (-1) t) :: led := fun p hp => by
    rw [hBl] at hp
    simp only [List.mem_cons] at hp ⊢
    rcases hp with h | h | h | h | h | h
    · exact .inl h
    · exact .inr (h ▸ hv)
    · exact .inr (h ▸ hfl)
    · exact .inr (h ▸ hT)
    · exact .inr (h ▸ hsub _ (List.mem_cons_of_mem _ (List.mem_cons_self ..)))
    · exact .inr (hsub _ (List.mem_cons_of_mem _ (List.mem_cons_of_mem _ h)))
  have hBls : ∀ p ∈ Bl, ∀ l ∈ ls, @Ne Nat p.1 l := fun p hp l hl => by
    obtain ⟨_, z1, z2, z3⟩ := hls l hl
    have z1' : @LT.lt Nat _ v l := z1
    have z2' : @LT.lt Nat _ fl l := z2
    rw [hBl] at hp
    simp only [List.mem_cons] at hp
    rcases hp with rfl | rfl | rfl | rfl | rfl | h
    · dsimp only; walk_at "mine om"
    · dsimp only; walk_at "mine om"
    · dsimp only; walk_at "mine om"
    · exact z3
    · dsimp only; walk_at "mine om"
    · have := lt_nat l1 h; walk_at "mine om"
  have hBc : ∀ p ∈ Bl, @Ne Nat p.1 (LL + 1 + 1) := fun p hp => by
    have hc := hsub _ (List.mem_cons_self ..)
    have hp0 := hBled p hp
    rw [hBl] at hp
    simp only [List.mem_cons] at hp
    rcases hp with rfl | rfl | rfl | rfl | rfl | h
    · dsimp only; walk_at "mine om"
    · dsimp only; walk_at "mine om"
    · intro e; exact cell_list dL (led_eq NC (List.mem_cons_of_mem _ hc) (by dsimp only at e; rw [← e]; exact hp0))
    · intro e
      have := led_eq NC (List.mem_cons_of_mem _ hc) (o' := tup2 0 1 u1 u2) (by dsimp only at e; rw [← e]; exact hp0)
      rw [this] at dL
      simp at dL
    · dsimp only; walk_at "mine om"
    · have := lt_nat l1 h; walk_at "mine om"
  have hDB : (D, oD) ∈ Bl := by rw [hBl]; simp [hD]
  have hSB : (LL + 1, oS) ∈ Bl := by rw [hBl]; simp
  have hnB : ∀ p ∈ news, p ∈ Bl := fun p hp => by rw [hBl]; simp [hp]
  refine for_range2 rfl nl.toNat hh (by k_asm) (by k_asm) hr (small1 (by walk_at "mine om") (by walk_at "mine om")) (rsz (by walk_at "mine om"))
    (JVer w v S ls (LL + 1 + 1) Bl)
    ⟨has1 rfl has0, ls.map (fun l => (l, [])), oL, _, by rw [List.map_map]; exact List.map_id ls, List.mem_cons_of_mem _ (hsub _ (List.mem_cons_self ..)), dL, ?_, ?_, hBled⟩ ?_ ?_
  · intro q hq
    obtain ⟨l, hl, rfl⟩ := List.mem_map.mp hq
    exact ⟨0, List.mem_cons_of_mem _ (hls l hl).1, fun p hp => by cases hp⟩
  · intro j q hj
    rw [List.getElem?_map] at hj
    obtain ⟨l, _, rfl⟩ := Option.map_eq_some_iff.mp hj
    exact ⟨fun h => by walk_at "mine om", fun _ => rfl⟩
  · intro I k tv m₁ nw led₁ own h tkn hk' hJ hsub₁ hnI hown hownI hI hnI' F₁ N₁
    refine hideG fun G9 hG9 => ?_
    obtain ⟨hmm, lv, oC, vC, hlv1, hC, dC, hfs, hlev, hB⟩ := hJ
    have F₁ := Fr.with _ F₁ hmm
    obtain ⟨rest, Nr, r1, r2, r3⟩ := led_split N₁ (hsub₁ _ hC)
    have hB' : ∀ p ∈ Bl, p ∈ rest := fun p hp => r2 p (hsub₁ _ (hB p hp)) (hBc p hp)
    have hne : ∀ q ∈ lv, @Ne Nat q.1 (LL + 1 + 1) := fun q hq e => by
      obtain ⟨kk, e1, _⟩ := hfs q hq
      exact cell_list dC (led_eq N₁ (hsub₁ _ hC) (by rw [← e]; exact hsub₁ _ e1))
    have hfs' : ∀ q ∈ lv, FilesAt w rest q.1 q.2 := fun q hq => (hfs q hq).but (hne q hq) N₁ hsub₁ (hsub₁ _ hC) (odd_cell dC) fun p hp hn => r2 p (hsub₁ _ hp) hn
    clear N₁
    have hDr := hB' _ hDB
    have hSr := hB' _ hSB
    refine hG9 ?_
    k_steps
    rename_i hX oX FX NX dX
    refine comp_tups hh (by k_asm) (by k_asm) (by k_mem) hdd lo (by have := congrArg List.length hks; simp [keysOf] at this; walk_at "mine om")
      (fun n => decide ((spAt S n).lv = (k : Int))) (fun n => if 0 < k then ((spAt S n).lo : Int) else 0) (by decide) (by rfl) (by rfl) ?_ ?_ ?_
    · intro C j n t s₃ m₃ led₃ E' hn hsub₃ hT₃
      refine hideG fun G9 hG9 => ?_
      obtain ⟨F₃, N₃, ns₃, at₃⟩ := hT₃
      rw [hks] at hn
      obtain ⟨a', t', e1', e2'⟩ := hat n _ (spAt_mem (List.mem_of_getElem? hn))
      have q1 := hsub₃ _ (List.mem_cons_of_mem _ (hB' _ (hnB _ e2')))
      have q2 := hsub₃ _ (List.mem_cons_of_mem _ hDr)
      have q3 := hsub₃ _ (List.mem_cons_of_mem _ hSr)
      have q4 := hsub₃ _ (List.mem_cons_self ..)
      refine hG9 ?_
      k_steps
      show decide ((spAt S n).lv = 0 + (k : Int)) = _
      exact decide_eq_decide.mpr (by walk_at "mine om")
    · intro C j n t s₃ m₃ led₃ E' hn hf₃ hsub₃ hT₃
      refine hideG fun G9 hG9 => ?_
      obtain ⟨F₃, N₃, ns₃, at₃⟩ := hT₃
      rw [hks] at hn
      obtain ⟨a', t', e1', e2'⟩ := hat n _ (spAt_mem (List.mem_of_getElem? hn))
      have q1 := hsub₃ _ (List.mem_cons_of_mem _ (hB' _ (hnB _ e2')))
      have q2 := hsub₃ _ (List.mem_cons_of_mem _ hDr)
      have q3 := hsub₃ _ (List.mem_cons_of_mem _ hSr)
      have q4 := hsub₃ _ (List.mem_cons_self ..)
      by_cases hk0 : 0 < k
      · refine hG9 ?_
        simp only [hk0, if_true]
        k_steps
        exact ⟨_, _, _, _, _, rfl, rfl, by k_asm, by k_asm, by assumption⟩
      · refine hG9 ?_
        simp only [hk0, if_false]
        k_steps
        exact ⟨_, _, _, _, _, rfl, rfl, by k_asm, by k_asm, by assumption⟩
    · intro Dc tl kc hY tkY led₂ FY NY hDc hsub₂ htups htl
      have hB2 : ∀ p ∈ Bl, p ∈ led₂ := fun p hp => hsub₂ _ (List.mem_cons_of_mem _ (hB' p hp))
      have h4 : tl.length ≤ 4 := by
        have e1 := congrArg List.length htl
        simp only [List.length_map] at e1
        have e2 := List.length_filter_le (fun n => decide ((spAt S n).lv = (k : Int))) (kvs.map (·.1))
        rw [hks] at e2
        simp only [keysOf, List.length_map] at e2
        rw [hks] at e1
        simp only [keysOf] at e1
        walk_at "mine om"
      have hmem : ∀ q ∈ tl, q.2.2 ∈ (keysOf S).filter (fun n => decide ((spAt S n).lv = (k : Int))) ∧ q.2.1 = (if 0 < k then ((spAt S q.2.2).lo : Int) else 0) := fun q hq => by
        have e1 : q.2 ∈ tl.map (·.2) := List.mem_map_of_mem hq
        rw [htl, hks] at e1
        obtain ⟨n, hn, e2⟩ := List.mem_map.mp e1
        rw [← e2]
        exact ⟨hn, rfl⟩
      have hbd : ∀ q ∈ tl, 0 ≤ q.2.2 ∧ q.2.2 < 1000 := fun q hq => hk _ (spAt_mem (List.mem_filter.mp (hmem q hq).1).1)
      have hkl : k < lv.length := by
        have := congrArg List.length hlv1
        simp only [List.length_map] at this
        walk_at "mine om"
      obtain ⟨q, hq⟩ : ∃ q, lv[k]? = some q := ⟨_, List.getElem?_eq_getElem hkl⟩
      have hqm := List.mem_of_getElem? hq
      have hq0 := (hlev k q hq).2 (Nat.le_refl _)
      have hql : q.1 ∈ ls := by rw [← hlv1]; exact List.mem_map_of_mem hqm
      have e0 : (0 + (k : Int)).toNat = k := by walk_at "mine om"
      have hit : ((ls.map Value.ref).toArray)[(0 + (k : Int)).toNat]? = some (.ref q.1) := by
        rw [e0, ← hlv1, List.map_map, List.getElem?_toArray, List.getElem?_map, hq]
        rfl
      k_steps
      rename_i Ds tl' eS hP tkP hp' hs' lD hQ tkQ FQ NQ
      obtain ⟨led₃, hled₃⟩ : ∃ led₃, led₃ = (Ds, listOf (tl'.map fun q => Value.ref q.1).toArray eS) :: (Dc, listOf (tl.map fun q => Value.ref q.1).toArray kc) :: led₂ := ⟨_, rfl⟩
      have NQ' : News gg LL hQ led₃ := by rw [hled₃]; exact NQ
      have h23 : ∀ p ∈ led₂, p ∈ led₃ := fun p hp => by rw [hled₃]; simp [hp]
      have hDs : (Ds, listOf (tl'.map fun q => Value.ref q.1).toArray eS) ∈ led₃ := by rw [hled₃]; simp
      obtain ⟨kk, hlk, _⟩ := hfs' q hqm
      rw [hq0] at hlk
      have hlk3 := h23 _ (hsub₂ _ (List.mem_cons_of_mem _ hlk))
      have lDq : @LT.lt Nat _ q.1 Ds := allLt_all lD.2 _ (hsub₂ _ (List.mem_cons_of_mem _ hlk))
      have hB3 : ∀ p ∈ Bl, p ∈ offL q.1 led₃ := fun p hp => mem_offL.mpr ⟨h23 _ (hB2 p hp), hBls p hp q.1 hql⟩
      have hX3 : (LL + 1 + 1, oX) ∈ offL q.1 led₃ := mem_offL.mpr ⟨h23 _ (hsub₂ _ (List.mem_cons_self ..)), Ne.symm (hne q hqm)⟩
      have hT3 : TupsAt (offL q.1 led₃) tl' := fun e he => by
        obtain ⟨w1, w2, hm⟩ := htups e (hp'.mem_iff.mp he)
        refine ⟨w1, w2, mem_offL.mpr ⟨h23 _ hm, fun e2 => ?_⟩⟩
        exact led_cls NQ' (h23 _ hm) (by rw [show e.1 = q.1 from e2]; exact hlk3) (by simp)
      have hF3 : ∀ (j : Nat) q', lv[j]? = some q' → j ≠ k → FilesAt w (offL q.1 led₃) q'.1 q'.2 := fun j q' hj hjk => by
        have hne' : @Ne Nat q'.1 q.1 := fun e => by
          have hnd1 : (lv.map (·.1)).Nodup := by rw [hlv1]; exact hnod
          exact hjk (nodup_at hnd1 (by rw [List.getElem?_map, hj]; rfl) (by rw [List.getElem?_map, hq]; exact congrArg some e.symm))
        exact ((hfs' q' (List.mem_of_getElem? hj)).mono fun p hp => h23 _ (hsub₂ _ (List.mem_cons_of_mem _ hp))).but hne' NQ' (fun p hp => hp) hlk3 odd_list fun p hp hn => mem_offL.mpr ⟨hp, hn⟩
      have hso : ∀ p ∈ own, p ∈ offL q.1 led₃ := fun p hp => by
        have e : p.1 = I := hownI p hp
        have hIq : @Ne Nat q.1 I := by obtain ⟨z, hz1, _⟩ := hfs q hqm; exact hnI _ hz1
        have hIc : @Ne Nat I (LL + 1 + 1) := Ne.symm (hnI _ hC)
        exact mem_offL.mpr ⟨h23 _ (hsub₂ _ (List.mem_cons_of_mem _ (r2 p (hown p hp) (by rw [e]; exact hIc)))), by rw [e]; exact Ne.symm hIq⟩
      clear NQ
      refine for_listP2 rfl hh (by k_asm) NQ' hDs (fun i v hv => by obtain ⟨q, _, e⟩ := refs_of hv; exact ⟨_, e⟩)
        (JRowI w v q.1 S (tl'.map fun e => e.2.2) (offL q.1 led₃))
        ⟨has1 rfl has0, [], kk, hlk3, (fun p hp => by cases hp), rfl, fun p hp => (mem_offL.mp hp).1⟩ ?_ ?_
      · intro I₂ i v₂ m₂ nw₂ led₄ own₂ h₂ tk₂ hv₂ hJ₂ hsub₄ hnI₂ hown₂ hownI₂ hll₂ hI₂' hnI₂' F₂ N₂
        refine hideG fun G9 hG9 => ?_
        obtain ⟨e, he, rfl⟩ := refs_of hv₂
        obtain ⟨hmm2, fs_, kk_, hlk4, hmt, hfm, hO⟩ := hJ₂
        have F₂ := Fr.with _ F₂ hmm2
        obtain ⟨rest₄, N₄, y1, y2, y3⟩ := led_split N₂ (hsub₄ _ hlk4)
        have hO4 : ∀ p ∈ offL q.1 led₃, p ∈ rest₄ := fun p hp => y2 p (hsub₄ _ (hO p hp)) (mem_offL.mp hp).2
        have hem := List.mem_of_getElem? he
        obtain ⟨w1, w2, hTe⟩ := hT3 e hem
        have hTe4 := hO4 _ hTe
        have hen := List.mem_filter.mp (hmem e (hp'.mem_iff.mp hem)).1
        have heS := spAt_mem hen.1
        obtain ⟨a', t', e1', e2'⟩ := hat e.2.2 _ heS
        have g1 := hO4 _ (hB3 _ (hnB _ e2'))
        have g2 := hO4 _ (hB3 _ hDB)
        have g3 := hO4 _ (hB3 _ hSB)
        have g4 := hO4 _ hX3
        have g5 : (d, verD w nl o fl T (-1) t) ∈ rest₄ := hO4 _ (hB3 _ (by rw [hBl]; simp))
        have g6 : (v, instObj 466 d) ∈ rest₄ := hO4 _ (hB3 _ (by rw [hBl]; simp))
        have g7 : (fl, listOf (ls.map Value.ref).toArray kf) ∈ rest₄ := hO4 _ (hB3 _ (by rw [hBl]; simp))
        unfold verD at g5
        obtain ⟨ok1, ok2, ok3, ok4, ok5⟩ := hok _ heS
        dsimp only at ok1 ok2 ok3 ok4 ok5
        have h6a : (spAt S e.2.2).lo < 6 := by walk_at "mine om"
        have hsz : (refsOf fs_).size ≤ sizeLine := by
          have e1 := congrArg List.length hfm
          have e2 := hp'.length_eq
          simp only [List.length_map, List.length_take] at e1
          rw [sizeLine_eq, refs_size]
          walk_at "mine om"
        have hIq2 : @Ne Nat q.1 I₂ := hnI₂ _ hlk4
        have fin : ∀ (x' d' : Addr) (t1 t2 t3 t4 t5 t6 t7 t8 : Tok), (@LT.lt Nat _ q.1 d' ∧ AllLt d' rest₄) → @LT.lt Nat _ d' x' →
            JRow w q.1 S (tl'.map fun e => e.2.2) (offL q.1 led₃) (i + 1) (offL I₂ ((x', instObj 340 d') :: (d', dictOf [fe w "number" t1 (.int e.2.2 t2), fe w "size" t3 (.int (spAt S e.2.2).oct t4), fe w "smallest" t5 (.bytes (ik (spAt S e.2.2).lo (UInt8.ofNat (Int.toNat 9))) t6), fe w "largest" t7 (.bytes (ik (spAt S e.2.2).hi (UInt8.ofNat (Int.toNat 1))) t8)] 4) :: (q.1, listOf ((refsOf fs_).push (.ref x')) (kk_ + 1)) :: rest₄)) := by
          intro x' d' t1 t2 t3 t4 t5 t6 t7 t8 l1' l2'
          obtain ⟨oI, hoI, _⟩ := hI₂'
          have hI4 := y2 _ hoI (Ne.symm hIq2)
          have lI : @LT.lt Nat _ I₂ d' := allLt_all l1'.2 _ hI4
          refine ⟨fs_ ++ [(x', tabOf S e.2.2)], kk_ + 1, ?_, ?_, ?_, ?_⟩
          · rw [← refs_push (p := (x', tabOf S e.2.2))]
            exact mem_offL.mpr ⟨by simp, hIq2⟩
          · intro p hp
            rcases List.mem_append.mp hp with hp | hp
            · exact (hmt p hp).but N₂ hsub₄ (hsub₄ _ hlk4) odd_list fun z hz hn => mem_offL.mpr ⟨by simp [y2 z (hsub₄ z hz) hn], hnI₂ z hz⟩
            · rw [List.mem_singleton.mp hp]
              refine ⟨⟨ok3, ok4⟩, d', t1, t2, t3, t4, t5, t6, t7, t8, mem_offL.mpr ⟨List.mem_cons_self .., ?_⟩, mem_offL.mpr ⟨List.mem_cons_of_mem _ (List.mem_cons_self ..), ?_⟩⟩
              · exact Nat.ne_of_gt (Nat.lt_trans lI l2')
              · exact Nat.ne_of_gt lI
          · rw [List.map_append, hfm, List.take_add_one, List.getElem?_map, he, List.map_append]
            rfl
          · exact fun p hp => mem_offL.mpr ⟨by simp [hO4 p hp], hnI₂ _ (hO p hp)⟩
        have hown4 : ∀ p ∈ own₂, p ∈ rest₄ := fun p hp => y2 p (hown₂ p hp) (by
          rcases hownI₂ p hp with e | e
          · rw [e]; exact Ne.symm hIq2
          · rw [e]; exact Nat.ne_of_gt lDq)
        refine hG9 ?_
        k_steps
        exact ⟨_, _, _, _, rfl, by k_asm, by k_asm, fun p hp => by simp [hown4 p hp], has1 rfl has0, fin _ _ _ _ _ _ _ _ _ _ (by assumption) (by assumption)⟩
      · intro h' tk m' news' F' N' hJ'
        refine hideG fun G9 hG9 => ?_
        obtain ⟨hmm2, fs, kk, hlk5, hmt, hfm, hO⟩ := hJ'
        obtain ⟨oI, hoI, hoc⟩ := hI
        have hIc : @Ne Nat I (LL + 1 + 1) := Ne.symm (hnI _ hC)
        have hIq : @Ne Nat q.1 I := by obtain ⟨z, hz1, _⟩ := hfs q hqm; exact hnI _ hz1
        have hI5 : (I, oI) ∈ news' := hO _ (mem_offL.mpr ⟨h23 _ (hsub₂ _ (List.mem_cons_of_mem _ (r2 _ hoI hIc))), Ne.symm hIq⟩)
        have htl2 : (tl.map fun e => e.2.2) = (keysOf S).filter fun n => decide ((spAt S n).lv = (k : Int)) := by
          have := congrArg (List.map Prod.snd) htl
          rw [List.map_map, List.map_map, hks] at this
          exact this.trans (List.map_id _)
        have hlen5 : (tl'.map fun e => e.2.2).length = tl'.length := by simp
        have htl3 : ((tl'.map fun q => Value.ref q.1).toArray).size = tl'.length := by simp
        rw [htl3, List.take_of_length_le (by rw [hlen5]; exact Nat.le_refl _)] at hfm
        have hlevk : LevOk S k fs := by
          refine ⟨tl'.map fun e => e.2.2, htl2 ▸ hp'.map _, hfm, fun i a b ha hb => ?_⟩
          rw [List.getElem?_map] at ha hb
          obtain ⟨x, hx, rfl⟩ := Option.map_eq_some_iff.mp ha
          obtain ⟨y, hy, rfl⟩ := Option.map_eq_some_iff.mp hb
          have h1 := hs' i x y hx hy
          have h2 := (hmem x (hp'.mem_iff.mp (List.mem_of_getElem? hx))).2
          have h3 := (hmem y (hp'.mem_iff.mp (List.mem_of_getElem? hy))).2
          unfold keyAt
          rw [← h2, ← h3]
          exact h1
        refine hG9 ?_
        k_steps
        refine ⟨_, _, _, _, rfl, by k_asm, by k_asm, fun p hp => hO p (hso p hp), hmm2, lv.set k (q.1, fs), oX, _, by rw [set_fst hq]; exact hlv1, mem_offL.mpr ⟨hO _ hX3, Ne.symm hIc⟩, dX, ?_, ?_, fun p hp => mem_offL.mpr ⟨hO _ (hB3 p hp), hnI _ (hB p hp)⟩⟩
        · intro q' hq'
          obtain ⟨j, hj⟩ := List.getElem?_of_mem hq'
          rw [List.getElem?_set] at hj
          by_cases e : k = j
          · subst e
            rw [if_pos rfl, if_pos hkl] at hj
            cases hj
            exact FilesAt.but (nw := news') ⟨kk, hlk5, hmt⟩ hIq N' (fun p hp => hp) hI5 (odd_range hoc) fun z hz hn => mem_offL.mpr ⟨hz, hn⟩
          · rw [if_neg e] at hj
            have hne2 : @Ne Nat q'.1 I := by obtain ⟨z, hz1, _⟩ := hfs q' (List.mem_of_getElem? hj); exact hnI _ hz1
            exact FilesAt.but (nw := news') ((hF3 j q' hj (Ne.symm e)).mono hO) hne2 N' (fun p hp => hp) hI5 (odd_range hoc) fun z hz hn => mem_offL.mpr ⟨hz, hn⟩
        · intro j q' hj
          rw [List.getElem?_set] at hj
          by_cases e : k = j
          · subst e
            rw [if_pos rfl, if_pos hkl] at hj
            cases hj
            exact ⟨fun _ => hlevk, fun h => by walk_at "mine om"⟩
          · rw [if_neg e] at hj
            have := hlev j q' hj
            exact ⟨fun h => this.1 (by walk_at "mine om"), fun h => this.2 (by walk_at "mine om")⟩
  · intro h' tk m' news' F' N' hJ
    refine hideG fun G9 hG9 => ?_
    obtain ⟨hmm, lv, oC, vC, hlv1, hC, dC, hfs, hlev, hB⟩ := hJ
    have F' := Fr.with _ F' hmm
    have hdB : (d, verD w nl o fl T (-1) t) ∈ news' := hB _ (by rw [hBl]; simp)
    obtain ⟨rest, N₃, r1, r2, r3⟩ := led_split N' hdB
    have hcls : ∀ (x : Addr) (its : Array Value) (k : Nat), (x, listOf its k) ∈ news' → @Ne Nat x d := fun x its k hx e => by
      have e' : x = d := e
      rw [e'] at hx
      exact led_cls N' hx hdB (by simp)
    have hfl5 : (fl, listOf (ls.map Value.ref).toArray kf) ∈ news' := hB _ (by rw [hBl]; simp)
    have hv5 : (v, instObj 466 d) ∈ rest := r2 _ (hB _ (by rw [hBl]; simp)) (Nat.ne_of_gt l3')
    have hT5 : (T, tup2 0 1 u1 u2) ∈ rest := r2 _ (hB _ (by rw [hBl]; simp)) (hnd' _ hT)
    have hn5 : ∀ p ∈ news, p ∈ rest := fun p hp => r2 p (hB _ (hnB _ hp)) (Nat.ne_of_lt (by have := lt_nat l1 hp; walk_at "mine om"))
    have hlv : VerAt w rest v d fl o lv := by
      refine ⟨hv5, ⟨kf, ?_, fun q hq => ?_⟩, ho.mono hn5⟩
      · have e : (lv.map fun q => Value.ref q.1) = ls.map Value.ref := by rw [← hlv1, List.map_map]; rfl
        rw [e]
        exact r2 _ hfl5 (hcls _ _ _ hfl5)
      · have hne : @Ne Nat q.1 d := by obtain ⟨z, hz, _⟩ := hfs q hq; exact hcls _ _ _ hz
        exact (hfs q hq).but hne N' (fun p hp => hp) hdB odd_ver fun p hp hn => r2 p hp hn
    have hlok : LvOk S nl lv := by
      have e := congrArg List.length hlv1
      simp only [List.length_map] at e
      exact ⟨by walk_at "mine om", fun k q hk => (hlev k q hk).1 (by have := (List.getElem?_eq_some_iff.mp hk).1; walk_at "mine om")⟩
    clear N'
    refine hG9 ?_
    k_steps
    rename News h₀ L _ _ => Nz
    have hxf' : @LT.lt Nat _ v fl := hxf
    refine ret v d fl T t lv rest _ _ (by k_asm) Nz r1 hlv ⟨u1, u2, hT5⟩ hlok hn5 (fun p hp => ?_) (fun q hq p hp => ?_)
    · have := lt_nat l1 hp
      walk_at "mine om"
    · have h1 := lt_nat l1 hp
      have h2 : @LT.lt Nat _ v q.1 := (hls q.1 (by rw [← hlv1]; exact List.mem_map_of_mem hq)).2.1
      walk_at "mine om"
-- spots
theorem stored_new {kvs : List (Int × Value)} {n : Int} {v : Value} (h : n ∉ kvs.map (·.1)) : stored kvs n v = kvs ++ [(n, v)] := by
  unfold stored
  have e : kvs.any (fun kv => decide (kv.1 = n)) = false := by
    rw [List.any_eq_false]
    intro x hx
    simp only [decide_eq_true_eq]
    intro e
    exact h (e ▸ List.mem_map_of_mem hx)
  rw [e]
  rfl
theorem valueAt_app {kvs : List (Int × Value)} {n n' : Int} {v : Value} (h : n ∉ kvs.map (·.1)) : valueAt (kvs ++ [(n, v)]) n' = if n' = n then some v else valueAt kvs n' := by
  unfold valueAt
  rw [List.find?_append]
  by_cases e : n' = n
  · subst e
    have e2 : kvs.find? (fun kv => decide (kv.1 = n')) = none := by
      rw [List.find?_eq_none]
      intro x hx
      simp only [decide_eq_true_eq]
      intro e
      exact h (e ▸ List.mem_map_of_mem hx)
    rw [e2]
    simp
  · have e2 : ¬ n = n' := fun h => e h.symm
    rw [if_neg e]
    cases kvs.find? (fun kv => decide (kv.1 = n')) <;> simp [e2]
/-- the spots' tuples, apart from the dict's object -/
noncomputable def SpotsIn (led : List (Addr × Obj)) (kvs : List (Int × Value)) (S : Spots) : Prop := kvs.map (·.1) = keysOf S ∧ ∀ n p, (n, p) ∈ S → ∃ a t, valueAt kvs n = some (.ref a) ∧ (a, tup4 p t) ∈ led
theorem SpotsIn.mono {led led' : List (Addr × Obj)} {kvs : List (Int × Value)} {S : Spots} (h : SpotsIn led kvs S) (hs : ∀ p ∈ led, p ∈ led') : SpotsIn led' kvs S :=
  ⟨h.1, fun n p hp => let ⟨a, t, e1, e2⟩ := h.2 n p hp; ⟨a, t, e1, hs _ e2⟩⟩
/-- an object that is no tuple -/
noncomputable def NoTup (ob : Obj) : Prop := ob.cls ≠ .type "tuple" ∨ ∃ v, ob.data = .cell v
theorem notup_ne {ob : Obj} (h : NoTup ob) {p : Sp} {t : Nat → Tok} : ob ≠ tup4 p t := fun e => by
  subst e
  rcases h with h | ⟨v, h⟩
  · exact h rfl
  · cases h
theorem SpotsIn.but {h₀ h : Heap} {L l : Addr} {led led' : List (Addr × Obj)} {kvs : List (Int × Value)} {S : Spots} {ob : Obj} (hs : SpotsIn led kvs S) (N : News h₀ L h led) (hl : (l, ob) ∈ led) (ho : NoTup ob) (hk : ∀ q ∈ led, @Ne Nat q.1 l → q ∈ led') : SpotsIn led' kvs S :=
  ⟨hs.1, fun n p hp => by
    obtain ⟨a, t, e1, e2⟩ := hs.2 n p hp
    refine ⟨a, t, e1, hk _ e2 ?_⟩
    rintro rfl
    exact notup_ne ho (led_eq N hl e2)⟩
theorem isDict_cls {prog : Program} {w : World} {o : Obj} {kvs : List (Int × Value)} (h : o.IsDictOf (PySem.intKind prog w) kvs) : o.cls = .type "dict" := let ⟨_, _, r⟩ := h; r.1.1
theorem notup_dict {prog : Program} {w : World} {o : Obj} {kvs : List (Int × Value)} (h : o.IsDictOf (PySem.intKind prog w) kvs) : NoTup o := .inl (by rw [isDict_cls h]; simp)
theorem notup_list {its : Array Value} {k : Nat} : NoTup (listOf its k) := .inl (by simp)
theorem notup_cell {o : Obj} {v : Option Value} (h : o.data = .cell v) : NoTup o := .inr ⟨v, h⟩
theorem SpotsAt.out {w : World} {led : List (Addr × Obj)} {D : Addr} {S : Spots} (h : SpotsAt w led D S) : (D == sysModules) = false ∧ (keysOf S).Nodup ∧ ∃ (o : Obj) (kvs : List (Int × Value)), (D, o) ∈ led ∧ o.IsDictOf (PySem.intKind P w) kvs ∧ SpotsIn led kvs S :=
  let ⟨h1, h2, o, kvs, h3, h4, h5, h6⟩ := h; ⟨h1, h2, o, kvs, h3, h4, h5, h6⟩
theorem SpotsAt.of {w : World} {led : List (Addr × Obj)} {D : Addr} {S : Spots} {o : Obj} {kvs : List (Int × Value)} (h1 : (D == sysModules) = false) (h2 : (keysOf S).Nodup) (h3 : (D, o) ∈ led) (h4 : o.IsDictOf (PySem.intKind P w) kvs) (h5 : SpotsIn led kvs S) : SpotsAt w led D S := ⟨h1, h2, o, kvs, h3, h4, h5⟩
theorem spots_put {led led' : List (Addr × Obj)} {kvs : List (Int × Value)} {S : Spots} {n : Int} {p : Sp} {T : Addr} {t : Nat → Tok} (h : SpotsIn led kvs S) (hs : ∀ p ∈ led, p ∈ led') (hn : n ∉ keysOf S) (hT : (T, tup4 p t) ∈ led') : SpotsIn led' (stored kvs n (.ref T)) (S ++ [(n, p)]) := by
  have hn' : n ∉ kvs.map (·.1) := by rw [h.1]; exact hn
  rw [stored_new hn']
  refine ⟨by rw [List.map_append, h.1]; unfold keysOf; rw [List.map_append]; rfl, fun n' p' hp' => ?_⟩
  rw [valueAt_app hn']
  rcases List.mem_append.mp hp' with hp' | hp'
  · have : ¬ n' = n := fun e => hn (e ▸ keys_mem hp')
    rw [if_neg this]
    obtain ⟨a, t, e1, e2⟩ := h.2 n' p' hp'
    exact ⟨a, t, e1, hs _ e2⟩
  · have e := List.mem_singleton.mp hp'
    cases e
    rw [if_pos rfl]
    exact ⟨T, t, rfl, hT⟩
theorem keys_app {S : Spots} {n : Int} {p : Sp} (hd : (keysOf S).Nodup) (hn : n ∉ keysOf S) : (keysOf (S ++ [(n, p)])).Nodup := by
  unfold keysOf at *
  rw [List.map_append, List.nodup_append]
  refine ⟨hd, by simp, fun a ha b hb e => ?_⟩
  simp only [List.map_cons, List.map_nil, List.mem_singleton] at hb
  subst hb
  subst e
  exact hn ha
theorem MeetsAt.but {h₀ h : Heap} {L M l : Addr} {led led' : List (Addr × Obj)} {mt : List (Nat × Nat)} {ob : Obj} (hm : MeetsAt led M mt) (hM : @Ne Nat M l) (N : News h₀ L h led) (hl : (l, ob) ∈ led) (ho : NoTup ob) (hk : ∀ q ∈ led, @Ne Nat q.1 l → q ∈ led') : MeetsAt led' M mt := by
  obtain ⟨ml, k, h1, h2, h3⟩ := hm
  refine ⟨ml, k, h1, hk _ h2 hM, fun q hq => ?_⟩
  obtain ⟨t1, t2, e⟩ := h3 q hq
  refine ⟨t1, t2, hk _ e fun e2 => ?_⟩
  have e3 : q.1 = l := e2
  rw [e3] at e
  have := led_eq N hl e
  subst this
  rcases ho with h | ⟨v, h⟩
  · exact h rfl
  · cases h
-- build
/-- what the first loop builds -/
structure LI (nl : Int) (S : Spots) (mt : List (Nat × Nat)) : Prop where
  keys : keysOf S = (List.range S.length).map fun (j : Nat) => 10 + (j : Int)
  ok : ∀ p ∈ S, 0 ≤ p.2.lv ∧ p.2.lv < nl ∧ p.2.lo ≤ p.2.hi ∧ p.2.hi < 6 ∧ 1 ≤ p.2.oct
  mt1 : ∀ (i j : Nat), (i, j) ∈ mt → ∃ (a b : Int × Sp), S[i]? = some a ∧ S[j]? = some b ∧ a.2.lo ≤ b.2.hi ∧ b.2.lo ≤ a.2.hi ∧ a.2.lv ≤ max 0 (b.2.lv - 1)
  mt2 : ∀ (i j : Nat) (a b : Int × Sp), j < i → S[i]? = some a → S[j]? = some b → a.2.lo ≤ b.2.hi → b.2.lo ≤ a.2.hi → a.2.lv ≤ max 0 (b.2.lv - 1)
theorem LI.key_at {nl : Int} {S : Spots} {mt : List (Nat × Nat)} (h : LI nl S mt) {i : Nat} {a : Int × Sp} (ha : S[i]? = some a) : a.1 = 10 + (i : Int) := by
  have e : (keysOf S)[i]? = some a.1 := by unfold keysOf; rw [List.getElem?_map, ha]; rfl
  have hi := (List.getElem?_eq_some_iff.mp ha).1
  rw [h.keys, List.getElem?_map, List.getElem?_range hi] at e
  simpa using e.symm
theorem LI.nodup {nl : Int} {S : Spots} {mt : List (Nat × Nat)} (h : LI nl S mt) : (keysOf S).Nodup := by
  rw [h.keys, List.nodup_iff_pairwise_ne, List.pairwise_map]
  exact List.Pairwise.imp (fun {a b} hab => by omega) (List.pairwise_lt_range)
theorem LI.at_key {nl : Int} {S : Spots} {mt : List (Nat × Nat)} (h : LI nl S mt) {i : Nat} (hi : i < S.length) : ∃ p, S[i]? = some (10 + (i : Int), p) ∧ spAt S (10 + (i : Int)) = p := by
  have e := List.getElem?_eq_getElem hi
  have k := h.key_at e
  refine ⟨S[i].2, ?_, ?_⟩
  · rw [e]; congr 1; exact Prod.ext k rfl
  · refine spAt_of h.nodup ?_
    have : S[i] ∈ S := List.getElem_mem hi
    rw [show (10 + (i : Int), S[i].2) = S[i] from Prod.ext k.symm rfl]
    exact this
theorem LI.key_mem {nl : Int} {S : Spots} {mt : List (Nat × Nat)} (h : LI nl S mt) {i : Nat} (hi : i < S.length) : 10 + (i : Int) ∈ keysOf S := by
  rw [h.keys]; exact List.mem_map.mpr ⟨i, List.mem_range.mpr hi, rfl⟩
theorem LI.grow {nl : Int} {S : Spots} {mt mt' : List (Nat × Nat)} (h : LI nl S mt) {p : Sp} (hp : 0 ≤ p.lv ∧ p.lv < nl ∧ p.lo ≤ p.hi ∧ p.hi < 6 ∧ 1 ≤ p.oct)
    (hm : mt' = mt ++ ((List.range S.length).filter fun (j : Nat) => decide ((spAt S (10 + (j : Int))).lo ≤ p.hi ∧ p.lo ≤ (spAt S (10 + (j : Int))).hi)).map fun j => (S.length, j))
    (hl : ∀ j : Nat, j < S.length → (spAt S (10 + (j : Int))).lo ≤ p.hi → p.lo ≤ (spAt S (10 + (j : Int))).hi → p.lv ≤ max 0 ((spAt S (10 + (j : Int))).lv - 1)) : LI nl (S ++ [(10 + (S.length : Int), p)]) mt' := by
  have hlen : (S ++ [(10 + (S.length : Int), p)]).length = S.length + 1 := by simp
  have hlast : (S ++ [(10 + (S.length : Int), p)])[S.length]? = some (10 + (S.length : Int), p) := by simp
  have hold : ∀ {i : Nat} {a : Int × Sp}, (S ++ [(10 + (S.length : Int), p)])[i]? = some a → (i < S.length ∧ S[i]? = some a) ∨ (i = S.length ∧ a = (10 + (S.length : Int), p)) := by
    intro i a ha
    have hi := (List.getElem?_eq_some_iff.mp ha).1
    rw [hlen] at hi
    by_cases e : i < S.length
    · rw [List.getElem?_append_left e] at ha
      exact .inl ⟨e, ha⟩
    · have : i = S.length := by omega
      subst this
      rw [hlast] at ha
      exact .inr ⟨rfl, (Option.some.inj ha).symm⟩
  have hup : ∀ {i : Nat} {a : Int × Sp}, S[i]? = some a → (S ++ [(10 + (S.length : Int), p)])[i]? = some a := by
    intro i a ha
    rw [List.getElem?_append_left (List.getElem?_eq_some_iff.mp ha).1]
    exact ha
  refine ⟨?_, ?_, ?_, ?_⟩
  · rw [hlen, List.range_succ, List.map_append, ← h.keys]
    unfold keysOf
    rw [List.map_append]
    rfl
  · intro q hq
    rcases List.mem_append.mp hq with hq | hq
    · exact h.ok q hq
    · rw [List.mem_singleton.mp hq]; exact hp
  · intro i j hij
    rw [hm] at hij
    rcases List.mem_append.mp hij with hij | hij
    · obtain ⟨a, b, h1, h2, h3⟩ := h.mt1 i j hij
      exact ⟨a, b, hup h1, hup h2, h3⟩
    · obtain ⟨j', hj, e⟩ := List.mem_map.mp hij
      obtain ⟨hj1, hj2⟩ := List.mem_filter.mp hj
      cases e
      have hj3 := List.mem_range.mp hj1
      obtain ⟨b, hb, hb2⟩ := h.at_key hj3
      simp only [decide_eq_true_eq] at hj2
      have := hl j hj3 hj2.1 hj2.2
      rw [hb2] at this hj2
      exact ⟨_, _, hlast, hup hb, hj2.2, hj2.1, this⟩
  · intro i j a b hji ha hb h1 h2
    rcases hold ha with ⟨hi, ha⟩ | ⟨hi, ha⟩
    · rcases hold hb with ⟨hj, hb⟩ | ⟨hj, hb⟩
      · exact h.mt2 i j a b hji ha hb h1 h2
      · omega
    · rcases hold hb with ⟨hj, hb⟩ | ⟨hj, hb⟩
      · subst ha
        obtain ⟨b', hb', hb2⟩ := h.at_key hj
        rw [hb] at hb'
        cases hb'
        have := hl j hj (by rw [hb2]; exact h2) (by rw [hb2]; exact h1)
        rw [hb2] at this
        exact this
      · omega
noncomputable def bgOf (S : Spots) : List Sp := S.map (·.2)
theorem LI.start {nl : Int} {S : Spots} {mt : List (Nat × Nat)} (h : LI nl S mt) (h4 : S.length ≤ 4) : LInv nl (bgOf S) mt ((keysOf S).map fun n => nl - 1 - (spAt S n).lv).sum S (keysOf S) 0 ∧ MeetOk (bgOf S) mt := by
  have hbg : ∀ {i : Nat} {b : Sp}, (bgOf S)[i]? = some b → ∃ a, S[i]? = some a ∧ a.2 = b := by
    intro i b hb
    unfold bgOf at hb
    rw [List.getElem?_map] at hb
    exact Option.map_eq_some_iff.mp hb
  have hkey : ∀ {i : Nat} {n : Int}, (keysOf S)[i]? = some n → ∃ a, S[i]? = some a ∧ a.1 = n := by
    intro i n hn
    unfold keysOf at hn
    rw [List.getElem?_map] at hn
    exact Option.map_eq_some_iff.mp hn
  have hsp : ∀ {i : Nat} {a : Int × Sp}, S[i]? = some a → spAt S a.1 = a.2 := fun ha => spAt_of h.nodup (List.mem_of_getElem? ha)
  refine ⟨⟨h.nodup, h.ok, ?_, ?_, fun n hn => hn, fun n hn => hn, ?_, ?_, ?_, ?_, ?_⟩, ?_⟩
  · intro p hp
    obtain ⟨i, hi⟩ := List.getElem?_of_mem hp
    have := h.key_at hi
    have := (List.getElem?_eq_some_iff.mp hi).1
    omega
  · unfold keysOf bgOf; simp
  · intro i b n hb hn
    obtain ⟨a, ha, rfl⟩ := hbg hb
    obtain ⟨a', ha', rfl⟩ := hkey hn
    rw [ha] at ha'
    cases ha'
    rw [hsp ha]
    exact ⟨Int.le_refl _, Nat.le_refl _, Nat.le_refl _⟩
  · intro i j n m hij hn hm
    obtain ⟨a, b, ha, hb, h1, h2, h3⟩ := h.mt1 i j hij
    obtain ⟨a', ha', rfl⟩ := hkey hn
    obtain ⟨b', hb', rfl⟩ := hkey hm
    rw [ha] at ha'; cases ha'
    rw [hb] at hb'; cases hb'
    rw [hsp ha, hsp hb]
    have := h.ok _ (List.mem_of_getElem? hb)
    constructor
    · omega
    · intro e1 e2
      omega
  · intro p hp q hq h1 h2 h3 h4
    obtain ⟨i, hi⟩ := List.getElem?_of_mem hp
    obtain ⟨j, hj⟩ := List.getElem?_of_mem hq
    rcases Nat.lt_trichotomy i j with hl | hl | hl
    · have := h.mt2 j i q p hl hj hi h4 h3
      omega
    · subst hl
      rw [hi] at hj
      cases hj
      rfl
    · have := h.mt2 i j p q hl hi hj h3 h4
      omega
  · simp
  · unfold octs bgOf
    rw [List.map_map]
    rfl
  · intro i j hij
    obtain ⟨a, b, ha, hb, h1, h2, h3⟩ := h.mt1 i j hij
    exact ⟨a.2, b.2, by unfold bgOf; rw [List.getElem?_map, ha]; rfl, by unfold bgOf; rw [List.getElem?_map, hb]; rfl, h1, h2⟩
-- order
theorem nodup_flat {α : Type} {f : α → List Int} (c : Int → Nat) : ∀ (l : List α) (k0 : Nat), (∀ (i : Nat) (a : α), l[i]? = some a → (f a).Nodup ∧ ∀ n ∈ f a, c n = k0 + i) → (l.flatMap f).Nodup
  | [], _, _ => by simp
  | x :: r, k0, h => by
    have hx := h 0 x rfl
    have hr : ∀ (i : Nat) (a : α), r[i]? = some a → (f a).Nodup ∧ ∀ n ∈ f a, c n = (k0 + 1) + i := fun i a ha => by
      have := h (i + 1) a (by simpa using ha)
      exact ⟨this.1, fun n hn => by have := this.2 n hn; omega⟩
    rw [List.flatMap_cons, List.nodup_append]
    refine ⟨hx.1, nodup_flat c r (k0 + 1) hr, fun a ha b hb e => ?_⟩
    subst e
    obtain ⟨y, hy, hb⟩ := List.mem_flatMap.mp hb
    obtain ⟨i, hi⟩ := List.getElem?_of_mem hy
    have h1 := hx.2 a ha
    have h2 := (hr i y hi).2 a hb
    omega
theorem lev_nums {S : Spots} {k : Nat} {fs : List (Addr × Tab)} {ns : List Int} (he : fs.map (·.2) = ns.map (tabOf S)) : (fs.map fun p => p.2.num) = ns := by
  have := congrArg (List.map Tab.num) he
  rw [List.map_map, List.map_map] at this
  exact this.trans (List.map_id _)
theorem lv_nodup {S : Spots} {nl : Int} {lv : List (Addr × List (Addr × Tab))} (h : LvOk S nl lv) (hd : (keysOf S).Nodup) : (numsOf lv).Nodup := by
  refine nodup_flat (fun n => (spAt S n).lv.toNat) lv 0 fun i q hq => ?_
  obtain ⟨ns, hp, he, _⟩ := h.2 i q hq
  rw [lev_nums (k := i) he]
  refine ⟨hp.nodup_iff.mpr (List.Nodup.sublist (List.filter_sublist ..) hd), fun n hn => ?_⟩
  have := (List.mem_filter.mp (hp.mem_iff.mp hn)).2
  simp only [decide_eq_true_eq] at this
  omega
theorem lev_len {S : Spots} {k : Nat} {fs : List (Addr × Tab)} (h : LevOk S k fs) : fs.length ≤ S.length := by
  obtain ⟨ns, hp, he, _⟩ := h
  have h1 := congrArg List.length he
  have h2 := hp.length_eq
  have h3 := List.length_filter_le (fun n => decide ((spAt S n).lv = (k : Int))) (keysOf S)
  simp only [keysOf, List.length_map] at h1 h2 h3
  omega
theorem flat_len {α : Type} {f : α → List Int} {b : Nat} : ∀ (l : List α), (∀ a ∈ l, (f a).length ≤ b) → (l.flatMap f).length ≤ b * l.length
  | [], _ => by simp
  | x :: r, h => by
    have h1 := h x (List.mem_cons_self ..)
    have h2 := flat_len r fun a ha => h a (List.mem_cons_of_mem _ ha)
    rw [List.flatMap_cons, List.length_append, List.length_cons, Nat.mul_succ]
    omega
theorem lv_len {S : Spots} {nl : Int} {lv : List (Addr × List (Addr × Tab))} (h : LvOk S nl lv) (hz : S.length ≤ 4) (hn : nl ≤ 4) : (numsOf lv).length < 60 := by
  have h1 : (numsOf lv).length ≤ 4 * lv.length := flat_len lv fun q hq => by
    obtain ⟨i, hi⟩ := List.getElem?_of_mem hq
    have := lev_len (h.2 i q hi)
    rw [List.length_map]
    omega
  have := h.1
  omega
theorem lv_sorted {S : Spots} {nl : Int} {lv : List (Addr × List (Addr × Tab))} (h : LvOk S nl lv) (hd : (keysOf S).Nodup) (hk : ∀ p ∈ S, 0 ≤ p.1 ∧ p.1 < 1000) (hok : ∀ p ∈ S, p.2.lo ≤ p.2.hi)
    (hlap : ∀ p ∈ S, ∀ q ∈ S, 0 < p.2.lv → p.2.lv = q.2.lv → p.2.lo ≤ q.2.hi → q.2.lo ≤ p.2.hi → p.1 = q.1) : Sorted lv := by
  intro k q hq i a b ha hb
  obtain ⟨ns, hp, he, hs⟩ := h.2 k q hq
  have hat : ∀ {i : Nat} {a : Addr × Tab}, q.2[i]? = some a → ∃ n, ns[i]? = some n ∧ a.2 = tabOf S n := by
    intro i a ha
    have e : (q.2.map (·.2))[i]? = some a.2 := by rw [List.getElem?_map, ha]; rfl
    rw [he, List.getElem?_map] at e
    obtain ⟨n, h1, h2⟩ := Option.map_eq_some_iff.mp e
    exact ⟨n, h1, h2.symm⟩
  obtain ⟨n, hn, ea⟩ := hat ha
  obtain ⟨n', hn', eb⟩ := hat hb
  have hnd : ns.Nodup := hp.nodup_iff.mpr (List.Nodup.sublist (List.filter_sublist ..) hd)
  have hne := nodup_ne hnd (Nat.lt_succ_self i) hn hn'
  have hle := hs i n n' hn hn'
  obtain ⟨f1, f2⟩ := List.mem_filter.mp (hp.mem_iff.mp (List.mem_of_getElem? hn))
  obtain ⟨g1, g2⟩ := List.mem_filter.mp (hp.mem_iff.mp (List.mem_of_getElem? hn'))
  simp only [decide_eq_true_eq] at f2 g2
  have k1 := hk _ (spAt_mem f1)
  have k2 := hk _ (spAt_mem g1)
  have o1 := hok _ (spAt_mem f1)
  have o2 := hok _ (spAt_mem g1)
  dsimp only at k1 k2 o1 o2
  unfold keyAt enc at hle
  rw [ea, eb]
  refine ⟨fun e => ?_, fun e => ?_⟩
  · subst e
    simp only [Nat.lt_irrefl, if_false] at hle
    show n < n'
    omega
  · simp only [e, if_true] at hle
    show (spAt S n).hi < (spAt S n').lo
    refine Nat.not_le.mp fun hc => hne ?_
    exact hlap _ (spAt_mem f1) _ (spAt_mem g1) (by dsimp only; omega) (by dsimp only; omega) (by dsimp only; omega) (by dsimp only; omega)
-- lawend
/-- the law's def, as the written part of the heap holds it -/
noncomputable def LawAt (w : World) (body : List Stmt) (scope : Scope) : Prop := ∃ name qual params dV kV doc pm an cdv ct oc od osl, (KM w.params).lookup 653 = some ⟨oc, od, .func (fnOf name qual params body scope dV kV doc pm an cdv ct), osl⟩
theorem law_lit {w : World} {body body' : List Stmt} {scope scope' : Scope} {G : Prop} {name qual : Str} {params : Arguments} {dV kV doc pm : Value} {an : Option Addr} {cdv ct oc : Value} {od : Option Addr} {osl : Array (Option Value)} (hL : LawAt w body scope)
    (h2 : (KM w.params).lookup 653 = some ⟨oc, od, .func (fnOf name qual params body' scope' dV kV doc pm an cdv ct), osl⟩) (k : body = body' → scope = scope' → G) : G := by
  obtain ⟨_, _, _, _, _, _, _, _, _, _, _, _, _, hL⟩ := hL
  rw [h2] at hL
  have e := congrArg Obj.data (Option.some.inj hL)
  injection e with e
  exact k (by have := congrArg FuncData.body e; injection this with this; exact this.symm) (congrArg FuncData.scope e).symm
/-- the law's five captured names -/
inductive CellsAt (led : List (Addr × Obj)) (L : Addr) (nl : Int) (D : Addr) : Prop
  | mk (oc os ol ot on : Obj) (tc : Tok) (vl vt vn : Option Value) (c1 : (L + 1, oc) ∈ led) (e1 : oc.data = .cell (some (.int nl tc))) (c2 : (L + 1 + 1, os) ∈ led) (e2 : os.data = .cell (some (.ref D))) (c3 : (L + 1 + 1 + 1, ol) ∈ led) (e3 : ol.data = .cell vl) (c4 : (L + 1 + 1 + 1 + 1, ot) ∈ led) (e4 : ot.data = .cell vt) (c5 : (L + 1 + 1 + 1 + 1 + 1, on) ∈ led) (e5 : on.data = .cell vn)
/-- a captured cell, whatever it holds -/
inductive CellAt (led : List (Addr × Obj)) (c : Addr) : Prop
  | mk (oc : Obj) (vc : Option Value) (h : (c, oc) ∈ led) (d : oc.data = .cell vc)
inductive JEnd1 (l : List (Str × Value)) (c : Addr) (base : Led) (m : Fm) (led : Led) : Prop
  | mk (hm : Has m l) (hc : CellAt led c) (hn : ∀ p ∈ base, p ∈ led)
/-- the first tables' spots -/
inductive BegunAt (led : List (Addr × Obj)) (Bg : Addr) (bg : List Sp) : Prop
  | mk (bl : List (Addr × Sp)) (k : Nat) (h1 : bl.map (·.2) = bg) (h2 : (Bg, listOf ((bl.map fun q => Value.ref q.1).toArray) k) ∈ led) (h3 : ∀ q ∈ bl, ∃ t, (q.1, tup4 q.2 t) ∈ led)
theorem BegunAt.mono {led led' : List (Addr × Obj)} {Bg : Addr} {bg : List Sp} (h : BegunAt led Bg bg) (hs : ∀ p ∈ led, p ∈ led') : BegunAt led' Bg bg :=
  let ⟨bl, k, h1, h2, h3⟩ := h; ⟨bl, k, h1, hs _ h2, fun q hq => let ⟨t, e⟩ := h3 q hq; ⟨t, hs _ e⟩⟩
noncomputable def LawRet (h₀ : Heap) (L : Addr) (s : Shared) (Q : Flow → Shared → Prop) : Prop := ∀ h' tk m', Fr h₀ L h' m' → Q (.ret (.bool true)) { s with heap := h', toks := tk }
theorem perm_sum {l l' : List Int} (h : l.Perm l') : l.sum = l'.sum := by
  induction h with
  | nil => rfl
  | cons x _ ih => simp only [List.sum_cons]; walk_at "mine om"
  | swap x y l => simp only [List.sum_cons]; walk_at "mine om"
  | trans _ _ h1 h2 => walk_at "mine om"
/-- a sum over a level's tables is the sum over its spots -/
theorem lev_sum {S : Spots} {k : Nat} {fs : List (Addr × Tab)} (h : LevOk S k fs) : sizes fs = (((keysOf S).filter fun n => decide ((spAt S n).lv = (k : Int))).map fun n => (spAt S n).oct).sum := by
  obtain ⟨ns, hp, he, _⟩ := h
  have e : sizes fs = (ns.map fun n => (spAt S n).oct).sum := by
    unfold sizes
    have := congrArg (List.map Tab.size) he
    rw [List.map_map, List.map_map] at this
    exact congrArg List.sum this
  rw [e]
  exact perm_sum (hp.map _)
theorem rg27_0 : True := by
  k_with "call ref" => (k_dflt ((with_reducible show wpAny _ _ (call (Value.ref 463) _ _) _ _ _); refine wpAny_call ?_; refine' spec_check (by walk_at "mine cx") (by walk_at "mine room") (by walk_at "mine ver") (by k_mem) (by assumption) (by assumption) (by assumption) (by assumption) (by walk_at "mine om") (by walk_at "mine om") ?_; intro _ _ _ _; (try k_sweep); (try dsimp only)))
  exact trivial
theorem keep_cell {h₀ h : Heap} {L c x : Addr} {led : List (Addr × Obj)} {oc ob : Obj} {v : Option Value} (N : News h₀ L h led) (hc : (c, oc) ∈ led) (hd : oc.data = .cell v) (hx : (x, ob) ∈ led) (hn : ∀ v, ob.data ≠ .cell v) : (x, ob) ∈ offL c led :=
  mem_offL.mpr ⟨hx, by rintro rfl; rw [led_eq N hc hx] at hd; exact hn _ hd⟩
theorem BegunAt.but {h₀ h : Heap} {L c Bg : Addr} {led : List (Addr × Obj)} {bg : List Sp} {oc : Obj} {v : Option Value} (hb : BegunAt led Bg bg) (N : News h₀ L h led) (hc : (c, oc) ∈ led) (hd : oc.data = .cell v) : BegunAt (offL c led) Bg bg :=
  let ⟨bl, k, h1, h2, h3⟩ := hb; ⟨bl, k, h1, keep_cell N hc hd h2 (fun _ e => by simp at e), fun q hq => let ⟨t, e⟩ := h3 q hq; ⟨t, keep_cell N hc hd e (fun _ e => by simp at e)⟩⟩
theorem dict_nocell {prog : Program} {w : World} {o : Obj} {kvs : List (Int × Value)} (h : o.IsDictOf (PySem.intKind prog w) kvs) (v : Option Value) : o.data ≠ .cell v := fun e => by obtain ⟨es, ep, _, hd, _⟩ := h; rw [hd] at e; simp at e
theorem pow_own {prog : Program} {w : World} {A : Around} {E : Value → Shared → Prop} {s : Shared} {a n : Int} {t u : Tok} {Q : Value → Shared → Prop} (ha : 1 ≤ a ∧ a ≤ 100) (hn : 0 ≤ n ∧ n ≤ 10) (h : ∀ t' k, Q (.int (a ^ n.toNat) t') { s with toks := k }) : wpAny (model prog w) A (binaryOp .Pow (.int a t) (.int n u)) Q E s := by
  refine PyProof.Rows.pow_int hn.1 ?_ (h _ _)
  have h1 : Builtin.Int.intBits a ≤ 64 := intBits_le_64 (by walk_at "mine om") (by walk_at "mine om")
  have h2 : (Builtin.Int.intBits a : Int) * n ≤ 64 * n := Int.mul_le_mul_of_nonneg_right (by walk_at "mine om") hn.1
  walk_at "mine om"
theorem rg27_1 : True := by
  k_with "binaryOp Pow int int" => (k_dflt (refine' pow_own (by walk_at "mine om") (by walk_at "mine om") ?_; intro _ _))
  exact trivial
theorem len_B {prog : Program} {w : World} {A : Around} {E : Value → Shared → Prop} {s : Shared} {h₀ : Heap} {L l : Addr} {news : List (Addr × Obj)} {bl : List (Addr × Sp)} {k : Nat} {Q : Value → Shared → Prop}
    (N : News h₀ L s.heap news) (hl : (l, listOf ((bl.map fun q => Value.ref q.1).toArray) k) ∈ news) (hz : bl.length < 1000) (h : ∀ t tk, Q (.int bl.length t) { s with toks := tk }) :
    wpAny (model prog w) A (call (.builtin "len") [.ref l]) Q E s :=
  len_L N hl (by simp; walk_at "mine om") (by simpa using h)
theorem rg27_2 : True := by
  k_with "call builtin:len" => (k_dflt ((with_reducible show wpAny _ _ (call (Value.builtin "len") [Value.ref _]) _ _ _); (first | (refine' len_F (by k_asm) (by k_mem) (by first | assumption | walk_at "mine om") ?_) | (refine' len_V (by k_asm) (by k_mem) (by first | assumption | walk_at "mine om") ?_) | (refine' len_B (by k_asm) (by k_mem) (by first | assumption | walk_at "mine om") ?_) | (refine' len_I (by k_asm) (by k_mem) (by assumption) (by first | assumption | walk_at "mine om") ?_)); intro _ _))
  exact trivial
/-- y is the octets of the spot at v -/
noncomputable def OctOf (bl : List (Addr × Sp)) (v y : Value) : Prop := ∀ q ∈ bl, v = Value.ref q.1 → ∃ t, y = .int q.2.oct t
theorem begun_ints {bl : List (Addr × Sp)} : ∀ {bl' : List (Addr × Sp)} {ys : List Value}, (∀ q ∈ bl', q ∈ bl) → Paired (OctOf bl) (bl'.map fun q => Value.ref q.1) ys → IntsAre ys (bl'.map fun q => q.2.oct)
  | [], _, _, h => by cases h; exact .nil
  | q :: r, _, hs, h => by
    cases h with
    | cons h1 h2 =>
      obtain ⟨t, rfl⟩ := h1 q (hs q (List.mem_cons_self ..)) rfl
      exact .cons _ _ (begun_ints (fun x hx => hs x (List.mem_cons_of_mem _ hx)) h2)
theorem octs_keys {S : Spots} (h : (keysOf S).Nodup) : ((keysOf S).map fun n => (spAt S n).oct).sum = octs S := by
  unfold octs
  congr 1
  show (S.map Prod.fst).map _ = _
  rw [List.map_map]
  refine List.map_congr_left fun p hp => ?_
  show (spAt S p.1).oct = _
  rw [spAt_of h (p := p.2) hp]
theorem rg27_3 : True := by
  k_with "exec Try" => (k_dflt (refine wpAny_Try_except ?_))
  exact trivial
theorem law_end {w : World} {A₀ : Around} {h₀ base : Heap} {L a : Addr} {m mg mb : Str → Option Value} {s : Shared} {Q E} {nm : Str} {cdv : Value} {outer : List Env} {loose} {mean : ExcName → Option Value}
  {body : List Stmt} {scope : Scope} {led : List (Addr × Obj)} {v d fl o T op D H Bg : Addr} {lv : List (Addr × List (Addr × Tab))} {nl sl most picks : Int} {t : Nat → Tok} {q : Opt} {S : Spots} {hs : List Int} {bg : List Sp} {mt : List (Nat × Nat)}
  (hL : LawAt w body scope) (B : Below A₀ base outer h₀) (F : Fr h₀ L s.heap m) (X : (KM w.params).In h₀) (T' : Top VW loose mean mg mb h₀) (hh : A₀.handled = none) (hroom : A₀.depth + 400 < 1000)
  (N : News h₀ L s.heap led) (hm : Has m [(Str.ofString "version", .ref v), (Str.ofString "options", .ref op), (Str.ofString "holder", .ref H), (Str.ofString "begun", .ref Bg)])
  (hC : CellsAt led L nl D) (hv : VerAt w led v d fl o lv) (hd : (d, verD w nl o fl T sl t) ∈ led) (hop : OptAt w led op q) (hq : OptOk q) (hqn : q.nl = nl) (hS : SpotsAt w led D S) (hH : IntsAt led H hs) (hB : BegunAt led Bg bg)
  (hlv : LvOk S nl lv) (hI : LInv nl bg mt most S hs picks) (hlow : ∀ j, 0 ≤ j → j + 1 < nl → lvTop lv j < lvBot q j) (hz : bg.length ≤ 4) (hSz : S.length ≤ 4) (hK : ∀ p ∈ S, 0 ≤ p.1 ∧ p.1 < 1000)
  (ret : LawRet h₀ L s Q) :
  wpAny (model P w) (A₀.deeper (envOfC nm scope L a cdv)) (execs (body.drop 27) (envOfC nm scope L a cdv)) Q E s := by
  refine' law_lit hL ?h2 ?k
  case h2 => k_is
  intro e1 e2
  subst e1
  subst e2
  simp only [List.drop_succ_cons, List.drop_zero]
  refine hideG fun G9 hG9 => ?_
  have F := Fr.with _ F hm
  refine hG9 ?_
  refine st_mark ?_
  intro hK9
  obtain ⟨oc, os, ol, ot, on, tc, vl, vt, vn, c1, e1, c2, e2, c3, e3, c4, e4, c5, e5⟩ := id hC
  obtain ⟨hv1, ⟨kf, hfl, hlevs⟩, hord⟩ := id hv
  have hd' := hd
  unfold verD at hd'
  have hz6 : (numsOf lv).length < 60 := lv_len hlv hSz (by unfold OptOk at hq; walk_at "mine om")
  have hnd : (numsOf lv).Nodup := lv_nodup hlv hI.nd
  have hso : Sorted lv := lv_sorted hlv hI.nd hK (fun p hp => (hI.ok p hp).2.2.1) hI.lap
  have hnl : lv.length = nl.toNat := hlv.1
  have hq' := hq
  unfold OptOk at hq'
  have hnl3 : 3 ≤ nl ∧ nl ≤ 4 := by walk_at "mine om"
  have hf0 := fsAt_at (lv := lv) (k := 0) (by simp only [Int.toNat_zero]; walk_at "mine om")
  have hat0 := lev_at hf0
  obtain ⟨kl0, hl0, _⟩ := hlevs _ (List.mem_of_getElem? hf0)
  dsimp only at hl0 hat0
  have hlen0 : (fsAt lv 0).length < 1000 := by
    have := lev_len (hlv.2 0 _ hf0)
    dsimp only at this
    walk_at "mine om"
  have hlow0 : ((fsAt lv 0).length : Int) < q.l0 := by
    have := hlow 0 (by walk_at "mine om") (by walk_at "mine om")
    unfold lvTop lvBot at this
    simpa using this
  obtain ⟨opd, ot', ov, oo1, oo2⟩ := hop
  unfold optD at oo2
  obtain ⟨slo, snd', oD, kvs, hD, hdd, hSin⟩ := hS.out
  obtain ⟨vsH, kH, hHl, hHI⟩ := hH
  k_steps
  rename_i hr FC NC keep
  obtain ⟨led0, hled0⟩ : ∃ led0, led0 = offL (L + 1 + 1 + 1) led := ⟨_, rfl⟩
  have kc : ∀ {x : Addr} {ob : Obj}, (x, ob) ∈ led → (∀ v, ob.data ≠ .cell v) → (x, ob) ∈ led0 := fun hx hn => by rw [hled0]; exact keep_cell NC c3 e3 hx hn
  have hS0 : SpotsIn led0 kvs S := ⟨hSin.1, fun n p hp => let ⟨a, t, z1, z2⟩ := hSin.2 n p hp; ⟨a, t, z1, kc z2 (fun _ e => by simp at e)⟩⟩
  have hD0 : (D, oD) ∈ led0 := kc hD (dict_nocell hdd)
  have hH0 := kc hHl (fun _ e => by simp at e)
  have hB0 : BegunAt led0 Bg bg := by rw [hled0]; exact hB.but NC c3 e3
  have hop0 := kc oo1 (fun _ e => by simp at e)
  have hopd0 := kc oo2 (fun _ e => by simp at e)
  have hc1 : (L + 1, oc) ∈ led0 := by rw [hled0]; exact mem_offL.mpr ⟨c1, by show @Ne Nat _ _; walk_at "mine om"⟩
  have hc2 : (L + 1 + 1, os) ∈ led0 := by rw [hled0]; exact mem_offL.mpr ⟨c2, by show @Ne Nat _ _; walk_at "mine om"⟩
  have hks : kvs.map (·.1) = keysOf S := hSin.1
  have hkl : kvs.length ≤ 1000000 := by have := congrArg List.length hks; simp [keysOf] at this; walk_at "mine om"
  refine for_range2 rfl (nl - 2).toNat hh (by k_asm) (by k_asm) hr (small1 (by walk_at "mine om") (by walk_at "mine om")) (rsz (by walk_at "mine om"))
    (fun _ => JEnd1 [(Str.ofString "options", .ref op), (Str.ofString "holder", .ref H), (Str.ofString "begun", .ref Bg)] (L + 1 + 1 + 1) led0) ⟨by walk_at "mine has", ⟨ol, vl, c3, e3⟩, fun p hp => by rw [hled0] at hp; exact (mem_offL.mp hp).1⟩ ?_ ?_
  · intro I i tv m₁ nw led₁ own h tkn hi hJ hsub hnI hown hownI hIo hnI' F₁ N₁
    refine hideG fun G9 hG9 => ?_
    obtain ⟨hmm, ⟨ol, vl, hol, dol⟩, hn⟩ := hJ
    have F₁ := Fr.with _ F₁ hmm
    obtain ⟨rest, Nr, r1, r2, r3⟩ := led_split N₁ (hsub _ hol)
    clear N₁
    have hr0 : ∀ p ∈ led0, p ∈ rest := fun p hp => r2 p (hsub _ (hn p hp)) (by rw [hled0] at hp; exact (mem_offL.mp hp).2)
    have g1 := hr0 _ hD0
    have g2 := hr0 _ hop0
    have g3 := hr0 _ hopd0
    have g4 := hr0 _ hc2
    have hiI : (L + 1 + 1 + 1 : Addr) ≠ I := hnI _ hol
    have hownr : ∀ p ∈ own, p ∈ rest := fun p hp => r2 p (hown p hp) (by rw [hownI p hp]; exact hiI.symm)
    have hlk := fsAt_at (lv := lv) (k := 1 + (i : Int)) (by walk_at "mine om")
    have hlevk := hlv.2 _ _ hlk
    have hsum := lev_sum hlevk
    have hcast : (((1 + (i : Int)).toNat : Nat) : Int) = 1 + (i : Int) := by walk_at "mine om"
    rw [hcast] at hsum
    dsimp only at hsum
    have hcmp : ¬ (((keysOf S).filter fun n => decide ((spAt S n).lv = 1 + (i : Int))).map fun n => (spAt S n).oct).sum ≥ q.base * q.fac ^ (1 + (i : Int) - 1).toNat := by
      have := hlow (1 + (i : Int)) (by walk_at "mine om") (by walk_at "mine om")
      unfold lvTop lvBot at this
      rw [if_neg (by walk_at "mine om"), if_neg (by walk_at "mine om"), hsum] at this
      walk_at "mine om"
    refine hG9 ?_
    k_steps
    rename_i hX oX FX NX dX
    refine comp_dict hh (by k_asm) (by k_asm) (by k_mem) hdd slo hkl
      (fun v => match v with | .int n _ => decide ((spAt S n).lv = 1 + (i : Int)) | _ => false) (fun v y => ∃ n t t', v = .int n t ∧ y = .int ((spAt S n).oct) t') (by decide) (by rfl) (by rfl) ?_ ?_ ?_
    · intro C j n tn s₃ m₃ E' hn3 hT3
      refine hideG fun G9 hG9 => ?_
      refine hG9 ?_
      refine wpAny_tests_one ?_
      obtain ⟨F₃, N₃, ns₃, at₃⟩ := hT3
      rw [hks] at hn3
      obtain ⟨a', t', z1, z2⟩ := hS0.2 n _ (spAt_mem (List.mem_of_getElem? hn3))
      have z3 := hr0 _ z2
      k_steps
      all_goals first
        | exact keeps_toks
        | exact decide_eq_decide.mpr (by walk_at "mine om")
    · intro C j n tn s₃ m₃ E' hn3 hz3 hT3
      refine hideG fun G9 hG9 => ?_
      obtain ⟨F₃, N₃, ns₃, at₃⟩ := hT3
      rw [hks] at hn3
      obtain ⟨a', t', z1, z2⟩ := hS0.2 n _ (spAt_mem (List.mem_of_getElem? hn3))
      have z3 := hr0 _ z2
      refine hG9 ?_
      k_steps
      all_goals first
        | exact keeps_toks
        | exact ⟨_, _, _, rfl, rfl⟩
        | rfl
        | w_report
    · intro ys ws hi2 hp D' h' tk k F' N' hne
      have hi3 := ints_filter (f := fun v => match v with | .int n _ => decide ((spAt S n).lv = 1 + (i : Int)) | _ => false) (g := fun n => decide ((spAt S n).lv = 1 + (i : Int))) (fun _ _ => rfl) hi2
      rw [hks] at hi3
      have hi4 := paired_ints (f := fun n => (spAt S n).oct) hp hi3
      have hownR : ∀ p ∈ own, p ∈ (D', listOf ys.toArray k) :: (L + 1 + 1 + 1, oX) :: rest := fun p hp => by simp [hownr p hp]
      k_steps
      exact ⟨_, _, _, _, rfl, by k_asm, by k_asm, hownR, by walk_at "mine has", ⟨_, _, mem_offL.mpr ⟨by simp, hiI⟩, dX⟩, fun p hp => mem_offL.mpr ⟨by simp [hr0 p hp], hnI _ (hn p hp)⟩⟩
  · intro h' tkn m' led' F' N' hJ
    refine hideG fun G9 hG9 => ?_
    obtain ⟨hmm, ⟨ol, vl, hol, dol⟩, hn⟩ := hJ
    have F' := Fr.with _ F' hmm
    have N' : News _ _ h' led0 := fun p hp => N' p (hn p hp)
    obtain ⟨bl, kB, rfl, hBl, hbl⟩ := hB0
    have hbl4 : bl.length < 1000 := by simp at hz; walk_at "mine om"
    refine hG9 ?_
    k_steps
    rename_i hr2 FC2 NC2 keep2
    refine for_range rfl bl.length hh (by k_asm) (by k_asm) hr2 (small1 (by walk_at "mine om") (by walk_at "mine om")) (rsz (by walk_at "mine om"))
      (fun _ => JHas [(Str.ofString "holder", .ref H), (Str.ofString "begun", .ref Bg)] led0) ⟨by walk_at "mine has", fun _ h => h⟩ ?_ ?_
    · intro I i tv m₁ nw led₁ own h tkn hi hJ hsub hnI hown hIo hnI' F₁ N₁
      refine hideG fun G9 hG9 => ?_
      obtain ⟨hmm, hn⟩ := hJ
      have F₁ := Fr.with _ F₁ hmm
      have hr0 : ∀ p ∈ led0, p ∈ led₁ := fun p hp => hsub _ (hn p hp)
      have g1 := hr0 _ hD0
      have g2 := hr0 _ hH0
      have g3 := hr0 _ hBl
      have g4 := hr0 _ hc2
      have hlen := hI.len
      rw [List.length_map] at hlen
      obtain ⟨b, hb⟩ : ∃ b, bl[i]? = some b := ⟨_, List.getElem?_eq_getElem hi⟩
      obtain ⟨n, hn3⟩ : ∃ n, hs[i]? = some n := ⟨_, List.getElem?_eq_getElem (by walk_at "mine om")⟩
      obtain ⟨tn, hvn⟩ := ints_at hHI hn3
      have ez : (0 + (i : Int)).toNat = i := by walk_at "mine om"
      have hx : vsH.toArray[(0 + (i : Int)).toNat]? = some (.int n tn) := by rw [ez, List.getElem?_toArray]; exact hvn
      have hy : ((bl.map fun q => Value.ref q.1).toArray)[(0 + (i : Int)).toNat]? = some (.ref b.1) := by rw [ez]; simp [hb]
      obtain ⟨a', t', z1, z2⟩ := hS0.2 n _ (spAt_mem (hI.held n (List.mem_of_getElem? hn3)))
      have z3 := hr0 _ z2
      obtain ⟨tb, z4⟩ := hbl b (List.mem_of_getElem? hb)
      have z5 := hr0 _ z4
      obtain ⟨p1, p2, p3⟩ := hI.span i b.2 n (by rw [List.getElem?_map, hb]; rfl) hn3
      clear hvn
      refine hG9 ?_
      k_steps
      all_goals first
        | exact ⟨_, _, _, _, rfl, by k_asm, by k_asm, hown, by walk_at "mine has", fun p hp => mem_offL.mpr ⟨hr0 p hp, hnI _ (hn p hp)⟩⟩
        | w_report
    · intro h' tkn m' led' F' N' hJ
      refine hideG fun G9 hG9 => ?_
      obtain ⟨hmm, hn⟩ := hJ
      have F' := Fr.with _ F' hmm
      have N' : News _ _ h' led0 := fun p hp => N' p (hn p hp)
      refine hG9 ?_
      k_steps
      refine comp_dict hh (by k_asm) (by k_asm) (by k_mem) hdd slo hkl (fun _ => true) (fun v y => ∃ n t t', v = .int n t ∧ y = .int ((spAt S n).oct) t') (by decide) (by rfl) (by rfl) (fun _ _ _ _ _ _ _ _ _ => wpAny_tests_nil ⟨rfl, keeps_toks⟩) ?_ ?_
      · intro C j n tn s₃ m₃ E' hn3 hz3 hT3
        refine hideG fun G9 hG9 => ?_
        obtain ⟨F₃, N₃, ns₃, at₃⟩ := hT3
        rw [hks] at hn3
        obtain ⟨a', t', z1, z2⟩ := hS0.2 n _ (spAt_mem (List.mem_of_getElem? hn3))
        refine hG9 ?_
        k_steps
        all_goals first
          | exact keeps_toks
          | exact ⟨_, _, _, rfl, rfl⟩
          | rfl
          | w_report
      · intro ys ws hi2 hp D' h' tk k F' N' hne
        rw [List.filter_eq_self.mpr (fun _ _ => rfl)] at hp
        rw [hks] at hi2
        have hi4 := paired_ints (f := fun n => (spAt S n).oct) hp hi2
        k_steps
        rename_i NY
        refine comp_list hh (by k_asm) (by k_asm) (by k_mem) (by simp; walk_at "mine om") (fun _ => true) (OctOf bl) (by decide) (by rfl) (by rfl) (fun _ _ _ _ _ _ _ _ => wpAny_tests_nil ⟨rfl, keeps_toks⟩) ?_ ?_
        · intro C j v₃ s₃ m₃ E' hv3 hz3 hT3
          refine hideG fun G9 hG9 => ?_
          obtain ⟨b, hb, rfl⟩ := refs_of hv3
          obtain ⟨F₃, N₃, ns₃, at₃⟩ := hT3
          obtain ⟨tb, z4⟩ := hbl b (List.mem_of_getElem? hb)
          have z5 : (b.1, tup4 b.2 tb) ∈ (D', listOf ys.toArray k) :: led0 := List.mem_cons_of_mem _ z4
          have hfin : ∀ q ∈ bl, Value.ref b.1 = Value.ref q.1 → ∃ t, Value.int b.2.oct (tb 3) = .int q.2.oct t := by
            intro q' hq' e
            cases e_ : q' with
            | mk qa qp =>
              have e' : b.1 = q'.1 := by injection e
              obtain ⟨tq, z6⟩ := hbl q' hq'
              have z7 := led_eq N₃ z5 (by rw [e']; exact List.mem_cons_of_mem _ z6)
              have z8 : b.2.oct = q'.2.oct := by
                have := congrArg Obj.data z7
                simp at this
                exact this.2.2.2.1
              exact ⟨tb 3, by rw [z8, e_]⟩
          refine hG9 ?_
          k_steps
          all_goals first
            | exact keeps_toks
            | exact hfin
            | w_report
        · intro ys2 hp2 D2 h2 tk2 k2 F2 N2 hne2
          rw [List.filter_eq_self.mpr (fun _ _ => rfl)] at hp2
          have hi5 := begun_ints (fun q hq => hq) hp2
          have eo : ((keysOf S).map fun n => (spAt S n).oct).sum = (bl.map fun q => q.2.oct).sum := by
            rw [octs_keys snd', hI.oct, List.map_map]
            rfl
          k_steps
          rw [eo, beq_self_eq_true]
          exact ret _ _ _ (by k_asm)
-- state
/-- what never changes while the law picks: C0 is its part of the ledger -/
structure CFacts (w : World) (L : Addr) (nl : Int) (op o pk pt M Bg : Addr) (q : Opt) (mt : List (Nat × Nat)) (bg : List Sp) (most : Int) (C0 : List (Addr × Obj)) : Prop where
  opt : OptAt w C0 op q
  ok : OptOk q
  qn : q.nl = nl
  pick : PickAt w C0 pk op o
  meets : MeetsAt C0 M mt
  begun : BegunAt C0 Bg bg
  cnt : ∃ oc tc, (L + 1, oc) ∈ C0 ∧ oc.data = .cell (some (.int nl tc))
  ne2 : ∀ p ∈ C0, @Ne Nat p.1 (L + 1 + 1)
  ne3 : ∀ p ∈ C0, @Ne Nat p.1 (L + 1 + 1 + 1)
  ne4 : ∀ p ∈ C0, @Ne Nat p.1 (L + 1 + 1 + 1 + 1)
  ne5 : ∀ p ∈ C0, @Ne Nat p.1 (L + 1 + 1 + 1 + 1 + 1)
  nep : ∀ p ∈ C0, @Ne Nat p.1 pt
  ptL : @LT.lt Nat _ (L + 1 + 1 + 1 + 1 + 1) pt
  most20 : most ≤ 20
  bz : bg.length ≤ 4
  mok : MeetOk bg mt
  mtb : ∀ q ∈ mt, q.1 < bg.length ∧ q.2 < bg.length
/-- the law's names between the picks -/
inductive WFm (op o H M Bg pk pt v : Addr) (most picks : Int) (m : Fm) : Prop
  | mk (tm tp : Tok) (hm : Has m [(Str.ofString "options", .ref op), (Str.ofString "order", .ref o), (Str.ofString "holder", .ref H), (Str.ofString "meets", .ref M), (Str.ofString "begun", .ref Bg), (Str.ofString "most", .int most tm), (Str.ofString "picker", .ref pk), (Str.ofString "pointers", .ref pt), (Str.ofString "version", .ref v), (Str.ofString "picks", .int picks tp)])
theorem has_sub {m : Fm} {l l' : List (Str × Value)} (h : Has m l) (e : ∀ x ∈ l', x ∈ l) : Has m l' := fun p hp => h p (e p hp)
theorem has_tl {m : Fm} {a : Str × Value} {l : List (Str × Value)} (h : Has m (a :: l)) : Has m l := fun p hp => h p (List.mem_cons_of_mem _ hp)
/-- a list of ints that a loop fills, beside names and a part of the ledger -/
inductive JTak (l : List (Str × Value)) (base : Led) (Tk : Addr) (ns : List Int) (m : Fm) (nw : Led) : Prop
  | mk (hm : Has m l) (hO : ∀ x ∈ base, x ∈ nw) (vs : List Value) (k : Nat) (h1 : (Tk, listOf vs.toArray k) ∈ nw) (h2 : IntsAre vs ns)
/-- the state between the picks, but the pick at hand -/
structure WSt (w : World) (L : Addr) (nl : Int) (op o pk pt M Bg : Addr) (q : Opt) (mt : List (Nat × Nat)) (bg : List Sp) (most : Int) (C0 : List (Addr × Obj)) (m : Str → Option Value) (nw : List (Addr × Obj))
    (S : Spots) (hs : List Int) (picks : Int) (D H v d fl T : Addr) (lv : List (Addr × List (Addr × Tab))) (sl : Int) (t : Nat → Tok) (ptrs : Array Value) (kp : Nat) : Prop where
  nms : WFm op o H M Bg pk pt v most picks m
  c2 : ∃ oc, (L + 1 + 1, oc) ∈ nw ∧ oc.data = .cell (some (.ref D))
  c3 : CellAt nw (L + 1 + 1 + 1)
  c4 : CellAt nw (L + 1 + 1 + 1 + 1)
  c5 : CellAt nw (L + 1 + 1 + 1 + 1 + 1)
  cons : ∀ p ∈ C0, p ∈ nw
  ptr : (pt, listOf ptrs kp) ∈ nw
  ptz : ptrs.size = nl.toNat
  pto : ∀ x ∈ ptrs, PtrOk x
  sp : SpotsAt w nw D S
  hold : IntsAt nw H hs
  ver : VerAt w nw v d fl o lv
  vd : (d, verD w nl o fl T sl t) ∈ nw
  lvo : LvOk S nl lv
  inv : LInv nl bg mt most S hs picks
  ks : ∀ p ∈ S, 10 ≤ p.1
  len : S.length ≤ 4
  pk0 : 0 ≤ picks
/-- the pick at hand -/
inductive CPick (w : World) (op v : Addr) (nl : Int) (lv : List (Addr × List (Addr × Tab))) (m : Str → Option Value) (nw : List (Addr × Obj)) (sl : Int) : Prop
  | mk (c cd ci x0 x1 co us gp ed pl : Addr) (g0 g1 : List (Addr × Tab)) (tc : Nat → Tok) (h1 : m (Str.ofString "c") = some (.ref c)) (h2 : (c, instObj 536 cd) ∈ nw) (h3 : (cd, compD w sl v op co us ci gp ed pl tc) ∈ nw) (h4 : (ci, listOf #[.ref x0, .ref x1] 0) ∈ nw)
    (h5 : FilesAt w nw x0 g0) (h6 : FilesAt w nw x1 g1) (h7 : Picked lv sl g0 g1) (h8 : 0 ≤ sl) (h9 : sl + 1 < nl)
noncomputable def CSt (w : World) (op v : Addr) (nl : Int) (lv : List (Addr × List (Addr × Tab))) (q : Opt) (m : Str → Option Value) (nw : List (Addr × Obj)) (sl : Int) : Prop :=
  (m (Str.ofString "c") = some .none ∧ ∀ j, 0 ≤ j → j + 1 < nl → lvTop lv j < lvBot q j) ∨
  CPick w op v nl lv m nw sl
theorem LInv.picks_le {nl : Int} {bg : List Sp} {mt : List (Nat × Nat)} {most : Int} {S : Spots} {hs : List Int} {picks : Int} (h : LInv nl bg mt most S hs picks) : picks ≤ most := by
  have h1 := h.pot
  have h2 : (hs.map fun _ => (0 : Int)).sum ≤ (hs.map fun n => nl - 1 - (spAt S n).lv).sum := sum_le fun n hn => by
    have := h.ok _ (spAt_mem (h.held n hn))
    dsimp only at this
    omega
  have h3 : ∀ l : List Int, (l.map fun _ => (0 : Int)).sum = 0 := fun l => by
    induction l with
    | nil => rfl
    | cons x r ih => rw [List.map_cons, List.sum_cons, ih]; rfl
  rw [h3] at h2
  omega
theorem lv_small {S : Spots} {nl : Int} {lv : List (Addr × List (Addr × Tab))} (h : LvOk S nl lv) (hz : S.length ≤ 4) : Small lv := by
  intro k
  unfold fsAt
  cases e : lv[k.toNat]? with
  | none => simp
  | some q =>
    have := lev_len (h.2 _ q e)
    simp only [Option.getD_some]
    omega
-- turn3
noncomputable def whileOf (body : List Stmt) : List Stmt := match body[26]? with | some (PySem.Stmt.While _ b _ _) => b | _ => []
theorem rg29_0 : True := by
  k_with "call ref" => (k_dflt ((first | (with_reducible show wpAny _ _ (call (Value.ref 636) _ _) _ _ _) | (with_reducible show wpAny _ _ (call (Value.ref 554) _ _) _ _ _) | (with_reducible show wpAny _ _ (call (Value.ref 589) _ _) _ _ _)); refine myStop ?_))
  k_with "mine spots" => ((first | assumption | (refine SpotsAt.mono (by assumption) ?_; intro q hq; (repeat (first | exact hq | refine List.mem_cons_of_mem _ ?_)); done)))
  k_with "mine ints" => ((first | assumption | (refine IntsAt.mono (by assumption) ?_; intro q hq; (repeat (first | exact hq | refine List.mem_cons_of_mem _ ?_)); done)))
  k_with "mine meets" => ((first | assumption | (refine MeetsAt.mono (by assumption) ?_; intro q hq; (repeat (first | exact hq | refine List.mem_cons_of_mem _ ?_)); done)))
  k_with "call ref" => (k_dflt ((with_reducible show wpAny _ _ (call (Value.ref 643) _ _) _ _ _); refine wpAny_call ?_; refine' spec_sunk (by walk_at "mine cx") (by walk_at "mine room") (by walk_at "mine spots") (by walk_at "mine ints") (by walk_at "mine meets") (by assumption) (by assumption) (by assumption) (by assumption) ?_; intro _ _ _ _; (try k_sweep); (try dsimp only)))
  k_with "call ref" => (k_dflt ((with_reducible show wpAny _ _ (call (Value.ref 648) _ _) _ _ _); refine wpAny_call ?_; refine' spec_lapped (by walk_at "mine cx") (by walk_at "mine room") (by walk_at "mine spots") (by walk_at "mine om") (by assumption) ?_; intro _ _ _ _; (try k_sweep); (try dsimp only)))
  exact trivial
/-- y is the int that f makes of v -/
noncomputable def MapOf (f : Int → Int) (v y : Value) : Prop := ∃ n t t', v = .int n t ∧ y = .int (f n) t'
theorem lvBot_bd' {q : Opt} (hq : OptOk q) {j : Int} (h0 : 0 ≤ j) (h1 : j + 1 < q.nl) : 1 ≤ lvBot q j := (lvBot_bd hq h0 (by unfold OptOk at hq; walk_at "mine om")).1
theorem scored_low {lv : List (Addr × List (Addr × Tab))} {q : Opt} {b : Int} (hq : OptOk q) (h : Scored lv q b) (hlt : lvTop lv b < lvBot q b) : ∀ j, 0 ≤ j → j + 1 < q.nl → lvTop lv j < lvBot q j := by
  intro j h0 h1
  have hb := lvBot_bd' hq h.lo h.hi
  have hj := lvBot_bd' hq h0 h1
  have hbest := h.best j h0 h1
  refine Int.not_le.mp fun hle => ?_
  have e1 := Int.mul_le_mul_of_nonneg_right hle (show 0 ≤ lvBot q b by walk_at "mine om")
  have e2 := Int.mul_le_mul_of_nonneg_right (show lvTop lv b + 1 ≤ lvBot q b by walk_at "mine om") (show 0 ≤ lvBot q j by walk_at "mine om")
  rw [Int.add_mul] at e2
  have e3 : lvBot q j * lvBot q b = lvBot q b * lvBot q j := Int.mul_comm _ _
  walk_at "mine om"
theorem scored_hi {lv : List (Addr × List (Addr × Tab))} {q : Opt} {b : Int} (hq : OptOk q) (h : Scored lv q b) (hle : lvBot q b ≤ lvTop lv b) : 0 ≤ b ∧ b + 1 < q.nl ∧ 0 < (fsAt lv b).length := by
  refine ⟨h.lo, h.hi, ?_⟩
  have hb := lvBot_bd' hq h.lo h.hi
  unfold lvTop at hle
  split at hle
  · rename_i e
    rw [e]
    walk_at "mine om"
  · cases hf : fsAt lv b with
    | nil => rw [hf] at hle; simp [sizes] at hle; walk_at "mine om"
    | cons x r => simp
theorem VerAt.but {w : World} {h₀ h : Heap} {L v d fl o l : Addr} {lv : List (Addr × List (Addr × Tab))} {led led' : List (Addr × Obj)} {its : Array Value} {k : Nat} (hv : VerAt w led v d fl o lv) (N : News h₀ L h led) (hl : (l, listOf its k) ∈ led) (hfl : @Ne Nat fl l) (hq : ∀ q ∈ lv, @Ne Nat q.1 l) (ho : OrdAt w led' o) (hk : ∀ q ∈ led, @Ne Nat q.1 l → q ∈ led') : VerAt w led' v d fl o lv := by
  obtain ⟨h1, ⟨kf, h2, h3⟩, _⟩ := hv
  refine ⟨hk _ h1 ?_, ⟨kf, hk _ h2 hfl, fun q hqm => (h3 q hqm).but (hq q hqm) N (fun _ h => h) hl odd_list hk⟩, ho⟩
  rintro rfl
  exact led_cls N h1 hl (by simp)
theorem comp_listB {prog : Program} {w : World} {A : Around} {s : Shared} {env : Env} {E : Value → Shared → Prop} {elt iter : Expr} {x y : Str} {px py : Pos} {ifs : List Expr} {scope : Scope} {pos : Pos} {cl : List (Str × Addr)}
    {h₀ : Heap} {L : Addr} {m : Str → Option Value} {news : List (Addr × Obj)} {l : Addr} {its : Array Value} {k : Nat} {Q : Value → Shared → Prop} (hL : env.locals = L) (hy : env.kindOf y = some .local) (hp : (env.scope.kind == .class || (env.scope.kind == .module && env.locals != env.globals)) = false) (hh : A.handled = none) (F : Fr h₀ L s.heap m) (N : News h₀ L s.heap news) (hl : (l, listOf its k) ∈ news) (hsz : its.size ≤ 1000000)
    (pz : Value → Bool) (Fe : Value → Value → Prop) (hcell : ∀ y ∈ scope.names, y.2 ≠ .cell) (hkind : scope.kind = .function) (hx : scope.names.lookup x = some .local)
    (ht : ∀ C (i : Nat) v s₃ m₃ E', its[i]? = some v → CTurn h₀ L m news C x v m₃ s₃.heap → wpAny (model prog w) A (forIn ifs true fun c r => if r = true then do let ok ← isTrue c (compEnvC scope cl C env) (eval c (compEnvC scope cl C env)); pure (ForInStep.yield ok) else pure (ForInStep.yield r))
      (fun ok s₄ => ok = pz v ∧ Keeps s₃ s₄) E' s₃)
    (he : ∀ C (i : Nat) v s₃ m₃ E', its[i]? = some v → pz v = true → CTurn h₀ L m news C x v m₃ s₃.heap → wpAny (model prog w) A (eval elt (compEnvC scope cl C env)) (fun y s₄ => Fe v y ∧ Keeps s₃ s₄) E' s₃)
    (hQ : ∀ ys, Paired Fe (its.toList.filter pz) ys → CEndA h₀ L m news s y (fun _ s' => Q .none s') ys) : MyComp prog w A env elt x px iter ifs scope cl pos (some (assign (.Name y py) env)) Q E (.ref l) s :=
  comp_src_list hh F N hl hsz pz Fe hcell hkind hx ht he fun D C h' tk m' ys k' h1 h2 h3 h4 h5 h6 h7 h9 h10 => cend_postA (Q := fun _ s' => Q .none s') hL hy hp (hQ ys h9) h1 h2 h3 h4 h5 h6 h7 h10
theorem law_t3 {w : World} {A₀ : Around} {h₀ base : Heap} {L a : Addr} {m mg mb : Str → Option Value} {s : Shared} {Q : Flow → Shared → Prop} {E} {nm : Str} {cdv : Value} {outer : List Env} {loose} {mean : ExcName → Option Value}
  {body : List Stmt} {scope : Scope} {led C0 : List (Addr × Obj)} {op o pk pt M Bg Dl H Tk c cd v0 co us ci gp ed pl : Addr} {nl sl most picks num : Int} {q : Opt} {mt : List (Nat × Nat)} {bg : List Sp} {ol os : Obj} {v2 v3 : Option Value} {kvl : List (Int × Value)} {Sd : Spots} {hs tkl : List Int} {p : Sp} {ptrs : Array Value} {kp : Nat} {tc : Nat → Tok} {o3 o4 o5 : Obj} {tn t1 t2 t3 t4 t5 : Tok}
  (hL : LawAt w body scope) (B : Below A₀ base outer h₀) (F : Fr h₀ L s.heap m) (X : (KM w.params).In h₀) (T' : Top VW loose mean mg mb h₀) (hh : A₀.handled = none) (hroom : A₀.depth + 400 < 1000)
  (cf : CFacts w L nl op o pk pt M Bg q mt bg most C0) (N : News h₀ L s.heap ((Dl, ol) :: led)) (hne : ∀ x ∈ led, x.1 ≠ Dl)
  (hm : Has m [(Str.ofString "options", .ref op), (Str.ofString "order", .ref o), (Str.ofString "holder", .ref H), (Str.ofString "meets", .ref M), (Str.ofString "begun", .ref Bg), (Str.ofString "most", .int most t1), (Str.ofString "picker", .ref pk), (Str.ofString "pointers", .ref pt), (Str.ofString "picks", .int picks t2), (Str.ofString "c", .ref c), (Str.ofString "low", .int (p.lo : Int) t3), (Str.ofString "high", .int (p.hi : Int) t4), (Str.ofString "octets", .int p.oct t5), (Str.ofString "left", .ref Dl)])
  (hc2 : (L + 1 + 1, os) ∈ led) (hd2 : os.data = .cell v2) (hc3 : (L + 1 + 1 + 1, o3) ∈ led) (hd3 : o3.data = .cell v3) (hc4 : (L + 1 + 1 + 1 + 1, o4) ∈ led) (hd4 : o4.data = .cell (some (.ref Tk))) (hc5 : (L + 1 + 1 + 1 + 1 + 1, o5) ∈ led) (hd5 : o5.data = .cell (some (.int num tn)))
  (hC0 : ∀ x ∈ C0, x ∈ led) (hc : (c, instObj 536 cd) ∈ led) (hcd : (cd, compD w sl v0 op co us ci gp ed pl tc) ∈ led) (hTk : IntsAt led Tk tkl) (hH : IntsAt led H hs) (hptr : (pt, listOf ptrs kp) ∈ led) (ptz : ptrs.size = nl.toNat) (pto : ∀ x ∈ ptrs, PtrOk x)
  (hlo : (Dl == sysModules) = false) (hol : ol.IsDictOf (PySem.intKind P w) kvl) (hSd : SpotsIn led kvl Sd) (hnum : num ∉ keysOf Sd) (hnd : (keysOf Sd).Nodup)
  (hI : LInv nl bg mt most (Sd ++ [(num, p)]) (hs.map fun n => if n ∈ tkl then num else n) picks) (hks : ∀ x ∈ Sd ++ [(num, p)], 10 ≤ x.1) (hlen : (Sd ++ [(num, p)]).length ≤ 4) (pk0 : 0 ≤ picks) (hsl : p.lv = sl + 1)
  (ret : ∀ h' tks m' nw H' v d fl T lv sl' t ptrs', Fr h₀ L h' m' → News h₀ L h' nw → WSt w L nl op o pk pt M Bg q mt bg most C0 m' nw (Sd ++ [(num, p)]) (hs.map fun n => if n ∈ tkl then num else n) picks Dl H' v d fl T lv sl' t ptrs' kp → CSt w op v nl lv q m' nw sl' → Q .next { s with heap := h', toks := tks }) :
  wpAny (model P w) (A₀.deeper (envOfC nm scope L a cdv)) (execs ((whileOf body).drop 11) (envOfC nm scope L a cdv)) Q E s := by
  refine' law_lit hL ?h2 ?k
  case h2 => k_is
  intro e1 e2
  subst e1
  subst e2
  have hqn := cf.qn
  subst hqn
  simp only [whileOf, List.getElem?_cons_succ, List.getElem?_cons_zero, List.drop_succ_cons, List.drop_zero]
  refine hideG fun G9 hG9 => ?_
  have F := Fr.with _ F hm
  have Nl : News h₀ L s.heap led := fun x hx => N x (List.mem_cons_of_mem _ hx)
  obtain ⟨rest, hrest⟩ : ∃ rest, rest = offL (L + 1 + 1) led := ⟨_, rfl⟩
  have kc : ∀ {x : Addr} {ob : Obj}, (x, ob) ∈ led → (∀ v, ob.data ≠ .cell v) → (x, ob) ∈ rest := fun hx hn => by rw [hrest]; exact keep_cell Nl hc2 hd2 hx hn
  have kr : ∀ {x : Addr × Obj}, x ∈ led → @Ne Nat x.1 (L + 1 + 1) → x ∈ rest := fun hx hn => by rw [hrest]; exact mem_offL.mpr ⟨hx, hn⟩
  have N₁ : News h₀ L s.heap ((Dl, ol) :: (L + 1 + 1, os) :: rest) := fun x hx => by
    simp only [List.mem_cons] at hx
    rcases hx with rfl | rfl | hx
    · exact N _ (List.mem_cons_self ..)
    · exact Nl _ hc2
    · rw [hrest] at hx; exact Nl _ (mem_offL.mp hx).1
  have hneD : @Ne Nat (L + 1 + 1) Dl := hne _ hc2
  have r1 : ∀ x ∈ rest, x.1 ≠ Dl := fun x hx => by rw [hrest] at hx; exact hne _ (mem_offL.mp hx).1
  have r2 : ∀ x ∈ rest, x.1 ≠ (L + 1 + 1 : Addr) := fun x hx => by rw [hrest] at hx; exact (mem_offL.mp hx).2
  have gC0 : ∀ x ∈ C0, x ∈ rest := fun x hx => kr (hC0 x hx) (cf.ne2 x hx)
  have gc := kc hc (fun _ e => by simp at e)
  have gcd := kc hcd (fun _ e => by simp at e)
  have g3 := kr hc3 (by dsimp only; walk_at "mine om")
  have g4 := kr hc4 (by dsimp only; walk_at "mine om")
  have g5 := kr hc5 (by dsimp only; walk_at "mine om")
  obtain ⟨vsT, kT, hTl, hTI⟩ := hTk
  obtain ⟨vsH, kH, hHl, hHI⟩ := hH
  have gT := kc hTl (fun _ e => by simp at e)
  have gH := kc hHl (fun _ e => by simp at e)
  have gpt := kr hptr (by have := cf.ptL; dsimp only; walk_at "mine om")
  have gS : SpotsIn rest kvl Sd := ⟨hSd.1, fun n x hx => let ⟨a, t, z1, z2⟩ := hSd.2 n x hx; ⟨a, t, z1, kc z2 (fun _ e => by simp at e)⟩⟩
  obtain ⟨oc, tcn, hc1, hd1⟩ := cf.cnt
  have g1 := gC0 _ hc1
  have hsz : kvl.length ≤ sizeLine := by
    have := congrArg List.length hSd.1
    simp only [keysOf, List.length_map] at this
    simp only [List.length_append, List.length_cons, List.length_nil] at hlen
    rw [sizeLine_eq]
    walk_at "mine om"
  clear N Nl
  refine hG9 ?_
  k_steps
  rename_i Tt hA lT hB oL hdL hC oS FA NA dS
  have hbgl := hI.len
  rw [List.length_map] at hbgl
  have hbz := cf.bz
  have hvl := IntsAre.length hHI
  refine comp_listB rfl (by with_unfolding_all rfl) (by with_unfolding_all rfl) hh (by k_asm) (by k_asm) (by k_mem) (by simp; walk_at "mine om") (fun _ => true) (MapOf fun n => if n ∈ tkl then num else n) (by decide) (by rfl) (by rfl) (fun _ _ _ _ _ _ _ _ => wpAny_tests_nil ⟨rfl, keeps_toks⟩) ?_ ?_
  · intro C j v₃ s₃ m₃ E' hv3 hz3 hT3
    refine hideG fun G9 hG9 => ?_
    obtain ⟨F₃, N₃, ns₃, at₃⟩ := hT3
    obtain ⟨n, tn3, rfl⟩ : ∃ n t, v₃ = .int n t := by
      rw [List.getElem?_toArray] at hv3
      have hj := (List.getElem?_eq_some_iff.mp hv3).1
      obtain ⟨n, hn⟩ : ∃ n, hs[j]? = some n := ⟨_, List.getElem?_eq_getElem (by walk_at "mine om")⟩
      obtain ⟨t, ht⟩ := ints_at hHI hn
      rw [ht] at hv3
      exact ⟨n, t, (Option.some.inj hv3).symm⟩
    by_cases hmem : n ∈ tkl
    · refine hG9 ?_
      k_steps
      all_goals first
        | exact keeps_toks
        | exact ⟨n, tn3, _, rfl, congrArg (fun x => Value.int x _) (if_pos hmem).symm⟩
        | w_report
    · refine hG9 ?_
      k_steps
      all_goals first
        | exact keeps_toks
        | exact ⟨n, tn3, _, rfl, congrArg (fun x => Value.int x _) (if_neg hmem).symm⟩
        | w_report
  · intro ys hp2 H' hh2 tk2 k2 F2 N2 hne2
    rw [List.filter_eq_self.mpr (fun _ _ => rfl)] at hp2
    have hi5 := paired_ints (f := fun n => if n ∈ tkl then num else n) hp2 hHI
    have hSp2 : SpotsIn ((H', listOf ys.toArray k2) :: (Tt, tup4 ⟨sl + 1, p.lo, p.hi, p.oct⟩ (tkL [s.toks + 1 + 1, t3, t4, t5])) :: (Dl, oL) :: (L + 1 + 1, oS) :: rest) (stored kvl num (.ref Tt)) (Sd ++ [(num, ⟨sl + 1, p.lo, p.hi, p.oct⟩)]) :=
      spots_put gS (fun x hx => by simp [hx]) hnum (List.mem_cons_of_mem _ (List.mem_cons_self ..))
    have ep : (⟨sl + 1, p.lo, p.hi, p.oct⟩ : Sp) = p := by rw [← hsl]
    rw [ep] at hSp2
    have hSat : SpotsAt w ((H', listOf ys.toArray k2) :: (Tt, tup4 p (tkL [s.toks + 1 + 1, t3, t4, t5])) :: (Dl, oL) :: (L + 1 + 1, oS) :: rest) Dl (Sd ++ [(num, p)]) := SpotsAt.of hlo (keys_app hnd hnum) (by simp) hdL hSp2
    obtain ⟨ledc, hledc⟩ : ∃ ledc, ledc = (H', listOf ys.toArray k2) :: (Tt, tup4 p (tkL [s.toks + 1 + 1, t3, t4, t5])) :: (Dl, oL) :: (L + 1 + 1, oS) :: rest := ⟨_, rfl⟩
    have N3 : News h₀ L hh2 ledc := by rw [hledc, ← ep]; exact N2
    have hSat : SpotsAt w ledc Dl (Sd ++ [(num, p)]) := by rw [hledc]; exact hSat
    have hHat : IntsAt ledc H' (hs.map fun n => if n ∈ tkl then num else n) := ⟨ys, k2, by rw [hledc]; simp, hi5⟩
    have rc : ∀ x ∈ rest, x ∈ ledc := fun x hx => by rw [hledc]; simp [hx]
    have cc : ∀ x ∈ C0, x ∈ ledc := fun x hx => rc x (gC0 x hx)
    have hMat : MeetsAt ledc M mt := cf.meets.mono cc
    have hPk := cf.pick.mono cc
    have hOr : OrdAt w ledc o := hPk.ord
    have hb1 : ∀ q ∈ mt, q.1 < (hs.map fun n => if n ∈ tkl then num else n).length ∧ q.2 < (hs.map fun n => if n ∈ tkl then num else n).length := fun q hq => by
      have := cf.mtb q hq
      rw [List.length_map]
      walk_at "mine om"
    have hb2 : (hs.map fun n => if n ∈ tkl then num else n).length < 100 := by rw [List.length_map]; walk_at "mine om"
    have hb3 := hI.held
    have hb4 := hI.sunk
    have hb5 := hI.lap
    have gcnt : (L + 1, oc) ∈ ledc := cc _ hc1
    have gspo : (L + 1 + 1, oS) ∈ ledc := by rw [hledc]; simp
    have hHpt : @Ne Nat H' pt := Ne.symm (hne2 (pt, listOf ptrs kp) (by simp [gpt]))
    clear N2 NA hne2
    have h34 : 3 ≤ q.nl ∧ q.nl ≤ 4 := by
      have h1 := cf.ok
      unfold OptOk at h1
      walk_at "mine om"
    have hbk : ∀ x ∈ Sd ++ [(num, p)], 0 ≤ x.1 ∧ x.1 < 1000 := fun x hx => by
      have h1 := hks x hx
      have h2 := hI.key x hx
      have h3 := hI.picks_le
      have h4 := cf.most20
      walk_at "mine om"
    (try dsimp only)
    k_steps
    show wpAny _ _ _ _ _ _
    refine wpAny_call ?_
    refine' spec_version ?c1 ?c2 hSat hOr h34 hlen hI.ok hbk ?_
    case c1 => walk_at "mine cx"
    case c2 => walk_at "mine room"
    intro v d fl T t lv led1 hh3 tk3 F3 N4 hd4v hver hTt hlv hsub4 hfl4 hql4
    (try dsimp only)
    k_steps
    show wpAny _ _ _ _ _ _
    refine wpAny_call ?_
    have c1' : ∀ x ∈ ledc, x ∈ led1 := hsub4
    have hop1 : OptAt w led1 op q := cf.opt.mono fun x hx => c1' x (cc x hx)
    have hsm := lv_small hlv hlen
    refine' spec_score ?c1 ?c2 hd4v hop1 hver cf.ok hlv.1 hsm ?_
    case c1 => walk_at "mine cx"
    case c2 => walk_at "mine room"
    intro T2 b tt1 tt2 t2' hh5 tk5 hsc F5 N5 hT2 hdT2
    obtain ⟨pd, pt1, pt2, po1, po2, _⟩ := cf.pick
    have gpk : (pk, instObj 606 pd) ∈ led1 := c1' _ (cc _ po1)
    have gpd := c1' _ (cc _ po2)
    (try dsimp only)
    k_steps
    show wpAny _ _ _ _ _ _
    refine wpAny_call ?_
    obtain ⟨ledp, hledp⟩ : ∃ ledp, ledp = (d, verD w q.nl o fl T2 b t2') :: (T2, tup2 (lvTop lv b) (lvBot q b) tt1 tt2) :: led1 := ⟨_, rfl⟩
    have N6 : News h₀ L hh5 ledp := by rw [hledp]; exact N5
    have c2' : ∀ x ∈ led1, x ∈ ledp := fun x hx => by rw [hledp]; simp [hx]
    have gpt6 : (pt, listOf ptrs kp) ∈ ledp := c2' _ (c1' _ (rc _ gpt))
    obtain ⟨rest5, N7, y1, y2, y3⟩ := led_split N6 gpt6
    have k5 : ∀ x ∈ led1, @Ne Nat x.1 pt → x ∈ rest5 := fun x hx hn => y2 x (c2' x hx) hn
    have c0 : ∀ x ∈ C0, x ∈ rest5 := fun x hx => k5 x (c1' x (cc x hx)) (cf.nep x hx)
    have hd7 : (d, verD w q.nl o fl T2 b t2') ∈ rest5 := y2 _ (by rw [hledp]; simp) (by rintro rfl; exact led_cls N6 (by rw [hledp]; exact List.mem_cons_self ..) gpt6 (by simp))
    have hT7 : (T2, tup2 (lvTop lv b) (lvBot q b) tt1 tt2) ∈ rest5 := y2 _ (by rw [hledp]; simp) (by rintro rfl; exact led_cls N6 (by rw [hledp]; exact List.mem_cons_of_mem _ (List.mem_cons_self ..)) gpt6 (by simp))
    have hver7 : VerAt w rest5 v d fl o lv := (hver.mono c2').but N6 gpt6 (Ne.symm (hfl4 _ (rc _ gpt))) (fun q' hq' => Ne.symm (hql4 q' hq' _ (rc _ gpt))) (cf.pick.mono c0).ord fun x hx hn => y2 x hx hn
    have hcell : ∀ {x : Addr} {ob : Obj}, (x, ob) ∈ ledc → @LT.lt Nat _ x pt → (x, ob) ∈ rest5 := fun hx hn => k5 _ (c1' _ hx) (Nat.ne_of_lt hn)
    have hptL := cf.ptL
    have z2 := hcell gspo (by walk_at "mine om")
    have z3 := hcell (rc _ g3) (by walk_at "mine om")
    have z4 := hcell (rc _ g4) (by walk_at "mine om")
    have z5 := hcell (rc _ g5) (by walk_at "mine om")
    have hSp7 : SpotsAt w rest5 Dl (Sd ++ [(num, p)]) := by
      obtain ⟨s1, s2, so, skv, s3, s4, s5⟩ := (hSat.mono fun x hx => c2' x (c1' x hx)).out
      refine SpotsAt.of s1 s2 (y2 _ s3 ?_) s4 (s5.but N6 gpt6 notup_list fun x hx hn => y2 x hx hn)
      rintro rfl
      have := led_eq N6 s3 gpt6
      have e := isDict_cls s4
      rw [this] at e
      simp at e
    have hH7 : IntsAt rest5 H' (hs.map fun n => if n ∈ tkl then num else n) := by
      obtain ⟨vsH', kH', w1, w2⟩ := hHat
      exact ⟨vsH', kH', k5 _ (c1' _ w1) hHpt, w2⟩
    have mkW : ∀ (m' : Str → Option Value) (nw : List (Addr × Obj)) (ptrs' : Array Value), (∀ x ∈ rest5, x ∈ nw) → (pt, listOf ptrs' kp) ∈ nw → ptrs'.size = q.nl.toNat → (∀ x ∈ ptrs', PtrOk x) →
        (Has m' [(Str.ofString "options", .ref op), (Str.ofString "order", .ref o), (Str.ofString "holder", .ref H'), (Str.ofString "meets", .ref M), (Str.ofString "begun", .ref Bg), (Str.ofString "most", .int most t1), (Str.ofString "picker", .ref pk), (Str.ofString "pointers", .ref pt), (Str.ofString "version", .ref v), (Str.ofString "picks", .int picks t2)]) →
        WSt w L q.nl op o pk pt M Bg q mt bg most C0 m' nw (Sd ++ [(num, p)]) (hs.map fun n => if n ∈ tkl then num else n) picks Dl H' v d fl T2 lv b t2' ptrs' kp := by
      rintro m' nw ptrs' hnw w1 w2 w3 hnms
      exact ⟨⟨_, _, hnms⟩, ⟨_, hnw _ z2, dS⟩, ⟨_, _, hnw _ z3, hd3⟩, ⟨_, _, hnw _ z4, hd4⟩, ⟨_, _, hnw _ z5, hd5⟩, fun x hx => hnw _ (c0 x hx), w1, w2, w3, hSp7.mono hnw, hH7.mono hnw, hver7.mono hnw, hnw _ hd7, hlv, hI, hks, hlen, pk0⟩
    refine' spec_pick ?c1 ?c2 y1 (cf.pick.mono c0) (cf.opt.mono c0) hver7 hd7 hT7 cf.ok hlv.1 ptz pto hsm (scored_hi cf.ok hsc) ?r0 ?r1
    case c1 => walk_at "mine cx"
    case c2 => walk_at "mine room"
    · intro hlt hh8 tk8 F8 N8
      have hlow := scored_low cf.ok hsc hlt
      (try dsimp only)
      k_steps
      exact ret _ _ _ _ _ _ _ _ _ _ _ _ _ (by k_asm) (by k_asm) (mkW _ _ _ (fun x hx => List.mem_cons_of_mem _ hx) (List.mem_cons_self ..) ptz pto (by walk_at "mine has")) (.inl ⟨rfl, hlow⟩)
    · intro hle c' cd' ci' x0 x1 g0 g1' co' us' gp' ed' pl' tc' v' ptrs' led8 hh8 tk8 F8 N8 q1 q2 q3 q4 q5 q6 q7 q8 q9 q10
      have hhi := scored_hi cf.ok hsc hle
      have ptz' : ptrs'.size = q.nl.toNat := by rw [q6]; simpa using ptz
      have pto' : ∀ x ∈ ptrs', PtrOk x := fun x hx => by
        rw [q6] at hx
        simp only [List.mem_toArray] at hx
        rcases List.mem_or_eq_of_mem_set hx with h | h
        · exact pto x (by simpa using h)
        · rw [h]; exact q5
      (try dsimp only)
      k_steps
      exact ret _ _ _ _ _ _ _ _ _ _ _ _ _ (by k_asm) (by k_asm) (mkW _ _ _ q7 q4 ptz' pto' (by walk_at "mine has")) (.inr ⟨c', cd', ci', x0, x1, co', us', gp', ed', pl', g0, g1', tc', rfl, q1, q2, q3, q8, q9, q10, hhi.1, hhi.2.1⟩)
-- turn2
theorem drop1_take {S : Spots} {tk : List Int} {i : Nat} {x : Int × Sp} (h : S[i]? = some x) : drop1 (S.take (i + 1)) tk = drop1 (S.take i) tk ++ (if x.1 ∈ tk then [] else [x]) := by
  unfold drop1
  rw [List.take_add_one, h, List.filter_append]
  simp only [Option.toList]
  by_cases e : x.1 ∈ tk <;> simp [e]
theorem key_fresh {S : Spots} {tk : List Int} {i : Nat} {x : Int × Sp} (hd : (keysOf S).Nodup) (h : S[i]? = some x) : x.1 ∉ keysOf (drop1 (S.take i) tk) := by
  intro hm
  obtain ⟨y, hy, e⟩ := List.mem_map.mp hm
  have hy2 := (List.mem_filter.mp hy).1
  obtain ⟨j, hj⟩ := List.getElem?_of_mem hy2
  have hj1 := (List.getElem?_eq_some_iff.mp hj).1
  rw [List.length_take] at hj1
  rw [List.getElem?_take] at hj
  have hji : j < i := by walk_at "mine om"
  rw [if_pos hji] at hj
  have k1 : (keysOf S)[j]? = some x.1 := by unfold keysOf; rw [List.getElem?_map, hj]; simp [e]
  have k2 : (keysOf S)[i]? = some x.1 := by unfold keysOf; rw [List.getElem?_map, h]; rfl
  have := nodup_at hd k1 k2
  walk_at "mine om"
theorem map_lo {f : Int → Nat} {tk : List Int} {M : Int} (h : M ∈ tk.map fun n => ((f n : Nat) : Int)) : ∃ n ∈ tk, M = ((f n : Nat) : Int) := by
  obtain ⟨n, hn, e⟩ := List.mem_map.mp h
  exact ⟨n, hn, e.symm⟩
inductive JLeft (P' : PySem.Program) (w : World) (led : Led) (S : Spots) (tkl : List Int) (Dl : Addr) (l : List (Str × Value)) (i : Nat) (m : Fm) (nw : Led) : Prop
  | mk (hm : Has m l) (hO : ∀ x ∈ led, x ∈ nw) (ol : Obj) (kvl : List (Int × Value)) (h1 : (Dl, ol) ∈ nw) (h2 : Obj.IsDictOf (PySem.intKind P' w) ol kvl) (h3 : SpotsIn nw kvl (drop1 (S.take i) tkl))
theorem law_t2b {w : World} {A₀ : Around} {h₀ base : Heap} {L a : Addr} {m mg mb : Str → Option Value} {s : Shared} {Q : Flow → Shared → Prop} {E} {nm : Str} {cdv : Value} {outer : List Env} {loose} {mean : ExcName → Option Value}
  {body : List Stmt} {scope : Scope} {led C0 : List (Addr × Obj)} {op o pk pt M Bg D H Tk c cd v0 co us ci gp ed pl : Addr} {nl sl most picks num : Int} {q : Opt} {mt : List (Nat × Nat)} {bg : List Sp} {v3 : Option Value} {S : Spots} {hs t0 t1' : List Int} {ptrs : Array Value} {kp : Nat} {tc : Nat → Tok} {os o3 o4 o5 : Obj} {tn t1 t2 : Tok} {pa pb : Nat}
  (hL : LawAt w body scope) (B : Below A₀ base outer h₀) (F : Fr h₀ L s.heap m) (X : (KM w.params).In h₀) (T' : Top VW loose mean mg mb h₀) (hh : A₀.handled = none) (hroom : A₀.depth + 400 < 1000)
  (cf : CFacts w L nl op o pk pt M Bg q mt bg most C0) (N : News h₀ L s.heap led)
  (hm : Has m [(Str.ofString "options", .ref op), (Str.ofString "order", .ref o), (Str.ofString "holder", .ref H), (Str.ofString "meets", .ref M), (Str.ofString "begun", .ref Bg), (Str.ofString "most", .int most t1), (Str.ofString "picker", .ref pk), (Str.ofString "pointers", .ref pt), (Str.ofString "picks", .int (picks + 1) t2), (Str.ofString "c", .ref c)])
  (hc2 : (L + 1 + 1, os) ∈ led) (hd2 : os.data = .cell (some (.ref D))) (hc3 : (L + 1 + 1 + 1, o3) ∈ led) (hd3 : o3.data = .cell v3) (hc4 : (L + 1 + 1 + 1 + 1, o4) ∈ led) (hd4 : o4.data = .cell (some (.ref Tk))) (hc5 : (L + 1 + 1 + 1 + 1 + 1, o5) ∈ led) (hd5 : o5.data = .cell (some (.int num tn)))
  (hC0 : ∀ x ∈ C0, x ∈ led) (hc : (c, instObj 536 cd) ∈ led) (hcd : (cd, compD w sl v0 op co us ci gp ed pl tc) ∈ led) (hTk : IntsAt led Tk (t0 ++ t1')) (hH : IntsAt led H hs) (hptr : (pt, listOf ptrs kp) ∈ led) (ptz : ptrs.size = nl.toNat) (pto : ∀ x ∈ ptrs, PtrOk x)
  (hS : SpotsAt w led D S) (hI : LInv nl bg mt most S hs picks) (hP : Pick S sl t0 t1' pa pb) (hsl0 : 0 ≤ sl) (hsl1 : sl + 1 < nl) (hnum : num ∉ keysOf (drop1 S (t0 ++ t1'))) (hnk : num ≤ 50 + (picks + 1)) (hn10 : 10 ≤ num) (hks : ∀ x ∈ S, 10 ≤ x.1) (hlen : S.length ≤ 4) (pk0 : 0 ≤ picks)
  (ret : ∀ h' tks m' nw S' hs' D' H' v d fl T lv sl' t ptrs', Fr h₀ L h' m' → News h₀ L h' nw → WSt w L nl op o pk pt M Bg q mt bg most C0 m' nw S' hs' (picks + 1) D' H' v d fl T lv sl' t ptrs' kp → CSt w op v nl lv q m' nw sl' → Q .next { s with heap := h', toks := tks }) :
  wpAny (model P w) (A₀.deeper (envOfC nm scope L a cdv)) (execs ((whileOf body).drop 6) (envOfC nm scope L a cdv)) Q E s := by
  refine' law_lit hL ?h2 ?k
  case h2 => k_is
  intro e1 e2
  subst e1
  subst e2
  simp only [whileOf, List.getElem?_cons_succ, List.getElem?_cons_zero, List.drop_succ_cons, List.drop_zero]
  refine hideG fun G9 hG9 => ?_
  have F := Fr.with _ F hm
  obtain ⟨slo, snd', oD, kvs, hD, hdd, hSin⟩ := hS.out
  have hks2 : kvs.map (·.1) = keysOf S := hSin.1
  obtain ⟨tkl, htkl⟩ : ∃ tkl, tkl = t0 ++ t1' := ⟨_, rfl⟩
  have htS : ∀ n ∈ tkl, n ∈ keysOf S := fun n hn => by
    rw [htkl] at hn
    rcases List.mem_append.mp hn with hn | hn
    · obtain ⟨p, hp, _⟩ := hP.sub0 n hn; exact keys_mem hp
    · obtain ⟨p, hp, _⟩ := hP.in1 n hn; exact keys_mem hp
  have htne : 0 < tkl.length := by
    have := hP.ne
    rw [htkl]
    cases t0 with
    | nil => exact absurd rfl this
    | cons x r => simp
  rw [← htkl] at hTk
  obtain ⟨vsT, kT, hTl, hTI⟩ := hTk
  have hvT := IntsAre.length hTI
  have htz : tkl.length ≤ 4 := by
    have h1 : tkl.Nodup := htkl ▸ hP.nd
    have : ∀ (l l' : List Int), l.Nodup → (∀ x ∈ l, x ∈ l') → l.length ≤ l'.length := by
      intro l
      induction l with
      | nil => intro l' _ _; simp
      | cons x r ih =>
        intro l' hn hs
        have hn' := List.nodup_cons.mp hn
        have hx := hs x (List.mem_cons_self ..)
        have h2 := ih (l'.erase x) hn'.2 fun y hy => (List.mem_erase_of_ne (fun e => hn'.1 (by rw [← e]; exact hy))).mpr (hs y (List.mem_cons_of_mem _ hy))
        rw [List.length_erase_of_mem hx] at h2
        have := List.length_pos_of_mem hx
        simp only [List.length_cons]
        walk_at "mine om"
    have h2 := this tkl (keysOf S) h1 htS
    unfold keysOf at h2
    rw [List.length_map] at h2
    walk_at "mine om"
  have elt : ∀ {v₃ : Value} {j : Nat}, vsT.toArray[j]? = some v₃ → ∃ n t, v₃ = .int n t ∧ n ∈ tkl := fun {v₃ j} hv3 => by
    rw [List.getElem?_toArray] at hv3
    have hj := (List.getElem?_eq_some_iff.mp hv3).1
    obtain ⟨n, hn⟩ : ∃ n, tkl[j]? = some n := ⟨_, List.getElem?_eq_getElem (by walk_at "mine om")⟩
    obtain ⟨t, ht⟩ := ints_at hTI hn
    rw [ht] at hv3
    exact ⟨n, t, (Option.some.inj hv3).symm, List.mem_of_getElem? hn⟩
  have hne1 : 0 < (tkl.map fun n => ((spAt S n).lo : Int)).length := by rw [List.length_map]; exact htne
  have hne2 : 0 < (tkl.map fun n => ((spAt S n).hi : Int)).length := by rw [List.length_map]; exact htne
  refine hG9 ?_
  k_steps
  refine comp_list hh (by k_asm) (by k_asm) (by k_mem) (by simp; walk_at "mine om") (fun _ => true) (MapOf fun n => ((spAt S n).lo : Int)) (by decide) (by rfl) (by rfl) (fun _ _ _ _ _ _ _ _ => wpAny_tests_nil ⟨rfl, keeps_toks⟩) ?_ ?_
  · intro C j v₃ s₃ m₃ E' hv3 hz3 hT3
    refine hideG fun G9 hG9 => ?_
    obtain ⟨F₃, N₃, ns₃, at₃⟩ := hT3
    obtain ⟨n, tn3, rfl, hn⟩ := elt hv3
    obtain ⟨a', t', e1', e2'⟩ := hSin.2 n _ (spAt_mem (htS n hn))
    refine hG9 ?_
    k_steps
    all_goals first
      | exact keeps_toks
      | exact ⟨n, tn3, _, rfl, rfl⟩
      | w_report
  intro ys hp2 D1 hh2 tk2 k2 F2 N2 hne3
  rw [List.filter_eq_self.mpr (fun _ _ => rfl)] at hp2
  have hi5 := paired_ints (f := fun n => ((spAt S n).lo : Int)) hp2 hTI
  have N2 : News h₀ L hh2 ((D1, listOf ys.toArray k2) :: led) := N2
  k_steps
  rename_i hx1 Mlo tlo tkx1 hMlo hlelo hx2 FL NL
  refine comp_list hh (by k_asm) (by k_asm) (by k_mem) (by simp; walk_at "mine om") (fun _ => true) (MapOf fun n => ((spAt S n).hi : Int)) (by decide) (by rfl) (by rfl) (fun _ _ _ _ _ _ _ _ => wpAny_tests_nil ⟨rfl, keeps_toks⟩) ?_ ?_
  · intro C j v₃ s₃ m₃ E' hv3 hz3 hT3
    refine hideG fun G9 hG9 => ?_
    obtain ⟨F₃, N₃, ns₃, at₃⟩ := hT3
    obtain ⟨n, tn3, rfl, hn⟩ := elt hv3
    obtain ⟨a', t', e1', e2'⟩ := hSin.2 n _ (spAt_mem (htS n hn))
    refine hG9 ?_
    k_steps
    all_goals first
      | exact keeps_toks
      | exact ⟨n, tn3, _, rfl, rfl⟩
      | w_report
  clear FL
  intro ys3 hp3 D3 hh3 tk3 k3 F3 N3 hne4
  rw [List.filter_eq_self.mpr (fun _ _ => rfl)] at hp3
  have hi6 := paired_ints (f := fun n => ((spAt S n).hi : Int)) hp3 hTI
  have N3 : News h₀ L hh3 ((D3, listOf ys3.toArray k3) :: led) := fun x hx => by
    simp only [List.mem_cons] at hx
    rcases hx with rfl | hx
    · exact N3 _ (by simp)
    · exact N3 _ (by simp [hx])
  k_steps
  rename_i hy1 Mhi thi tky1 hMhi hgehi hy2 FH NH
  refine comp_list hh (by k_asm) (by k_asm) (by k_mem) (by simp; walk_at "mine om") (fun _ => true) (MapOf fun n => (spAt S n).oct) (by decide) (by rfl) (by rfl) (fun _ _ _ _ _ _ _ _ => wpAny_tests_nil ⟨rfl, keeps_toks⟩) ?_ ?_
  · intro C j v₃ s₃ m₃ E' hv3 hz3 hT3
    refine hideG fun G9 hG9 => ?_
    obtain ⟨F₃, N₃, ns₃, at₃⟩ := hT3
    obtain ⟨n, tn3, rfl, hn⟩ := elt hv3
    obtain ⟨a', t', e1', e2'⟩ := hSin.2 n _ (spAt_mem (htS n hn))
    refine hG9 ?_
    k_steps
    all_goals first
      | exact keeps_toks
      | exact ⟨n, tn3, _, rfl, rfl⟩
      | w_report
  clear FH
  intro ys4 hp4 D4 hh4 tk4 k4 F4 N4 hne5
  rw [List.filter_eq_self.mpr (fun _ _ => rfl)] at hp4
  have hi7 := paired_ints (f := fun n => (spAt S n).oct) hp4 hTI
  have N4 : News h₀ L hh4 ((D4, listOf ys4.toArray k4) :: led) := fun x hx => by
    simp only [List.mem_cons] at hx
    rcases hx with rfl | hx
    · exact N4 _ (by simp)
    · exact N4 _ (by simp [hx])
  k_steps
  rename_i ha1 tka toc ha2 Dl ha3 ol hlo hols hof holi hoff lDl hN FD ND
  obtain ⟨nlo, hnlo, rfl⟩ := map_lo hMlo
  obtain ⟨nhi, hnhi, rfl⟩ := map_lo hMhi
  have hDlt : ∀ x ∈ led, @LT.lt Nat _ x.1 Dl := fun x hx => allLt_all lDl.2 x hx
  refine for_dict rfl hh (by k_asm) (by k_asm) (by k_mem) hdd slo (JLeft P w led S tkl Dl [(Str.ofString "options", .ref op), (Str.ofString "order", .ref o), (Str.ofString "holder", .ref H), (Str.ofString "meets", .ref M), (Str.ofString "begun", .ref Bg), (Str.ofString "most", .int most t1), (Str.ofString "picker", .ref pk), (Str.ofString "pointers", .ref pt), (Str.ofString "picks", .int (picks + 1) t2), (Str.ofString "c", .ref c), (Str.ofString "low", .int ((spAt S nlo).lo : Int) tlo), (Str.ofString "high", .int ((spAt S nhi).hi : Int) thi), (Str.ofString "octets", .int (tkl.map fun n => (spAt S n).oct).sum toc), (Str.ofString "left", .ref Dl)])
    ⟨(by walk_at "mine has"), fun x hx => by simp [hx], ol, [], by simp, holi, by rw [List.take_zero]; exact ⟨rfl, fun _ _ h => by cases h⟩⟩ ?_ ?_
  · intro I i n tq m₁ nw led₁ own h₁ tk₁ hn hJ hsub hnI hown hownI hll hnI' F₁ N₁
    refine hideG fun G9 hG9 => ?_
    obtain ⟨hmm, hO, ol₁, kvl, hDl, hold, hSp⟩ := hJ
    have F₁ := Fr.with _ F₁ hmm
    have hSz := hSp.1
    rw [hks2] at hn
    obtain ⟨x, hx⟩ : ∃ x, S[i]? = some x := ⟨_, List.getElem?_eq_getElem (by have := (List.getElem?_eq_some_iff.mp hn).1; simpa [keysOf] using this)⟩
    have hxn : x.1 = n := by
      unfold keysOf at hn
      rw [List.getElem?_map, hx] at hn
      exact Option.some.inj hn
    have hxs : x.2 = spAt S n := by
      have := spAt_of hI.nd (show (x.1, x.2) ∈ S from List.mem_of_getElem? hx)
      rw [hxn] at this
      exact this.symm
    have hnk' := List.mem_of_getElem? hn
    obtain ⟨a', t', e1', e2'⟩ := hSin.2 n _ (spAt_mem hnk')
    have iID : @Ne Nat Dl I := hnI _ hDl
    have hSp' : SpotsIn (offL Dl nw) kvl (drop1 (S.take i) tkl) := hSp.but (fun z hz => N₁ z (hsub z hz)) hDl (notup_dict hold) fun z hz hn => mem_offL.mpr ⟨hz, hn⟩
    obtain ⟨rest₁, N₁', y1, y2, y3⟩ := led_split N₁ (hsub _ hDl)
    have hOr : ∀ z ∈ led, z ∈ rest₁ := fun z hz => y2 z (hsub z (hO z hz)) (Nat.ne_of_lt (hDlt z hz))
    have hwr : ∀ z ∈ offL Dl nw, z ∈ rest₁ := fun z hz => y2 z (hsub z (mem_offL.mp hz).1) (mem_offL.mp hz).2
    have hownr : ∀ z ∈ own, z ∈ rest₁ := fun z hz => y2 z (hown z hz) (by
      rcases hownI z hz with e | e
      · rw [e]; exact Ne.symm iID
      · rw [e]; exact Nat.ne_of_lt (hDlt _ hD))
    have k2' := hOr _ hc2
    have k4' := hOr _ hc4
    have kT' := hOr _ hTl
    have kD' := hOr _ hD
    have ka' := hOr _ e2'
    have hsz : kvl.length ≤ sizeLine := by
      have e1 := congrArg List.length hSz
      have e2 : (drop1 (S.take i) tkl).length ≤ (S.take i).length := List.length_filter_le ..
      simp only [keysOf, List.length_map, List.length_take] at e1 e2
      rw [sizeLine_eq]
      walk_at "mine om"
    have hdt := drop1_take (tk := tkl) hx
    rw [hxn] at hdt
    have hfr := key_fresh (tk := tkl) hI.nd hx
    rw [hxn] at hfr
    clear N₁
    by_cases hmem : n ∈ tkl
    · rw [if_pos hmem, List.append_nil] at hdt
      refine hG9 ?_
      k_steps
      refine ⟨_, _, _, _, rfl, by k_asm, by k_asm, fun z hz => by simp [hownr z hz], (by walk_at "mine has"), fun z hz => mem_offL.mpr ⟨by simp [hOr z hz], hnI _ (hO z hz)⟩, ol₁, kvl, mem_offL.mpr ⟨by simp, iID⟩, hold, ?_⟩
      rw [hdt]
      exact hSp'.mono fun z hz => mem_offL.mpr ⟨by simp [hwr z hz], hnI _ (mem_offL.mp hz).1⟩
    · rw [if_neg hmem] at hdt
      refine hG9 ?_
      k_steps
      rename_i hA1 ol₂ hdl2 FA NA
      refine ⟨_, _, _, _, rfl, by k_asm, by k_asm, fun z hz => by simp [hownr z hz], (by walk_at "mine has"), fun z hz => mem_offL.mpr ⟨by simp [hOr z hz], hnI _ (hO z hz)⟩, ol₂, _, mem_offL.mpr ⟨by simp, iID⟩, by assumption, ?_⟩
      rw [hdt, ← hxn, show x = (x.1, x.2) from rfl, hxs, hxn]
      exact spots_put hSp' (fun z hz => mem_offL.mpr ⟨by simp [hwr z hz], hnI _ (mem_offL.mp hz).1⟩) hfr (mem_offL.mpr ⟨by simp [ka'], hnI _ (hO _ e2')⟩)
  · intro h₁ tk₁ m₁ nw F₁ N₁ hJ
    obtain ⟨hnames, hO, ol₁, kvl, hDl, hold, hSp⟩ := hJ
    have hkl : kvs.length = S.length := by have := congrArg List.length hks2; simpa [keysOf] using this
    rw [hkl, List.take_length] at hSp
    obtain ⟨rest₁, N₁', y1, y2, y3⟩ := led_split N₁ hDl
    have hOr : ∀ z ∈ led, z ∈ rest₁ := fun z hz => y2 z (hO z hz) (Nat.ne_of_lt (hDlt z hz))
    have hSp' : SpotsIn rest₁ kvl (drop1 S tkl) := hSp.but N₁ hDl (notup_dict hold) y2
    have hI' := LInv.step hI cf.mok hP hsl0 hsl1 hnum hnk (lo := (spAt S nlo).lo) (hi := (spAt S nhi).hi)
      (fun n hn => by have := hlelo _ (List.mem_map_of_mem (htkl ▸ hn)); walk_at "mine om") ⟨nlo, htkl ▸ hnlo, rfl⟩
      (fun n hn => by have := hgehi _ (List.mem_map_of_mem (htkl ▸ hn)); walk_at "mine om") ⟨nhi, htkl ▸ hnhi, rfl⟩
    unfold nextS nextH at hI'
    rw [← htkl] at hI' hnum
    have hlt : (drop1 S tkl).length < S.length := by
      obtain ⟨n, hn⟩ : ∃ n, n ∈ tkl := List.exists_mem_of_length_pos htne
      exact List.length_filter_lt_length_iff_exists.mpr ⟨_, spAt_mem (htS n hn), by simp [hn]⟩
    have hndd : (keysOf (drop1 S tkl)).Nodup := by
      have := hI'.nd
      unfold keysOf at this ⊢
      rw [List.map_append] at this
      exact (List.nodup_append.mp this).1
    exact law_t3 hL B F₁ X T' hh hroom cf N₁' y1 hnames (hOr _ hc2) hd2 (hOr _ hc3) hd3 (hOr _ hc4) hd4 (hOr _ hc5) hd5 (fun x hx => hOr _ (hC0 x hx)) (hOr _ hc) (hOr _ hcd) ⟨vsT, kT, hOr _ hTl, hTI⟩ (hH.mono hOr) (hOr _ hptr) ptz pto hlo hold hSp' hnum hndd hI'
      (fun x hx => by
        rcases List.mem_append.mp hx with hx | hx
        · exact hks x (List.mem_filter.mp hx).1
        · rw [List.mem_singleton.mp hx]; exact hn10)
      (by rw [List.length_append, List.length_singleton]; walk_at "mine om") (by walk_at "mine om") rfl
      (fun h' tks m' nw H' v d fl T lv sl' t ptrs' q1 q2 q3 q4 => ret h' tks m' nw _ _ _ H' v d fl T lv sl' t ptrs' q1 q2 q3 q4)
-- turn2a
theorem sub_len : ∀ (l l' : List Int), l.Nodup → (∀ x ∈ l, x ∈ l') → l.length ≤ l'.length
  | [], _, _, _ => by simp
  | x :: r, l', hn, hs => by
    have hn' := List.nodup_cons.mp hn
    have hx := hs x (List.mem_cons_self ..)
    have h2 := sub_len r (l'.erase x) hn'.2 fun y hy => (List.mem_erase_of_ne (fun e => hn'.1 (by rw [← e]; exact hy))).mpr (hs y (List.mem_cons_of_mem _ hy))
    rw [List.length_erase_of_mem hx] at h2
    have := List.length_pos_of_mem hx
    simp only [List.length_cons]
    walk_at "mine om"
theorem SpotsAt.cell {w : World} {h₀ h : Heap} {L c D : Addr} {led : List (Addr × Obj)} {S : Spots} {oc : Obj} {v : Option Value} (hs : SpotsAt w led D S) (N : News h₀ L h led) (hc : (c, oc) ∈ led) (hd : oc.data = .cell v) : SpotsAt w (offL c led) D S := by
  obtain ⟨s1, s2, so, skv, s3, s4, s5⟩ := hs.out
  exact SpotsAt.of s1 s2 (keep_cell N hc hd s3 (dict_nocell s4)) s4 (s5.but N hc (notup_cell hd) fun z hz hn => mem_offL.mpr ⟨hz, hn⟩)
theorem IntsAt.cell {h₀ h : Heap} {L c D : Addr} {led : List (Addr × Obj)} {S : List Int} {oc : Obj} {v : Option Value} (hs : IntsAt led D S) (N : News h₀ L h led) (hc : (c, oc) ∈ led) (hd : oc.data = .cell v) : IntsAt (offL c led) D S := by
  obtain ⟨vs, k, h1, h2⟩ := hs
  exact ⟨vs, k, keep_cell N hc hd h1 (fun _ e => by simp at e), h2⟩
theorem law_t2a {w : World} {A₀ : Around} {h₀ base : Heap} {L a : Addr} {m mg mb : Str → Option Value} {s : Shared} {Q : Flow → Shared → Prop} {E} {nm : Str} {cdv : Value} {outer : List Env} {loose} {mean : ExcName → Option Value}
  {body : List Stmt} {scope : Scope} {led C0 : List (Addr × Obj)} {op o pk pt M Bg D H Tk c cd v0 co us ci gp ed pl : Addr} {nl sl most picks : Int} {q : Opt} {mt : List (Nat × Nat)} {bg : List Sp} {v3 v5 : Option Value} {S : Spots} {hs t0 t1' : List Int} {ptrs : Array Value} {kp : Nat} {tc : Nat → Tok} {os o3 o4 o5 : Obj} {t1 t2 : Tok} {pa pb : Nat}
  (hL : LawAt w body scope) (B : Below A₀ base outer h₀) (F : Fr h₀ L s.heap m) (X : (KM w.params).In h₀) (T' : Top VW loose mean mg mb h₀) (hh : A₀.handled = none) (hroom : A₀.depth + 400 < 1000)
  (cf : CFacts w L nl op o pk pt M Bg q mt bg most C0) (N : News h₀ L s.heap led)
  (hm : Has m [(Str.ofString "options", .ref op), (Str.ofString "order", .ref o), (Str.ofString "holder", .ref H), (Str.ofString "meets", .ref M), (Str.ofString "begun", .ref Bg), (Str.ofString "most", .int most t1), (Str.ofString "picker", .ref pk), (Str.ofString "pointers", .ref pt), (Str.ofString "picks", .int (picks + 1) t2), (Str.ofString "c", .ref c)])
  (hc2 : (L + 1 + 1, os) ∈ led) (hd2 : os.data = .cell (some (.ref D))) (hc3 : (L + 1 + 1 + 1, o3) ∈ led) (hd3 : o3.data = .cell v3) (hc4 : (L + 1 + 1 + 1 + 1, o4) ∈ led) (hd4 : o4.data = .cell (some (.ref Tk))) (hc5 : (L + 1 + 1 + 1 + 1 + 1, o5) ∈ led) (hd5 : o5.data = .cell v5)
  (hC0 : ∀ x ∈ C0, x ∈ led) (hc : (c, instObj 536 cd) ∈ led) (hcd : (cd, compD w sl v0 op co us ci gp ed pl tc) ∈ led) (hTk : IntsAt led Tk (t0 ++ t1')) (hH : IntsAt led H hs) (hptr : (pt, listOf ptrs kp) ∈ led) (ptz : ptrs.size = nl.toNat) (pto : ∀ x ∈ ptrs, PtrOk x)
  (hS : SpotsAt w led D S) (hI : LInv nl bg mt most S hs picks) (hP : Pick S sl t0 t1' pa pb) (hsl0 : 0 ≤ sl) (hsl1 : sl + 1 < nl) (hks : ∀ x ∈ S, 10 ≤ x.1) (hlen : S.length ≤ 4) (pk0 : 0 ≤ picks)
  (ret : ∀ h' tks m' nw S' hs' D' H' v d fl T lv sl' t ptrs', Fr h₀ L h' m' → News h₀ L h' nw → WSt w L nl op o pk pt M Bg q mt bg most C0 m' nw S' hs' (picks + 1) D' H' v d fl T lv sl' t ptrs' kp → CSt w op v nl lv q m' nw sl' → Q .next { s with heap := h', toks := tks }) :
  wpAny (model P w) (A₀.deeper (envOfC nm scope L a cdv)) (execs ((whileOf body).drop 4) (envOfC nm scope L a cdv)) Q E s := by
  refine' law_lit hL ?h2 ?k
  case h2 => k_is
  intro e1 e2
  subst e1
  subst e2
  simp only [whileOf, List.getElem?_cons_succ, List.getElem?_cons_zero, List.drop_succ_cons, List.drop_zero]
  refine hideG fun G9 hG9 => ?_
  have F := Fr.with _ F hm
  obtain ⟨rest, hrest⟩ : ∃ rest, rest = offL (L + 1 + 1 + 1 + 1 + 1) led := ⟨_, rfl⟩
  have kc : ∀ {x : Addr} {ob : Obj}, (x, ob) ∈ led → (∀ v, ob.data ≠ .cell v) → (x, ob) ∈ rest := fun hx hn => by rw [hrest]; exact keep_cell N hc5 hd5 hx hn
  have kr : ∀ {x : Addr × Obj}, x ∈ led → @Ne Nat x.1 (L + 1 + 1 + 1 + 1 + 1) → x ∈ rest := fun hx hn => by rw [hrest]; exact mem_offL.mpr ⟨hx, hn⟩
  have N₁ : News h₀ L s.heap ((L + 1 + 1 + 1 + 1 + 1, o5) :: rest) := fun x hx => by
    simp only [List.mem_cons] at hx
    rcases hx with rfl | hx
    · exact N _ hc5
    · rw [hrest] at hx; exact N _ (mem_offL.mp hx).1
  have r2 : ∀ x ∈ rest, x.1 ≠ (L + 1 + 1 + 1 + 1 + 1 : Addr) := fun x hx => by rw [hrest] at hx; exact (mem_offL.mp hx).2
  have gC0 : ∀ x ∈ C0, x ∈ rest := fun x hx => kr (hC0 x hx) (cf.ne5 x hx)
  have gc := kc hc (fun _ e => by simp at e)
  have gcd := kc hcd (fun _ e => by simp at e)
  have g2 := kr hc2 (by dsimp only; walk_at "mine om")
  have g3 := kr hc3 (by dsimp only; walk_at "mine om")
  have g4 := kr hc4 (by dsimp only; walk_at "mine om")
  have gTk : IntsAt rest Tk (t0 ++ t1') := by rw [hrest]; exact hTk.cell N hc5 hd5
  have gH : IntsAt rest H hs := by rw [hrest]; exact hH.cell N hc5 hd5
  have gS : SpotsAt w rest D S := by rw [hrest]; exact hS.cell N hc5 hd5
  have gpt := kr hptr (by have := cf.ptL; dsimp only; walk_at "mine om")
  obtain ⟨n0, tr, htr⟩ : ∃ n0 tr, t0 ++ t1' = n0 :: tr := by
    cases e : t0 ++ t1' with
    | nil => exact absurd (List.append_eq_nil_iff.mp e).1 hP.ne
    | cons x r => exact ⟨x, r, rfl⟩
  have hn0 : n0 ∈ t0 ++ t1' := by rw [htr]; exact List.mem_cons_self ..
  have hnS : n0 ∈ keysOf S := by
    rcases List.mem_append.mp hn0 with hn | hn
    · obtain ⟨p, hp, _⟩ := hP.sub0 n0 hn; exact keys_mem hp
    · obtain ⟨p, hp, _⟩ := hP.in1 n0 hn; exact keys_mem hp
  have hb0 := hI.key _ (spAt_mem hnS)
  have hb1 := hks _ (spAt_mem hnS)
  obtain ⟨vsT, kT, hTl, hTI⟩ := gTk
  have gTk : IntsAt rest Tk (t0 ++ t1') := ⟨vsT, kT, hTl, hTI⟩
  obtain ⟨tn0, hv0⟩ := ints_at hTI (show (t0 ++ t1')[0]? = some n0 by rw [htr]; rfl)
  have hx0 : vsT.toArray[(0 : Int).toNat]? = some (.int n0 tn0) := by rw [List.getElem?_toArray]; exact hv0
  have hvT := IntsAre.length hTI
  have hbz : (t0 ++ t1').length < 1000 := by
    have h2 := sub_len (t0 ++ t1') (keysOf S) hP.nd fun n hn => by
      rcases List.mem_append.mp hn with hn | hn
      · obtain ⟨p, hp, _⟩ := hP.sub0 n hn; exact keys_mem hp
      · obtain ⟨p, hp, _⟩ := hP.in1 n hn; exact keys_mem hp
    unfold keysOf at h2
    rw [List.length_map] at h2
    walk_at "mine om"
  dsimp only at hb0 hb1
  have hnum1 : 50 + (picks + 1) ∉ keysOf (drop1 S (t0 ++ t1')) := fun hm => by
    obtain ⟨x, hx, e⟩ := List.mem_map.mp hm
    have := hI.key x (List.mem_filter.mp hx).1
    walk_at "mine om"
  have hnum2 : n0 ∉ keysOf (drop1 S (t0 ++ t1')) := fun hm => by
    obtain ⟨x, hx, e⟩ := List.mem_map.mp hm
    have := (List.mem_filter.mp hx).2
    rw [e] at this
    simp only [decide_eq_true_eq] at this
    exact this hn0
  clear N
  by_cases h1 : 1 < vsT.length
  · refine hG9 ?_
    refine wp_cut ?_
    k_steps
    refine wp_cut ?_
    k_steps
    rename News h₀ L _ _ => Nz
    rename Fr h₀ L _ _ => Fz
    rename Obj.data _ = Data.cell (some (Value.int _ _)) => dz
    exact law_t2b hL B Fz X T' hh hroom cf Nz (by walk_at "mine has") (List.mem_cons_of_mem _ g2) hd2 (List.mem_cons_of_mem _ g3) hd3 (List.mem_cons_of_mem _ g4) hd4 (List.mem_cons_self ..) dz (fun x hx => List.mem_cons_of_mem _ (gC0 x hx)) (List.mem_cons_of_mem _ gc) (List.mem_cons_of_mem _ gcd)
      (gTk.mono fun x hx => List.mem_cons_of_mem _ hx) (gH.mono fun x hx => List.mem_cons_of_mem _ hx) (List.mem_cons_of_mem _ gpt) ptz pto (gS.mono fun x hx => List.mem_cons_of_mem _ hx) hI hP hsl0 hsl1 hnum1 (by walk_at "mine om") (by walk_at "mine om") hks hlen pk0
      (fun h' tks m' nw S' hs' D' H' v d fl T lv sl' t ptrs' q1 q2 q3 q4 => ret h' tks m' nw S' hs' D' H' v d fl T lv sl' t ptrs' q1 q2 q3 q4)
  · refine hG9 ?_
    refine wp_cut ?_
    k_steps
    refine wp_cut ?_
    k_steps
    rename News h₀ L _ _ => Nz
    rename Fr h₀ L _ _ => Fz
    rename Obj.data _ = Data.cell (some (Value.int _ _)) => dz
    exact law_t2b hL B Fz X T' hh hroom cf Nz (by walk_at "mine has") (List.mem_cons_of_mem _ g2) hd2 (List.mem_cons_of_mem _ g3) hd3 (List.mem_cons_of_mem _ g4) hd4 (List.mem_cons_self ..) dz (fun x hx => List.mem_cons_of_mem _ (gC0 x hx)) (List.mem_cons_of_mem _ gc) (List.mem_cons_of_mem _ gcd)
      (gTk.mono fun x hx => List.mem_cons_of_mem _ hx) (gH.mono fun x hx => List.mem_cons_of_mem _ hx) (List.mem_cons_of_mem _ gpt) ptz pto (gS.mono fun x hx => List.mem_cons_of_mem _ hx) hI hP hsl0 hsl1 hnum2 (by walk_at "mine om") (by walk_at "mine om") hks hlen pk0
      (fun h' tks m' nw S' hs' D' H' v d fl T lv sl' t ptrs' q1 q2 q3 q4 => ret h' tks m' nw S' hs' D' H' v d fl T lv sl' t ptrs' q1 q2 q3 q4)
-- pickof
theorem mLo_mem {a : Nat} : ∀ {fs : List (Addr × Tab)} {p : Addr × Tab}, p ∈ fs → mLo a fs ≤ p.2.lo
  | x :: r, p, h => by
    unfold mLo
    rw [List.foldl_cons]
    have h1 := mLo_le (a := if x.2.lo < a then x.2.lo else a) (fs := r)
    unfold mLo at h1
    rcases List.mem_cons.mp h with e | h
    · subst e
      refine Nat.le_trans h1 ?_
      split <;> omega
    · have := mLo_mem (a := if x.2.lo < a then x.2.lo else a) h
      unfold mLo at this
      exact this
theorem mHi_ge {a : Nat} : ∀ {fs : List (Addr × Tab)}, a ≤ mHi a fs
  | [] => Nat.le_refl _
  | p :: r => by
    unfold mHi
    rw [List.foldl_cons]
    have := mHi_ge (a := if a < p.2.hi then p.2.hi else a) (fs := r)
    unfold mHi at this
    refine Nat.le_trans ?_ this
    split <;> omega
theorem mHi_mem {a : Nat} : ∀ {fs : List (Addr × Tab)} {p : Addr × Tab}, p ∈ fs → p.2.hi ≤ mHi a fs
  | x :: r, p, h => by
    unfold mHi
    rw [List.foldl_cons]
    have h1 := mHi_ge (a := if a < x.2.hi then x.2.hi else a) (fs := r)
    unfold mHi at h1
    rcases List.mem_cons.mp h with e | h
    · subst e
      refine Nat.le_trans ?_ h1
      split <;> omega
    · have := mHi_mem (a := if a < x.2.hi then x.2.hi else a) h
      unfold mHi at this
      exact this
theorem gLo_mem : ∀ {fs : List (Addr × Tab)} {p : Addr × Tab}, p ∈ fs → gLo fs ≤ p.2.lo
  | x :: r, p, h => by
    rcases List.mem_cons.mp h with e | h
    · subst e; exact mLo_le
    · exact mLo_mem h
theorem gHi_mem : ∀ {fs : List (Addr × Tab)} {p : Addr × Tab}, p ∈ fs → p.2.hi ≤ gHi fs
  | x :: r, p, h => by
    rcases List.mem_cons.mp h with e | h
    · subst e; exact mHi_ge
    · exact mHi_mem h
noncomputable abbrev numsF (fs : List (Addr × Tab)) : List Int := fs.map fun p => p.2.num
theorem levk_at {S : Spots} {nl k : Int} {lv : List (Addr × List (Addr × Tab))} (h : LvOk S nl lv) (k0 : 0 ≤ k) (k1 : k < nl) : LevOk S k.toNat (fsAt lv k) := by
  have hk : k.toNat < lv.length := by rw [h.1]; omega
  have e := List.getElem?_eq_getElem hk
  unfold fsAt
  rw [e]
  exact h.2 _ _ e
theorem lev_mem {S : Spots} {k : Nat} {fs : List (Addr × Tab)} (h : LevOk S k fs) {p : Addr × Tab} (hp : p ∈ fs) : p.2 = tabOf S p.2.num ∧ p.2.num ∈ keysOf S ∧ (spAt S p.2.num).lv = (k : Int) := by
  obtain ⟨ns, hq, he, _⟩ := h
  have h1 : p.2 ∈ ns.map (tabOf S) := he ▸ List.mem_map_of_mem hp
  obtain ⟨n, hn, e⟩ := List.mem_map.mp h1
  have e2 : p.2.num = n := by rw [← e]; rfl
  have h2 := List.mem_filter.mp (hq.mem_iff.mp hn)
  simp only [decide_eq_true_eq] at h2
  rw [e2]
  exact ⟨e.symm, h2.1, h2.2⟩
theorem lev_has {S : Spots} {k : Nat} {fs : List (Addr × Tab)} (h : LevOk S k fs) {n : Int} (hn : n ∈ keysOf S) (hk : (spAt S n).lv = (k : Int)) : ∃ p ∈ fs, p.2 = tabOf S n := by
  obtain ⟨ns, hq, he, _⟩ := h
  have h1 : n ∈ ns := hq.mem_iff.mpr (List.mem_filter.mpr ⟨hn, by simpa using hk⟩)
  have h2 : tabOf S n ∈ fs.map (·.2) := he ▸ List.mem_map_of_mem h1
  obtain ⟨p, hp, e⟩ := List.mem_map.mp h2
  exact ⟨p, hp, e⟩
theorem lev_nd {S : Spots} {k : Nat} {fs : List (Addr × Tab)} (h : LevOk S k fs) (hd : (keysOf S).Nodup) : (numsF fs).Nodup := by
  obtain ⟨ns, hq, he, _⟩ := h
  have e := lev_nums (k := k) he
  show (fs.map fun p => p.2.num).Nodup
  rw [e]
  exact hq.nodup_iff.mpr (List.Nodup.sublist (List.filter_sublist ..) hd)
theorem pick_of {S : Spots} {nl sl : Int} {lv : List (Addr × List (Addr × Tab))} {g0 g1 : List (Addr × Tab)} (hd : (keysOf S).Nodup) (h : LvOk S nl lv) (hp : Picked lv sl g0 g1) (k0 : 0 ≤ sl) (k1 : sl + 1 < nl) :
    Pick S sl (numsF g0) (numsF g1) (gLo g0) (gHi g0) := by
  have L0 := levk_at h k0 (by omega)
  have L1 := levk_at (k := sl + 1) h (by omega) k1
  have c0 : ((sl.toNat : Nat) : Int) = sl := by omega
  have c1 : (((sl + 1).toNat : Nat) : Int) = sl + 1 := by omega
  have m0 : ∀ p ∈ g0, p ∈ fsAt lv sl := fun p hp' => hp.sub0.subset hp'
  have m1 : ∀ p ∈ g1, p ∈ fsAt lv (sl + 1) ∧ meetsB (gLo g0) (gHi g0) p.2 = true := fun p hp' => by rw [hp.is1] at hp'; exact List.mem_filter.mp hp'
  have mb : ∀ {a b : Nat} {t : Tab}, meetsB a b t = true ↔ a ≤ t.hi ∧ t.lo ≤ b := fun {a b t} => by unfold meetsB; simp
  have sp : ∀ {n : Int} {q : Sp}, (n, q) ∈ S → spAt S n = q := fun hq => spAt_of hd hq
  refine ⟨?_, ?_, ?_, ?_, ?_, ?_⟩
  · intro e
    have := hp.pos
    rw [List.map_eq_nil_iff] at e
    rw [e] at this
    simp at this
  · intro n hn
    obtain ⟨p, hp', rfl⟩ := List.mem_map.mp hn
    obtain ⟨e1, e2, e3⟩ := lev_mem L0 (m0 p hp')
    refine ⟨_, spAt_mem e2, e3.trans c0, ?_, ?_⟩
    · have := gLo_mem hp'
      rw [e1] at this
      exact this
    · have := gHi_mem hp'
      rw [e1] at this
      exact this
  · intro n hn
    obtain ⟨p, hp', rfl⟩ := List.mem_map.mp hn
    obtain ⟨h1, h2⟩ := m1 p hp'
    obtain ⟨e1, e2, e3⟩ := lev_mem L1 h1
    rw [mb, e1] at h2
    exact ⟨_, spAt_mem e2, e3.trans c1, h2.1, h2.2⟩
  · intro n q hq hl ha hb
    have e := sp hq
    obtain ⟨p, h1, h2⟩ := lev_has L1 (keys_mem hq) (by rw [e, hl, c1])
    have h3 : p ∈ g1 := by
      rw [hp.is1]
      refine List.mem_filter.mpr ⟨h1, mb.mpr ?_⟩
      rw [h2]
      unfold tabOf
      rw [e]
      exact ⟨ha, hb⟩
    have h4 : p.2.num = n := by rw [h2]; rfl
    exact List.mem_map.mpr ⟨p, h3, h4⟩
  · intro hz n q hq hl ha hb
    have e := sp hq
    obtain ⟨p, h1, h2⟩ := lev_has L0 (keys_mem hq) (by rw [e, hl, c0, hz])
    have h3 := hp.zero hz p h1 (mb.mpr (by rw [h2]; unfold tabOf; rw [e]; exact ⟨ha, hb⟩))
    have h4 : p.2.num = n := by rw [h2]; rfl
    exact List.mem_map.mpr ⟨p, h3, h4⟩
  · rw [List.nodup_append]
    refine ⟨List.Nodup.sublist (hp.sub0.map _) (lev_nd L0 hd), ?_, ?_⟩
    · rw [hp.is1]
      exact List.Nodup.sublist ((List.filter_sublist ..).map _) (lev_nd L1 hd)
    · intro a ha b hb e
      obtain ⟨p, hp', rfl⟩ := List.mem_map.mp ha
      obtain ⟨q, hq', rfl⟩ := List.mem_map.mp hb
      have e3 := (lev_mem L0 (m0 p hp')).2.2
      have e4 := (lev_mem L1 (m1 q hq').1).2.2
      rw [e] at e3
      rw [e3] at e4
      omega
theorem min_ex (f : Int → Nat) : ∀ (l : List Int), l ≠ [] → ∃ n ∈ l, ∀ m ∈ l, f n ≤ f m
  | [], h => absurd rfl h
  | [x], _ => ⟨x, by simp, fun m hm => by rw [List.mem_singleton.mp hm]; exact Nat.le_refl _⟩
  | x :: y :: r, _ => by
    obtain ⟨n, hn, h⟩ := min_ex f (y :: r) (by simp)
    by_cases hx : f x ≤ f n
    · refine ⟨x, by simp, fun m hm => ?_⟩
      rcases List.mem_cons.mp hm with e | hm
      · rw [e]; exact Nat.le_refl _
      · exact Nat.le_trans hx (h m hm)
    · refine ⟨n, List.mem_cons_of_mem _ hn, fun m hm => ?_⟩
      rcases List.mem_cons.mp hm with e | hm
      · rw [e]; omega
      · exact h m hm
theorem max_ex (f : Int → Nat) : ∀ (l : List Int), l ≠ [] → ∃ n ∈ l, ∀ m ∈ l, f m ≤ f n
  | [], h => absurd rfl h
  | [x], _ => ⟨x, by simp, fun m hm => by rw [List.mem_singleton.mp hm]; exact Nat.le_refl _⟩
  | x :: y :: r, _ => by
    obtain ⟨n, hn, h⟩ := max_ex f (y :: r) (by simp)
    by_cases hx : f n ≤ f x
    · refine ⟨x, by simp, fun m hm => ?_⟩
      rcases List.mem_cons.mp hm with e | hm
      · rw [e]; exact Nat.le_refl _
      · exact Nat.le_trans (h m hm) hx
    · refine ⟨n, List.mem_cons_of_mem _ hn, fun m hm => ?_⟩
      rcases List.mem_cons.mp hm with e | hm
      · rw [e]; omega
      · exact h m hm
theorem picks_lt {nl : Int} {bg : List Sp} {mt : List (Nat × Nat)} {most : Int} {S : Spots} {hd : List Int} {picks k : Int} {t0 t1 : List Int} {a b : Nat} (I : LInv nl bg mt most S hd picks) (M : MeetOk bg mt) (P : Pick S k t0 t1 a b) (hk0 : 0 ≤ k) (hk1 : k + 1 < nl) : picks + 1 ≤ most := by
  have hne : t0 ++ t1 ≠ [] := fun e => P.ne (List.append_eq_nil_iff.mp e).1
  obtain ⟨n, hn, h1⟩ := min_ex (fun n => (spAt S n).lo) _ hne
  obtain ⟨m, hm, h2⟩ := max_ex (fun n => (spAt S n).hi) _ hne
  refine (I.step M P hk0 hk1 (num := 50 + (picks + 1)) ?_ (Int.le_refl _) h1 ⟨n, hn, rfl⟩ h2 ⟨m, hm, rfl⟩).picks_le
  intro hm
  obtain ⟨x, hx, e⟩ := List.mem_map.mp hm
  have := I.key x (List.mem_filter.mp hx).1
  omega
-- turn1
theorem FilesAt.cell {w : World} {h₀ h : Heap} {L x c : Addr} {led : List (Addr × Obj)} {g : List (Addr × Tab)} {oc : Obj} {v : Option Value} (hf : FilesAt w led x g) (N : News h₀ L h led) (hc : (c, oc) ∈ led) (hd : oc.data = .cell v) : FilesAt w (offL c led) x g :=
  hf.but (by obtain ⟨z, hz, _⟩ := hf; rintro rfl; have e := led_eq N hz hc; rw [← e] at hd; simp at hd) N (fun _ h => h) hc (odd_cell hd) fun z hz hn => mem_offL.mpr ⟨hz, hn⟩
theorem law_t1 {w : World} {A₀ : Around} {h₀ base : Heap} {L a : Addr} {m mg mb : Str → Option Value} {s : Shared} {Q : Flow → Shared → Prop} {E} {nm : Str} {cdv : Value} {outer : List Env} {loose} {mean : ExcName → Option Value}
  {body : List Stmt} {scope : Scope} {led C0 : List (Addr × Obj)} {op o pk pt M Bg D H c cd ci x0 x1 co us gp ed pl v d fl T : Addr} {nl sl slv most picks : Int} {q : Opt} {mt : List (Nat × Nat)} {bg : List Sp} {lv : List (Addr × List (Addr × Tab))} {g0 g1 : List (Addr × Tab)} {S : Spots} {hs : List Int} {ptrs : Array Value} {kp : Nat} {t tc : Nat → Tok}
  (hL : LawAt w body scope) (B : Below A₀ base outer h₀) (F : Fr h₀ L s.heap m) (X : (KM w.params).In h₀) (T' : Top VW loose mean mg mb h₀) (hh : A₀.handled = none) (hroom : A₀.depth + 400 < 1000)
  (cf : CFacts w L nl op o pk pt M Bg q mt bg most C0) (N : News h₀ L s.heap led) (W : WSt w L nl op o pk pt M Bg q mt bg most C0 m led S hs picks D H v d fl T lv slv t ptrs kp)
  (hcm : m (Str.ofString "c") = some (.ref c)) (hc : (c, instObj 536 cd) ∈ led) (hcd : (cd, compD w sl v op co us ci gp ed pl tc) ∈ led) (hci : (ci, listOf #[.ref x0, .ref x1] 0) ∈ led) (f0 : FilesAt w led x0 g0) (f1 : FilesAt w led x1 g1) (hpk : Picked lv sl g0 g1) (hsl0 : 0 ≤ sl) (hsl1 : sl + 1 < nl)
  (ret : ∀ h' tks m' nw S' hs' D' H' v d fl T lv sl' t ptrs', Fr h₀ L h' m' → News h₀ L h' nw → WSt w L nl op o pk pt M Bg q mt bg most C0 m' nw S' hs' (picks + 1) D' H' v d fl T lv sl' t ptrs' kp → CSt w op v nl lv q m' nw sl' → Q .next { s with heap := h', toks := tks }) :
  wpAny (model P w) (A₀.deeper (envOfC nm scope L a cdv)) (execs (whileOf body) (envOfC nm scope L a cdv)) Q E s := by
  refine' law_lit hL ?h2 ?k
  case h2 => k_is
  intro e1 e2
  subst e1
  subst e2
  simp only [whileOf, List.getElem?_cons_succ, List.getElem?_cons_zero, List.drop_succ_cons, List.drop_zero]
  refine hideG fun G9 hG9 => ?_
  obtain ⟨⟨tm, tp, hmm⟩, ⟨ob2, c2, e2⟩, ⟨ob3, v3, c3, e3⟩, ⟨ob4, v4, c4, e4⟩, ⟨ob5, v5, c5, e5⟩, cons, ptr, ptz, pto, hS, hH, hver, hvd, hlvo, hI, hks, hlen, pk0⟩ := W
  have F := Fr.with _ F (has1 hcm hmm)
  have hP := pick_of hI.nd hlvo hpk hsl0 hsl1
  have hlt := picks_lt hI cf.mok hP hsl0 hsl1
  obtain ⟨rest, hrest⟩ : ∃ rest, rest = offL (L + 1 + 1 + 1 + 1) led := ⟨_, rfl⟩
  have kc : ∀ {x : Addr} {ob : Obj}, (x, ob) ∈ led → (∀ v, ob.data ≠ .cell v) → (x, ob) ∈ rest := fun hx hn => by rw [hrest]; exact keep_cell N c4 e4 hx hn
  have kr : ∀ {x : Addr × Obj}, x ∈ led → @Ne Nat x.1 (L + 1 + 1 + 1 + 1) → x ∈ rest := fun hx hn => by rw [hrest]; exact mem_offL.mpr ⟨hx, hn⟩
  have N₁ : News h₀ L s.heap ((L + 1 + 1 + 1 + 1, ob4) :: rest) := fun x hx => by
    simp only [List.mem_cons] at hx
    rcases hx with rfl | hx
    · exact N _ c4
    · rw [hrest] at hx; exact N _ (mem_offL.mp hx).1
  have r2 : ∀ x ∈ rest, x.1 ≠ (L + 1 + 1 + 1 + 1 : Addr) := fun x hx => by rw [hrest] at hx; exact (mem_offL.mp hx).2
  have gC0 : ∀ x ∈ C0, x ∈ rest := fun x hx => kr (cons x hx) (cf.ne4 x hx)
  have gc := kc hc (fun _ e => by simp at e)
  have gcd := kc hcd (fun _ e => by simp at e)
  have gci := kc hci (fun _ e => by simp at e)
  have g2 := kr c2 (by dsimp only; walk_at "mine om")
  have g3 := kr c3 (by dsimp only; walk_at "mine om")
  have g5 := kr c5 (by dsimp only; walk_at "mine om")
  have gH : IntsAt rest H hs := by rw [hrest]; exact hH.cell N c4 e4
  have gS : SpotsAt w rest D S := by rw [hrest]; exact hS.cell N c4 e4
  have gpt := kr ptr (by have := cf.ptL; dsimp only; walk_at "mine om")
  obtain ⟨oc, tcn, hc1, hd1⟩ := cf.cnt
  have g1' := gC0 _ hc1
  have f0' : FilesAt w rest x0 g0 := by rw [hrest]; exact f0.cell N c4 e4
  have f1' : FilesAt w rest x1 g1 := by rw [hrest]; exact f1.cell N c4 e4
  obtain ⟨slo, snd', oD, kvs, hD, hdd, hSin⟩ := gS.out
  have hg0 : 0 < g0.length := hpk.pos
  have hsm := lv_small hlvo hlen
  have hz0 : g0.length < 1000 := by
    have h1 := hpk.sub0.length_le
    have h2 := hsm sl
    walk_at "mine om"
  obtain ⟨kx0, hx0, hm0⟩ := id f0'
  have i0 : (#[Value.ref x0, .ref x1] : Array Value)[(0 : Int).toNat]? = some (.ref x0) := rfl
  have hz1 : g1.length < 1000 := by
    have h1 := hsm (sl + 1)
    have h2 : g1.length ≤ (fsAt lv (sl + 1)).length := by rw [hpk.is1]; exact List.length_filter_le ..
    walk_at "mine om"
  have L0 := levk_at hlvo hsl0 (by walk_at "mine om")
  have L1 := levk_at (k := sl + 1) hlvo (by walk_at "mine om") hsl1
  clear N
  refine hG9 ?_
  k_steps
  rename_i ha1 tka tka1 tka2 Tk ha2 lT ha3 oT FA NA dT ha4 tka3 tr1 tr2 tr3 hrng FB NB hkeep
  have hTl : ∀ x ∈ rest, @LT.lt Nat _ x.1 Tk := fun x hx => allLt_all lT.2 x hx
  have hT4 : @Ne Nat (L + 1 + 1 + 1 + 1) Tk := Nat.ne_of_lt lT.1
  obtain ⟨TK, hTK⟩ : ∃ TK : Nat → List Int, TK = fun i => if i = 0 then [] else if i = 1 then numsF g0 else numsF g0 ++ numsF g1 := ⟨_, rfl⟩
  obtain ⟨OLD, hOLD⟩ : ∃ OLD, OLD = (L + 1 + 1 + 1 + 1, oT) :: rest := ⟨_, rfl⟩
  have oR : ∀ x ∈ rest, x ∈ OLD := fun x hx => by rw [hOLD]; simp [hx]
  have o4 : (L + 1 + 1 + 1 + 1, oT) ∈ OLD := by rw [hOLD]; simp
  have hOT : ∀ x ∈ OLD, @Ne Nat x.1 Tk := fun x hx => by
    rw [hOLD] at hx
    rcases List.mem_cons.mp hx with rfl | hx
    · exact hT4
    · exact Nat.ne_of_lt (hTl x hx)
  refine for_range2 rfl 2 hh (by k_asm) (by k_asm) hrng (small1 (by walk_at "mine om") (by walk_at "mine om")) (rsz (by walk_at "mine om")) (fun i => JTak [(Str.ofString "options", .ref op), (Str.ofString "order", .ref o), (Str.ofString "holder", .ref H), (Str.ofString "meets", .ref M), (Str.ofString "begun", .ref Bg), (Str.ofString "most", .int most tm), (Str.ofString "picker", .ref pk), (Str.ofString "pointers", .ref pt), (Str.ofString "picks", .int (picks + 1) (s.toks + 1)), (Str.ofString "c", .ref c)] OLD Tk (TK i))
    ⟨by walk_at "mine has", fun x hx => by rw [hOLD] at hx; simp only [List.mem_cons] at hx ⊢; rcases hx with h | h <;> simp [h], [], 0, by simp, by rw [hTK]; exact .nil⟩ ?_ ?_
  · intro I i tv m₁ nw led₁ own h₁ tk₁ hi hJ hsub hnI hown hownI hI' hnI' F₁ N₁
    refine hideG fun G9 hG9 => ?_
    obtain ⟨hmm1, hO, vs, kk, hDk, hI1⟩ := hJ
    have F₁ := Fr.with _ F₁ hmm1
    obtain ⟨Xi, Gi, j0, fX, jT, jG, jz, jt⟩ : ∃ (Xi : Addr) (Gi : List (Addr × Tab)), (#[Value.ref x0, .ref x1] : Array Value)[((0 : Int) + ((i : Nat) : Int)).toNat]? = some (.ref Xi) ∧ FilesAt w rest Xi Gi ∧ TK (i + 1) = TK i ++ numsF Gi ∧
        (∀ p ∈ Gi, p.2.num ∈ keysOf S ∧ (spAt S p.2.num).lv = sl + ((0 : Int) + ((i : Nat) : Int))) ∧ Gi.length < 1000 ∧ (TK i).length < 1000 := by
      rcases (by walk_at "mine om" : i = 0 ∨ i = 1) with rfl | rfl
      · refine ⟨x0, g0, rfl, f0', by rw [hTK]; rfl, fun p hp => ?_, hz0, by rw [hTK]; simp⟩
        have := lev_mem L0 (hpk.sub0.subset hp)
        exact ⟨this.2.1, by rw [this.2.2]; walk_at "mine om"⟩
      · refine ⟨x1, g1, rfl, f1', by rw [hTK]; rfl, fun p hp => ?_, hz1, by rw [hTK]; simpa using hz0⟩
        rw [hpk.is1] at hp
        have := lev_mem L1 (List.mem_filter.mp hp).1
        exact ⟨this.2.1, by rw [this.2.2]; walk_at "mine om"⟩
    obtain ⟨kX, hX, hmX⟩ := fX
    have hrl : ∀ x ∈ rest, x ∈ led₁ := fun x hx => hsub _ (hO x (oR x hx))
    have u1 := hrl _ gc
    have u2 := hrl _ gcd
    have u3 := hrl _ gci
    have u4 := hrl _ hX
    have iTI : @Ne Nat Tk I := hnI _ hDk
    have hownO := hownI
    clear hownI
    refine hG9 ?_
    k_steps
    refine for_list2 rfl hh (by k_asm) (by k_asm) (by k_mem) (fun j => JTak ((Str.ofString "side", .int (0 + ((i : Nat) : Int)) tv) :: [(Str.ofString "options", .ref op), (Str.ofString "order", .ref o), (Str.ofString "holder", .ref H), (Str.ofString "meets", .ref M), (Str.ofString "begun", .ref Bg), (Str.ofString "most", .int most tm), (Str.ofString "picker", .ref pk), (Str.ofString "pointers", .ref pt), (Str.ofString "picks", .int (picks + 1) (s.toks + 1)), (Str.ofString "c", .ref c)]) (offL Tk led₁) Tk (TK i ++ numsF (Gi.take j)))
      ⟨by walk_at "mine has", fun x hx => (mem_offL.mp hx).1, vs, kk, hsub _ hDk, by simpa using hI1⟩ ?_ ?_
    · intro I₂ j v₂ m₂ nw₂ led₂ own₂ h₂ tk₂ hv₂ hJ₂ hsub₂ hnI₂ hown₂ hownI₂ hll₂ hI₂ hnI₂' F₂ N₂
      refine hideG fun G9 hG9 => ?_
      obtain ⟨p, hp, rfl⟩ := refs_at hv₂
      obtain ⟨hmm2, hO₂, vs₂, k₂, hD₂, hI1₂⟩ := hJ₂
      have F₂ := Fr.with _ F₂ hmm2
      obtain ⟨rest₂, N₃, y1, y2, y3⟩ := led_split N₂ (hsub₂ _ hD₂)
      have hO2 : ∀ x ∈ offL Tk led₁, x ∈ rest₂ := fun x hx => y2 x (hsub₂ _ (hO₂ x hx)) (mem_offL.mp hx).2
      have hor : ∀ x ∈ OLD, x ∈ rest₂ := fun x hx => hO2 x (mem_offL.mpr ⟨hsub _ (hO x hx), hOT x hx⟩)
      have w1 := hor _ (oR _ gc)
      have w2 := hor _ (oR _ gcd)
      have w3 := hor _ (oR _ g2)
      have w4 := hor _ o4
      have w5 := hor _ (oR _ hD)
      obtain ⟨hok, d', t1, t2, t3, t4, t5, t6, t7, t8, q1, q2⟩ := (hmX p (List.mem_of_getElem? hp)).mono fun x hx => hor _ (oR x hx)
      obtain ⟨hk1, hk2⟩ := jG p (List.mem_of_getElem? hp)
      obtain ⟨a', t', e1', e2'⟩ := hSin.2 _ _ (spAt_mem hk1)
      have w6 := hor _ (oR _ e2')
      have hks2 : kvs.map (·.1) = keysOf S := hSin.1
      have hsz2 : vs₂.toArray.size ≤ sizeLine := by
        have h1 := IntsAre.length hI1₂
        have h2 : (Gi.take j).length ≤ Gi.length := List.length_take_le' ..
        rw [sizeLine_eq, List.size_toArray, h1, List.length_append, List.length_map]
        walk_at "mine om"
      have hown2 : ∀ x ∈ own₂, x ∈ rest₂ := fun x hx => y2 x (hown₂ x hx) (by
        rcases hownI₂ x hx with e | e
        · rw [e]; exact Ne.symm (hnI₂ _ hD₂)
        · rw [e]; exact hOT _ (oR _ hX))
      clear N₂
      refine hG9 ?_
      k_steps
      all_goals
        refine ⟨_, _, _, _, rfl, by k_asm, by k_asm, fun x hx => by simp [hown2 x hx], by walk_at "mine has", fun x hx => mem_offL.mpr ⟨by simp [hO2 x hx], hnI₂ _ (hO₂ x hx)⟩, vs₂ ++ [.int p.2.num t2], k₂ + 1, ?_, ?_⟩
        · rw [← List.push_toArray]
          exact mem_offL.mpr ⟨List.mem_cons_self .., hnI₂ (Tk, listOf vs₂.toArray k₂) hD₂⟩
        · rw [numsF, List.take_add_one, hp, List.map_append, ← List.append_assoc]
          exact IntsAre.append hI1₂ (.cons _ _ .nil)
    · intro h' tk' m' news' F' N' hJ'
      refine hideG fun G9 hG9 => ?_
      obtain ⟨hnm, hO', vs', k', hD', hI''⟩ := hJ'
      rw [refs_size, List.take_length, ← jT] at hI''
      refine hG9 ?_
      k_steps
      refine ⟨_, _, _, _, rfl, by k_asm, by k_asm, fun x hx => hO' x (mem_offL.mpr ⟨hown x hx, by rw [hownO x hx]; exact Ne.symm iTI⟩), has_tl hnm, fun x hx => mem_offL.mpr ⟨hO' x (mem_offL.mpr ⟨hsub _ (hO x hx), hOT x hx⟩), hnI _ (hO x hx)⟩, vs', k', mem_offL.mpr ⟨hD', iTI⟩, hI''⟩
  · intro h' tk' m' news' F' N' hJ
    obtain ⟨hnm, hO, vs, kk, hDk, hI1⟩ := hJ
    have hR : ∀ x ∈ rest, x ∈ news' := fun x hx => hO x (oR x hx)
    have hI2 : IntsAre vs (numsF g0 ++ numsF g1) := by rw [hTK] at hI1; exact hI1
    exact law_t2a hL B F' X T' hh hroom cf N' hnm (hR _ g2) e2 (hR _ g3) e3 (hO _ o4) dT (hR _ g5) e5 (fun x hx => hR _ (gC0 x hx)) (hR _ gc) (hR _ gcd) ⟨vs, kk, hDk, hI2⟩ (gH.mono hR) (hR _ gpt) ptz pto (gS.mono hR) hI hP hsl0 hsl1 hks hlen pk0
      (fun h' tks m' nw S' hs' D' H' v d fl T lv sl' t ptrs' q1 q2 q3 q4 => ret h' tks m' nw S' hs' D' H' v d fl T lv sl' t ptrs' q1 q2 q3 q4)
-- while
/-- what a while's test answers, at the cost of tokens alone -/
noncomputable def TestOk (bv : Bool) (s : Shared) (b : Bool) (s₂ : Shared) : Prop := b = bv ∧ ∃ tk, s₂ = { s with toks := tk }
/-- the while, from the state between the picks -/
inductive JWh (w : World) (L : Addr) (nl : Int) (op o pk pt M Bg : Addr) (q : Opt) (mt : List (Nat × Nat)) (bg : List Sp) (most : Int) (C0 : Led) (kp : Nat) (n : Nat) (m : Fm) (nw : Led) : Prop
  | mk (S : Spots) (hs : List Int) (picks : Int) (D H v d fl T : Addr) (lv : List (Addr × List (Addr × Tab))) (sl : Int) (t : Nat → Tok) (ptrs : Array Value) (W : WSt w L nl op o pk pt M Bg q mt bg most C0 m nw S hs picks D H v d fl T lv sl t ptrs kp) (C : CSt w op v nl lv q m nw sl) (e : n = (most - picks).toNat)
theorem law_while {w : World} {A₀ : Around} {h₀ base : Heap} {L a : Addr} {m mg mb : Str → Option Value} {s : Shared} {Q : Flow → Shared → Prop} {E} {nm : Str} {cdv : Value} {outer : List Env} {loose} {mean : ExcName → Option Value}
  {body : List Stmt} {scope : Scope} {led C0 : List (Addr × Obj)} {op o pk pt M Bg D H v d fl T : Addr} {nl sl most picks : Int} {q : Opt} {mt : List (Nat × Nat)} {bg : List Sp} {lv : List (Addr × List (Addr × Tab))} {S : Spots} {hs : List Int} {ptrs : Array Value} {kp : Nat} {t : Nat → Tok}
  (hL : LawAt w body scope) (B : Below A₀ base outer h₀) (F : Fr h₀ L s.heap m) (X : (KM w.params).In h₀) (T' : Top VW loose mean mg mb h₀) (hh : A₀.handled = none) (hroom : A₀.depth + 400 < 1000)
  (cf : CFacts w L nl op o pk pt M Bg q mt bg most C0) (N : News h₀ L s.heap led) (W : WSt w L nl op o pk pt M Bg q mt bg most C0 m led S hs picks D H v d fl T lv sl t ptrs kp) (C : CSt w op v nl lv q m led sl)
  (ret : LawRet h₀ L s Q) :
  wpAny (model P w) (A₀.deeper (envOfC nm scope L a cdv)) (execs (body.drop 26) (envOfC nm scope L a cdv)) Q E s := by
  refine' law_lit hL ?h2 ?k
  case h2 => k_is
  intro e1 e2
  subst e1
  subst e2
  simp only [List.drop_succ_cons, List.drop_zero]
  k_steps
  refine myWhile (JWh w L nl op o pk pt M Bg q mt bg most C0 kp) (most - picks).toNat
    ⟨S, hs, picks, D, H, v, d, fl, T, lv, sl, t, ptrs, W, C, rfl⟩ (by k_asm) (by k_asm) ?_
  intro n m₁ nw h₁ tk₁ hJ F₁ N₁
  obtain ⟨S₁, hs₁, picks₁, D₁, H₁, v₁, d₁, fl₁, T₁, lv₁, sl₁, t₁, ptrs₁, W₁, C₁, hn⟩ := hJ
  rcases C₁ with ⟨hcm, hlow⟩ | ⟨c, cd, ci, x0, x1, co, us, gp, ed, pl, g0, g1, tc, hcm, hc, hcd, hci, f0, f1, hpk, hsl0, hsl1⟩
  · have F₂ := Fr.with [(Str.ofString "c", .none)] F₁ (has1 hcm has0)
    refine wpAny_mono (Q := TestOk false { s with heap := h₁, toks := tk₁ }) ?_ ?_ (fun _ _ e => e)
    · k_steps
      exact ⟨rfl, _, rfl⟩
    · rintro b s₂ ⟨rfl, tk₂, rfl⟩
      obtain ⟨⟨tm, tp, hmm⟩, ⟨ob2, c2, e2⟩, ⟨ob3, v3, c3, e3⟩, ⟨ob4, v4, c4, e4⟩, ⟨ob5, v5, c5, e5⟩, cons, ptr, ptz, pto, hS, hH, hver, hvd, hlvo, hI, hks, hlen, pk0⟩ := W₁
      obtain ⟨oc, tcn, hc1, hd1⟩ := cf.cnt
      have h20 := cf.most20
      have hpl := hI.picks_le
      show wpAny _ _ (execs _ _) _ _ _
      exact law_end hL B F₁ X T' hh hroom N₁ (has_sub hmm (by simp)) ⟨oc, ob2, ob3, ob4, ob5, tcn, v3, v4, v5, cons _ hc1, hd1, c2, e2, c3, e3, c4, e4, c5, e5⟩ hver hvd (cf.opt.mono cons) cf.ok cf.qn hS hH (cf.begun.mono cons) hlvo hI hlow cf.bz hlen
        (fun p hp => by have h1 := hI.key p hp; have h2 := hks p hp; omega) (fun h' tk m' q1 => ret h' tk m' q1)
  · have F₂ := Fr.with [(Str.ofString "c", .ref c)] F₁ (has1 hcm has0)
    refine wpAny_mono (Q := TestOk true { s with heap := h₁, toks := tk₁ }) ?_ ?_ (fun _ _ e => e)
    · k_steps
      exact ⟨rfl, _, rfl⟩
    · rintro b s₂ ⟨rfl, tk₂, rfl⟩
      have hpl := picks_lt W₁.inv cf.mok (pick_of W₁.inv.nd W₁.lvo hpk hsl0 hsl1) hsl0 hsl1
      show wpAny _ _ (execs _ _) _ _ _
      exact law_t1 hL B F₁ X T' hh hroom cf N₁ W₁ hcm hc hcd hci f0 f1 hpk hsl0 hsl1 (fun h' tks m' nw S' hs' D' H' v d fl T lv sl' t ptrs' q1 q2 q3 q4 =>
        ⟨h', tks, m', nw, (most - (picks₁ + 1)).toNat, rfl, q1, q2, by omega, S', hs', picks₁ + 1, D', H', v, d, fl, T, lv, sl', t, ptrs', q3, q4, rfl⟩)
-- start
theorem sum_three {f : Int → Int} : ∀ (l : List Int), (∀ n ∈ l, f n ≤ 3) → (l.map f).sum ≤ 3 * (l.length : Int)
  | [], _ => by simp
  | x :: r, h => by
    have h1 := h x (List.mem_cons_self ..)
    have h2 := sum_three r fun n hn => h n (List.mem_cons_of_mem _ hn)
    rw [List.map_cons, List.sum_cons, List.length_cons]
    walk_at "mine om"
theorem mult_B {prog : Program} {w : World} {A : Around} {E : Value → Shared → Prop} {s : Shared} {h₀ : Heap} {L : Addr} {m : Str → Option Value} {news : List (Addr × Obj)} {l : Addr} {k : Nat} {x : Int} {u t : Tok} {Q : Value → Shared → Prop} (F : Fr h₀ L s.heap m) (N : News h₀ L s.heap news) (hl : (l, listOf #[.bytes #[] t] k) ∈ news) (hx : 0 ≤ x ∧ x ≤ 100)
    (h : ∀ D h', Fr h₀ L h' m → News h₀ L h' ((D, listOf (List.replicate x.toNat (Value.bytes #[] t)).toArray 0) :: news) → (∀ p ∈ news, p.1 < D) → Q (.ref D) { s with heap := h' }) : wpAny (model prog w) A (binaryOp .Mult (.ref l) (.int x u)) Q E s :=
  KMa.mul (vs := [.bytes #[] t]) F N ⟨_, (N _ hl).1, rfl, _, rfl⟩ (by walk_at "mine om") (by walk_at "mine om") (by simp only [List.length_cons, List.length_nil]; walk_at "mine om") List.flatten_replicate_singleton h
theorem rg35_0 : True := by
  k_with "binaryOp Mult ref int" => (k_dflt (refine' mult_B (by k_asm) (by k_asm) (by k_mem) (by walk_at "mine om") ?_; intro _ _ _ _ _; (try k_sweep)))
  exact trivial
/-- y is the tuple that the spots' dict holds at the int v -/
noncomputable def SpotRef (kvs : List (Int × Value)) (v y : Value) : Prop := ∃ n t, v = .int n t ∧ valueAt kvs n = some y
/-- y is the int that f makes of the spot at v -/
noncomputable def OfSpot (bl : List (Addr × Sp)) (f : Sp → Int) (v y : Value) : Prop := ∀ q ∈ bl, v = Value.ref q.1 → ∃ t, y = .int (f q.2) t
theorem begun_of {led : List (Addr × Obj)} {kvs : List (Int × Value)} {S : Spots} (hin : SpotsIn led kvs S) : ∀ {ns : List Int} {vs ys : List Value}, IntsAre vs ns → Paired (SpotRef kvs) vs ys → (∀ n ∈ ns, n ∈ keysOf S) →
    ∃ bl : List (Addr × Sp), ys = bl.map (fun q => Value.ref q.1) ∧ bl.map (·.2) = ns.map (spAt S) ∧ ∀ q ∈ bl, ∃ t, (q.1, tup4 q.2 t) ∈ led := by
  intro ns vs ys hi
  induction hi generalizing ys with
  | nil => intro hp _; cases hp; exact ⟨[], rfl, rfl, fun q hq => by cases hq⟩
  | cons n t hr ih =>
    intro hp hk
    cases hp with
    | cons h1 h2 =>
      obtain ⟨n', t', e1, e2⟩ := h1
      cases e1
      obtain ⟨bl, rfl, hb1, hb2⟩ := ih h2 fun x hx => hk x (List.mem_cons_of_mem _ hx)
      obtain ⟨a, tt, q1, q2⟩ := hin.2 n _ (spAt_mem (hk n (List.mem_cons_self ..)))
      rw [e2] at q1
      cases q1
      refine ⟨(a, spAt S n) :: bl, rfl, by rw [List.map_cons, hb1]; rfl, fun q hq => ?_⟩
      rcases List.mem_cons.mp hq with e | hq
      · rw [e]; exact ⟨tt, q2⟩
      · exact hb2 q hq
theorem mostof {bl : List (Addr × Sp)} {f : Sp → Int} : ∀ {l : List (Addr × Sp)} {ys : List Value}, (∀ q ∈ l, q ∈ bl) → Paired (OfSpot bl f) (l.map fun q => Value.ref q.1) ys → IntsAre ys (l.map fun q => f q.2)
  | [], _, _, h => by cases h; exact .nil
  | q :: r, _, hs, h => by
    cases h with
    | cons h1 h2 =>
      obtain ⟨t, rfl⟩ := h1 q (hs q (List.mem_cons_self ..)) rfl
      exact .cons _ _ (mostof (fun x hx => hs x (List.mem_cons_of_mem _ hx)) h2)
/-- from the first tables on -/
theorem law_b {w : World} {A₀ : Around} {h₀ base : Heap} {L a : Addr} {m mg mb : Str → Option Value} {s : Shared} {Q : Flow → Shared → Prop} {E} {nm : Str} {cdv : Value} {outer : List Env} {loose} {mean : ExcName → Option Value}
  {body : List Stmt} {scope : Scope} {led : List (Addr × Obj)} {op o M D H : Addr} {nl : Int} {q : Opt} {mt : List (Nat × Nat)} {S : Spots} {o1 o2 o3 o4 o5 : Obj} {tc : Tok} {v3 v4 v5 : Option Value}
  (hL : LawAt w body scope) (B : Below A₀ base outer h₀) (F : Fr h₀ L s.heap m) (X : (KM w.params).In h₀) (T' : Top VW loose mean mg mb h₀) (hh : A₀.handled = none) (hroom : A₀.depth + 400 < 1000)
  (N : News h₀ L s.heap led) (hm : Has m [(Str.ofString "options", .ref op), (Str.ofString "order", .ref o), (Str.ofString "holder", .ref H), (Str.ofString "meets", .ref M)])
  (hc1 : (L + 1, o1) ∈ led) (hd1 : o1.data = .cell (some (.int nl tc))) (hc2 : (L + 1 + 1, o2) ∈ led) (hd2 : o2.data = .cell (some (.ref D))) (hc3 : (L + 1 + 1 + 1, o3) ∈ led) (hd3 : o3.data = .cell v3) (hc4 : (L + 1 + 1 + 1 + 1, o4) ∈ led) (hd4 : o4.data = .cell v4) (hc5 : (L + 1 + 1 + 1 + 1 + 1, o5) ∈ led) (hd5 : o5.data = .cell v5)
  (hop : OptAt w led op q) (hq : OptOk q) (hqn : q.nl = nl) (hor : OrdAt w led o) (hS : SpotsAt w led D S) (hH : IntsAt led H (keysOf S)) (hMt : MeetsAt led M mt)
  (hI : LI nl S mt) (hlen : S.length ≤ 4) (ret : LawRet h₀ L s Q) :
  wpAny (model P w) (A₀.deeper (envOfC nm scope L a cdv)) (execs (body.drop 18) (envOfC nm scope L a cdv)) Q E s := by
  refine' law_lit hL ?h2 ?k
  case h2 => k_is
  intro e1 e2
  subst e1
  subst e2
  subst hqn
  simp only [List.drop_succ_cons, List.drop_zero]
  refine hideG fun G9 hG9 => ?_
  have F := Fr.with _ F hm
  obtain ⟨slo, snd', oD, kvs, hD, hdd, hSin⟩ := hS.out
  obtain ⟨vsH, kH, hHl, hHI⟩ := id hH
  have hvH := IntsAre.length hHI
  have hkl : (keysOf S).length = S.length := by unfold keysOf; simp
  have h34 : 3 ≤ q.nl ∧ q.nl ≤ 4 := by
    have h1 := hq
    unfold OptOk at h1
    walk_at "mine om"
  have elt : ∀ {v₃ : Value} {j : Nat}, vsH.toArray[j]? = some v₃ → ∃ n t, v₃ = .int n t ∧ n ∈ keysOf S := fun {v₃ j} hv3 => by
    rw [List.getElem?_toArray] at hv3
    have hj := (List.getElem?_eq_some_iff.mp hv3).1
    obtain ⟨n, hn⟩ : ∃ n, (keysOf S)[j]? = some n := ⟨_, List.getElem?_eq_getElem (by walk_at "mine om")⟩
    obtain ⟨t, ht⟩ := ints_at hHI hn
    rw [ht] at hv3
    exact ⟨n, t, (Option.some.inj hv3).symm, List.mem_of_getElem? hn⟩
  refine hG9 ?_
  refine wp_cutn 8 _ ?_
  simp only [List.take_succ_cons, List.take_zero, List.drop_succ_cons, List.drop_zero]
  k_steps
  refine comp_listB rfl (by with_unfolding_all rfl) (by with_unfolding_all rfl) hh (by k_asm) (by k_asm) (by k_mem) (by simp; walk_at "mine om") (fun _ => true) (SpotRef kvs) (by decide) (by rfl) (by rfl) (fun _ _ _ _ _ _ _ _ => wpAny_tests_nil ⟨rfl, keeps_toks⟩) ?_ ?_
  · intro C j v₃ s₃ m₃ E' hv3 hz3 hT3
    refine hideG fun G9 hG9 => ?_
    obtain ⟨F₃, N₃, ns₃, at₃⟩ := hT3
    obtain ⟨n, tn3, rfl, hn⟩ := elt hv3
    obtain ⟨a', t', e1', e2'⟩ := hSin.2 n _ (spAt_mem hn)
    refine hG9 ?_
    k_steps
    all_goals first
      | exact keeps_toks
      | exact ⟨n, tn3, rfl, e1'⟩
      | w_report
  intro ys hp2 Bg hh2 tk2 k2 F2 N2 hne2
  rw [List.filter_eq_self.mpr (fun _ _ => rfl)] at hp2
  obtain ⟨bl, rfl, hbl, hbt⟩ := begun_of hSin hHI hp2 (fun _ h => h)
  have hbz : bl.length = S.length := by have := congrArg List.length hbl; simpa [keysOf] using this
  have N2 : News h₀ L hh2 ((Bg, listOf (bl.map fun q => Value.ref q.1).toArray k2) :: led) := N2
  k_steps
  refine comp_list hh (by k_asm) (by k_asm) (by k_mem) (by simp; walk_at "mine om") (fun _ => true) (OfSpot bl fun p => q.nl - 1 - p.lv) (by decide) (by rfl) (by rfl) (fun _ _ _ _ _ _ _ _ => wpAny_tests_nil ⟨rfl, keeps_toks⟩) ?_ ?_
  · intro C j v₃ s₃ m₃ E' hv3 hz3 hT3
    refine hideG fun G9 hG9 => ?_
    obtain ⟨F₃, N₃, ns₃, at₃⟩ := hT3
    obtain ⟨b, hb, rfl⟩ := refs_of hv3
    have hbm := List.mem_of_getElem? hb
    obtain ⟨tb, z4⟩ := hbt b hbm
    have z5 : (b.1, tup4 b.2 tb) ∈ (Bg, listOf (bl.map fun q => Value.ref q.1).toArray k2) :: led := List.mem_cons_of_mem _ z4
    have hfin : ∀ t₀, ∀ z ∈ bl, Value.ref b.1 = Value.ref z.1 → ∃ t, Value.int (q.nl - 1 - b.2.lv) t₀ = .int (q.nl - 1 - z.2.lv) t := by
      intro t₀ z hz e
      cases e_ : z with
      | mk qa qp =>
        have e' : b.1 = z.1 := by injection e
        obtain ⟨tq, z6⟩ := hbt z hz
        have z7 := led_eq N₃ z5 (by rw [e']; exact List.mem_cons_of_mem _ z6)
        have z8 : b.2.lv = z.2.lv := by
          have := congrArg Obj.data z7
          simp at this
          exact this.1.1
        exact ⟨t₀, by rw [z8, e_]⟩
    refine hG9 ?_
    k_steps
    all_goals first
      | exact keeps_toks
      | exact hfin _
      | w_report
  clear N2
  intro ys4 hp4 D4 hh4 tk4 k4 F4 N4 hne5
  rw [List.filter_eq_self.mpr (fun _ _ => rfl)] at hp4
  have hi7 := mostof (l := bl) (fun _ h => h) hp4
  k_steps
  rename_i tmost e_F2 e_N2 e_h8 e_tk2 pk pd e_h7 e_l1a e_l2 e_g' e_L' e_h6 e_a e_b e_B' e_tk1 e_h5 e_h4 e_F1 e_N1 e_Tc e_kX e_h3 tkb e_l' e_h2 e_l1 pt e_h1 hfresh0 hP FP NP0
  obtain ⟨ledP, NP, hfresh, ⟨pt1, pt2, gpk, gpd⟩, gBg, gled⟩ : ∃ ledP, News h₀ L hP ((pt, listOf (List.replicate q.nl.toNat (Value.bytes #[] tkb)).toArray 0) :: ledP) ∧ (∀ p ∈ ledP, @LT.lt Nat _ p.1 pt) ∧
      (∃ t1 t2, (pk, instObj 606 pd) ∈ ledP ∧ (pd, dictOf [fe w "options" t1 (.ref op), fe w "order" t2 (.ref o)] 2) ∈ ledP) ∧ (Bg, listOf (bl.map fun q => Value.ref q.1).toArray k2) ∈ ledP ∧ ∀ x ∈ led, x ∈ ledP :=
    ⟨_, NP0, hfresh0, ⟨_, _, List.mem_cons_of_mem _ (List.mem_cons_self ..), List.mem_cons_of_mem _ (List.mem_cons_of_mem _ (List.mem_cons_self ..))⟩, by simp, fun x hx => by simp [hx]⟩
  clear NP0 hfresh0 e_N1 e_N2
  obtain ⟨C0, hC0⟩ : ∃ C0, C0 = offL (L + 1 + 1) (offL (L + 1 + 1 + 1) (offL (L + 1 + 1 + 1 + 1) (offL (L + 1 + 1 + 1 + 1 + 1) ledP))) := ⟨_, rfl⟩
  have NPl : News h₀ L hP ledP := fun x hx => NP x (List.mem_cons_of_mem _ hx)
  have mC : ∀ {x : Addr × Obj}, x ∈ C0 ↔ ((((x ∈ ledP ∧ x.1 ≠ L + 1 + 1 + 1 + 1 + 1) ∧ x.1 ≠ L + 1 + 1 + 1 + 1) ∧ x.1 ≠ L + 1 + 1 + 1) ∧ x.1 ≠ L + 1 + 1) := fun {x} => by rw [hC0, mem_offL, mem_offL, mem_offL, mem_offL]
  have kc : ∀ {x : Addr} {ob : Obj}, (x, ob) ∈ ledP → (∀ v, ob.data ≠ .cell v) → (x, ob) ∈ C0 := fun {x ob} hx hn =>
    mC.mpr ⟨⟨⟨⟨hx, (mem_offL.mp (keep_cell NPl (gled _ hc5) hd5 hx hn)).2⟩, (mem_offL.mp (keep_cell NPl (gled _ hc4) hd4 hx hn)).2⟩, (mem_offL.mp (keep_cell NPl (gled _ hc3) hd3 hx hn)).2⟩, (mem_offL.mp (keep_cell NPl (gled _ hc2) hd2 hx hn)).2⟩
  have kl : ∀ {x : Addr} {ob : Obj}, (x, ob) ∈ led → (∀ v, ob.data ≠ .cell v) → (x, ob) ∈ C0 := fun hx hn => kc (gled _ hx) hn
  have kO : OrdAt w C0 o := by
    obtain ⟨d1, d2, d3, tt, z1, z2, z3, z4⟩ := hor
    exact ⟨d1, d2, d3, tt, kl z1 (fun _ e => by simp at e), kl z2 (fun _ e => by simp at e), kl z3 (fun _ e => by simp at e), kl z4 (fun _ e => by simp at e)⟩
  have hst := hI.start hlen
  have hbg : bl.map (·.2) = bgOf S := by
    rw [hbl]
    unfold keysOf bgOf
    rw [List.map_map]
    exact List.map_congr_left fun z hz => spAt_of hI.nodup (show (z.1, z.2) ∈ S from hz)
  have hmost : ((keysOf S).map fun n => q.nl - 1 - (spAt S n).lv).sum = (bl.map fun z => q.nl - 1 - z.2.lv).sum := by
    have e1 : (bl.map fun z => q.nl - 1 - z.2.lv) = (bl.map (·.2)).map fun p => q.nl - 1 - p.lv := by rw [List.map_map]; rfl
    rw [e1, hbl, List.map_map]
    rfl
  have h20 : ((keysOf S).map fun n => q.nl - 1 - (spAt S n).lv).sum ≤ 20 := by
    have := sum_three (f := fun n => q.nl - 1 - (spAt S n).lv) (keysOf S) fun n hn => by
      have := (hI.ok _ (spAt_mem hn)).1
      dsimp only at this ⊢
      walk_at "mine om"
    rw [hkl] at this
    walk_at "mine om"
  have hI0 := hst.1
  rw [hmost] at hI0 h20
  have cf : CFacts w L q.nl op o pk pt M Bg q mt (bgOf S) (bl.map fun z => q.nl - 1 - z.2.lv).sum C0 := by
    refine ⟨?_, hq, rfl, ⟨pd, pt1, pt2, kc gpk (fun _ e => by simp at e), kc gpd (fun _ e => by simp at e), kO⟩, ?_, ⟨bl, k2, hbg, kc gBg (fun _ e => by simp at e), fun z hz => ?_⟩, ⟨o1, tc, mC.mpr ⟨⟨⟨⟨gled _ hc1, ?_⟩, ?_⟩, ?_⟩, ?_⟩, hd1⟩, ?_, ?_, ?_, ?_, ?_, ?_, h20, ?_, hst.2, ?_⟩
    · obtain ⟨od, ot, ov, z1, z2⟩ := hop
      exact ⟨od, ot, ov, kl z1 (fun _ e => by simp at e), kl z2 (fun _ e => by simp [optD] at e)⟩
    · obtain ⟨ml, kM, z1, z2, z3⟩ := hMt
      exact ⟨ml, kM, z1, kl z2 (fun _ e => by simp at e), fun z hz => let ⟨a1, a2, a3⟩ := z3 z hz; ⟨a1, a2, kl a3 (fun _ e => by simp at e)⟩⟩
    · obtain ⟨tt, z1⟩ := hbt z hz
      exact ⟨tt, kl z1 (fun _ e => by simp at e)⟩
    · dsimp only; exact Nat.ne_of_lt (by walk_at "mine om")
    · dsimp only; exact Nat.ne_of_lt (by walk_at "mine om")
    · dsimp only; exact Nat.ne_of_lt (by walk_at "mine om")
    · dsimp only; exact Nat.ne_of_lt (by walk_at "mine om")
    · exact fun p hp => (mC.mp hp).2
    · exact fun p hp => (mC.mp hp).1.2
    · exact fun p hp => (mC.mp hp).1.1.2
    · exact fun p hp => (mC.mp hp).1.1.1.2
    · exact fun p hp => Nat.ne_of_lt (hfresh _ (mC.mp hp).1.1.1.1)
    · exact hfresh _ (gled _ hc5)
    · unfold bgOf; rw [List.length_map]; exact hlen
    · intro z hz
      obtain ⟨a1, b1, z1, z2, _⟩ := hI.mt1 z.1 z.2 hz
      have y1 := (List.getElem?_eq_some_iff.mp z1).1
      have y2 := (List.getElem?_eq_some_iff.mp z2).1
      unfold bgOf
      rw [List.length_map]
      exact ⟨y1, y2⟩
  have sub0 : ∀ x ∈ ledP, x ∈ (pt, listOf (List.replicate q.nl.toNat (Value.bytes #[] tkb)).toArray 0) :: ledP := fun x hx => List.mem_cons_of_mem _ hx
  have hSat : SpotsAt w ((pt, listOf (List.replicate q.nl.toNat (Value.bytes #[] tkb)).toArray 0) :: ledP) D S := hS.mono fun x hx => sub0 x (gled x hx)
  have hOr : OrdAt w ((pt, listOf (List.replicate q.nl.toNat (Value.bytes #[] tkb)).toArray 0) :: ledP) o := hor.mono fun x hx => sub0 x (gled x hx)
  have hbk : ∀ x ∈ S, 0 ≤ x.1 ∧ x.1 < 1000 := fun x hx => by
    obtain ⟨i, hi⟩ := List.getElem?_of_mem hx
    have h1 := hI.key_at hi
    have h2 := (List.getElem?_eq_some_iff.mp hi).1
    walk_at "mine om"
  have hks : ∀ x ∈ S, 10 ≤ x.1 := fun x hx => by
    obtain ⟨i, hi⟩ := List.getElem?_of_mem hx
    have h1 := hI.key_at hi
    walk_at "mine om"
  obtain ⟨ledc, hledc⟩ : ∃ ledc, ledc = (pt, listOf (List.replicate q.nl.toNat (Value.bytes #[] tkb)).toArray 0) :: ledP := ⟨_, rfl⟩
  have gpt : (pt, listOf (List.replicate q.nl.toNat (Value.bytes #[] tkb)).toArray 0) ∈ ledc := by rw [hledc]; exact List.mem_cons_self ..
  rw [← hledc] at NP sub0 hSat hOr
  clear hledc
  show wpAny _ _ _ _ _ _
  refine wpAny_call ?_
  refine' spec_version ?c1 ?c2 hSat hOr h34 hlen hI.ok hbk ?_
  case c1 => walk_at "mine cx"
  case c2 => walk_at "mine room"
  intro v d fl T t lv led1 hh3 tk3 F3 NV hd4v hver hTt hlv hsub4 hfl4 hql4
  (try dsimp only)
  k_steps
  show wpAny _ _ _ _ _ _
  refine wpAny_call ?_
  have c1' : ∀ x ∈ ledc, x ∈ led1 := hsub4
  have cP : ∀ x ∈ C0, x ∈ ledP := fun x hx => (mC.mp hx).1.1.1.1
  have cc : ∀ x ∈ C0, x ∈ ledc := fun x hx => sub0 x (cP x hx)
  have hop1 : OptAt w led1 op q := cf.opt.mono fun x hx => c1' x (cc x hx)
  have hsm := lv_small hlv hlen
  refine' spec_score ?c1 ?c2 hd4v hop1 hver hq hlv.1 hsm ?_
  case c1 => walk_at "mine cx"
  case c2 => walk_at "mine room"
  intro T2 b tt1 tt2 t2' hh5 tk5 hsc F5 N5 hT2 hdT2
  have gpk1 : (pk, instObj 606 pd) ∈ led1 := c1' _ (sub0 _ gpk)
  have gpd1 := c1' _ (sub0 _ gpd)
  (try dsimp only)
  k_steps
  show wpAny _ _ _ _ _ _
  refine wpAny_call ?_
  obtain ⟨ledp, hledp⟩ : ∃ ledp, ledp = (d, verD w q.nl o fl T2 b t2') :: (T2, tup2 (lvTop lv b) (lvBot q b) tt1 tt2) :: led1 := ⟨_, rfl⟩
  have N6 : News h₀ L hh5 ledp := by rw [hledp]; exact N5
  have c2' : ∀ x ∈ led1, x ∈ ledp := fun x hx => by rw [hledp]; simp [hx]
  have gpt6 := c2' _ (c1' _ gpt)
  obtain ⟨rest5, N7, y1, y2, y3⟩ := led_split N6 gpt6
  have k5 : ∀ x ∈ ledP, x ∈ rest5 := fun x hx => y2 x (c2' x (c1' x (sub0 x hx))) (Nat.ne_of_lt (hfresh x hx))
  have c0 : ∀ x ∈ C0, x ∈ rest5 := fun x hx => k5 x (cP x hx)
  have hd7 : (d, verD w q.nl o fl T2 b t2') ∈ rest5 := y2 _ (by rw [hledp]; simp) (by rintro rfl; exact led_cls N6 (by rw [hledp]; exact List.mem_cons_self ..) gpt6 (by simp))
  have hT7 : (T2, tup2 (lvTop lv b) (lvBot q b) tt1 tt2) ∈ rest5 := y2 _ (by rw [hledp]; simp) (by rintro rfl; exact led_cls N6 (by rw [hledp]; exact List.mem_cons_of_mem _ (List.mem_cons_self ..)) gpt6 (by simp))
  have hver7 : VerAt w rest5 v d fl o lv := (hver.mono c2').but N6 gpt6 (Ne.symm (hfl4 _ gpt)) (fun q' hq' => Ne.symm (hql4 q' hq' _ gpt)) (cf.pick.mono c0).ord fun x hx hn => y2 x hx hn
  have z2 := k5 _ (gled _ hc2)
  have z3 := k5 _ (gled _ hc3)
  have z4 := k5 _ (gled _ hc4)
  have z5 := k5 _ (gled _ hc5)
  have hSp7 : SpotsAt w rest5 D S := hS.mono fun x hx => k5 x (gled x hx)
  have hH7 : IntsAt rest5 H (keysOf S) := hH.mono fun x hx => k5 x (gled x hx)
  have hpz : ((List.replicate q.nl.toNat (Value.bytes #[] tkb)).toArray).size = q.nl.toNat := by simp
  have hpo : ∀ x ∈ (List.replicate q.nl.toNat (Value.bytes #[] tkb)).toArray, PtrOk x := fun x hx => by
    simp only [List.mem_toArray] at hx
    rw [(List.mem_replicate.mp hx).2]
    exact .inl ⟨_, rfl⟩
  have mkW : ∀ (m' : Str → Option Value) (nw : List (Addr × Obj)) (ptrs' : Array Value) (tz : Tok), (∀ x ∈ rest5, x ∈ nw) → (pt, listOf ptrs' 0) ∈ nw → ptrs'.size = q.nl.toNat → (∀ x ∈ ptrs', PtrOk x) →
      (Has m' [(Str.ofString "options", .ref op), (Str.ofString "order", .ref o), (Str.ofString "holder", .ref H), (Str.ofString "meets", .ref M), (Str.ofString "begun", .ref Bg), (Str.ofString "most", .int (bl.map fun z => q.nl - 1 - z.2.lv).sum tmost), (Str.ofString "picker", .ref pk), (Str.ofString "pointers", .ref pt), (Str.ofString "version", .ref v), (Str.ofString "picks", .int 0 tz)]) →
      WSt w L q.nl op o pk pt M Bg q mt (bgOf S) (bl.map fun z => q.nl - 1 - z.2.lv).sum C0 m' nw S (keysOf S) 0 D H v d fl T2 lv b t2' ptrs' 0 := by
    rintro m' nw ptrs' tz hnw w1 w2 w3 hnms
    exact ⟨⟨_, _, hnms⟩, ⟨_, hnw _ z2, hd2⟩, ⟨_, _, hnw _ z3, hd3⟩, ⟨_, _, hnw _ z4, hd4⟩, ⟨_, _, hnw _ z5, hd5⟩, fun x hx => hnw _ (c0 x hx), w1, w2, w3, hSp7.mono hnw, hH7.mono hnw, hver7.mono hnw, hnw _ hd7, hlv, hI0, hks, hlen, Int.le_refl _⟩
  refine' spec_pick ?c1 ?c2 y1 (cf.pick.mono c0) (cf.opt.mono c0) hver7 hd7 hT7 hq hlv.1 hpz hpo hsm (scored_hi hq hsc) ?r0 ?r1
  case c1 => walk_at "mine cx"
  case c2 => walk_at "mine room"
  · intro hlt hh8 tk8 F8 N8
    have hlow := scored_low hq hsc hlt
    (try dsimp only)
    k_steps
    rename News h₀ L _ _ => Nz
    rename Fr h₀ L _ _ => Fz
    exact law_while hL B Fz X T' hh hroom cf Nz (mkW _ _ _ _ (fun x hx => List.mem_cons_of_mem _ hx) (List.mem_cons_self ..) hpz hpo (by walk_at "mine has")) (.inl ⟨rfl, hlow⟩) (fun h' tk m' q1 => ret h' tk m' q1)
  · intro hle c' cd' ci' x0 x1 g0 g1' co' us' gp' ed' pl' tc' v' ptrs' led8 hh8 tk8 F8 N8 q1 q2 q3 q4 q5 q6 q7 q8 q9 q10
    have hhi := scored_hi hq hsc hle
    have ptz' : ptrs'.size = q.nl.toNat := by rw [q6]; simp
    have pto' : ∀ x ∈ ptrs', PtrOk x := fun x hx => by
      rw [q6] at hx
      simp only [List.mem_toArray] at hx
      rcases List.mem_or_eq_of_mem_set hx with h | h
      · exact hpo x (by simpa using h)
      · rw [h]; exact q5
    (try dsimp only)
    k_steps
    rename News h₀ L _ _ => Nz
    rename Fr h₀ L _ _ => Fz
    exact law_while hL B Fz X T' hh hroom cf Nz (mkW _ _ _ _ q7 q4 ptz' pto' (by walk_at "mine has")) (.inr ⟨c', cd', ci', x0, x1, co', us', gp', ed', pl', g0, g1', tc', rfl, q1, q2, q3, q8, q9, q10, hhi.1, hhi.2.1⟩) (fun h' tk m' q1 => ret h' tk m' q1)
-- options
theorem opt_of {w : World} {nw : List (Addr × Obj)} {op d : Addr} {t0 t1 t2 t3 t4 t5 t6 t7 t8 t9 t10 t11 t12 t13 t14 t15 t16 t17 t18 t19 t20 t21 t22 t23 t24 t25 t26 : Tok} {v0 v1 v2 v3 v4 v5 v6 v7 v8 v9 v10 v11 v12 v13 v14 : Value} {qnl ql0 qbase qfac qmfs qexp : Int} (ho : (op, instObj 305 d) ∈ nw)
    (h : (d, dictOf [fe w "check" t0 v0, fe w "log_block" t1 v1, fe w "sync_writes" t2 v2, fe w "create_missing" t3 v3, fe w "paranoid" t4 v4, fe w "write_buffer" t5 v5, fe w "max_height" t6 v6, fe w "heights" t7 v7, fe w "block_size" t8 v8, fe w "restart_interval" t9 v9, fe w "filter_bits" t10 v10, fe w "filter_base_lg" t11 v11, fe w "max_file_size" t12 (.int qmfs t13), fe w "num_levels" t14 (.int qnl t15), fe w "l0_trigger" t16 (.int ql0 t17), fe w "l0_stop" t18 v12, fe w "base_bytes" t19 (.int qbase t20), fe w "level_factor" t21 (.int qfac t22), fe w "max_mem_level" t23 v13, fe w "grandparent_factor" t24 v14, fe w "expand_factor" t25 (.int qexp t26)] 21) ∈ nw) : OptAt w nw op ⟨qnl, ql0, qbase, qfac, qmfs, qexp⟩ :=
  ⟨d, fun i => match i with | 0 => t0 | 1 => t1 | 2 => t2 | 3 => t3 | 4 => t4 | 5 => t5 | 6 => t6 | 7 => t7 | 8 => t8 | 9 => t9 | 10 => t10 | 11 => t11 | 12 => t12 | 13 => t13 | 14 => t14 | 15 => t15 | 16 => t16 | 17 => t17 | 18 => t18 | 19 => t19 | 20 => t20 | 21 => t21 | 22 => t22 | 23 => t23 | 24 => t24 | 25 => t25 | 26 => t26 | _ => t0, fun i => match i with | 0 => v0 | 1 => v1 | 2 => v2 | 3 => v3 | 4 => v4 | 5 => v5 | 6 => v6 | 7 => v7 | 8 => v8 | 9 => v9 | 10 => v10 | 11 => v11 | 12 => v12 | 13 => v13 | 14 => v14 | _ => v0, ho, h⟩
theorem opt_ok (x1 x2 x3 x4 x5 x6 : Int) : OptOk ⟨3 + x1.fmod 2, 1 + x2.fmod 2, 1 + x3.fmod 6, 1 + x4.fmod 3, 1 + x5.fmod 6, 1 + x6.fmod 4⟩ := by
  have f : ∀ (x n : Int), 0 < n → 0 ≤ x.fmod n ∧ x.fmod n < n := fun x n hn => ⟨Int.fmod_nonneg_of_pos x hn, Int.fmod_lt_of_pos x hn⟩
  have h1 := f x1 2 (by decide)
  have h2 := f x2 2 (by decide)
  have h3 := f x3 6 (by decide)
  have h4 := f x4 3 (by decide)
  have h5 := f x5 6 (by decide)
  have h6 := f x6 4 (by decide)
  generalize x1.fmod 2 = y1 at *
  generalize x2.fmod 2 = y2 at *
  generalize x3.fmod 6 = y3 at *
  generalize x4.fmod 3 = y4 at *
  generalize x5.fmod 6 = y5 at *
  generalize x6.fmod 4 = y6 at *
  unfold OptOk
  dsimp only
  walk_at "mine om"
theorem spec_oinit {w : World} {A : Around} {h₀ : Heap} {L : Addr} {m : Str → Option Value} {news : List (Addr × Obj)} {s : Shared} {R : Result → Shared → Prop} {x dx : Addr}
  (C : Cx w A h₀ L s.heap m ((x, instObj 305 dx) :: (dx, dictOf [] 0) :: news)) (hroom : A.depth + 30 < 1000) (hl : ∀ p ∈ news, p.1 < dx) (hx : dx < x)
  (ret : ∀ t ov h' tks, Fr h₀ L h' m → News h₀ L h' ((x, instObj 305 dx) :: (dx, optD w ⟨7, 4, 10485760, 10, 2097152, 25⟩ t ov) :: news) → R (.ok (.ret .none)) { s with heap := h', toks := tks }) :
  codeAny (model P w) A (.call (.ref 288) ⟨[.ref x], []⟩) R s := by
  obtain ⟨⟨A₀, base, env, outer, B, hA, hf, hke⟩, F, X, N, ⟨loose, mean, mg, mb, T'⟩, hh⟩ := C
  have hal := allLt_of hl
  have hlt2 : @LT.lt Nat _ dx x := hx
  refine' code_def (binds := [(Str.ofString "self", .ref x)]) B F X N T' hA hf hke ?k6 ?k7 ?k8 ?k9 ?kB ?_ ?c2 ?c3 ?c4 ?c5
  walk_at "mine enter"
  k_steps
  rename News h₀ L _ _ => Nz
  rename Fr h₀ L _ _ => Fz
  exact ret (tkL [_, _, _, _, _, _, _, _, _, _, _, _, _, _, _, _, _, _, _, _, _, _, _, _, _, _, _]) (fun i => [_, _, _, _, _, _, _, _, _, _, _, _, _, _, _].getD i .none) _ _ Fz (fun p hp => Nz p (List.mem_cons_of_mem _ hp))
theorem set_tok {M : Model} {A : Around} {E : Value → Shared → Prop} {s : Shared} {x : Value} {n : Str} {i : Int} {t : Tok} {Q : Unit → Shared → Prop} (H : ∀ t, wpAny M A (setAttr x n (.int i t)) Q E s) : wpAny M A (setAttr x n (.int i t)) Q E s := H t
noncomputable abbrev optE (w : World) (q : Opt) (t : Nat → Tok) (v : Nat → Value) : List DictEntry := [fe w "check" (t 0) (v 0), fe w "log_block" (t 1) (v 1), fe w "sync_writes" (t 2) (v 2), fe w "create_missing" (t 3) (v 3), fe w "paranoid" (t 4) (v 4), fe w "write_buffer" (t 5) (v 5), fe w "max_height" (t 6) (v 6), fe w "heights" (t 7) (v 7), fe w "block_size" (t 8) (v 8), fe w "restart_interval" (t 9) (v 9), fe w "filter_bits" (t 10) (v 10), fe w "filter_base_lg" (t 11) (v 11), fe w "max_file_size" (t 12) (.int q.mfs (t 13)), fe w "num_levels" (t 14) (.int q.nl (t 15)), fe w "l0_trigger" (t 16) (.int q.l0 (t 17)), fe w "l0_stop" (t 18) (v 12), fe w "base_bytes" (t 19) (.int q.base (t 20)), fe w "level_factor" (t 21) (.int q.fac (t 22)), fe w "max_mem_level" (t 23) (v 13), fe w "grandparent_factor" (t 24) (v 14), fe w "expand_factor" (t 25) (.int q.exp (t 26))]
theorem optE_len {w : World} {q : Opt} {t : Nat → Tok} {v : Nat → Value} : (optE w q t v).length ≤ 1000 := (by decide : 21 ≤ 1000)
section
variable {w : World} {A : Around} {E : Value → Shared → Prop} {x dx L : Addr} {h₀ h : Heap} {m : Str → Option Value} {news news' : List (Addr × Obj)} {q : Opt} {t : Nat → Tok} {v : Nat → Value} {i : Int} {ti : Tok} {ge : Array GenState} {dr : Drawn} {os : OsState} {tk : Nat} {Q : Unit → Shared → Prop}
  (F : Fr h₀ L h m) (X₀ : (KM w.params).In h₀) (N : News h₀ L h news) (h1 : (x, instObj 305 dx) ∈ news) (h2 : (dx, optD w q t v) ∈ news)
include F X₀ N h1 h2 in
theorem set_opt1 (U : Upd dx (optD w q t v) (optD w ⟨i, q.l0, q.base, q.fac, q.mfs, q.exp⟩ (fun j => if j = 15 then ti else t j) v) news news') (H : ∀ h' tk, Fr h₀ L h' m → News h₀ L h' news' → Q () ⟨h', ge, dr, tk, os⟩) :
    wpAny (model P w) A (setAttr (.ref x) (Str.ofString "num_levels") (.int i ti)) Q E ⟨h, ge, dr, tk, os⟩ :=
  set_dictS (es := optE w q t v) (es' := optE w ⟨i, q.l0, q.base, q.fac, q.mfs, q.exp⟩ (fun j => if j = 15 then ti else t j) v) (n := 21) (n' := 21) F X₀ N (InstAt.of_news N h1 h2) rfl (by k_is) (by k_is) (by k_is) (by k_is) rfl rfl U optE_len H
include F X₀ N h1 h2 in
theorem set_opt2 (U : Upd dx (optD w q t v) (optD w ⟨q.nl, i, q.base, q.fac, q.mfs, q.exp⟩ (fun j => if j = 17 then ti else t j) v) news news') (H : ∀ h' tk, Fr h₀ L h' m → News h₀ L h' news' → Q () ⟨h', ge, dr, tk, os⟩) :
    wpAny (model P w) A (setAttr (.ref x) (Str.ofString "l0_trigger") (.int i ti)) Q E ⟨h, ge, dr, tk, os⟩ :=
  set_dictS (es := optE w q t v) (es' := optE w ⟨q.nl, i, q.base, q.fac, q.mfs, q.exp⟩ (fun j => if j = 17 then ti else t j) v) (n := 21) (n' := 21) F X₀ N (InstAt.of_news N h1 h2) rfl (by k_is) (by k_is) (by k_is) (by k_is) rfl rfl U optE_len H
include F X₀ N h1 h2 in
theorem set_opt3 (U : Upd dx (optD w q t v) (optD w ⟨q.nl, q.l0, i, q.fac, q.mfs, q.exp⟩ (fun j => if j = 20 then ti else t j) v) news news') (H : ∀ h' tk, Fr h₀ L h' m → News h₀ L h' news' → Q () ⟨h', ge, dr, tk, os⟩) :
    wpAny (model P w) A (setAttr (.ref x) (Str.ofString "base_bytes") (.int i ti)) Q E ⟨h, ge, dr, tk, os⟩ :=
  set_dictS (es := optE w q t v) (es' := optE w ⟨q.nl, q.l0, i, q.fac, q.mfs, q.exp⟩ (fun j => if j = 20 then ti else t j) v) (n := 21) (n' := 21) F X₀ N (InstAt.of_news N h1 h2) rfl (by k_is) (by k_is) (by k_is) (by k_is) rfl rfl U optE_len H
include F X₀ N h1 h2 in
theorem set_opt4 (U : Upd dx (optD w q t v) (optD w ⟨q.nl, q.l0, q.base, i, q.mfs, q.exp⟩ (fun j => if j = 22 then ti else t j) v) news news') (H : ∀ h' tk, Fr h₀ L h' m → News h₀ L h' news' → Q () ⟨h', ge, dr, tk, os⟩) :
    wpAny (model P w) A (setAttr (.ref x) (Str.ofString "level_factor") (.int i ti)) Q E ⟨h, ge, dr, tk, os⟩ :=
  set_dictS (es := optE w q t v) (es' := optE w ⟨q.nl, q.l0, q.base, i, q.mfs, q.exp⟩ (fun j => if j = 22 then ti else t j) v) (n := 21) (n' := 21) F X₀ N (InstAt.of_news N h1 h2) rfl (by k_is) (by k_is) (by k_is) (by k_is) rfl rfl U optE_len H
include F X₀ N h1 h2 in
theorem set_opt5 (U : Upd dx (optD w q t v) (optD w ⟨q.nl, q.l0, q.base, q.fac, i, q.exp⟩ (fun j => if j = 13 then ti else t j) v) news news') (H : ∀ h' tk, Fr h₀ L h' m → News h₀ L h' news' → Q () ⟨h', ge, dr, tk, os⟩) :
    wpAny (model P w) A (setAttr (.ref x) (Str.ofString "max_file_size") (.int i ti)) Q E ⟨h, ge, dr, tk, os⟩ :=
  set_dictS (es := optE w q t v) (es' := optE w ⟨q.nl, q.l0, q.base, q.fac, i, q.exp⟩ (fun j => if j = 13 then ti else t j) v) (n := 21) (n' := 21) F X₀ N (InstAt.of_news N h1 h2) rfl (by k_is) (by k_is) (by k_is) (by k_is) rfl rfl U optE_len H
include F X₀ N h1 h2 in
theorem set_opt6 (U : Upd dx (optD w q t v) (optD w ⟨q.nl, q.l0, q.base, q.fac, q.mfs, i⟩ (fun j => if j = 26 then ti else t j) v) news news') (H : ∀ h' tk, Fr h₀ L h' m → News h₀ L h' news' → Q () ⟨h', ge, dr, tk, os⟩) :
    wpAny (model P w) A (setAttr (.ref x) (Str.ofString "expand_factor") (.int i ti)) Q E ⟨h, ge, dr, tk, os⟩ :=
  set_dictS (es := optE w q t v) (es' := optE w ⟨q.nl, q.l0, q.base, q.fac, q.mfs, i⟩ (fun j => if j = 26 then ti else t j) v) (n := 21) (n' := 21) F X₀ N (InstAt.of_news N h1 h2) rfl (by k_is) (by k_is) (by k_is) (by k_is) rfl rfl U optE_len H
end
theorem rg36_0 : True := by
  k_with "mine k_enter" => (((with_reducible show codeAny _ _ (Code.call (Value.ref 288) _) _ _); refine' spec_oinit (by walk_at "mine cx") (by walk_at "mine room") (by walk_at "mine lt") (by assumption) ?_; intro _ _ _ _ _ _; (try dsimp only [InitBack]); (try refine ⟨rfl, ?_⟩); (try dsimp only)))
  k_with "setAttr ref" => (((with_reducible show wpAny _ _ (setAttr (Value.ref _) (PySem.Str.ofString "num_levels") (Value.int _ _)) _ _ _); k_dflt (walk_at "mine norm"; refine set_tok ?_; intro _; refine' set_opt1 (by k_asm) (by k_asm) (by k_asm) (by k_mem) (by k_mem) (by k_upd) ?_; k_whole; intro _ _ _ _; (try k_sweep))))
  k_with "setAttr ref" => (((with_reducible show wpAny _ _ (setAttr (Value.ref _) (PySem.Str.ofString "l0_trigger") (Value.int _ _)) _ _ _); k_dflt (walk_at "mine norm"; refine set_tok ?_; intro _; refine' set_opt2 (by k_asm) (by k_asm) (by k_asm) (by k_mem) (by k_mem) (by k_upd) ?_; k_whole; intro _ _ _ _; (try k_sweep))))
  k_with "setAttr ref" => (((with_reducible show wpAny _ _ (setAttr (Value.ref _) (PySem.Str.ofString "base_bytes") (Value.int _ _)) _ _ _); k_dflt (walk_at "mine norm"; refine set_tok ?_; intro _; refine' set_opt3 (by k_asm) (by k_asm) (by k_asm) (by k_mem) (by k_mem) (by k_upd) ?_; k_whole; intro _ _ _ _; (try k_sweep))))
  k_with "setAttr ref" => (((with_reducible show wpAny _ _ (setAttr (Value.ref _) (PySem.Str.ofString "level_factor") (Value.int _ _)) _ _ _); k_dflt (walk_at "mine norm"; refine set_tok ?_; intro _; refine' set_opt4 (by k_asm) (by k_asm) (by k_asm) (by k_mem) (by k_mem) (by k_upd) ?_; k_whole; intro _ _ _ _; (try k_sweep))))
  k_with "setAttr ref" => (((with_reducible show wpAny _ _ (setAttr (Value.ref _) (PySem.Str.ofString "max_file_size") (Value.int _ _)) _ _ _); k_dflt (walk_at "mine norm"; refine set_tok ?_; intro _; refine' set_opt5 (by k_asm) (by k_asm) (by k_asm) (by k_mem) (by k_mem) (by k_upd) ?_; k_whole; intro _ _ _ _; (try k_sweep))))
  k_with "setAttr ref" => (((with_reducible show wpAny _ _ (setAttr (Value.ref _) (PySem.Str.ofString "expand_factor") (Value.int _ _)) _ _ _); k_dflt (walk_at "mine norm"; refine set_tok ?_; intro _; refine' set_opt6 (by k_asm) (by k_asm) (by k_asm) (by k_mem) (by k_mem) (by k_upd) ?_; k_whole; intro _ _ _ _; (try k_sweep))))
  exact trivial
theorem law_a2 {w : World} {A₀ : Around} {h₀ base : Heap} {L a l : Addr} {m mg mb : Str → Option Value} {s : Shared} {Q : Flow → Shared → Prop} {E} {nm : Str} {cdv : Value} {outer : List Env} {loose} {mean : ExcName → Option Value}
  {body : List Stmt} {scope : Scope} {led : List (Addr × Obj)} {vs : List Value} {ns : List Int} {k : Nat} {o1 : Obj} {v1 : Option Value}
  (hL : LawAt w body scope) (B : Below A₀ base outer h₀) (F : Fr h₀ L s.heap m) (X : (KM w.params).In h₀) (T' : Top VW loose mean mg mb h₀) (hh : A₀.handled = none) (hroom : A₀.depth + 400 < 1000)
  (N : News h₀ L s.heap ((L + 1, o1) :: led)) (hne : ∀ x ∈ led, x.1 ≠ (L + 1 : Addr)) (hd1 : o1.data = .cell v1) (hm : m (Str.ofString "nums") = some (.ref l)) (hl : (l, listOf vs.toArray k) ∈ led) (hI : IntsAre vs ns) (hpos : 0 < ns.length) (hlen : ns.length ≤ 6) (hb : ∀ x ∈ ns, 0 ≤ x ∧ x < 999983)
  (ret : ∀ h' tks m' nw op o q o1' tc, Fr h₀ L h' m' → News h₀ L h' nw → (∀ x ∈ led, x ∈ nw) → (L + 1, o1') ∈ nw → o1'.data = .cell (some (.int q.nl tc)) → OptAt w nw op q → OptOk q → OrdAt w nw o → Has m' [(Str.ofString "nums", .ref l), (Str.ofString "options", .ref op), (Str.ofString "order", .ref o)] →
    wpAny (model P w) (A₀.deeper (envOfC nm scope L a cdv)) (execs (body.drop 14) (envOfC nm scope L a cdv)) Q E { s with heap := h', toks := tks }) :
  wpAny (model P w) (A₀.deeper (envOfC nm scope L a cdv)) (execs (body.drop 2) (envOfC nm scope L a cdv)) Q E s := by
  refine' law_lit hL ?h2 ?k
  case h2 => k_is
  intro e1 e2
  subst e1
  subst e2
  simp only [List.drop_succ_cons, List.drop_zero] at ret ⊢
  have F := Fr.with [(Str.ofString "nums", .ref l)] F (has1 hm has0)
  refine st_mark ?_
  intro hK9
  refine wp_cutn 12 _ ?_
  simp only [List.take_succ_cons, List.take_zero, List.drop_succ_cons, List.drop_zero]
  k_steps
  rename News h₀ L _ _ => Nz
  rename Fr h₀ L _ _ => Fz
  rename Obj.data _ = Data.cell (some _) => dz
  refine ret _ _ _ _ _ _ _ _ _ Fz Nz ?_ ?_ dz (opt_of (List.mem_cons_of_mem _ (List.mem_cons_of_mem _ (List.mem_cons_of_mem _ (List.mem_cons_of_mem _ (List.mem_cons_self ..))))) (List.mem_cons_of_mem _ (List.mem_cons_of_mem _ (List.mem_cons_of_mem _ (List.mem_cons_of_mem _ (List.mem_cons_of_mem _ (List.mem_cons_self ..))))))) (opt_ok _ _ _ _ _ _)
    ⟨_, _, _, _, List.mem_cons_of_mem _ (List.mem_cons_of_mem _ (List.mem_cons_self ..)), List.mem_cons_of_mem _ (List.mem_cons_of_mem _ (List.mem_cons_of_mem _ (List.mem_cons_self ..))), List.mem_cons_self .., List.mem_cons_of_mem _ (List.mem_cons_self ..)⟩ (by walk_at "mine has")
  · exact fun x hx => by simp [hx]
  · simp
-- first
theorem rg37_0 : True := by
  k_with "call builtin:min" => (k_dflt ((with_reducible show wpAny _ _ (call (Value.builtin _) [Value.int _ _, Value.int _ _]) _ _ _); refine' min_two_N (by walk_at "mine hh") (by k_asm) (by k_asm) ?_; intro _ _ _ _; (try k_sweep)))
  k_with "call builtin:max" => (k_dflt ((with_reducible show wpAny _ _ (call (Value.builtin _) [Value.int _ _, Value.int _ _]) _ _ _); refine' max_two_N (by walk_at "mine hh") (by k_asm) (by k_asm) ?_; intro _ _ _ _; (try k_sweep)))
  k_with "newTuple" => (k_dflt ((refine' kup_newTuple (by k_asm) (by k_asm) ?_ (by kmk_size)); intro _ _ _ _ l1q9; (try k_lt l1q9); (try k_sweep); (revert l1q9; intro _)))
  exact trivial
theorem LI.nil {nl : Int} : LI nl [] [] := ⟨rfl, (fun p hp => by cases hp), (fun i j h => by cases h), (fun i j a b _ h => by simp at h)⟩
theorem meets_none {S : Spots} {mt : List (Nat × Nat)} {j lo hi : Nat} {nw : List (Addr × Obj)} {M : Addr} {r : List (Nat × Nat)} (h : MeetsAt nw M (mt ++ ((List.range j).filter fun (j : Nat) => decide ((spAt S (10 + (j : Int))).lo ≤ hi ∧ lo ≤ (spAt S (10 + (j : Int))).hi)).map fun j => (S.length, j)))
    (hn : ¬ ((spAt S (10 + (j : Int))).lo ≤ hi ∧ lo ≤ (spAt S (10 + (j : Int))).hi)) : MeetsAt nw M (mt ++ ((List.range (j + 1)).filter fun (j : Nat) => decide ((spAt S (10 + (j : Int))).lo ≤ hi ∧ lo ≤ (spAt S (10 + (j : Int))).hi)).map fun j => (S.length, j)) := by
  rw [List.range_succ, List.filter_append, List.filter_cons_of_neg (by simpa using hn), List.filter_nil, List.append_nil]
  exact h
theorem meets_one {S : Spots} {mt : List (Nat × Nat)} {i j lo hi : Nat} {nw : List (Addr × Obj)} {M T : Addr} {ml : List (Addr × (Nat × Nat))} {k : Nat} {t1 t2 : Tok} (e : ml.map (·.2) = mt ++ ((List.range j).filter fun (j : Nat) => decide ((spAt S (10 + (j : Int))).lo ≤ hi ∧ lo ≤ (spAt S (10 + (j : Int))).hi)).map fun j => (S.length, j))
    (h3 : ∀ q ∈ ml, ∃ t1 t2, (q.1, tup2 q.2.1 q.2.2 t1 t2) ∈ nw) (hi' : S.length = i) (h1 : (spAt S (10 + (j : Int))).lo ≤ hi) (h2 : lo ≤ (spAt S (10 + (j : Int))).hi)
    (hM : (M, listOf ((ml.map fun (q : Addr × (Nat × Nat)) => Value.ref q.1) ++ [Value.ref T]).toArray k) ∈ nw) (hT : (T, ({ cls := .type "tuple", data := .seq #[.int (0 + (i : Int)) t1, .int (0 + (j : Int)) t2] } : Obj)) ∈ nw) :
    MeetsAt nw M (mt ++ ((List.range (j + 1)).filter fun (j : Nat) => decide ((spAt S (10 + (j : Int))).lo ≤ hi ∧ lo ≤ (spAt S (10 + (j : Int))).hi)).map fun j => (S.length, j)) := by
  refine ⟨ml ++ [(T, (S.length, j))], k, ?_, ?_, fun q hq => ?_⟩
  · rw [List.range_succ, List.filter_append, List.filter_cons_of_pos (by simp [h1, h2]), List.filter_nil, List.map_append, List.map_append, e, List.append_assoc]
    rfl
  · rw [List.map_append]
    exact hM
  · rcases List.mem_append.mp hq with hq | hq
    · exact h3 q hq
    · rw [List.mem_singleton.mp hq]
      refine ⟨t1, t2, ?_⟩
      rw [Int.zero_add, Int.zero_add] at hT
      rw [hi']
      exact hT
inductive JA (w : World) (ln : List (Str × Value)) (nl : Int) (D H M c3 : Addr) (OLD : Led) (i : Nat) (m : Fm) (nw : Led) : Prop
  | mk (hm : Has m ln) (S : Spots) (mt : List (Nat × Nat)) (oD : Obj) (kvs : List (Int × Value)) (vsH : List Value) (kH : Nat) (o3 : Obj) (v3 : Option Value) (h1 : S.length = i) (h2 : LI nl S mt) (h3 : mt.length ≤ 4 * i) (h4 : (D, oD) ∈ nw) (h5 : oD.IsDictOf (PySem.intKind P w) kvs) (h6 : SpotsIn nw kvs S)
    (h7 : (H, listOf vsH.toArray kH) ∈ nw) (h8 : IntsAre vsH (keysOf S)) (h9 : MeetsAt nw M mt) (ha : (c3, o3) ∈ nw) (hb : o3.data = .cell v3) (hc : ∀ x ∈ OLD, x ∈ nw)
inductive JB (ln : List (Str × Value)) (lo hi : Nat) (nl : Int) (c3 M : Addr) (S : Spots) (mt : List (Nat × Nat)) (OLD2 : Led) (j : Nat) (m : Fm) (nw : Led) : Prop
  | mk (tlo thi : Tok) (hm : Has m ((Str.ofString "low", .int (lo : Int) tlo) :: (Str.ofString "high", .int (hi : Int) thi) :: ln)) (lvl : Int) (oc : Obj) (tl : Tok) (h1 : (c3, oc) ∈ nw) (h2 : oc.data = .cell (some (.int lvl tl))) (h3 : 0 ≤ lvl) (h4 : lvl < nl)
    (h5 : ∀ j' : Nat, j' < j → (spAt S (10 + (j' : Int))).lo ≤ hi → lo ≤ (spAt S (10 + (j' : Int))).hi → lvl ≤ max 0 ((spAt S (10 + (j' : Int))).lv - 1))
    (h6 : MeetsAt nw M (mt ++ ((List.range j).filter fun (j : Nat) => decide ((spAt S (10 + (j : Int))).lo ≤ hi ∧ lo ≤ (spAt S (10 + (j : Int))).hi)).map fun j => (S.length, j))) (h7 : ∀ x ∈ OLD2, x ∈ nw)
theorem law_a3 {w : World} {A₀ : Around} {h₀ base : Heap} {L a l : Addr} {m mg mb : Str → Option Value} {s : Shared} {Q : Flow → Shared → Prop} {E} {nm : Str} {cdv : Value} {outer : List Env} {loose} {mean : ExcName → Option Value}
  {body : List Stmt} {scope : Scope} {led : List (Addr × Obj)} {op o : Addr} {q : Opt} {vs : List Value} {ns : List Int} {k : Nat} {o1 o2 o3 o4 o5 : Obj} {tc : Tok} {v2 v3 v4 v5 : Option Value}
  (hL : LawAt w body scope) (B : Below A₀ base outer h₀) (F : Fr h₀ L s.heap m) (X : (KM w.params).In h₀) (T' : Top VW loose mean mg mb h₀) (hh : A₀.handled = none) (hroom : A₀.depth + 400 < 1000)
  (N : News h₀ L s.heap led) (hm : Has m [(Str.ofString "nums", .ref l), (Str.ofString "options", .ref op), (Str.ofString "order", .ref o)])
  (hc1 : (L + 1, o1) ∈ led) (hd1 : o1.data = .cell (some (.int q.nl tc))) (hc2 : (L + 1 + 1, o2) ∈ led) (hd2 : o2.data = .cell v2) (hc3 : (L + 1 + 1 + 1, o3) ∈ led) (hd3 : o3.data = .cell v3) (hc4 : (L + 1 + 1 + 1 + 1, o4) ∈ led) (hd4 : o4.data = .cell v4) (hc5 : (L + 1 + 1 + 1 + 1 + 1, o5) ∈ led) (hd5 : o5.data = .cell v5)
  (hop : OptAt w led op q) (hq : OptOk q) (hor : OrdAt w led o) (hl : (l, listOf vs.toArray k) ∈ led) (hI : IntsAre vs ns) (hpos : 0 < ns.length) (hlen : ns.length ≤ 6) (hb : ∀ x ∈ ns, 0 ≤ x ∧ x < 999983) (ret : LawRet h₀ L s Q) :
  wpAny (model P w) (A₀.deeper (envOfC nm scope L a cdv)) (execs (body.drop 14) (envOfC nm scope L a cdv)) Q E s := by
  refine' law_lit hL ?h2 ?k
  case h2 => k_is
  intro e1 e2
  subst e1
  subst e2
  simp only [List.drop_succ_cons, List.drop_zero]
  have F := Fr.with _ F hm
  obtain ⟨rest, hrest⟩ : ∃ rest, rest = offL (L + 1 + 1) (offL (L + 1 + 1 + 1) led) := ⟨_, rfl⟩
  have mR : ∀ {x : Addr × Obj}, x ∈ rest ↔ ((x ∈ led ∧ x.1 ≠ L + 1 + 1 + 1) ∧ x.1 ≠ L + 1 + 1) := fun {x} => by rw [hrest, mem_offL, mem_offL]
  have kc : ∀ {x : Addr} {ob : Obj}, (x, ob) ∈ led → (∀ v, ob.data ≠ .cell v) → (x, ob) ∈ rest := fun {x ob} hx hn =>
    mR.mpr ⟨⟨hx, (mem_offL.mp (keep_cell N hc3 hd3 hx hn)).2⟩, (mem_offL.mp (keep_cell N hc2 hd2 hx hn)).2⟩
  have kr : ∀ {x : Addr × Obj}, x ∈ led → @Ne Nat x.1 (L + 1 + 1 + 1) → @Ne Nat x.1 (L + 1 + 1) → x ∈ rest := fun h1 h2 h3 => mR.mpr ⟨⟨h1, h2⟩, h3⟩
  have N₁ : News h₀ L s.heap ((L + 1 + 1, o2) :: (L + 1 + 1 + 1, o3) :: rest) := fun x hx => by
    simp only [List.mem_cons] at hx
    rcases hx with rfl | rfl | hx
    · exact N _ hc2
    · exact N _ hc3
    · exact N _ (mR.mp hx).1.1
  have r2 : ∀ x ∈ rest, x.1 ≠ (L + 1 + 1 : Addr) := fun x hx => (mR.mp hx).2
  have r3 : ∀ x ∈ rest, x.1 ≠ (L + 1 + 1 + 1 : Addr) := fun x hx => (mR.mp hx).1.2
  have r23 : ∀ x ∈ (L + 1 + 1 + 1, o3) :: rest, x.1 ≠ (L + 1 + 1 : Addr) := fun x hx => by
    rcases List.mem_cons.mp hx with rfl | hx
    · dsimp only; exact Nat.ne_of_gt (by walk_at "mine om")
    · exact r2 x hx
  have h34 : 3 ≤ q.nl ∧ q.nl ≤ 4 := by
    have h1 := hq
    unfold OptOk at h1
    walk_at "mine om"
  have gl := kc hl (fun _ e => by simp at e)
  have g1 := kr hc1 (by dsimp only; walk_at "mine om") (by dsimp only; walk_at "mine om")
  have g4 := kr hc4 (by dsimp only; walk_at "mine om") (by dsimp only; walk_at "mine om")
  have g5 := kr hc5 (by dsimp only; walk_at "mine om") (by dsimp only; walk_at "mine om")
  have gop : OptAt w rest op q := by
    obtain ⟨od, ot, ov, z1, z2⟩ := hop
    exact ⟨od, ot, ov, kc z1 (fun _ e => by simp at e), kc z2 (fun _ e => by simp [optD] at e)⟩
  have gor : OrdAt w rest o := by
    obtain ⟨x1, x2, x3, tt, z1, z2, z3, z4⟩ := hor
    exact ⟨x1, x2, x3, tt, kc z1 (fun _ e => by simp at e), kc z2 (fun _ e => by simp at e), kc z3 (fun _ e => by simp at e), kc z4 (fun _ e => by simp at e)⟩
  clear N
  k_steps
  rename_i D e_h6 oD slo e_hs e_fs hdd e_fi lD e_h5 oS dS H e_h4 lH e_h3 e_tk1 M e_h2 lM e_h1 e_F e_N h₂ e_tk t₁ u₁ v₁ hrng FB NB hkeep
  have n7 : 3 ≤ 7 - q.nl ∧ 7 - q.nl ≤ 4 := by walk_at "mine om"
  obtain ⟨OLD, hOLD⟩ : ∃ OLD, OLD = (L + 1 + 1, oS) :: rest := ⟨_, rfl⟩
  have oR : ∀ x ∈ rest, x ∈ OLD := fun x hx => by rw [hOLD]; simp [hx]
  have oS' : (L + 1 + 1, oS) ∈ OLD := by rw [hOLD]; simp
  have hO3 : ∀ x ∈ OLD, @Ne Nat x.1 (L + 1 + 1 + 1) := fun x hx => by
    rw [hOLD] at hx
    rcases List.mem_cons.mp hx with rfl | hx
    · dsimp only; exact Nat.ne_of_lt (by walk_at "mine om")
    · exact r3 x hx
  have hOD : ∀ x ∈ OLD, @LT.lt Nat _ x.1 D := fun x hx => by
    rw [hOLD] at hx
    rcases List.mem_cons.mp hx with rfl | hx
    · exact lD.1
    · exact allLt_all lD.2.2 x hx
  have h3D : @LT.lt Nat _ (L + 1 + 1 + 1) D := lD.2.1
  have hDH : @LT.lt Nat _ D H := lH.1
  have hHM : @LT.lt Nat _ H M := lM.1
  refine for_range2 rfl (7 - q.nl).toNat hh (by k_asm) (by k_asm) hrng (small1 (by walk_at "mine om") (by walk_at "mine om")) (rsz (by walk_at "mine om")) (JA w [(Str.ofString "nums", .ref l), (Str.ofString "options", .ref op), (Str.ofString "order", .ref o), (Str.ofString "holder", .ref H), (Str.ofString "meets", .ref M)] q.nl D H M (L + 1 + 1 + 1) OLD) ?_ ?_ ?_
  · refine ⟨by walk_at "mine has", [], [], oD, [], [], 0, o3, v3, rfl, LI.nil, by simp, by simp, hdd, ⟨rfl, fun _ _ h => by cases h⟩, by simp, .nil, ⟨[], 0, rfl, by simp, fun q hq => by cases hq⟩, by simp, hd3, fun x hx => ?_⟩
    rw [hOLD] at hx
    simp only [List.mem_cons] at hx ⊢
    rcases hx with h | h <;> simp [h]
  · intro I i tv m₁ nw led₁ own h₁ tk₁ hi hJ hsub hnI hown hownI hI' hnI' F₁ N₁
    refine hideG fun G9 hG9 => ?_
    obtain ⟨hmm, S, mt, oD', kvs, vsH, kH, o3', v3', hSl, hLI, hmt4, hD', hdd', hSin, hHl, hHI, hMt, hc3', hd3', hO⟩ := hJ
    have F₁ := Fr.with _ F₁ hmm
    obtain ⟨rest₁, N₂, y1, y2, y3⟩ := led_split N₁ (hsub _ hc3')
    have hor₁ : ∀ x ∈ OLD, x ∈ rest₁ := fun x hx => y2 x (hsub _ (hO x hx)) (hO3 x hx)
    have u1 := hor₁ _ (oR _ gl)
    have u2 := hor₁ _ (oR _ g1)
    have u3 := hor₁ _ oS'
    have i4 : i < 4 := by walk_at "mine om"
    have Nw : News h₀ L h₁ nw := fun z hz => N₁ z (hsub z hz)
    have k2 : ∀ z ∈ nw, @Ne Nat z.1 (L + 1 + 1 + 1) → z ∈ rest₁ := fun z hz hn => y2 z (hsub z hz) hn
    have hMt' : MeetsAt rest₁ M mt := hMt.but (by walk_at "mine om") Nw hc3' (notup_cell hd3') k2
    have hSin' : SpotsIn rest₁ kvs S := hSin.but Nw hc3' (notup_cell hd3') k2
    have hDr : (D, oD') ∈ rest₁ := k2 _ hD' (by dsimp only; walk_at "mine om")
    have hHr : (H, listOf vsH.toArray kH) ∈ rest₁ := k2 _ hHl (by dsimp only; walk_at "mine om")
    clear N₁ Nw
    refine hG9 ?_
    k_steps
    rename_i f_h7 f_tk3 r tr f_h6 f_tks hr0 hr1 f_h5 f_tk2 f_h4 f_h3 f_tk1 f_h2 f_h1 oL FL NL dL h₃ f_tk t₂ u₂ v₂ hrng2 FB2 NB2 hkeep2
    have fm : ∀ (x n : Int), 0 < n → 0 ≤ x.fmod n ∧ x.fmod n < n := fun x n hn => ⟨Int.fmod_nonneg_of_pos x hn, Int.fmod_lt_of_pos x hn⟩
    have b1 := fm r 6 (by decide)
    have b2 := fm (r.fdiv 6) 3 (by decide)
    have b3 := fm (r.fdiv 18) q.nl (by walk_at "mine om")
    obtain ⟨lo, hlo⟩ : ∃ lo : Nat, r.fmod 6 = (lo : Int) := ⟨(r.fmod 6).toNat, by walk_at "mine om"⟩
    obtain ⟨hi, hhi⟩ : ∃ hi : Nat, (if r.fmod 6 + (r.fdiv 6).fmod 3 < 5 then r.fmod 6 + (r.fdiv 6).fmod 3 else 5) = (hi : Int) := ⟨(if r.fmod 6 + (r.fdiv 6).fmod 3 < 5 then r.fmod 6 + (r.fdiv 6).fmod 3 else 5).toNat, by split <;> walk_at "mine om"⟩
    have hlh : lo ≤ hi ∧ hi < 6 := by
      split at hhi <;> walk_at "mine om"
    obtain ⟨OLD2, hOLD2⟩ : ∃ OLD2, OLD2 = offL M rest₁ := ⟨_, rfl⟩
    have hst : ∀ x ∈ OLD2, x ∈ rest₁ ∧ x.1 ≠ M := fun x hx => by rw [hOLD2] at hx; exact mem_offL.mp hx
    have NR : News h₀ L h₃ rest₁ := fun x hx => NB2 x (List.mem_cons_of_mem _ hx)
    obtain ⟨ml0, kM0, q1, q2, q3⟩ := id hMt'
    have kM2 : ∀ z ∈ rest₁, @Ne Nat z.1 M → z ∈ OLD2 := fun z hz hn => by rw [hOLD2]; exact mem_offL.mpr ⟨hz, hn⟩
    have hSin2 : SpotsIn OLD2 kvs S := hSin'.but NR q2 notup_list kM2
    have hD2 : (D, oD') ∈ OLD2 := kM2 _ hDr (by dsimp only; walk_at "mine om")
    have hH2 : (H, listOf vsH.toArray kH) ∈ OLD2 := kM2 _ hHr (by dsimp only; walk_at "mine om")
    have hO2 : ∀ x ∈ OLD, x ∈ OLD2 := fun x hx => kM2 x (hor₁ x hx) (by have := hOD x hx; walk_at "mine om")
    have iM : @Ne Nat M I := by obtain ⟨_, _, _, z, _⟩ := hMt; exact hnI _ z
    have i3 : @Ne Nat (L + 1 + 1 + 1) I := hnI _ hc3'
    have hown2 : ∀ x ∈ own, x ∈ OLD2 := fun x hx => kM2 x (y2 x (hown x hx) (by rw [hownI x hx]; exact Ne.symm i3)) (by rw [hownI x hx]; exact Ne.symm iM)
    refine for_range2 rfl i hh (by k_asm) (by k_asm) hrng2 (small1 (by walk_at "mine om") (by walk_at "mine om")) (rsz (by walk_at "mine om")) (JB ([(Str.ofString "nums", .ref l), (Str.ofString "options", .ref op), (Str.ofString "order", .ref o), (Str.ofString "holder", .ref H), (Str.ofString "meets", .ref M), (Str.ofString "i", .int (0 + ((i : Nat) : Int)) tv), (Str.ofString "y", .int r tr)]) lo hi q.nl (L + 1 + 1 + 1) M S mt OLD2)
      ⟨_, _, has1 (by rw [← hlo]; rfl) (has1 (by rw [← hhi]; rfl) (by walk_at "mine has")), _, oL, _, List.mem_cons_self .., dL, b3.1, b3.2, (fun j' h => absurd h (Nat.not_lt_zero _)), ?_, fun x hx => List.mem_cons_of_mem _ (hst x hx).1⟩ ?_ ?_
    · simpa using hMt'.mono fun x hx => List.mem_cons_of_mem (L + 1 + 1 + 1, oL) hx
    · intro J₂ j tv₂ m₂ nw₂ led₂ own₂ h₄ tk₄ hj hJ₂ hsub₂ hnI₂ hown₂ hownI₂ hI₂' hnI₂' F₂ N₃
      refine hideG fun G9 hG9 => ?_
      obtain ⟨tlo, thi, hmm2, lvl, oc, tl, hoc, hdc, l0, l1, hlv, hMt₂, hO₂⟩ := hJ₂
      have F₂ := Fr.with _ F₂ hmm2
      obtain ⟨ml, kM, e1, e2, e3⟩ := hMt₂
      obtain ⟨ra, Na, a1, a2, a3⟩ := led_split N₃ (hsub₂ _ hoc)
      have hM3 : @Ne Nat M (L + 1 + 1 + 1) := by walk_at "mine om"
      have hMa := a2 _ (hsub₂ _ e2) hM3
      obtain ⟨rb, Nb, c1, c2, c3⟩ := led_split (fun x hx => Na x (List.mem_cons_of_mem _ hx)) hMa
      have N₄ : News h₀ L h₄ ((L + 1 + 1 + 1, oc) :: (M, listOf ((ml.map fun q => Value.ref q.1).toArray) kM) :: rb) := fun x hx => by
        rcases List.mem_cons.mp hx with rfl | hx
        · exact Na _ (List.mem_cons_self ..)
        · exact Nb x hx
      have hR3 : ∀ x ∈ OLD2, x ∈ rb := fun x hx => c2 x (a2 x (hsub₂ _ (hO₂ x hx)) (y1 x (hst x hx).1)) (hst x hx).2
      have hjS : j < S.length := by walk_at "mine om"
      obtain ⟨at', tt', z1, z2⟩ := hSin2.2 _ _ (spAt_mem (hLI.key_mem hjS))
      have z1' : valueAt kvs (10 + (0 + ((j : Nat) : Int))) = some (.ref at') := by rw [Int.zero_add]; exact z1
      have z2' := hR3 _ z2
      have gD := hR3 _ hD2
      have gS := hR3 _ (hO2 _ oS')
      have J3 : @Ne Nat (L + 1 + 1 + 1) J₂ := hnI₂ _ hoc
      have JM : @Ne Nat M J₂ := hnI₂ _ e2
      have own3 : ∀ x ∈ own₂, x ∈ rb := fun x hx => c2 x (a2 x (hown₂ x hx) (by rw [hownI₂ x hx]; exact Ne.symm J3)) (by rw [hownI₂ x hx]; exact Ne.symm JM)
      have nrb : ∀ x ∈ OLD2, x.1 ≠ J₂ := fun x hx => hnI₂ _ (hO₂ x hx)
      have rb3 : ∀ x ∈ rb, x.1 ≠ (L + 1 + 1 + 1 : Addr) := fun x hx => a1 x (c3 x hx)
      have hmz : ((ml.map fun q => Value.ref q.1).toArray).size ≤ 100 := by
        have h1 := congrArg List.length e1
        have h2 := List.length_filter_le (fun (j : Nat) => decide ((spAt S (10 + (j : Int))).lo ≤ hi ∧ lo ≤ (spAt S (10 + (j : Int))).hi)) (List.range j)
        simp only [List.length_map, List.length_append, List.length_range, List.size_toArray] at h1 h2 ⊢
        walk_at "mine om"
      have e3' : ∀ q ∈ ml, ∃ t1 t2, (q.1, tup2 q.2.1 q.2.2 t1 t2) ∈ rb ∧ q.1 ≠ J₂ := fun q hq => by
        obtain ⟨u1, u2, x⟩ := e3 q hq
        refine ⟨u1, u2, c2 _ (a2 _ (hsub₂ _ x) ?_) ?_, hnI₂ _ x⟩
        · intro e
          have e' : q.1 = L + 1 + 1 + 1 := e
          rw [e'] at x
          have := led_eq N₃ (hsub₂ _ hoc) (hsub₂ _ x)
          subst this
          cases hdc
        · intro e
          have e' : q.1 = M := e
          rw [e'] at x
          have := led_eq N₃ (hsub₂ _ e2) (hsub₂ _ x)
          simp at this
      clear Na Nb N₃ hMa
      have hJr : ∃ oI : Obj, (J₂, oI) ∈ rb := by
        obtain ⟨oI, x1, _⟩ := hI₂'
        exact ⟨oI, c2 _ (a2 _ x1 (Ne.symm J3)) (Ne.symm JM)⟩
      by_cases hme : (spAt S (10 + (j : Int))).lo ≤ hi ∧ lo ≤ (spAt S (10 + (j : Int))).hi
      · obtain ⟨hm1, hm2⟩ := hme
        refine hG9 ?_
        k_steps
        rename_i D3 g4 lD3 g3 t2 g2 t1 g1 t0 g0 oc3 F3 N3 d3
        obtain ⟨oI, hJr⟩ := hJr
        have hJD : @LT.lt Nat _ J₂ D3 := allLt_all lD3.2.2 _ hJr
        refine ⟨_, _, _, _, rfl, F3, N3, fun x hx => by simp [own3 x hx], _, _, by walk_at "mine has",
          _, oc3, _, mem_offL.mpr ⟨by simp, J3⟩, d3, ?_, ?_, ?_, ?_, fun x hx => mem_offL.mpr ⟨by simp [hR3 x hx], nrb x hx⟩⟩
        · clear d3; split <;> (try split) <;> walk_at "mine om"
        · clear d3; split <;> (try split) <;> walk_at "mine om"
        · clear d3
          intro j' hj' x1 x2
          by_cases ej : j' = j
          · subst ej
            split <;> (try split) <;> walk_at "mine om"
          · have := hlv j' (by walk_at "mine om") x1 x2
            split <;> (try split) <;> walk_at "mine om"
        · exact meets_one e1 (fun q hq => let ⟨u1, u2, x, y⟩ := e3' q hq; ⟨u1, u2, mem_offL.mpr ⟨by simp [x], y⟩⟩) (by walk_at "mine om") hm1 hm2 (mem_offL.mpr ⟨List.mem_cons_of_mem _ (List.mem_cons_of_mem _ (List.mem_cons_self ..)), JM⟩) (mem_offL.mpr ⟨List.mem_cons_self .., Nat.ne_of_gt hJD⟩)
      · have hno : ∀ j' : Nat, j' < j + 1 → (spAt S (10 + (j' : Int))).lo ≤ hi → lo ≤ (spAt S (10 + (j' : Int))).hi → lvl ≤ max 0 ((spAt S (10 + (j' : Int))).lv - 1) := fun j' hj' x1 x2 => by
          by_cases ej : j' = j
          · subst ej
            exact absurd ⟨x1, x2⟩ hme
          · exact hlv j' (by walk_at "mine om") x1 x2
        have hMr : ∀ nw' : List (Addr × Obj), (∀ x ∈ rb, x.1 ≠ J₂ → x ∈ nw') → (M, listOf ((ml.map fun q => Value.ref q.1).toArray) kM) ∈ nw' → MeetsAt nw' M (mt ++ ((List.range (j + 1)).filter fun (j : Nat) => decide ((spAt S (10 + (j : Int))).lo ≤ hi ∧ lo ≤ (spAt S (10 + (j : Int))).hi)).map fun j => (S.length, j)) := fun nw' x1 x2 =>
          meets_none (r := []) ⟨ml, kM, e1, x2, fun q hq => let ⟨u1, u2, x, y⟩ := e3' q hq; ⟨u1, u2, x1 _ x y⟩⟩ hme
        by_cases hm1 : (spAt S (10 + (j : Int))).lo ≤ hi
        · have hm2 : ¬ lo ≤ (spAt S (10 + (j : Int))).hi := fun h => hme ⟨hm1, h⟩
          refine hG9 ?_
          k_steps
          rename News h₀ L _ _ => N3
          rename Fr h₀ L _ _ => F3
          exact ⟨_, _, _, _, rfl, F3, N3, fun x hx => by simp [own3 x hx], _, _, by walk_at "mine has",
            _, oc, _, mem_offL.mpr ⟨by simp, J3⟩, hdc, l0, l1, hno, hMr _ (fun x hx y => mem_offL.mpr ⟨by simp [hx], y⟩) (mem_offL.mpr ⟨by simp, JM⟩), fun x hx => mem_offL.mpr ⟨by simp [hR3 x hx], nrb x hx⟩⟩
        · refine hG9 ?_
          k_steps
          rename News h₀ L _ _ => N3
          rename Fr h₀ L _ _ => F3
          exact ⟨_, _, _, _, rfl, F3, N3, fun x hx => by simp [own3 x hx], _, _, by walk_at "mine has",
            _, oc, _, mem_offL.mpr ⟨by simp, J3⟩, hdc, l0, l1, hno, hMr _ (fun x hx y => mem_offL.mpr ⟨by simp [hx], y⟩) (mem_offL.mpr ⟨by simp, JM⟩), fun x hx => mem_offL.mpr ⟨by simp [hR3 x hx], nrb x hx⟩⟩
    · intro h₅ tk₅ m₃ nw₃ F₅ N₅ hJ₃
      refine hideG fun G9 hG9 => ?_
      obtain ⟨tlo, thi, hmm3, lvl, oc, tl, hoc, hdc, l0, l1, hlv, hMt₃, hO₃⟩ := hJ₃
      have F₅ := Fr.with _ F₅ hmm3
      have hMD : @Ne Nat M D := by walk_at "mine om"
      have hMH : @Ne Nat M H := by walk_at "mine om"
      have hHD : @Ne Nat H D := by walk_at "mine om"
      have h3D' : @Ne Nat (L + 1 + 1 + 1) D := by walk_at "mine om"
      have h3H' : @Ne Nat (L + 1 + 1 + 1) H := by walk_at "mine om"
      have iD : @Ne Nat D I := hnI _ hD'
      have iH : @Ne Nat H I := hnI _ hHl
      obtain ⟨oI, gI, cI⟩ := hI'
      have gI2 : (I, oI) ∈ OLD2 := kM2 _ (y2 _ gI (Ne.symm i3)) (Ne.symm iM)
      have nI : NoTup oI := .inl (by rw [cI]; simp)
      obtain ⟨ra, Na, a1, a2, a3⟩ := led_split N₅ (hO₃ _ hD2)
      have hHa := a2 _ (hO₃ _ hH2) hHD
      have Na' : News h₀ L h₅ ra := fun x hx => Na x (List.mem_cons_of_mem _ hx)
      obtain ⟨rb, Nb, c1, c2, c3⟩ := led_split Na' hHa
      have N₆ : News h₀ L h₅ ((D, oD') :: (H, listOf vsH.toArray kH) :: rb) := fun x hx => by
        rcases List.mem_cons.mp hx with rfl | hx
        · exact Na _ (List.mem_cons_self ..)
        · exact Nb x hx
      have kb : ∀ x ∈ nw₃, @Ne Nat x.1 D → @Ne Nat x.1 H → x ∈ rb := fun x hx h1 h2 => c2 x (a2 x hx h1) h2
      have rbD : ∀ x ∈ rb, x.1 ≠ D := fun x hx => a1 x (c3 x hx)
      have gMt : MeetsAt rb M _ := (hMt₃.but hMD N₅ (hO₃ _ hD2) (notup_dict hdd') (fun x hx h => a2 x hx h)).but hMH Na' hHa notup_list (fun x hx h => c2 x hx h)
      have gSp : SpotsIn rb kvs S := ((hSin2.mono hO₃).but N₅ (hO₃ _ hD2) (notup_dict hdd') (fun x hx h => a2 x hx h)).but Na' hHa notup_list (fun x hx h => c2 x hx h)
      have g3c := kb _ hoc h3D' h3H'
      have gO : ∀ x ∈ OLD, x ∈ rb := fun x hx => kb x (hO₃ _ (hO2 x hx)) (Nat.ne_of_lt (hOD x hx)) (Nat.ne_of_lt (Nat.lt_trans (hOD x hx) hDH))
      have gS := gO _ oS'
      have gI3 := kb _ (hO₃ _ gI2) (Ne.symm iD) (Ne.symm iH)
      have gown : ∀ x ∈ own, x ∈ rb := fun x hx => kb x (hO₃ _ (hown2 x hx)) (by rw [hownI x hx]; exact Ne.symm iD) (by rw [hownI x hx]; exact Ne.symm iH)
      have hsz : kvs.length ≤ sizeLine := by
        have := congrArg List.length hSin.1
        simp only [keysOf, List.length_map] at this
        rw [sizeLine_eq]
        walk_at "mine om"
      have hsz2 : vsH.toArray.size ≤ 100 := by
        have := IntsAre.length hHI
        simp only [keysOf, List.length_map] at this
        rw [List.size_toArray]
        walk_at "mine om"
      clear Na Nb N₅ Na' hHa
      refine hG9 ?_
      k_steps
      rename_i T5 x5 lT5 y5 oD5 hd5 tk5' h6' F6 N6
      obtain ⟨p, hp⟩ : ∃ p : Sp, p = ⟨lvl, lo, hi, 1 + (r.fdiv 72).fmod 4⟩ := ⟨_, rfl⟩
      have hke : (10 + (0 + ((i : Nat) : Int))) = 10 + (S.length : Int) := by walk_at "mine om"
      rw [hke] at hd5 N6
      obtain ⟨tf, N7⟩ : ∃ t, News h₀ L h6' ((T5, tup4 p t) :: (D, oD5) :: (H, listOf (vsH.toArray.push (.int (10 + (S.length : Int)) (tk5' + 1))) (kH + 1)) :: rb) := ⟨tkL [tl, tlo, thi, _], by rw [hp]; exact N6⟩
      have hkn : 10 + (S.length : Int) ∉ keysOf S := fun h => by
        rw [hLI.keys] at h
        obtain ⟨j', x1, x2⟩ := List.mem_map.mp h
        have := List.mem_range.mp x1
        walk_at "mine om"
      have hIT : @LT.lt Nat _ I T5 := allLt_all lT5.2.2 _ gI3
      have f4 : 0 ≤ (r.fdiv 72).fmod 4 := (fm _ 4 (by decide)).1
      refine ⟨_, _, _, _, rfl, F6, N7, fun x hx => by simp [gown x hx], by walk_at "mine has", S ++ [(10 + (S.length : Int), p)], _, oD5, _, vsH ++ [.int (10 + (S.length : Int)) (tk5' + 1)], kH + 1, oc, _, ?_, hLI.grow (p := p) ?_ rfl ?_, ?_, mem_offL.mpr ⟨by simp, iD⟩, hd5,
        (spots_put (t := tf) gSp (fun x hx => by simp [hx]) hkn (List.mem_cons_self ..)).but N7 (by simp [gI3]) nI (fun x hx h => mem_offL.mpr ⟨hx, h⟩), mem_offL.mpr ⟨by simp, iH⟩, ?_, ?_, mem_offL.mpr ⟨by simp [g3c], i3⟩, hdc, fun x hx => mem_offL.mpr ⟨by simp [gO x hx], hnI _ (hO x hx)⟩⟩
      · simp [hSl]
      · rw [hp]
        dsimp only
        walk_at "mine om"
      · intro j' hj' z1 z2
        rw [hp] at z1 z2 ⊢
        exact hlv j' (by walk_at "mine om") z1 z2
      · have h2 := List.length_filter_le (fun (j : Nat) => decide ((spAt S (10 + (j : Int))).lo ≤ p.hi ∧ p.lo ≤ (spAt S (10 + (j : Int))).hi)) (List.range S.length)
        simp only [List.length_map, List.length_append, List.length_range] at h2 ⊢
        walk_at "mine om"
      · unfold keysOf
        rw [List.map_append]
        exact IntsAre.append hHI (.cons _ _ .nil)
      · have gM2 := (gMt.mono (news' := (T5, tup4 p tf) :: (D, oD5) :: (H, listOf (vsH.toArray.push (.int (10 + (S.length : Int)) (tk5' + 1))) (kH + 1)) :: rb) (fun x hx => by simp [hx])).but iM N7 (by simp [gI3]) nI (fun x hx h => mem_offL.mpr ⟨hx, h⟩)
        rw [show List.range i = List.range S.length from by rw [hSl]] at gM2
        rw [hp] at gM2 ⊢
        exact gM2
  · intro h' tk' m' news' F' N' hJ
    obtain ⟨hmm, S, mt, oD', kvs, vsH, kH, o3', v3', hSl, hLI, hmt4, hD', hdd', hSin, hHl, hHI, hMt, hc3', hd3', hO⟩ := hJ
    have hR : ∀ x ∈ rest, x ∈ news' := fun x hx => hO x (oR x hx)
    exact law_b hL B F' X T' hh hroom N' (has_tl hmm) (hR _ g1) hd1 (hO _ oS') dS hc3' hd3' (hR _ g4) hd4 (hR _ g5) hd5 (gop.mono hR) hq rfl (gor.mono hR) (SpotsAt.of slo hLI.nodup hD' hdd' hSin) ⟨vsH, kH, hHl, hHI⟩ hMt hLI (by walk_at "mine om") (fun h' tk m' q1 => ret h' tk m' q1)
-- begin
theorem law_a1 {w : World} {A₀ : Around} {h₀ base : Heap} {L a l' : Addr} {m' mg mb : Str → Option Value} {s : Shared} {Q : Flow → Shared → Prop} {E} {nm : Str} {cdv : Value} {outer : List Env} {loose} {mean : ExcName → Option Value}
  {body : List Stmt} {scope : Scope} {led : List (Addr × Obj)} {vs' : List Value} {ns' : List Int} {k' : Nat} {o1 o2 o3 o4 o5 : Obj}
  (hL : LawAt w body scope) (B : Below A₀ base outer h₀) (F' : Fr h₀ L s.heap m') (X : (KM w.params).In h₀) (T' : Top VW loose mean mg mb h₀) (hh : A₀.handled = none) (hroom : A₀.depth + 400 < 1000)
  (N' : News h₀ L s.heap led) (hl' : (l', listOf vs'.toArray k') ∈ led) (hlt : @Ne Nat l' (L + 1)) (hled : ∀ x ∈ [(L + 1 + 1 + 1 + 1 + 1, o1), (L + 1 + 1 + 1 + 1, o2), (L + 1 + 1 + 1, o3), (L + 1 + 1, o4), (L + 1, o5)], x ∈ led)
  (d1 : o1.data = .cell none) (d2 : o2.data = .cell none) (d3 : o3.data = .cell none) (d4 : o4.data = .cell none) (d5 : o5.data = .cell none)
  (hm' : m' (Str.ofString "nums") = some (.ref l')) (hI' : IntsAre vs' ns') (hp' : 0 < ns'.length) (hz' : ns'.length ≤ 6) (hb' : ∀ x ∈ ns', 0 ≤ x ∧ x < 999983) (ret : LawRet h₀ L s Q) :
  wpAny (model P w) (A₀.deeper (envOfC nm scope L a cdv)) (execs (body.drop 2) (envOfC nm scope L a cdv)) Q E s := by
  obtain ⟨rest, Nr, r1, r2, r3⟩ := led_split N' (hled (L + 1, o5) (by simp))
  have ql : (l', listOf vs'.toArray k') ∈ rest := r2 _ hl' hlt
  have q2 : (L + 1 + 1, o4) ∈ rest := r2 _ (hled _ (by simp)) (by dsimp only; exact Nat.ne_of_gt (by walk_at "mine om"))
  have q3 : (L + 1 + 1 + 1, o3) ∈ rest := r2 _ (hled _ (by simp)) (by dsimp only; exact Nat.ne_of_gt (by walk_at "mine om"))
  have q4 : (L + 1 + 1 + 1 + 1, o2) ∈ rest := r2 _ (hled _ (by simp)) (by dsimp only; exact Nat.ne_of_gt (by walk_at "mine om"))
  have q5 : (L + 1 + 1 + 1 + 1 + 1, o1) ∈ rest := r2 _ (hled _ (by simp)) (by dsimp only; exact Nat.ne_of_gt (by walk_at "mine om"))
  exact law_a2 hL B F' X T' hh hroom Nr r1 d5 hm' ql hI' hp' hz' hb' fun h₂ tk₂ m₂ nw op o q o1' tc F₂ N₂ hsub hc1 hd1 hop hq hor hm₂ =>
    law_a3 hL B F₂ X T' hh hroom N₂ hm₂ hc1 hd1 (hsub _ q2) d4 (hsub _ q3) d3 (hsub _ q4) d2 (hsub _ q5) d1 hop hq hor (hsub _ ql) hI' hp' hz' hb' (fun h' tk m' q1 => ret h' tk m' q1)
theorem law_a0 {w : World} {A₀ : Around} {h₀ base : Heap} {L a l : Addr} {m mg mb : Str → Option Value} {s : Shared} {Q : Flow → Shared → Prop} {E} {nm : Str} {cdv : Value} {outer : List Env} {loose} {mean : ExcName → Option Value}
  {body : List Stmt} {scope : Scope} {vs : List Value} {ns : List Int} {o1 o2 o3 o4 o5 : Obj}
  (hL : LawAt w body scope) (B : Below A₀ base outer h₀) (F : Fr h₀ L s.heap m) (X : (KM w.params).In h₀) (T' : Top VW loose mean mg mb h₀) (hh : A₀.handled = none) (hroom : A₀.depth + 400 < 1000)
  (N : News h₀ L s.heap [(L + 1 + 1 + 1 + 1 + 1, o1), (L + 1 + 1 + 1 + 1, o2), (L + 1 + 1 + 1, o3), (L + 1 + 1, o4), (L + 1, o5)]) (d1 : o1.data = .cell none) (d2 : o2.data = .cell none) (d3 : o3.data = .cell none) (d4 : o4.data = .cell none) (d5 : o5.data = .cell none)
  (hm : m (Str.ofString "script") = some (.ref l)) (hl : h₀.IsList l vs.toArray) (hI : IntsAre vs ns) (h63 : ns.length ≤ 63) (ret : LawRet h₀ L s Q) :
  wpAny (model P w) (A₀.deeper (envOfC nm scope L a cdv)) (execs body (envOfC nm scope L a cdv)) Q E s := by
  have hbody : body = body.drop 0 := rfl
  rw [hbody]
  have hL' := hL
  refine' law_lit hL ?h2 ?k
  case h2 => k_is
  intro e1 e2
  subst e1
  subst e2
  simp only [List.drop_zero]
  have F := Fr.with [(Str.ofString "script", .ref l)] F (by simp [hm])
  refine wp_cutn 2 _ ?_
  simp only [List.take_succ_cons, List.take_zero, List.drop_succ_cons, List.drop_zero]
  k_steps
  rename_i D1 ws h1 F1 N1 hI1 hC1 hL1 l1
  have hwl := IntsAre.length hI1
  refine comp_listB rfl (by with_unfolding_all rfl) (by with_unfolding_all rfl) hh (by k_asm) (by k_asm) (by k_mem) (by simp; walk_at "mine om") (fun _ => true) (MapOf fun n => n.fmod 999983) (by decide) (by rfl) (by rfl) (fun _ _ _ _ _ _ _ _ => wpAny_tests_nil ⟨rfl, keeps_toks⟩) ?_ ?_
  · intro C j v₃ s₃ m₃ E' hv3 hz3 hT3
    obtain ⟨F₃, N₃, ns₃, at₃⟩ := hT3
    obtain ⟨n, tn3, rfl⟩ : ∃ n t, v₃ = .int n t := by
      rw [List.getElem?_toArray] at hv3
      have hj := (List.getElem?_eq_some_iff.mp hv3).1
      obtain ⟨n, hn⟩ : ∃ n, (ns.take 6)[j]? = some n := ⟨_, List.getElem?_eq_getElem (by walk_at "mine om")⟩
      obtain ⟨t, ht⟩ := ints_at hI1 hn
      rw [ht] at hv3
      exact ⟨n, t, (Option.some.inj hv3).symm⟩
    k_steps
    all_goals first
      | exact keeps_toks
      | exact ⟨n, tn3, _, rfl, rfl⟩
      | w_report
  · intro ys hp2 D2 hh2 tk2 k2 F2 N2 hne2
    rw [List.filter_eq_self.mpr (fun _ _ => rfl)] at hp2
    have hi5 := paired_ints (f := fun n => n.fmod 999983) hp2 hI1
    have hyl := IntsAre.length hi5
    rw [List.length_map] at hyl
    have hyz : ys.toArray.size ≤ 6 := by rw [List.size_toArray]; walk_at "mine om"
    have hbd : ∀ x ∈ (ns.take 6).map (fun n => n.fmod 999983), 0 ≤ x ∧ x < 999983 := fun x hx => by
      obtain ⟨y, _, e⟩ := List.mem_map.mp hx
      rw [← e]
      exact ⟨Int.fmod_nonneg_of_pos _ (by decide), Int.fmod_lt_of_pos _ (by decide)⟩
    k_steps
    · rename_i hz e1 tk5 l' e2 lt' e3 F3 N3
      exact law_a1 hL B F3 X T' hh hroom N3 (List.mem_cons_self ..) (Nat.ne_of_gt lt'.2.2.2.2.2.2) (fun x hx => List.mem_cons_of_mem _ (List.mem_cons_of_mem _ (List.mem_cons_of_mem _ hx))) d1 d2 d3 d4 d5 rfl (.cons 5 _ .nil) (by decide) (by decide) (by decide) (fun h' tk m' q1 => ret h' tk m' q1)
    · rename_i hz
      exact law_a1 hL B F2 X T' hh hroom N2 (List.mem_cons_self ..) (Ne.symm (hne2 (L + 1, o5) (by simp))) (fun x hx => List.mem_cons_of_mem _ (List.mem_cons_of_mem _ hx)) d1 d2 d3 d4 d5 rfl hi5 (by walk_at "mine om") (by rw [List.length_map]; walk_at "mine om") hbd (fun h' tk m' q1 => ret h' tk m' q1)
-- final
theorem law_at {w : World} {body : List Stmt} {scope : Scope} {name qual : Str} {params : Arguments} {dV kV doc pm : Value} {an : Option Addr} {cdv ct oc : Value} {od : Option Addr} {osl : Array (Option Value)}
    (h : (KM w.params).lookup 653 = some ⟨oc, od, .func (fnOf name qual params body scope dV kV doc pm an cdv ct), osl⟩) : LawAt w body scope := ⟨name, qual, params, dV, kV, doc, pm, an, cdv, ct, oc, od, osl, h⟩
theorem holds1 : PySem.Challenge.rw_nz0378_01.Holds := by
  refine holds_law said fun said => ?_
  refine holds_open (q := VW) (loose := []) (Xt := XT) (XP := XL VW []) (Yf := (kHook KM aK hKa).obs) (Ya := (kHook KM aK hKa).val) (YP := (kHook KM aK hKa).says) (N := 10562) hleft (Hook.of _) (Hook.keeps _) (fun s e => xl_of s (Bool.and_eq_true_iff.mp e).1) XL.keeps (by rfl) (by rfl) (by rfl) (fun s e => recFacts_of (Bool.and_eq_true_iff.mp e).2) (by rfl) said chkA chkB ?hw ?hc
  case hw => w_witness2
  clear said
  k_fill
  intro w s₀ s₁ mg mb G Y fa o pm cd doc dV kV ho hd hcd hD hmg hg args vals as hpre hlay hrd hwl hlo
  have KX := kIn_of Y
  have X := (Ground.X G).1
  refine Ground.open G ?_
  intro T B D TE TW
  try (refine guard_noD D (by decide +kernel) ?_; clear D)
  obtain ⟨_, _, M⟩ := bmod_of_top T
  have TA := at_of_top T
  try (obtain ⟨_, _, he, B0⟩ := based_of_top T rfl hmg ho hd; have he' : cd = _ := he; subst he'; clear he)
  clear hmg
  wrow_args hpre hlay hrd hwl hlo
  all_goals (
    first | refine callC_kw (enter_call ?_) | refine enter_call ?_ | refine callC_kw (enter_callW ?_) | refine enter_callW ?_
    w_top on
    try refine codeAny_mono ?_ (fun _ _ g => GoodW.toG g)
    have K0 := below_caller (Top.heap T)
    w_call any ho hd hcd hD T F
    clear hd TA
    k_drop
    skip)
  all_goals try k_fold
  rename Frag.In _ _ => KX9
  rename Top _ _ _ _ _ _ => T9
  rename_i hs9 hlay9 hL9 hr9 hl29 w9 w8 l9 w6 w5 hl0 ra9 w19 r09 hI0 hr0 hc63 hct h19 tk9 o1 o2 o3 o4 o5 d1 d2 d3 d4 d5 N9 X9
  refine law_a0 ?c1 K0 F ?c2 T9 rfl ?c4 N9 d1 d2 d3 d4 d5 ?c5 hl0 hI0 ?c6 ?c7
  case c1 => dsimp only; refine' law_at ?h; case h => k_is
  case c2 => exact KX9
  case c4 => decide
  case c5 => rfl
  case c6 => walk_at "mine om"
  case c7 => intro h' tk' m' F'; dsimp only; k_steps
end Mine

theorem PySem.Challenge.cw_nz0378_01_holds : PySem.Challenge.rw_nz0378_01.Holds := by
  exact Mine.holds1
