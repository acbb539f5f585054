import PyProof.Rows.All
import Wide.All
import OpenK.AllK
import Wide.FinOn
import PySem.Challenge.RW_no0410_01
open PySem PySem.W PyProof.Rows
set_option Elab.async false
set_option maxRecDepth 100000
set_option maxHeartbeats 8000000
set_option linter.all false
namespace Mine
/-- a statement of the text's top, by its place -/
noncomputable def fT (i : Nat) : Stmt := (PySem.Challenge.pw_no0410_01.main.body).getD i (.Pass ⟨0, 0, 0, 0⟩)
/-- a method of a class of the top -/
noncomputable def fM (i j : Nat) : Stmt := match fT i with
  | .ClassDef _ _ _ b _ _ _ _ _ _ _ => b.getD j (.Pass ⟨0, 0, 0, 0⟩)
  | s => s
/-- the object that a def makes -/
noncomputable def fnO (st : Stmt) (q m : Str) (t c : Nat) : Obj := match st with
  | .FunctionDef n a b _ _ _ sc _ _ _ => ⟨.type "function", none, .func ⟨n, q, a, .stmts b, sc, 3, [], .none, .none, .none, .str m t, none, .ref c, .none, 0⟩, #[]⟩
  | _ => ⟨.none, none, .plain, #[]⟩
open PyData (keyHash) in
/-- the part of the heap that the walk knows -/
noncomputable def frag (P : Params) : Frag := (nat_lit 2, ⟨.none, none, .dict #[⟨keyHash P "type.__subclasses__.Exception.0", .str "type.__subclasses__.Exception.0" 212, .int 31 0⟩, ⟨keyHash P "type.__subclasses__.Exception.n", .str "type.__subclasses__.Exception.n" 213, .int 1 0⟩] 2, #[]⟩) ::
  (nat_lit 3, ⟨.type "dict", none, .dict #[⟨keyHash P "__name__", .str "__name__" 165, .str "law_no0410_01" 627⟩, ⟨keyHash P "__doc__", .str "__doc__" 166, .none⟩, ⟨keyHash P "__package__", .str "__package__" 167, .none⟩, ⟨keyHash P "__loader__", .str "__loader__" 168, .builtin "__main__.__loader__#opaque"⟩, ⟨keyHash P "__spec__", .str "__spec__" 169, .none⟩, ⟨keyHash P "__annotations__", .str "__annotations__" 170, .ref 6⟩, ⟨keyHash P "__builtins__", .str "__builtins__" 171, .ref 4⟩, ⟨keyHash P "__file__", .str "__file__" 173, .str "/claim/cut.py" 172⟩, ⟨keyHash P "__cached__", .str "__cached__" 174, .none⟩, ⟨keyHash P "_wall", .str "_wall" 193, .ref 21⟩, ⟨keyHash P "KeepError", .str "KeepError" 215, .ref 31⟩, ⟨keyHash P "RaftError", .str "RaftError" 231, .ref 44⟩, ⟨keyHash P "ConfRefused", .str "ConfRefused" 247, .ref 56⟩, ⟨keyHash P "LogPanic", .str "LogPanic" 263, .ref 68⟩, ⟨keyHash P "NONE", .str "NONE" 267, .int 0 266⟩, ⟨keyHash P "NO_LIMIT", .str "NO_LIMIT" 269, .int 18446744073709551615 268⟩, ⟨keyHash P "ADD_NODE", .str "ADD_NODE" 271, .int 0 270⟩, ⟨keyHash P "REMOVE_NODE", .str "REMOVE_NODE" 273, .int 1 272⟩, ⟨keyHash P "UPDATE_NODE", .str "UPDATE_NODE" 275, .int 2 274⟩, ⟨keyHash P "ADD_LEARNER", .str "ADD_LEARNER" 277, .int 3 276⟩, ⟨keyHash P "rising", .str "rising" 286, .ref 77⟩, ⟨keyHash P "VOTE_PENDING", .str "VOTE_PENDING" 290, .int 1 289⟩, ⟨keyHash P "VOTE_LOST", .str "VOTE_LOST" 292, .int 2 291⟩, ⟨keyHash P "VOTE_WON", .str "VOTE_WON" 294, .int 3 293⟩, ⟨keyHash P "majority_index", .str "majority_index" 300, .ref 82⟩, ⟨keyHash P "majority_vote", .str "majority_vote" 312, .ref 89⟩, ⟨keyHash P "joint_index", .str "joint_index" 323, .ref 96⟩, ⟨keyHash P "joint_vote", .str "joint_vote" 334, .ref 103⟩, ⟨keyHash P "Config", .str "Config" 437, .ref 183⟩, ⟨keyHash P "added", .str "added" 445, .ref 194⟩, ⟨keyHash P "without", .str "without" 451, .ref 199⟩, ⟨keyHash P "count_apart", .str "count_apart" 461, .ref 206⟩, ⟨keyHash P "Changer", .str "Changer" 562, .ref 279⟩, ⟨keyHash P "Ballots", .str "Ballots" 626, .ref 328⟩, ⟨keyHash P "_law_IDS", .str "_law_IDS" 633, .ref 333⟩, ⟨keyHash P "_law_ROLES", .str "_law_ROLES" 637, .ref 334⟩, ⟨keyHash P "_law_STEPS", .str "_law_STEPS" 643, .ref 341⟩, ⟨keyHash P "_law_NO_LIMIT", .str "_law_NO_LIMIT" 649, .ref 348⟩, ⟨keyHash P "_law_draw", .str "_law_draw" 658, .ref 355⟩, ⟨keyHash P "_law_side", .str "_law_side" 664, .ref 360⟩, ⟨keyHash P "_law_settled", .str "_law_settled" 671, .ref 367⟩, ⟨keyHash P "_law_orders", .str "_law_orders" 681, .ref 374⟩, ⟨keyHash P "_law_refused", .str "_law_refused" 689, .ref 381⟩, ⟨keyHash P "_law_ways", .str "_law_ways" 695, .ref 386⟩, ⟨keyHash P "_law_counts", .str "_law_counts" 701, .ref 391⟩, ⟨keyHash P "law", .str "law" 707, .ref 396⟩] 46, #[]⟩) ::
  (nat_lit 15, ⟨.type "tuple", none, .seq #[] 0, #[]⟩) ::
  (nat_lit 17, ⟨.type "tuple", none, .seq #[.str "k" 190] 0, #[]⟩) ::
  (nat_lit 18, ⟨.type "tuple", none, .seq #[] 0, #[]⟩) ::
  (nat_lit 20, ⟨.type "code", none, .fields #[.str "_wall" 187, .str "_wall" 188, .str "/claim/cut.py" 189, .int 1 0, .int 1 0, .int 0 0, .int 0 0, .int 3 0, .ref 15, .bool true, .int 181 0, .ref 16, .none, .ref 17, .ref 18, .ref 19, .int 191 0, .int 1 0, .str "/claim/cut.py" 192], #[]⟩) ::
  (nat_lit 21, fnO (fT 0) "_wall" "__main__" 164 20) ::
  (nat_lit 22, ⟨.type "tuple", none, .seq #[.type "Exception"] 0, #[]⟩) ::
  (nat_lit 29, ⟨.type "tuple", none, .seq #[] 0, #[]⟩) ::
  (nat_lit 30, ⟨.type "dict", none, .dict #[⟨keyHash P "__module__", .str "__module__" 203, .str "raftkeep.errors" 194⟩, ⟨keyHash P "__firstlineno__", .str "__firstlineno__" 207, .int 5 206⟩, ⟨keyHash P "__static_attributes__", .str "__static_attributes__" 208, .ref 29⟩, ⟨keyHash P "__weakref__", .str "__weakref__" 210, .ref 32⟩, ⟨keyHash P "__doc__", .str "__doc__" 211, .none⟩] 3, #[]⟩) ::
  (nat_lit 31, ⟨.type "type", none, .cls ⟨"KeepError", [.type "Exception"], [.ref 31, .type "Exception", .type "BaseException", .type "object"], 30, "KeepError", true, [], [.ref 44], false, none, false⟩, #[.some (.ref 22), none, .some (.str "KeepError" 196), .some (.str "KeepError" 204), .some (.builtin "Exception.__new__"), .some (.bool true)]⟩) ::
  (nat_lit 32, ⟨.type "getset_descriptor", none, .fields #[.str "__weakref__" 209, .ref 31, .builtin "ExceptionGroup.__weakref__", .none], #[]⟩) ::
  (nat_lit 35, ⟨.type "tuple", none, .seq #[.ref 31] 0, #[]⟩) ::
  (nat_lit 42, ⟨.type "tuple", none, .seq #[] 0, #[]⟩) ::
  (nat_lit 43, ⟨.type "dict", none, .dict #[⟨keyHash P "__module__", .str "__module__" 223, .str "raftkeep.errors" 194⟩, ⟨keyHash P "__firstlineno__", .str "__firstlineno__" 227, .int 7 226⟩, ⟨keyHash P "__static_attributes__", .str "__static_attributes__" 228, .ref 42⟩, ⟨keyHash P "__doc__", .str "__doc__" 229, .none⟩] 2, #[]⟩) ::
  (nat_lit 44, ⟨.type "type", none, .cls ⟨"RaftError", [.ref 31], [.ref 44, .ref 31, .type "Exception", .type "BaseException", .type "object"], 43, "RaftError", true, [], [.ref 56, .ref 68], false, none, false⟩, #[.some (.ref 35), none, .some (.str "RaftError" 216), .some (.str "RaftError" 224), .some (.builtin "Exception.__new__"), .some (.bool true)]⟩) ::
  (nat_lit 47, ⟨.type "tuple", none, .seq #[.ref 44] 0, #[]⟩) ::
  (nat_lit 54, ⟨.type "tuple", none, .seq #[] 0, #[]⟩) ::
  (nat_lit 55, ⟨.type "dict", none, .dict #[⟨keyHash P "__module__", .str "__module__" 239, .str "raftkeep.errors" 194⟩, ⟨keyHash P "__firstlineno__", .str "__firstlineno__" 243, .int 9 242⟩, ⟨keyHash P "__static_attributes__", .str "__static_attributes__" 244, .ref 54⟩, ⟨keyHash P "__doc__", .str "__doc__" 245, .none⟩] 2, #[]⟩) ::
  (nat_lit 56, ⟨.type "type", none, .cls ⟨"ConfRefused", [.ref 44], [.ref 56, .ref 44, .ref 31, .type "Exception", .type "BaseException", .type "object"], 55, "ConfRefused", true, [], [], false, none, false⟩, #[.some (.ref 47), none, .some (.str "ConfRefused" 232), .some (.str "ConfRefused" 240), .some (.builtin "Exception.__new__"), .some (.bool true)]⟩) ::
  (nat_lit 59, ⟨.type "tuple", none, .seq #[.ref 44] 0, #[]⟩) ::
  (nat_lit 66, ⟨.type "tuple", none, .seq #[] 0, #[]⟩) ::
  (nat_lit 67, ⟨.type "dict", none, .dict #[⟨keyHash P "__module__", .str "__module__" 255, .str "raftkeep.errors" 194⟩, ⟨keyHash P "__firstlineno__", .str "__firstlineno__" 259, .int 11 258⟩, ⟨keyHash P "__static_attributes__", .str "__static_attributes__" 260, .ref 66⟩, ⟨keyHash P "__doc__", .str "__doc__" 261, .none⟩] 2, #[]⟩) ::
  (nat_lit 68, ⟨.type "type", none, .cls ⟨"LogPanic", [.ref 44], [.ref 68, .ref 44, .ref 31, .type "Exception", .type "BaseException", .type "object"], 67, "LogPanic", true, [], [], false, none, false⟩, #[.some (.ref 59), none, .some (.str "LogPanic" 248), .some (.str "LogPanic" 256), .some (.builtin "Exception.__new__"), .some (.bool true)]⟩) ::
  (nat_lit 71, ⟨.type "tuple", none, .seq #[] 0, #[]⟩) ::
  (nat_lit 73, ⟨.type "tuple", none, .seq #[.str "ids" 281, .str "out" 282, .str "nid" 283] 0, #[]⟩) ::
  (nat_lit 74, ⟨.type "tuple", none, .seq #[] 0, #[]⟩) ::
  (nat_lit 76, ⟨.type "code", none, .fields #[.str "rising" 278, .str "rising" 279, .str "/claim/cut.py" 280, .int 20 0, .int 1 0, .int 0 0, .int 0 0, .int 3 0, .ref 71, .bool true, .int 181 0, .ref 72, .none, .ref 73, .ref 74, .ref 75, .int 284 0, .int 20 0, .str "/claim/cut.py" 285], #[]⟩) ::
  (nat_lit 77, fnO (fT 13) "rising" "raftkeep.messages" 264 76) ::
  (nat_lit 78, ⟨.type "tuple", none, .seq #[] 0, #[]⟩) ::
  (nat_lit 81, ⟨.type "code", none, .fields #[.str "majority_index" 295, .str "majority_index" 296, .str "/claim/cut.py" 297, .int 30 0, .int 2 0, .int 0 0, .int 0 0, .int 3 0, .ref 78, .bool true, .int 181 0, .ref 79, .none, .none, .none, .ref 80, .int 298 0, .int 30 0, .str "/claim/cut.py" 299], #[]⟩) ::
  (nat_lit 82, fnO (fT 18) "majority_index" "raftkeep.quorum" 287 81) ::
  (nat_lit 83, ⟨.type "tuple", none, .seq #[] 0, #[]⟩) ::
  (nat_lit 85, ⟨.type "tuple", none, .seq #[.str "ids" 304, .str "votes" 305, .str "granted" 306, .str "missing" 307, .str "nid" 308, .str "need" 309] 0, #[]⟩) ::
  (nat_lit 86, ⟨.type "tuple", none, .seq #[] 0, #[]⟩) ::
  (nat_lit 88, ⟨.type "code", none, .fields #[.str "majority_vote" 301, .str "majority_vote" 302, .str "/claim/cut.py" 303, .int 35 0, .int 2 0, .int 0 0, .int 0 0, .int 3 0, .ref 83, .bool true, .int 181 0, .ref 84, .none, .ref 85, .ref 86, .ref 87, .int 310 0, .int 35 0, .str "/claim/cut.py" 311], #[]⟩) ::
  (nat_lit 89, fnO (fT 19) "majority_vote" "raftkeep.quorum" 287 88) ::
  (nat_lit 90, ⟨.type "tuple", none, .seq #[] 0, #[]⟩) ::
  (nat_lit 92, ⟨.type "tuple", none, .seq #[.str "a" 316, .str "b" 317, .str "acked" 318, .str "left" 319, .str "right" 320] 0, #[]⟩) ::
  (nat_lit 93, ⟨.type "tuple", none, .seq #[] 0, #[]⟩) ::
  (nat_lit 95, ⟨.type "code", none, .fields #[.str "joint_index" 313, .str "joint_index" 314, .str "/claim/cut.py" 315, .int 51 0, .int 3 0, .int 0 0, .int 0 0, .int 3 0, .ref 90, .bool true, .int 181 0, .ref 91, .none, .ref 92, .ref 93, .ref 94, .int 321 0, .int 51 0, .str "/claim/cut.py" 322], #[]⟩) ::
  (nat_lit 96, fnO (fT 20) "joint_index" "raftkeep.quorum" 287 95) ::
  (nat_lit 97, ⟨.type "tuple", none, .seq #[] 0, #[]⟩) ::
  (nat_lit 99, ⟨.type "tuple", none, .seq #[.str "a" 327, .str "b" 328, .str "votes" 329, .str "left" 330, .str "right" 331] 0, #[]⟩) ::
  (nat_lit 100, ⟨.type "tuple", none, .seq #[] 0, #[]⟩) ::
  (nat_lit 102, ⟨.type "code", none, .fields #[.str "joint_vote" 324, .str "joint_vote" 325, .str "/claim/cut.py" 326, .int 57 0, .int 3 0, .int 0 0, .int 0 0, .int 3 0, .ref 97, .bool true, .int 181 0, .ref 98, .none, .ref 99, .ref 100, .ref 101, .int 332 0, .int 57 0, .str "/claim/cut.py" 333], #[]⟩) ::
  (nat_lit 103, fnO (fT 21) "joint_vote" "raftkeep.quorum" 287 102) ::
  (nat_lit 111, ⟨.type "tuple", none, .seq #[] 0, #[]⟩) ::
  (nat_lit 113, ⟨.type "tuple", none, .seq #[.str "self" 350, .str "voters" 351, .str "outgoing" 352, .str "learners" 353, .str "learners_next" 354, .str "auto_leave" 355] 0, #[]⟩) ::
  (nat_lit 114, ⟨.type "tuple", none, .seq #[] 0, #[]⟩) ::
  (nat_lit 116, ⟨.type "code", none, .fields #[.str "__init__" 347, .str "Config.__init__" 348, .str "/claim/cut.py" 349, .int 67 0, .int 6 0, .int 0 0, .int 0 0, .int 3 0, .ref 111, .bool true, .int 181 0, .ref 112, .none, .ref 113, .ref 114, .ref 115, .int 356 0, .int 67 0, .str "/claim/cut.py" 357], #[]⟩) ::
  (nat_lit 117, fnO (fM 22 0) "Config.__init__" "raftkeep.quorum" 287 116) ::
  (nat_lit 118, ⟨.type "tuple", none, .seq #[] 0, #[]⟩) ::
  (nat_lit 120, ⟨.type "tuple", none, .seq #[.str "self" 362] 0, #[]⟩) ::
  (nat_lit 121, ⟨.type "tuple", none, .seq #[] 0, #[]⟩) ::
  (nat_lit 123, ⟨.type "code", none, .fields #[.str "row" 359, .str "Config.row" 360, .str "/claim/cut.py" 361, .int 74 0, .int 1 0, .int 0 0, .int 0 0, .int 3 0, .ref 118, .bool true, .int 181 0, .ref 119, .none, .ref 120, .ref 121, .ref 122, .int 363 0, .int 74 0, .str "/claim/cut.py" 364], #[]⟩) ::
  (nat_lit 124, fnO (fM 22 1) "Config.row" "raftkeep.quorum" 287 123) ::
  (nat_lit 125, ⟨.type "tuple", none, .seq #[] 0, #[]⟩) ::
  (nat_lit 127, ⟨.type "tuple", none, .seq #[.str "self" 369] 0, #[]⟩) ::
  (nat_lit 128, ⟨.type "tuple", none, .seq #[] 0, #[]⟩) ::
  (nat_lit 130, ⟨.type "code", none, .fields #[.str "copy" 366, .str "Config.copy" 367, .str "/claim/cut.py" 368, .int 77 0, .int 1 0, .int 0 0, .int 0 0, .int 3 0, .ref 125, .bool true, .int 181 0, .ref 126, .none, .ref 127, .ref 128, .ref 129, .int 370 0, .int 77 0, .str "/claim/cut.py" 371], #[]⟩) ::
  (nat_lit 131, fnO (fM 22 2) "Config.copy" "raftkeep.quorum" 287 130) ::
  (nat_lit 132, ⟨.type "tuple", none, .seq #[] 0, #[]⟩) ::
  (nat_lit 134, ⟨.type "tuple", none, .seq #[.str "self" 376] 0, #[]⟩) ::
  (nat_lit 135, ⟨.type "tuple", none, .seq #[] 0, #[]⟩) ::
  (nat_lit 137, ⟨.type "code", none, .fields #[.str "joint" 373, .str "Config.joint" 374, .str "/claim/cut.py" 375, .int 80 0, .int 1 0, .int 0 0, .int 0 0, .int 3 0, .ref 132, .bool true, .int 181 0, .ref 133, .none, .ref 134, .ref 135, .ref 136, .int 377 0, .int 80 0, .str "/claim/cut.py" 378], #[]⟩) ::
  (nat_lit 138, fnO (fM 22 3) "Config.joint" "raftkeep.quorum" 287 137) ::
  (nat_lit 139, ⟨.type "tuple", none, .seq #[] 0, #[]⟩) ::
  (nat_lit 141, ⟨.type "tuple", none, .seq #[.str "self" 383] 0, #[]⟩) ::
  (nat_lit 142, ⟨.type "tuple", none, .seq #[] 0, #[]⟩) ::
  (nat_lit 144, ⟨.type "code", none, .fields #[.str "all_voters" 380, .str "Config.all_voters" 381, .str "/claim/cut.py" 382, .int 83 0, .int 1 0, .int 0 0, .int 0 0, .int 3 0, .ref 139, .bool true, .int 181 0, .ref 140, .none, .ref 141, .ref 142, .ref 143, .int 384 0, .int 83 0, .str "/claim/cut.py" 385], #[]⟩) ::
  (nat_lit 145, fnO (fM 22 4) "Config.all_voters" "raftkeep.quorum" 287 144) ::
  (nat_lit 146, ⟨.type "tuple", none, .seq #[] 0, #[]⟩) ::
  (nat_lit 148, ⟨.type "tuple", none, .seq #[.str "self" 390] 0, #[]⟩) ::
  (nat_lit 149, ⟨.type "tuple", none, .seq #[] 0, #[]⟩) ::
  (nat_lit 151, ⟨.type "code", none, .fields #[.str "members" 387, .str "Config.members" 388, .str "/claim/cut.py" 389, .int 86 0, .int 1 0, .int 0 0, .int 0 0, .int 3 0, .ref 146, .bool true, .int 181 0, .ref 147, .none, .ref 148, .ref 149, .ref 150, .int 391 0, .int 86 0, .str "/claim/cut.py" 392], #[]⟩) ::
  (nat_lit 152, fnO (fM 22 5) "Config.members" "raftkeep.quorum" 287 151) ::
  (nat_lit 153, ⟨.type "tuple", none, .seq #[] 0, #[]⟩) ::
  (nat_lit 155, ⟨.type "tuple", none, .seq #[.str "self" 397, .str "acked" 398] 0, #[]⟩) ::
  (nat_lit 156, ⟨.type "tuple", none, .seq #[] 0, #[]⟩) ::
  (nat_lit 158, ⟨.type "code", none, .fields #[.str "committed" 394, .str "Config.committed" 395, .str "/claim/cut.py" 396, .int 89 0, .int 2 0, .int 0 0, .int 0 0, .int 3 0, .ref 153, .bool true, .int 181 0, .ref 154, .none, .ref 155, .ref 156, .ref 157, .int 399 0, .int 89 0, .str "/claim/cut.py" 400], #[]⟩) ::
  (nat_lit 159, fnO (fM 22 6) "Config.committed" "raftkeep.quorum" 287 158) ::
  (nat_lit 160, ⟨.type "tuple", none, .seq #[] 0, #[]⟩) ::
  (nat_lit 162, ⟨.type "tuple", none, .seq #[.str "self" 405, .str "votes" 406] 0, #[]⟩) ::
  (nat_lit 163, ⟨.type "tuple", none, .seq #[] 0, #[]⟩) ::
  (nat_lit 165, ⟨.type "code", none, .fields #[.str "vote" 402, .str "Config.vote" 403, .str "/claim/cut.py" 404, .int 92 0, .int 2 0, .int 0 0, .int 0 0, .int 3 0, .ref 160, .bool true, .int 181 0, .ref 161, .none, .ref 162, .ref 163, .ref 164, .int 407 0, .int 92 0, .str "/claim/cut.py" 408], #[]⟩) ::
  (nat_lit 166, fnO (fM 22 7) "Config.vote" "raftkeep.quorum" 287 165) ::
  (nat_lit 167, ⟨.type "tuple", none, .seq #[] 0, #[]⟩) ::
  (nat_lit 169, ⟨.type "tuple", none, .seq #[.str "self" 413] 0, #[]⟩) ::
  (nat_lit 170, ⟨.type "tuple", none, .seq #[] 0, #[]⟩) ::
  (nat_lit 172, ⟨.type "code", none, .fields #[.str "conf_state" 410, .str "Config.conf_state" 411, .str "/claim/cut.py" 412, .int 95 0, .int 1 0, .int 0 0, .int 0 0, .int 3 0, .ref 167, .bool true, .int 181 0, .ref 168, .none, .ref 169, .ref 170, .ref 171, .int 414 0, .int 95 0, .str "/claim/cut.py" 415], #[]⟩) ::
  (nat_lit 173, fnO (fM 22 8) "Config.conf_state" "raftkeep.quorum" 287 172) ::
  (nat_lit 174, ⟨.type "tuple", none, .seq #[] 0, #[]⟩) ::
  (nat_lit 176, ⟨.type "tuple", none, .seq #[.str "self" 420, .str "nid" 421] 0, #[]⟩) ::
  (nat_lit 177, ⟨.type "tuple", none, .seq #[] 0, #[]⟩) ::
  (nat_lit 179, ⟨.type "code", none, .fields #[.str "check" 417, .str "Config.check" 418, .str "/claim/cut.py" 419, .int 98 0, .int 1 0, .int 0 0, .int 0 0, .int 3 0, .ref 174, .bool true, .int 181 0, .ref 175, .none, .ref 176, .ref 177, .ref 178, .int 422 0, .int 98 0, .str "/claim/cut.py" 423], #[]⟩) ::
  (nat_lit 180, fnO (fM 22 9) "Config.check" "raftkeep.quorum" 287 179) ::
  (nat_lit 181, ⟨.type "tuple", none, .seq #[.str "auto_leave" 425, .str "learners" 426, .str "learners_next" 427, .str "outgoing" 428, .str "voters" 429] 0, #[]⟩) ::
  (nat_lit 182, ⟨.type "dict", none, .dict #[⟨keyHash P "__module__", .str "__module__" 342, .str "raftkeep.quorum" 287⟩, ⟨keyHash P "__firstlineno__", .str "__firstlineno__" 346, .int 65 345⟩, ⟨keyHash P "__init__", .str "__init__" 358, .ref 117⟩, ⟨keyHash P "row", .str "row" 365, .ref 124⟩, ⟨keyHash P "copy", .str "copy" 372, .ref 131⟩, ⟨keyHash P "joint", .str "joint" 379, .ref 138⟩, ⟨keyHash P "all_voters", .str "all_voters" 386, .ref 145⟩, ⟨keyHash P "members", .str "members" 393, .ref 152⟩, ⟨keyHash P "committed", .str "committed" 401, .ref 159⟩, ⟨keyHash P "vote", .str "vote" 409, .ref 166⟩, ⟨keyHash P "conf_state", .str "conf_state" 416, .ref 173⟩, ⟨keyHash P "check", .str "check" 424, .ref 180⟩, ⟨keyHash P "__static_attributes__", .str "__static_attributes__" 430, .ref 181⟩, ⟨keyHash P "__dict__", .str "__dict__" 432, .ref 184⟩, ⟨keyHash P "__weakref__", .str "__weakref__" 434, .ref 185⟩, ⟨keyHash P "__doc__", .str "__doc__" 435, .none⟩] 4, #[]⟩) ::
  (nat_lit 183, ⟨.type "type", none, .cls ⟨"Config", [.type "object"], [.ref 183, .type "object"], 182, "Config", true, [], [], false, none, false⟩, #[none, none, .some (.str "Config" 335), .some (.str "Config" 343), .some (.builtin "object.__new__"), .some (.bool true)]⟩) ::
  (nat_lit 184, ⟨.type "getset_descriptor", none, .fields #[.str "__dict__" 431, .ref 183, .builtin "function.__dict__", .builtin "function.__dict__#set"], #[]⟩) ::
  (nat_lit 185, ⟨.type "getset_descriptor", none, .fields #[.str "__weakref__" 433, .ref 183, .builtin "ExceptionGroup.__weakref__", .none], #[]⟩) ::
  (nat_lit 188, ⟨.type "tuple", none, .seq #[] 0, #[]⟩) ::
  (nat_lit 190, ⟨.type "tuple", none, .seq #[.str "ids" 441, .str "nid" 442] 0, #[]⟩) ::
  (nat_lit 191, ⟨.type "tuple", none, .seq #[] 0, #[]⟩) ::
  (nat_lit 193, ⟨.type "code", none, .fields #[.str "added" 438, .str "added" 439, .str "/claim/cut.py" 440, .int 116 0, .int 2 0, .int 0 0, .int 0 0, .int 3 0, .ref 188, .bool true, .int 181 0, .ref 189, .none, .ref 190, .ref 191, .ref 192, .int 443 0, .int 116 0, .str "/claim/cut.py" 444], #[]⟩) ::
  (nat_lit 194, fnO (fT 23) "added" "raftkeep.quorum" 287 193) ::
  (nat_lit 195, ⟨.type "tuple", none, .seq #[] 0, #[]⟩) ::
  (nat_lit 198, ⟨.type "code", none, .fields #[.str "without" 446, .str "without" 447, .str "/claim/cut.py" 448, .int 118 0, .int 2 0, .int 0 0, .int 0 0, .int 3 0, .ref 195, .bool true, .int 181 0, .ref 196, .none, .none, .none, .ref 197, .int 449 0, .int 118 0, .str "/claim/cut.py" 450], #[]⟩) ::
  (nat_lit 199, fnO (fT 24) "without" "raftkeep.quorum" 287 198) ::
  (nat_lit 200, ⟨.type "tuple", none, .seq #[] 0, #[]⟩) ::
  (nat_lit 202, ⟨.type "tuple", none, .seq #[.str "a" 455, .str "b" 456, .str "count" 457, .str "nid" 458] 0, #[]⟩) ::
  (nat_lit 203, ⟨.type "tuple", none, .seq #[] 0, #[]⟩) ::
  (nat_lit 205, ⟨.type "code", none, .fields #[.str "count_apart" 452, .str "count_apart" 453, .str "/claim/cut.py" 454, .int 120 0, .int 2 0, .int 0 0, .int 0 0, .int 3 0, .ref 200, .bool true, .int 181 0, .ref 201, .none, .ref 202, .ref 203, .ref 204, .int 459 0, .int 120 0, .str "/claim/cut.py" 460], #[]⟩) ::
  (nat_lit 206, fnO (fT 25) "count_apart" "raftkeep.quorum" 287 205) ::
  (nat_lit 214, ⟨.type "tuple", none, .seq #[] 0, #[]⟩) ::
  (nat_lit 216, ⟨.type "tuple", none, .seq #[.str "self" 477, .str "config" 478] 0, #[]⟩) ::
  (nat_lit 217, ⟨.type "tuple", none, .seq #[] 0, #[]⟩) ::
  (nat_lit 219, ⟨.type "code", none, .fields #[.str "__init__" 474, .str "Changer.__init__" 475, .str "/claim/cut.py" 476, .int 131 0, .int 2 0, .int 0 0, .int 0 0, .int 3 0, .ref 214, .bool true, .int 181 0, .ref 215, .none, .ref 216, .ref 217, .ref 218, .int 479 0, .int 131 0, .str "/claim/cut.py" 480], #[]⟩) ::
  (nat_lit 220, fnO (fM 26 0) "Changer.__init__" "raftkeep.quorum" 287 219) ::
  (nat_lit 221, ⟨.type "tuple", none, .seq #[] 0, #[]⟩) ::
  (nat_lit 223, ⟨.type "tuple", none, .seq #[.str "self" 485, .str "auto_leave" 486, .str "changes" 487, .str "made" 488] 0, #[]⟩) ::
  (nat_lit 224, ⟨.type "tuple", none, .seq #[] 0, #[]⟩) ::
  (nat_lit 226, ⟨.type "code", none, .fields #[.str "enter_joint" 482, .str "Changer.enter_joint" 483, .str "/claim/cut.py" 484, .int 134 0, .int 3 0, .int 0 0, .int 0 0, .int 3 0, .ref 221, .bool true, .int 181 0, .ref 222, .none, .ref 223, .ref 224, .ref 225, .int 489 0, .int 134 0, .str "/claim/cut.py" 490], #[]⟩) ::
  (nat_lit 227, fnO (fM 26 1) "Changer.enter_joint" "raftkeep.quorum" 287 226) ::
  (nat_lit 228, ⟨.type "tuple", none, .seq #[] 0, #[]⟩) ::
  (nat_lit 230, ⟨.type "tuple", none, .seq #[.str "self" 495, .str "made" 496] 0, #[]⟩) ::
  (nat_lit 231, ⟨.type "tuple", none, .seq #[] 0, #[]⟩) ::
  (nat_lit 233, ⟨.type "code", none, .fields #[.str "leave_joint" 492, .str "Changer.leave_joint" 493, .str "/claim/cut.py" 494, .int 146 0, .int 1 0, .int 0 0, .int 0 0, .int 3 0, .ref 228, .bool true, .int 181 0, .ref 229, .none, .ref 230, .ref 231, .ref 232, .int 497 0, .int 146 0, .str "/claim/cut.py" 498], #[]⟩) ::
  (nat_lit 234, fnO (fM 26 2) "Changer.leave_joint" "raftkeep.quorum" 287 233) ::
  (nat_lit 235, ⟨.type "tuple", none, .seq #[] 0, #[]⟩) ::
  (nat_lit 237, ⟨.type "tuple", none, .seq #[.str "self" 503, .str "changes" 504, .str "made" 505] 0, #[]⟩) ::
  (nat_lit 238, ⟨.type "tuple", none, .seq #[] 0, #[]⟩) ::
  (nat_lit 240, ⟨.type "code", none, .fields #[.str "simple" 500, .str "Changer.simple" 501, .str "/claim/cut.py" 502, .int 159 0, .int 2 0, .int 0 0, .int 0 0, .int 3 0, .ref 235, .bool true, .int 181 0, .ref 236, .none, .ref 237, .ref 238, .ref 239, .int 506 0, .int 159 0, .str "/claim/cut.py" 507], #[]⟩) ::
  (nat_lit 241, fnO (fM 26 3) "Changer.simple" "raftkeep.quorum" 287 240) ::
  (nat_lit 242, ⟨.type "tuple", none, .seq #[] 0, #[]⟩) ::
  (nat_lit 244, ⟨.type "tuple", none, .seq #[.str "self" 512] 0, #[]⟩) ::
  (nat_lit 245, ⟨.type "tuple", none, .seq #[] 0, #[]⟩) ::
  (nat_lit 247, ⟨.type "code", none, .fields #[.str "checked_copy" 509, .str "Changer.checked_copy" 510, .str "/claim/cut.py" 511, .int 171 0, .int 1 0, .int 0 0, .int 0 0, .int 3 0, .ref 242, .bool true, .int 181 0, .ref 243, .none, .ref 244, .ref 245, .ref 246, .int 513 0, .int 171 0, .str "/claim/cut.py" 514], #[]⟩) ::
  (nat_lit 248, fnO (fM 26 4) "Changer.checked_copy" "raftkeep.quorum" 287 247) ::
  (nat_lit 249, ⟨.type "tuple", none, .seq #[] 0, #[]⟩) ::
  (nat_lit 251, ⟨.type "tuple", none, .seq #[.str "self" 519, .str "made" 520, .str "changes" 521, .str "kind" 522, .str "nid" 523] 0, #[]⟩) ::
  (nat_lit 252, ⟨.type "tuple", none, .seq #[] 0, #[]⟩) ::
  (nat_lit 254, ⟨.type "code", none, .fields #[.str "do_changes" 516, .str "Changer.do_changes" 517, .str "/claim/cut.py" 518, .int 175 0, .int 3 0, .int 0 0, .int 0 0, .int 3 0, .ref 249, .bool true, .int 181 0, .ref 250, .none, .ref 251, .ref 252, .ref 253, .int 524 0, .int 175 0, .str "/claim/cut.py" 525], #[]⟩) ::
  (nat_lit 255, fnO (fM 26 5) "Changer.do_changes" "raftkeep.quorum" 287 254) ::
  (nat_lit 256, ⟨.type "tuple", none, .seq #[] 0, #[]⟩) ::
  (nat_lit 258, ⟨.type "tuple", none, .seq #[.str "self" 530, .str "made" 531, .str "nid" 532] 0, #[]⟩) ::
  (nat_lit 259, ⟨.type "tuple", none, .seq #[] 0, #[]⟩) ::
  (nat_lit 261, ⟨.type "code", none, .fields #[.str "make_voter" 527, .str "Changer.make_voter" 528, .str "/claim/cut.py" 529, .int 190 0, .int 3 0, .int 0 0, .int 0 0, .int 3 0, .ref 256, .bool true, .int 181 0, .ref 257, .none, .ref 258, .ref 259, .ref 260, .int 533 0, .int 190 0, .str "/claim/cut.py" 534], #[]⟩) ::
  (nat_lit 262, fnO (fM 26 6) "Changer.make_voter" "raftkeep.quorum" 287 261) ::
  (nat_lit 263, ⟨.type "tuple", none, .seq #[] 0, #[]⟩) ::
  (nat_lit 265, ⟨.type "tuple", none, .seq #[.str "self" 539, .str "made" 540, .str "nid" 541] 0, #[]⟩) ::
  (nat_lit 266, ⟨.type "tuple", none, .seq #[] 0, #[]⟩) ::
  (nat_lit 268, ⟨.type "code", none, .fields #[.str "make_learner" 536, .str "Changer.make_learner" 537, .str "/claim/cut.py" 538, .int 195 0, .int 3 0, .int 0 0, .int 0 0, .int 3 0, .ref 263, .bool true, .int 181 0, .ref 264, .none, .ref 265, .ref 266, .ref 267, .int 542 0, .int 195 0, .str "/claim/cut.py" 543], #[]⟩) ::
  (nat_lit 269, fnO (fM 26 7) "Changer.make_learner" "raftkeep.quorum" 287 268) ::
  (nat_lit 270, ⟨.type "tuple", none, .seq #[] 0, #[]⟩) ::
  (nat_lit 272, ⟨.type "tuple", none, .seq #[.str "self" 548, .str "made" 549, .str "nid" 550] 0, #[]⟩) ::
  (nat_lit 273, ⟨.type "tuple", none, .seq #[] 0, #[]⟩) ::
  (nat_lit 275, ⟨.type "code", none, .fields #[.str "remove" 545, .str "Changer.remove" 546, .str "/claim/cut.py" 547, .int 204 0, .int 3 0, .int 0 0, .int 0 0, .int 3 0, .ref 270, .bool true, .int 181 0, .ref 271, .none, .ref 272, .ref 273, .ref 274, .int 551 0, .int 204 0, .str "/claim/cut.py" 552], #[]⟩) ::
  (nat_lit 276, fnO (fM 26 8) "Changer.remove" "raftkeep.quorum" 287 275) ::
  (nat_lit 277, ⟨.type "tuple", none, .seq #[.str "config" 554] 0, #[]⟩) ::
  (nat_lit 278, ⟨.type "dict", none, .dict #[⟨keyHash P "__module__", .str "__module__" 469, .str "raftkeep.quorum" 287⟩, ⟨keyHash P "__firstlineno__", .str "__firstlineno__" 473, .int 129 472⟩, ⟨keyHash P "__init__", .str "__init__" 481, .ref 220⟩, ⟨keyHash P "enter_joint", .str "enter_joint" 491, .ref 227⟩, ⟨keyHash P "leave_joint", .str "leave_joint" 499, .ref 234⟩, ⟨keyHash P "simple", .str "simple" 508, .ref 241⟩, ⟨keyHash P "checked_copy", .str "checked_copy" 515, .ref 248⟩, ⟨keyHash P "do_changes", .str "do_changes" 526, .ref 255⟩, ⟨keyHash P "make_voter", .str "make_voter" 535, .ref 262⟩, ⟨keyHash P "make_learner", .str "make_learner" 544, .ref 269⟩, ⟨keyHash P "remove", .str "remove" 553, .ref 276⟩, ⟨keyHash P "__static_attributes__", .str "__static_attributes__" 555, .ref 277⟩, ⟨keyHash P "__dict__", .str "__dict__" 557, .ref 280⟩, ⟨keyHash P "__weakref__", .str "__weakref__" 559, .ref 281⟩, ⟨keyHash P "__doc__", .str "__doc__" 560, .none⟩] 4, #[]⟩) ::
  (nat_lit 279, ⟨.type "type", none, .cls ⟨"Changer", [.type "object"], [.ref 279, .type "object"], 278, "Changer", true, [], [], false, none, false⟩, #[none, none, .some (.str "Changer" 462), .some (.str "Changer" 470), .some (.builtin "object.__new__"), .some (.bool true)]⟩) ::
  (nat_lit 280, ⟨.type "getset_descriptor", none, .fields #[.str "__dict__" 556, .ref 279, .builtin "function.__dict__", .builtin "function.__dict__#set"], #[]⟩) ::
  (nat_lit 281, ⟨.type "getset_descriptor", none, .fields #[.str "__weakref__" 558, .ref 279, .builtin "ExceptionGroup.__weakref__", .none], #[]⟩) ::
  (nat_lit 291, ⟨.type "tuple", none, .seq #[] 0, #[]⟩) ::
  (nat_lit 293, ⟨.type "tuple", none, .seq #[.str "self" 580] 0, #[]⟩) ::
  (nat_lit 294, ⟨.type "tuple", none, .seq #[] 0, #[]⟩) ::
  (nat_lit 296, ⟨.type "code", none, .fields #[.str "__init__" 577, .str "Ballots.__init__" 578, .str "/claim/cut.py" 579, .int 211 0, .int 1 0, .int 0 0, .int 0 0, .int 3 0, .ref 291, .bool true, .int 181 0, .ref 292, .none, .ref 293, .ref 294, .ref 295, .int 581 0, .int 211 0, .str "/claim/cut.py" 582], #[]⟩) ::
  (nat_lit 297, fnO (fM 28 0) "Ballots.__init__" "raftkeep.tracker" 563 296) ::
  (nat_lit 298, ⟨.type "tuple", none, .seq #[] 0, #[]⟩) ::
  (nat_lit 300, ⟨.type "tuple", none, .seq #[.str "self" 587, .str "nid" 588, .str "ok" 589] 0, #[]⟩) ::
  (nat_lit 301, ⟨.type "tuple", none, .seq #[] 0, #[]⟩) ::
  (nat_lit 303, ⟨.type "code", none, .fields #[.str "record_vote" 584, .str "Ballots.record_vote" 585, .str "/claim/cut.py" 586, .int 215 0, .int 3 0, .int 0 0, .int 0 0, .int 3 0, .ref 298, .bool true, .int 181 0, .ref 299, .none, .ref 300, .ref 301, .ref 302, .int 590 0, .int 215 0, .str "/claim/cut.py" 591], #[]⟩) ::
  (nat_lit 304, fnO (fM 28 1) "Ballots.record_vote" "raftkeep.tracker" 563 303) ::
  (nat_lit 305, ⟨.type "tuple", none, .seq #[] 0, #[]⟩) ::
  (nat_lit 307, ⟨.type "tuple", none, .seq #[.str "self" 596] 0, #[]⟩) ::
  (nat_lit 308, ⟨.type "tuple", none, .seq #[] 0, #[]⟩) ::
  (nat_lit 310, ⟨.type "code", none, .fields #[.str "reset_votes" 593, .str "Ballots.reset_votes" 594, .str "/claim/cut.py" 595, .int 219 0, .int 1 0, .int 0 0, .int 0 0, .int 3 0, .ref 305, .bool true, .int 181 0, .ref 306, .none, .ref 307, .ref 308, .ref 309, .int 597 0, .int 219 0, .str "/claim/cut.py" 598], #[]⟩) ::
  (nat_lit 311, fnO (fM 28 2) "Ballots.reset_votes" "raftkeep.tracker" 563 310) ::
  (nat_lit 312, ⟨.type "tuple", none, .seq #[] 0, #[]⟩) ::
  (nat_lit 314, ⟨.type "tuple", none, .seq #[.str "self" 603, .str "granted" 604, .str "rejected" 605, .str "nid" 606] 0, #[]⟩) ::
  (nat_lit 315, ⟨.type "tuple", none, .seq #[] 0, #[]⟩) ::
  (nat_lit 317, ⟨.type "code", none, .fields #[.str "tally" 600, .str "Ballots.tally" 601, .str "/claim/cut.py" 602, .int 222 0, .int 1 0, .int 0 0, .int 0 0, .int 3 0, .ref 312, .bool true, .int 181 0, .ref 313, .none, .ref 314, .ref 315, .ref 316, .int 607 0, .int 222 0, .str "/claim/cut.py" 608], #[]⟩) ::
  (nat_lit 318, fnO (fM 28 3) "Ballots.tally" "raftkeep.tracker" 563 317) ::
  (nat_lit 319, ⟨.type "tuple", none, .seq #[] 0, #[]⟩) ::
  (nat_lit 321, ⟨.type "tuple", none, .seq #[.str "self" 613] 0, #[]⟩) ::
  (nat_lit 322, ⟨.type "tuple", none, .seq #[] 0, #[]⟩) ::
  (nat_lit 324, ⟨.type "code", none, .fields #[.str "single" 610, .str "Ballots.single" 611, .str "/claim/cut.py" 612, .int 234 0, .int 1 0, .int 0 0, .int 0 0, .int 3 0, .ref 319, .bool true, .int 181 0, .ref 320, .none, .ref 321, .ref 322, .ref 323, .int 614 0, .int 234 0, .str "/claim/cut.py" 615], #[]⟩) ::
  (nat_lit 325, fnO (fM 28 4) "Ballots.single" "raftkeep.tracker" 563 324) ::
  (nat_lit 326, ⟨.type "tuple", none, .seq #[.str "config" 617, .str "votes" 618] 0, #[]⟩) ::
  (nat_lit 327, ⟨.type "dict", none, .dict #[⟨keyHash P "__module__", .str "__module__" 572, .str "raftkeep.tracker" 563⟩, ⟨keyHash P "__firstlineno__", .str "__firstlineno__" 576, .int 209 575⟩, ⟨keyHash P "__init__", .str "__init__" 583, .ref 297⟩, ⟨keyHash P "record_vote", .str "record_vote" 592, .ref 304⟩, ⟨keyHash P "reset_votes", .str "reset_votes" 599, .ref 311⟩, ⟨keyHash P "tally", .str "tally" 609, .ref 318⟩, ⟨keyHash P "single", .str "single" 616, .ref 325⟩, ⟨keyHash P "__static_attributes__", .str "__static_attributes__" 619, .ref 326⟩, ⟨keyHash P "__dict__", .str "__dict__" 621, .ref 329⟩, ⟨keyHash P "__weakref__", .str "__weakref__" 623, .ref 330⟩, ⟨keyHash P "__doc__", .str "__doc__" 624, .none⟩] 4, #[]⟩) ::
  (nat_lit 328, ⟨.type "type", none, .cls ⟨"Ballots", [.type "object"], [.ref 328, .type "object"], 327, "Ballots", true, [], [], false, none, false⟩, #[none, none, .some (.str "Ballots" 565), .some (.str "Ballots" 573), .some (.builtin "object.__new__"), .some (.bool true)]⟩) ::
  (nat_lit 329, ⟨.type "getset_descriptor", none, .fields #[.str "__dict__" 620, .ref 328, .builtin "function.__dict__", .builtin "function.__dict__#set"], #[]⟩) ::
  (nat_lit 330, ⟨.type "getset_descriptor", none, .fields #[.str "__weakref__" 622, .ref 328, .builtin "ExceptionGroup.__weakref__", .none], #[]⟩) ::
  (nat_lit 333, ⟨.type "list", none, .seq #[.int 2 629, .int 3 630, .int 5 631, .int 9 632] 0, #[]⟩) ::
  (nat_lit 334, ⟨.type "list", none, .seq #[.int 1 634, .int 0 635, .int 2 636] 0, #[]⟩) ::
  (nat_lit 335, ⟨.type "tuple", none, .seq #[] 0, #[]⟩) ::
  (nat_lit 337, ⟨.type "tuple", none, .seq #[] 0, #[]⟩) ::
  (nat_lit 338, ⟨.type "tuple", none, .seq #[] 0, #[]⟩) ::
  (nat_lit 340, ⟨.type "code", none, .fields #[.str "_law_STEPS" 638, .str "_law_STEPS" 639, .str "/claim/cut.py" 640, .int 239 0, .int 0 0, .int 0 0, .int 0 0, .int 3 0, .ref 335, .bool true, .int 181 0, .ref 336, .none, .ref 337, .ref 338, .ref 339, .int 641 0, .int 239 0, .str "/claim/cut.py" 642], #[]⟩) ::
  (nat_lit 341, fnO (fT 32) "_law_STEPS" "law_no0410_01" 627 340) ::
  (nat_lit 342, ⟨.type "tuple", none, .seq #[] 0, #[]⟩) ::
  (nat_lit 344, ⟨.type "tuple", none, .seq #[] 0, #[]⟩) ::
  (nat_lit 345, ⟨.type "tuple", none, .seq #[] 0, #[]⟩) ::
  (nat_lit 347, ⟨.type "code", none, .fields #[.str "_law_NO_LIMIT" 644, .str "_law_NO_LIMIT" 645, .str "/claim/cut.py" 646, .int 241 0, .int 0 0, .int 0 0, .int 0 0, .int 3 0, .ref 342, .bool true, .int 181 0, .ref 343, .none, .ref 344, .ref 345, .ref 346, .int 647 0, .int 241 0, .str "/claim/cut.py" 648], #[]⟩) ::
  (nat_lit 348, fnO (fT 33) "_law_NO_LIMIT" "law_no0410_01" 627 347) ::
  (nat_lit 349, ⟨.type "tuple", none, .seq #[] 0, #[]⟩) ::
  (nat_lit 351, ⟨.type "tuple", none, .seq #[.str "script" 653, .str "place" 654, .str "limit" 655] 0, #[]⟩) ::
  (nat_lit 352, ⟨.type "tuple", none, .seq #[] 0, #[]⟩) ::
  (nat_lit 354, ⟨.type "code", none, .fields #[.str "_law_draw" 650, .str "_law_draw" 651, .str "/claim/cut.py" 652, .int 243 0, .int 3 0, .int 0 0, .int 0 0, .int 3 0, .ref 349, .bool true, .int 181 0, .ref 350, .none, .ref 351, .ref 352, .ref 353, .int 656 0, .int 243 0, .str "/claim/cut.py" 657], #[]⟩) ::
  (nat_lit 355, fnO (fT 34) "_law_draw" "law_no0410_01" 627 354) ::
  (nat_lit 356, ⟨.type "tuple", none, .seq #[] 0, #[]⟩) ::
  (nat_lit 359, ⟨.type "code", none, .fields #[.str "_law_side" 659, .str "_law_side" 660, .str "/claim/cut.py" 661, .int 247 0, .int 2 0, .int 0 0, .int 0 0, .int 3 0, .ref 356, .bool true, .int 181 0, .ref 357, .none, .none, .none, .ref 358, .int 662 0, .int 247 0, .str "/claim/cut.py" 663], #[]⟩) ::
  (nat_lit 360, fnO (fT 35) "_law_side" "law_no0410_01" 627 359) ::
  (nat_lit 361, ⟨.type "tuple", none, .seq #[] 0, #[]⟩) ::
  (nat_lit 363, ⟨.type "tuple", none, .seq #[.str "roles" 668] 0, #[]⟩) ::
  (nat_lit 364, ⟨.type "tuple", none, .seq #[] 0, #[]⟩) ::
  (nat_lit 366, ⟨.type "code", none, .fields #[.str "_law_settled" 665, .str "_law_settled" 666, .str "/claim/cut.py" 667, .int 249 0, .int 1 0, .int 0 0, .int 0 0, .int 3 0, .ref 361, .bool true, .int 181 0, .ref 362, .none, .ref 363, .ref 364, .ref 365, .int 669 0, .int 249 0, .str "/claim/cut.py" 670], #[]⟩) ::
  (nat_lit 367, fnO (fT 36) "_law_settled" "law_no0410_01" 627 366) ::
  (nat_lit 368, ⟨.type "tuple", none, .seq #[] 0, #[]⟩) ::
  (nat_lit 370, ⟨.type "tuple", none, .seq #[.str "steps" 675, .str "a" 676, .str "b" 677, .str "c" 678] 0, #[]⟩) ::
  (nat_lit 371, ⟨.type "tuple", none, .seq #[] 0, #[]⟩) ::
  (nat_lit 373, ⟨.type "code", none, .fields #[.str "_law_orders" 672, .str "_law_orders" 673, .str "/claim/cut.py" 674, .int 251 0, .int 1 0, .int 0 0, .int 0 0, .int 3 0, .ref 368, .bool true, .int 181 0, .ref 369, .none, .ref 370, .ref 371, .ref 372, .int 679 0, .int 251 0, .str "/claim/cut.py" 680], #[]⟩) ::
  (nat_lit 374, fnO (fT 37) "_law_orders" "law_no0410_01" 627 373) ::
  (nat_lit 375, ⟨.type "tuple", none, .seq #[] 0, #[]⟩) ::
  (nat_lit 377, ⟨.type "tuple", none, .seq #[.str "config" 685, .str "way" 686] 0, #[]⟩) ::
  (nat_lit 378, ⟨.type "tuple", none, .seq #[] 0, #[]⟩) ::
  (nat_lit 380, ⟨.type "code", none, .fields #[.str "_law_refused" 682, .str "_law_refused" 683, .str "/claim/cut.py" 684, .int 254 0, .int 2 0, .int 0 0, .int 0 0, .int 3 0, .ref 375, .bool true, .int 181 0, .ref 376, .none, .ref 377, .ref 378, .ref 379, .int 687 0, .int 254 0, .str "/claim/cut.py" 688], #[]⟩) ::
  (nat_lit 381, fnO (fT 38) "_law_refused" "law_no0410_01" 627 380) ::
  (nat_lit 382, ⟨.type "tuple", none, .seq #[] 0, #[]⟩) ::
  (nat_lit 385, ⟨.type "code", none, .fields #[.str "_law_ways" 690, .str "_law_ways" 691, .str "/claim/cut.py" 692, .int 265 0, .int 5 0, .int 0 0, .int 0 0, .int 3 0, .ref 382, .bool true, .int 181 0, .ref 383, .none, .none, .none, .ref 384, .int 693 0, .int 265 0, .str "/claim/cut.py" 694], #[]⟩) ::
  (nat_lit 386, fnO (fT 39) "_law_ways" "law_no0410_01" 627 385) ::
  (nat_lit 387, ⟨.type "tuple", none, .seq #[] 0, #[]⟩) ::
  (nat_lit 390, ⟨.type "code", none, .fields #[.str "_law_counts" 696, .str "_law_counts" 697, .str "/claim/cut.py" 698, .int 322 0, .int 3 0, .int 0 0, .int 0 0, .int 3 0, .ref 387, .bool true, .int 181 0, .ref 388, .none, .none, .none, .ref 389, .int 699 0, .int 322 0, .str "/claim/cut.py" 700], #[]⟩) ::
  (nat_lit 391, fnO (fT 40) "_law_counts" "law_no0410_01" 627 390) ::
  (nat_lit 392, ⟨.type "tuple", none, .seq #[] 0, #[]⟩) ::
  (nat_lit 395, ⟨.type "code", none, .fields #[.str "law" 702, .str "law" 703, .str "/claim/cut.py" 704, .int 370 0, .int 1 0, .int 0 0, .int 0 0, .int 3 0, .ref 392, .bool true, .int 181 0, .ref 393, .none, .none, .none, .ref 394, .int 705 0, .int 370 0, .str "/claim/cut.py" 706], #[]⟩) ::
  (nat_lit 396, fnO (fT 41) "law" "law_no0410_01" 627 395) :: []
noncomputable abbrev asF : List Addr := [2, 3, 15, 17, 18, 20, 21, 22, 29, 30, 31, 32, 35, 42, 43, 44, 47, 54, 55, 56, 59, 66, 67, 68, 71, 73, 74, 76, 77, 78, 81, 82, 83, 85, 86, 88, 89, 90, 92, 93, 95, 96, 97, 99, 100, 102, 103, 111, 113, 114, 116, 117, 118, 120, 121, 123, 124, 125, 127, 128, 130, 131, 132, 134, 135, 137, 138, 139, 141, 142, 144, 145, 146, 148, 149, 151, 152, 153, 155, 156, 158, 159, 160, 162, 163, 165, 166, 167, 169, 170, 172, 173, 174, 176, 177, 179, 180, 181, 182, 183, 184, 185, 188, 190, 191, 193, 194, 195, 198, 199, 200, 202, 203, 205, 206, 214, 216, 217, 219, 220, 221, 223, 224, 226, 227, 228, 230, 231, 233, 234, 235, 237, 238, 240, 241, 242, 244, 245, 247, 248, 249, 251, 252, 254, 255, 256, 258, 259, 261, 262, 263, 265, 266, 268, 269, 270, 272, 273, 275, 276, 277, 278, 279, 280, 281, 291, 293, 294, 296, 297, 298, 300, 301, 303, 304, 305, 307, 308, 310, 311, 312, 314, 315, 317, 318, 319, 321, 322, 324, 325, 326, 327, 328, 329, 330, 333, 334, 335, 337, 338, 340, 341, 342, 344, 345, 347, 348, 349, 351, 352, 354, 355, 356, 359, 360, 361, 363, 364, 366, 367, 368, 370, 371, 373, 374, 375, 377, 378, 380, 381, 382, 385, 386, 387, 390, 391, 392, 395, 396]
noncomputable def pick : List Bool → List Stmt → List Stmt
  | b :: r, x :: l => if b then x :: pick r l else pick r l
  | _, l => l
/-- the text without what is stored over -/
noncomputable def view : Program := { PySem.Challenge.pw_no0410_01 with main := { PySem.Challenge.pw_no0410_01.main with body := pick [true, false, true, true, true, true, false, true, true, true, true, true, true, true, false, true, true, true, true, true, true, true, true, true, true, true, true, false, true, false] PySem.Challenge.pw_no0410_01.main.body } }
noncomputable def sa0 (_ : Params) : Obj := { cls := Value.type "tuple", data := Data.seq #[] }
noncomputable def sa1 (_ : Params) : Obj := { cls := Value.none, data := Data.fields #[] }
noncomputable def sa2 (_ : Params) : Obj := ⟨.type "code", none, .fields #[.str "<module>" 182, .str "<module>" 183, .str "/claim/cut.py" 184, .int 1 0, .int 0 0, .int 0 0, .int 0 0, .int 0 0, .ref 11, .bool false, .int 181 0, .ref 12, .none, .none, .none, .none, .int 185 0, .int 1 0, .str "/claim/cut.py" 186], #[]⟩
noncomputable def sa3 (_ : Params) : Obj := ⟨.type "frame", none, .plain, #[some (.ref 13), some (.ref 3), some (.ref 3), none, some (.str "__main__" 164), none, some (.ref 0)]⟩
noncomputable def hpA (P : Params) : Heap := { objs := { toList :=
          [boot_o_0 P, boot_o_1 P, boot_o_2 P, boot_o_3 P, boot_o_4 P, boot_o_5 P, boot_o_6 P, boot_o_7 P, boot_o_8 P,
            boot_o_9 P, boot_o_10 P, sa0 P, sa1 P, sa2 P, sa3 P] } }
noncomputable def trB (P : Params) : BT :=
  BT.node (boot_o_0 P)
    (BT.node (boot_o_1 P)
      (BT.node (boot_o_3 P) (BT.node (boot_o_7 P) BT.nil BT.nil) (BT.node (sa0 P) BT.nil BT.nil))
      (BT.node (boot_o_5 P) (BT.node (boot_o_9 P) BT.nil BT.nil) (BT.node (sa2 P) BT.nil BT.nil)))
    (BT.node (boot_o_2 P)
      (BT.node (boot_o_4 P) (BT.node (boot_o_8 P) BT.nil BT.nil) (BT.node (sa1 P) BT.nil BT.nil))
      (BT.node (boot_o_6 P) (BT.node (boot_o_10 P) BT.nil BT.nil) (BT.node (sa3 P) BT.nil BT.nil)))
noncomputable abbrev pE : Program := PySem.Challenge.rw_no0410_01.row.toRowW.1
noncomputable abbrev p0 : Pos := ⟨0, 0, 0, 0⟩
noncomputable def envH : Env := { scope := pE.main.scope, locals := mainNs, globals := mainNs, cells := [], code := Value.ref 13, frame := some 14 }
noncomputable abbrev bdH : List Stmt := behindTheImports pE
noncomputable abbrev cdH : Code := Code.body bdH envH
noncomputable abbrev annH : Option Value := some (Value.ref 6)
noncomputable abbrev lsH : List Str := [Str.ofString "_law_IDS", Str.ofString "_law_ROLES"]
noncomputable abbrev hkH : Hook := kHook frag asF (fun _ => by kernel_rfl)
/-- the state behind the opening and the block's start -/
noncomputable def stB (w : World) (os : OsState) : SharedT := { tree := trB w.params, n := 15, life := { }, gens := { toList := [] }, drawn := { }, toks := 187, os := os }
theorem hd_pre : ∀ w : World, (fun os => topGo treeTable pE w 11 annH 12 { heap := boot_heap w.params, drawn := boot_drawn, toks := boot_toks, os := os } (topStub pE)) =
    fun os => some ({ heap := hpA w.params, toks := 187, os := os }, { cur := denote treeTable cdH, code := cdH, pos := p0, stack := [topFrame p0] }) := by
  intro w; kernel_rfl
theorem hd_block : ∀ w : World, (fun os => segRun treeTable pE w 11 annH 1 1 { heap := hpA w.params, toks := 187, os := os } (blockOf bdH envH cdH p0 [topFrame p0])) =
    fun os => some (Flow.next, (stB w os).abs, cdH, p0) := by
  intro w; kernel_rfl
theorem hd_size : ∀ w : World, ((boot_heap w.params).isNs mainGlobals && (#[] : Array GenState).size == 0, (boot_heap w.params).objs.size, (boot_heap w.params).nsMap mainGlobals "__annotations__") = (true, 11, annH) := by
  intro w; kernel_rfl
theorem hd_open : ∀ w : World, (fencedOpening treeTable pE w 5968).map (fun s => (s.heap, s.gens, s.drawn, s.toks)) = some (boot_heap w.params, Array.mk [], boot_drawn, boot_toks) :=
  boot_open (by kernel_rfl) (by kernel_rfl) (fun s => by kernel_rfl)
noncomputable def xtH (s : Shared) : Bool := xlAt view [] s && recOk PySem.Challenge.rw_no0410_01.row.records s
/-- the payload of a def -/
noncomputable def fnN (st : Stmt) (q : Str) : Obj := match st with
  | .FunctionDef n a b _ _ _ sc _ _ _ => ⟨.none, none, .func ⟨n, q, a, .stmts b, sc, 0, [], .none, .none, .none, .none, none, .none, .none, 0⟩, #[]⟩
  | _ => ⟨.none, none, .plain, #[]⟩
noncomputable def flO (l : List Value) : Obj := ⟨.none, none, .fields ⟨l⟩, #[]⟩
noncomputable def linesO (n : Nat) : Obj := flO (List.take n [.int 1 0, .int 0 0, .ref 20, .int 5 0, .int 0 0, .ref 27, .int 7 0, .int 0 0, .ref 40, .int 9 0, .int 0 0, .ref 52, .int 11 0, .int 0 0, .ref 64, .int 20 0, .int 0 0, .ref 76, .int 30 0, .int 0 0, .ref 81, .int 35 0, .int 0 0, .ref 88, .int 51 0, .int 0 0, .ref 95, .int 57 0, .int 0 0, .ref 102, .int 65 0, .int 0 0, .ref 109, .int 116 0, .int 0 0, .ref 193, .int 118 0, .int 0 0, .ref 198, .int 120 0, .int 0 0, .ref 205, .int 129 0, .int 0 0, .ref 212, .int 209 0, .int 0 0, .ref 289, .int 239 0, .int 0 0, .ref 340, .int 241 0, .int 0 0, .ref 347, .int 243 0, .int 0 0, .ref 354, .int 247 0, .int 0 0, .ref 359, .int 249 0, .int 0 0, .ref 366, .int 251 0, .int 0 0, .ref 373, .int 254 0, .int 0 0, .ref 380, .int 265 0, .int 0 0, .ref 385, .int 322 0, .int 0 0, .ref 390, .int 370 0, .int 0 0, .ref 395])
/-- the module's names as they stand behind some of the statements -/
noncomputable def nsO (P : Params) (n : Nat) (nm : Str) (t : Nat) : Obj := match (frag P).getD 1 (0, flO []) with
  | (_, ⟨c, k, .dict ⟨_ :: es⟩ _, sl⟩) => ⟨c, k, .dict ⟨⟨PyData.keyHash P "__name__", .str "__name__" 165, .str nm t⟩ :: es.take (n - 1)⟩ n, sl⟩
  | (_, o) => o
open PyData (keyHash) in
/-- the objects that the walk's fragment leaves out -/
noncomputable def restO (P : Params) : List (Nat × Obj) :=
  (0, boot_o_0 P) ::
  (1, boot_o_1 P) ::
  (4, boot_o_4 P) ::
  (5, boot_o_5 P) ::
  (6, boot_o_6 P) ::
  (7, boot_o_7 P) ::
  (8, boot_o_8 P) ::
  (9, boot_o_9 P) ::
  (10, boot_o_10 P) ::
  (11, ⟨.type "tuple", none, .seq #[] 0, #[]⟩) ::
  (12, linesO 78) ::
  (13, ⟨.type "code", none, .fields #[.str "<module>" 182, .str "<module>" 183, .str "/claim/cut.py" 184, .int 1 0, .int 0 0, .int 0 0, .int 0 0, .int 0 0, .ref 11, .bool false, .int 181 0, .ref 12, .none, .none, .none, .none, .int 185 0, .int 1 0, .str "/claim/cut.py" 186], #[]⟩) ::
  (14, ⟨.type "frame", none, .plain, #[.some (.ref 13), .some (.ref 3), .some (.ref 3), none, .some (.str "__main__" 164), none, .some (.ref 0)]⟩) ::
  (16, flO []) ::
  (19, fnN (fT 0) "_wall") ::
  (23, ⟨.type "builtin_function_or_method", none, .fields #[.builtin "type.__prepare__", .type "type"], #[]⟩) ::
  (24, ⟨.type "dict", none, .dict #[⟨keyHash P "__module__", .str "__module__" 203, .str "raftkeep.errors" 194⟩, ⟨keyHash P "__qualname__", .str "__qualname__" 205, .str "KeepError" 204⟩, ⟨keyHash P "__firstlineno__", .str "__firstlineno__" 207, .int 5 206⟩, ⟨keyHash P "__static_attributes__", .str "__static_attributes__" 208, .ref 29⟩] 4, #[]⟩) ::
  (25, ⟨.type "tuple", none, .seq #[] 0, #[]⟩) ::
  (26, flO []) ::
  (27, ⟨.type "code", none, .fields #[.str "KeepError" 198, .str "KeepError" 199, .str "/claim/cut.py" 200, .int 5 0, .int 0 0, .int 0 0, .int 0 0, .int 0 0, .ref 25, .bool false, .int 181 0, .ref 26, .none, .none, .none, .none, .int 201 0, .int 5 0, .str "/claim/cut.py" 202], #[]⟩) ::
  (28, ⟨.type "frame", none, .plain, #[.some (.ref 27), .some (.ref 3), .some (.ref 24), none, .some (.str "raftkeep.errors" 194), none, .some (.ref 0)]⟩) ::
  (33, ⟨.type "super", none, .fields #[.ref 31, .ref 31, .ref 31], #[]⟩) ::
  (34, ⟨.type "builtin_function_or_method", none, .fields #[.builtin "object.__init_subclass__", .ref 31], #[]⟩) ::
  (36, ⟨.type "builtin_function_or_method", none, .fields #[.builtin "type.__prepare__", .type "type"], #[]⟩) ::
  (37, ⟨.type "dict", none, .dict #[⟨keyHash P "__module__", .str "__module__" 223, .str "raftkeep.errors" 194⟩, ⟨keyHash P "__qualname__", .str "__qualname__" 225, .str "RaftError" 224⟩, ⟨keyHash P "__firstlineno__", .str "__firstlineno__" 227, .int 7 226⟩, ⟨keyHash P "__static_attributes__", .str "__static_attributes__" 228, .ref 42⟩] 4, #[]⟩) ::
  (38, ⟨.type "tuple", none, .seq #[] 0, #[]⟩) ::
  (39, flO []) ::
  (40, ⟨.type "code", none, .fields #[.str "RaftError" 218, .str "RaftError" 219, .str "/claim/cut.py" 220, .int 7 0, .int 0 0, .int 0 0, .int 0 0, .int 0 0, .ref 38, .bool false, .int 181 0, .ref 39, .none, .none, .none, .none, .int 221 0, .int 7 0, .str "/claim/cut.py" 222], #[]⟩) ::
  (41, ⟨.type "frame", none, .plain, #[.some (.ref 40), .some (.ref 3), .some (.ref 37), none, .some (.str "raftkeep.errors" 194), none, .some (.ref 0)]⟩) ::
  (45, ⟨.type "super", none, .fields #[.ref 44, .ref 44, .ref 44], #[]⟩) ::
  (46, ⟨.type "builtin_function_or_method", none, .fields #[.builtin "object.__init_subclass__", .ref 44], #[]⟩) ::
  (48, ⟨.type "builtin_function_or_method", none, .fields #[.builtin "type.__prepare__", .type "type"], #[]⟩) ::
  (49, ⟨.type "dict", none, .dict #[⟨keyHash P "__module__", .str "__module__" 239, .str "raftkeep.errors" 194⟩, ⟨keyHash P "__qualname__", .str "__qualname__" 241, .str "ConfRefused" 240⟩, ⟨keyHash P "__firstlineno__", .str "__firstlineno__" 243, .int 9 242⟩, ⟨keyHash P "__static_attributes__", .str "__static_attributes__" 244, .ref 54⟩] 4, #[]⟩) ::
  (50, ⟨.type "tuple", none, .seq #[] 0, #[]⟩) ::
  (51, flO []) ::
  (52, ⟨.type "code", none, .fields #[.str "ConfRefused" 234, .str "ConfRefused" 235, .str "/claim/cut.py" 236, .int 9 0, .int 0 0, .int 0 0, .int 0 0, .int 0 0, .ref 50, .bool false, .int 181 0, .ref 51, .none, .none, .none, .none, .int 237 0, .int 9 0, .str "/claim/cut.py" 238], #[]⟩) ::
  (53, ⟨.type "frame", none, .plain, #[.some (.ref 52), .some (.ref 3), .some (.ref 49), none, .some (.str "raftkeep.errors" 194), none, .some (.ref 0)]⟩) ::
  (57, ⟨.type "super", none, .fields #[.ref 56, .ref 56, .ref 56], #[]⟩) ::
  (58, ⟨.type "builtin_function_or_method", none, .fields #[.builtin "object.__init_subclass__", .ref 56], #[]⟩) ::
  (60, ⟨.type "builtin_function_or_method", none, .fields #[.builtin "type.__prepare__", .type "type"], #[]⟩) ::
  (61, ⟨.type "dict", none, .dict #[⟨keyHash P "__module__", .str "__module__" 255, .str "raftkeep.errors" 194⟩, ⟨keyHash P "__qualname__", .str "__qualname__" 257, .str "LogPanic" 256⟩, ⟨keyHash P "__firstlineno__", .str "__firstlineno__" 259, .int 11 258⟩, ⟨keyHash P "__static_attributes__", .str "__static_attributes__" 260, .ref 66⟩] 4, #[]⟩) ::
  (62, ⟨.type "tuple", none, .seq #[] 0, #[]⟩) ::
  (63, flO []) ::
  (64, ⟨.type "code", none, .fields #[.str "LogPanic" 250, .str "LogPanic" 251, .str "/claim/cut.py" 252, .int 11 0, .int 0 0, .int 0 0, .int 0 0, .int 0 0, .ref 62, .bool false, .int 181 0, .ref 63, .none, .none, .none, .none, .int 253 0, .int 11 0, .str "/claim/cut.py" 254], #[]⟩) ::
  (65, ⟨.type "frame", none, .plain, #[.some (.ref 64), .some (.ref 3), .some (.ref 61), none, .some (.str "raftkeep.errors" 194), none, .some (.ref 0)]⟩) ::
  (69, ⟨.type "super", none, .fields #[.ref 68, .ref 68, .ref 68], #[]⟩) ::
  (70, ⟨.type "builtin_function_or_method", none, .fields #[.builtin "object.__init_subclass__", .ref 68], #[]⟩) ::
  (72, flO []) ::
  (75, fnN (fT 13) "rising") ::
  (79, flO []) ::
  (80, fnN (fT 18) "majority_index") ::
  (84, flO []) ::
  (87, fnN (fT 19) "majority_vote") ::
  (91, flO []) ::
  (94, fnN (fT 20) "joint_index") ::
  (98, flO []) ::
  (101, fnN (fT 21) "joint_vote") ::
  (104, ⟨.type "tuple", none, .seq #[] 0, #[]⟩) ::
  (105, ⟨.type "builtin_function_or_method", none, .fields #[.builtin "type.__prepare__", .type "type"], #[]⟩) ::
  (106, ⟨.type "dict", none, .dict #[⟨keyHash P "__module__", .str "__module__" 342, .str "raftkeep.quorum" 287⟩, ⟨keyHash P "__qualname__", .str "__qualname__" 344, .str "Config" 343⟩, ⟨keyHash P "__firstlineno__", .str "__firstlineno__" 346, .int 65 345⟩, ⟨keyHash P "__init__", .str "__init__" 358, .ref 117⟩, ⟨keyHash P "row", .str "row" 365, .ref 124⟩, ⟨keyHash P "copy", .str "copy" 372, .ref 131⟩, ⟨keyHash P "joint", .str "joint" 379, .ref 138⟩, ⟨keyHash P "all_voters", .str "all_voters" 386, .ref 145⟩, ⟨keyHash P "members", .str "members" 393, .ref 152⟩, ⟨keyHash P "committed", .str "committed" 401, .ref 159⟩, ⟨keyHash P "vote", .str "vote" 409, .ref 166⟩, ⟨keyHash P "conf_state", .str "conf_state" 416, .ref 173⟩, ⟨keyHash P "check", .str "check" 424, .ref 180⟩, ⟨keyHash P "__static_attributes__", .str "__static_attributes__" 430, .ref 181⟩] 14, #[]⟩) ::
  (107, ⟨.type "tuple", none, .seq #[] 0, #[]⟩) ::
  (108, flO [.int 67 0, .int 4 0, .ref 116, .int 74 0, .int 4 0, .ref 123, .int 77 0, .int 4 0, .ref 130, .int 80 0, .int 4 0, .ref 137, .int 83 0, .int 4 0, .ref 144, .int 86 0, .int 4 0, .ref 151, .int 89 0, .int 4 0, .ref 158, .int 92 0, .int 4 0, .ref 165, .int 95 0, .int 4 0, .ref 172, .int 98 0, .int 4 0, .ref 179]) ::
  (109, ⟨.type "code", none, .fields #[.str "Config" 337, .str "Config" 338, .str "/claim/cut.py" 339, .int 65 0, .int 0 0, .int 0 0, .int 0 0, .int 0 0, .ref 107, .bool false, .int 181 0, .ref 108, .none, .none, .none, .none, .int 340 0, .int 65 0, .str "/claim/cut.py" 341], #[]⟩) ::
  (110, ⟨.type "frame", none, .plain, #[.some (.ref 109), .some (.ref 3), .some (.ref 106), none, .some (.str "raftkeep.quorum" 287), none, .some (.ref 0)]⟩) ::
  (112, flO []) ::
  (115, fnN (fM 22 0) "Config.__init__") ::
  (119, flO []) ::
  (122, fnN (fM 22 1) "Config.row") ::
  (126, flO []) ::
  (129, fnN (fM 22 2) "Config.copy") ::
  (133, flO []) ::
  (136, fnN (fM 22 3) "Config.joint") ::
  (140, flO []) ::
  (143, fnN (fM 22 4) "Config.all_voters") ::
  (147, flO []) ::
  (150, fnN (fM 22 5) "Config.members") ::
  (154, flO []) ::
  (157, fnN (fM 22 6) "Config.committed") ::
  (161, flO []) ::
  (164, fnN (fM 22 7) "Config.vote") ::
  (168, flO []) ::
  (171, fnN (fM 22 8) "Config.conf_state") ::
  (175, flO []) ::
  (178, fnN (fM 22 9) "Config.check") ::
  (186, ⟨.type "super", none, .fields #[.ref 183, .ref 183, .ref 183], #[]⟩) ::
  (187, ⟨.type "builtin_function_or_method", none, .fields #[.builtin "object.__init_subclass__", .ref 183], #[]⟩) ::
  (189, flO []) ::
  (192, fnN (fT 23) "added") ::
  (196, flO []) ::
  (197, fnN (fT 24) "without") ::
  (201, flO []) ::
  (204, fnN (fT 25) "count_apart") ::
  (207, ⟨.type "tuple", none, .seq #[] 0, #[]⟩) ::
  (208, ⟨.type "builtin_function_or_method", none, .fields #[.builtin "type.__prepare__", .type "type"], #[]⟩) ::
  (209, ⟨.type "dict", none, .dict #[⟨keyHash P "__module__", .str "__module__" 469, .str "raftkeep.quorum" 287⟩, ⟨keyHash P "__qualname__", .str "__qualname__" 471, .str "Changer" 470⟩, ⟨keyHash P "__firstlineno__", .str "__firstlineno__" 473, .int 129 472⟩, ⟨keyHash P "__init__", .str "__init__" 481, .ref 220⟩, ⟨keyHash P "enter_joint", .str "enter_joint" 491, .ref 227⟩, ⟨keyHash P "leave_joint", .str "leave_joint" 499, .ref 234⟩, ⟨keyHash P "simple", .str "simple" 508, .ref 241⟩, ⟨keyHash P "checked_copy", .str "checked_copy" 515, .ref 248⟩, ⟨keyHash P "do_changes", .str "do_changes" 526, .ref 255⟩, ⟨keyHash P "make_voter", .str "make_voter" 535, .ref 262⟩, ⟨keyHash P "make_learner", .str "make_learner" 544, .ref 269⟩, ⟨keyHash P "remove", .str "remove" 553, .ref 276⟩, ⟨keyHash P "__static_attributes__", .str "__static_attributes__" 555, .ref 277⟩] 13, #[]⟩) ::
  (210, ⟨.type "tuple", none, .seq #[] 0, #[]⟩) ::
  (211, flO [.int 131 0, .int 4 0, .ref 219, .int 134 0, .int 4 0, .ref 226, .int 146 0, .int 4 0, .ref 233, .int 159 0, .int 4 0, .ref 240, .int 171 0, .int 4 0, .ref 247, .int 175 0, .int 4 0, .ref 254, .int 190 0, .int 4 0, .ref 261, .int 195 0, .int 4 0, .ref 268, .int 204 0, .int 4 0, .ref 275]) ::
  (212, ⟨.type "code", none, .fields #[.str "Changer" 464, .str "Changer" 465, .str "/claim/cut.py" 466, .int 129 0, .int 0 0, .int 0 0, .int 0 0, .int 0 0, .ref 210, .bool false, .int 181 0, .ref 211, .none, .none, .none, .none, .int 467 0, .int 129 0, .str "/claim/cut.py" 468], #[]⟩) ::
  (213, ⟨.type "frame", none, .plain, #[.some (.ref 212), .some (.ref 3), .some (.ref 209), none, .some (.str "raftkeep.quorum" 287), none, .some (.ref 0)]⟩) ::
  (215, flO []) ::
  (218, fnN (fM 26 0) "Changer.__init__") ::
  (222, flO []) ::
  (225, fnN (fM 26 1) "Changer.enter_joint") ::
  (229, flO []) ::
  (232, fnN (fM 26 2) "Changer.leave_joint") ::
  (236, flO []) ::
  (239, fnN (fM 26 3) "Changer.simple") ::
  (243, flO []) ::
  (246, fnN (fM 26 4) "Changer.checked_copy") ::
  (250, flO []) ::
  (253, fnN (fM 26 5) "Changer.do_changes") ::
  (257, flO []) ::
  (260, fnN (fM 26 6) "Changer.make_voter") ::
  (264, flO []) ::
  (267, fnN (fM 26 7) "Changer.make_learner") ::
  (271, flO []) ::
  (274, fnN (fM 26 8) "Changer.remove") ::
  (282, ⟨.type "super", none, .fields #[.ref 279, .ref 279, .ref 279], #[]⟩) ::
  (283, ⟨.type "builtin_function_or_method", none, .fields #[.builtin "object.__init_subclass__", .ref 279], #[]⟩) ::
  (284, ⟨.type "tuple", none, .seq #[] 0, #[]⟩) ::
  (285, ⟨.type "builtin_function_or_method", none, .fields #[.builtin "type.__prepare__", .type "type"], #[]⟩) ::
  (286, ⟨.type "dict", none, .dict #[⟨keyHash P "__module__", .str "__module__" 572, .str "raftkeep.tracker" 563⟩, ⟨keyHash P "__qualname__", .str "__qualname__" 574, .str "Ballots" 573⟩, ⟨keyHash P "__firstlineno__", .str "__firstlineno__" 576, .int 209 575⟩, ⟨keyHash P "__init__", .str "__init__" 583, .ref 297⟩, ⟨keyHash P "record_vote", .str "record_vote" 592, .ref 304⟩, ⟨keyHash P "reset_votes", .str "reset_votes" 599, .ref 311⟩, ⟨keyHash P "tally", .str "tally" 609, .ref 318⟩, ⟨keyHash P "single", .str "single" 616, .ref 325⟩, ⟨keyHash P "__static_attributes__", .str "__static_attributes__" 619, .ref 326⟩] 9, #[]⟩) ::
  (287, ⟨.type "tuple", none, .seq #[] 0, #[]⟩) ::
  (288, flO [.int 211 0, .int 4 0, .ref 296, .int 215 0, .int 4 0, .ref 303, .int 219 0, .int 4 0, .ref 310, .int 222 0, .int 4 0, .ref 317, .int 234 0, .int 4 0, .ref 324]) ::
  (289, ⟨.type "code", none, .fields #[.str "Ballots" 567, .str "Ballots" 568, .str "/claim/cut.py" 569, .int 209 0, .int 0 0, .int 0 0, .int 0 0, .int 0 0, .ref 287, .bool false, .int 181 0, .ref 288, .none, .none, .none, .none, .int 570 0, .int 209 0, .str "/claim/cut.py" 571], #[]⟩) ::
  (290, ⟨.type "frame", none, .plain, #[.some (.ref 289), .some (.ref 3), .some (.ref 286), none, .some (.str "raftkeep.tracker" 563), none, .some (.ref 0)]⟩) ::
  (292, flO []) ::
  (295, fnN (fM 28 0) "Ballots.__init__") ::
  (299, flO []) ::
  (302, fnN (fM 28 1) "Ballots.record_vote") ::
  (306, flO []) ::
  (309, fnN (fM 28 2) "Ballots.reset_votes") ::
  (313, flO []) ::
  (316, fnN (fM 28 3) "Ballots.tally") ::
  (320, flO []) ::
  (323, fnN (fM 28 4) "Ballots.single") ::
  (331, ⟨.type "super", none, .fields #[.ref 328, .ref 328, .ref 328], #[]⟩) ::
  (332, ⟨.type "builtin_function_or_method", none, .fields #[.builtin "object.__init_subclass__", .ref 328], #[]⟩) ::
  (336, flO []) ::
  (339, fnN (fT 32) "_law_STEPS") ::
  (343, flO []) ::
  (346, fnN (fT 33) "_law_NO_LIMIT") ::
  (350, flO []) ::
  (353, fnN (fT 34) "_law_draw") ::
  (357, flO []) ::
  (358, fnN (fT 35) "_law_side") ::
  (362, flO []) ::
  (365, fnN (fT 36) "_law_settled") ::
  (369, flO []) ::
  (372, fnN (fT 37) "_law_orders") ::
  (376, flO []) ::
  (379, fnN (fT 38) "_law_refused") ::
  (383, flO []) ::
  (384, fnN (fT 39) "_law_ways") ::
  (388, flO []) ::
  (389, fnN (fT 40) "_law_counts") ::
  (393, flO []) ::
  (394, fnN (fT 41) "law") :: []
noncomputable def mrg : Nat → Nat → List (Nat × Obj) → List (Nat × Obj) → List Obj
  | 0, _, _, _ => []
  | n + 1, i, (a, o) :: F, R => match Nat.beq a i with
    | true => o :: mrg n (i + 1) F R
    | false => match R with
      | (_, p) :: R' => p :: mrg n (i + 1) ((a, o) :: F) R'
      | [] => []
  | n + 1, i, [], R => match R with
    | (_, p) :: R' => p :: mrg n (i + 1) [] R'
    | [] => []
noncomputable def bld : Nat → List Obj → BT → BT
  | _, [], T => T
  | i, o :: r, T => bld (i + 1) r (T.ins i o)
/-- the state behind some of the statements -/
noncomputable def stS (n k : Nat) (nm : Str) (t l tk : Nat) (w : World) (os : OsState) : SharedT := { tree := bld 0 (((mrg n 0 (frag w.params) (restO w.params)).set 3 (nsO w.params k nm t)).set 12 (linesO l)) .nil, n := n, life := { }, gens := { toList := [] }, drawn := { }, toks := tk, os := os }
theorem hd_run1 : ∀ w : World, (fun os => segRunT treeTable pE w 11 annH 1 1064 (stB w os) (piecesOf (List.take 19 (List.drop 0 bdH)) envH cdH p0 [topFrame p0])) = fun os => some (.next, stS 83 25 "raftkeep.quorum" 287 21 301 w os, cdH, ⟨30, 0, 34, 49⟩) := by
  intro w
  try rw [PySem.W.Fast.te10110043849684766642]
  try rw [PySem.W.Fast.te14364793385576792824]
  try rw [PySem.W.Fast.te5923862056798008813]
  try rw [PySem.W.Fast.te4187177175401517315]
  try rw [PySem.W.Fast.te14082659384304107361]
  kernel_rfl
theorem hd_run2 : ∀ w : World, (fun os => segRunT treeTable pE w 11 annH 1 616 (stS 83 25 "raftkeep.quorum" 287 21 301 w os) (piecesOf (List.take 4 (List.drop 19 bdH)) envH cdH ⟨30, 0, 34, 49⟩ [topFrame p0])) = fun os => some (.next, stS 188 29 "raftkeep.quorum" 287 33 438 w os, cdH, ⟨65, 0, 115, 80⟩) := by
  intro w
  try rw [PySem.W.Fast.te10110043849684766642]
  try rw [PySem.W.Fast.te14364793385576792824]
  try rw [PySem.W.Fast.te5923862056798008813]
  try rw [PySem.W.Fast.te4187177175401517315]
  try rw [PySem.W.Fast.te14082659384304107361]
  kernel_rfl
theorem hd_run3 : ∀ w : World, (fun os => segRunT treeTable pE w 11 annH 1 578 (stS 188 29 "raftkeep.quorum" 287 33 438 w os) (piecesOf (List.take 4 (List.drop 23 bdH)) envH cdH ⟨65, 0, 115, 80⟩ [topFrame p0])) = fun os => some (.next, stS 284 33 "raftkeep.quorum" 287 45 563 w os, cdH, ⟨129, 0, 207, 61⟩) := by
  intro w
  try rw [PySem.W.Fast.te10110043849684766642]
  try rw [PySem.W.Fast.te14364793385576792824]
  try rw [PySem.W.Fast.te5923862056798008813]
  try rw [PySem.W.Fast.te4187177175401517315]
  try rw [PySem.W.Fast.te14082659384304107361]
  kernel_rfl
theorem hd_run4 : ∀ w : World, (fun os => segRunT treeTable pE w 11 annH 1 682 (stS 284 33 "raftkeep.quorum" 287 45 563 w os) (piecesOf (List.take 15 (List.drop 27 bdH)) envH cdH ⟨129, 0, 207, 61⟩ [topFrame p0])) = fun os => some (.next, stS 397 46 "law_no0410_01" 627 78 708 w os, cdH, ⟨370, 0, 381, 89⟩) := by
  intro w
  try rw [PySem.W.Fast.te10110043849684766642]
  try rw [PySem.W.Fast.te14364793385576792824]
  try rw [PySem.W.Fast.te5923862056798008813]
  try rw [PySem.W.Fast.te4187177175401517315]
  try rw [PySem.W.Fast.te14082659384304107361]
  kernel_rfl
theorem hd_end : ∀ w : World, (fun os => topRun treeTable pE w 11 annH 2 (stS 397 46 "law_no0410_01" 627 78 708 w os).abs ⟨doneF .next, cdH, ⟨370, 0, 381, 89⟩, [topFrame p0]⟩) = fun os => some (stS 397 46 "law_no0410_01" 627 78 708 w os).abs := by
  intro w; kernel_rfl
theorem hd_look1 : ∀ w : World, (fun os => staticsOk (importedModules pE.main.body) (boot_heap w.params) (stS 397 46 "law_no0410_01" 627 78 708 w os).abs.heap && namesBound pE (stS 397 46 "law_no0410_01" 627 78 708 w os).abs.heap && gensDone (stS 397 46 "law_no0410_01" 627 78 708 w os).abs && laidKept (boot_heap w.params) (stS 397 46 "law_no0410_01" 627 78 708 w os).abs.heap) = fun _ => true := by
  intro w
  try rw [PySem.W.Fast.te10110043849684766642]
  try rw [PySem.W.Fast.te14364793385576792824]
  try rw [PySem.W.Fast.te5923862056798008813]
  try rw [PySem.W.Fast.te4187177175401517315]
  try rw [PySem.W.Fast.te14082659384304107361]
  kernel_rfl
theorem hd_see1 : ∀ w : World, (fun os => seen ((recsOf view).map (·.name)) (ownsOf view) [] { (stS 397 46 "law_no0410_01" 627 78 708 w os).abs with gens := #[] }) = fun _ => expectedOf view := by
  intro w
  try rw [PySem.W.Fast.te10110043849684766642]
  try rw [PySem.W.Fast.te14364793385576792824]
  try rw [PySem.W.Fast.te5923862056798008813]
  try rw [PySem.W.Fast.te4187177175401517315]
  try rw [PySem.W.Fast.te14082659384304107361]
  kernel_rfl
theorem hd_see2 : ∀ w : World, (fun os => (stS 397 46 "law_no0410_01" 627 78 708 w os).abs.heap.bltView) = fun _ => bltViewBooted := by
  intro w
  try rw [PySem.W.Fast.te10110043849684766642]
  try rw [PySem.W.Fast.te14364793385576792824]
  try rw [PySem.W.Fast.te5923862056798008813]
  try rw [PySem.W.Fast.te4187177175401517315]
  try rw [PySem.W.Fast.te14082659384304107361]
  kernel_rfl
theorem hd_see3 : ∀ w : World, (fun os => (stS 397 46 "law_no0410_01" 627 78 708 w os).abs.heap.keysOk (looseW view lsH) ((recsOf view).map (·.name)) ((litsOf view).map (·.1)) ((clssOf view (looseW view lsH)).map (·.name)) && (stS 397 46 "law_no0410_01" 627 78 708 w os).abs.heap.accountedOkI (importedModules pE.main.body) && (stS 397 46 "law_no0410_01" 627 78 708 w os).abs.heap.isNs mainGlobals && (stS 397 46 "law_no0410_01" 627 78 708 w os).abs.heap.isNs builtinsNs && tablesOk view (stS 397 46 "law_no0410_01" 627 78 708 w os).abs.heap && xtH (stS 397 46 "law_no0410_01" 627 78 708 w os).abs && (if true then (stS 397 46 "law_no0410_01" 627 78 708 w os).abs.gens.size == 0 else !leftWithCleanup (stS 397 46 "law_no0410_01" 627 78 708 w os).abs.gens)) = fun _ => true := by
  intro w
  try rw [PySem.W.Fast.te10110043849684766642]
  try rw [PySem.W.Fast.te14364793385576792824]
  try rw [PySem.W.Fast.te5923862056798008813]
  try rw [PySem.W.Fast.te4187177175401517315]
  try rw [PySem.W.Fast.te14082659384304107361]
  kernel_rfl
theorem hd_see4 : ∀ w : World, (fun os => tabsOk view (stS 397 46 "law_no0410_01" 627 78 708 w os).abs) = fun _ => true := by
  intro w
  try rw [PySem.W.Fast.te10110043849684766642]
  try rw [PySem.W.Fast.te14364793385576792824]
  try rw [PySem.W.Fast.te5923862056798008813]
  try rw [PySem.W.Fast.te4187177175401517315]
  try rw [PySem.W.Fast.te14082659384304107361]
  kernel_rfl
theorem hd_see5 : ∀ w : World, (fun os => pinSeenD view (drecsOf view) (stS 397 46 "law_no0410_01" 627 78 708 w os).abs) = fun _ => pinGoodD (drecsOf view) := by
  intro w
  try rw [PySem.W.Fast.te10110043849684766642]
  try rw [PySem.W.Fast.te14364793385576792824]
  try rw [PySem.W.Fast.te5923862056798008813]
  try rw [PySem.W.Fast.te4187177175401517315]
  try rw [PySem.W.Fast.te14082659384304107361]
  kernel_rfl
theorem hd_see6 : ∀ w : World, (fun os => plainSeenE view (looseW view lsH) (stS 397 46 "law_no0410_01" 627 78 708 w os).abs) = fun _ => plainGoodE view (looseW view lsH) := by
  intro w
  try rw [PySem.W.Fast.te10110043849684766642]
  try rw [PySem.W.Fast.te14364793385576792824]
  try rw [PySem.W.Fast.te5923862056798008813]
  try rw [PySem.W.Fast.te4187177175401517315]
  try rw [PySem.W.Fast.te14082659384304107361]
  kernel_rfl
theorem hd_see7 : ∀ w : World, (fun os => plainSeenD view lsH (stS 397 46 "law_no0410_01" 627 78 708 w os).abs) = fun _ => plainGoodD view lsH := by
  intro w
  try rw [PySem.W.Fast.te10110043849684766642]
  try rw [PySem.W.Fast.te14364793385576792824]
  try rw [PySem.W.Fast.te5923862056798008813]
  try rw [PySem.W.Fast.te4187177175401517315]
  try rw [PySem.W.Fast.te14082659384304107361]
  kernel_rfl
theorem hd_see8 : ∀ w : World, (fun os => wideSeen view (stS 397 46 "law_no0410_01" 627 78 708 w os).abs) = fun _ => wideGood view := by
  intro w
  try rw [PySem.W.Fast.te10110043849684766642]
  try rw [PySem.W.Fast.te14364793385576792824]
  try rw [PySem.W.Fast.te5923862056798008813]
  try rw [PySem.W.Fast.te4187177175401517315]
  try rw [PySem.W.Fast.te14082659384304107361]
  kernel_rfl
theorem hd_see9 : ∀ w : World, (fun os => clsSeenW view lsH (stS 397 46 "law_no0410_01" 627 78 708 w os).abs) = fun _ => clsGoodW view lsH := by
  intro w
  try rw [PySem.W.Fast.te10110043849684766642]
  try rw [PySem.W.Fast.te14364793385576792824]
  try rw [PySem.W.Fast.te5923862056798008813]
  try rw [PySem.W.Fast.te4187177175401517315]
  try rw [PySem.W.Fast.te14082659384304107361]
  kernel_rfl
theorem prod9 {α β γ δ ε ζ η θ ι : Type} {a a' : α} {b b' : β} {c c' : γ} {d d' : δ} {e e' : ε} {f f' : ζ} {g g' : η} {h h' : θ} {i i' : ι} (h1 : a = a') (h2 : b = b') (h3 : c = c') (h4 : d = d') (h5 : e = e') (h6 : f = f') (h7 : g = g') (h8 : h = h') (h9 : i = i') :
    (a, b, c, d, e, f, g, h, i) = (a', b', c', d', e', f', g', h', i') := by subst h1 h2 h3 h4 h5 h6 h7 h8 h9; rfl
theorem hd_look2 (w : World) (os : OsState) : openSeen view lsH (importedModules pE.main.body) xtH true (stS 397 46 "law_no0410_01" 627 78 708 w os).abs = openGood view lsH :=
  prod9 (congrFun (hd_see1 w) os) (congrFun (hd_see2 w) os) (congrFun (hd_see3 w) os) (congrFun (hd_see4 w) os) (congrFun (hd_see5 w) os) (congrFun (hd_see6 w) os) (congrFun (hd_see7 w) os) (congrFun (hd_see8 w) os) (congrFun (hd_see9 w) os)
theorem hd_look3 : ∀ w : World, (fun os => asF.map (stS 397 46 "law_no0410_01" 627 78 708 w os).abs.heap.get?) = fun _ => (frag w.params).map fun p => some p.2 := by
  intro w; kernel_rfl
theorem left_run {p q : Program} {loose : List Str} {Xt : Shared → Bool} {α : Type} {Yf : Shared → α} {Ya : World → α} {N : Nat} {g0 : Bool} {H₀ : Params → Heap} {gs₀ : Array GenState} {d₀ : Drawn} {k₀ m₀ : Nat} {ann : Option Value} {M : Nat}
    (open_ : ∀ w : World, (fencedOpening treeTable p w N).map (fun s => (s.heap, s.gens, s.drawn, s.toks)) = some (H₀ w.params, gs₀, d₀, k₀))
    (size : ∀ w : World, ((H₀ w.params).isNs mainGlobals && gs₀.size == 0, (H₀ w.params).objs.size, (H₀ w.params).nsMap mainGlobals "__annotations__") = (true, m₀, ann)) (le : Nat.ble M N = true)
    (run : ∀ (w : World) (os : OsState), ∃ s₁, topRun treeTable p w m₀ ann M ⟨H₀ w.params, gs₀, d₀, k₀, os⟩ (topStub p) = some s₁ ∧
      (staticsOk (importedModules p.main.body) (H₀ w.params) s₁.heap && namesBound p s₁.heap && gensDone s₁ && laidKept (H₀ w.params) s₁.heap) = true ∧ openSeen q loose (importedModules p.main.body) Xt g0 s₁ = openGood q loose ∧ Yf s₁ = Ya w) :
    LeftO p q loose Xt Yf Ya N g0 := fun w => by
  obtain ⟨⟨h, gs, d, k, os⟩, e, e'⟩ := Option.map_eq_some_iff.mp (open_ w)
  obtain ⟨e1, e2, e3, e4⟩ : h = H₀ w.params ∧ gs = gs₀ ∧ d = d₀ ∧ k = k₀ := by simpa using e'
  subst e1 e2 e3 e4
  obtain ⟨z1, z2, z3⟩ : _ ∧ _ ∧ _ := by simpa only [Prod.mk.injEq] using size w
  obtain ⟨s₁, hr, l1, l2, l3⟩ := run w os
  have r := topRun_mono (N - M) _ _ _ _ hr
  rw [show M + (N - M) = N by have := Nat.le_of_ble_eq_true le; omega] at r
  have t : topFrom treeTable p w N ⟨H₀ w.params, gs, d, k, os⟩ = some s₁ := by
    unfold topFrom
    dsimp only
    rw [z1, z2, z3, r]
    show (match staticsOk (importedModules p.main.body) (H₀ w.params) s₁.heap && namesBound p s₁.heap && gensDone s₁ && laidKept (H₀ w.params) s₁.heap with | true => _ | false => _) = _
    rw [l1]
  unfold openEnds
  rw [e]
  show (topFrom treeTable p w N _).map _ = _
  rw [t]
  exact congrArg some (Prod.ext l2 l3)
theorem piece_cut {tb : String → Option Builtin} {p : Program} {w : World} {n₀ : Nat} {ann : Option Value} {env : Env} {q : Pos} (k : Nat) {n N : Nat} {s s' r : Shared} {l : List Stmt} {c : Code} {pos p' : Pos} (h : segRun tb p w n₀ ann 1 n s (piecesOf (l.take k) env c pos [topFrame q]) = some (.next, s', c, p'))
    (h2 : topRun tb p w n₀ ann N s' (restOf (l.drop k) env c p' [topFrame q]) = some r) : topRun tb p w n₀ ann (n + N) s (restOf l env c pos [topFrame q]) = some r := by
  have := piece_app h h2
  rwa [List.take_append_drop] at this
theorem hd_left : LeftO pE view lsH xtH hkH.obs hkH.val 5968 := left_run (M := 12 + (1 + (1064 + (616 + (578 + (682 + 2)))))) hd_open hd_size rfl fun w os => by
  have e4 := piece_cut 15 (l := List.drop 27 bdH) (segRun_of (congrFun (hd_run4 w) os)) (piece_nil (congrFun (hd_end w) os))
  have e3 := piece_cut 4 (l := List.drop 23 bdH) (segRun_of (congrFun (hd_run3 w) os)) e4
  have e2 := piece_cut 4 (l := List.drop 19 bdH) (segRun_of (congrFun (hd_run2 w) os)) e3
  have e1 := piece_cut 19 (l := List.drop 0 bdH) (segRun_of (congrFun (hd_run1 w) os)) e2
  have k2 := piece_block (congrFun (hd_block w) os) e1
  exact ⟨_, go_top (congrFun (hd_pre w) os) k2, congrFun (hd_look1 w) os, hd_look2 w os, congrFun (hd_look3 w) os⟩
theorem both {a b : Bool} (h1 : a = true) (h2 : b = true) : (a && b) = true := by rw [h1, h2]; rfl
theorem hd_said : OpenLaw.wellSaid PySem.Challenge.rw_no0410_01 = true := by
  rw [PySem.W.Fast.te9446332074065402090]
  with_reducible unfold PySem.W.Fast.tw9446332074065402090
  with_reducible unfold PySem.W.Fast.tw17960256430627541270
  with_reducible unfold PySem.W.Fast.tw2436336058641802641
  with_reducible unfold PySem.W.Fast.tw12908688711261696721
  repeat' (with_reducible refine both ?_ ?_)
  all_goals decide +kernel
theorem hd_ok : (chainsOk view && opensWell PySem.Challenge.rw_no0410_01.row.prog && (frees PySem.Challenge.rw_no0410_01.row.toRowW && PySem.Challenge.rw_no0410_01.row.within.isEmpty)) = true := by kernel_rfl
theorem hd_in {d : DefRec} {kwd : List (Str × Expr)} (hdef : defOf view PySem.Challenge.rw_no0410_01.row.name = some (d, kwd)) (hp : PySem.Challenge.rw_no0410_01.row.prog.theDef PySem.Challenge.rw_no0410_01.row.name = some (d.params, d.body, d.scope)) (hk : kwWritten? d.params.kwonlyargs d.params.kw_defaults = some kwd)
    (hw : RowW.promised PySem.Challenge.rw_no0410_01.row.toRowW) (hc : WalkO view lsH (XL view []) (kHook frag asF (fun _ => by kernel_rfl)).says PySem.Challenge.rw_no0410_01.row.toRowW d kwd fun f vs => PySem.call f vs) : PySem.Challenge.rw_no0410_01.Holds :=
  holds_law hd_said fun said => holds_open (q := view) (loose := lsH) (Xt := xtH) (XP := XL view []) (Yf := hkH.obs) (Ya := hkH.val) (YP := hkH.says) (N := 5968) hd_left hkH.of hkH.keeps (fun s e => xl_of s (Bool.and_eq_true_iff.mp e).1) XL.keeps hdef hp hk (fun s e => recFacts_of (Bool.and_eq_true_iff.mp e).2) (by rfl) said hd_ok ⟨rfl, rfl, rfl, rfl, rfl, by decide +kernel⟩ hw hc
local macro_rules | `(tactic| walk_at $s:str) => `(tactic| k_extra $s)
local macro_rules | `(tactic| k_mem) => `(tactic| k_extra "mem")
local macro_rules | `(tactic| k_room) => `(tactic| k_extra "lib k_room")
local macro_rules | `(tactic| passes_own) => `(tactic| k_extra "lib passes_own")
local macro_rules | `(tactic| k_ne) => `(tactic| k_extra "lib k_ne")
local macro_rules | `(tactic| k_all) => `(tactic| k_extra "lib k_all")
local macro_rules | `(tactic| kmk_sum) => `(tactic| k_extra "lib kmk_sum")
local macro_rules | `(tactic| k_in) => `(tactic| k_extra "lib k_in")
/-- the four members of the law -/
noncomputable def IDs : List Int := [2, 3, 5, 9]
/-- the members that a test holds of, rising -/
noncomputable def ids (f : Int → Bool) : List Int := IDs.filter f
theorem mem_ids {f : Int → Bool} {x : Int} : x ∈ ids f ↔ x ∈ IDs ∧ f x = true := List.mem_filter
theorem ids_le (f : Int → Bool) : (ids f).length ≤ 4 := List.length_filter_le _ _
theorem ids_sorted (f : Int → Bool) : (ids f).Pairwise (· < ·) := List.Pairwise.filter _ (by decide)
theorem ids_nodup (f : Int → Bool) : (ids f).Nodup := (ids_sorted f).imp (fun h => by omega)
theorem ss_ext : ∀ {a b : List Int}, a.Pairwise (· < ·) → b.Pairwise (· < ·) → (∀ x, x ∈ a ↔ x ∈ b) → a = b
  | [], [], _, _, _ => rfl
  | [], y :: _, _, _, h => absurd ((h y).mpr (.head _)) (by simp)
  | x :: _, [], _, _, h => absurd ((h x).mp (.head _)) (by simp)
  | x :: a, y :: b, ha, hb, h => by
    rw [List.pairwise_cons] at ha hb
    have e : x = y := by
      have h1 := (h x).mp (.head _)
      have h2 := (h y).mpr (.head _)
      rcases List.mem_cons.mp h1 with e | e
      · exact e
      · rcases List.mem_cons.mp h2 with e2 | e2
        · exact e2.symm
        · have := ha.1 y e2; have := hb.1 x e; omega
    subst e
    have : a = b := ss_ext ha.2 hb.2 fun z => by
      constructor
      · intro hz
        rcases List.mem_cons.mp ((h z).mp (.tail _ hz)) with e | e
        · have := ha.1 z hz; omega
        · exact e
      · intro hz
        rcases List.mem_cons.mp ((h z).mpr (.tail _ hz)) with e | e
        · have := hb.1 z hz; omega
        · exact e
    rw [this]
theorem ids_ext {f g : Int → Bool} (h : ∀ x ∈ IDs, f x = g x) : ids f = ids g := List.filter_congr h
theorem ids_of_mem {ns : List Int} (h : ns.Pairwise (· < ·)) (hi : ∀ x ∈ ns, x ∈ IDs) {f : Int → Bool} (hf : ∀ x ∈ IDs, f x = true ↔ x ∈ ns) : ns = ids f :=
  ss_ext h (ids_sorted f) fun x => by
    rw [mem_ids]
    exact ⟨fun hx => ⟨hi x hx, (hf x (hi x hx)).mpr hx⟩, fun hx => (hf x hx.1).mp hx.2⟩
/-- a rising list without its doubles -/
noncomputable def ddS (out : List Int) (x : Int) : List Int := if out = [] ∨ out.getLast? ≠ some x then out ++ [x] else out
noncomputable def dd (l : List Int) : List Int := l.foldl ddS []
theorem dd_snoc (pre : List Int) (x : Int) : dd (pre ++ [x]) = if dd pre = [] ∨ (dd pre).getLast? ≠ some x then dd pre ++ [x] else dd pre := by
  unfold dd
  rw [List.foldl_append]
  rfl
theorem dd_keep {pre out : List Int} {x : Int} (e : out = dd pre) (h : 0 < out.length) (q : out.getD (-1 + (out.length : Int)).toNat 0 = x) : out = dd (pre ++ [x]) := by
  rw [dd_snoc, ← e, if_neg]
  intro z
  rcases z with z | z
  · rw [z] at h; exact absurd h (Nat.lt_irrefl _)
  · apply z
    have e1 : (-1 + (out.length : Int)).toNat = out.length - 1 := by omega
    rw [e1] at q
    rw [List.getLast?_eq_getElem?, ← q, List.getD_eq_getElem?_getD]
    have : out.length - 1 < out.length := by omega
    simp [this]
theorem dd_push {pre out : List Int} {x : Int} (e : out = dd pre) (h : ¬ 0 < out.length) : out ++ [x] = dd (pre ++ [x]) := by
  have : out = [] := List.eq_nil_of_length_eq_zero (by omega)
  rw [dd_snoc, ← e, if_pos (.inl this)]
theorem dd_push2 {pre out : List Int} {x : Int} (e : out = dd pre) (_h : 0 < out.length) (q : out.getD (-1 + (out.length : Int)).toNat 0 ≠ x) : out ++ [x] = dd (pre ++ [x]) := by
  rw [dd_snoc, ← e, if_pos]
  right
  intro z
  apply q
  have e1 : (-1 + (out.length : Int)).toNat = out.length - 1 := by omega
  rw [e1]
  rw [List.getLast?_eq_getElem?] at z
  rw [List.getD_eq_getElem?_getD, z]
  rfl
theorem dd_fold : ∀ (l out : List Int), out.Pairwise (· < ·) → l.Pairwise (· ≤ ·) → (∀ x ∈ out, ∀ y ∈ l, x ≤ y) → (l.foldl ddS out).Pairwise (· < ·) ∧ ∀ x, x ∈ l.foldl ddS out ↔ x ∈ out ∨ x ∈ l
  | [], out, ho, _, _ => ⟨ho, fun x => by simp⟩
  | y :: l, out, ho, hl, h => by
    rw [List.pairwise_cons] at hl
    rw [List.foldl_cons]
    by_cases c : out = [] ∨ out.getLast? ≠ some y
    · have e : ddS out y = out ++ [y] := if_pos c
      rw [e]
      have hlt : ∀ x ∈ out, x < y := by
        intro x hx
        rcases c with c | c
        · rw [c] at hx; cases hx
        · have hle := h x hx y (.head _)
          rcases Int.lt_or_eq_of_le hle with q | q
          · exact q
          · exfalso
            apply c
            have hne : out ≠ [] := List.ne_nil_of_mem hx
            have hm := List.getLast_mem hne
            have h2 := h _ hm y (.head _)
            rw [List.getLast?_eq_some_getLast hne]
            congr 1
            subst q
            by_cases z : out.getLast hne = x
            · exact z
            · exfalso
              have h3 : x ≤ out.getLast hne := by
                obtain ⟨i, hi, rfl⟩ := List.getElem_of_mem hx
                rw [List.getLast_eq_getElem]
                by_cases hi2 : i = out.length - 1
                · subst hi2; exact Int.le_refl _
                · exact Int.le_of_lt (List.pairwise_iff_getElem.mp ho i (out.length - 1) hi (by omega) (by omega))
              omega
      obtain ⟨r1, r2⟩ := dd_fold l (out ++ [y]) (by
        rw [List.pairwise_append]
        refine ⟨ho, by simp, fun a ha b hb => ?_⟩
        rw [List.mem_singleton.mp hb]
        exact hlt a ha) hl.2 (fun x hx z hz => by
          rcases List.mem_append.mp hx with hx | hx
          · exact h x hx z (.tail _ hz)
          · rw [List.mem_singleton.mp hx]; exact hl.1 z hz)
      exact ⟨r1, fun x => by rw [r2, List.mem_append, List.mem_singleton, List.mem_cons, or_assoc]⟩
    · have e : ddS out y = out := if_neg c
      rw [e]
      obtain ⟨r1, r2⟩ := dd_fold l out ho hl.2 (fun x hx z hz => h x hx z (.tail _ hz))
      refine ⟨r1, fun x => ?_⟩
      rw [r2]
      simp only [not_or, Decidable.not_not] at c
      have hy : y ∈ out := List.mem_of_getLast? c.2
      constructor
      · intro z; rcases z with z | z
        · exact .inl z
        · exact .inr (.tail _ z)
      · intro z; rcases z with z | z
        · exact .inl z
        · rcases List.mem_cons.mp z with z | z
          · rw [z]; exact .inl hy
          · exact .inr z
/-- what rising() hands back of a list of members -/
theorem dd_ids {ns n1 : List Int} (hp : n1.Perm ns) (hs : n1.Pairwise (· ≤ ·)) (hi : ∀ x ∈ ns, x ∈ IDs) : dd n1 = ids (fun i => decide (i ∈ ns)) := by
  obtain ⟨r1, r2⟩ := dd_fold n1 [] .nil hs (fun _ h => nomatch h)
  refine ids_of_mem r1 (fun x hx => ?_) fun x _ => ?_
  · rcases (r2 x).mp hx with z | z
    · cases z
    · exact hi x (hp.mem_iff.mp z)
  · rw [decide_eq_true_eq]
    show _ ↔ x ∈ dd n1
    unfold dd
    rw [r2 x]
    constructor
    · intro z; exact .inr (hp.mem_iff.mpr z)
    · intro z; rcases z with z | z
      · cases z
      · exact hp.mem_iff.mp z
theorem ids_mem (f : Int → Bool) : ids (fun i => decide (i ∈ ids f)) = ids f := ids_ext fun x hx => by simp [mem_ids, hx]
theorem ids_app2 (f g : Int → Bool) : ids (fun i => decide (i ∈ ids f ++ ids g)) = ids (fun i => f i || g i) := ids_ext fun x hx => by simp [mem_ids, hx]
theorem ids_app3 (f g h : Int → Bool) : ids (fun i => decide (i ∈ ids f ++ ids g ++ ids h)) = ids (fun i => f i || g i || h i) := ids_ext fun x hx => by simp [mem_ids, hx, Bool.or_assoc]
theorem ids_add (f : Int → Bool) (k : Int) : ids (fun i => decide (i ∈ ids f ++ [k])) = ids (fun i => f i || i == k) := ids_ext fun x hx => by
  simp only [mem_ids, hx, true_and, List.mem_append, List.mem_cons, List.not_mem_nil, or_false]
  by_cases h : x = k <;> simp [h]
theorem ids_without (f : Int → Bool) (k : Int) : (ids f).filter (· != k) = ids (fun i => f i && i != k) := by
  unfold ids
  rw [List.filter_filter]
  exact List.filter_congr fun x _ => Bool.and_comm _ _
theorem ids_none : ids (fun _ => false) = [] := by decide
theorem ids_nil : ids (fun i => decide (i ∈ ([] : List Int))) = ids (fun _ => false) := by simp
/-- a configuration as four tests and a flag -/
structure Cf where
  v : Int → Bool
  o : Int → Bool
  l : Int → Bool
  n : Int → Bool
  au : Bool
theorem len_app_le {a b : List Int} {n m : Nat} (h1 : a.length ≤ n) (h2 : b.length ≤ m) : (a ++ b).length ≤ n + m := by
  rw [List.length_append]
  exact Nat.add_le_add h1 h2
theorem len_cons_le {a : List Int} {x : Int} {n : Nat} (h1 : a.length ≤ n) : (x :: a).length ≤ n + 1 := Nat.succ_le_succ h1
theorem len_nil_le : ([] : List Int).length ≤ 0 := Nat.le_refl 0
theorem ids_fit (f : Int → Bool) : ((ids f).length : Int) < 2 ^ 63 := by
  have := ids_le f
  omega
theorem in_ids (f : Int → Bool) : ∀ x ∈ ids f, x ∈ IDs := fun _ h => (mem_ids.mp h).1
theorem in_app {a b : List Int} (h1 : ∀ x ∈ a, x ∈ IDs) (h2 : ∀ x ∈ b, x ∈ IDs) : ∀ x ∈ a ++ b, x ∈ IDs := fun x h => (List.mem_append.mp h).elim (h1 x) (h2 x)
theorem in_cons {a : List Int} {y : Int} (h1 : y ∈ IDs) (h2 : ∀ x ∈ a, x ∈ IDs) : ∀ x ∈ y :: a, x ∈ IDs := List.forall_mem_cons.mpr ⟨h1, h2⟩
theorem in_nil : ∀ x ∈ ([] : List Int), x ∈ IDs := List.forall_mem_nil _
/-- a fact of a branch of the walk: which of the words serve -/
structure Flag (s : String) : Type
/-- the walk's short words for statements and names are on -/
structure NextOn : Type
/-- a list's members one by one, said shortly -/
theorem ac {α : Type} {p : α → Prop} {a : α} {l : List α} (h : p a) (t : ∀ x ∈ l, p x) : ∀ x ∈ a :: l, p x := List.forall_mem_cons.mpr ⟨h, t⟩
theorem an {α : Type} {p : α → Prop} : ∀ x ∈ ([] : List α), p x := fun _ h => nomatch h
theorem sc {α : Type} {a : α} {l led : List α} (h : a ∈ led) (t : ∀ x ∈ l, x ∈ led) : ∀ x ∈ a :: l, x ∈ led := List.forall_mem_cons.mpr ⟨h, t⟩
theorem sn {α : Type} {led : List α} : ∀ x ∈ ([] : List α), x ∈ led := fun _ h => nomatch h
theorem nc {a : Addr × Obj} {l : List (Addr × Obj)} {r : Addr} (h : a.1 ≠ r) (t : ∀ x ∈ l, x.1 ≠ r) : ∀ x ∈ a :: l, x.1 ≠ r := List.forall_mem_cons.mpr ⟨h, t⟩
theorem nn {r : Addr} : ∀ x ∈ ([] : List (Addr × Obj)), x.1 ≠ r := fun _ h => nomatch h
theorem kl {q : Addr × Obj} {l o0 n0 : List (Addr × Obj)} (h : q ∈ o0) (t : ∀ q ∈ l, q ∈ o0 ∨ ∀ p ∈ n0, p.1 ≠ q.1) : ∀ x ∈ q :: l, x ∈ o0 ∨ ∀ p ∈ n0, p.1 ≠ x.1 := List.forall_mem_cons.mpr ⟨.inl h, t⟩
theorem kr {q : Addr × Obj} {l o0 n0 : List (Addr × Obj)} (h : ∀ p ∈ n0, p.1 ≠ q.1) (t : ∀ q ∈ l, q ∈ o0 ∨ ∀ p ∈ n0, p.1 ≠ q.1) : ∀ x ∈ q :: l, x ∈ o0 ∨ ∀ p ∈ n0, p.1 ≠ x.1 := List.forall_mem_cons.mpr ⟨.inr h, t⟩
theorem kn {o0 n0 : List (Addr × Obj)} : ∀ x ∈ ([] : List (Addr × Obj)), x ∈ o0 ∨ ∀ p ∈ n0, p.1 ≠ x.1 := fun _ h => nomatch h
/-- places in a ledger, said shortly -/
theorem mem0 {α : Type} {x : α} {l : List α} : x ∈ x :: l := .head _
theorem mem1 {α : Type} {a0 x : α} {l : List α} : x ∈ a0 :: x :: l := .tail _ mem0
theorem mem2 {α : Type} {a0 a1 x : α} {l : List α} : x ∈ a0 :: a1 :: x :: l := .tail _ mem1
theorem mem3 {α : Type} {a0 a1 a2 x : α} {l : List α} : x ∈ a0 :: a1 :: a2 :: x :: l := .tail _ mem2
theorem mem4 {α : Type} {a0 a1 a2 a3 x : α} {l : List α} : x ∈ a0 :: a1 :: a2 :: a3 :: x :: l := .tail _ mem3
theorem mem5 {α : Type} {a0 a1 a2 a3 a4 x : α} {l : List α} : x ∈ a0 :: a1 :: a2 :: a3 :: a4 :: x :: l := .tail _ mem4
theorem mem6 {α : Type} {a0 a1 a2 a3 a4 a5 x : α} {l : List α} : x ∈ a0 :: a1 :: a2 :: a3 :: a4 :: a5 :: x :: l := .tail _ mem5
theorem mem7 {α : Type} {a0 a1 a2 a3 a4 a5 a6 x : α} {l : List α} : x ∈ a0 :: a1 :: a2 :: a3 :: a4 :: a5 :: a6 :: x :: l := .tail _ mem6
theorem mem8 {α : Type} {a0 a1 a2 a3 a4 a5 a6 a7 x : α} {l : List α} (h : x ∈ l) : x ∈ a0 :: a1 :: a2 :: a3 :: a4 :: a5 :: a6 :: a7 :: l := .tail _ (.tail _ (.tail _ (.tail _ (.tail _ (.tail _ (.tail _ (.tail _ h)))))))
theorem lm0 {X : List (Addr × Obj)} : ∀ p ∈ X, p ∈ X := fun _ h => h
theorem lm1 {a0 : Addr × Obj} {X : List (Addr × Obj)} : ∀ p ∈ X, p ∈ a0 :: X := fun p h => .tail _ (lm0 p h)
theorem lm2 {a0 a1 : Addr × Obj} {X : List (Addr × Obj)} : ∀ p ∈ X, p ∈ a0 :: a1 :: X := fun p h => .tail _ (lm1 p h)
theorem lm3 {a0 a1 a2 : Addr × Obj} {X : List (Addr × Obj)} : ∀ p ∈ X, p ∈ a0 :: a1 :: a2 :: X := fun p h => .tail _ (lm2 p h)
theorem lm4 {a0 a1 a2 a3 : Addr × Obj} {X : List (Addr × Obj)} : ∀ p ∈ X, p ∈ a0 :: a1 :: a2 :: a3 :: X := fun p h => .tail _ (lm3 p h)
theorem lm5 {a0 a1 a2 a3 a4 : Addr × Obj} {X : List (Addr × Obj)} : ∀ p ∈ X, p ∈ a0 :: a1 :: a2 :: a3 :: a4 :: X := fun p h => .tail _ (lm4 p h)
theorem lm6 {a0 a1 a2 a3 a4 a5 : Addr × Obj} {X : List (Addr × Obj)} : ∀ p ∈ X, p ∈ a0 :: a1 :: a2 :: a3 :: a4 :: a5 :: X := fun p h => .tail _ (lm5 p h)
theorem lm7 {a0 a1 a2 a3 a4 a5 a6 : Addr × Obj} {X : List (Addr × Obj)} : ∀ p ∈ X, p ∈ a0 :: a1 :: a2 :: a3 :: a4 :: a5 :: a6 :: X := fun p h => .tail _ (lm6 p h)
theorem lm8 {a0 a1 a2 a3 a4 a5 a6 a7 : Addr × Obj} {X l : List (Addr × Obj)} (h : ∀ p ∈ X, p ∈ l) : ∀ p ∈ X, p ∈ a0 :: a1 :: a2 :: a3 :: a4 :: a5 :: a6 :: a7 :: l := fun p hp => mem8 (h p hp)
/-- the part of a ledger that is not looked into -/
@[irreducible] noncomputable def Old (l : List (Addr × Obj)) : List (Addr × Obj) := l
theorem old_eq (l : List (Addr × Obj)) : Old l = l := by unfold Old; rfl
theorem old_mem {l : List (Addr × Obj)} {x : Addr × Obj} (h : x ∈ l) : x ∈ Old l := by rw [old_eq]; exact h
theorem old_news {h₀ h : Heap} {L : Addr} {l : List (Addr × Obj)} (N : News h₀ L h l) : News h₀ L h (Old l) := by rw [old_eq]; exact N
theorem mem_fst {a : Addr} {o : Obj} {l : List (Addr × Obj)} (h : (a, o) ∈ l) : a ∈ l.map (·.1) := List.mem_map_of_mem h
theorem old0 {x : Addr × Obj} {l : List (Addr × Obj)} (h : x ∈ Old l) : x ∈ Old l := h
theorem old1 {a0 x : Addr × Obj} {l : List (Addr × Obj)} (h : x ∈ Old l) : x ∈ a0 :: Old l := .tail _ h
theorem old2 {a0 a1 x : Addr × Obj} {l : List (Addr × Obj)} (h : x ∈ Old l) : x ∈ a0 :: a1 :: Old l := .tail _ (.tail _ h)
theorem old3 {a0 a1 a2 x : Addr × Obj} {l : List (Addr × Obj)} (h : x ∈ Old l) : x ∈ a0 :: a1 :: a2 :: Old l := .tail _ (.tail _ (.tail _ h))
theorem old4 {a0 a1 a2 a3 x : Addr × Obj} {l : List (Addr × Obj)} (h : x ∈ Old l) : x ∈ a0 :: a1 :: a2 :: a3 :: Old l := .tail _ (.tail _ (.tail _ (.tail _ h)))
theorem old5 {a0 a1 a2 a3 a4 x : Addr × Obj} {l : List (Addr × Obj)} (h : x ∈ Old l) : x ∈ a0 :: a1 :: a2 :: a3 :: a4 :: Old l := .tail _ (.tail _ (.tail _ (.tail _ (.tail _ h))))
theorem old6 {a0 a1 a2 a3 a4 a5 x : Addr × Obj} {l : List (Addr × Obj)} (h : x ∈ Old l) : x ∈ a0 :: a1 :: a2 :: a3 :: a4 :: a5 :: Old l := .tail _ (.tail _ (.tail _ (.tail _ (.tail _ (.tail _ h)))))
theorem old7 {a0 a1 a2 a3 a4 a5 a6 x : Addr × Obj} {l : List (Addr × Obj)} (h : x ∈ Old l) : x ∈ a0 :: a1 :: a2 :: a3 :: a4 :: a5 :: a6 :: Old l := .tail _ (.tail _ (.tail _ (.tail _ (.tail _ (.tail _ (.tail _ h))))))
theorem mf0 {x : Addr} {o : Obj} {l : List (Addr × Obj)} (h : (x, o) ∈ l) : x ∈ l.map (·.1) := (mem_fst h)
theorem mf1 {a0 x : Addr} {o : Obj} {l : List (Addr × Obj)} (h : (x, o) ∈ l) : x ∈ a0 :: l.map (·.1) := .tail _ ((mem_fst h))
theorem mf2 {a0 a1 x : Addr} {o : Obj} {l : List (Addr × Obj)} (h : (x, o) ∈ l) : x ∈ a0 :: a1 :: l.map (·.1) := .tail _ (.tail _ ((mem_fst h)))
theorem mf3 {a0 a1 a2 x : Addr} {o : Obj} {l : List (Addr × Obj)} (h : (x, o) ∈ l) : x ∈ a0 :: a1 :: a2 :: l.map (·.1) := .tail _ (.tail _ (.tail _ ((mem_fst h))))
theorem mf4 {a0 a1 a2 a3 x : Addr} {o : Obj} {l : List (Addr × Obj)} (h : (x, o) ∈ l) : x ∈ a0 :: a1 :: a2 :: a3 :: l.map (·.1) := .tail _ (.tail _ (.tail _ (.tail _ ((mem_fst h)))))
theorem mf5 {a0 a1 a2 a3 a4 x : Addr} {o : Obj} {l : List (Addr × Obj)} (h : (x, o) ∈ l) : x ∈ a0 :: a1 :: a2 :: a3 :: a4 :: l.map (·.1) := .tail _ (.tail _ (.tail _ (.tail _ (.tail _ ((mem_fst h))))))
theorem mf6 {a0 a1 a2 a3 a4 a5 x : Addr} {o : Obj} {l : List (Addr × Obj)} (h : (x, o) ∈ l) : x ∈ a0 :: a1 :: a2 :: a3 :: a4 :: a5 :: l.map (·.1) := .tail _ (.tail _ (.tail _ (.tail _ (.tail _ (.tail _ ((mem_fst h)))))))
theorem mf7 {a0 a1 a2 a3 a4 a5 a6 x : Addr} {o : Obj} {l : List (Addr × Obj)} (h : (x, o) ∈ l) : x ∈ a0 :: a1 :: a2 :: a3 :: a4 :: a5 :: a6 :: l.map (·.1) := .tail _ (.tail _ (.tail _ (.tail _ (.tail _ (.tail _ (.tail _ ((mem_fst h))))))))
theorem words_base_1 : True := by
  k_with "mem" => with_reducible first | exact mem0 | exact mem1 | exact mem2 | exact mem3 | exact mem4 | exact mem5 | exact mem6 | exact mem7 | (refine mem8 ?_; k_extra "mem") | (refine old0 ?_; assumption) | (refine old1 ?_; assumption) | (refine old2 ?_; assumption) | (refine old3 ?_; assumption) | (refine old4 ?_; assumption) | (refine old5 ?_; assumption) | (refine old6 ?_; assumption) | (refine old7 ?_; assumption) | (refine' mf0 ?hzq6f78c7; (case hzq6f78c7 => k_extra "mem")) | (refine' mf1 ?hzq6f78c7; (case hzq6f78c7 => k_extra "mem")) | (refine' mf2 ?hzq6f78c7; (case hzq6f78c7 => k_extra "mem")) | (refine' mf3 ?hzq6f78c7; (case hzq6f78c7 => k_extra "mem")) | (refine' mf4 ?hzq6f78c7; (case hzq6f78c7 => k_extra "mem")) | (refine' mf5 ?hzq6f78c7; (case hzq6f78c7 => k_extra "mem")) | (refine' mf6 ?hzq6f78c7; (case hzq6f78c7 => k_extra "mem")) | (refine' mf7 ?hzq6f78c7; (case hzq6f78c7 => k_extra "mem"))
  k_with "lib k_room" => first | ((try simp only [depth_under_make, depth_under_kw, depth_in1, depth_deeper, depth_caller]); (try dsimp only [ktrTop]); omega) | ktr_room
  trivial
noncomputable abbrev LR : List Str := [Str.ofString "_law_IDS", Str.ofString "_law_ROLES"]
noncomputable abbrev ScF (nm : List (Str × NameKind)) (g c : Bool) (mo : List (Str × Const)) : Scope := { kind := .function, names := nm, isGenerator := g, isCoroutine := c, more := mo }
noncomputable abbrev listO (vs : List Value) (n : Nat) : Obj := { cls := .type "list", data := .seq vs.toArray n }
noncomputable abbrev tupO (vs : List Value) (n : Nat) : Obj := { cls := .type "tuple", data := .seq vs.toArray n }
theorem front {h₀ h : Heap} {L : Addr} {news : List (Addr × Obj)} (N : News h₀ L h news) {p : Addr × Obj} (hp : p ∈ news) : News h₀ L h (p :: news) := fun q hq => by
  rcases List.mem_cons.mp hq with rfl | hq
  · exact N _ hp
  · exact N q hq
theorem sub {h₀ h : Heap} {L : Addr} {news news' : List (Addr × Obj)} (N : News h₀ L h news') (hs : ∀ p ∈ news, p ∈ news') : News h₀ L h news := fun p hp => N p (hs p hp)

/-- where a call stands: the frame, the ledger, the top's facts, the room -/
structure At (k : Nat) (w : World) (mean : ExcName → Option Value) (mg mb : Str → Option Value) (A₀ : Around) (base h₀ : Heap) (outer : List Env) (L : Addr) (m : Str → Option Value) (s : Shared) (news : List (Addr × Obj)) (dp un : Nat) : Prop where
  B : Below A₀ base outer h₀
  F : Fr h₀ L s.heap m
  X : (Mine.frag w.params).In h₀
  N : News h₀ L s.heap news
  T : Top Mine.view (looseW Mine.view LR) mean mg mb h₀
  hd : dp + k < recursionLimit
  hu : un + 8 * k < cLine
noncomputable abbrev CallA (w : World) (dp un : Nat) (gd : Option (List Code)) (cn : Str) (nm : List (Str × NameKind)) (ig ic : Bool) (mo : List (Str × Const)) (L a : Addr) (ccd : Value) (cl : List (Str × Addr)) (outer : List Env) (f : Addr) (args : List Value) (Q E : Value → Shared → Prop) (s : Shared) : Prop :=
  wpAny (model Challenge.rw_no0410_01.row.prog w) (ktrTop dp un gd cn (ScF nm ig ic mo) L a ccd cl outer) (call (.ref f) args) Q E s
theorem zz : Challenge.rw_no0410_01 = Challenge.rw_no0410_01 ∧ Mine.frag = Mine.frag := ⟨rfl, rfl⟩
/-- the part of a ledger that is not handed in -/
noncomputable def restOf (own news : List (Addr × Obj)) : List (Addr × Obj) := news.filter fun p => !(own.map (·.1)).contains p.1
theorem mem_restOf {own news : List (Addr × Obj)} {p : Addr × Obj} : p ∈ restOf own news ↔ p ∈ news ∧ p.1 ∉ own.map (·.1) := by
  unfold restOf
  rw [List.mem_filter]
  simp
theorem news_same {h₀ h : Heap} {L : Addr} {news : List (Addr × Obj)} (N : News h₀ L h news) {p q : Addr × Obj} (hp : p ∈ news) (hq : q ∈ news) (e : p.1 = q.1) : p = q := by
  have h1 := (N p hp).1
  have h2 := (N q hq).1
  rw [e, h2] at h1
  cases p; cases q
  simp only at e
  subst e
  simpa using (Option.some.inj h1).symm
/-- what was handed in stands still: the whole ledger stands -/
theorem back_all {h₀ h h' : Heap} {L : Addr} {own own' news : List (Addr × Obj)} (N : News h₀ L h news) (hown : ∀ p ∈ own, p ∈ news) (N' : News h₀ L h' own') (NR : News h₀ L h' (restOf own news)) (hs : ∀ p ∈ own, p ∈ own') : News h₀ L h' (own' ++ news) := fun p hp => by
  rcases List.mem_append.mp hp with hp | hp
  · exact N' p hp
  · by_cases hm : p.1 ∈ own.map (·.1)
    · obtain ⟨q, hq, e⟩ := List.mem_map.mp hm
      have e2 : p = q := news_same N hp (hown q hq) e.symm
      subst e2
      exact N' p (hs p hq)
    · exact NR p (mem_restOf.mpr ⟨hp, hm⟩)
/-- what was handed in stands still, or is turned and stands in no other part -/
theorem back_mut {h₀ h h' : Heap} {L : Addr} {own own' news news0 : List (Addr × Obj)} (N : News h₀ L h news) (hown : ∀ p ∈ own, p ∈ news) (N' : News h₀ L h' own') (NR : News h₀ L h' (restOf own news))
    (h0 : ∀ p ∈ news0, p ∈ news) (hs : ∀ q ∈ own, q ∈ own' ∨ ∀ p ∈ news0, p.1 ≠ q.1) : News h₀ L h' (own' ++ news0) := fun p hp => by
  rcases List.mem_append.mp hp with hp | hp
  · exact N' p hp
  · by_cases hm : p.1 ∈ own.map (·.1)
    · obtain ⟨q, hq, e⟩ := List.mem_map.mp hm
      rcases hs q hq with z | z
      · have e2 : p = q := news_same N (h0 p hp) (hown q hq) e.symm
        subst e2
        exact N' p z
      · exact absurd e.symm (z p hp)
    · exact NR p (mem_restOf.mpr ⟨h0 p hp, hm⟩)
theorem fresh_all {g : Heap} {own news : List (Addr × Obj)} {r : Addr} (G : ∀ p ∈ restOf own news, g.get? p.1 = some p.2) (hr : g.get? r = none) (ho : ∀ p ∈ own, p.1 ≠ r) : ∀ q ∈ news, q.1 ≠ r := fun q hq e => by
  by_cases hm : q.1 ∈ own.map (·.1)
  · obtain ⟨p, hp, e2⟩ := List.mem_map.mp hm
    exact ho p hp (e2.trans e)
  · have := G q (mem_restOf.mpr ⟨hq, hm⟩)
    rw [e, hr] at this
    cases this
section
variable {prog : Program} {w : World} {A A₀ : Around} {s : Shared} {K : Frag} {L : Addr} {h₀ base : Heap} {m mg mb : Str → Option Value} {news : List (Addr × Obj)} {p : Program} {loose : List Str} {mean : ExcName → Option Value}
/-- a def is entered with a part of the ledger; the rest stands behind it -/
theorem code_own {env : Env} {outer : List Env} {R : Result → Shared → Prop} {name qual : Str} {params : Arguments} {body : List Stmt} {scope : Scope} {dV kV doc pm cdv ct oc : Value} {an od : Option Addr} {osl : Array (Option Value)} {f : Addr} {args : Args} {binds : List (Str × Value)} (own : List (Addr × Obj))
    (B : Below A₀ base outer h₀) (F : Fr h₀ L s.heap m) (X₀ : K.In h₀) (N : News h₀ L s.heap news) (hown : ∀ p ∈ own, p ∈ news) (T : Top p loose mean mg mb h₀) (hA : A.frames = some (env :: outer)) (hf : env.frame = some L) (hke : env.scope.kind = .function)
    (ho : K.lookup f = some ⟨oc, od, .func (fnOf name qual params body scope dV kV doc pm an cdv ct), osl⟩) (hcd : codeIn K cdv qual = true) (hroom : A.depth < recursionLimit)
    (hbind : BindsTo s (fnOf name qual params body scope dV kV doc pm an cdv ct) args binds) (hloc : ∀ y ∈ binds, scope.names.lookup y.1 = some .local)
    (h : ∀ g L' h₁, Fr h₀ L g m → Fr g L' h₁ (fun y => binds.reverse.lookup y) → News g L' h₁ own → Below A base (env :: outer) g → K.In g → Top p loose mean mg mb g → (∀ p ∈ restOf own news, g.get? p.1 = some p.2) → (∀ p ∈ own, p.1 < L') → (∀ b o, s.heap.get? b = some o → b ∉ own.map (·.1) → g.get? b = some o) →
      wpAny (model prog w) (A.deeper (envOf qual scope L' f cdv)) (execs body (envOf qual scope L' f cdv))
        (fun fl s' => LeaveK h₀ L m g (fun r s' => News h₀ L s'.heap (restOf own news) → R r s') (match fl with | .ret v => v | _ => .none) s')
        (fun e s' => wpAny (model prog w) (A.deeper (envOf qual scope L' f cdv)) (leaving (envOf qual scope L' f cdv) e) (fun _ s'' => R (.error e) s'') (fun e' s'' => R (.error e') s'') s')
        { s with heap := h₁, toks := s.toks + binds.length })
    (hco : scope.isCoroutine = false) (hgen : scope.isGenerator = false) (hk : scope.kind = .function)
    (hcell : ∀ x ∈ scope.names, x.2 ≠ .cell) : codeAny (model prog w) A (.call (.ref f) args) R s := by
  have No : News h₀ L s.heap own := sub N hown
  obtain ⟨FG, BG, st, lv⟩ := groundX (R := fun r s' => News h₀ L s'.heap (restOf own news) → R r s') B F No hA hf hke
  have G : ∀ p ∈ restOf own news, (hideAll s.heap (own.map (·.1))).get? p.1 = some p.2 := fun p hp => hideAll_get _ (N p (mem_restOf.mp hp).1).1 (mem_restOf.mp hp).2
  refine codeAny_call_def (fd := fnOf name qual params body scope dV kV doc pm an cdv ct) (body := body) (binds := binds) hroom ((X₀.keeps F.keep) _ _ ho) rfl (T.nolimit.keeps F.keep) (codeRec_of (X₀.keeps F.keep) hcd) rfl hbind hcell hloc (fun h₁ hns hk₁ => ?_) hco hgen hk
  refine wpAny_mono (h _ s.heap.objs.size h₁ FG ⟨hns, fun b o e => hk₁ b o (of_hideAll _ e), Nat.le_of_eq (hideAll_size _ _)⟩
    (fun p hp => ⟨hk₁ _ _ (No p hp).1, Nat.ne_of_lt (Heap.lt_size (No p hp).1), hideAll_none _ (List.mem_map_of_mem hp)⟩) BG (X₀.keeps st) (T.keeps st) G (fun p hp => Heap.lt_size (No p hp).1) (fun b o e hn => hideAll_get _ e hn)) (fun fl s' hl => ?_) fun _ _ y => y
  have hr := lv _ _ hl
  obtain ⟨L', m', news', F', _, _⟩ := hl
  exact hr fun p hp => ⟨F'.keep _ _ (G p hp), (N p (mem_restOf.mp hp).1).2⟩
theorem code_ownC {env : Env} {outer : List Env} {R : Result → Shared → Prop} {name qual : Str} {params : Arguments} {body : List Stmt} {scope : Scope} {dV kV doc pm cdv ct oc : Value} {an od : Option Addr} {osl : Array (Option Value)} {f : Addr} {args : Args} {binds : List (Str × Value)} (own : List (Addr × Obj))
    (B : Below A₀ base outer h₀) (F : Fr h₀ L s.heap m) (X₀ : K.In h₀) (N : News h₀ L s.heap news) (hown : ∀ p ∈ own, p ∈ news) (T : Top p loose mean mg mb h₀) (hA : A.frames = some (env :: outer)) (hf : env.frame = some L) (hke : env.scope.kind = .function)
    (ho : K.lookup f = some ⟨oc, od, .func (fnOf name qual params body scope dV kV doc pm an cdv ct), osl⟩) (hcd : codeIn K cdv qual = true) (hroom : A.depth < recursionLimit)
    (hbind : BindsTo s (fnOf name qual params body scope dV kV doc pm an cdv ct) args binds) (hkind : (binds.all fun y => scope.names.lookup y.1 == some .local || scope.names.lookup y.1 == some .cell) = true)
    (hnd : ((cellsFrom 0 scope.names []).map (·.1)).Nodup)
    (h : ∀ g L' h₁ tk cells, Fr h₀ L g m → Fr g L' h₁ (bindL (envOfC qual scope L' f cdv).kindOf binds fun _ => none) → News g L' h₁ (cells ++ own) →
      CellsAre (bindC (envOfC qual scope L' f cdv).kindOf binds fun _ => none) (cellsFrom (L' + 1) scope.names []) cells → Below A base (env :: outer) g → K.In g → Top p loose mean mg mb g → (∀ p ∈ restOf own news, g.get? p.1 = some p.2) → (∀ p ∈ own, p.1 < L') → (∀ b o, s.heap.get? b = some o → b ∉ own.map (·.1) → g.get? b = some o) →
      wpAny (model prog w) (A.deeper (envOfC qual scope L' f cdv)) (execs body (envOfC qual scope L' f cdv))
        (fun fl s' => LeaveK h₀ L m g (fun r s' => News h₀ L s'.heap (restOf own news) → R r s') (match fl with | .ret v => v | _ => .none) s')
        (fun e s' => wpAny (model prog w) (A.deeper (envOfC qual scope L' f cdv)) (leaving (envOfC qual scope L' f cdv) e) (fun _ s'' => R (.error e) s'') (fun e' s'' => R (.error e') s'') s')
        { s with heap := h₁, toks := tk })
    (hco : scope.isCoroutine = false) (hgen : scope.isGenerator = false) (hk : scope.kind = .function) : codeAny (model prog w) A (.call (.ref f) args) R s := by
  have No : News h₀ L s.heap own := sub N hown
  obtain ⟨FG, BG, st, lv⟩ := groundX (R := fun r s' => News h₀ L s'.heap (restOf own news) → R r s') B F No hA hf hke
  have G : ∀ p ∈ restOf own news, (hideAll s.heap (own.map (·.1))).get? p.1 = some p.2 := fun p hp => hideAll_get _ (N p (mem_restOf.mp hp).1).1 (mem_restOf.mp hp).2
  refine codeAny_call_function hroom ((X₀.keeps F.keep) _ _ ho) rfl hco hgen rfl (codeRec_of (X₀.keeps F.keep) hcd) (hbind _ _ _ _ ?_)
  refine wpAny_newFunctionEnv_cells hk (kindsX hkind _) fun env' he s' x => ?_
  subst he
  refine ⟨(T.nolimit.keeps F.keep).keeps x.toInCall.keep, codeAny_func ?_⟩
  obtain ⟨h₁, tk, rfl, _⟩ := x.done
  have hk₁ := x.toInCall.keep
  obtain ⟨cells, NC, Y⟩ := Cl.news (h₀ := s.heap) (Nat.le_refl _) fun n c hm => ⟨x.cell n c (lookup_of_mem_nodup (cellsFrom_names scope.names 0 (s.heap.objs.size + 1) [] [] rfl ▸ hnd) hm), x.above n c hm⟩
  refine wpAny_mono (h _ s.heap.objs.size h₁ tk cells FG ⟨x.toInCall.ns, fun b o e => hk₁ b o (of_hideAll _ e), Nat.le_of_eq (hideAll_size _ _)⟩ (fun p hp => ?_) Y BG (X₀.keeps st) (T.keeps st) G (fun p hp => Heap.lt_size (No p hp).1) (fun b o e hn => hideAll_get _ e hn)) (fun fl s' hl => ?_) fun _ _ y => y
  · rcases List.mem_append.mp hp with hp | hp
    · refine ⟨(NC p hp).1, (NC p hp).2.1, ?_⟩
      cases q : (hideAll s.heap (own.map (·.1))).get? p.1 with
      | none => rfl
      | some o => have := of_hideAll _ q; rw [(NC p hp).2.2] at this; cases this
    · exact ⟨hk₁ _ _ (No p hp).1, Nat.ne_of_lt (Heap.lt_size (No p hp).1), hideAll_none _ (List.mem_map_of_mem hp)⟩
  · have hr := lv _ _ hl
    obtain ⟨L', m', news', F', _, _⟩ := hl
    exact hr fun p hp => ⟨F'.keep _ _ (G p hp), (N p (mem_restOf.mp hp).1).2⟩
end
/-- a continuation under a name of its own: the walk's terms stay small -/
structure Goes {ρ : Type} (Q Q' : ρ → Shared → Prop) : Prop where
  e : Q' = Q
theorem Goes.use {ρ : Type} {Q Q' : ρ → Shared → Prop} {v : ρ} {s : Shared} (g : Goes Q Q') (h : Q v s) : Q' v s := by rw [g.e]; exact h
theorem wp_gen {ρ : Type} {M : Model} {A : Around} {t : Sem ρ} {Q : ρ → Shared → Prop} {E : Value → Shared → Prop} {s : Shared} (h : ∀ Q' E', Goes Q Q' → Goes E E' → wpAny M A t Q' E' s) : wpAny M A t Q E s := h Q E ⟨rfl⟩ ⟨rfl⟩
theorem wp_gen2 {ρ σ : Type} {M : Model} {A : Around} {t : Sem ρ} {t₂ : ρ → Sem σ} {Q : σ → Shared → Prop} {E : Value → Shared → Prop} {s : Shared} (h : ∀ Q', Goes Q Q' → wpAny M A t (fun v s₂ => wpAny M A (t₂ v) Q' E s₂) E s) : wpAny M A t (fun v s₂ => wpAny M A (t₂ v) Q E s₂) E s := h Q ⟨rfl⟩
theorem passes_gen {M : Model} {A : Around} {env : Env} {E E' : Value → Shared → Prop} (g : Goes E E') (h : PassesOwn M A env E) : PassesOwn M A env E' := by rw [g.e]; exact h
theorem passes_genAt {M : Model} {A A' : Around} {env : Env} {E E' : Value → Shared → Prop} (g : Goes E E') (h : PassesOwnAt M A A' env E) : PassesOwnAt M A A' env E' := by rw [g.e]; exact h
/-- a goal under a name: while facts are taken apart, the terms stay small -/
structure Ice (P G : Prop) : Prop where
  f : P → G
theorem frz {P : Prop} (h : ∀ G : Prop, Ice P G → G) : P := h P ⟨fun x => x⟩
theorem thaw {P G : Prop} (i : Ice P G) (h : P) : G := i.f h
/-- what stands behind a statement, under a name: the walk's terms stay small -/
noncomputable def nextK (M : Model) (A : Around) (rest : List Stmt) (env : Env) (Q : Flow → Shared → Prop) (E : Value → Shared → Prop) (f : Flow) (s : Shared) : Prop :=
  match f with | .next => wpAny M A (execs rest env) Q E s | f => Q f s
theorem execs_own {M : Model} {A : Around} {st : Stmt} {rest : List Stmt} {env : Env} {Q : Flow → Shared → Prop} {E : Value → Shared → Prop} {s : Shared} (h : wpAny M A (exec st env) (nextK M A rest env Q E) E s) : wpAny M A (execs (st :: rest) env) Q E s := wpAny_execs_cons h
theorem nextK.next {M : Model} {A : Around} {rest : List Stmt} {env : Env} {Q : Flow → Shared → Prop} {E : Value → Shared → Prop} {s : Shared} (h : wpAny M A (execs rest env) Q E s) : nextK M A rest env Q E .next s := h
theorem nextK.ret {M : Model} {A : Around} {rest : List Stmt} {env : Env} {Q : Flow → Shared → Prop} {E : Value → Shared → Prop} {s : Shared} {v : Value} (h : Q (.ret v) s) : nextK M A rest env Q E (.ret v) s := h
theorem nextK.brk {M : Model} {A : Around} {rest : List Stmt} {env : Env} {Q : Flow → Shared → Prop} {E : Value → Shared → Prop} {s : Shared} (h : Q .brk s) : nextK M A rest env Q E .brk s := h
theorem nextK.cont {M : Model} {A : Around} {rest : List Stmt} {env : Env} {Q : Flow → Shared → Prop} {E : Value → Shared → Prop} {s : Shared} (h : Q .cont s) : nextK M A rest env Q E .cont s := h
/-- a name's value over a map of names -/
noncomputable def put (a : Str) (v : Value) (m : Str → Option Value) : Str → Option Value := fun z => if z = a then some v else m z
theorem storeX_P {M : Model} {A : Around} {E : Value → Shared → Prop} {s : Shared} {Q : Unit → Shared → Prop} {h₀ : Heap} {L a : Addr} {m : Str → Option Value} {news : List (Addr × Obj)} {cn : Str} {cs : Scope} {ccd v : Value} {cl : List (Str × Addr)} {x : Str} (F : Fr h₀ L s.heap m) (N : News h₀ L s.heap news)
    (h : ∀ h', Fr h₀ L h' (put x v m) → News h₀ L h' news → Q () { s with heap := h', toks := s.toks + 1 })
    (hk : cs.kind = .function) (hx : (envX cn cs L a ccd cl).kindOf x = some .local) : wpAny M A (storeName (envX cn cs L a ccd cl) x v) Q E s := storeX_L F N h hk hx
/-- a call's names -/
noncomputable def look (l : List (Str × Value)) : Str → Option Value := fun y => l.lookup y
theorem fr_look {g h : Heap} {L : Addr} {bs l : List (Str × Value)} (F : Fr g L h (fun y => bs.lookup y)) (e : bs = l) : Fr g L h (look l) := e ▸ F
/-- an address that stands apart from others -/
noncomputable def Off (as : List Addr) (r : Addr) : Prop := ∀ q ∈ as, q ≠ r
theorem Off.use {as : List Addr} {x r : Addr} (h : Off as r) (hm : x ∈ as) : x ≠ r := h _ hm
theorem Off.use' {as : List Addr} {x r : Addr} (h : Off as r) (hm : x ∈ as) : r ≠ x := (h _ hm).symm
theorem Off.useL {led : List (Addr × Obj)} {x r : Addr} {o : Obj} (h : Off (led.map (·.1)) r) (hm : (x, o) ∈ led) : x ≠ r := h _ (List.mem_map_of_mem hm)
theorem Off.useL' {led : List (Addr × Obj)} {x r : Addr} {o : Obj} (h : Off (led.map (·.1)) r) (hm : (x, o) ∈ led) : r ≠ x := (h _ (List.mem_map_of_mem hm)).symm
theorem offLt {led : List (Addr × Obj)} {r : Addr} (h : ∀ p ∈ led, p.1 < r) : Off (led.map (·.1)) r := fun _ hq => by
  obtain ⟨p, hp, rfl⟩ := List.mem_map.mp hq
  exact Nat.ne_of_lt (h p hp)
theorem Off.nil {r : Addr} : Off [] r := fun _ h => nomatch h
theorem Off.cons {a r : Addr} {as : List Addr} (h : a ≠ r) (t : Off as r) : Off (a :: as) r := fun q hq => by
  rcases List.mem_cons.mp hq with rfl | hq
  · exact h
  · exact t q hq
theorem Off.of {news : List (Addr × Obj)} {r : Addr} (h : ∀ q ∈ news, q.1 ≠ r) : Off (news.map (·.1)) r := fun _ hq => by
  obtain ⟨p, hp, rfl⟩ := List.mem_map.mp hq
  exact h p hp
theorem Off.all {news : List (Addr × Obj)} {r : Addr} (h : Off (news.map (·.1)) r) : ∀ q ∈ news, q.1 ≠ r := fun q hq => h _ (List.mem_map_of_mem hq)
theorem off_all {g : Heap} {own news : List (Addr × Obj)} {r : Addr} (G : ∀ p ∈ restOf own news, g.get? p.1 = some p.2) (hr : g.get? r = none) (ho : ∀ p ∈ own, p.1 ≠ r) : Off (news.map (·.1)) r := Off.of (fresh_all G hr ho)
theorem rest_list {g : Heap} {own news : List (Addr × Obj)} {l : Addr} {vs : List Value} {n : Nat} (G : ∀ p ∈ restOf own news, g.get? p.1 = some p.2) (hm : (l, listO vs n) ∈ news) (ho : l ∉ own.map (·.1)) : g.IsList l vs.toArray :=
  ⟨_, G _ (mem_restOf.mpr ⟨hm, ho⟩), rfl, n, rfl⟩
local macro_rules | `(tactic| k_lt $h:ident) => `(tactic| (have hOffz := offLt $h; clear $h))
theorem words_base_2 : True := by
  k_with "lib passes_own" => first | (refine passes_gen (by k_asm) ?_; passes_own) | (refine passes_genAt (by k_asm) ?_; passes_own)
  k_with "my memall" => first | exact sn | (refine sc ?haqcd54cd ?hbqcd54cd; (case haqcd54cd => k_mem); (case hbqcd54cd => k_extra "my memall")) | k_extra "my lam"
  k_with "my lam" => first | (with_reducible first | exact lm0 | exact lm1 | exact lm2 | exact lm3 | exact lm4 | exact lm5 | exact lm6 | exact lm7) | (with_reducible refine lm8 ?_; k_extra "my lam") | (intro p9 hp9; k_extra "my lamb")
  k_with "my lamb" => first | (refine old0 ?_; assumption) | (refine old1 ?_; assumption) | (refine old2 ?_; assumption) | (refine old3 ?_; assumption) | (refine old4 ?_; assumption) | (refine old5 ?_; assumption) | (refine old6 ?_; assumption) | (refine old7 ?_; assumption) | (refine mem8 ?_; k_extra "my lamb")
  k_with "execs cons" => ((with_reducible rename NextOn => hz9); first | (k_here; k_gentoks) | (k_here; k_made; walk_at "execs cons") | ((with_reducible refine execs_own ?_); (try dsimp only)))
  k_with "storeName" => ((with_reducible rename NextOn => hz9); k_here; k_dflt (refine' storeX_P ?Fq0f858c ?Nq0f858c ?_ ?aq0f858c ?bq0f858c; (case Fq0f858c => k_asm); (case Nq0f858c => k_asm); (case aq0f858c => rfl); (case bq0f858c => rfl); k_whole; intro h'9 F'9 N'9; (try k_sweep)))
  k_with "my ice" => (refine frz ?_; intro Gice9 hGice9)
  k_with "my thaw" => (refine thaw (by k_asm) ?_; (repeat ((with_reducible rename Ice _ _ => hz9); clear hz9)))
  k_with "my gen" => (refine wp_gen ?_; intro Qz9 Ez9 hQz9 hEz9)
  k_with "my post" => ((try walk_at "my thaw"); refine wp_gen2 ?_; intro Qz9 hQz9)
  k_with "own enter" => (refine' code_own _ ?k1q4d565a ?k2q4d565a ?k3q4d565a ?k4q4d565a ?kOq4d565a ?k5q4d565a ?kAq4d565a ?kFq4d565a ?kKq4d565a ?k6q4d565a ?k7q4d565a ?k8q4d565a ?k9q4d565a ?kBq4d565a ?_ ?c2q4d565a ?c3q4d565a ?c4q4d565a ?c5q4d565a; (case kOq4d565a => k_asm); (case kAq4d565a => exact rfl); (case kFq4d565a => exact rfl); (case kKq4d565a => exact rfl); (case k1q4d565a => k_asm); (case k2q4d565a => k_asm); (case k3q4d565a => k_asm); (case k4q4d565a => k_asm); (case k5q4d565a => k_asm); (case k6q4d565a => k_is); (case k7q4d565a => k_is); (case k8q4d565a => k_room); (case k9q4d565a => first | exact BindsTo.of_eq rfl | exact binds_K (by k_in) rfl (by k_is) rfl rfl rfl | fail "own enter: no rule for these arguments"); (case c5q4d565a => decide); (case kBq4d565a => exact locs rfl); (case c2q4d565a => exact rfl); (case c3q4d565a => exact rfl); (case c4q4d565a => exact rfl); k_whole; intro g'9 L'9 h'9 FG'9 F'9 N'9 B'9 X'9 T'9 hG9 hL9 hX9; (try first | replace F'9 := fr_look (l := [(_, _)]) F'9 rfl | replace F'9 := fr_look (l := [(_, _), (_, _)]) F'9 rfl | replace F'9 := fr_look (l := [(_, _), (_, _), (_, _)]) F'9 rfl | replace F'9 := fr_look (l := [(_, _), (_, _), (_, _), (_, _)]) F'9 rfl | replace F'9 := fr_look (l := [(_, _), (_, _), (_, _), (_, _), (_, _)]) F'9 rfl | replace F'9 := fr_look (l := [(_, _), (_, _), (_, _), (_, _), (_, _), (_, _)]) F'9 rfl); (try dsimp only); (try k_fold); walk_at "my gen")
  k_with "own cells" => (refine' code_ownC _ ?k1q8b65d0 ?k2q8b65d0 ?k3q8b65d0 ?k4q8b65d0 ?kOq8b65d0 ?k5q8b65d0 ?kAq8b65d0 ?kFq8b65d0 ?kKq8b65d0 ?k6q8b65d0 ?k7q8b65d0 ?k8q8b65d0 ?k9q8b65d0 ?kBq8b65d0 ?kDq8b65d0 ?_ ?c2q8b65d0 ?c3q8b65d0 ?c4q8b65d0; (case kOq8b65d0 => k_asm); (case kAq8b65d0 => exact rfl); (case kFq8b65d0 => exact rfl); (case kKq8b65d0 => exact rfl); (case k1q8b65d0 => k_asm); (case k2q8b65d0 => k_asm); (case k3q8b65d0 => k_asm); (case k4q8b65d0 => k_asm); (case k5q8b65d0 => k_asm); (case k6q8b65d0 => k_is); (case k7q8b65d0 => k_is); (case k8q8b65d0 => k_room); (case k9q8b65d0 => first | exact BindsTo.of_eq rfl | exact binds_K (by k_in) rfl (by k_is) rfl rfl rfl | fail "own cells: no rule for these arguments"); (case kBq8b65d0 => exact rfl); (case kDq8b65d0 => decide +kernel); (case c2q8b65d0 => exact rfl); (case c3q8b65d0 => exact rfl); (case c4q8b65d0 => exact rfl); k_whole; intro g'9 L'9 h'9 tk'9 cells'9 FG'9 F'9 N'9 Y'9 B'9 X'9 T'9 hG9 hL9 hX9; (k_lt hL9); k_cells Y'9; (try simp only [List.cons_append, List.nil_append] at N'9); (try dsimp only); (try k_fold); walk_at "my gen")
  k_with "my steps" => ((try walk_at "my thaw"); repeat' (first | ((with_reducible first | refine nextK.next ?_ | refine nextK.ret ?_ | refine nextK.brk ?_ | refine nextK.cont ?_); (try dsimp only)) | (k_unfold; (try dsimp only)) | walk1 | (dsimp only; walk1) | (refine Goes.use (by k_asm) ?_; (try dsimp only)) | (leave1; walk_say "STEP leave1"; try dsimp only) | fail "no step"))
  k_with "call builtin:list.append" => (k_here; k_dflt (refine' append_K ?k1qcd4a31 ?k2qcd4a31 ?k3qcd4a31 ?_ ?zqcd4a31; (case k1qcd4a31 => k_asm); (case k2qcd4a31 => k_asm); (case k3qcd4a31 => k_upd); (case zqcd4a31 => size_fits); k_whole); intro h'9 F'9 N'9; (try k_sweep))
  k_with "InvEndN" => k_dflt kst_close
  k_with "lib k_ne" => first | exact Off.useL (by k_asm) (by k_extra "mem") | exact Off.use (by k_asm) (by k_extra "mem") | exact Off.useL' (by k_asm) (by k_extra "mem") | exact Off.use' (by k_asm) (by k_extra "mem") | ((refine neN ?_); (try dsimp only); first | assumption | exact Off.use (by k_asm) (by k_extra "mem") | exact Off.use' (by k_asm) (by k_extra "mem") | exact Ne.symm (by k_asm) | omega)
  k_with "my at" => ((case Bqat => k_asm); (case Fqat => k_asm); (case Xqat => k_asm); (case Nqat => k_asm); (case Tqat => k_asm); (case dqat => k_room); (case uqat => walk_at "my units"))
  k_with "my units" => ((have hcL99 := cLine_is); (try simp only [units_in1, units_deeper, units_under_make, Around.mark_units, units_caller]); (try dsimp only [ktrTop]); omega)
  k_with "my off" => exact off_all (by k_asm) (News.fresh (by k_asm) (by k_mem)) (by k_all)
  k_with "lib k_all" => first | exact nn | (refine' nc ?aq218612 ?bq218612; (case aq218612 => k_ne); (case bq218612 => k_all)) | exact an | (refine' ac ?aq218612 ?bq218612; (case aq218612 => k_ne); (case bq218612 => k_all)) | kst_allNe
  trivial
section
variable {w : World} {mean : ExcName → Option Value} {mg mb : Str → Option Value}
   {dp un : Nat} {gd : Option (List Code)} {cn : Str} {nm : List (Str × NameKind)} {ig ic : Bool} {mo : List (Str × Const)} {a : Addr} {ccd : Value} {cl : List (Str × Addr)} {outer : List Env} {A₀ : Around} {base h₀ : Heap} {L : Addr} {m : Str → Option Value} {s : Shared} {Q E : Value → Shared → Prop} {news : List (Addr × Obj)}
theorem rising_spec (H : At 4 w mean mg mb A₀ base h₀ outer L m s news dp un)
   {l : Addr} {vs : List Value} {ns : List Int} {n : Nat}
   (hl : (l, listO vs n) ∈ news) (hi : IntsAre vs ns) (hn : ns.length < 20) (hid : ∀ x ∈ ns, x ∈ IDs)
   (ret : ∀ r vs' h' tk' n', Fr h₀ L h' m → News h₀ L h' ((r, listO vs' n') :: news) → Off (news.map (·.1)) r → IntsAre vs' (ids (fun i => decide (i ∈ ns))) → Q (.ref r) { s with heap := h', toks := tk' }) :
   CallA w dp un gd cn nm ig ic mo L a ccd cl outer 77 [.ref l] Q E s := by
  have z := zz
  revert z
  k_fill
  intro _
  w_on
  obtain ⟨B, F, X, N, T, hd, hu⟩ := H
  unfold CallA
  have nextOn : NextOn := ⟨⟩
  refine wpAny_call ?_
  have hO : ∀ p ∈ ([(l, listO vs n)] : List (Addr × Obj)), p ∈ news := sc (hl) (sn)
  k_dflt walk_at "own enter"
  k_with "pyIter ref" => k_state (fun pre out => out = dd pre ∧ out.length ≤ pre.length) "out"
  k_with "state" => first | exact ⟨rfl, Nat.le_refl _⟩ | exact ⟨dd_keep (by assumption) (by assumption) (by assumption), by simp; omega⟩ | exact ⟨dd_push (by assumption) (by assumption), by simp; omega⟩ | exact ⟨dd_push2 (by assumption) (by assumption) (by assumption), by simp; omega⟩
  walk_at "my steps"
  all_goals (try (k_data; done))
  k_with_none
  k_with "mem" => with_reducible first | exact mem0 | exact mem1 | exact mem2 | exact mem3 | exact mem4 | exact mem5 | exact mem6 | exact mem7 | (refine mem8 ?_; k_extra "mem") | (refine old0 ?_; assumption) | (refine old1 ?_; assumption) | (refine old2 ?_; assumption) | (refine old3 ?_; assumption) | (refine old4 ?_; assumption) | (refine old5 ?_; assumption) | (refine old6 ?_; assumption) | (refine old7 ?_; assumption) | (refine' mf0 ?hzq6f78c7; (case hzq6f78c7 => k_extra "mem")) | (refine' mf1 ?hzq6f78c7; (case hzq6f78c7 => k_extra "mem")) | (refine' mf2 ?hzq6f78c7; (case hzq6f78c7 => k_extra "mem")) | (refine' mf3 ?hzq6f78c7; (case hzq6f78c7 => k_extra "mem")) | (refine' mf4 ?hzq6f78c7; (case hzq6f78c7 => k_extra "mem")) | (refine' mf5 ?hzq6f78c7; (case hzq6f78c7 => k_extra "mem")) | (refine' mf6 ?hzq6f78c7; (case hzq6f78c7 => k_extra "mem")) | (refine' mf7 ?hzq6f78c7; (case hzq6f78c7 => k_extra "mem"))
  k_with "lib k_room" => first | ((try simp only [depth_under_make, depth_under_kw, depth_in1, depth_deeper, depth_caller]); (try dsimp only [ktrTop]); omega) | ktr_room
  k_with "lib passes_own" => first | (refine passes_gen (by k_asm) ?_; passes_own) | (refine passes_genAt (by k_asm) ?_; passes_own)
  k_with "my memall" => first | exact sn | (refine sc ?haqcd54cd ?hbqcd54cd; (case haqcd54cd => k_mem); (case hbqcd54cd => k_extra "my memall")) | k_extra "my lam"
  k_with "my lam" => first | (with_reducible first | exact lm0 | exact lm1 | exact lm2 | exact lm3 | exact lm4 | exact lm5 | exact lm6 | exact lm7) | (with_reducible refine lm8 ?_; k_extra "my lam") | (intro p9 hp9; k_extra "my lamb")
  k_with "my lamb" => first | (refine old0 ?_; assumption) | (refine old1 ?_; assumption) | (refine old2 ?_; assumption) | (refine old3 ?_; assumption) | (refine old4 ?_; assumption) | (refine old5 ?_; assumption) | (refine old6 ?_; assumption) | (refine old7 ?_; assumption) | (refine mem8 ?_; k_extra "my lamb")
  k_with "execs cons" => ((with_reducible rename NextOn => hz9); first | (k_here; k_gentoks) | (k_here; k_made; walk_at "execs cons") | ((with_reducible refine execs_own ?_); (try dsimp only)))
  k_with "storeName" => ((with_reducible rename NextOn => hz9); k_here; k_dflt (refine' storeX_P ?Fq0f858c ?Nq0f858c ?_ ?aq0f858c ?bq0f858c; (case Fq0f858c => k_asm); (case Nq0f858c => k_asm); (case aq0f858c => rfl); (case bq0f858c => rfl); k_whole; intro h'9 F'9 N'9; (try k_sweep)))
  k_with "my ice" => (refine frz ?_; intro Gice9 hGice9)
  k_with "my thaw" => (refine thaw (by k_asm) ?_; (repeat ((with_reducible rename Ice _ _ => hz9); clear hz9)))
  k_with "my gen" => (refine wp_gen ?_; intro Qz9 Ez9 hQz9 hEz9)
  k_with "my post" => ((try walk_at "my thaw"); refine wp_gen2 ?_; intro Qz9 hQz9)
  k_with "own enter" => (refine' code_own _ ?k1q4d565a ?k2q4d565a ?k3q4d565a ?k4q4d565a ?kOq4d565a ?k5q4d565a ?kAq4d565a ?kFq4d565a ?kKq4d565a ?k6q4d565a ?k7q4d565a ?k8q4d565a ?k9q4d565a ?kBq4d565a ?_ ?c2q4d565a ?c3q4d565a ?c4q4d565a ?c5q4d565a; (case kOq4d565a => k_asm); (case kAq4d565a => exact rfl); (case kFq4d565a => exact rfl); (case kKq4d565a => exact rfl); (case k1q4d565a => k_asm); (case k2q4d565a => k_asm); (case k3q4d565a => k_asm); (case k4q4d565a => k_asm); (case k5q4d565a => k_asm); (case k6q4d565a => k_is); (case k7q4d565a => k_is); (case k8q4d565a => k_room); (case k9q4d565a => first | exact BindsTo.of_eq rfl | exact binds_K (by k_in) rfl (by k_is) rfl rfl rfl | fail "own enter: no rule for these arguments"); (case c5q4d565a => decide); (case kBq4d565a => exact locs rfl); (case c2q4d565a => exact rfl); (case c3q4d565a => exact rfl); (case c4q4d565a => exact rfl); k_whole; intro g'9 L'9 h'9 FG'9 F'9 N'9 B'9 X'9 T'9 hG9 hL9 hX9; (try first | replace F'9 := fr_look (l := [(_, _)]) F'9 rfl | replace F'9 := fr_look (l := [(_, _), (_, _)]) F'9 rfl | replace F'9 := fr_look (l := [(_, _), (_, _), (_, _)]) F'9 rfl | replace F'9 := fr_look (l := [(_, _), (_, _), (_, _), (_, _)]) F'9 rfl | replace F'9 := fr_look (l := [(_, _), (_, _), (_, _), (_, _), (_, _)]) F'9 rfl | replace F'9 := fr_look (l := [(_, _), (_, _), (_, _), (_, _), (_, _), (_, _)]) F'9 rfl); (try dsimp only); (try k_fold); walk_at "my gen")
  k_with "own cells" => (refine' code_ownC _ ?k1q8b65d0 ?k2q8b65d0 ?k3q8b65d0 ?k4q8b65d0 ?kOq8b65d0 ?k5q8b65d0 ?kAq8b65d0 ?kFq8b65d0 ?kKq8b65d0 ?k6q8b65d0 ?k7q8b65d0 ?k8q8b65d0 ?k9q8b65d0 ?kBq8b65d0 ?kDq8b65d0 ?_ ?c2q8b65d0 ?c3q8b65d0 ?c4q8b65d0; (case kOq8b65d0 => k_asm); (case kAq8b65d0 => exact rfl); (case kFq8b65d0 => exact rfl); (case kKq8b65d0 => exact rfl); (case k1q8b65d0 => k_asm); (case k2q8b65d0 => k_asm); (case k3q8b65d0 => k_asm); (case k4q8b65d0 => k_asm); (case k5q8b65d0 => k_asm); (case k6q8b65d0 => k_is); (case k7q8b65d0 => k_is); (case k8q8b65d0 => k_room); (case k9q8b65d0 => first | exact BindsTo.of_eq rfl | exact binds_K (by k_in) rfl (by k_is) rfl rfl rfl | fail "own cells: no rule for these arguments"); (case kBq8b65d0 => exact rfl); (case kDq8b65d0 => decide +kernel); (case c2q8b65d0 => exact rfl); (case c3q8b65d0 => exact rfl); (case c4q8b65d0 => exact rfl); k_whole; intro g'9 L'9 h'9 tk'9 cells'9 FG'9 F'9 N'9 Y'9 B'9 X'9 T'9 hG9 hL9 hX9; (k_lt hL9); k_cells Y'9; (try simp only [List.cons_append, List.nil_append] at N'9); (try dsimp only); (try k_fold); walk_at "my gen")
  k_with "my steps" => ((try walk_at "my thaw"); repeat' (first | ((with_reducible first | refine nextK.next ?_ | refine nextK.ret ?_ | refine nextK.brk ?_ | refine nextK.cont ?_); (try dsimp only)) | (k_unfold; (try dsimp only)) | walk1 | (dsimp only; walk1) | (refine Goes.use (by k_asm) ?_; (try dsimp only)) | (leave1; walk_say "STEP leave1"; try dsimp only) | fail "no step"))
  k_with "call builtin:list.append" => (k_here; k_dflt (refine' append_K ?k1qcd4a31 ?k2qcd4a31 ?k3qcd4a31 ?_ ?zqcd4a31; (case k1qcd4a31 => k_asm); (case k2qcd4a31 => k_asm); (case k3qcd4a31 => k_upd); (case zqcd4a31 => size_fits); k_whole); intro h'9 F'9 N'9; (try k_sweep))
  k_with "InvEndN" => k_dflt kst_close
  k_with "lib k_ne" => first | exact Off.useL (by k_asm) (by k_extra "mem") | exact Off.use (by k_asm) (by k_extra "mem") | exact Off.useL' (by k_asm) (by k_extra "mem") | exact Off.use' (by k_asm) (by k_extra "mem") | ((refine neN ?_); (try dsimp only); first | assumption | exact Off.use (by k_asm) (by k_extra "mem") | exact Off.use' (by k_asm) (by k_extra "mem") | exact Ne.symm (by k_asm) | omega)
  k_with "my at" => ((case Bqat => k_asm); (case Fqat => k_asm); (case Xqat => k_asm); (case Nqat => k_asm); (case Tqat => k_asm); (case dqat => k_room); (case uqat => walk_at "my units"))
  k_with "my units" => ((have hcL99 := cLine_is); (try simp only [units_in1, units_deeper, units_under_make, Around.mark_units, units_caller]); (try dsimp only [ktrTop]); omega)
  k_with "my off" => exact off_all (by k_asm) (News.fresh (by k_asm) (by k_mem)) (by k_all)
  k_with "lib k_all" => first | exact nn | (refine' nc ?aq218612 ?bq218612; (case aq218612 => k_ne); (case bq218612 => k_all)) | exact an | (refine' ac ?aq218612 ?bq218612; (case aq218612 => k_ne); (case bq218612 => k_all)) | kst_allNe
  rename (_ = dd _) => e1
  have e2 := dd_ids (by assumption) (by assumption) hid
  rw [e2] at e1
  subst e1
  rename News _ _ _ (restOf _ _) => NR
  rename News _ _ _ (_ :: _) => NK
  have NA := back_all N hO NK NR (by kcj_all)
  exact ret _ _ _ _ _ (by assumption) (sub NA (by kcj_all)) (by walk_at "my off") (by assumption)
end
theorem words_rising_1 : True := by
  k_with "my ids" => first | assumption | exact in_ids _ | exact in_nil | exact in_app (by walk_at "my ids") (by walk_at "my ids") | exact in_cons (by first | assumption | decide) (by walk_at "my ids")
  k_with "my bnd" => first | exact ids_le _ | exact len_nil_le | exact len_app_le (by walk_at "my bnd") (by walk_at "my bnd") | exact len_cons_le (by walk_at "my bnd")
  k_with "my len" => first | exact Nat.lt_of_le_of_lt (by walk_at "my bnd") (by decide) | assumption | omega
  k_with "lib kmk_sum" => exact Nat.le_trans (Nat.add_le_add (by walk_at "my bnd") (by walk_at "my bnd")) (by rw [sizeLine_eq]; decide)
  k_with "call builtin:len" => (k_here; (with_reducible show wpAny _ _ (call (Value.builtin "len") [Value.ref _]) _ _ _); k_dflt (refine' kst_len ?k1q883c1e ?k2q883c1e ?k3q883c1e ?k4q883c1e ?_; (case k1q883c1e => k_asm); (case k2q883c1e => k_memK); (case k3q883c1e => exact IntsAre.length (by k_asm)); (case k4q883c1e => first | exact ids_fit _ | (have := ids_le; omega)); k_whole))
  k_with "my off in" => skip
  k_with "call ref" => (k_here; (with_reducible show wpAny _ _ (call (Value.ref 77) _) _ _ _); k_dflt (refine' rising_spec ⟨?Bqat, ?Fqat, ?Xqat, ?Nqat, ?Tqat, ?dqat, ?uqat⟩ ?hlq19baf8 ?hiq19baf8 ?hnq19baf8 ?hidq19baf8 ?_; walk_at "my at"; (case hlq19baf8 => k_mem); (case hiq19baf8 => l_ints); (case hnq19baf8 => walk_at "my len"); (case hidq19baf8 => walk_at "my ids"); k_whole); intro r'9 vs'9 h'9 tk'9 n'9 F'9 N'9 l19 i'9; walk_at "my off in"; (try simp only [ids_mem, ids_app2, ids_app3, ids_add, ids_nil] at i'9); (try k_sweep); (try dsimp only))
  trivial
/-- a Config's dict -/
noncomputable abbrev cfD (P : Params) (lv lo ll ln : Addr) (au : Bool) (t1 t2 t3 t4 t5 : Tok) : Obj := dictOf [
  ⟨PyData.keyHash P (Str.ofString "voters"), .str (Str.ofString "voters") t1, .ref lv⟩,
  ⟨PyData.keyHash P (Str.ofString "outgoing"), .str (Str.ofString "outgoing") t2, .ref lo⟩,
  ⟨PyData.keyHash P (Str.ofString "learners"), .str (Str.ofString "learners") t3, .ref ll⟩,
  ⟨PyData.keyHash P (Str.ofString "learners_next"), .str (Str.ofString "learners_next") t4, .ref ln⟩,
  ⟨PyData.keyHash P (Str.ofString "auto_leave"), .str (Str.ofString "auto_leave") t5, .bool au⟩] 5
section
variable {w : World} {mean : ExcName → Option Value} {mg mb : Str → Option Value}
   {dp un : Nat} {gd : Option (List Code)} {cn : Str} {nm : List (Str × NameKind)} {ig ic : Bool} {mo : List (Str × Const)} {a : Addr} {ccd : Value} {cl : List (Str × Addr)} {outer : List Env} {A₀ : Around} {base h₀ : Heap} {L : Addr} {m : Str → Option Value} {s : Shared} {Q E : Value → Shared → Prop} {news : List (Addr × Obj)}
theorem config_spec (H : At 8 w mean mg mb A₀ base h₀ outer L m s news dp un)
   {l1 l2 l3 l4 : Addr} {vs1 vs2 vs3 vs4 : List Value} {ns1 ns2 ns3 ns4 : List Int} {n1 n2 n3 n4 : Nat} {au : Bool}
   (hl1 : (l1, listO vs1 n1) ∈ news) (hi1 : IntsAre vs1 ns1) (hn1 : ns1.length < 20) (hd1 : ∀ x ∈ ns1, x ∈ IDs)
   (hl2 : (l2, listO vs2 n2) ∈ news) (hi2 : IntsAre vs2 ns2) (hn2 : ns2.length < 20) (hd2 : ∀ x ∈ ns2, x ∈ IDs)
   (hl3 : (l3, listO vs3 n3) ∈ news) (hi3 : IntsAre vs3 ns3) (hn3 : ns3.length < 20) (hd3 : ∀ x ∈ ns3, x ∈ IDs)
   (hl4 : (l4, listO vs4 n4) ∈ news) (hi4 : IntsAre vs4 ns4) (hn4 : ns4.length < 20) (hd4 : ∀ x ∈ ns4, x ∈ IDs)
   (ret : ∀ x d lv lo ll ln vv vo vl vn cv co cl' cn' t1 t2 t3 t4 t5 h' tk', Fr h₀ L h' m →
     News h₀ L h' ((x, instObj 183 d) :: (d, cfD w.params lv lo ll ln au t1 t2 t3 t4 t5) :: (lv, listO vv cv) :: (lo, listO vo co) :: (ll, listO vl cl') :: (ln, listO vn cn') :: news) →
     Off (d :: lv :: lo :: ll :: ln :: news.map (·.1)) x → Off (lv :: lo :: ll :: ln :: news.map (·.1)) d → 
     IntsAre vv (ids (fun i => decide (i ∈ ns1))) → IntsAre vo (ids (fun i => decide (i ∈ ns2))) → IntsAre vl (ids (fun i => decide (i ∈ ns3))) → IntsAre vn (ids (fun i => decide (i ∈ ns4))) → Q (.ref x) { s with heap := h', toks := tk' }) :
   CallA w dp un gd cn nm ig ic mo L a ccd cl outer 183 [.ref l1, .ref l2, .ref l3, .ref l4, .bool au] Q E s := by
  have z := zz
  revert z
  k_fill
  intro _
  w_on
  obtain ⟨B, F, X, N, T, hd, hu⟩ := H
  unfold CallA
  have nextOn : NextOn := ⟨⟩
  refine' call_cls ?k1 ?k2 ?k3 ?k4 ?k5 ?k6 ?_
  (case k1 => k_asm); (case k2 => k_asm); (case k3 => k_asm); (case k4 => k_is); (case k5 => k_is); (case k6 => k_is)
  k_whole
  intro x' d' h' F' N' ld lx
  replace N := N'
  clear F N'
  have F := F'
  clear F'
  have q1 := ltN (ld _ hl1)
  have q2 := ltN (ld _ hl2)
  have q3 := ltN (ld _ hl3)
  have q4 := ltN (ld _ hl4)
  replace lx := ltN lx
  have hO : ∀ p ∈ ([(x', instObj 183 d'), (d', dictOf [] 0), (_, listO vs1 n1), (_, listO vs2 n2), (_, listO vs3 n3), (_, listO vs4 n4)] : List (Addr × Obj)), p ∈ (x', instObj 183 d') :: (d', dictOf [] 0) :: news := sc ((.head _)) (sc ((.tail _ (.head _))) (sc ((.tail _ (.tail _ hl1))) (sc ((.tail _ (.tail _ hl2))) (sc ((.tail _ (.tail _ hl3))) (sc ((.tail _ (.tail _ hl4))) (sn))))))
  k_dflt walk_at "own enter"
  walk_at "my steps"
  all_goals (try (k_data; done))
  rename News _ _ _ (restOf _ _) => NR
  rename News _ _ _ (_ :: _) => NK
  have NA := back_mut (news0 := news) N hO NK NR (fun p hp => .tail _ (.tail _ hp)) (by
    refine kl (by k_mem) (kr (fun p hp => Nat.ne_of_lt (ld p hp)) ?_)
    exact kl (by k_mem) (kl (by k_mem) (kl (by k_mem) (kl (by k_mem) kn))))
  refine' ret _ _ _ _ _ _ _ _ _ _ _ _ _ _ _ _ _ _ _ _ _ ?f ?e1 ?e2 ?e3 ?i1 ?i2 ?i3 ?i4
  (case f => assumption)
  (case i1 => assumption)
  (case i2 => assumption)
  (case i3 => assumption)
  (case i4 => assumption)
  (case e1 => exact sub NA (by kcj_all))
  (case e2 => exact Off.cons (by k_ne) (Off.cons (by k_ne) (Off.cons (by k_ne) (Off.cons (by k_ne) (Off.cons (by k_ne) (Off.of fun p hp => Nat.ne_of_lt (Nat.lt_trans (ld p hp) lx)))))))
  (case e3 => exact Off.cons (by k_ne) (Off.cons (by k_ne) (Off.cons (by k_ne) (Off.cons (by k_ne) (Off.of fun p hp => Nat.ne_of_lt (ld p hp))))))
end
/-- the ledger bears the configuration f at a -/
inductive CfIn (P : Params) (news : List (Addr × Obj)) (a : Addr) (f : Cf) : Prop
  | mk (d lv lo ll ln : Addr) (vv vo vl vn : List Value) (cv co cl' cn' : Nat) (t1 t2 t3 t4 t5 : Tok) (h1 : (a, instObj 183 d) ∈ news) (h2 : (d, cfD P lv lo ll ln f.au t1 t2 t3 t4 t5) ∈ news) (h3 : (lv, listO vv cv) ∈ news) (h4 : (lo, listO vo co) ∈ news) (h5 : (ll, listO vl cl') ∈ news) (h6 : (ln, listO vn cn') ∈ news)
    (i1 : IntsAre vv (ids f.v)) (i2 : IntsAre vo (ids f.o)) (i3 : IntsAre vl (ids f.l)) (i4 : IntsAre vn (ids f.n))
theorem CfIn.mono {P : Params} {news news' : List (Addr × Obj)} {a : Addr} {f : Cf} (h : CfIn P news a f) (hs : ∀ p ∈ news, p ∈ news') : CfIn P news' a f := by
  obtain ⟨d, lv, lo, ll, ln, vv, vo, vl, vn, cv, co, cl', cn', t1, t2, t3, t4, t5, h1, h2, h3, h4, h5, h6, i1, i2, i3, i4⟩ := h
  exact ⟨d, lv, lo, ll, ln, vv, vo, vl, vn, cv, co, cl', cn', t1, t2, t3, t4, t5, hs _ h1, hs _ h2, hs _ h3, hs _ h4, hs _ h5, hs _ h6, i1, i2, i3, i4⟩
/-- a row of a configuration -/
inductive RowIn (news : List (Addr × Obj)) (r : Addr) (f : Cf) : Prop
  | mk (c : Nat) (a1 a2 a3 a4 : Addr) (v1 v2 v3 v4 : List Value) (c1 c2 c3 c4 : Nat) (h1 : (r, tupO [.ref a1, .ref a2, .ref a3, .ref a4, .bool f.au] c) ∈ news) (h2 : (a1, tupO v1 c1) ∈ news) (h3 : (a2, tupO v2 c2) ∈ news) (h4 : (a3, tupO v3 c3) ∈ news) (h5 : (a4, tupO v4 c4) ∈ news)
    (i1 : IntsAre v1 (ids f.v)) (i2 : IntsAre v2 (ids f.o)) (i3 : IntsAre v3 (ids f.l)) (i4 : IntsAre v4 (ids f.n))
theorem RowIn.mono {news news' : List (Addr × Obj)} {a : Addr} {f : Cf} (h : RowIn news a f) (hs : ∀ p ∈ news, p ∈ news') : RowIn news' a f := by
  obtain ⟨c, a1, a2, a3, a4, v1, v2, v3, v4, c1, c2, c3, c4, h1, h2, h3, h4, h5, i1, i2, i3, i4⟩ := h
  exact ⟨c, a1, a2, a3, a4, v1, v2, v3, v4, c1, c2, c3, c4, hs _ h1, hs _ h2, hs _ h3, hs _ h4, hs _ h5, i1, i2, i3, i4⟩
theorem CfIn.mk' {P : Params} {news : List (Addr × Obj)} {a d lv lo ll ln : Addr} {v o l n : Int → Bool} {au : Bool} {vv vo vl vn : List Value} {cv co cl' cn' : Nat} {t1 t2 t3 t4 t5 : Tok} (h1 : (a, instObj 183 d) ∈ news) (h2 : (d, cfD P lv lo ll ln au t1 t2 t3 t4 t5) ∈ news) (h3 : (lv, listO vv cv) ∈ news) (h4 : (lo, listO vo co) ∈ news) (h5 : (ll, listO vl cl') ∈ news) (h6 : (ln, listO vn cn') ∈ news)
    (i1 : IntsAre vv (ids v)) (i2 : IntsAre vo (ids o)) (i3 : IntsAre vl (ids l)) (i4 : IntsAre vn (ids n)) : CfIn P news a ⟨v, o, l, n, au⟩ := ⟨d, lv, lo, ll, ln, vv, vo, vl, vn, cv, co, cl', cn', t1, t2, t3, t4, t5, h1, h2, h3, h4, h5, h6, i1, i2, i3, i4⟩
theorem RowIn.mk' {news : List (Addr × Obj)} {r a1 a2 a3 a4 : Addr} {v o l n : Int → Bool} {au : Bool} {c c1 c2 c3 c4 : Nat} {v1 v2 v3 v4 : List Value} (h1 : (r, tupO [.ref a1, .ref a2, .ref a3, .ref a4, .bool au] c) ∈ news) (h2 : (a1, tupO v1 c1) ∈ news) (h3 : (a2, tupO v2 c2) ∈ news) (h4 : (a3, tupO v3 c3) ∈ news) (h5 : (a4, tupO v4 c4) ∈ news)
    (i1 : IntsAre v1 (ids v)) (i2 : IntsAre v2 (ids o)) (i3 : IntsAre v3 (ids l)) (i4 : IntsAre v4 (ids n)) : RowIn news r ⟨v, o, l, n, au⟩ := ⟨c, a1, a2, a3, a4, v1, v2, v3, v4, c1, c2, c3, c4, h1, h2, h3, h4, h5, i1, i2, i3, i4⟩
theorem small_ids {vs : List Value} {f : Int → Bool} (h : IntsAre vs (ids f)) : vs.toArray.size ≤ 16384 := by
  rw [List.size_toArray, IntsAre.length h]
  exact Nat.le_trans (ids_le f) (by decide)
theorem toL {vs : List Value} : vs.toArray.toList = vs := rfl
theorem words_cf_1 : True := by
  k_with "call type:tuple" => (k_here; (with_reducible show wpAny _ _ (call (Value.type _) [Value.ref _]) _ _ _); k_dflt (refine' kde_tupleOf ?k1qe60330 ?k2qe60330 ?k3qe60330 ?k4qe60330 toL ?_; (case k1qe60330 => k_asm); (case k2qe60330 => k_asm); (case k3qe60330 => exact News.isList (by k_asm) (by k_mem)); (case k4qe60330 => exact small_ids (by k_asm)); k_whole); intro D'9 h'9 F'9 N'9 l19; (try k_lt l19); (try k_sweep); (try dsimp only))
  trivial
section
variable {w : World} {mean : ExcName → Option Value} {mg mb : Str → Option Value}
   {dp un : Nat} {gd : Option (List Code)} {cn : Str} {nm : List (Str × NameKind)} {ig ic : Bool} {mo : List (Str × Const)} {a : Addr} {ccd : Value} {cl : List (Str × Addr)} {outer : List Env} {A₀ : Around} {base h₀ : Heap} {L : Addr} {m : Str → Option Value} {s : Shared} {Q E : Value → Shared → Prop} {news : List (Addr × Obj)}
theorem row_spec (H : At 4 w mean mg mb A₀ base h₀ outer L m s news dp un)
   {x : Addr} {f : Cf} (hc : CfIn w.params news x f)
   (ret : ∀ r tl h' tk', Fr h₀ L h' m → News h₀ L h' (tl ++ news) → RowIn tl r f → Q (.ref r) { s with heap := h', toks := tk' }) :
   CallA w dp un gd cn nm ig ic mo L a ccd cl outer 124 [.ref x] Q E s := by
  have z := zz
  revert z
  k_fill
  intro _
  w_on
  obtain ⟨B, F, X, N, T, hd, hu⟩ := H
  unfold CallA
  have nextOn : NextOn := ⟨⟩
  obtain ⟨d, lv, lo, ll, ln, vv, vo, vl, vn, cv, co, cl', cn', t1, t2, t3, t4, t5, h1, h2, h3, h4, h5, h6, i1, i2, i3, i4⟩ := hc
  refine wpAny_call ?_
  have hO : ∀ p ∈ ([(x, instObj 183 d), (d, cfD w.params lv lo ll ln f.au t1 t2 t3 t4 t5), (lv, listO vv cv), (lo, listO vo co), (ll, listO vl cl'), (ln, listO vn cn')] : List (Addr × Obj)), p ∈ news := sc (h1) (sc (h2) (sc (h3) (sc (h4) (sc (h5) (sc (h6) (sn))))))
  k_dflt walk_at "own enter"
  walk_at "my steps"
  all_goals (try (k_data; done))
  rename News _ _ _ (restOf _ _) => NR
  rename News _ _ _ (_ :: _) => NK
  have NA := back_all N hO NK NR (by kcj_all)
  exact ret _ _ _ _ (by assumption) NA ⟨_, _, _, _, _, _, _, _, _, _, _, _, _, by k_mem, by k_mem, by k_mem, by k_mem, by k_mem, i1, i2, i3, i4⟩
end
theorem words_cf_2 : True := by
  k_with "call ref" => (k_here; (with_reducible show wpAny _ _ (call (Value.ref 183) _) _ _ _); k_dflt (refine' config_spec ⟨?Bqat, ?Fqat, ?Xqat, ?Nqat, ?Tqat, ?dqat, ?uqat⟩ ?hl1q439fd9 ?hi1q439fd9 ?hn1q439fd9 ?hd1q439fd9 ?hl2q439fd9 ?hi2q439fd9 ?hn2q439fd9 ?hd2q439fd9 ?hl3q439fd9 ?hi3q439fd9 ?hn3q439fd9 ?hd3q439fd9 ?hl4q439fd9 ?hi4q439fd9 ?hn4q439fd9 ?hd4q439fd9 ?_; walk_at "my at"; (case hl1q439fd9 => k_mem); (case hi1q439fd9 => l_ints); (case hn1q439fd9 => walk_at "my len"); (case hd1q439fd9 => walk_at "my ids"); (case hl2q439fd9 => k_mem); (case hi2q439fd9 => l_ints); (case hn2q439fd9 => walk_at "my len"); (case hd2q439fd9 => walk_at "my ids"); (case hl3q439fd9 => k_mem); (case hi3q439fd9 => l_ints); (case hn3q439fd9 => walk_at "my len"); (case hd3q439fd9 => walk_at "my ids"); (case hl4q439fd9 => k_mem); (case hi4q439fd9 => l_ints); (case hn4q439fd9 => walk_at "my len"); (case hd4q439fd9 => walk_at "my ids"); k_whole); intro x'9 d'9 lv'9 lo'9 ll'9 ln'9 vv'9 vo'9 vl'9 vn'9 cv'9 co'9 cl'9 cn'9 t1'9 t2'9 t3'9 t4'9 t5'9 h'9 tk'9 F'9 N'9 ox9 od9 i1'9 i2'9 i3'9 i4'9; (try simp only [ids_mem, ids_nil] at i1'9 i2'9 i3'9 i4'9); (try k_sweep); (try dsimp only))
  trivial
section
variable {w : World} {mean : ExcName → Option Value} {mg mb : Str → Option Value}
   {dp un : Nat} {gd : Option (List Code)} {cn : Str} {nm : List (Str × NameKind)} {ig ic : Bool} {mo : List (Str × Const)} {a : Addr} {ccd : Value} {cl : List (Str × Addr)} {outer : List Env} {A₀ : Around} {base h₀ : Heap} {L : Addr} {m : Str → Option Value} {s : Shared} {Q E : Value → Shared → Prop} {news : List (Addr × Obj)}
theorem copy_spec (H : At 12 w mean mg mb A₀ base h₀ outer L m s news dp un)
   {x : Addr} {f : Cf} (hc : CfIn w.params news x f)
   (ret : ∀ x d lv lo ll ln vv vo vl vn cv co cl' cn' t1 t2 t3 t4 t5 h' tk', Fr h₀ L h' m →
     News h₀ L h' ((x, instObj 183 d) :: (d, cfD w.params lv lo ll ln f.au t1 t2 t3 t4 t5) :: (lv, listO vv cv) :: (lo, listO vo co) :: (ll, listO vl cl') :: (ln, listO vn cn') :: news) →
     Off (d :: lv :: lo :: ll :: ln :: news.map (·.1)) x → Off (lv :: lo :: ll :: ln :: news.map (·.1)) d → 
     IntsAre vv (ids f.v) → IntsAre vo (ids f.o) → IntsAre vl (ids f.l) → IntsAre vn (ids f.n) → Q (.ref x) { s with heap := h', toks := tk' }) :
   CallA w dp un gd cn nm ig ic mo L a ccd cl outer 131 [.ref x] Q E s := by
  have z := zz
  revert z
  k_fill
  intro _
  w_on
  obtain ⟨B, F, X, N, T, hd, hu⟩ := H
  unfold CallA
  have nextOn : NextOn := ⟨⟩
  obtain ⟨d, lv, lo, ll, ln, vv, vo, vl, vn, cv, co, cl', cn', t1, t2, t3, t4, t5, h1, h2, h3, h4, h5, h6, i1, i2, i3, i4⟩ := hc
  refine wpAny_call ?_
  have hO : ∀ p ∈ ([(x, instObj 183 d), (d, cfD w.params lv lo ll ln f.au t1 t2 t3 t4 t5), (lv, listO vv cv), (lo, listO vo co), (ll, listO vl cl'), (ln, listO vn cn')] : List (Addr × Obj)), p ∈ news := sc (h1) (sc (h2) (sc (h3) (sc (h4) (sc (h5) (sc (h6) (sn))))))
  k_dflt walk_at "own enter"
  walk_at "my steps"
  all_goals (try (k_data; done))
  rename News _ _ _ (restOf _ _) => NR
  rename News _ _ _ (_ :: _) => NK
  have NA := back_all N hO NK NR (by kcj_all)
  refine' ret _ _ _ _ _ _ _ _ _ _ _ _ _ _ _ _ _ _ _ _ _ ?f ?e1 ?e2 ?e3 ?i1 ?i2 ?i3 ?i4
  (case f => assumption)
  (case i1 => assumption)
  (case i2 => assumption)
  (case i3 => assumption)
  (case i4 => assumption)
  (case e1 => exact sub NA (by kcj_all))
  (case e2 => exact Off.cons (by k_ne) (Off.cons (by k_ne) (Off.cons (by k_ne) (Off.cons (by k_ne) (Off.cons (by k_ne) (by walk_at "my off"))))))
  (case e3 => exact Off.cons (by k_ne) (Off.cons (by k_ne) (Off.cons (by k_ne) (Off.cons (by k_ne) (by walk_at "my off")))))
theorem joint_spec (H : At 4 w mean mg mb A₀ base h₀ outer L m s news dp un)
   {x : Addr} {f : Cf} (hc : CfIn w.params news x f)
   (ret : ∀ h' tk', Fr h₀ L h' m → News h₀ L h' news → Q (.bool (decide (ids f.o ≠ []))) { s with heap := h', toks := tk' }) :
   CallA w dp un gd cn nm ig ic mo L a ccd cl outer 138 [.ref x] Q E s := by
  have z := zz
  revert z
  k_fill
  intro _
  w_on
  obtain ⟨B, F, X, N, T, hd, hu⟩ := H
  unfold CallA
  have nextOn : NextOn := ⟨⟩
  obtain ⟨d, lv, lo, ll, ln, vv, vo, vl, vn, cv, co, cl', cn', t1, t2, t3, t4, t5, h1, h2, h3, h4, h5, h6, i1, i2, i3, i4⟩ := hc
  refine wpAny_call ?_
  have hO : ∀ p ∈ ([(x, instObj 183 d), (d, cfD w.params lv lo ll ln f.au t1 t2 t3 t4 t5), (lo, listO vo co)] : List (Addr × Obj)), p ∈ news := sc (h1) (sc (h2) (sc (h4) (sn)))
  k_dflt walk_at "own enter"
  walk_at "my steps"
  all_goals (try (k_data; done))
  rename News _ _ _ (restOf _ _) => NR
  rename News _ _ _ (_ :: _) => NK
  have NA := back_all N hO NK NR (by kcj_all)
  have e : decide ((0 : Int) < (((ids f.o).length : Nat) : Int)) = decide (ids f.o ≠ []) := decide_eq_decide.mpr (by rw [← List.length_pos_iff]; omega)
  rw [e]
  exact ret _ _ (by assumption) (sub NA (by kcj_all))
theorem members_spec (H : At 8 w mean mg mb A₀ base h₀ outer L m s news dp un)
   {x : Addr} {f : Cf} (hc : CfIn w.params news x f)
   (ret : ∀ r vs' h' tk' n', Fr h₀ L h' m → News h₀ L h' ((r, listO vs' n') :: news) → Off (news.map (·.1)) r → IntsAre vs' (ids (fun i => f.v i || f.o i || f.l i)) → Q (.ref r) { s with heap := h', toks := tk' }) :
   CallA w dp un gd cn nm ig ic mo L a ccd cl outer 152 [.ref x] Q E s := by
  have z := zz
  revert z
  k_fill
  intro _
  w_on
  obtain ⟨B, F, X, N, T, hd, hu⟩ := H
  unfold CallA
  have nextOn : NextOn := ⟨⟩
  obtain ⟨d, lv, lo, ll, ln, vv, vo, vl, vn, cv, co, cl', cn', t1, t2, t3, t4, t5, h1, h2, h3, h4, h5, h6, i1, i2, i3, i4⟩ := hc
  refine wpAny_call ?_
  have hO : ∀ p ∈ ([(x, instObj 183 d), (d, cfD w.params lv lo ll ln f.au t1 t2 t3 t4 t5), (lv, listO vv cv), (lo, listO vo co), (ll, listO vl cl')] : List (Addr × Obj)), p ∈ news := sc (h1) (sc (h2) (sc (h3) (sc (h4) (sc (h5) (sn)))))
  k_dflt walk_at "own enter"
  walk_at "my steps"
  all_goals (try (k_data; done))
  rename News _ _ _ (restOf _ _) => NR
  rename News _ _ _ (_ :: _) => NK
  have NA := back_all N hO NK NR (by kcj_all)
  exact ret _ _ _ _ _ (by assumption) (sub NA (by kcj_all)) (by walk_at "my off") (by assumption)
theorem all_voters_spec (H : At 8 w mean mg mb A₀ base h₀ outer L m s news dp un)
   {x : Addr} {f : Cf} (hc : CfIn w.params news x f)
   (ret : ∀ r vs' h' tk' n', Fr h₀ L h' m → News h₀ L h' ((r, listO vs' n') :: news) → Off (news.map (·.1)) r → IntsAre vs' (ids (fun i => f.v i || f.o i)) → Q (.ref r) { s with heap := h', toks := tk' }) :
   CallA w dp un gd cn nm ig ic mo L a ccd cl outer 145 [.ref x] Q E s := by
  have z := zz
  revert z
  k_fill
  intro _
  w_on
  obtain ⟨B, F, X, N, T, hd, hu⟩ := H
  unfold CallA
  have nextOn : NextOn := ⟨⟩
  obtain ⟨d, lv, lo, ll, ln, vv, vo, vl, vn, cv, co, cl', cn', t1, t2, t3, t4, t5, h1, h2, h3, h4, h5, h6, i1, i2, i3, i4⟩ := hc
  refine wpAny_call ?_
  have hO : ∀ p ∈ ([(x, instObj 183 d), (d, cfD w.params lv lo ll ln f.au t1 t2 t3 t4 t5), (lv, listO vv cv), (lo, listO vo co)] : List (Addr × Obj)), p ∈ news := sc (h1) (sc (h2) (sc (h3) (sc (h4) (sn))))
  k_dflt walk_at "own enter"
  walk_at "my steps"
  all_goals (try (k_data; done))
  rename News _ _ _ (restOf _ _) => NR
  rename News _ _ _ (_ :: _) => NK
  have NA := back_all N hO NK NR (by kcj_all)
  exact ret _ _ _ _ _ (by assumption) (sub NA (by kcj_all)) (by walk_at "my off") (by assumption)
theorem without_spec (H : At 4 w mean mg mb A₀ base h₀ outer L m s news dp un)
   {l : Addr} {vs : List Value} {f : Int → Bool} {n : Nat} {k : Int} {tk : Tok}
   (hl : (l, listO vs n) ∈ news) (hi : IntsAre vs (ids f))
   (ret : ∀ r vs' h' tk' n', Fr h₀ L h' m → News h₀ L h' ((r, listO vs' n') :: news) → Off (news.map (·.1)) r → IntsAre vs' (ids (fun i => f i && i != k)) → Q (.ref r) { s with heap := h', toks := tk' }) :
   CallA w dp un gd cn nm ig ic mo L a ccd cl outer 199 [.ref l, .int k tk] Q E s := by
  have z := zz
  revert z
  k_fill
  intro _
  w_on
  obtain ⟨B, F, X, N, T, hd, hu⟩ := H
  unfold CallA
  have nextOn : NextOn := ⟨⟩
  have hn := ids_le f
  refine wpAny_call ?_
  have hO : ∀ p ∈ ([] : List (Addr × Obj)), p ∈ news := sn
  k_dflt walk_at "own cells"
  rename (∀ p ∈ restOf _ _, _) => hG
  have hLst := rest_list hG hl (by simp)
  walk_at "my steps"
  all_goals (try (k_data; done))
  rename News _ _ _ (restOf _ _) => NR
  rename News _ _ _ (_ :: _) => NK
  have NA := back_all N hO NK NR (by kcj_all)
  rename IntsAre _ (List.map _ _) => iR
  rw [List.map_id', ids_without] at iR
  exact ret _ _ _ _ _ (by assumption) (sub NA (by kcj_all)) (off_all hG (by assumption) (an)) iR
theorem added_spec (H : At 8 w mean mg mb A₀ base h₀ outer L m s news dp un)
   {l : Addr} {vs : List Value} {f : Int → Bool} {n : Nat} {k : Int} {tk : Tok}
   (hl : (l, listO vs n) ∈ news) (hi : IntsAre vs (ids f)) (hk : k ∈ IDs)
   (ret : ∀ r vs' h' tk' n', Fr h₀ L h' m → News h₀ L h' ((r, listO vs' n') :: news) → Off (news.map (·.1)) r → IntsAre vs' (ids (fun i => f i || i == k)) → Q (.ref r) { s with heap := h', toks := tk' }) :
   CallA w dp un gd cn nm ig ic mo L a ccd cl outer 194 [.ref l, .int k tk] Q E s := by
  have z := zz
  revert z
  k_fill
  intro _
  w_on
  obtain ⟨B, F, X, N, T, hd, hu⟩ := H
  unfold CallA
  have nextOn : NextOn := ⟨⟩
  refine wpAny_call ?_
  have hO : ∀ p ∈ ([(l, listO vs n)] : List (Addr × Obj)), p ∈ news := sc (hl) (sn)
  k_dflt walk_at "own enter"
  walk_at "my steps"
  all_goals (try (k_data; done))
  rename News _ _ _ (restOf _ _) => NR
  rename News _ _ _ (_ :: _) => NK
  have NA := back_all N hO NK NR (by kcj_all)
  exact ret _ _ _ _ _ (by assumption) (sub NA (by kcj_all)) (by walk_at "my off") (by assumption)
end
theorem all_in {A B : List Int} {k : Int} (h : ∀ i ∈ A, i ∈ B) (hk : k ∈ A) : k ∈ B := h _ hk
theorem all_notin {A B : List Int} {k : Int} (h : ∀ i ∈ A, i ∉ B) (hk : k ∈ A) : k ∉ B := h _ hk
theorem not_id {f : Int → Bool} {k : Int} (h : k ∉ IDs) : k ∉ ids f := fun z => h (mem_ids.mp z).1
section
variable {prog : Program} {w : World} {A : Around} {E : Value → Shared → Prop} {s : Shared} {l : Addr} {vs : List Value} {ns : List Int} {k : Int} {t : Tok} {Q : Value → Shared → Prop}
theorem any_dec (ns : List Int) (k : Int) : ns.any (· == k) = decide (k ∈ ns) := by
  rw [Bool.eq_iff_iff, List.any_eq_true, decide_eq_true_eq]
  constructor
  · rintro ⟨x, hx, e⟩
    rw [← eq_of_beq e]; exact hx
  · intro h; exact ⟨k, h, by simp⟩
theorem in_dec (hl : s.heap.IsList l vs.toArray) (hi : IntsAre vs ns) (h : Q (.bool (decide (k ∈ ns))) s) : wpAny (model prog w) A (compareOp .In (.int k t) (.ref l)) Q E s := in_list_ints hl hi (by rw [any_dec]; exact h)
theorem in_yes (hl : s.heap.IsList l vs.toArray) (hi : IntsAre vs ns) (hk : k ∈ ns) (h : Q (.bool true) s) : wpAny (model prog w) A (compareOp .In (.int k t) (.ref l)) Q E s := in_dec hl hi (by rw [decide_eq_true hk]; exact h)
theorem in_no (hl : s.heap.IsList l vs.toArray) (hi : IntsAre vs ns) (hk : k ∉ ns) (h : Q (.bool false) s) : wpAny (model prog w) A (compareOp .In (.int k t) (.ref l)) Q E s := in_dec hl hi (by rw [decide_eq_false hk]; exact h)
theorem truthy_dec {f : Int → Bool} {Q : Bool → Shared → Prop} (hl : s.heap.IsList l vs.toArray) (hi : IntsAre vs (ids f)) (h : ∀ tk, Q (decide (ids f ≠ [])) { s with toks := tk }) : wpAny (model prog w) A (truthy (.ref l)) Q E s := by
  have e : vs.toArray.size = (ids f).length := by rw [List.size_toArray, IntsAre.length hi]
  refine wpAny_truthy_list hl (by rw [e]; exact ids_fit f) ?_
  have e2 : (!vs.toArray.isEmpty) = decide (ids f ≠ []) := by
    unfold Array.isEmpty
    rw [e, Bool.eq_iff_iff, decide_eq_true_eq, ← List.length_pos_iff, Bool.not_eq_true', decide_eq_false_iff_not]
    omega
  rw [e2]
  exact h _
theorem truthy_yes {f : Int → Bool} {Q : Bool → Shared → Prop} (hl : s.heap.IsList l vs.toArray) (hi : IntsAre vs (ids f)) (hne : ids f ≠ []) (h : ∀ tk, Q true { s with toks := tk }) : wpAny (model prog w) A (truthy (.ref l)) Q E s := truthy_dec hl hi (by rw [decide_eq_true hne]; exact h)
theorem truthy_no {f : Int → Bool} {Q : Bool → Shared → Prop} (hl : s.heap.IsList l vs.toArray) (hi : IntsAre vs (ids f)) (hne : ids f = []) (h : ∀ tk, Q false { s with toks := tk }) : wpAny (model prog w) A (truthy (.ref l)) Q E s := truthy_dec hl hi (by rw [decide_eq_false (fun z => z hne)]; exact h)
theorem notin_dec (hl : s.heap.IsList l vs.toArray) (hi : IntsAre vs ns) (h : Q (.bool (!decide (k ∈ ns))) s) : wpAny (model prog w) A (compareOp .NotIn (.int k t) (.ref l)) Q E s := notin_list_ints hl hi (by rw [any_dec]; exact h)
theorem notin_no (hl : s.heap.IsList l vs.toArray) (hi : IntsAre vs ns) (hk : k ∈ ns) (h : Q (.bool false) s) : wpAny (model prog w) A (compareOp .NotIn (.int k t) (.ref l)) Q E s := notin_dec hl hi (by rw [decide_eq_true hk]; exact h)
theorem notin_yes (hl : s.heap.IsList l vs.toArray) (hi : IntsAre vs ns) (hk : k ∉ ns) (h : Q (.bool true) s) : wpAny (model prog w) A (compareOp .NotIn (.int k t) (.ref l)) Q E s := notin_dec hl hi (by rw [decide_eq_false hk]; exact h)
end
theorem words_check_1 : True := by
  k_with "my cf" => first | assumption | exact CfIn.mk' (by k_mem) (by k_mem) (by k_mem) (by k_mem) (by k_mem) (by k_mem) (by k_asm) (by k_asm) (by k_asm) (by k_asm) | exact ⟨_, _, _, _, _, _, _, _, _, _, _, _, _, _, _, _, _, _, by k_mem, by k_mem, by k_mem, by k_mem, by k_mem, by k_mem, by assumption, by assumption, by assumption, by assumption⟩
  k_with "call ref" => (k_here; (with_reducible show wpAny _ _ (call (Value.ref 152) _) _ _ _); k_dflt (refine' members_spec (f := ⟨_, _, _, _, _⟩) ⟨?Bqat, ?Fqat, ?Xqat, ?Nqat, ?Tqat, ?dqat, ?uqat⟩ ?hcqa9ca0c ?_; walk_at "my at"; (case hcqa9ca0c => walk_at "my cf"); k_whole); intro r'9 vs'9 h'9 tk'9 n'9 F'9 N'9 l19 i'9; walk_at "my off in"; (try k_sweep); (try dsimp only))
  k_with "call ref" => (k_here; (with_reducible show wpAny _ _ (call (Value.ref 138) _) _ _ _); k_dflt (refine' joint_spec (f := ⟨_, _, _, _, _⟩) ⟨?Bqat, ?Fqat, ?Xqat, ?Nqat, ?Tqat, ?dqat, ?uqat⟩ ?hcq5856a5 ?_; walk_at "my at"; (case hcq5856a5 => walk_at "my cf"); k_whole); intro h'9 tk'9 F'9 N'9; (try k_sweep); (try dsimp only))
  k_with "my in" => first | assumption | exact all_in (by k_asm) (by k_asm) | exact all_notin (by k_asm) (by k_asm) | exact not_id (by decide)
  k_with "truthy ref" => (k_here; k_dflt (first | (refine' truthy_yes ?lqc667f1 ?iqc667f1 ?hqc667f1 ?_; (case lqc667f1 => exact News.isList (by k_asm) (by k_mem)); (case iqc667f1 => assumption); (case hqc667f1 => assumption); k_whole) | (refine' truthy_no ?lqc667f1 ?iqc667f1 ?hqc667f1 ?_; (case lqc667f1 => exact News.isList (by k_asm) (by k_mem)); (case iqc667f1 => assumption); (case hqc667f1 => assumption); k_whole) | (refine' truthy_dec ?lqc667f1 ?iqc667f1 ?_; (case lqc667f1 => exact News.isList (by k_asm) (by k_mem)); (case iqc667f1 => assumption); k_whole)); intro tk'9; (try dsimp only))
  k_with "compareOp In int ref" => (k_here; k_dflt (first | (refine' in_yes ?lq6d0cc0 ?iq6d0cc0 ?hq6d0cc0 ?_; (case lq6d0cc0 => exact News.isList (by k_asm) (by k_mem)); (case iq6d0cc0 => assumption); (case hq6d0cc0 => walk_at "my in"); k_whole) | (refine' in_no ?lq6d0cc0 ?iq6d0cc0 ?hq6d0cc0 ?_; (case lq6d0cc0 => exact News.isList (by k_asm) (by k_mem)); (case iq6d0cc0 => assumption); (case hq6d0cc0 => walk_at "my in"); k_whole) | (refine' in_dec ?lq6d0cc0 ?iq6d0cc0 ?_; (case lq6d0cc0 => exact News.isList (by k_asm) (by k_mem)); (case iq6d0cc0 => assumption); k_whole)))
  k_with "compareOp NotIn int ref" => (k_here; k_dflt (first | (refine' notin_no ?lq842e90 ?iq842e90 ?hq842e90 ?_; (case lq842e90 => exact News.isList (by k_asm) (by k_mem)); (case iq842e90 => assumption); (case hq842e90 => walk_at "my in"); k_whole) | (refine' notin_yes ?lq842e90 ?iq842e90 ?hq842e90 ?_; (case lq842e90 => exact News.isList (by k_asm) (by k_mem)); (case iq842e90 => assumption); (case hq842e90 => walk_at "my in"); k_whole) | (refine' notin_dec ?lq842e90 ?iq842e90 ?_; (case lq842e90 => exact News.isList (by k_asm) (by k_mem)); (case iq842e90 => assumption); k_whole)))
  trivial
/-- a configuration that check() lets pass -/
structure Sound (f : Cf) : Prop where
  n : ∀ i ∈ ids f.n, i ∈ ids f.o ∧ i ∉ ids f.l ∧ i ∉ ids f.v
  l : ∀ i ∈ ids f.l, i ∉ ids f.v ∧ i ∉ ids f.o
  j : ids f.o = [] → f.au = false
section
variable {w : World} {mean : ExcName → Option Value} {mg mb : Str → Option Value}
   {dp un : Nat} {gd : Option (List Code)} {cn : Str} {nm : List (Str × NameKind)} {ig ic : Bool} {mo : List (Str × Const)} {a : Addr} {ccd : Value} {cl : List (Str × Addr)} {outer : List Env} {A₀ : Around} {base h₀ : Heap} {L : Addr} {m : Str → Option Value} {s : Shared} {Q E : Value → Shared → Prop} {news : List (Addr × Obj)}
theorem check_spec (H : At 12 w mean mg mb A₀ base h₀ outer L m s news dp un)
   {x : Addr} {f : Cf} (hc : CfIn w.params news x f) (hs : Sound f)
   (ret : ∀ h' tk', Fr h₀ L h' m → News h₀ L h' news → Q .none { s with heap := h', toks := tk' }) :
   CallA w dp un gd cn nm ig ic mo L a ccd cl outer 180 [.ref x] Q E s := by
  have z := zz
  revert z
  k_fill
  intro _
  w_on
  obtain ⟨B, F, X, N, T, hd, hu⟩ := H
  unfold CallA
  have nextOn : NextOn := ⟨⟩
  obtain ⟨d, lv, lo, ll, ln, vv, vo, vl, vn, cv, co, cl', cn', t1, t2, t3, t4, t5, h1, h2, h3, h4, h5, h6, i1, i2, i3, i4⟩ := hc
  have c1 : ∀ i ∈ ids f.n, i ∈ ids f.o := fun i h => (hs.n i h).1
  have c2 : ∀ i ∈ ids f.n, i ∉ ids f.l := fun i h => (hs.n i h).2.1
  have c3 : ∀ i ∈ ids f.n, i ∉ ids f.v := fun i h => (hs.n i h).2.2
  have c4 : ∀ i ∈ ids f.l, i ∉ ids f.v := fun i h => (hs.l i h).1
  have c5 : ∀ i ∈ ids f.l, i ∉ ids f.o := fun i h => (hs.l i h).2
  refine wpAny_call ?_
  have hO : ∀ p ∈ ([(x, instObj 183 d), (d, cfD w.params lv lo ll ln f.au t1 t2 t3 t4 t5), (lv, listO vv cv), (lo, listO vo co), (ll, listO vl cl'), (ln, listO vn cn')] : List (Addr × Obj)), p ∈ news := sc (h1) (sc (h2) (sc (h3) (sc (h4) (sc (h5) (sc (h6) (sn))))))
  k_with "pyIter ref" => k_search (fun _ => True)
  k_with "state" => trivial
  k_dflt walk_at "own enter"
  walk_at "my steps"
  k_with_none
  k_with "mem" => with_reducible first | exact mem0 | exact mem1 | exact mem2 | exact mem3 | exact mem4 | exact mem5 | exact mem6 | exact mem7 | (refine mem8 ?_; k_extra "mem") | (refine old0 ?_; assumption) | (refine old1 ?_; assumption) | (refine old2 ?_; assumption) | (refine old3 ?_; assumption) | (refine old4 ?_; assumption) | (refine old5 ?_; assumption) | (refine old6 ?_; assumption) | (refine old7 ?_; assumption) | (refine' mf0 ?hzq6f78c7; (case hzq6f78c7 => k_extra "mem")) | (refine' mf1 ?hzq6f78c7; (case hzq6f78c7 => k_extra "mem")) | (refine' mf2 ?hzq6f78c7; (case hzq6f78c7 => k_extra "mem")) | (refine' mf3 ?hzq6f78c7; (case hzq6f78c7 => k_extra "mem")) | (refine' mf4 ?hzq6f78c7; (case hzq6f78c7 => k_extra "mem")) | (refine' mf5 ?hzq6f78c7; (case hzq6f78c7 => k_extra "mem")) | (refine' mf6 ?hzq6f78c7; (case hzq6f78c7 => k_extra "mem")) | (refine' mf7 ?hzq6f78c7; (case hzq6f78c7 => k_extra "mem"))
  k_with "lib k_room" => first | ((try simp only [depth_under_make, depth_under_kw, depth_in1, depth_deeper, depth_caller]); (try dsimp only [ktrTop]); omega) | ktr_room
  k_with "lib passes_own" => first | (refine passes_gen (by k_asm) ?_; passes_own) | (refine passes_genAt (by k_asm) ?_; passes_own)
  k_with "my memall" => first | exact sn | (refine sc ?haqcd54cd ?hbqcd54cd; (case haqcd54cd => k_mem); (case hbqcd54cd => k_extra "my memall")) | k_extra "my lam"
  k_with "my lam" => first | (with_reducible first | exact lm0 | exact lm1 | exact lm2 | exact lm3 | exact lm4 | exact lm5 | exact lm6 | exact lm7) | (with_reducible refine lm8 ?_; k_extra "my lam") | (intro p9 hp9; k_extra "my lamb")
  k_with "my lamb" => first | (refine old0 ?_; assumption) | (refine old1 ?_; assumption) | (refine old2 ?_; assumption) | (refine old3 ?_; assumption) | (refine old4 ?_; assumption) | (refine old5 ?_; assumption) | (refine old6 ?_; assumption) | (refine old7 ?_; assumption) | (refine mem8 ?_; k_extra "my lamb")
  k_with "execs cons" => ((with_reducible rename NextOn => hz9); first | (k_here; k_gentoks) | (k_here; k_made; walk_at "execs cons") | ((with_reducible refine execs_own ?_); (try dsimp only)))
  k_with "storeName" => ((with_reducible rename NextOn => hz9); k_here; k_dflt (refine' storeX_P ?Fq0f858c ?Nq0f858c ?_ ?aq0f858c ?bq0f858c; (case Fq0f858c => k_asm); (case Nq0f858c => k_asm); (case aq0f858c => rfl); (case bq0f858c => rfl); k_whole; intro h'9 F'9 N'9; (try k_sweep)))
  k_with "my ice" => (refine frz ?_; intro Gice9 hGice9)
  k_with "my thaw" => (refine thaw (by k_asm) ?_; (repeat ((with_reducible rename Ice _ _ => hz9); clear hz9)))
  k_with "my gen" => (refine wp_gen ?_; intro Qz9 Ez9 hQz9 hEz9)
  k_with "my post" => ((try walk_at "my thaw"); refine wp_gen2 ?_; intro Qz9 hQz9)
  k_with "own enter" => (refine' code_own _ ?k1q4d565a ?k2q4d565a ?k3q4d565a ?k4q4d565a ?kOq4d565a ?k5q4d565a ?kAq4d565a ?kFq4d565a ?kKq4d565a ?k6q4d565a ?k7q4d565a ?k8q4d565a ?k9q4d565a ?kBq4d565a ?_ ?c2q4d565a ?c3q4d565a ?c4q4d565a ?c5q4d565a; (case kOq4d565a => k_asm); (case kAq4d565a => exact rfl); (case kFq4d565a => exact rfl); (case kKq4d565a => exact rfl); (case k1q4d565a => k_asm); (case k2q4d565a => k_asm); (case k3q4d565a => k_asm); (case k4q4d565a => k_asm); (case k5q4d565a => k_asm); (case k6q4d565a => k_is); (case k7q4d565a => k_is); (case k8q4d565a => k_room); (case k9q4d565a => first | exact BindsTo.of_eq rfl | exact binds_K (by k_in) rfl (by k_is) rfl rfl rfl | fail "own enter: no rule for these arguments"); (case c5q4d565a => decide); (case kBq4d565a => exact locs rfl); (case c2q4d565a => exact rfl); (case c3q4d565a => exact rfl); (case c4q4d565a => exact rfl); k_whole; intro g'9 L'9 h'9 FG'9 F'9 N'9 B'9 X'9 T'9 hG9 hL9 hX9; (try first | replace F'9 := fr_look (l := [(_, _)]) F'9 rfl | replace F'9 := fr_look (l := [(_, _), (_, _)]) F'9 rfl | replace F'9 := fr_look (l := [(_, _), (_, _), (_, _)]) F'9 rfl | replace F'9 := fr_look (l := [(_, _), (_, _), (_, _), (_, _)]) F'9 rfl | replace F'9 := fr_look (l := [(_, _), (_, _), (_, _), (_, _), (_, _)]) F'9 rfl | replace F'9 := fr_look (l := [(_, _), (_, _), (_, _), (_, _), (_, _), (_, _)]) F'9 rfl); (try dsimp only); (try k_fold); walk_at "my gen")
  k_with "own cells" => (refine' code_ownC _ ?k1q8b65d0 ?k2q8b65d0 ?k3q8b65d0 ?k4q8b65d0 ?kOq8b65d0 ?k5q8b65d0 ?kAq8b65d0 ?kFq8b65d0 ?kKq8b65d0 ?k6q8b65d0 ?k7q8b65d0 ?k8q8b65d0 ?k9q8b65d0 ?kBq8b65d0 ?kDq8b65d0 ?_ ?c2q8b65d0 ?c3q8b65d0 ?c4q8b65d0; (case kOq8b65d0 => k_asm); (case kAq8b65d0 => exact rfl); (case kFq8b65d0 => exact rfl); (case kKq8b65d0 => exact rfl); (case k1q8b65d0 => k_asm); (case k2q8b65d0 => k_asm); (case k3q8b65d0 => k_asm); (case k4q8b65d0 => k_asm); (case k5q8b65d0 => k_asm); (case k6q8b65d0 => k_is); (case k7q8b65d0 => k_is); (case k8q8b65d0 => k_room); (case k9q8b65d0 => first | exact BindsTo.of_eq rfl | exact binds_K (by k_in) rfl (by k_is) rfl rfl rfl | fail "own cells: no rule for these arguments"); (case kBq8b65d0 => exact rfl); (case kDq8b65d0 => decide +kernel); (case c2q8b65d0 => exact rfl); (case c3q8b65d0 => exact rfl); (case c4q8b65d0 => exact rfl); k_whole; intro g'9 L'9 h'9 tk'9 cells'9 FG'9 F'9 N'9 Y'9 B'9 X'9 T'9 hG9 hL9 hX9; (k_lt hL9); k_cells Y'9; (try simp only [List.cons_append, List.nil_append] at N'9); (try dsimp only); (try k_fold); walk_at "my gen")
  k_with "my steps" => ((try walk_at "my thaw"); repeat' (first | ((with_reducible first | refine nextK.next ?_ | refine nextK.ret ?_ | refine nextK.brk ?_ | refine nextK.cont ?_); (try dsimp only)) | (k_unfold; (try dsimp only)) | walk1 | (dsimp only; walk1) | (refine Goes.use (by k_asm) ?_; (try dsimp only)) | (leave1; walk_say "STEP leave1"; try dsimp only) | fail "no step"))
  k_with "call builtin:list.append" => (k_here; k_dflt (refine' append_K ?k1qcd4a31 ?k2qcd4a31 ?k3qcd4a31 ?_ ?zqcd4a31; (case k1qcd4a31 => k_asm); (case k2qcd4a31 => k_asm); (case k3qcd4a31 => k_upd); (case zqcd4a31 => size_fits); k_whole); intro h'9 F'9 N'9; (try k_sweep))
  k_with "InvEndN" => k_dflt kst_close
  k_with "lib k_ne" => first | exact Off.useL (by k_asm) (by k_extra "mem") | exact Off.use (by k_asm) (by k_extra "mem") | exact Off.useL' (by k_asm) (by k_extra "mem") | exact Off.use' (by k_asm) (by k_extra "mem") | ((refine neN ?_); (try dsimp only); first | assumption | exact Off.use (by k_asm) (by k_extra "mem") | exact Off.use' (by k_asm) (by k_extra "mem") | exact Ne.symm (by k_asm) | omega)
  k_with "my at" => ((case Bqat => k_asm); (case Fqat => k_asm); (case Xqat => k_asm); (case Nqat => k_asm); (case Tqat => k_asm); (case dqat => k_room); (case uqat => walk_at "my units"))
  k_with "my units" => ((have hcL99 := cLine_is); (try simp only [units_in1, units_deeper, units_under_make, Around.mark_units, units_caller]); (try dsimp only [ktrTop]); omega)
  k_with "my off" => exact off_all (by k_asm) (News.fresh (by k_asm) (by k_mem)) (by k_all)
  k_with "lib k_all" => first | exact nn | (refine' nc ?aq218612 ?bq218612; (case aq218612 => k_ne); (case bq218612 => k_all)) | exact an | (refine' ac ?aq218612 ?bq218612; (case aq218612 => k_ne); (case bq218612 => k_all)) | kst_allNe
  k_with "my ids" => first | assumption | exact in_ids _ | exact in_nil | exact in_app (by walk_at "my ids") (by walk_at "my ids") | exact in_cons (by first | assumption | decide) (by walk_at "my ids")
  k_with "my bnd" => first | exact ids_le _ | exact len_nil_le | exact len_app_le (by walk_at "my bnd") (by walk_at "my bnd") | exact len_cons_le (by walk_at "my bnd")
  k_with "my len" => first | exact Nat.lt_of_le_of_lt (by walk_at "my bnd") (by decide) | assumption | omega
  k_with "lib kmk_sum" => exact Nat.le_trans (Nat.add_le_add (by walk_at "my bnd") (by walk_at "my bnd")) (by rw [sizeLine_eq]; decide)
  k_with "call builtin:len" => (k_here; (with_reducible show wpAny _ _ (call (Value.builtin "len") [Value.ref _]) _ _ _); k_dflt (refine' kst_len ?k1q883c1e ?k2q883c1e ?k3q883c1e ?k4q883c1e ?_; (case k1q883c1e => k_asm); (case k2q883c1e => k_memK); (case k3q883c1e => exact IntsAre.length (by k_asm)); (case k4q883c1e => first | exact ids_fit _ | (have := ids_le; omega)); k_whole))
  k_with "my off in" => skip
  k_with "call ref" => (k_here; (with_reducible show wpAny _ _ (call (Value.ref 77) _) _ _ _); k_dflt (refine' rising_spec ⟨?Bqat, ?Fqat, ?Xqat, ?Nqat, ?Tqat, ?dqat, ?uqat⟩ ?hlq19baf8 ?hiq19baf8 ?hnq19baf8 ?hidq19baf8 ?_; walk_at "my at"; (case hlq19baf8 => k_mem); (case hiq19baf8 => l_ints); (case hnq19baf8 => walk_at "my len"); (case hidq19baf8 => walk_at "my ids"); k_whole); intro r'9 vs'9 h'9 tk'9 n'9 F'9 N'9 l19 i'9; walk_at "my off in"; (try simp only [ids_mem, ids_app2, ids_app3, ids_add, ids_nil] at i'9); (try k_sweep); (try dsimp only))
  k_with "call type:tuple" => (k_here; (with_reducible show wpAny _ _ (call (Value.type _) [Value.ref _]) _ _ _); k_dflt (refine' kde_tupleOf ?k1qe60330 ?k2qe60330 ?k3qe60330 ?k4qe60330 toL ?_; (case k1qe60330 => k_asm); (case k2qe60330 => k_asm); (case k3qe60330 => exact News.isList (by k_asm) (by k_mem)); (case k4qe60330 => exact small_ids (by k_asm)); k_whole); intro D'9 h'9 F'9 N'9 l19; (try k_lt l19); (try k_sweep); (try dsimp only))
  k_with "call ref" => (k_here; (with_reducible show wpAny _ _ (call (Value.ref 183) _) _ _ _); k_dflt (refine' config_spec ⟨?Bqat, ?Fqat, ?Xqat, ?Nqat, ?Tqat, ?dqat, ?uqat⟩ ?hl1q439fd9 ?hi1q439fd9 ?hn1q439fd9 ?hd1q439fd9 ?hl2q439fd9 ?hi2q439fd9 ?hn2q439fd9 ?hd2q439fd9 ?hl3q439fd9 ?hi3q439fd9 ?hn3q439fd9 ?hd3q439fd9 ?hl4q439fd9 ?hi4q439fd9 ?hn4q439fd9 ?hd4q439fd9 ?_; walk_at "my at"; (case hl1q439fd9 => k_mem); (case hi1q439fd9 => l_ints); (case hn1q439fd9 => walk_at "my len"); (case hd1q439fd9 => walk_at "my ids"); (case hl2q439fd9 => k_mem); (case hi2q439fd9 => l_ints); (case hn2q439fd9 => walk_at "my len"); (case hd2q439fd9 => walk_at "my ids"); (case hl3q439fd9 => k_mem); (case hi3q439fd9 => l_ints); (case hn3q439fd9 => walk_at "my len"); (case hd3q439fd9 => walk_at "my ids"); (case hl4q439fd9 => k_mem); (case hi4q439fd9 => l_ints); (case hn4q439fd9 => walk_at "my len"); (case hd4q439fd9 => walk_at "my ids"); k_whole); intro x'9 d'9 lv'9 lo'9 ll'9 ln'9 vv'9 vo'9 vl'9 vn'9 cv'9 co'9 cl'9 cn'9 t1'9 t2'9 t3'9 t4'9 t5'9 h'9 tk'9 F'9 N'9 ox9 od9 i1'9 i2'9 i3'9 i4'9; (try simp only [ids_mem, ids_nil] at i1'9 i2'9 i3'9 i4'9); (try k_sweep); (try dsimp only))
  k_with "my cf" => first | assumption | exact CfIn.mk' (by k_mem) (by k_mem) (by k_mem) (by k_mem) (by k_mem) (by k_mem) (by k_asm) (by k_asm) (by k_asm) (by k_asm) | exact ⟨_, _, _, _, _, _, _, _, _, _, _, _, _, _, _, _, _, _, by k_mem, by k_mem, by k_mem, by k_mem, by k_mem, by k_mem, by assumption, by assumption, by assumption, by assumption⟩
  k_with "call ref" => (k_here; (with_reducible show wpAny _ _ (call (Value.ref 152) _) _ _ _); k_dflt (refine' members_spec (f := ⟨_, _, _, _, _⟩) ⟨?Bqat, ?Fqat, ?Xqat, ?Nqat, ?Tqat, ?dqat, ?uqat⟩ ?hcqa9ca0c ?_; walk_at "my at"; (case hcqa9ca0c => walk_at "my cf"); k_whole); intro r'9 vs'9 h'9 tk'9 n'9 F'9 N'9 l19 i'9; walk_at "my off in"; (try k_sweep); (try dsimp only))
  k_with "call ref" => (k_here; (with_reducible show wpAny _ _ (call (Value.ref 138) _) _ _ _); k_dflt (refine' joint_spec (f := ⟨_, _, _, _, _⟩) ⟨?Bqat, ?Fqat, ?Xqat, ?Nqat, ?Tqat, ?dqat, ?uqat⟩ ?hcq5856a5 ?_; walk_at "my at"; (case hcq5856a5 => walk_at "my cf"); k_whole); intro h'9 tk'9 F'9 N'9; (try k_sweep); (try dsimp only))
  k_with "my in" => first | assumption | exact all_in (by k_asm) (by k_asm) | exact all_notin (by k_asm) (by k_asm) | exact not_id (by decide)
  k_with "truthy ref" => (k_here; k_dflt (first | (refine' truthy_yes ?lqc667f1 ?iqc667f1 ?hqc667f1 ?_; (case lqc667f1 => exact News.isList (by k_asm) (by k_mem)); (case iqc667f1 => assumption); (case hqc667f1 => assumption); k_whole) | (refine' truthy_no ?lqc667f1 ?iqc667f1 ?hqc667f1 ?_; (case lqc667f1 => exact News.isList (by k_asm) (by k_mem)); (case iqc667f1 => assumption); (case hqc667f1 => assumption); k_whole) | (refine' truthy_dec ?lqc667f1 ?iqc667f1 ?_; (case lqc667f1 => exact News.isList (by k_asm) (by k_mem)); (case iqc667f1 => assumption); k_whole)); intro tk'9; (try dsimp only))
  k_with "compareOp In int ref" => (k_here; k_dflt (first | (refine' in_yes ?lq6d0cc0 ?iq6d0cc0 ?hq6d0cc0 ?_; (case lq6d0cc0 => exact News.isList (by k_asm) (by k_mem)); (case iq6d0cc0 => assumption); (case hq6d0cc0 => walk_at "my in"); k_whole) | (refine' in_no ?lq6d0cc0 ?iq6d0cc0 ?hq6d0cc0 ?_; (case lq6d0cc0 => exact News.isList (by k_asm) (by k_mem)); (case iq6d0cc0 => assumption); (case hq6d0cc0 => walk_at "my in"); k_whole) | (refine' in_dec ?lq6d0cc0 ?iq6d0cc0 ?_; (case lq6d0cc0 => exact News.isList (by k_asm) (by k_mem)); (case iq6d0cc0 => assumption); k_whole)))
  k_with "compareOp NotIn int ref" => (k_here; k_dflt (first | (refine' notin_no ?lq842e90 ?iq842e90 ?hq842e90 ?_; (case lq842e90 => exact News.isList (by k_asm) (by k_mem)); (case iq842e90 => assumption); (case hq842e90 => walk_at "my in"); k_whole) | (refine' notin_yes ?lq842e90 ?iq842e90 ?hq842e90 ?_; (case lq842e90 => exact News.isList (by k_asm) (by k_mem)); (case iq842e90 => assumption); (case hq842e90 => walk_at "my in"); k_whole) | (refine' notin_dec ?lq842e90 ?iq842e90 ?_; (case lq842e90 => exact News.isList (by k_asm) (by k_mem)); (case iq842e90 => assumption); k_whole)))
  all_goals (try (k_data; done))
  · rename News _ _ _ (restOf _ _) => NR
    rename News _ _ _ (_ :: _) => NK
    exact ret _ _ (by assumption) (sub (back_all N hO NK NR (by kcj_all)) (by kcj_all))
  · exfalso
    rename (f.au = true) => q1
    rename (¬ (ids f.o ≠ [])) => q2
    rw [hs.j (Decidable.not_not.mp q2)] at q1
    cases q1
  · rename News _ _ _ (restOf _ _) => NR
    rename News _ _ _ (_ :: _) => NK
    exact ret _ _ (by assumption) (sub (back_all N hO NK NR (by kcj_all)) (by kcj_all))
end
theorem words_check_2 : True := by
  k_with "my sound" => assumption
  k_with "call ref" => (k_here; (with_reducible show wpAny _ _ (call (Value.ref 180) _) _ _ _); k_dflt (refine' check_spec (f := ⟨_, _, _, _, _⟩) ⟨?Bqat, ?Fqat, ?Xqat, ?Nqat, ?Tqat, ?dqat, ?uqat⟩ ?hcqf02c94 ?hsqf02c94 ?_; walk_at "my at"; (case hcqf02c94 => walk_at "my cf"); (case hsqf02c94 => walk_at "my sound"); k_whole); intro h'9 tk'9 F'9 N'9; (try k_sweep); (try dsimp only))
  k_with "call ref" => (k_here; (with_reducible show wpAny _ _ (call (Value.ref 131) _) _ _ _); k_dflt (refine' copy_spec (f := ⟨_, _, _, _, _⟩) ⟨?Bqat, ?Fqat, ?Xqat, ?Nqat, ?Tqat, ?dqat, ?uqat⟩ ?hcq7f3544 ?_; walk_at "my at"; (case hcq7f3544 => walk_at "my cf"); k_whole); intro x'9 d'9 lv'9 lo'9 ll'9 ln'9 vv'9 vo'9 vl'9 vn'9 cv'9 co'9 cl'9 cn'9 t1'9 t2'9 t3'9 t4'9 t5'9 h'9 tk'9 F'9 N'9 ox9 od9 i1'9 i2'9 i3'9 i4'9; (try dsimp only at N'9 i1'9 i2'9 i3'9 i4'9); (try k_sweep); (try dsimp only))
  k_with "call ref" => (k_here; (with_reducible show wpAny _ _ (call (Value.ref 199) _) _ _ _); k_dflt (refine' without_spec ⟨?Bqat, ?Fqat, ?Xqat, ?Nqat, ?Tqat, ?dqat, ?uqat⟩ ?hlq61eed1 ?hiq61eed1 ?_; walk_at "my at"; (case hlq61eed1 => k_mem); (case hiq61eed1 => k_asm); k_whole); intro r'9 vs'9 h'9 tk'9 n'9 F'9 N'9 l19 i'9; walk_at "my off in"; (try k_sweep); (try dsimp only))
  k_with "call ref" => (k_here; (with_reducible show wpAny _ _ (call (Value.ref 194) _) _ _ _); k_dflt (refine' added_spec ⟨?Bqat, ?Fqat, ?Xqat, ?Nqat, ?Tqat, ?dqat, ?uqat⟩ ?hlqc8bb98 ?hiqc8bb98 ?hkqc8bb98 ?_; walk_at "my at"; (case hlqc8bb98 => k_mem); (case hiqc8bb98 => k_asm); (case hkqc8bb98 => k_asm); k_whole); intro r'9 vs'9 h'9 tk'9 n'9 F'9 N'9 l19 i'9; walk_at "my off in"; (try k_sweep); (try dsimp only))
  trivial
/-- a Changer's dict -/
noncomputable abbrev chD (P : Params) (x : Addr) (t : Tok) : Obj := dictOf [⟨PyData.keyHash P (Str.ofString "config"), .str (Str.ofString "config") t, .ref x⟩] 1
noncomputable def Cf.remove (f : Cf) (k : Int) : Cf := { f with v := fun i => f.v i && i != k, l := fun i => f.l i && i != k, n := fun i => f.n i && i != k }
noncomputable def Cf.makeVoter (f : Cf) (k : Int) : Cf := { f with v := fun i => f.v i || i == k, l := fun i => f.l i && i != k, n := fun i => f.n i && i != k }
noncomputable def Cf.makeLearner (f : Cf) (k : Int) : Cf :=
  if k ∈ ids f.l then f
  else if k ∈ ids f.o then { f.remove k with n := fun i => (f.n i && i != k) || i == k }
  else { f.remove k with l := fun i => (f.l i && i != k) || i == k }
/-- the ledger bears a configuration that is being made: its dict stands apart -/
inductive MadeIn (P : Params) (news : List (Addr × Obj)) (x d : Addr) (f : Cf) : Prop
  | mk (lv lo ll ln : Addr) (vv vo vl vn : List Value) (cv co cl' cn' : Nat) (t1 t2 t3 t4 t5 : Tok) (h1 : (x, instObj 183 d) ∈ news) (h2 : (d, cfD P lv lo ll ln f.au t1 t2 t3 t4 t5) ∈ news) (h3 : (lv, listO vv cv) ∈ news) (h4 : (lo, listO vo co) ∈ news) (h5 : (ll, listO vl cl') ∈ news) (h6 : (ln, listO vn cn') ∈ news)
    (od : Off [x, lv, lo, ll, ln] d) (i1 : IntsAre vv (ids f.v)) (i2 : IntsAre vo (ids f.o)) (i3 : IntsAre vl (ids f.l)) (i4 : IntsAre vn (ids f.n))
noncomputable def RetMade (P : Params) (h₀ : Heap) (L : Addr) (m : Str → Option Value) (s : Shared) (x d : Addr) (news0 : List (Addr × Obj)) (f : Cf) (Q : Value → Shared → Prop) : Prop :=
  ∀ lv lo ll ln vv vo vl vn cv co cl' cn' t1 t2 t3 t4 t5 h' tk', Fr h₀ L h' m →
    News h₀ L h' ((x, instObj 183 d) :: (d, cfD P lv lo ll ln f.au t1 t2 t3 t4 t5) :: (lv, listO vv cv) :: (lo, listO vo co) :: (ll, listO vl cl') :: (ln, listO vn cn') :: news0) →
    Off (x :: lv :: lo :: ll :: ln :: news0.map (·.1)) d → IntsAre vv (ids f.v) → IntsAre vo (ids f.o) → IntsAre vl (ids f.l) → IntsAre vn (ids f.n) → Q .none { s with heap := h', toks := tk' }
/-- a ledger without one address -/
inductive Drop (d : Addr) : List (Addr × Obj) → List (Addr × Obj) → Prop
  | nil : Drop d [] []
  | skip {o : Obj} {r r' : List (Addr × Obj)} : Drop d r r' → Drop d ((d, o) :: r) r'
  | keep {p : Addr × Obj} {r r' : List (Addr × Obj)} : p.1 ≠ d → Drop d r r' → Drop d (p :: r) (p :: r')
theorem Drop.sub {d : Addr} {a b : List (Addr × Obj)} (h : Drop d a b) : ∀ p ∈ b, p ∈ a ∧ p.1 ≠ d := by
  induction h with
  | nil => exact fun _ h => nomatch h
  | skip _ ih => exact fun p hp => ⟨.tail _ (ih p hp).1, (ih p hp).2⟩
  | keep hne _ ih =>
    intro p hp
    rcases List.mem_cons.mp hp with rfl | hp
    · exact ⟨.head _, hne⟩
    · exact ⟨.tail _ (ih p hp).1, (ih p hp).2⟩
theorem words_chg_1 : True := by
  k_with "my drop" => first | exact Drop.nil | (refine' Drop.skip ?bqb1db1a; (case bqb1db1a => k_extra "my drop")) | (refine' Drop.keep ?aqb1db1a ?bqb1db1a; (case aqb1db1a => k_ne); (case bqb1db1a => k_extra "my drop"))
  k_with "my keep" => first | exact kn | (refine kl ?haq2c6390 ?hbq2c6390; (case haq2c6390 => k_mem); (case hbq2c6390 => k_extra "my keep"))
  k_with "my made" => exact ⟨_, _, _, _, _, _, _, _, _, _, _, _, _, _, _, _, _, by k_mem, by k_mem, by k_mem, by k_mem, by k_mem, by k_mem, Off.cons (by k_ne) (Off.cons (by k_ne) (Off.cons (by k_ne) (Off.cons (by k_ne) (Off.cons (by k_ne) Off.nil)))), by assumption, by assumption, by assumption, by assumption⟩
  trivial
section
variable {w : World} {mean : ExcName → Option Value} {mg mb : Str → Option Value}
   {dp un : Nat} {gd : Option (List Code)} {cn : Str} {nm : List (Str × NameKind)} {ig ic : Bool} {mo : List (Str × Const)} {a : Addr} {ccd : Value} {cl : List (Str × Addr)} {outer : List Env} {A₀ : Around} {base h₀ : Heap} {L : Addr} {m : Str → Option Value} {s : Shared} {Q E : Value → Shared → Prop} {news : List (Addr × Obj)}
variable {sf x d : Addr} {f : Cf} {news0 : List (Addr × Obj)} {k : Int} {tk : Tok}
theorem remove_spec (H : At 8 w mean mg mb A₀ base h₀ outer L m s news dp un) (hM : MadeIn w.params news x d f) (hD : Drop d news news0)
   (ret : RetMade w.params h₀ L m s x d news0 (f.remove k) Q) :
   CallA w dp un gd cn nm ig ic mo L a ccd cl outer 276 [.ref sf, .ref x, .int k tk] Q E s := by
  have z := zz
  revert z
  k_fill
  intro _
  w_on
  obtain ⟨B, F, X, N, T, hd, hu⟩ := H
  unfold CallA
  have nextOn : NextOn := ⟨⟩
  obtain ⟨lv, lo, ll, ln, vv, vo, vl, vn, cv, co, cl', cn', t1, t2, t3, t4, t5, h1, h2, h3, h4, h5, h6, od, i1, i2, i3, i4⟩ := hM
  refine wpAny_call ?_
  have hO : ∀ p ∈ ([(x, instObj 183 d), (d, cfD w.params lv lo ll ln f.au t1 t2 t3 t4 t5), (lv, listO vv cv), (lo, listO vo co), (ll, listO vl cl'), (ln, listO vn cn')] : List (Addr × Obj)), p ∈ news := sc (h1) (sc (h2) (sc (h3) (sc (h4) (sc (h5) (sc (h6) (sn))))))
  k_dflt walk_at "own enter"
  walk_at "my steps"
  all_goals (try (k_data; done))
  rename News _ _ _ (restOf _ _) => NR
  rename News _ _ _ (_ :: _) => NK
  have NA := back_mut (news0 := news0) N hO NK NR (fun p hp => (hD.sub p hp).1) (by
    refine kl (by k_mem) (kr (fun p hp => (hD.sub p hp).2) ?_)
    walk_at "my keep")
  refine' ret _ _ _ _ _ _ _ _ _ _ _ _ _ _ _ _ _ _ _ ?f ?e1 ?e2 ?i1 ?i2 ?i3 ?i4
  (case f => assumption)
  (case i1 => assumption)
  (case i2 => assumption)
  (case i3 => assumption)
  (case i4 => assumption)
  (case e1 => exact sub NA (by kcj_all))
  (case e2 => exact Off.cons (by k_ne) (Off.cons (by k_ne) (Off.cons (by k_ne) (Off.cons (by k_ne) (Off.cons (by k_ne) (Off.of fun p hp => (hD.sub p hp).2))))))
theorem make_voter_spec (H : At 12 w mean mg mb A₀ base h₀ outer L m s news dp un) (hk : k ∈ IDs) (hM : MadeIn w.params news x d f) (hD : Drop d news news0)
   (ret : RetMade w.params h₀ L m s x d news0 (f.makeVoter k) Q) :
   CallA w dp un gd cn nm ig ic mo L a ccd cl outer 262 [.ref sf, .ref x, .int k tk] Q E s := by
  have z := zz
  revert z
  k_fill
  intro _
  w_on
  obtain ⟨B, F, X, N, T, hd, hu⟩ := H
  unfold CallA
  have nextOn : NextOn := ⟨⟩
  obtain ⟨lv, lo, ll, ln, vv, vo, vl, vn, cv, co, cl', cn', t1, t2, t3, t4, t5, h1, h2, h3, h4, h5, h6, od, i1, i2, i3, i4⟩ := hM
  refine wpAny_call ?_
  have hO : ∀ p ∈ ([(x, instObj 183 d), (d, cfD w.params lv lo ll ln f.au t1 t2 t3 t4 t5), (lv, listO vv cv), (lo, listO vo co), (ll, listO vl cl'), (ln, listO vn cn')] : List (Addr × Obj)), p ∈ news := sc (h1) (sc (h2) (sc (h3) (sc (h4) (sc (h5) (sc (h6) (sn))))))
  k_dflt walk_at "own enter"
  walk_at "my steps"
  all_goals (try (k_data; done))
  rename News _ _ _ (restOf _ _) => NR
  rename News _ _ _ (_ :: _) => NK
  have NA := back_mut (news0 := news0) N hO NK NR (fun p hp => (hD.sub p hp).1) (by
    refine kl (by k_mem) (kr (fun p hp => (hD.sub p hp).2) ?_)
    walk_at "my keep")
  refine' ret _ _ _ _ _ _ _ _ _ _ _ _ _ _ _ _ _ _ _ ?f ?e1 ?e2 ?i1 ?i2 ?i3 ?i4
  (case f => assumption)
  (case i1 => assumption)
  (case i2 => assumption)
  (case i3 => assumption)
  (case i4 => assumption)
  (case e1 => exact sub NA (by kcj_all))
  (case e2 => exact Off.cons (by k_ne) (Off.cons (by k_ne) (Off.cons (by k_ne) (Off.cons (by k_ne) (Off.cons (by k_ne) (Off.of fun p hp => (hD.sub p hp).2))))))
theorem words_chg_2 : True := by
  k_with "made intro" => (unfold RetMade; intro lv'9 lo'9 ll'9 ln'9 vv'9 vo'9 vl'9 vn'9 cv'9 co'9 cl'9 cn'9 t1'9 t2'9 t3'9 t4'9 t5'9 h'9 tk'9 F'9 N'9 od9 i1'9 i2'9 i3'9 i4'9; (try dsimp only [Cf.remove, Cf.makeVoter] at N'9 i1'9 i2'9 i3'9 i4'9); (try k_sweep); (try dsimp only))
  k_with "call ref" => (k_here; (with_reducible show wpAny _ _ (call (Value.ref 276) _) _ _ _); k_dflt (refine' remove_spec (f := ⟨_, _, _, _, _⟩) ⟨?Bqat, ?Fqat, ?Xqat, ?Nqat, ?Tqat, ?dqat, ?uqat⟩ ?hMq155430 ?hDq155430 ?_; walk_at "my at"; (case hMq155430 => walk_at "my made"); (case hDq155430 => k_extra "my drop"); k_whole); walk_at "made intro")
  k_with "call ref" => (k_here; (with_reducible show wpAny _ _ (call (Value.ref 262) _) _ _ _); k_dflt (refine' make_voter_spec (f := ⟨_, _, _, _, _⟩) ⟨?Bqat, ?Fqat, ?Xqat, ?Nqat, ?Tqat, ?dqat, ?uqat⟩ ?hkq37470c ?hMq37470c ?hDq37470c ?_; walk_at "my at"; (case hkq37470c => k_asm); (case hMq37470c => walk_at "my made"); (case hDq37470c => k_extra "my drop"); k_whole); walk_at "made intro")
  trivial
theorem make_learner_spec (H : At 16 w mean mg mb A₀ base h₀ outer L m s news dp un) (hk : k ∈ IDs) {ds b : Addr} {tb : Tok} (hsf : (sf, instObj 279 ds) ∈ news) (hds : (ds, chD w.params b tb) ∈ news) (od1 : sf ≠ d) (od2 : ds ≠ d)
   (hM : MadeIn w.params news x d f) (hD : Drop d news news0)
   (ret : RetMade w.params h₀ L m s x d news0 (f.makeLearner k) Q) :
   CallA w dp un gd cn nm ig ic mo L a ccd cl outer 269 [.ref sf, .ref x, .int k tk] Q E s := by
  have z := zz
  revert z
  k_fill
  intro _
  w_on
  obtain ⟨B, F, X, N, T, hd, hu⟩ := H
  unfold CallA
  have nextOn : NextOn := ⟨⟩
  obtain ⟨lv, lo, ll, ln, vv, vo, vl, vn, cv, co, cl', cn', t1, t2, t3, t4, t5, h1, h2, h3, h4, h5, h6, od, i1, i2, i3, i4⟩ := hM
  refine wpAny_call ?_
  have hO : ∀ p ∈ ([(x, instObj 183 d), (d, cfD w.params lv lo ll ln f.au t1 t2 t3 t4 t5), (lv, listO vv cv), (lo, listO vo co), (ll, listO vl cl'), (ln, listO vn cn'), (sf, instObj 279 ds), (ds, chD w.params b tb)] : List (Addr × Obj)), p ∈ news := sc (h1) (sc (h2) (sc (h3) (sc (h4) (sc (h5) (sc (h6) (sc (hsf) (sc (hds) (sn))))))))
  k_dflt walk_at "own enter"
  walk_at "my steps"
  all_goals (try (k_data; done))
  · rename (k ∈ ids f.l) => q1
    rw [show f.makeLearner k = f from if_pos q1] at ret
    rename News _ _ _ (restOf _ _) => NR
    rename News _ _ _ (_ :: _) => NK
    have NA := back_mut (news0 := news0) N hO NK NR (fun p hp => (hD.sub p hp).1) (by
      refine kl (by k_mem) (kr (fun p hp => (hD.sub p hp).2) ?_)
      walk_at "my keep")
    refine' ret _ _ _ _ _ _ _ _ _ _ _ _ _ _ _ _ _ _ _ ?f ?e1 ?e2 ?i1 ?i2 ?i3 ?i4
    (case f => assumption)
    (case i1 => assumption)
    (case i2 => assumption)
    (case i3 => assumption)
    (case i4 => assumption)
    (case e1 => exact sub NA (by kcj_all))
    (case e2 => exact Off.cons (by k_ne) (Off.cons (by k_ne) (Off.cons (by k_ne) (Off.cons (by k_ne) (Off.cons (by k_ne) (Off.of fun p hp => (hD.sub p hp).2))))))
  · rename (¬ k ∈ ids f.l) => q1
    rename (k ∈ ids f.o) => q2
    rw [show f.makeLearner k = { f.remove k with n := fun i => (f.n i && i != k) || i == k } from (if_neg q1).trans (if_pos q2)] at ret
    rename News _ _ _ (restOf _ _) => NR
    rename News _ _ _ (_ :: _) => NK
    have NA := back_mut (news0 := news0) N hO NK NR (fun p hp => (hD.sub p hp).1) (by
      refine kl (by k_mem) (kr (fun p hp => (hD.sub p hp).2) ?_)
      walk_at "my keep")
    refine' ret _ _ _ _ _ _ _ _ _ _ _ _ _ _ _ _ _ _ _ ?f ?e1 ?e2 ?i1 ?i2 ?i3 ?i4
    (case f => assumption)
    (case i1 => assumption)
    (case i2 => assumption)
    (case i3 => assumption)
    (case i4 => assumption)
    (case e1 => exact sub NA (by kcj_all))
    (case e2 => exact Off.cons (by k_ne) (Off.cons (by k_ne) (Off.cons (by k_ne) (Off.cons (by k_ne) (Off.cons (by k_ne) (Off.of fun p hp => (hD.sub p hp).2))))))
  · rename (¬ k ∈ ids f.l) => q1
    rename (¬ k ∈ ids f.o) => q2
    rw [show f.makeLearner k = { f.remove k with l := fun i => (f.l i && i != k) || i == k } from (if_neg q1).trans (if_neg q2)] at ret
    rename News _ _ _ (restOf _ _) => NR
    rename News _ _ _ (_ :: _) => NK
    have NA := back_mut (news0 := news0) N hO NK NR (fun p hp => (hD.sub p hp).1) (by
      refine kl (by k_mem) (kr (fun p hp => (hD.sub p hp).2) ?_)
      walk_at "my keep")
    refine' ret _ _ _ _ _ _ _ _ _ _ _ _ _ _ _ _ _ _ _ ?f ?e1 ?e2 ?i1 ?i2 ?i3 ?i4
    (case f => assumption)
    (case i1 => assumption)
    (case i2 => assumption)
    (case i3 => assumption)
    (case i4 => assumption)
    (case e1 => exact sub NA (by kcj_all))
    (case e2 => exact Off.cons (by k_ne) (Off.cons (by k_ne) (Off.cons (by k_ne) (Off.cons (by k_ne) (Off.cons (by k_ne) (Off.of fun p hp => (hD.sub p hp).2))))))
end
theorem eq_no {prog : Program} {w : World} {A : Around} {E : Value → Shared → Prop} {s : Shared} {x y : Int} {t u : Tok} {Q : Value → Shared → Prop} (hne : x ≠ y) (h : Q (.bool false) s) : wpAny (model prog w) A (compareOp .Eq (.int x t) (.int y u)) Q E s :=
  eq_int (by rw [beq_false_of_ne hne]; exact h)
theorem words_chg_3 : True := by
  k_with "compareOp Eq int int" => (k_here; k_dflt (refine' eq_no ?hq8baeff ?_; (case hq8baeff => k_asm); k_whole))
  k_with "call ref" => (k_here; (with_reducible show wpAny _ _ (call (Value.ref 269) _) _ _ _); k_dflt (refine' make_learner_spec (f := ⟨_, _, _, _, _⟩) ⟨?Bqat, ?Fqat, ?Xqat, ?Nqat, ?Tqat, ?dqat, ?uqat⟩ ?hkq01dc95 ?h1q01dc95 ?h2q01dc95 ?o1q01dc95 ?o2q01dc95 ?hMq01dc95 ?hDq01dc95 ?_; walk_at "my at"; (case hkq01dc95 => k_asm); (case h1q01dc95 => k_mem); (case h2q01dc95 => k_mem); (case hMq01dc95 => walk_at "my made"); (case o1q01dc95 => k_ne); (case o2q01dc95 => k_ne); (case hDq01dc95 => k_extra "my drop"); k_whole); walk_at "made intro")
  trivial
section
variable {prog : Program} {w : World} {A : Around} {E : Value → Shared → Prop} {s : Shared} {env : Env} {h₀ : Heap} {target : Expr} {body : List Stmt} {Q : Flow → Shared → Prop}
/-- a loop over a made list, item by item, by an invariant over what is left, the frame and the ledger -/
theorem items_inv {I : Addr} {cl : String} {keep : List (Addr × Obj)} (Inv : List Value → (Str → Option Value) → List (Addr × Obj) → Prop)
    (turn : ∀ v r m nx h tk o, o.cls = .type cl → Inv (v :: r) m nx → Fr h₀ env.locals h m → News h₀ env.locals h ([(I, o)] ++ nx) →
      wpAny (model prog w) A (assign target env v) (fun _ s₂ => wpAny (model prog w) A (execs body env) (UnrPostW h₀ env.locals { s with heap := h, toks := tk } [(I, o)] (fun m' n' => SubL keep n' ∧ Inv r m' n') Q) E s₂) E { s with heap := h, toks := tk })
    (done : ∀ m nx h tk, Inv [] m nx → Fr h₀ env.locals h m → News h₀ env.locals h nx → Q .next { s with heap := h, toks := tk }) :
    ∀ (vs : List Value) m nx, Inv vs m nx → ItemsRest prog w A E h₀ env target body Q s [(I, cl)] keep (vs.map .val) m nx
  | [], m, nx, h0 => ItemsRest.zero fun h tk F N => done m nx h tk h0 F N
  | v :: r, m, nx, h0 => ItemsRest.val fun h tk F => AllObj.cons fun o ho => AllObj.nil fun N => by
    refine wpAny_mono (turn v r m nx h tk o ho h0 F N) (fun _ s₂ h₂ => wpAny_mono h₂ (fun f s₃ p => ?_) fun _ _ e => e) fun _ _ e => e
    have up : UnrEndW h₀ env.locals { s with heap := h, toks := tk } [(I, o)] (fun m' n' => SubL keep n' ∧ Inv r m' n') s₃ →
        UnrEndW h₀ env.locals { s with heap := h, toks := tk } [(I, o)] (fun m' n' => SubL keep n' ∧ ItemsRest prog w A E h₀ env target body Q s [(I, cl)] keep (r.map .val) m' n') s₃ := by
      rintro ⟨h', tk', m', n', e, F', N', off, hk, hi⟩
      exact ⟨h', tk', m', n', e, F', N', off, hk, items_inv Inv turn done r m' n' hi⟩
    cases f with
    | ret v => exact p
    | brk => exact p
    | next => exact up p
    | cont => exact up p
theorem for_list {ax : Addr} {vs : List Value} {n : Nat} {m₀ : Str → Option Value} {news : List (Addr × Obj)} (Inv : List Value → (Str → Option Value) → List (Addr × Obj) → Prop)
    (hh : A.handled = none) (F : Fr h₀ env.locals s.heap m₀) (N : News h₀ env.locals s.heap news) (hm : (ax, listO vs n) ∈ news) (h0 : Inv vs m₀ news)
    (turn : ∀ I v r m nx h tk o, o.cls = .type "list_iterator" → Inv (v :: r) m nx → Fr h₀ env.locals h m → News h₀ env.locals h ([(I, o)] ++ nx) →
      wpAny (model prog w) A (assign target env v) (fun _ s₂ => wpAny (model prog w) A (execs body env) (UnrPostW h₀ env.locals { s with heap := h, toks := tk } [(I, o)] (fun m' n' => SubL [(ax, listO vs n)] n' ∧ Inv r m' n') Q) E s₂) E { s with heap := h, toks := tk })
    (done : ∀ m nx h tk, Inv [] m nx → Fr h₀ env.locals h m → News h₀ env.locals h nx → Q .next { s with heap := h, toks := tk }) :
    wpAny (model prog w) A (pyIter (.ref ax)) (fun it s₂ => TurnsAt prog w A h₀ env target body Q E it s₂) E s :=
  iter_listTurns hh F N hm rfl rfl fun I _ => items_inv Inv (turn I) done vs m₀ news h0
end
/-- a map of names where some are stored -/
theorem stored_map {m m₀ : Str → Option Value} {ys : List Str} (h : ∀ z, ys.contains z = false → m z = m₀ z) : m = fun z => if ys.contains z then m z else m₀ z := by
  funext z
  cases hz : ys.contains z with
  | true => simp
  | false => simp only [Bool.false_eq_true, if_false]; exact h z hz
/-- what was raised in a callee, told of the caller's whole ledger -/
theorem raise_back {A₀ : Around} {base h₀ g h h' : Heap} {outer : List Env} {env : Env} {L e t : Addr} {m : Str → Option Value} {cls : Value} {vs : List Value} {own own' news want : List (Addr × Obj)}
    (hf : env.frame = some L) (B : Below A₀ base outer h₀) (N : News h₀ L h news) (hown : ∀ p ∈ own, p ∈ news) (FG : Fr h₀ L g m) (G : ∀ p ∈ restOf own news, g.get? p.1 = some p.2)
    (R : RaisedS base g (env :: outer) e cls t vs own' h') (U : g.UpToSlots h') (hw : ∀ p ∈ want, p ∈ news) (hs : ∀ q ∈ own, q ∈ own' ∨ ∀ p ∈ want, p.1 ≠ q.1) :
    ∃ G', Fr h₀ L G' m ∧ RaisedS base G' (env :: outer) e cls t vs want h' ∧ G'.UpToSlots h' := by
  refine ⟨hideAll g ((restOf own news).map (·.1)), ?_, ?_, fun b o hb hn => U b o (of_hideAll _ hb) hn⟩
  · obtain ⟨oL, es, ep, hL, hLd, hLk, hLf⟩ := FG.ns
    refine ⟨⟨oL, es, ep, hideAll_get _ hL fun q => ?_, hLd, hLk, hLf⟩, fun b o e => hideAll_get _ (FG.keep b o e) fun q => ?_, FG.above⟩
    · obtain ⟨p, hp, e⟩ := List.mem_map.mp q
      exact (N p (mem_restOf.mp hp).1).2.1 e
    · obtain ⟨p, hp, rfl⟩ := List.mem_map.mp q
      rw [(N p (mem_restOf.mp hp).1).2.2] at e
      cases e
  · obtain ⟨⟨Bh, hB, hBG, hl, hfl, hnew⟩, htup⟩ := R
    have nf : ∀ p ∈ news, p.1 ∉ (env :: outer).filterMap (·.frame) := fun p hp hm => by
      obtain ⟨ev, he, hfr⟩ := List.mem_filterMap.mp hm
      rcases List.mem_cons.mp he with rfl | he
      · exact (N p hp).2.1 (Option.some.inj (hf.symm.trans hfr)).symm
      · obtain ⟨_, o, ho, _⟩ := B.frames.mem (List.mem_filterMap.mpr ⟨ev, he, hfr⟩)
        rw [(N p hp).2.2] at ho
        cases ho
    refine ⟨⟨Bh, hB, fun b o hb hm => hBG b o (of_hideAll _ hb) hm, fun p hp => ?_, hfl, hnew⟩, htup⟩
    have hpn := hw p hp
    have hb : base.get? p.1 = none := fresh_of_stays B.stays (N p hpn).2.2
    by_cases hm : p.1 ∈ own.map (·.1)
    · obtain ⟨q, hq, e2⟩ := List.mem_map.mp hm
      rcases hs q hq with z | z
      · have e3 : p = q := news_same N hpn (hown q hq) e2.symm
        subst e3
        refine ⟨(hl p z).1, ?_, hb⟩
        cases hx : (hideAll g ((restOf own news).map (·.1))).get? p.1 with
        | none => rfl
        | some o => have := of_hideAll _ hx; rw [(hl p z).2.1] at this; cases this
      · exact absurd e2.symm (z p hp)
    · have hr : p ∈ restOf own news := mem_restOf.mpr ⟨hpn, hm⟩
      exact ⟨hBG _ _ (G p hr) (nf p hpn), hideAll_none _ (List.mem_map_of_mem hr), hb⟩
/-- the walk stands still here -/
noncomputable def Hold (P : Prop) : Prop := P
theorem Hold.out {P : Prop} (h : Hold P) : P := h
theorem words_loop_1 : True := by
  k_with "exec For Name Name cons nil" => ((with_reducible rename Flag "my for" => hz9); k_here; (rename Fr _ _ _ _ => lF'9); (with_unfolding_all refine' For_turns lF'9 ?_; k_whole))
  k_with "exec For Tuple" => (k_here; (rename Fr _ _ _ _ => lF'9); (with_unfolding_all refine' For_turns lF'9 ?_; k_whole))
  k_with "pyIter ref" => ((with_reducible rename Flag "my iter" => hz9); refine Hold.out ?_)
  k_with "leaving ref" => (k_here; first | (refine' leave_raiseS ?k1qede610 ?k0qede610 ?k2qede610 ?k3qede610 ?_; (case k0qede610 => first | assumption | exact Heap.MadeExc.of (by assumption)); (case k2qede610 => assumption); (case k1qede610 => assumption); (case k3qede610 => k_asm); k_whole; intro h'9 t'9 S'9 R'9 U'9; (try dsimp only at S'9 R'9 U'9 ⊢)) | (refine' leave_onS ?k1qede610 ?k2qede610 ?k3qede610 ?k4qede610 ?_; (case k3qede610 => assumption); (case k2qede610 => assumption); (case k1qede610 => assumption); (case k4qede610 => assumption); k_whole; intro h'9 S'9 R'9 U'9; (try dsimp only at S'9 R'9 U'9 ⊢)))
  trivial
theorem frame3 {m : Str → Option Value} {a b c : Str} {u v x : Value} (h1 : m a = some u) (h2 : m b = some v) (h3 : m c = some x) : m = fun z => if z = a then some u else if z = b then some v else if z = c then some x else m z := by
  funext z
  by_cases e : z = a
  · rw [if_pos e, e, h1]
  · rw [if_neg e]
    by_cases e2 : z = b
    · rw [if_pos e2, e2, h2]
    · rw [if_neg e2]
      by_cases e3 : z = c
      · rw [if_pos e3, e3, h3]
      · rw [if_neg e3]
noncomputable def Cf.step (f : Cf) (c : Int × Int) : Cf := if c.1 = 0 then f.makeVoter c.2 else if c.1 = 3 then f.makeLearner c.2 else if c.1 = 1 then f.remove c.2 else f
noncomputable def Cf.steps (f : Cf) (cs : List (Int × Int)) : Cf := cs.foldl Cf.step f
/-- the heap bears the steps: pairs of a kind and a member -/
inductive StepsAt (h : Heap) : List Value → List (Int × Int) → Prop
  | nil : StepsAt h [] []
  | cons {a : Addr} {k n : Int} {t1 t2 : Tok} {vs : List Value} {cs : List (Int × Int)} : h.IsTuple a #[.int k t1, .int n t2] → StepsAt h vs cs → StepsAt h (.ref a :: vs) ((k, n) :: cs)
theorem StepsAt.keeps {h h' : Heap} {vs : List Value} {cs : List (Int × Int)} (x : StepsAt h vs cs) (hk : ∀ b o, h.get? b = some o → h'.get? b = some o) : StepsAt h' vs cs := by
  induction x with
  | nil => exact .nil
  | cons hm _ ih =>
    obtain ⟨o, ho, r⟩ := hm
    exact .cons ⟨o, hk _ _ ho, r⟩ ih
/-- in a callee's ground: what was handed in is no tuple -/
theorem StepsAt.ground {h₀ h g : Heap} {L : Addr} {own news : List (Addr × Obj)} {vs : List Value} {cs : List (Int × Int)} (x : StepsAt h vs cs) (N : News h₀ L h news) (hown : ∀ p ∈ own, p ∈ news) (hX : ∀ b o, h.get? b = some o → b ∉ own.map (·.1) → g.get? b = some o) (ho : ∀ p ∈ own, p.2.cls ≠ .type "tuple") : StepsAt g vs cs := by
  induction x with
  | nil => exact .nil
  | cons hm _ ih =>
    obtain ⟨o, hg, hc, r⟩ := hm
    refine .cons ⟨o, hX _ _ hg fun hq => ?_, hc, r⟩ ih
    obtain ⟨q, hq, e⟩ := List.mem_map.mp hq
    have h1 := (N q (hown q hq)).1
    rw [e, hg] at h1
    cases h1
    exact ho q hq hc
noncomputable def GoodC (c : Int × Int) : Prop := (c.1 = 0 ∨ c.1 = 1 ∨ c.1 = 2 ∨ c.1 = 3) ∧ c.2 ∈ IDs
theorem frame2 {m : Str → Option Value} {a b : Str} {u v : Value} (h1 : m a = some u) (h2 : m b = some v) : m = fun z => if z = a then some u else if z = b then some v else m z := by
  funext z
  by_cases e : z = a
  · rw [if_pos e, e, h1]
  · rw [if_neg e]
    by_cases e2 : z = b
    · rw [if_pos e2, e2, h2]
    · rw [if_neg e2]
theorem id_ne0 {n : Int} (h : n ∈ IDs) : n ≠ 0 := by
  intro e
  subst e
  revert h
  decide
/-- between two turns of do_changes -/
inductive DoInv (P : Params) (g : Heap) (kp : List (Addr × Obj)) (sf x d ds b cx : Addr) (tb : Tok) (cvs : List Value) (nc : Nat) (f' : Cf) (r : List Value) (m : Str → Option Value) (nx : List (Addr × Obj)) : Prop
  | mk (m1 : m (Str.ofString "self") = some (.ref sf)) (m2 : m (Str.ofString "made") = some (.ref x)) (cs : List (Int × Int)) (f : Cf) (lv lo ll ln : Addr) (vv vo vl vn : List Value) (cv co cl' cn' : Nat) (t1 t2 t3 t4 t5 : Tok) (hs : StepsAt g r cs) (hc : ∀ c ∈ cs, GoodC c) (hf : Cf.steps f cs = f')
    (mem : ∀ p ∈ [(x, instObj 183 d), (d, cfD P lv lo ll ln f.au t1 t2 t3 t4 t5), (lv, listO vv cv), (lo, listO vo co), (ll, listO vl cl'), (ln, listO vn cn'), (sf, instObj 279 ds), (ds, chD P b tb), (cx, listO cvs nc)] ++ kp, p ∈ nx)
    (od : Off (x :: lv :: lo :: ll :: ln :: kp.map (·.1)) d) (i1 : IntsAre vv (ids f.v)) (i2 : IntsAre vo (ids f.o)) (i3 : IntsAre vl (ids f.l)) (i4 : IntsAre vn (ids f.n))
theorem cls_ne {h₀ h : Heap} {L a b : Addr} {o p : Obj} {news : List (Addr × Obj)} (N : News h₀ L h news) (h1 : (a, o) ∈ news) (h2 : (b, p) ∈ news) (hc : o.cls ≠ p.cls) : a ≠ b := fun e => by
  have := news_same N h1 h2 e
  cases this
  exact hc rfl
theorem cls_ne2 {a b : Value} {n : String} (h : a = .type n) (h' : Value.type n ≠ b) : a ≠ b := h ▸ h'
theorem words_dochg_1 : True := by
  k_with "my offs" => first | exact Off.nil | (refine Off.cons (by k_ne) ?_; k_extra "my offs")
  k_with "do end" => ((case mem => (simp only [List.cons_append, List.nil_append]; k_extra "my memall")); (case i1 => k_asm); (case i2 => k_asm); (case i3 => k_asm); (case i4 => k_asm); (case od => (simp only [List.map_cons, List.map_nil]; k_extra "my offs")))
  trivial
section
variable {w : World} {mean : ExcName → Option Value} {mg mb : Str → Option Value}
   {dp un : Nat} {gd : Option (List Code)} {cn : Str} {nm : List (Str × NameKind)} {ig ic : Bool} {mo : List (Str × Const)} {a : Addr} {ccd : Value} {cl : List (Str × Addr)} {outer : List Env} {A₀ : Around} {base h₀ : Heap} {L : Addr} {m : Str → Option Value} {s : Shared} {Q E : Value → Shared → Prop} {news : List (Addr × Obj)}
variable {sf x d ds b cx : Addr} {f : Cf} {news0 : List (Addr × Obj)} {tb : Tok} {cvs : List Value} {nc : Nat} {cs : List (Int × Int)}
theorem do_changes_spec (H : At 24 w mean mg mb A₀ base h₀ outer L m s news dp un) (hsf : (sf, instObj 279 ds) ∈ news) (hds : (ds, chD w.params b tb) ∈ news) (hcx : (cx, listO cvs nc) ∈ news)
   (hst : StepsAt s.heap cvs cs) (hcs : ∀ c ∈ cs, GoodC c) (hM : MadeIn w.params news x d f) (hD : Drop d news news0) (od1 : sf ≠ d) (od2 : ds ≠ d) (od3 : cx ≠ d)
   (ret : ids (f.steps cs).v ≠ [] → RetMade w.params h₀ L m s x d news0 (f.steps cs) Q)
   (err : ids (f.steps cs).v = [] → ∀ e t vs G h' tk', Fr h₀ L G m → RaisedS base G (envX cn (ScF nm ig ic mo) L a ccd cl :: outer) e (.ref 56) t vs news0 h' → G.UpToSlots h' → E (.ref e) { s with heap := h', toks := tk' }) :
   CallA w dp un gd cn nm ig ic mo L a ccd cl outer 255 [.ref sf, .ref x, .ref cx] Q E s := by
  have z := zz
  revert z
  k_fill
  intro _
  w_on
  obtain ⟨B, F, X, N, T, hd, hu⟩ := H
  unfold CallA
  have nextOn : NextOn := ⟨⟩
  obtain ⟨lv, lo, ll, ln, vv, vo, vl, vn, cv, co, cl', cn', t1, t2, t3, t4, t5, h1, h2, h3, h4, h5, h6, od, i1, i2, i3, i4⟩ := hM
  refine wpAny_call ?_
  have hO : ∀ p ∈ ([(x, instObj 183 d), (d, cfD w.params lv lo ll ln f.au t1 t2 t3 t4 t5), (lv, listO vv cv), (lo, listO vo co), (ll, listO vl cl'), (ln, listO vn cn'), (sf, instObj 279 ds), (ds, chD w.params b tb), (cx, listO cvs nc)] : List (Addr × Obj)), p ∈ news := sc (h1) (sc (h2) (sc (h3) (sc (h4) (sc (h5) (sc (h6) (sc (hsf) (sc (hds) (sc (hcx) (sn)))))))))
  k_dflt walk_at "own enter"
  have flg : Flag "my iter" := ⟨⟩
  walk_at "my steps"
  all_goals (try (k_data; done))
  (repeat ((with_reducible rename Flag _ => hz9); clear hz9))
  unfold Hold
  rename Fr _ _ _ _ => F1
  rename News _ _ _ _ => N1
  rename (∀ p ∈ restOf _ _, _) => hG
  rename (∀ b o, Heap.get? _ b = some o → _ → _) => hX
  have hst0 := hst.ground N hO hX (by simp)
  refine for_list (DoInv w.params _ [(lv, listO vv cv), (lo, listO vo co), (ll, listO vl cl'), (ln, listO vn cn')] sf x d ds b cx tb cvs nc (f.steps cs)) rfl F1 N1 (by k_mem) ⟨rfl, rfl, cs, f, lv, lo, ll, ln, vv, vo, vl, vn, cv, co, cl', cn', t1, t2, t3, t4, t5, hst0, hcs, rfl, by simp only [List.cons_append, List.nil_append]; walk_at "my memall", by simp only [List.map_cons, List.map_nil]; exact Off.cons (by k_ne) (Off.cons (by k_ne) (Off.cons (by k_ne) (Off.cons (by k_ne) (Off.cons (by k_ne) (Off.cons (by k_ne) (Off.cons (by k_ne) (Off.cons (by k_ne) (Off.cons (by k_ne) Off.nil)))))))), i1, i2, i3, i4⟩ ?turn ?done
  case turn =>
    clear F1 N1
    clear od i1 i2 i3 i4 hst hst0 hX hcs
    intro I v r m' nx h tk o ho hz9 Ft Nt
    walk_at "my ice"
    obtain ⟨m1, m2, cs', f', lv', lo', ll', ln', vv', vo', vl', vn', cv', co', cl'', cn'', t1', t2', t3', t4', t5', hst', hcs', hg, hnx, od', j1, j2, j3, j4⟩ := hz9
    simp only [List.cons_append, List.nil_append, List.map_cons, List.map_nil] at hnx od'
    cases hst' with
    | cons hm hst2 =>
      rename_i a k n _ _ cs2
      have hT := hm
      obtain ⟨hk, hn⟩ := hcs' _ (.head _)
      have hcs2 : ∀ c ∈ cs2, GoodC c := fun c hc => hcs' c (.tail _ hc)
      have hn0 := id_ne0 hn
      replace Nt := sub Nt (sc (.head _) (fun p hp => List.mem_append_right _ (hnx p hp)))
      clear hnx
      have hI : I ≠ d := cls_ne Nt (.head _) (by k_mem) (cls_ne2 ho (by simp))
      rw [frame2 m1 m2] at Ft
      dsimp only at hk hn hn0
      clear m1 m2 hcs' hm
      rcases hk with rfl | rfl | rfl | rfl
      · walk_at "my steps"
        refine' ⟨rfl, rfl, cs2, f'.makeVoter n, _, _, _, _, _, _, _, _, _, _, _, _, _, _, _, _, _, hst2, hcs2, hg, ?mem, ?od, ?i1, ?i2, ?i3, ?i4⟩
        walk_at "do end"
      · walk_at "my steps"
        refine' ⟨rfl, rfl, cs2, f'.remove n, _, _, _, _, _, _, _, _, _, _, _, _, _, _, _, _, _, hst2, hcs2, hg, ?mem, ?od, ?i1, ?i2, ?i3, ?i4⟩
        walk_at "do end"
      · walk_at "my steps"
        refine' ⟨rfl, rfl, cs2, f', _, _, _, _, _, _, _, _, _, _, _, _, _, _, _, _, _, hst2, hcs2, hg, ?mem, ?od, ?i1, ?i2, ?i3, ?i4⟩
        walk_at "do end"
      · walk_at "my steps"
        refine' ⟨rfl, rfl, cs2, f'.makeLearner n, _, _, _, _, _, _, _, _, _, _, _, _, _, _, _, _, _, hst2, hcs2, hg, ?mem, ?od, ?i1, ?i2, ?i3, ?i4⟩
        walk_at "do end"
  case done =>
    clear F1 N1
    clear od i1 i2 i3 i4 hst hst0 hX hcs
    intro m' nx h tk hz4 Ft Nt
    walk_at "my ice"
    obtain ⟨m1, m2, cs', f', lv', lo', ll', ln', vv', vo', vl', vn', cv', co', cl'', cn'', t1', t2', t3', t4', t5', hst', hcs', hg, hnx, od', j1, j2, j3, j4⟩ := hz4
    simp only [List.cons_append, List.nil_append, List.map_cons, List.map_nil] at hnx od'
    cases hst'
    have hg' : f' = f.steps cs := hg
    replace Nt := sub Nt hnx
    rw [frame2 m1 m2] at Ft
    clear hnx m1 m2 hcs'
    by_cases hv : ids f'.v = []
    · walk_at "my steps"
      rename RaisedS _ _ _ _ _ _ _ _ _ => S1
      rename Heap.UpToSlots _ _ => U1
      obtain ⟨G1, F2, R2, U2⟩ := raise_back (want := news0) rfl B N hO (by assumption) hG S1 U1 (fun p hp => (hD.sub p hp).1) (by
        refine kl (by k_mem) (kr (fun p hp => (hD.sub p hp).2) ?_)
        walk_at "my keep")
      exact err (by rw [← hg']; exact hv) _ _ _ _ _ _ F2 R2 U2
    · walk_at "my steps"
      rename News _ _ _ (restOf _ _) => NR
      rename News _ _ _ (_ :: _) => NK
      have NA := back_mut (news0 := news0) N hO NK NR (fun p hp => (hD.sub p hp).1) (by
        refine kl (by k_mem) (kr (fun p hp => (hD.sub p hp).2) ?_)
        walk_at "my keep")
      subst hg'
      refine' ret hv _ _ _ _ _ _ _ _ _ _ _ _ _ _ _ _ _ _ _ ?f ?e1 ?e2 ?i1 ?i2 ?i3 ?i4
      (case f => assumption)
      (case i1 => assumption)
      (case i2 => assumption)
      (case i3 => assumption)
      (case i4 => assumption)
      (case e1 => exact sub NA (by kcj_all))
      (case e2 => exact Off.cons (by k_ne) (Off.cons (by k_ne) (Off.cons (by k_ne) (Off.cons (by k_ne) (Off.cons (by k_ne) (Off.of fun p hp => (hD.sub p hp).2))))))
end
theorem words_enter_1 : True := by
  k_with "my sound" => first | assumption | (with_unfolding_all assumption)
  trivial
section
variable {w : World} {mean : ExcName → Option Value} {mg mb : Str → Option Value}
   {dp un : Nat} {gd : Option (List Code)} {cn : Str} {nm : List (Str × NameKind)} {ig ic : Bool} {mo : List (Str × Const)} {a : Addr} {ccd : Value} {cl : List (Str × Addr)} {outer : List Env} {A₀ : Around} {base h₀ : Heap} {L : Addr} {m : Str → Option Value} {s : Shared} {Q E : Value → Shared → Prop} {news : List (Addr × Obj)}
variable {sf ds b cx : Addr} {f : Cf} {tb : Tok} {cvs : List Value} {nc : Nat} {cs : List (Int × Int)}
theorem checked_copy_spec (H : At 16 w mean mg mb A₀ base h₀ outer L m s news dp un) (hsf : (sf, instObj 279 ds) ∈ news) (hds : (ds, chD w.params b tb) ∈ news) (hc : CfIn w.params news b f) (hs : Sound f)
   (ret : ∀ x d lv lo ll ln vv vo vl vn cv co cl' cn' t1 t2 t3 t4 t5 h' tk', Fr h₀ L h' m →
     News h₀ L h' ((x, instObj 183 d) :: (d, cfD w.params lv lo ll ln f.au t1 t2 t3 t4 t5) :: (lv, listO vv cv) :: (lo, listO vo co) :: (ll, listO vl cl') :: (ln, listO vn cn') :: news) →
     Off (d :: lv :: lo :: ll :: ln :: news.map (·.1)) x → Off (lv :: lo :: ll :: ln :: news.map (·.1)) d → 
     IntsAre vv (ids f.v) → IntsAre vo (ids f.o) → IntsAre vl (ids f.l) → IntsAre vn (ids f.n) → Q (.ref x) { s with heap := h', toks := tk' }) :
   CallA w dp un gd cn nm ig ic mo L a ccd cl outer 248 [.ref sf] Q E s := by
  have z := zz
  revert z
  k_fill
  intro _
  w_on
  obtain ⟨B, F, X, N, T, hd, hu⟩ := H
  unfold CallA
  have nextOn : NextOn := ⟨⟩
  obtain ⟨d, lv, lo, ll, ln, vv, vo, vl, vn, cv, co, cl', cn', t1, t2, t3, t4, t5, h1, h2, h3, h4, h5, h6, i1, i2, i3, i4⟩ := hc
  refine wpAny_call ?_
  have hO : ∀ p ∈ ([(b, instObj 183 d), (d, cfD w.params lv lo ll ln f.au t1 t2 t3 t4 t5), (lv, listO vv cv), (lo, listO vo co), (ll, listO vl cl'), (ln, listO vn cn'), (sf, instObj 279 ds), (ds, chD w.params b tb)] : List (Addr × Obj)), p ∈ news := sc (h1) (sc (h2) (sc (h3) (sc (h4) (sc (h5) (sc (h6) (sc (hsf) (sc (hds) (sn))))))))
  k_dflt walk_at "own enter"
  walk_at "my steps"
  all_goals (try (k_data; done))
  rename News _ _ _ (restOf _ _) => NR
  rename News _ _ _ (_ :: _) => NK
  have NA := back_all N hO NK NR (by kcj_all)
  refine' ret _ _ _ _ _ _ _ _ _ _ _ _ _ _ _ _ _ _ _ _ _ ?f ?e1 ?e2 ?e3 ?i1 ?i2 ?i3 ?i4
  (case f => assumption)
  (case i1 => assumption)
  (case i2 => assumption)
  (case i3 => assumption)
  (case i4 => assumption)
  (case e1 => exact sub NA (by kcj_all))
  (case e2 => exact Off.cons (by k_ne) (Off.cons (by k_ne) (Off.cons (by k_ne) (Off.cons (by k_ne) (Off.cons (by k_ne) (by walk_at "my off"))))))
  (case e3 => exact Off.cons (by k_ne) (Off.cons (by k_ne) (Off.cons (by k_ne) (Off.cons (by k_ne) (by walk_at "my off")))))
noncomputable def CaInv (l1 l2 : Addr) (g1 : List Int) (h : Int → Bool) (c₀ : Nat) (lg : List (Addr × Obj)) (r : List Value) (m : Str → Option Value) (nx : List (Addr × Obj)) : Prop :=
  m (Str.ofString "a") = some (.ref l1) ∧ m (Str.ofString "b") = some (.ref l2) ∧ (∀ p ∈ lg, p ∈ nx) ∧ ∃ pre ns t, IntsAre r ns ∧ g1 = pre ++ ns ∧ m (Str.ofString "count") = some (.int ((c₀ + (pre.filter h).length : Nat) : Int) t)
theorem filter_no {h : Int → Bool} {pre : List Int} {n : Int} {c₀ : Nat} (e : h n = false) : c₀ + ((pre ++ [n]).filter h).length = c₀ + (pre.filter h).length := by
  rw [List.filter_append, List.filter_cons_of_neg (by rw [e]; decide)]
  simp
theorem filter_yes {h : Int → Bool} {pre : List Int} {n : Int} {c₀ : Nat} (e : h n = true) : ((c₀ + ((pre ++ [n]).filter h).length : Nat) : Int) = ((c₀ + (pre.filter h).length : Nat) : Int) + 1 := by
  rw [List.filter_append, List.filter_cons_of_pos e]
  simp
  omega
theorem count_apart_spec (H : At 8 w mean mg mb A₀ base h₀ outer L m s news dp un)
   {l1 l2 : Addr} {vs1 vs2 : List Value} {n1 n2 : Nat} {g1 g2 : Int → Bool} (h1 : (l1, listO vs1 n1) ∈ news) (i1 : IntsAre vs1 (ids g1)) (h2 : (l2, listO vs2 n2) ∈ news) (i2 : IntsAre vs2 (ids g2))
   (ret : ∀ t h' tk', Fr h₀ L h' m → News h₀ L h' news → Q (.int ((((ids g1).filter (fun i => !decide (i ∈ ids g2))).length + ((ids g2).filter (fun i => !decide (i ∈ ids g1))).length : Nat) : Int) t) { s with heap := h', toks := tk' }) :
   CallA w dp un gd cn nm ig ic mo L a ccd cl outer 206 [.ref l1, .ref l2] Q E s := by
  have z := zz
  revert z
  k_fill
  intro _
  w_on
  obtain ⟨B, F, X, N, T, hd, hu⟩ := H
  unfold CallA
  have nextOn : NextOn := ⟨⟩
  refine wpAny_call ?_
  have hO : ∀ p ∈ ([(l1, listO vs1 n1), (l2, listO vs2 n2)] : List (Addr × Obj)), p ∈ news := sc (h1) (sc (h2) (sn))
  have flg : Flag "my for" := ⟨⟩
  have flg : Flag "my iter" := ⟨⟩
  k_dflt walk_at "own enter"
  walk_at "my steps"
  all_goals (try (k_data; done))
  unfold Hold
  rename Fr _ _ _ _ => F1
  rename News _ _ _ _ => N1
  refine for_list (CaInv l1 l2 (ids g1) (fun i => !decide (i ∈ ids g2)) 0 [(l1, listO vs1 n1), (l2, listO vs2 n2)]) rfl F1 N1 (by k_mem) ⟨rfl, rfl, fun _ h => h, [], ids g1, _, i1, rfl, rfl⟩ ?turn ?done
  case turn =>
    clear F1 N1
    intro I v r m' nx h tk o ho hz9 Ft Nt
    walk_at "my ice"
    obtain ⟨m1, m2, hnx, pre, ns, t, hi, hg, m3⟩ := hz9
    cases hi
    rename_i n tn ns hi
    replace Nt := sub Nt (sc (.head _) (fun p hp => List.mem_append_right _ (hnx p hp)))
    rw [frame3 m1 m2 m3] at Ft
    clear m1 m2 m3 hnx
    rename NextOn => hnx
    clear hnx
    walk_at "my steps"
    rename (_ ∨ _) => hr
    refine' ⟨rfl, rfl, by walk_at "my memall", pre ++ [n], ns, _, hi, by rw [hg]; simp, ?e0⟩
    case' e0 => skip
    rcases hr with ⟨q, rfl⟩ | ⟨q, rfl⟩
    · rw [any_dec] at q
      rw [filter_yes (by rw [q]; rfl)]
      rfl
    · rw [any_dec] at q
      rw [filter_no (by rw [q]; rfl)]
      rfl
  case done =>
    clear F1 N1
    intro m' nx h tk hz4 Ft Nt
    walk_at "my ice"
    obtain ⟨m1, m2, hnx, pre, ns, t, hi, hg, m3⟩ := hz4
    cases hi
    replace Nt := sub Nt hnx
    rw [frame3 m1 m2 m3] at Ft
    rw [List.append_nil] at hg
    subst hg
    clear m1 m2 m3 hnx
    have flg : Flag "my for" := ⟨⟩
    have flg : Flag "my iter" := ⟨⟩
    walk_at "my steps"
    (repeat ((with_reducible rename Flag _ => hz9); clear hz9))
    unfold Hold
    rename Fr _ _ _ _ => F1
    rename News _ _ _ _ => N1
    refine for_list (CaInv l1 l2 (ids g2) (fun i => !decide (i ∈ ids g1)) (((ids g1).filter (fun i => !decide (i ∈ ids g2))).length) [(l1, listO vs1 n1), (l2, listO vs2 n2)]) rfl F1 N1 (by k_mem) ⟨rfl, rfl, by walk_at "my memall", [], ids g2, _, i2, rfl, by simp; rfl⟩ ?turn ?done
    case turn =>
      clear F1 N1
      intro I v r m' nx h tk o ho hz9 Ft Nt
      walk_at "my ice"
      obtain ⟨m1, m2, hnx, pre', ns, t, hi, hg, m3⟩ := hz9
      cases hi
      rename_i n tn ns hi
      replace Nt := sub Nt (sc (.head _) (fun p hp => List.mem_append_right _ (hnx p hp)))
      rw [frame3 m1 m2 m3] at Ft
      clear m1 m2 m3 hnx
      walk_at "my steps"
      · rename (n ∈ ids g1) => q
        refine' ⟨rfl, rfl, by walk_at "my memall", pre' ++ [n], ns, _, hi, by rw [hg]; simp, ?e1⟩
        case' e1 => skip
        rw [filter_no (by simp [q])]
        rfl
      · rename (¬ n ∈ ids g1) => q
        refine' ⟨rfl, rfl, by walk_at "my memall", pre' ++ [n], ns, _, hi, by rw [hg]; simp, ?e2⟩
        case' e2 => skip
        rw [filter_yes (by simp [q])]
        rfl
    case done =>
      clear F1 N1
      intro m' nx h tk hz4 Ft Nt
      walk_at "my ice"
      obtain ⟨m1, m2, hnx, pre', ns, t, hi, hg, m3⟩ := hz4
      cases hi
      replace Nt := sub Nt hnx
      rw [frame3 m1 m2 m3] at Ft
      rw [List.append_nil] at hg
      subst hg
      clear m1 m2 m3 hnx
      walk_at "my steps"
      rename News _ _ _ (restOf _ _) => NR
      rename News _ _ _ (_ :: _) => NK
      have NA := back_all N hO NK NR (by kcj_all)
      exact ret _ _ _ (by assumption) (sub NA (by kcj_all))
end
noncomputable def Cf.enter (f : Cf) (auto : Bool) (cs : List (Int × Int)) : Cf := { ({ f with o := f.v } : Cf).steps cs with au := auto }
noncomputable def Cf.leave (f : Cf) : Cf := ⟨f.v, fun _ => false, fun i => f.l i || f.n i, fun _ => false, false⟩
noncomputable def apart (g1 g2 : Int → Bool) : Nat := ((ids g1).filter (fun i => !decide (i ∈ ids g2))).length + ((ids g2).filter (fun i => !decide (i ∈ ids g1))).length
theorem all_mem_cons {a : Addr × Obj} {l : List (Addr × Obj)} : ∀ p ∈ l, p ∈ a :: l := fun _ h => .tail _ h
theorem words_joint_1 : True := by
  k_with "call ref" => (k_here; (with_reducible show wpAny _ _ (call (Value.ref 248) _) _ _ _); k_dflt (refine' checked_copy_spec (f := ⟨_, _, _, _, _⟩) ⟨?Bqat, ?Fqat, ?Xqat, ?Nqat, ?Tqat, ?dqat, ?uqat⟩ ?h1qf95c62 ?h2qf95c62 ?hcqf95c62 ?hsqf95c62 ?_; walk_at "my at"; (case h1qf95c62 => k_mem); (case h2qf95c62 => k_mem); (case hcqf95c62 => walk_at "my cf"); (case hsqf95c62 => walk_at "my sound"); k_whole); intro x'9 d'9 lv'9 lo'9 ll'9 ln'9 vv'9 vo'9 vl'9 vn'9 cv'9 co'9 cl'9 cn'9 t1'9 t2'9 t3'9 t4'9 t5'9 h'9 tk'9 F'9 N'9 ox9 od9 i1'9 i2'9 i3'9 i4'9; (try dsimp only at N'9 i1'9 i2'9 i3'9 i4'9); (try k_sweep); (try dsimp only))
  k_with "call ref" => (k_here; (with_reducible show wpAny _ _ (call (Value.ref 206) _) _ _ _); k_dflt (refine' count_apart_spec ⟨?Bqat, ?Fqat, ?Xqat, ?Nqat, ?Tqat, ?dqat, ?uqat⟩ ?h1q7942c2 ?i1q7942c2 ?h2q7942c2 ?i2q7942c2 ?_; walk_at "my at"; (case h1q7942c2 => k_mem); (case i1q7942c2 => k_asm); (case h2q7942c2 => k_mem); (case i2q7942c2 => k_asm); k_whole); intro t'9 h'9 tk'9 F'9 N'9; (try k_sweep); (try dsimp only))
  k_with "call ref" => (k_here; (with_reducible show wpAny _ _ (call (Value.ref 255) _) _ _ _); k_dflt (refine' do_changes_spec (f := ⟨_, _, _, _, _⟩) ⟨?Bqat, ?Fqat, ?Xqat, ?Nqat, ?Tqat, ?dqat, ?uqat⟩ ?h1q06f74a ?h2q06f74a ?h3q06f74a ?hstq06f74a ?hcsq06f74a ?hMq06f74a ?hDq06f74a ?o1q06f74a ?o2q06f74a ?o3q06f74a ?_ ?_; walk_at "my at"; (case h1q06f74a => k_mem); (case h2q06f74a => k_mem); (case h3q06f74a => k_mem); (case hstq06f74a => first | assumption | exact StepsAt.keeps (by k_asm) (Fr.keep (by k_asm))); (case hcsq06f74a => k_asm); (case hMq06f74a => walk_at "my made"); (case o1q06f74a => k_ne); (case o2q06f74a => k_ne); (case o3q06f74a => k_ne); (case hDq06f74a => k_extra "my drop")); (first | (intro hVot9; walk_at "made intro") | (intro hVot9 e'9 t'9 vs'9 G'9 h'9 tk'9 FG'9 S'9 U'9; (try dsimp only))))
  trivial
section
variable {w : World} {mean : ExcName → Option Value} {mg mb : Str → Option Value}
   {dp un : Nat} {gd : Option (List Code)} {cn : Str} {nm : List (Str × NameKind)} {ig ic : Bool} {mo : List (Str × Const)} {a : Addr} {ccd : Value} {cl : List (Str × Addr)} {outer : List Env} {A₀ : Around} {base h₀ : Heap} {L : Addr} {m : Str → Option Value} {s : Shared} {Q E : Value → Shared → Prop} {news : List (Addr × Obj)}
variable {sf ds b cx : Addr} {f : Cf} {tb : Tok} {cvs : List Value} {nc : Nat} {cs : List (Int × Int)} {au : Bool}
theorem leave_joint_spec (H : At 32 w mean mg mb A₀ base h₀ outer L m s news dp un) (hsf : (sf, instObj 279 ds) ∈ news) (hds : (ds, chD w.params b tb) ∈ news) (hc : CfIn w.params news b f) (hs : Sound f) (hv : ids f.v ≠ []) (hs2 : Sound f.leave)
   (ret : ids f.o ≠ [] → ∀ r tl h' tk', Fr h₀ L h' m → News h₀ L h' (tl ++ news) → CfIn w.params tl r f.leave → Q (.ref r) { s with heap := h', toks := tk' })
   (err : ids f.o = [] → ∀ e t vs G h' tk', Fr h₀ L G m → RaisedS base G (envX cn (ScF nm ig ic mo) L a ccd cl :: outer) e (.ref 56) t vs news h' → G.UpToSlots h' → E (.ref e) { s with heap := h', toks := tk' }) :
   CallA w dp un gd cn nm ig ic mo L a ccd cl outer 234 [.ref sf] Q E s := by
  have z := zz
  revert z
  k_fill
  intro _
  w_on
  obtain ⟨B, F, X, N, T, hd, hu⟩ := H
  unfold CallA
  have nextOn : NextOn := ⟨⟩
  obtain ⟨d, lv, lo, ll, ln, vv, vo, vl, vn, cv, co, cl', cn', t1, t2, t3, t4, t5, h1, h2, h3, h4, h5, h6, i1, i2, i3, i4⟩ := hc
  refine wpAny_call ?_
  have hO : ∀ p ∈ ([(b, instObj 183 d), (d, cfD w.params lv lo ll ln f.au t1 t2 t3 t4 t5), (lv, listO vv cv), (lo, listO vo co), (ll, listO vl cl'), (ln, listO vn cn'), (sf, instObj 279 ds), (ds, chD w.params b tb)] : List (Addr × Obj)), p ∈ news := sc (h1) (sc (h2) (sc (h3) (sc (h4) (sc (h5) (sc (h6) (sc (hsf) (sc (hds) (sn))))))))
  have hnil : IntsAre [] (ids (fun _ => false)) := by rw [ids_none]; exact .nil
  k_dflt walk_at "own enter"
  walk_at "my steps"
  all_goals (try (k_data; done))
  · rename (ids f.o ≠ []) => hj
    rename News _ _ _ (restOf _ _) => NR
    rename News _ _ _ (_ :: _) => NK
    have NA := back_all N hO NK NR (by kcj_all)
    exact ret hj _ _ _ _ (by assumption) NA ⟨_, _, _, _, _, _, _, _, _, _, _, _, _, _, _, _, _, _, by k_mem, by k_mem, by k_mem, by k_mem, by k_mem, by k_mem, by assumption, by assumption, by assumption, by assumption⟩
  · rename (¬ ids f.o ≠ []) => hj
    rename RaisedS _ _ _ _ _ _ _ _ _ => S1
    rename Heap.UpToSlots _ _ => U1
    obtain ⟨G1, F2, R2, U2⟩ := raise_back (want := news) rfl B N hO (by assumption) (by assumption) S1 U1 (fun p hp => hp) (by walk_at "my keep")
    exact err (Decidable.not_not.mp hj) _ _ _ _ _ _ F2 R2 U2
theorem enter_joint_spec (H : At 40 w mean mg mb A₀ base h₀ outer L m s news dp un) (hsf : (sf, instObj 279 ds) ∈ news) (hds : (ds, chD w.params b tb) ∈ news) (hc : CfIn w.params news b f) (hs : Sound f) (hv : ids f.v ≠ [])
   (hcx : (cx, listO cvs nc) ∈ news) (hst : StepsAt s.heap cvs cs) (hcs : ∀ c ∈ cs, GoodC c) (hs2 : Sound (f.enter au cs))
   (ret : ids f.o = [] → ids (f.enter au cs).v ≠ [] → ∀ r tl h' tk', Fr h₀ L h' m → News h₀ L h' (tl ++ news) → CfIn w.params tl r (f.enter au cs) → Q (.ref r) { s with heap := h', toks := tk' })
   (err : ids f.o ≠ [] ∨ ids (f.enter au cs).v = [] → ∀ e t vs G h' tk', Fr h₀ L G m → RaisedS base G (envX cn (ScF nm ig ic mo) L a ccd cl :: outer) e (.ref 56) t vs news h' → G.UpToSlots h' → E (.ref e) { s with heap := h', toks := tk' }) :
   CallA w dp un gd cn nm ig ic mo L a ccd cl outer 227 [.ref sf, .bool au, .ref cx] Q E s := by
  have z := zz
  revert z
  k_fill
  intro _
  w_on
  obtain ⟨B, F, X, N, T, hd, hu⟩ := H
  unfold CallA
  have nextOn : NextOn := ⟨⟩
  obtain ⟨fv, fo, fl, fn, fa⟩ := f
  obtain ⟨d, lv, lo, ll, ln, vv, vo, vl, vn, cv, co, cl', cn', t1, t2, t3, t4, t5, h1, h2, h3, h4, h5, h6, i1, i2, i3, i4⟩ := hc
  dsimp only at hv h2 i1 i2 i3 i4
  refine wpAny_call ?_
  have hO : ∀ p ∈ [(b, instObj 183 d), (d, cfD w.params lv lo ll ln fa t1 t2 t3 t4 t5), (lv, listO vv cv), (lo, listO vo co), (ll, listO vl cl'), (ln, listO vn cn'), (sf, instObj 279 ds), (ds, chD w.params b tb), (cx, listO cvs nc)], p ∈ news := sc h1 (sc h2 (sc h3 (sc h4 (sc h5 (sc h6 (sc hsf (sc hds (sc hcx sn))))))))
  k_dflt walk_at "own enter"
  rename (∀ b o, Heap.get? _ b = some o → _ → _) => hX
  have hst0 := hst.ground N hO hX (by simp)
  clear hX hst
  walk_at "my steps"
  · rename (ids fo ≠ []) => hj
    rename RaisedS _ _ _ _ _ _ _ _ _ => S1
    rename Heap.UpToSlots _ _ => U1
    obtain ⟨G1, F2, R2, U2⟩ := raise_back (want := news) rfl B N hO (by assumption) (by assumption) S1 U1 (fun p hp => hp) (by walk_at "my keep")
    exact err (.inl hj) _ _ _ _ _ _ F2 R2 U2
  · rename (¬ ids fo ≠ []) => hj
    rename (ids (Cf.v _) ≠ []) => hV
    rename News _ _ _ (restOf _ _) => NR
    rename News _ _ _ (_ :: _) => NK
    have NA := back_all N hO NK NR (by kcj_all)
    exact ret (Decidable.not_not.mp hj) hV _ _ _ _ (by assumption) NA ⟨_, _, _, _, _, _, _, _, _, _, _, _, _, _, _, _, _, _, by k_mem, by k_mem, by k_mem, by k_mem, by k_mem, by k_mem, by assumption, by assumption, by assumption, by assumption⟩
  · rename (ids (Cf.v _) = []) => hV
    rename RaisedS _ _ _ _ _ _ _ _ _ => S1
    rename Heap.UpToSlots _ _ => U1
    obtain ⟨G1, F2, R2, U2⟩ := raise_back (want := news) rfl B N hO (by assumption) (by assumption) S1 U1 (fun p hp => hp) (by walk_at "my keep")
    exact err (.inr hV) _ _ _ _ _ _ F2 R2 U2
theorem simple_spec (H : At 40 w mean mg mb A₀ base h₀ outer L m s news dp un) (hsf : (sf, instObj 279 ds) ∈ news) (hds : (ds, chD w.params b tb) ∈ news) (hc : CfIn w.params news b f) (hs : Sound f) (hv : ids f.v ≠ [])
   (hcx : (cx, listO cvs nc) ∈ news) (hst : StepsAt s.heap cvs cs) (hcs : ∀ c ∈ cs, GoodC c) (hs2 : Sound (f.steps cs))
   (ret : ids f.o = [] → ids (f.steps cs).v ≠ [] → ¬ 1 < (apart f.v (f.steps cs).v : Int) → ∀ r tl h' tk', Fr h₀ L h' m → News h₀ L h' (tl ++ news) → CfIn w.params tl r (f.steps cs) → Q (.ref r) { s with heap := h', toks := tk' })
   (err : ids f.o ≠ [] ∨ ids (f.steps cs).v = [] ∨ 1 < (apart f.v (f.steps cs).v : Int) → ∀ e t vs G h' tk', Fr h₀ L G m → RaisedS base G (envX cn (ScF nm ig ic mo) L a ccd cl :: outer) e (.ref 56) t vs news h' → G.UpToSlots h' → E (.ref e) { s with heap := h', toks := tk' }) :
   CallA w dp un gd cn nm ig ic mo L a ccd cl outer 241 [.ref sf, .ref cx] Q E s := by
  have z := zz
  revert z
  k_fill
  intro _
  w_on
  obtain ⟨B, F, X, N, T, hd, hu⟩ := H
  unfold CallA
  have nextOn : NextOn := ⟨⟩
  obtain ⟨fv, fo, fl, fn, fa⟩ := f
  obtain ⟨d, lv, lo, ll, ln, vv, vo, vl, vn, cv, co, cl', cn', t1, t2, t3, t4, t5, h1, h2, h3, h4, h5, h6, i1, i2, i3, i4⟩ := hc
  dsimp only at hv h2 i1 i2 i3 i4
  refine wpAny_call ?_
  have hO : ∀ p ∈ [(b, instObj 183 d), (d, cfD w.params lv lo ll ln fa t1 t2 t3 t4 t5), (lv, listO vv cv), (lo, listO vo co), (ll, listO vl cl'), (ln, listO vn cn'), (sf, instObj 279 ds), (ds, chD w.params b tb), (cx, listO cvs nc)], p ∈ news := sc h1 (sc h2 (sc h3 (sc h4 (sc h5 (sc h6 (sc hsf (sc hds (sc hcx sn))))))))
  k_dflt walk_at "own enter"
  rename (∀ b o, Heap.get? _ b = some o → _ → _) => hX
  have hst0 := hst.ground N hO hX (by simp)
  clear hX hst
  walk_at "my steps"
  · rename (ids fo ≠ []) => hj
    rename RaisedS _ _ _ _ _ _ _ _ _ => S1
    rename Heap.UpToSlots _ _ => U1
    obtain ⟨G1, F2, R2, U2⟩ := raise_back (want := news) rfl B N hO (by assumption) (by assumption) S1 U1 (fun p hp => hp) (by walk_at "my keep")
    exact err (.inl hj) _ _ _ _ _ _ F2 R2 U2
  · rename ((1 : Int) < _) => hA
    rename RaisedS _ _ _ _ _ _ _ _ _ => S1
    rename Heap.UpToSlots _ _ => U1
    obtain ⟨G1, F2, R2, U2⟩ := raise_back (want := news) rfl B N hO (by assumption) (by assumption) S1 U1 (fun p hp => hp) (by walk_at "my keep")
    exact err (.inr (.inr hA)) _ _ _ _ _ _ F2 R2 U2
  · rename (¬ ids fo ≠ []) => hj
    rename (ids (Cf.v _) ≠ []) => hV
    rename (¬ (1 : Int) < _) => hA
    rename News _ _ _ (restOf _ _) => NR
    rename News _ _ _ (_ :: _) => NK
    have NA := back_all N hO NK NR (by kcj_all)
    exact ret (Decidable.not_not.mp hj) hV hA _ _ _ _ (by assumption) NA ⟨_, _, _, _, _, _, _, _, _, _, _, _, _, _, _, _, _, _, by k_mem, by k_mem, by k_mem, by k_mem, by k_mem, by k_mem, by assumption, by assumption, by assumption, by assumption⟩
  · rename (ids (Cf.v _) = []) => hV
    rename RaisedS _ _ _ _ _ _ _ _ _ => S1
    rename Heap.UpToSlots _ _ => U1
    obtain ⟨G1, F2, R2, U2⟩ := raise_back (want := news) rfl B N hO (by assumption) (by assumption) S1 U1 (fun p hp => hp) (by walk_at "my keep")
    exact err (.inr (.inl hV)) _ _ _ _ _ _ F2 R2 U2
end
noncomputable def isYes (vt : Int → Option Bool) (i : Int) : Bool := vt i == some true
noncomputable def isOut (vt : Int → Option Bool) (i : Int) : Bool := vt i == none
/-- majority_vote, of the members f and the votes vt -/
noncomputable def mvote (f : Int → Bool) (vt : Int → Option Bool) : Int :=
  if ids f = [] then 3 else
  if (((ids f).filter (isYes vt)).length : Int) ≥ Int.fdiv ((ids f).length : Int) 2 + 1 then 3 else
  if (((ids f).filter (isYes vt)).length : Int) + (((ids f).filter (isOut vt)).length : Int) ≥ Int.fdiv ((ids f).length : Int) 2 + 1 then 1 else 2
/-- the ledger bears the votes -/
noncomputable def VotesIn (w : World) (news : List (Addr × Obj)) (vd : Addr) (vt : Int → Option Bool) : Prop :=
  (vd == sysModules) = false ∧ ∃ o kvs, (vd, o) ∈ news ∧ o.IsDictOf (PySem.intKind Challenge.rw_no0410_01.row.prog w) kvs ∧ ∀ i ∈ IDs, valueAt kvs i = (vt i).map Value.bool
noncomputable def MvInv (kvs : List (Int × Value)) (l vd : Addr) (g : List Int) (vt : Int → Option Bool) (lg : List (Addr × Obj)) (r : List Value) (m : Str → Option Value) (nx : List (Addr × Obj)) : Prop :=
  m (Str.ofString "ids") = some (.ref l) ∧ m (Str.ofString "votes") = some (.ref vd) ∧ (∀ p ∈ lg, p ∈ nx) ∧ ∃ pre ns t u, IntsAre r ns ∧ g = pre ++ ns ∧ m (Str.ofString "granted") = some (.int ((0 + (pre.filter (isYes vt)).length : Nat) : Int) t) ∧ m (Str.ofString "missing") = some (.int ((0 + (pre.filter (isOut vt)).length : Nat) : Int) u)
theorem vfilter_no {h : Int → Bool} {pre : List Int} {n : Int} {c₀ : Nat} (e : h n = false) : c₀ + ((pre ++ [n]).filter h).length = c₀ + (pre.filter h).length := by
  rw [List.filter_append, List.filter_cons_of_neg (by rw [e]; decide)]
  simp
theorem vfilter_yes {h : Int → Bool} {pre : List Int} {n : Int} {c₀ : Nat} (e : h n = true) : ((c₀ + ((pre ++ [n]).filter h).length : Nat) : Int) = ((c₀ + (pre.filter h).length : Nat) : Int) + 1 := by
  rw [List.filter_append, List.filter_cons_of_pos e]
  simp
  omega
theorem mv_no {h : Int → Bool} {pre : List Int} {n : Int} {c₀ : Nat} {t : Tok} (e : h n = false) : some (Value.int ((c₀ + (pre.filter h).length : Nat) : Int) t) = some (.int ((c₀ + ((pre ++ [n]).filter h).length : Nat) : Int) t) := by
  rw [vfilter_no e]
theorem mv_yes {h : Int → Bool} {pre : List Int} {n : Int} {c₀ : Nat} {t : Tok} (e : h n = true) : some (Value.int (((c₀ + (pre.filter h).length : Nat) : Int) + 1) t) = some (.int ((c₀ + ((pre ++ [n]).filter h).length : Nat) : Int) t) := by
  rw [vfilter_yes e]
theorem frame4 {m : Str → Option Value} {a b c d : Str} {u v x y : Value} (h1 : m a = some u) (h2 : m b = some v) (h3 : m c = some x) (h4 : m d = some y) : m = fun z => if z = a then some u else if z = b then some v else if z = c then some x else if z = d then some y else m z := by
  funext z
  by_cases e : z = a
  · rw [if_pos e, e, h1]
  · rw [if_neg e]
    by_cases e2 : z = b
    · rw [if_pos e2, e2, h2]
    · rw [if_neg e2]
      by_cases e3 : z = c
      · rw [if_pos e3, e3, h3]
      · rw [if_neg e3]
        by_cases e4 : z = d
        · rw [if_pos e4, e4, h4]
        · rw [if_neg e4]
theorem dict_cls {o : Obj} {prog : Program} {w : World} {K : Type} [DecidableEq K] {knd : KeyKind prog w K} {kvs : List (K × Value)} (h : o.IsDictOf knd kvs) : o.cls = .type "dict" := by
  obtain ⟨es, ep, hc, r⟩ := h
  exact hc.1
theorem off_it {I : Addr} {o : Obj} (ho : o.cls = .type "list_iterator") : ∀ {l : List (Addr × Obj)}, (∀ p ∈ l, p.2.cls ≠ .type "list_iterator") → OffW [(I, o)] l
  | [], _ => trivial
  | p :: r, h => ⟨⟨.inr (by rw [ho]; exact h p (.head _)), trivial⟩, off_it ho fun q hq => h q (.tail _ hq)⟩
theorem words_votes_1 : True := by
  k_with "compareOp NotIn int ref" => (k_here; k_dflt (refine kdg_notin (knd := PySem.intKind _ _) (by k_asm) (by k_mem) (by k_asm) (by k_asm) (intKind_is _ _ _ _) _ (congrArg Option.isSome (by k_asm)) ?_); (try dsimp only [Option.isSome, Bool.not_true, Bool.not_false]))
  k_with "subscriptTail" => (k_here; (with_reducible show wpAny _ _ (subscriptTail _ _ (Value.ref _) (Value.int _ _)) _ _ _); k_dflt (refine kda_item (knd := PySem.intKind _ _) (by k_asm) (by k_mem) (by k_asm) (intKind_is _ _ _ _) (by k_asm) ?_))
  trivial
section
variable {w : World} {mean : ExcName → Option Value} {mg mb : Str → Option Value}
   {dp un : Nat} {gd : Option (List Code)} {cn : Str} {nm : List (Str × NameKind)} {ig ic : Bool} {mo : List (Str × Const)} {a : Addr} {ccd : Value} {cl : List (Str × Addr)} {outer : List Env} {A₀ : Around} {base h₀ : Heap} {L : Addr} {m : Str → Option Value} {s : Shared} {Q E : Value → Shared → Prop} {news : List (Addr × Obj)}
theorem majority_vote_spec (H : At 8 w mean mg mb A₀ base h₀ outer L m s news dp un)
   {l vd : Addr} {vs : List Value} {n : Nat} {f : Int → Bool} {vt : Int → Option Bool} (h1 : (l, listO vs n) ∈ news) (i1 : IntsAre vs (ids f)) (hv : VotesIn w news vd vt)
   (ret : ∀ t h' tk', Fr h₀ L h' m → News h₀ L h' news → Q (.int (mvote f vt) t) { s with heap := h', toks := tk' }) :
   CallA w dp un gd cn nm ig ic mo L a ccd cl outer 89 [.ref l, .ref vd] Q E s := by
  have z := zz
  revert z
  k_fill
  intro _
  w_on
  obtain ⟨B, F, X, N, T, hd, hu⟩ := H
  unfold CallA
  have nextOn : NextOn := ⟨⟩
  obtain ⟨hlo, ov, kvs, hvd, hdo, hva⟩ := hv
  have hdc := dict_cls hdo
  refine wpAny_call ?_
  have hO : ∀ p ∈ ([(l, listO vs n), (vd, ov)] : List (Addr × Obj)), p ∈ news := sc (h1) (sc (hvd) (sn))
  by_cases he : ids f = []
  · k_dflt walk_at "own enter"
    walk_at "my steps"
    all_goals (try (k_data; done))
    have e : mvote f vt = 3 := if_pos he
    rw [e] at ret
    rename News _ _ _ (restOf _ _) => NR
    rename News _ _ _ (_ :: _) => NK
    exact ret _ _ _ (by assumption) (sub (back_all N hO NK NR (by kcj_all)) (by kcj_all))
  · have flg : Flag "my for" := ⟨⟩
    have flg : Flag "my iter" := ⟨⟩
    k_dflt walk_at "own enter"
    walk_at "my steps"
    (repeat ((with_reducible rename Flag _ => hz9); clear hz9))
    unfold Hold
    rename Fr _ _ _ _ => F1
    rename News _ _ _ _ => N1
    refine for_list (MvInv kvs l vd (ids f) vt [(l, listO vs n), (vd, ov)]) rfl F1 N1 (by k_mem) ⟨rfl, rfl, fun _ h => h, [], ids f, _, _, i1, rfl, rfl, rfl⟩ ?turn ?done
    case turn =>
      clear F1 N1
      intro I v r m' nx h tk o ho hz9 Ft Nt
      walk_at "my ice"
      obtain ⟨m1, m2, hnx, pre, ns, t, u, hi, hg, m3, m4⟩ := hz9
      cases hi
      rename_i n tn ns hi
      have hid : n ∈ IDs := in_ids f n (by rw [hg]; simp)
      have hvn := hva n hid
      replace Nt := sub Nt (sc (.head _) (fun p hp => List.mem_append_right _ (hnx p hp)))
      rw [frame4 m1 m2 m3 m4] at Ft
      clear m1 m2 m3 m4 hnx hva
      cases hb : vt n with
      | none =>
        rw [hb] at hvn
        dsimp only [Option.map] at hvn
        walk_at "my steps"
        refine ⟨rfl, rfl, fun _ hp => hp, pre ++ [n], ns, _, _, hi, by rw [hg]; simp, mv_no (by simp [isYes, hb]), mv_yes (by simp [isOut, hb])⟩
      | some b =>
        rw [hb] at hvn
        dsimp only [Option.map] at hvn
        cases b
        · skip
          walk_at "my steps"
          refine ⟨rfl, rfl, fun _ hp => hp, pre ++ [n], ns, _, _, hi, by rw [hg]; simp, mv_no (by simp [isYes, hb]), mv_no (by simp [isOut, hb])⟩
        · skip
          walk_at "my steps"
          refine ⟨rfl, rfl, fun _ hp => hp, pre ++ [n], ns, _, _, hi, by rw [hg]; simp, mv_yes (by simp [isYes, hb]), mv_no (by simp [isOut, hb])⟩
    case done =>
      clear F1 N1
      intro m' nx h tk hz4 Ft Nt
      walk_at "my ice"
      obtain ⟨m1, m2, hnx, pre, ns, t, u, hi, hg, m3, m4⟩ := hz4
      cases hi
      replace Nt := sub Nt hnx
      rw [frame4 m1 m2 m3 m4] at Ft
      rw [List.append_nil] at hg
      subst hg
      clear m1 m2 m3 m4 hnx
      walk_at "my steps"
      all_goals (try (k_data; done))
      · rename (_ ≤ _) => q1
        have e : mvote f vt = 3 := by
          unfold mvote
          rw [if_neg he, if_pos (by omega)]
        rw [e] at ret
        rename News _ _ _ (restOf _ _) => NR
        rename News _ _ _ (_ :: _) => NK
        exact ret _ _ _ (by assumption) (sub (back_all N hO NK NR (by kcj_all)) (by kcj_all))
      · rename (_ ≤ _) => q1
        rename (¬ _ ≤ _) => q2
        have e : mvote f vt = 1 := by
          unfold mvote
          rw [if_neg he, if_neg (by omega), if_pos (by omega)]
        rw [e] at ret
        rename News _ _ _ (restOf _ _) => NR
        rename News _ _ _ (_ :: _) => NK
        exact ret _ _ _ (by assumption) (sub (back_all N hO NK NR (by kcj_all)) (by kcj_all))
      · rename (¬ _ ≤ _) => q1
        rename (¬ _ ≤ _) => q2
        have e : mvote f vt = 2 := by
          unfold mvote
          rw [if_neg he, if_neg (by omega), if_neg (by omega)]
        rw [e] at ret
        rename News _ _ _ (restOf _ _) => NR
        rename News _ _ _ (_ :: _) => NK
        exact ret _ _ _ (by assumption) (sub (back_all N hO NK NR (by kcj_all)) (by kcj_all))
end
noncomputable def jvote (f g : Int → Bool) (vt : Int → Option Bool) : Int :=
  if mvote f vt = mvote g vt then mvote f vt else if mvote f vt = 2 ∨ mvote g vt = 2 then 2 else 1
theorem words_votes2_1 : True := by
  k_with "my votes" => exact ⟨by assumption, _, _, by k_mem, by assumption, by assumption⟩
  k_with "call ref" => (k_here; (with_reducible show wpAny _ _ (call (Value.ref 89) _) _ _ _); k_dflt (refine' majority_vote_spec ⟨?Bqat, ?Fqat, ?Xqat, ?Nqat, ?Tqat, ?dqat, ?uqat⟩ ?h1qf8d530 ?i1qf8d530 ?hvqf8d530 ?_; walk_at "my at"; (case h1qf8d530 => k_mem); (case i1qf8d530 => k_asm); (case hvqf8d530 => walk_at "my votes"); k_whole); intro t'9 h'9 tk'9 F'9 N'9; (try k_sweep); (try dsimp only))
  trivial
theorem news_cls {h₀ h : Heap} {L a b : Addr} {o o' : Obj} {news : List (Addr × Obj)} (N : News h₀ L h news) (hp : (a, o) ∈ news) (hq : (b, o') ∈ news) (hc : o.cls ≠ o'.cls) : a ≠ b := fun e => hc (by
  have := news_same N hp hq e
  rw [show o = o' from congrArg (·.2) this])
theorem isDict_nil {o : Obj} {prog : Program} {w : World} {K K' : Type} [DecidableEq K] [DecidableEq K'] {knd : KeyKind prog w K} {knd' : KeyKind prog w K'} (h : o.IsDictOf knd []) : o.IsDictOf knd' [] := by
  obtain ⟨es, ep, hc, hd, hk, hp, hn⟩ := h
  have e : es.toList = [] := by cases hq : es.toList with | nil => rfl | cons a b => rw [hq] at hp; cases hp
  have e2 : es = #[] := by cases es; simp_all
  subst e2
  exact ⟨_, ep, hc, hd, fun _ h => by simp at h, .nil, .nil⟩
section
variable {w : World} {mean : ExcName → Option Value} {mg mb : Str → Option Value}
   {dp un : Nat} {gd : Option (List Code)} {cn : Str} {nm : List (Str × NameKind)} {ig ic : Bool} {mo : List (Str × Const)} {a : Addr} {ccd : Value} {cl : List (Str × Addr)} {outer : List Env} {A₀ : Around} {base h₀ : Heap} {L : Addr} {m : Str → Option Value} {s : Shared} {Q E : Value → Shared → Prop} {news : List (Addr × Obj)}
theorem joint_vote_spec (H : At 12 w mean mg mb A₀ base h₀ outer L m s news dp un)
   {l1 l2 vd : Addr} {vs1 vs2 : List Value} {n1 n2 : Nat} {f g : Int → Bool} {vt : Int → Option Bool} (h1 : (l1, listO vs1 n1) ∈ news) (i1 : IntsAre vs1 (ids f)) (h2 : (l2, listO vs2 n2) ∈ news) (i2 : IntsAre vs2 (ids g)) (hv : VotesIn w news vd vt)
   (ret : ∀ t h' tk', Fr h₀ L h' m → News h₀ L h' news → Q (.int (jvote f g vt) t) { s with heap := h', toks := tk' }) :
   CallA w dp un gd cn nm ig ic mo L a ccd cl outer 103 [.ref l1, .ref l2, .ref vd] Q E s := by
  have z := zz
  revert z
  k_fill
  intro _
  w_on
  obtain ⟨B, F, X, N, T, hd, hu⟩ := H
  unfold CallA
  have nextOn : NextOn := ⟨⟩
  obtain ⟨hlo, ov, kvs, hvd, hdo, hva⟩ := hv
  have hdc := dict_cls hdo
  refine wpAny_call ?_
  have hO : ∀ p ∈ ([(l1, listO vs1 n1), (l2, listO vs2 n2), (vd, ov)] : List (Addr × Obj)), p ∈ news := sc (h1) (sc (h2) (sc (hvd) (sn)))
  k_dflt walk_at "own enter"
  walk_at "my steps"
  all_goals (try (k_data; done))
  all_goals (rename News _ _ _ (restOf _ _) => NR; rename News _ _ _ (_ :: _) => NK; have NA := sub (news := news) (back_all N hO NK NR (by kcj_all)) (by kcj_all))
  · have e : jvote f g vt = mvote f vt := by unfold jvote; repeat' split <;> omega
    rw [e] at ret
    exact ret _ _ _ (by assumption) NA
  · have e : jvote f g vt = 2 := by unfold jvote; repeat' split <;> omega
    rw [e] at ret
    exact ret _ _ _ (by assumption) NA
  · have e : jvote f g vt = 2 := by unfold jvote; repeat' split <;> omega
    rw [e] at ret
    exact ret _ _ _ (by assumption) NA
  · have e : jvote f g vt = 1 := by unfold jvote; repeat' split <;> omega
    rw [e] at ret
    exact ret _ _ _ (by assumption) NA
end
theorem words_votes2_2 : True := by
  k_with "call ref" => (k_here; (with_reducible show wpAny _ _ (call (Value.ref 103) _) _ _ _); k_dflt (refine' joint_vote_spec ⟨?Bqat, ?Fqat, ?Xqat, ?Nqat, ?Tqat, ?dqat, ?uqat⟩ ?h1q9ca0ef ?i1q9ca0ef ?h2q9ca0ef ?i2q9ca0ef ?hvq9ca0ef ?_; walk_at "my at"; (case h1q9ca0ef => k_mem); (case i1q9ca0ef => k_asm); (case h2q9ca0ef => k_mem); (case i2q9ca0ef => k_asm); (case hvq9ca0ef => walk_at "my votes"); k_whole); intro t'9 h'9 tk'9 F'9 N'9; (try k_sweep); (try dsimp only))
  trivial
/-- a Ballots' dict -/
noncomputable abbrev balD (P : Params) (c vd : Addr) (t1 t2 : Tok) : Obj := dictOf [
  ⟨PyData.keyHash P (Str.ofString "config"), .str (Str.ofString "config") t1, .ref c⟩,
  ⟨PyData.keyHash P (Str.ofString "votes"), .str (Str.ofString "votes") t2, .ref vd⟩] 2
section
variable {w : World} {mean : ExcName → Option Value} {mg mb : Str → Option Value}
   {dp un : Nat} {gd : Option (List Code)} {cn : Str} {nm : List (Str × NameKind)} {ig ic : Bool} {mo : List (Str × Const)} {a : Addr} {ccd : Value} {cl : List (Str × Addr)} {outer : List Env} {A₀ : Around} {base h₀ : Heap} {L : Addr} {m : Str → Option Value} {s : Shared} {Q E : Value → Shared → Prop} {news : List (Addr × Obj)}
theorem vote_spec (H : At 16 w mean mg mb A₀ base h₀ outer L m s news dp un)
   {x vd : Addr} {f : Cf} {vt : Int → Option Bool} (hc : CfIn w.params news x f) (hv : VotesIn w news vd vt)
   (ret : ∀ t h' tk', Fr h₀ L h' m → News h₀ L h' news → Q (.int (jvote f.v f.o vt) t) { s with heap := h', toks := tk' }) :
   CallA w dp un gd cn nm ig ic mo L a ccd cl outer 166 [.ref x, .ref vd] Q E s := by
  have z := zz
  revert z
  k_fill
  intro _
  w_on
  obtain ⟨B, F, X, N, T, hd, hu⟩ := H
  unfold CallA
  have nextOn : NextOn := ⟨⟩
  obtain ⟨d, lv, lo, ll, ln, vv, vo, vl, vn, cv, co, cl', cn', t1, t2, t3, t4, t5, h1, h2, h3, h4, h5, h6, i1, i2, i3, i4⟩ := hc
  obtain ⟨hlo, ov, kvs, hvd, hdo, hva⟩ := hv
  have hdc := dict_cls hdo
  refine wpAny_call ?_
  have hO : ∀ p ∈ ([(x, instObj 183 d), (d, cfD w.params lv lo ll ln f.au t1 t2 t3 t4 t5), (lv, listO vv cv), (lo, listO vo co), (vd, ov)] : List (Addr × Obj)), p ∈ news := sc (h1) (sc (h2) (sc (h3) (sc (h4) (sc (hvd) (sn)))))
  k_dflt walk_at "own enter"
  walk_at "my steps"
  all_goals (try (k_data; done))
  rename News _ _ _ (restOf _ _) => NR
  rename News _ _ _ (_ :: _) => NK
  have NA := back_all N hO NK NR (by kcj_all)
  exact ret _ _ _ (by assumption) (sub NA (by kcj_all))
theorem words_votes2_3 : True := by
  k_with "lib k_ne" => ((with_reducible rename Flag "my ballots" => hz9); first | exact Off.useL (by assumption) (by k_extra "mem") | exact Off.use (by assumption) (by k_extra "mem") | exact Off.useL' (by assumption) (by k_extra "mem") | exact Off.use' (by assumption) (by k_extra "mem") | ((refine neN ?_); (try dsimp only); first | assumption | exact Off.use (by assumption) (by k_extra "mem") | exact Off.use' (by assumption) (by k_extra "mem") | exact Ne.symm (by assumption) | omega | (rename News _ _ _ (_ :: _) => NZ9; first | exact news_cls NZ9 (by k_mem) (by k_mem) (by simp) | exact (news_cls NZ9 (by k_mem) (by k_mem) (by simp)).symm)))
  trivial
theorem ballots_spec (H : At 16 w mean mg mb A₀ base h₀ outer L m s news dp un)
   (ret : ∀ x d c vd o t1 t2 h' tk', Fr h₀ L h' m → News h₀ L h' ((x, instObj 328 d) :: (d, balD w.params c vd t1 t2) :: (vd, o) :: news) → o.IsDictOf (PySem.intKind Challenge.rw_no0410_01.row.prog w) [] → (vd == sysModules) = false →
     Off (d :: vd :: news.map (·.1)) x → Off (vd :: news.map (·.1)) d → Off (news.map (·.1)) vd → Q (.ref x) { s with heap := h', toks := tk' }) :
   CallA w dp un gd cn nm ig ic mo L a ccd cl outer 328 [] Q E s := by
  have z := zz
  revert z
  k_fill
  intro _
  w_on
  obtain ⟨B, F, X, N, T, hd, hu⟩ := H
  unfold CallA
  have nextOn : NextOn := ⟨⟩
  have flg : Flag "my ballots" := ⟨⟩
  refine' call_cls ?k1 ?k2 ?k3 ?k4 ?k5 ?k6 ?_
  (case k1 => k_asm); (case k2 => k_asm); (case k3 => k_asm); (case k4 => k_is); (case k5 => k_is); (case k6 => k_is)
  k_whole
  intro x' d' h' F' N' ld lx
  replace N := N'
  clear F N'
  have F := F'
  clear F'
  replace lx := ltN lx
  have hO : ∀ p ∈ ([(x', instObj 328 d'), (d', dictOf [] 0)] : List (Addr × Obj)), p ∈ (x', instObj 328 d') :: (d', dictOf [] 0) :: news := sc ((.head _)) (sc ((.tail _ (.head _))) (sn))
  have hnil : IntsAre [] (ids (fun _ => false)) := by rw [ids_none]; exact .nil
  k_dflt walk_at "own enter"
  walk_at "my steps"
  all_goals (try (k_data; done))
  rename News _ _ _ (restOf _ _) => NR
  rename News _ _ _ (_ :: _) => NK
  have NA := back_mut (news0 := news) N hO NK NR (fun p hp => .tail _ (.tail _ hp)) (by
    refine kl (by k_mem) (kr (fun p hp => Nat.ne_of_lt (ld p hp)) kn))
  rename Obj.IsDictOf _ _ _ => hd0
  exact ret _ _ _ _ _ _ _ _ _ (by assumption) (sub NA (by kcj_all)) (isDict_nil hd0) (by assumption)
    (Off.cons (by k_ne) (Off.cons (by k_ne) (Off.of fun p hp => Nat.ne_of_lt (Nat.lt_trans (ld p hp) lx)))) (Off.cons (by k_ne) (Off.of fun p hp => Nat.ne_of_lt (ld p hp))) (Off.of fun p hp => Off.all (news := (x', instObj 328 d') :: (d', dictOf [] 0) :: news) (by walk_at "my off") p (.tail _ (.tail _ hp)))
end
theorem words_votes3_1 : True := by
  k_with "setItem ref int" => (k_here; k_dflt (refine' kda_set (knd := PySem.intKind _ _) ?Fq0cdda8 ?Nq0cdda8 ?Uq0cdda8 ?dq0cdda8 (intKind_is _ _ _ _) ?zq0cdda8 ?_; (case Fq0cdda8 => k_asm); (case Nq0cdda8 => k_asm); (case Uq0cdda8 => k_updF); (case dq0cdda8 => k_asm); (case zq0cdda8 => rw [sizeLine_eq]; omega)); intro h'9 o'9 F'9 N'9 hd'9; (try dsimp only at N'9))
  trivial
section
variable {w : World} {mean : ExcName → Option Value} {mg mb : Str → Option Value}
   {dp un : Nat} {gd : Option (List Code)} {cn : Str} {nm : List (Str × NameKind)} {ig ic : Bool} {mo : List (Str × Const)} {a : Addr} {ccd : Value} {cl : List (Str × Addr)} {outer : List Env} {A₀ : Around} {base h₀ : Heap} {L : Addr} {m : Str → Option Value} {s : Shared} {Q E : Value → Shared → Prop} {news : List (Addr × Obj)}
theorem record_vote_spec (H : At 4 w mean mg mb A₀ base h₀ outer L m s news dp un)
   {x d c vd : Addr} {o : Obj} {t1 t2 tk : Tok} {k : Int} {ok : Bool} {kvs : List (Int × Value)} {news0 : List (Addr × Obj)} (h1 : (x, instObj 328 d) ∈ news) (h2 : (d, balD w.params c vd t1 t2) ∈ news) (h3 : (vd, o) ∈ news) (hlo : (vd == sysModules) = false)
   (hdo : o.IsDictOf (PySem.intKind Challenge.rw_no0410_01.row.prog w) kvs) (hn : kvs.length < 20) (o1 : x ≠ vd) (o2 : d ≠ vd) (hD : Drop vd news news0)
   (ret : ∀ o' h' tk', Fr h₀ L h' m → News h₀ L h' ((vd, o') :: news0) → o'.IsDictOf (PySem.intKind Challenge.rw_no0410_01.row.prog w) (if (valueAt kvs k).isSome then kvs else stored kvs k (.bool ok)) → Q .none { s with heap := h', toks := tk' }) :
   CallA w dp un gd cn nm ig ic mo L a ccd cl outer 304 [.ref x, .int k tk, .bool ok] Q E s := by
  have z := zz
  revert z
  k_fill
  intro _
  w_on
  obtain ⟨B, F, X, N, T, hd, hu⟩ := H
  unfold CallA
  have nextOn : NextOn := ⟨⟩
  refine wpAny_call ?_
  have hO : ∀ p ∈ ([(x, instObj 328 d), (d, balD w.params c vd t1 t2), (vd, o)] : List (Addr × Obj)), p ∈ news := sc (h1) (sc (h2) (sc (h3) (sn)))
  rcases hb : valueAt kvs k with _ | b
  · rw [hb] at ret
    dsimp only [Option.isSome] at ret
    k_dflt walk_at "own enter"
    walk_at "my steps"
    all_goals (try (k_data; done))
    rename News _ _ _ (restOf _ _) => NR
    rename News _ _ _ (_ :: _) => NK
    rename Obj.IsDictOf _ _ (stored _ _ _) => hd2
    have NA := back_mut (news0 := news0) N hO NK NR (fun p hp => (hD.sub p hp).1) (by
      refine kl (by k_mem) (kl (by k_mem) (kr (fun p hp => (hD.sub p hp).2) kn)))
    exact ret _ _ _ (by assumption) (sub NA (by kcj_all)) hd2
  · rw [hb] at ret
    dsimp only [Option.isSome] at ret
    k_dflt walk_at "own enter"
    walk_at "my steps"
    all_goals (try (k_data; done))
    rename News _ _ _ (restOf _ _) => NR
    rename News _ _ _ (_ :: _) => NK
    have NA := back_mut (news0 := news0) N hO NK NR (fun p hp => (hD.sub p hp).1) (by
      refine kl (by k_mem) (kl (by k_mem) (kl (by k_mem) kn)))
    exact ret _ _ _ (by assumption) (sub NA (by kcj_all)) hdo
end
theorem words_votes3_2 : True := by
  k_with "call ref" => (k_here; (with_reducible show wpAny _ _ (call (Value.ref 145) _) _ _ _); k_dflt (refine' all_voters_spec (f := ⟨_, _, _, _, _⟩) ⟨?Bqat, ?Fqat, ?Xqat, ?Nqat, ?Tqat, ?dqat, ?uqat⟩ ?hcqa36f7b ?_; walk_at "my at"; (case hcqa36f7b => walk_at "my cf"); k_whole); intro r'9 vs'9 h'9 tk'9 n'9 F'9 N'9 l19 i'9; walk_at "my off in"; (try dsimp only at i'9); (try k_sweep); (try dsimp only))
  k_with "call ref" => (k_here; (with_reducible show wpAny _ _ (call (Value.ref 166) _) _ _ _); k_dflt (refine' vote_spec (f := ⟨_, _, _, _, _⟩) ⟨?Bqat, ?Fqat, ?Xqat, ?Nqat, ?Tqat, ?dqat, ?uqat⟩ ?hcq61d5c5 ?hvq61d5c5 ?_; walk_at "my at"; (case hcq61d5c5 => walk_at "my cf"); (case hvq61d5c5 => walk_at "my votes"); k_whole); intro t'9 h'9 tk'9 F'9 N'9; (try k_sweep); (try dsimp only))
  k_with "exec For Name Call cons nil" => ((with_reducible rename Flag "my for" => hz9); k_here; (rename Fr _ _ _ _ => lF'9); (with_unfolding_all refine' For_turns lF'9 ?_; k_whole))
  k_with "getItem ref" => (k_here; (with_reducible show wpAny _ _ (getItem (Value.ref _) (Value.int _ _)) _ _ _); k_dflt (refine kdt_getItem (knd := PySem.intKind _ _) (by k_asm) (by k_mem) (by k_asm) (intKind_is _ _ _ _) (by k_asm) ?_))
  k_with "my cls" => first | exact an | (refine ac (by first | (simp; done) | (dsimp only; rw [dict_cls (by k_asm)]; simp)) ?_; k_extra "my cls")
  trivial
noncomputable def isNo (vt : Int → Option Bool) (i : Int) : Bool := vt i == some false
noncomputable def tyes (f g : Int → Bool) (vt : Int → Option Bool) : Nat := ((ids fun i => f i || g i).filter (isYes vt)).length
noncomputable def tno (f g : Int → Bool) (vt : Int → Option Bool) : Nat := ((ids fun i => f i || g i).filter (isNo vt)).length
noncomputable def TaInv (x : Addr) (g : List Int) (vt : Int → Option Bool) (lg : List (Addr × Obj)) (r : List Value) (m : Str → Option Value) (nx : List (Addr × Obj)) : Prop :=
  m (Str.ofString "self") = some (.ref x) ∧ (∀ p ∈ lg, p ∈ nx) ∧ ∃ pre ns t u, IntsAre r ns ∧ g = pre ++ ns ∧ m (Str.ofString "granted") = some (.int ((0 + (pre.filter (isYes vt)).length : Nat) : Int) t) ∧ m (Str.ofString "rejected") = some (.int ((0 + (pre.filter (isNo vt)).length : Nat) : Int) u)
theorem unr_tail {h₀ h' : Heap} {L : Addr} {p : Addr × Obj} {R : (Str → Option Value) → List (Addr × Obj) → Prop} {s₁ : Shared} {tk : Nat} {m' : Str → Option Value} {l : List (Addr × Obj)} (F : Fr h₀ L h' m') (N : News h₀ L h' (p :: l)) (ho : p.2.cls = .type "list_iterator") (hc : ∀ q ∈ l, q.2.cls ≠ .type "list_iterator") (r : R m' l) :
    UnrEndW h₀ L s₁ [p] R { s₁ with heap := h', toks := tk } :=
  ⟨h', tk, m', l, rfl, F, N, fun q hq p' hp' e => by
    have e1 : p' = p := by simpa using hp'
    subst e1
    have h1 := (N q (.tail _ hq)).1
    have h2 := (N p' (.head _)).1
    rw [e] at h1
    exact hc q hq ((congrArg Obj.cls (Option.some.inj (h1.symm.trans h2))).trans ho), r⟩
section
variable {w : World} {mean : ExcName → Option Value} {mg mb : Str → Option Value}
   {dp un : Nat} {gd : Option (List Code)} {cn : Str} {nm : List (Str × NameKind)} {ig ic : Bool} {mo : List (Str × Const)} {a : Addr} {ccd : Value} {cl : List (Str × Addr)} {outer : List Env} {A₀ : Around} {base h₀ : Heap} {L : Addr} {m : Str → Option Value} {s : Shared} {Q E : Value → Shared → Prop} {news : List (Addr × Obj)}
variable {x bd c vd : Addr} {t1' t2' : Tok} {f : Cf} {vt : Int → Option Bool}
theorem single_spec (H : At 12 w mean mg mb A₀ base h₀ outer L m s news dp un) (hx : (x, instObj 328 bd) ∈ news) (hbd : (bd, balD w.params c vd t1' t2') ∈ news) (hc : CfIn w.params news c f)
   (ret : ∀ h' tk', Fr h₀ L h' m → News h₀ L h' news → Q (.bool (decide ((ids f.v).length = 1) && decide (ids f.o = []))) { s with heap := h', toks := tk' }) :
   CallA w dp un gd cn nm ig ic mo L a ccd cl outer 325 [.ref x] Q E s := by
  have z := zz
  revert z
  k_fill
  intro _
  w_on
  obtain ⟨B, F, X, N, T, hd, hu⟩ := H
  unfold CallA
  have nextOn : NextOn := ⟨⟩
  obtain ⟨fv, fo, fl, fn, fa⟩ := f
  obtain ⟨d, lv, lo, ll, ln, vv, vo, vl, vn, cv, co, cl', cn', t1, t2, t3, t4, t5, h1, h2, h3, h4, h5, h6, i1, i2, i3, i4⟩ := hc
  dsimp only at h2 i1 i2 i3 i4
  refine wpAny_call ?_
  have hO : ∀ p ∈ ([(c, instObj 183 d), (d, cfD w.params lv lo ll ln fa t1 t2 t3 t4 t5), (lv, listO vv cv), (lo, listO vo co), (ll, listO vl cl'), (ln, listO vn cn'), (x, instObj 328 bd), (bd, balD w.params c vd t1' t2')] : List (Addr × Obj)), p ∈ news := sc (h1) (sc (h2) (sc (h3) (sc (h4) (sc (h5) (sc (h6) (sc (hx) (sc (hbd) (sn))))))))
  k_dflt walk_at "own enter"
  walk_at "my steps"
  all_goals (try (k_data; done))
  · rename ((((ids fv).length : Nat) : Int) = 1) => q
    rename News _ _ _ (restOf _ _) => NR
    rename News _ _ _ (_ :: _) => NK
    have NA := back_all N hO NK NR (by kcj_all)
    have e : (decide ((ids fv).length = 1) && decide (ids fo = [])) = !decide (ids fo ≠ []) := by
      have q2 : (ids fv).length = 1 := by omega
      simp [q2]
    rw [← e]
    exact ret _ _ (by assumption) (sub NA (by kcj_all))
  · rename ((((ids fv).length : Nat) : Int) ≠ 1) => q
    rename News _ _ _ (restOf _ _) => NR
    rename News _ _ _ (_ :: _) => NK
    have NA := back_all N hO NK NR (by kcj_all)
    have e : (decide ((ids fv).length = 1) && decide (ids fo = [])) = (((ids fv).length : Int) == 1) := by
      have q2 : ¬ (ids fv).length = 1 := by omega
      simp [q, q2]
    rw [← e]
    exact ret _ _ (by assumption) (sub NA (by kcj_all))
theorem tally_spec (H : At 24 w mean mg mb A₀ base h₀ outer L m s news dp un) (hx : (x, instObj 328 bd) ∈ news) (hbd : (bd, balD w.params c vd t1' t2') ∈ news) (hc : CfIn w.params news c f) (hv : VotesIn w news vd vt)
   (ret : ∀ r tl h' tk' u1 u2 u3 n', Fr h₀ L h' m → News h₀ L h' ((r, tupO [.int (tyes f.v f.o vt : Nat) u1, .int (tno f.v f.o vt : Nat) u2, .int (jvote f.v f.o vt) u3] n') :: tl ++ news) → Q (.ref r) { s with heap := h', toks := tk' }) :
   CallA w dp un gd cn nm ig ic mo L a ccd cl outer 318 [.ref x] Q E s := by
  have z := zz
  revert z
  k_fill
  intro _
  w_on
  obtain ⟨B, F, X, N, T, hd, hu⟩ := H
  unfold CallA
  have nextOn : NextOn := ⟨⟩
  obtain ⟨fv, fo, fl, fn, fa⟩ := f
  obtain ⟨d, lv, lo, ll, ln, vv, vo, vl, vn, cv, co, cl', cn', t1, t2, t3, t4, t5, h1, h2, h3, h4, h5, h6, i1, i2, i3, i4⟩ := hc
  dsimp only at h2 i1 i2 i3 i4 ret
  obtain ⟨hlo, ov, kvs, hvd, hdo, hva⟩ := hv
  have hdc := dict_cls hdo
  refine wpAny_call ?_
  have hO : ∀ p ∈ ([(c, instObj 183 d), (d, cfD w.params lv lo ll ln fa t1 t2 t3 t4 t5), (lv, listO vv cv), (lo, listO vo co), (ll, listO vl cl'), (ln, listO vn cn'), (x, instObj 328 bd), (bd, balD w.params c vd t1' t2'), (vd, ov)] : List (Addr × Obj)), p ∈ news := sc (h1) (sc (h2) (sc (h3) (sc (h4) (sc (h5) (sc (h6) (sc (hx) (sc (hbd) (sc (hvd) (sn)))))))))
  have flg : Flag "my for" := ⟨⟩
  have flg : Flag "my iter" := ⟨⟩
  k_dflt walk_at "own enter"
  walk_at "my steps"
  (repeat ((with_reducible rename Flag _ => hz9); clear hz9))
  unfold Hold
  rename Fr _ _ _ _ => F1
  rename News _ _ _ _ => N1
  obtain ⟨rr, rfl, oR⟩ : ∃ z, z = _ ∧ Off [c, d, lv, lo, ll, ln, x, bd, vd] z := ⟨_, rfl, by assumption⟩
  obtain ⟨vr, rfl, iV⟩ : ∃ z, z = _ ∧ IntsAre z (ids fun i => fv i || fo i) := ⟨_, rfl, by assumption⟩
  obtain ⟨nr, rfl, _⟩ : ∃ z, z = _ ∧ Heap.get? _ rr = some (listO vr z) := ⟨_, rfl, (N1 (rr, listO vr _) (by k_mem)).1⟩
  refine for_list (TaInv x (ids fun i => fv i || fo i) vt [(rr, listO vr nr), (c, instObj 183 d), (d, cfD w.params lv lo ll ln fa t1 t2 t3 t4 t5), (lv, listO vv cv), (lo, listO vo co), (ll, listO vl cl'), (ln, listO vn cn'), (x, instObj 328 bd), (bd, balD w.params c vd t1' t2'), (vd, ov)]) rfl F1 N1 (by k_mem) ⟨rfl, by walk_at "my memall", [], (ids fun i => fv i || fo i), _, _, by assumption, rfl, rfl, rfl⟩ ?turn ?done
  case turn =>
    clear F1 N1
    intro I v r m' nx h tk o ho hz9 Ft Nt
    walk_at "my ice"
    obtain ⟨m1, hnx, pre, ns, t, u, hi, hg, m3, m4⟩ := hz9
    cases hi
    rename_i n tn ns hi
    have hid : n ∈ IDs := in_ids _ n (by rw [hg]; simp)
    have hvn := hva n hid
    replace Nt := sub Nt (sc (.head _) (fun p hp => List.mem_append_right _ (hnx p hp)))
    rw [frame3 m1 m3 m4] at Ft
    clear m1 m3 m4 hnx hva
    rcases hb : vt n with _ | b
    · rw [hb] at hvn
      dsimp only [Option.map] at hvn
      walk_at "my steps"
      exact ⟨rfl, by walk_at "my memall", pre ++ [n], ns, _, _, hi, by rw [hg]; simp, mv_no (by simp [isYes, hb]), mv_no (by simp [isNo, hb])⟩
    · rw [hb] at hvn
      dsimp only [Option.map] at hvn
      cases b
      · skip
        walk_at "my steps"
        exact ⟨rfl, by walk_at "my memall", pre ++ [n], ns, _, _, hi, by rw [hg]; simp, mv_no (by simp [isYes, hb]), mv_yes (by simp [isNo, hb])⟩
      · skip
        walk_at "my steps"
        exact ⟨rfl, by walk_at "my memall", pre ++ [n], ns, _, _, hi, by rw [hg]; simp, mv_yes (by simp [isYes, hb]), mv_no (by simp [isNo, hb])⟩
  case done =>
    clear F1 N1
    intro m' nx h tk hz4 Ft Nt
    walk_at "my ice"
    obtain ⟨m1, hnx, pre, ns, t, u, hi, hg, m3, m4⟩ := hz4
    cases hi
    replace Nt := sub Nt hnx
    rw [frame3 m1 m3 m4] at Ft
    rw [List.append_nil] at hg
    clear m1 m3 m4 hnx
    walk_at "my steps"
    rename News _ _ _ (restOf _ _) => NR
    rename News _ _ _ (_ :: _) => NK
    have NA := back_all N hO NK NR (by kcj_all)
    have e1 : 0 + (pre.filter (isYes vt)).length = tyes fv fo vt := by rw [← hg]; exact Nat.zero_add _
    have e2 : 0 + (pre.filter (isNo vt)).length = tno fv fo vt := by rw [← hg]; exact Nat.zero_add _
    rw [← e1, ← e2] at ret
    exact ret _ _ _ _ _ _ _ _ (by assumption) NA
end
/-- the ledger bears the acknowledged indexes -/
noncomputable def AckIn (w : World) (news : List (Addr × Obj)) (ad : Addr) (ak : Int → Int) : Prop :=
  (ad == sysModules) = false ∧ ∃ o kvs, (ad, o) ∈ news ∧ o.IsDictOf (PySem.intKind Challenge.rw_no0410_01.row.prog w) kvs ∧ ∀ i ∈ IDs, (∃ t, valueAt kvs i = some (.int (ak i) t)) ∨ (valueAt kvs i = none ∧ ak i = 0)
/-- r is the majority's index of the members f -/
noncomputable def MIdx (f : Int → Bool) (ak : Int → Int) (r : Int) : Prop :=
  (ids f = [] ∧ r = 18446744073709551615) ∨ (ids f ≠ [] ∧ ∃ ns' : List Int, ns'.Perm ((ids f).map ak) ∧ ns'.Pairwise (· ≤ ·) ∧ r = ns'.getD ((ids f).length - ((ids f).length / 2 + 1)) 0)
theorem words_index_1 : True := by
  k_with "call builtin:dict.get" => (k_here; k_dflt (refine kdg_get2 (knd := PySem.intKind _ _) (by k_asm) (by k_mem) (by k_asm) (by k_asm) (intKind_is _ _ _ _) _ (by k_asm) ?_); (try dsimp only [Option.getD]))
  k_with "call builtin:len" => (k_here; (with_reducible show wpAny _ _ (call (Value.builtin "len") [Value.ref _]) _ _ _); k_dflt (refine' kst_len ?k1q3d0389 ?k2q3d0389 ?k3q3d0389 ?k4q3d0389 ?_; (case k1q3d0389 => k_asm); (case k2q3d0389 => k_memK); (case k3q3d0389 => exact IntsAre.length (by k_asm)); (case k4q3d0389 => omega); k_whole))
  trivial
theorem fit_ids {vs : List Value} {f : Int → Bool} (h : IntsAre vs (ids f)) : vs.toArray.size ≤ sizeLine := Nat.le_trans (small_ids h) (by rw [sizeLine_eq]; decide)
section
variable {w : World} {mean : ExcName → Option Value} {mg mb : Str → Option Value}
   {dp un : Nat} {gd : Option (List Code)} {cn : Str} {nm : List (Str × NameKind)} {ig ic : Bool} {mo : List (Str × Const)} {a : Addr} {ccd : Value} {cl : List (Str × Addr)} {outer : List Env} {A₀ : Around} {base h₀ : Heap} {L : Addr} {m : Str → Option Value} {s : Shared} {Q E : Value → Shared → Prop} {news : List (Addr × Obj)}
theorem majority_index_spec (H : At 8 w mean mg mb A₀ base h₀ outer L m s news dp un)
   {l ad : Addr} {vs : List Value} {n : Nat} {f : Int → Bool} {ak : Int → Int} (h1 : (l, listO vs n) ∈ news) (i1 : IntsAre vs (ids f)) (hv : AckIn w news ad ak)
   (ret : ∀ r t h' tk', MIdx f ak r → Fr h₀ L h' m → News h₀ L h' news → Q (.int r t) { s with heap := h', toks := tk' }) :
   CallA w dp un gd cn nm ig ic mo L a ccd cl outer 82 [.ref l, .ref ad] Q E s := by
  have z := zz
  revert z
  k_fill
  intro _
  w_on
  obtain ⟨B, F, X, N, T, hd, hu⟩ := H
  unfold CallA
  have nextOn : NextOn := ⟨⟩
  obtain ⟨hlo, ov, kvs, hvd, hdo, hva⟩ := hv
  have hdc := dict_cls hdo
  refine wpAny_call ?_
  have hO : ∀ p ∈ ([(l, listO vs n), (ad, ov)] : List (Addr × Obj)), p ∈ news := sc (h1) (sc (hvd) (sn))
  by_cases he : ids f = []
  · skip
    k_dflt walk_at "own cells"
    walk_at "my steps"
    all_goals (try (k_data; done))
    rename News _ _ _ (restOf _ _) => NR
    rename News _ _ _ (_ :: _) => NK
    have NA := back_all N hO NK NR (by kcj_all)
    exact ret _ _ _ _ (Or.inl ⟨he, rfl⟩) (by assumption) (sub NA (by kcj_all))
  · skip
    k_dflt walk_at "own cells"
    walk_at "my steps"
    all_goals (try (k_data; done))
    refine LCg.CompSrc.ledger (by rfl) (by k_asm) (by k_asm) (by k_mem) (fit_ids i1) ?_
    intro g'
    refine' kcf_list ak i1 (fun k' t' I' oI' C' oC' D' m' ys' h' tk' E' hk' hC' hx' F' N' off' ne' hMark' => ?turn) ?fin
    case turn =>
      have hid : k' ∈ IDs := in_ids _ _ hk'
      rcases hva k' hid with ⟨tv, hvn⟩ | ⟨hvn, hz⟩
      · skip
        walk_at "my steps"
      · skip
        walk_at "my steps"
        exact ⟨rfl, _, by rw [hz]⟩
    case fin =>
      unfold KPfDone
      intro ys hys
      have hle := ids_le f
      walk_at "my steps"
      rename (List.length _ = List.length (List.map _ _)) => e1
      rename (List.Perm _ _) => hp1
      rename (List.Pairwise _ _) => hp2
      rw [List.length_map] at e1
      walk_at "my steps"
      have hpos : 0 < (ids f).length := List.length_pos_iff.mpr he
      refine item_anyK (News.isList (by assumption) (by k_mem)) (by assumption) ?k3 ?k4 ?k5 (fun tq => ?k6)
      (case k3 => rw [Int.fdiv_eq_ediv_of_nonneg _ (by decide)]; omega)
      (case k4 => rw [Int.fdiv_eq_ediv_of_nonneg _ (by decide)]; omega)
      (case k5 => rw [Int.fdiv_eq_ediv_of_nonneg _ (by decide)]; omega)
      case k6 =>
        walk_at "my steps"
        rename News _ _ _ (restOf _ _) => NR
        rename News _ _ _ (_ :: _) => NK
        have NA := back_all N hO NK NR (by kcj_all)
        refine ret _ _ _ _ (Or.inr ⟨he, _, hp1, hp2, ?_⟩) (by assumption) (sub NA (by kcj_all))
        rw [Int.fdiv_eq_ediv_of_nonneg _ (by decide), e1]
        congr 1
        omega
end
noncomputable def JIdx (f g : Int → Bool) (ak : Int → Int) (r : Int) : Prop := ∃ r1 r2, MIdx f ak r1 ∧ MIdx g ak r2 ∧ r = if r1 < r2 then r1 else r2
theorem words_index2_1 : True := by
  k_with "my acked" => exact ⟨by assumption, _, _, by k_mem, by assumption, by assumption⟩
  k_with "call ref" => (k_here; (with_reducible show wpAny _ _ (call (Value.ref 82) _) _ _ _); k_dflt (refine' majority_index_spec ⟨?Bqat, ?Fqat, ?Xqat, ?Nqat, ?Tqat, ?dqat, ?uqat⟩ ?h1qfd9fec ?i1qfd9fec ?hvqfd9fec ?_; walk_at "my at"; (case h1qfd9fec => k_mem); (case i1qfd9fec => k_asm); (case hvqfd9fec => walk_at "my acked"); k_whole); intro r'9 t'9 h'9 tk'9 q'9 F'9 N'9; (try k_sweep); (try dsimp only))
  trivial
section
variable {w : World} {mean : ExcName → Option Value} {mg mb : Str → Option Value}
   {dp un : Nat} {gd : Option (List Code)} {cn : Str} {nm : List (Str × NameKind)} {ig ic : Bool} {mo : List (Str × Const)} {a : Addr} {ccd : Value} {cl : List (Str × Addr)} {outer : List Env} {A₀ : Around} {base h₀ : Heap} {L : Addr} {m : Str → Option Value} {s : Shared} {Q E : Value → Shared → Prop} {news : List (Addr × Obj)}
theorem joint_index_spec (H : At 12 w mean mg mb A₀ base h₀ outer L m s news dp un)
   {l1 l2 ad : Addr} {vs1 vs2 : List Value} {n1 n2 : Nat} {f g : Int → Bool} {ak : Int → Int} (h1 : (l1, listO vs1 n1) ∈ news) (i1 : IntsAre vs1 (ids f)) (h2 : (l2, listO vs2 n2) ∈ news) (i2 : IntsAre vs2 (ids g)) (hv : AckIn w news ad ak)
   (ret : ∀ r t h' tk', JIdx f g ak r → Fr h₀ L h' m → News h₀ L h' news → Q (.int r t) { s with heap := h', toks := tk' }) :
   CallA w dp un gd cn nm ig ic mo L a ccd cl outer 96 [.ref l1, .ref l2, .ref ad] Q E s := by
  have z := zz
  revert z
  k_fill
  intro _
  w_on
  obtain ⟨B, F, X, N, T, hd, hu⟩ := H
  unfold CallA
  have nextOn : NextOn := ⟨⟩
  obtain ⟨hlo, ov, kvs, hvd, hdo, hva⟩ := hv
  have hdc := dict_cls hdo
  refine wpAny_call ?_
  have hO : ∀ p ∈ ([(l1, listO vs1 n1), (l2, listO vs2 n2), (ad, ov)] : List (Addr × Obj)), p ∈ news := sc (h1) (sc (h2) (sc (hvd) (sn)))
  k_dflt walk_at "own enter"
  walk_at "my steps"
  all_goals (try (k_data; done))
  all_goals (rename News _ _ _ (restOf _ _) => NR; rename News _ _ _ (_ :: _) => NK; have NA := sub (news := news) (back_all N hO NK NR (by kcj_all)) (by kcj_all))
  all_goals rename MIdx f ak _ => q1
  all_goals rename MIdx g ak _ => q2
  · exact ret _ _ _ _ ⟨_, _, q1, q2, (if_pos (by assumption)).symm⟩ (by assumption) NA
  · exact ret _ _ _ _ ⟨_, _, q1, q2, (if_neg (by first | assumption | omega)).symm⟩ (by assumption) NA
end
theorem words_index2_2 : True := by
  k_with "call ref" => (k_here; (with_reducible show wpAny _ _ (call (Value.ref 96) _) _ _ _); k_dflt (refine' joint_index_spec ⟨?Bqat, ?Fqat, ?Xqat, ?Nqat, ?Tqat, ?dqat, ?uqat⟩ ?h1q0aa55e ?i1q0aa55e ?h2q0aa55e ?i2q0aa55e ?hvq0aa55e ?_; walk_at "my at"; (case h1q0aa55e => k_mem); (case i1q0aa55e => k_asm); (case h2q0aa55e => k_mem); (case i2q0aa55e => k_asm); (case hvq0aa55e => walk_at "my acked"); k_whole); intro r'9 t'9 h'9 tk'9 q'9 F'9 N'9; (try k_sweep); (try dsimp only))
  trivial
section
variable {w : World} {mean : ExcName → Option Value} {mg mb : Str → Option Value}
   {dp un : Nat} {gd : Option (List Code)} {cn : Str} {nm : List (Str × NameKind)} {ig ic : Bool} {mo : List (Str × Const)} {a : Addr} {ccd : Value} {cl : List (Str × Addr)} {outer : List Env} {A₀ : Around} {base h₀ : Heap} {L : Addr} {m : Str → Option Value} {s : Shared} {Q E : Value → Shared → Prop} {news : List (Addr × Obj)}
theorem committed_spec (H : At 16 w mean mg mb A₀ base h₀ outer L m s news dp un)
   {x ad : Addr} {f : Cf} {ak : Int → Int} (hc : CfIn w.params news x f) (hv : AckIn w news ad ak)
   (ret : ∀ r t h' tk', JIdx f.v f.o ak r → Fr h₀ L h' m → News h₀ L h' news → Q (.int r t) { s with heap := h', toks := tk' }) :
   CallA w dp un gd cn nm ig ic mo L a ccd cl outer 159 [.ref x, .ref ad] Q E s := by
  have z := zz
  revert z
  k_fill
  intro _
  w_on
  obtain ⟨B, F, X, N, T, hd, hu⟩ := H
  unfold CallA
  have nextOn : NextOn := ⟨⟩
  obtain ⟨d, lv, lo, ll, ln, vv, vo, vl, vn, cv, co, cl', cn', t1, t2, t3, t4, t5, h1, h2, h3, h4, h5, h6, i1, i2, i3, i4⟩ := hc
  obtain ⟨hlo, ov, kvs, hvd, hdo, hva⟩ := hv
  have hdc := dict_cls hdo
  refine wpAny_call ?_
  have hO : ∀ p ∈ ([(x, instObj 183 d), (d, cfD w.params lv lo ll ln f.au t1 t2 t3 t4 t5), (lv, listO vv cv), (lo, listO vo co), (ad, ov)] : List (Addr × Obj)), p ∈ news := sc (h1) (sc (h2) (sc (h3) (sc (h4) (sc (hvd) (sn)))))
  k_dflt walk_at "own enter"
  walk_at "my steps"
  all_goals (try (k_data; done))
  rename News _ _ _ (restOf _ _) => NR
  rename News _ _ _ (_ :: _) => NK
  have NA := back_all N hO NK NR (by kcj_all)
  exact ret _ _ _ _ (by assumption) (by assumption) (sub NA (by kcj_all))
end
theorem fmod_in (a : Int) {q : Int} (h : 0 < q) : 0 ≤ Int.fmod a q ∧ Int.fmod a q < q := ⟨Int.fmod_nonneg_of_pos a h, Int.fmod_lt_of_pos a h⟩
theorem keep_list {g h h₀ : Heap} {L : Addr} {m : Str → Option Value} {own : List (Addr × Obj)} {sl : Addr} {items : Array Value} (hX : ∀ b o, h.get? b = some o → b ∉ own.map (·.1) → g.get? b = some o) (F : Fr h₀ L h m) (hL : h₀.IsList sl items) (ho : sl ∉ own.map (·.1)) : g.IsList sl items := by
  obtain ⟨o, h1, r⟩ := hL
  exact ⟨o, hX _ _ (F.keep _ _ h1) ho, r⟩
section
variable {w : World} {mean : ExcName → Option Value} {mg mb : Str → Option Value}
   {dp un : Nat} {gd : Option (List Code)} {cn : Str} {nm : List (Str × NameKind)} {ig ic : Bool} {mo : List (Str × Const)} {a : Addr} {ccd : Value} {cl : List (Str × Addr)} {outer : List Env} {A₀ : Around} {base h₀ : Heap} {L : Addr} {m : Str → Option Value} {s : Shared} {Q E : Value → Shared → Prop} {news : List (Addr × Obj)}
theorem draw_spec (H : At 4 w mean mg mb A₀ base h₀ outer L m s news dp un) {sl : Addr} {vs : List Value} {ns : List Int} {p q : Int} {tp tq : Tok} (hL : h₀.IsList sl vs.toArray) (hi : IntsAre vs ns) (hn : ns.length < 64) (hp : 0 ≤ p) (hp2 : p < 64) (hq : 0 < q)  (hq2 : q < 64)
   (ret : ∀ v t h' tk', 0 ≤ v → v < q → Fr h₀ L h' m → News h₀ L h' news → Q (.int v t) { s with heap := h', toks := tk' }) :
   CallA w dp un gd cn nm ig ic mo L a ccd cl outer 355 [.ref sl, .int p tp, .int q tq] Q E s := by
  have z := zz
  revert z
  k_fill
  intro _
  w_on
  obtain ⟨B, F, X, N, T, hd, hu⟩ := H
  unfold CallA
  have nextOn : NextOn := ⟨⟩
  refine wpAny_call ?_
  have hO : ∀ p ∈ ([] : List (Addr × Obj)), p ∈ news := sn
  k_dflt walk_at "own enter"
  rename (∀ b o, Heap.get? _ b = some o → _ → _) => hX
  have hLg := keep_list hX F hL (by simp)
  clear hX
  walk_at "my steps"
  all_goals (try (k_data; done))
  all_goals (rename News _ _ _ (restOf _ _) => NR; have NA := back_all (own' := []) N hO (fun _ h => nomatch h) NR (an))
  · exact ret _ _ _ _ (fmod_in _ hq).1 (fmod_in _ hq).2 (by assumption) NA
  · exact ret _ _ _ _ (Int.le_refl 0) hq (by assumption) NA
theorem nolimit_spec (H : At 4 w mean mg mb A₀ base h₀ outer L m s news dp un)
   (ret : ∀ t h' tk', Fr h₀ L h' m → News h₀ L h' news → Q (.int 18446744073709551615 t) { s with heap := h', toks := tk' }) :
   CallA w dp un gd cn nm ig ic mo L a ccd cl outer 348 [] Q E s := by
  have z := zz
  revert z
  k_fill
  intro _
  w_on
  obtain ⟨B, F, X, N, T, hd, hu⟩ := H
  unfold CallA
  have nextOn : NextOn := ⟨⟩
  refine wpAny_call ?_
  have hO : ∀ p ∈ ([] : List (Addr × Obj)), p ∈ news := sn
  k_dflt walk_at "own enter"
  walk_at "my steps"
  all_goals (try (k_data; done))
  rename News _ _ _ (restOf _ _) => NR
  have NA := back_all (own' := []) N hO (fun _ h => nomatch h) NR (an)
  exact ret _ _ _ (by assumption) NA
theorem steps_spec (H : At 4 w mean mg mb A₀ base h₀ outer L m s news dp un)
   (ret : ∀ r vs h' tk' n', Fr h₀ L h' m → News h₀ L h' ((r, listO vs n') :: news) → Off (news.map (·.1)) r → IntsAre vs [1, 0, 3] → Q (.ref r) { s with heap := h', toks := tk' }) :
   CallA w dp un gd cn nm ig ic mo L a ccd cl outer 341 [] Q E s := by
  have z := zz
  revert z
  k_fill
  intro _
  w_on
  obtain ⟨B, F, X, N, T, hd, hu⟩ := H
  unfold CallA
  have nextOn : NextOn := ⟨⟩
  refine wpAny_call ?_
  have hO : ∀ p ∈ ([] : List (Addr × Obj)), p ∈ news := sn
  k_dflt walk_at "own enter"
  walk_at "my steps"
  all_goals (try (k_data; done))
  rename News _ _ _ (restOf _ _) => NR
  rename News _ _ _ (_ :: _) => NK
  have NA := back_all N hO NK NR (by kcj_all)
  exact ret _ _ _ _ _ (by assumption) (sub NA (by kcj_all)) (by walk_at "my off") (by l_ints)
end
noncomputable def GF (p : Int → Bool) (g : Int → Int) (l : List Int) (k : Int) : List Int := if p k then l ++ [g k] else l
theorem GF.grows {p : Int → Bool} {g : Int → Int} : KPfGrows (GF p g) := fun l k => by
  unfold GF
  split <;> simp
noncomputable def idAt (k : Int) : Int := IDs.getD k.toNat 0
theorem fold_ids (q : Int → Bool) : (rangeKs 0 4).foldl (GF (fun k => q (idAt k)) idAt) [] = ids q := by
  have e : rangeKs 0 4 = [0, 1, 2, 3] := by decide
  rw [e]
  have i0 : idAt 0 = 2 := rfl
  have i1 : idAt 1 = 3 := rfl
  have i2 : idAt 2 = 5 := rfl
  have i3 : idAt 3 = 9 := rfl
  cases h0 : q 2 <;> cases h1 : q 3 <;> cases h2 : q 5 <;> cases h3 : q 9 <;> simp [GF, ids, IDs, i0, i1, i2, i3, h0, h1, h2, h3]
theorem in4 {k : Int} (h0 : 0 ≤ k) (h1 : k < 0 + ((4 : Nat) : Int)) : k = 0 ∨ k = 1 ∨ k = 2 ∨ k = 3 := by omega
theorem gf_yes {q : Int → Int} {k j : Int} {l : List Int} (h : q j = k) : GF (fun j => q j == k) idAt l j = l ++ [idAt j] := by
  unfold GF
  rw [if_pos (by dsimp only; rw [h]; exact beq_self_eq_true k)]
theorem gf_no {q : Int → Int} {k j : Int} {l : List Int} (h : q j ≠ k) : GF (fun j => q j == k) idAt l j = l := by
  unfold GF
  rw [if_neg (by simpa using h)]
section
variable {prog : Program} {w : World} {A : Around} {E : Value → Shared → Prop} {s : Shared} {h₀ : Heap} {L l : Addr} {m : Str → Option Value} {news : List (Addr × Obj)} {vs : List Value} {n : Nat} {Q : Value → Shared → Prop}
theorem idAt_role (ρ : Int → Int) {k : Int} (h0 : 0 ≤ k) (h1 : k < 4) : [ρ 2, ρ 3, ρ 5, ρ 9].getD k.toNat 0 = ρ (idAt k) := by
  have : k = 0 ∨ k = 1 ∨ k = 2 ∨ k = 3 := by omega
  rcases this with rfl | rfl | rfl | rfl <;> rfl
theorem item_role {value slice : Expr} {ρ : Int → Int} {k : Int} {u : Tok} (N : News h₀ L s.heap news) (hm : (l, listO vs n) ∈ news) (hi : IntsAre vs [ρ 2, ρ 3, ρ 5, ρ 9]) (h0 : 0 ≤ k) (h1 : k < 4) (h : ∀ t, Q (.int (ρ (idAt k)) t) s)
    (hs : subscripted slice false (.ref l) (.int k u) = operate [.ref l, .int k u] (getItem (.ref l) (.int k u)) := by with_unfolding_all rfl) : wpAny (model prog w) A (subscriptTail value slice (.ref l) (.int k u)) Q E s :=
  item_anyK (News.isList N hm) hi h0 (by simpa using h1) (by omega) (fun t => by rw [idAt_role ρ h0 h1]; exact h t) hs
theorem item_ids {value slice : Expr} {k : Int} {u : Tok} (hl : s.heap.IsList l vs.toArray) (hi : IntsAre vs [2, 3, 5, 9]) (h0 : 0 ≤ k) (h1 : k < 4) (h : ∀ t, Q (.int (idAt k) t) s)
    (hs : subscripted slice false (.ref l) (.int k u) = operate [.ref l, .int k u] (getItem (.ref l) (.int k u)) := by with_unfolding_all rfl) : wpAny (model prog w) A (subscriptTail value slice (.ref l) (.int k u)) Q E s :=
  item_anyK hl hi h0 (by simpa using h1) (by omega) (fun t => h t) hs
end
theorem turn_kept {h₀ : Heap} {L I C D : Addr} {y : Value} {m : Str → Option Value} {s₁ : Shared} {oI oC oD : Obj} {S : List (Addr × Obj) → Prop} {rest : Value → List (Addr × Obj) → Prop} {h' : Heap} {tk : Nat} {news : List (Addr × Obj)}
    (off : LCg.Off3 I C D news) (F : Fr h₀ L h' m) (N : News h₀ L h' ((I, oI) :: (C, oC) :: (D, oD) :: news)) (hS : S news) (r : rest y news) :
    LCg.CompEnd h₀ L m s₁ I oI C oC D oD S rest y { s₁ with heap := h', toks := tk } := LCg.CompEnd.intro F N news (fun _ hp => hp) off hS r
theorem words_laws2_1 : True := by
  k_with "KCiEl" => (refine kci_el ?kceq7f8f75 (by with_unfolding_all rfl) (by with_unfolding_all rfl); (case kceq7f8f75 => exact gf_yes (by k_asm)))
  k_with "KCiNo" => (refine kci_no ?kceq4a97ae (by with_unfolding_all rfl); (case kceq4a97ae => exact gf_no (by k_asm)))
  k_with "eval ListComp" => ((with_reducible rename Flag "my compT" => hz9); k_here; lct_look; k_dflt (refine LCt.ListComp_T (F₀ := by k_asm) (by with_unfolding_all rfl) (by decide) (by rfl) (by decide) (by rfl) ?_))
  k_with "CompSrcT" => ((with_reducible rename Flag "my compT" => hz9); refine Hold.out ?_)
  k_with "subscriptTail Name Name ref int" => ((with_reducible rename Flag "my role" => hz9); (with_reducible show wpAny _ _ (subscriptTail _ _ (Value.ref _) (Value.int _ _)) _ _ _); k_dflt (refine' item_role ?k1q691d52 ?k2q691d52 ?k3q691d52 ?k4q691d52 ?k5q691d52 ?_ ?k8q691d52; (case k1q691d52 => k_asm); (case k2q691d52 => k_mem); (case k3q691d52 => k_asm); (case k4q691d52 => k_asm); (case k5q691d52 => k_asm); (case k8q691d52 => with_unfolding_all rfl); k_whole); intro t'9)
  k_with "subscriptTail Name Name ref int" => ((with_reducible rename Flag "my role" => hz9); (with_reducible show wpAny _ _ (subscriptTail _ _ (Value.ref 333) (Value.int _ _)) _ _ _); k_dflt (refine' item_ids (listIn ?kxqde389a ?kfqde389a ?koqde389a) ?k3qde389a ?k4qde389a ?k5qde389a ?_ ?k8qde389a; (case kxqde389a => k_asm); (case kfqde389a => k_asm); (case koqde389a => k_is); (case k3qde389a => l_ints); (case k4qde389a => k_asm); (case k5qde389a => k_asm); (case k8qde389a => with_unfolding_all rfl); k_whole); intro t'9)
  k_with "CompEnd" => ((with_reducible rename Flag "my role" => hz9); k_dflt (refine' turn_kept ?offqbec49a ?Fqbec49a ?Nqbec49a ?Sqbec49a ?_; (case offqbec49a => k_asm); (case Fqbec49a => k_asm); (case Nqbec49a => k_asm); (case Sqbec49a => lcg_src)))
  trivial
section
variable {w : World} {mean : ExcName → Option Value} {mg mb : Str → Option Value}
   {dp un : Nat} {gd : Option (List Code)} {cn : Str} {nm : List (Str × NameKind)} {ig ic : Bool} {mo : List (Str × Const)} {a : Addr} {ccd : Value} {cl : List (Str × Addr)} {outer : List Env} {A₀ : Around} {base h₀ : Heap} {L : Addr} {m : Str → Option Value} {s : Shared} {Q E : Value → Shared → Prop} {news : List (Addr × Obj)}
theorem side_spec (H : At 8 w mean mg mb A₀ base h₀ outer L m s news dp un) {rl : Addr} {vr : List Value} {nr : Nat} {ρ : Int → Int} {k : Int} {tk : Tok} (h1 : (rl, listO vr nr) ∈ news) (i1 : IntsAre vr [ρ 2, ρ 3, ρ 5, ρ 9])
   (ret : ∀ r vs h' tk' n', Fr h₀ L h' m → News h₀ L h' ((r, listO vs n') :: news) → Off (news.map (·.1)) r → IntsAre vs (ids fun i => ρ i == k) → Q (.ref r) { s with heap := h', toks := tk' }) :
   CallA w dp un gd cn nm ig ic mo L a ccd cl outer 360 [.ref rl, .int k tk] Q E s := by
  have z := zz
  revert z
  k_fill
  intro _
  w_on
  obtain ⟨B, F, X, N, T, hd, hu⟩ := H
  unfold CallA
  have nextOn : NextOn := ⟨⟩
  refine wpAny_call ?_
  have hO : ∀ p ∈ ([(rl, listO vr nr)] : List (Addr × Obj)), p ∈ news := sc (h1) (sn)
  have flg : Flag "my compT" := ⟨⟩
  k_dflt walk_at "own cells"
  walk_at "my steps"
  all_goals (try (k_data; done))
  (repeat ((with_reducible rename Flag _ => hz9); clear hz9))
  unfold Hold
  refine LCt.CompSrcT.range (by rfl) (by k_asm) (by k_asm) (by assumption) (by decide) (by rfl) (by rw [sizeLine_eq]; decide) ?_
  intro g'
  refine' kci_range (GF (fun j => ρ (idAt j) == k) idAt) (fun k' t' I' oI' C' oC' D' m' ys' l' h' tk' E' hlo' hhi' hI' hC' hx' F' N' off' ne' hMark' => ?turn) ?fin GF.grows
  case turn =>
    have hhi : k' < 4 := hhi'
    clear hhi'
    have flg : Flag "my role" := ⟨⟩
    walk_at "my steps"
    (repeat ((with_reducible rename Flag _ => hz9); clear hz9))
  case fin =>
    unfold KPfDone
    intro ys hys hyl
    rw [fold_ids (fun i => ρ i == k)] at hys
    walk_at "my steps"
    rename News _ _ _ (restOf _ _) => NR
    rename News _ _ _ (_ :: _) => NK
    have NA := back_all N hO NK NR (by kcj_all)
    exact ret _ _ _ _ _ (by assumption) (sub NA (by kcj_all)) (by walk_at "my off") hys
end
theorem words_laws3_1 : True := by
  k_with "call ref" => (k_here; (with_reducible show wpAny _ _ (call (Value.ref 360) _) _ _ _); k_dflt (refine' side_spec ⟨?Bqat, ?Fqat, ?Xqat, ?Nqat, ?Tqat, ?dqat, ?uqat⟩ ?h1q9d7407 ?i1q9d7407 ?_; walk_at "my at"; (case h1q9d7407 => k_mem); (case i1q9d7407 => k_asm); k_whole); intro r'9 vs'9 h'9 tk'9 n'9 F'9 N'9 l19 i'9; walk_at "my off in"; (try k_sweep); (try dsimp only))
  trivial
/-- the settled configuration of the roles -/
noncomputable def Cf.of (ρ : Int → Int) : Cf := ⟨fun i => ρ i == 1, fun _ => false, fun i => ρ i == 2, fun _ => false, false⟩
section
variable {w : World} {mean : ExcName → Option Value} {mg mb : Str → Option Value}
   {dp un : Nat} {gd : Option (List Code)} {cn : Str} {nm : List (Str × NameKind)} {ig ic : Bool} {mo : List (Str × Const)} {a : Addr} {ccd : Value} {cl : List (Str × Addr)} {outer : List Env} {A₀ : Around} {base h₀ : Heap} {L : Addr} {m : Str → Option Value} {s : Shared} {Q E : Value → Shared → Prop} {news : List (Addr × Obj)}
theorem settled_spec (H : At 12 w mean mg mb A₀ base h₀ outer L m s news dp un) {rl : Addr} {vr : List Value} {nr : Nat} {ρ : Int → Int} (h1 : (rl, listO vr nr) ∈ news) (i1 : IntsAre vr [ρ 2, ρ 3, ρ 5, ρ 9])
   (ret : ∀ r tl h' tk', Fr h₀ L h' m → News h₀ L h' (tl ++ news) → RowIn tl r (Cf.of ρ) → Q (.ref r) { s with heap := h', toks := tk' }) :
   CallA w dp un gd cn nm ig ic mo L a ccd cl outer 367 [.ref rl] Q E s := by
  have z := zz
  revert z
  k_fill
  intro _
  w_on
  obtain ⟨B, F, X, N, T, hd, hu⟩ := H
  unfold CallA
  have nextOn : NextOn := ⟨⟩
  refine wpAny_call ?_
  have hnil : IntsAre [] (ids (fun _ => false)) := by rw [ids_none]; exact .nil
  have hO : ∀ p ∈ ([(rl, listO vr nr)] : List (Addr × Obj)), p ∈ news := sc (h1) (sn)
  k_dflt walk_at "own enter"
  walk_at "my steps"
  all_goals (try (k_data; done))
  rename News _ _ _ (restOf _ _) => NR
  rename News _ _ _ (_ :: _) => NK
  have NA := back_all N hO NK NR (by kcj_all)
  exact ret _ _ _ _ (by assumption) NA ⟨_, _, _, _, _, _, _, _, _, _, _, _, _, by k_mem, by k_mem, by k_mem, by k_mem, by k_mem, by assumption, hnil, by assumption, hnil⟩
theorem orders_spec (H : At 8 w mean mg mb A₀ base h₀ outer L m s news dp un) {sl x y z : Addr} {n : Nat} (h1 : (sl, listO [.ref x, .ref y, .ref z] n) ∈ news)
   (ret : ∀ r o1 o2 o3 o4 o5 o6 h' tk' c c1 c2 c3 c4 c5 c6, Fr h₀ L h' m → News h₀ L h' ((r, listO [.ref o1, .ref o2, .ref o3, .ref o4, .ref o5, .ref o6] c) :: (o1, listO [.ref x, .ref y, .ref z] c1) :: (o2, listO [.ref x, .ref z, .ref y] c2) :: (o3, listO [.ref y, .ref x, .ref z] c3) :: (o4, listO [.ref y, .ref z, .ref x] c4)
      :: (o5, listO [.ref z, .ref x, .ref y] c5) :: (o6, listO [.ref z, .ref y, .ref x] c6) :: news) → Q (.ref r) { s with heap := h', toks := tk' }) :
   CallA w dp un gd cn nm ig ic mo L a ccd cl outer 374 [.ref sl] Q E s := by
  have z := zz
  revert z
  k_fill
  intro _
  w_on
  obtain ⟨B, F, X, N, T, hd, hu⟩ := H
  unfold CallA
  have nextOn : NextOn := ⟨⟩
  refine wpAny_call ?_
  have hO : ∀ p ∈ ([(sl, listO [.ref x, .ref y, .ref z] n)] : List (Addr × Obj)), p ∈ news := sc (h1) (sn)
  k_dflt walk_at "own enter"
  walk_at "my steps"
  all_goals (try (k_data; done))
  rename News _ _ _ (restOf _ _) => NR
  rename News _ _ _ (_ :: _) => NK
  have NA := back_all N hO NK NR (by kcj_all)
  exact ret _ _ _ _ _ _ _ _ _ _ _ _ _ _ _ _ (by assumption) (sub NA (sc (List.mem_append_left _ (by k_mem)) (sc (List.mem_append_left _ (by k_mem)) (sc (List.mem_append_left _ (by k_mem)) (sc (List.mem_append_left _ (by k_mem)) (sc (List.mem_append_left _ (by k_mem)) (sc (List.mem_append_left _ (by k_mem)) (sc (List.mem_append_left _ (by k_mem)) (fun p hp => List.mem_append_right _ hp)))))))))
end
section
variable {prog : Program} {w : World} {A : Around} {E : Value → Shared → Prop} {s : Shared} {env : Env} {h₀ : Heap} {target : Expr} {body : List Stmt} {Q : Flow → Shared → Prop}
/-- the loop that is to be walked, whatever its ground -/
noncomputable def TurnsG (prog : Program) (w : World) (A : Around) (env : Env) (target : Expr) (body : List Stmt) (Q : Flow → Shared → Prop) (E : Value → Shared → Prop) (it : Value) (s₂ : Shared) : Prop :=
  codeAny (model prog w) A (.forLoop target it body [] env) (fun r s' => match r with | .ok f => Q f s' | .error e => cameBackBy (model prog w) A env E e s') s₂
theorem For_g {iter : Expr} {pos : Pos} (h : wpAny (model prog w) A (eval iter env) (fun xv s₁ => wpAny (model prog w) A (pyIter xv) (fun it s₂ => TurnsG prog w A env target body Q E it s₂) E s₁) E s)
    (hs : ∀ x, foldedSetIterable iter env x = pure x := by intro _; rfl) : wpAny (model prog w) A (exec (.For target iter body [] pos) env) Q E s := wpAny_For h hs
/-- a turn's end: the ground may be another -/
inductive GEnd (L : Addr) (Inv : Heap → (Str → Option Value) → List (Addr × Obj) → Prop) (I : Addr) (o : Obj) (keep : Addr × Obj) (s₁ s₂ : Shared) : Prop
  | mk (g' h' : Heap) (tk : Nat) (m' : Str → Option Value) (nx' : List (Addr × Obj)) (e : s₂ = { s₁ with heap := h', toks := tk }) (F : Fr g' L h' m') (N : News g' L h' ((I, o) :: nx')) (off : ∀ p ∈ nx', p.1 ≠ I) (k : keep ∈ nx') (i : Inv g' m' nx')
noncomputable def GPost (L : Addr) (Inv : Heap → (Str → Option Value) → List (Addr × Obj) → Prop) (I : Addr) (o : Obj) (keep : Addr × Obj) (s₁ : Shared) (Q : Flow → Shared → Prop) (f : Flow) (s₂ : Shared) : Prop :=
  match f with
  | .ret v => Q (.ret v) s₂
  | .brk => Q .next s₂
  | _ => GEnd L Inv I o keep s₁ s₂
inductive GInv (s : Shared) (L ax : Addr) (vs : List Value) (n : Nat) (Inv : List Value → Heap → (Str → Option Value) → List (Addr × Obj) → Prop) (k : Nat) (s' : Shared) : Prop
  | mk (g h' : Heap) (tk : Nat) (m : Str → Option Value) (nx : List (Addr × Obj)) (i : Nat) (it : Obj) (e : s' = { s with heap := h', toks := tk }) (hi : i ≤ vs.length) (hk : k = vs.length + 1 - i) (hit : h'.IsListIter s.heap.objs.size ax i ∧ h'.IsList ax vs.toArray) (hc : it.cls = .type "list_iterator") (F : Fr g L h' m) (N : News g L h' ((s.heap.objs.size, it) :: nx))
    (off : ∀ p ∈ nx, p.1 ≠ s.heap.objs.size) (hm : (ax, listO vs n) ∈ nx) (hI : Inv (vs.drop i) g m nx)
theorem for_g {ax : Addr} {vs : List Value} {n : Nat} {g₀ : Heap} {m₀ : Str → Option Value} {news : List (Addr × Obj)} (Inv : List Value → Heap → (Str → Option Value) → List (Addr × Obj) → Prop)
    (hh : A.handled = none) (F : Fr g₀ env.locals s.heap m₀) (N : News g₀ env.locals s.heap news) (hm : (ax, listO vs n) ∈ news) (h0 : Inv vs g₀ m₀ news)
    (turn : ∀ g I v r m nx h tk o, o.cls = .type "list_iterator" → Inv (v :: r) g m nx → Fr g env.locals h m → News g env.locals h ((I, o) :: nx) → (∀ p ∈ nx, p.1 ≠ I) → (ax, listO vs n) ∈ nx →
      wpAny (model prog w) A (assign target env v) (fun _ s₂ => wpAny (model prog w) A (execs body env) (GPost env.locals (Inv r) I o (ax, listO vs n) { s with heap := h, toks := tk } Q) E s₂) E { s with heap := h, toks := tk })
    (done : ∀ g m nx h tk, Inv [] g m nx → Fr g env.locals h m → News g env.locals h nx → Q .next { s with heap := h, toks := tk })
    (hE : PassesOwn (model prog w) A env E := by passes_own) :
    wpAny (model prog w) A (pyIter (.ref ax)) (fun it s₂ => TurnsG prog w A env target body Q E it s₂) E s := by
  have hax := N _ hm
  have hl : s.heap.IsList ax vs.toArray := ⟨_, hax.1, rfl, n, rfl⟩
  have hne : ax ≠ s.heap.objs.size := Nat.ne_of_lt (Heap.lt_size hax.1)
  refine wpAny_pyIter_list hl ?_
  unfold TurnsG
  have W := Walks.list (prog := prog) (w := w) hh s.heap.objs.size ax hne vs.toArray
  refine codeAny_forLoop_any (R := fun r s' => match r with | .ok f => Q f s' | .error e => cameBackBy (model prog w) A env E e s')
    (GInv s env.locals ax vs n Inv) ?_ (vs.length + 1) ?_
  · rintro k s' ⟨g, h', tk, m, nx, i, it, rfl, hi, rfl, hst, hit, Fg, Ng, hoff, hk, hI⟩
    by_cases hlt : i < vs.length
    · refine W.item i _ _ _ (by simpa using hlt) hst fun v h₁ tk₁ hv hst₁ hk₁ => ?_
      refine letGo_listiter hst₁.1 ?_
      have hv2 : vs[i]? = some v := by simpa using hv
      have e1 : vs.drop i = v :: vs.drop (i + 1) := by
        rw [List.drop_eq_getElem_cons hlt]
        rw [List.getElem?_eq_getElem hlt] at hv2
        rw [Option.some.inj hv2]
      rw [e1] at hI
      obtain ⟨o₁, ho₁, hc₁, hd₁⟩ := hst₁.1
      have nI := Ng _ (.head _)
      have F₁ : Fr g env.locals h₁ m := ⟨Fg.ns.at' fun o e => hk₁ _ o (by simpa using Ne.symm nI.2.1) e, fun b o e => hk₁ b o (by
        intro hb
        have hb' : b = s.heap.objs.size := by simpa using hb
        rw [hb', nI.2.2] at e
        cases e) (Fg.keep b o e), Fg.above⟩
      have N₁ : News g env.locals h₁ ((s.heap.objs.size, o₁) :: nx) := fun p hp => by
        rcases List.mem_cons.mp hp with rfl | hp
        · exact ⟨ho₁, nI.2⟩
        · exact ⟨hk₁ _ _ (by simpa using hoff p hp) (Ng p (.tail _ hp)).1, (Ng p (.tail _ hp)).2⟩
      have T := turn g _ v _ m nx h₁ tk₁ o₁ hc₁ hI F₁ N₁ hoff hk
      refine wpAny_mono T (fun _ s₂ x => ?_) hE
      refine wpAny_mono (wpAny_passesOwn hE x) (fun f s₃ h₃ => ?_) fun _ _ e => e
      have up : GEnd env.locals (Inv (vs.drop (i + 1))) s.heap.objs.size o₁ (ax, listO vs n) { s with heap := h₁, toks := tk₁ } s₃ → ∃ k', k' < vs.length + 1 - i ∧ GInv s env.locals ax vs n Inv k' s₃ := by
        rintro ⟨g', h₄, tk₄, m₄, nx₄, rfl, F₄, N₄, off₄, keep₄, I₄⟩
        refine ⟨vs.length + 1 - (i + 1), by omega, g', h₄, tk₄, m₄, nx₄, i + 1, o₁, rfl, hlt, rfl, ⟨⟨o₁, (N₄ _ (.head _)).1, hc₁, hd₁⟩, ⟨_, (N₄ _ (.tail _ keep₄)).1, rfl, n, rfl⟩⟩, hc₁, F₄, N₄, off₄, keep₄, I₄⟩
      cases f with
      | ret v => exact h₃
      | brk => exact h₃
      | next => exact up h₃
      | cont => exact up h₃
    · have hin : i = vs.length := by omega
      subst hin
      rw [List.drop_length] at hI
      refine W.done _ _ _ (by simpa using hst) fun h₁ tk₁ hk₁ => wpAny_execs_nil ?_
      have nI := Ng _ (.head _)
      refine done g m nx h₁ tk₁ hI ⟨Fg.ns.at' fun o e => hk₁ _ o (by simpa using Ne.symm nI.2.1) e, fun b o e => hk₁ b o (by
        intro hb
        have hb' : b = s.heap.objs.size := by simpa using hb
        rw [hb', nI.2.2] at e
        cases e) (Fg.keep b o e), Fg.above⟩ fun p hp => ⟨hk₁ _ _ (by simpa using hoff p hp) (Ng p (.tail _ hp)).1, (Ng p (.tail _ hp)).2⟩
  · refine ⟨g₀, _, _, m₀, news, 0, _, rfl, Nat.zero_le _, rfl, ⟨⟨_, Heap.get?_push_size _ rfl, rfl, rfl⟩, hl.at fun o e => Heap.get?_push_of_some _ e⟩, rfl, F.push _, News.push F N _, fun p hp => Nat.ne_of_lt (Heap.lt_size (N p hp).1), hm, h0⟩
end
section
variable {w : World} {mean : ExcName → Option Value} {mg mb : Str → Option Value}
   {dp un : Nat} {gd : Option (List Code)} {cn : Str} {nm : List (Str × NameKind)} {ig ic : Bool} {mo : List (Str × Const)} {a : Addr} {ccd : Value} {cl : List (Str × Addr)} {outer : List Env} {A₀ : Around} {base h₀ : Heap} {L : Addr} {m : Str → Option Value} {s : Shared} {Q E : Value → Shared → Prop} {news : List (Addr × Obj)}
theorem changer_spec (H : At 8 w mean mg mb A₀ base h₀ outer L m s news dp un) {x : Addr}
   (ret : ∀ c d t h' tk', Fr h₀ L h' m → News h₀ L h' ((c, instObj 279 d) :: (d, chD w.params x t) :: news) → Off (d :: news.map (·.1)) c → Off (news.map (·.1)) d → Q (.ref c) { s with heap := h', toks := tk' }) :
   CallA w dp un gd cn nm ig ic mo L a ccd cl outer 279 [.ref x] Q E s := by
  have z := zz
  revert z
  k_fill
  intro _
  w_on
  obtain ⟨B, F, X, N, T, hd, hu⟩ := H
  unfold CallA
  have nextOn : NextOn := ⟨⟩
  refine' call_cls ?k1 ?k2 ?k3 ?k4 ?k5 ?k6 ?_
  (case k1 => k_asm); (case k2 => k_asm); (case k3 => k_asm); (case k4 => k_is); (case k5 => k_is); (case k6 => k_is)
  k_whole
  intro x' d' h' F' N' ld lx
  replace N := N'
  clear F N'
  have F := F'
  clear F'
  replace lx := ltN lx
  have hO : ∀ p ∈ ([(x', instObj 279 d'), (d', dictOf [] 0)] : List (Addr × Obj)), p ∈ (x', instObj 279 d') :: (d', dictOf [] 0) :: news := sc ((.head _)) (sc ((.tail _ (.head _))) (sn))
  k_dflt walk_at "own enter"
  walk_at "my steps"
  all_goals (try (k_data; done))
  rename News _ _ _ (restOf _ _) => NR
  rename News _ _ _ (_ :: _) => NK
  have NA := back_mut (news0 := news) N hO NK NR (fun p hp => .tail _ (.tail _ hp)) (by
    refine kl (by k_mem) (kr (fun p hp => Nat.ne_of_lt (ld p hp)) kn))
  exact ret _ _ _ _ _ (by assumption) (sub NA (by kcj_all)) (Off.cons (by k_ne) (Off.of fun p hp => Nat.ne_of_lt (Nat.lt_trans (ld p hp) lx))) (Off.of fun p hp => Nat.ne_of_lt (ld p hp))
end
section
variable {prog : Program} {w : World} {A₀ : Around} {E : Value → Shared → Prop} {s' : Shared} {base g g₀ G : Heap} {outer : List Env} {L a e t C : Addr} {m : Str → Option Value} {name : Str} {scope : Scope} {cd : Value} {cl : List (Str × Addr)}
  {vs : List Value} {b₀ : Stmt} {suite : List Stmt} {pos np : Pos} {rest : List ExceptHandler} {Q : Flow → Shared → Prop} {news : List (Addr × Obj)} {KF : Frag}
  {p : Program} {loose : List Str} {mean : ExcName → Option Value} {mg mb : Str → Option Value} {x : Str}
/-- what is raised below a frame with cells and caught there by its own class's name -/
theorem caught_cells (R : RaisedS base G (envX name scope L a cd cl :: outer) e (.ref C) t vs news s'.heap) (F : Fr g L G m) (K : Below A₀ base outer g) (hsm : G.UpToSlots s'.heap) (XB : KF.In base) (TB : Top p loose mean mg mb base)
    (D : KtsDicts (outer.filterMap (·.frame)) g) (T0 : KtsTurn (outer.filterMap (·.frame)) g₀ g) (ex : nsIn KF mainGlobals x = some (some (.ref C))) (q : ktsIn KF C "BaseException" = true)
    (k : ∀ h' g', KtsTurn (outer.filterMap (·.frame)) g₀ g' → Fr g' L h' m → News g' L h' news → Below A₀ base outer g' → KF.In g' → Top p loose mean mg mb g' → KtsDicts (outer.filterMap (·.frame)) g' →
      wpAny (model prog w) ((A₀.deeper (envX name scope L a cd cl)).mark (some (.ref e))) (execs (b₀ :: suite) (envX name scope L a cd cl)) Q E { s' with heap := h' })
    (hk : scope.kind = .function := by rfl) (hx : (envX name scope L a cd cl).kindOf x = some .globalImplicit := by rfl) (hd : (x == ("__debug__" : Str)) = false := by decide)
    (hE : PassesOwnAt (model prog w) ((A₀.deeper (envX name scope L a cd cl)).mark (some (.ref e))) (A₀.deeper (envX name scope L a cd cl)) (envX name scope L a cd cl) E := by passes_own) :
    wpAny (model prog w) (A₀.deeper (envX name scope L a cd cl)) (noteFrame (.ref e) (envX name scope L a cd cl))
      (fun _ s₂ => wpAny (model prog w) (A₀.deeper (envX name scope L a cd cl)) (setFlight (.ref e) none) (fun _ s₃ =>
        wpAny (model prog w) (A₀.deeper (envX name scope L a cd cl)) (handleBy (.ref e) (envX name scope L a cd cl) (.ExceptHandler (some (.Name x np)) none (b₀ :: suite) pos :: rest)) Q E s₃) E s₂) E s' := by
  obtain ⟨⟨B, hB, hBG, hl, hfl, hnew⟩, htup⟩ := R
  have hBG' : ∀ b o, G.get? b = some o → b ∉ (envOf name scope L a cd :: outer).filterMap (·.frame) → B.get? b = some o := hBG
  have hL : B.get? L = none := by
    obtain ⟨_, ⟨L', _, hf, hn', _⟩, _⟩ := hfl.2.2.1
    obtain rfl : L = L' := Option.some.inj hf
    exact hn'
  refine wpAny_looks_onW (Around.frames_deeper K.stack) rfl hfl fun h₄ held₄ u₄ => wpAny_landsW held₄ fun h₅ held u₅ => ?_
  have up₅ := hsm.trans (u₄.trans u₅)
  obtain ⟨g₅, _, F₅, K₅⟩ := kts_ground K F hBG' held.1 up₅
  have X₅ : KF.In g₅ := XB.keeps K₅.stays
  obtain ⟨ob, hob, hobc⟩ := held.there
  obtain ⟨nm, q', N, bs, bm, hdct, sn, sub, ab, col, dd, k0, k1, k2, k3, k5, newId, hC, hbase, hbT⟩ := kts_cls X₅ q
  refine wpAny_handleBy_cons (codeAny_handlers_test (nameX_K F₅ X₅ (topRead_of (TB.keeps K₅.stays)) ex ?_ hk hx hd)) (by intro q; cases q)
  refine wpAny_excMatches_sub_self (F₅.keep _ _ hC) hob hobc hbase (codeAny_handlers_suite (lands_againW held fun h₆ fl₆ u₆ => ?_))
  obtain ⟨g₆, T₆, F₆, K₆⟩ := kts_ground K F hBG' fl₆.1 (up₅.trans u₆)
  have Nl : News g₆ L h₆ news := fun q hq => ⟨fl₆.1 _ _ (hl q hq).1, (fun z => by have := (hl q hq).1; rw [z, hL] at this; cases this), T₆.none_ _ (kts_none F.keep (hl q hq).2.1)⟩
  exact wpAny_passesOwnAt hE (k h₆ g₆ (T0.trans T₆) F₆ Nl K₆ (XB.keeps K₆.stays) (TB.keeps K₆.stays) (D.turn T₆))
end
/-- a def's end when a catch may have turned the ground -/
noncomputable def LeaveT (envs outer : List Env) (A₀ : Around) (base h₀ : Heap) (L : Addr) (m : Str → Option Value) (g : Heap) (rest : List (Addr × Obj)) (R : Result → Shared → Prop) (v : Value) (s' : Shared) : Prop :=
  ∃ g' L' m' news', KtsTurn (envs.filterMap (·.frame)) g g' ∧ Fr g' L' s'.heap m' ∧ News g' L' s'.heap news' ∧
    ∀ h₀', KtsTurn (outer.filterMap (·.frame)) h₀ h₀' → Fr h₀' L s'.heap m → News h₀' L s'.heap news' → News h₀' L s'.heap rest → Below A₀ base outer h₀' → KtsDicts (outer.filterMap (·.frame)) h₀' → R (.ok (.ret v)) s'
theorem LeaveT.intro {envs outer : List Env} {A₀ : Around} {base h₀ g g' : Heap} {L L' : Addr} {m m' : Str → Option Value} {rest news' : List (Addr × Obj)} {R : Result → Shared → Prop} {v : Value} {s' : Shared} (F' : Fr g' L' s'.heap m') (N' : News g' L' s'.heap news') (T : KtsTurn (envs.filterMap (·.frame)) g g')
    (k : ∀ h₀', KtsTurn (outer.filterMap (·.frame)) h₀ h₀' → Fr h₀' L s'.heap m → News h₀' L s'.heap news' → News h₀' L s'.heap rest → Below A₀ base outer h₀' → KtsDicts (outer.filterMap (·.frame)) h₀' → R (.ok (.ret v)) s') :
    LeaveT envs outer A₀ base h₀ L m g rest R v s' := ⟨g', L', m', news', T, F', N', k⟩
theorem frame_mem {env : Env} {outer : List Env} {L b : Addr} (hf : env.frame = some L) (hm : b ∈ (env :: outer).filterMap (·.frame)) : b = L ∨ b ∈ outer.filterMap (·.frame) := by
  rw [List.filterMap_cons, hf] at hm
  exact List.mem_cons.mp hm
theorem dicts_push {env : Env} {outer : List Env} {h₀ g : Heap} {L : Addr} {m : Str → Option Value} (FG : Fr h₀ L g m) (st : h₀.StaysIn g) (hf : env.frame = some L) (D : KtsDicts (outer.filterMap (·.frame)) h₀) : KtsDicts ((env :: outer).filterMap (·.frame)) g := fun b hb => by
  rcases frame_mem hf hb with rfl | hb
  · obtain ⟨oL, es, ep, hL, hLd, _⟩ := FG.ns
    exact ⟨oL, es, ep, hL, hLd⟩
  · obtain ⟨o, es, n, ho, hd⟩ := D b hb
    exact ⟨o, es, n, st _ _ ho, hd⟩
section
variable {prog : Program} {w : World} {A A₀ : Around} {s : Shared} {K : Frag} {L : Addr} {h₀ base : Heap} {m mg mb : Str → Option Value} {news : List (Addr × Obj)} {p : Program} {loose : List Str} {mean : ExcName → Option Value}
theorem left_turned {env : Env} {outer : List Env} {R : Result → Shared → Prop} {own : List (Addr × Obj)} {g : Heap} {v : Value} {s' : Shared} (B : Below A₀ base outer h₀) (F : Fr h₀ L s.heap m) (N : News h₀ L s.heap news) (hown : ∀ p ∈ own, p ∈ news) (hf : env.frame = some L) (D : KtsDicts (outer.filterMap (·.frame)) h₀)
    (st : h₀.StaysIn g) (FG : Fr h₀ L g m) (G : ∀ p ∈ restOf own news, g.get? p.1 = some p.2) (hl : LeaveT (env :: outer) outer A₀ base h₀ L m g (restOf own news) R v s') : R (.ok (.ret v)) s' := by
  obtain ⟨g', L', m', news', T', F', N', k⟩ := hl
  have nL₀ : h₀.get? L = none := kts_self F
  have notL : ∀ b o, h₀.get? b = some o → b ∉ outer.filterMap (·.frame) → b ∉ (env :: outer).filterMap (·.frame) := fun b o e nm q => by
    rcases frame_mem hf q with z | z
    · rw [z, nL₀] at e
      cases e
    · exact nm z
  obtain ⟨T₁, S₁⟩ := kts_turn_at (h := s'.heap) (fs := outer.filterMap (·.frame)) (g := h₀)
    (fun b hb => by
      obtain ⟨o, _, _, ho, _⟩ := D b hb
      exact ⟨o, ho⟩)
    (fun b o e nm => F'.keep b o (T'.other b o (st b o e) (notL b o e nm)))
    (fun b o e _ => by
      obtain ⟨sl, hs⟩ := T'.up (st b o e)
      exact ⟨sl, F'.keep _ _ hs⟩)
  obtain ⟨oL, es, ep, hL, hLd, hLk, hLf⟩ := FG.ns
  obtain ⟨sl, hs⟩ := T'.up hL
  have away : ∀ {b : Addr}, g'.get? b = none → h₀.get? b = none := fun {b} e => by
    cases q : h₀.get? b with
    | none => rfl
    | some o =>
      obtain ⟨sl', hs'⟩ := T'.up (st _ _ q)
      rw [e] at hs'
      cases hs'
  refine k _ T₁ ⟨⟨_, es, ep, F'.keep _ _ hs, hLd, hLk, hLf⟩, S₁, by rw [T₁.size]; exact F.above⟩ (fun p hp => ⟨(N' p hp).1, fun q => ?_, T₁.none_ _ (away (N' p hp).2.2)⟩) (fun p hp => ?_) ⟨B.stack, fun b o e => ?_, B.frames.of_keeps fun b o e _ => ?_⟩ (D.turn T₁)
  · have := (N' p hp).2.2
    rw [q, hs] at this
    cases this
  · have hp2 := N p (mem_restOf.mp hp).1
    refine ⟨F'.keep _ _ (T'.other _ _ (G p hp) fun q => ?_), hp2.2.1, T₁.none_ _ hp2.2.2⟩
    rcases frame_mem hf q with z | z
    · exact hp2.2.1 z
    · obtain ⟨o, _, _, ho, _⟩ := D _ z
      rw [hp2.2.2] at ho
      cases ho
  · refine T₁.other b o (B.stays b o e) fun hm => ?_
    rw [(B.frames.mem hm).1] at e
    cases e
  · obtain ⟨sl', hs'⟩ := T₁.up e
    exact ⟨_, hs', rfl⟩
theorem code_ownT {env : Env} {outer : List Env} {R : Result → Shared → Prop} {name qual : Str} {params : Arguments} {body : List Stmt} {scope : Scope} {dV kV doc pm cdv ct oc : Value} {an od : Option Addr} {osl : Array (Option Value)} {f : Addr} {args : Args} {binds : List (Str × Value)} (own : List (Addr × Obj))
    (B : Below A₀ base outer h₀) (F : Fr h₀ L s.heap m) (X₀ : K.In h₀) (N : News h₀ L s.heap news) (hown : ∀ p ∈ own, p ∈ news) (T : Top p loose mean mg mb h₀) (D : KtsDicts (outer.filterMap (·.frame)) h₀) (hA : A.frames = some (env :: outer)) (hf : env.frame = some L) (hke : env.scope.kind = .function)
    (ho : K.lookup f = some ⟨oc, od, .func (fnOf name qual params body scope dV kV doc pm an cdv ct), osl⟩) (hcd : codeIn K cdv qual = true) (hroom : A.depth < recursionLimit)
    (hbind : BindsTo s (fnOf name qual params body scope dV kV doc pm an cdv ct) args binds) (hloc : ∀ y ∈ binds, scope.names.lookup y.1 = some .local)
    (h : ∀ g L' h₁, Fr h₀ L g m → Fr g L' h₁ (fun y => binds.reverse.lookup y) → News g L' h₁ own → Below A base (env :: outer) g → K.In g → Top p loose mean mg mb g → (∀ p ∈ restOf own news, g.get? p.1 = some p.2) → (∀ p ∈ own, p.1 < L') → (∀ b o, s.heap.get? b = some o → b ∉ own.map (·.1) → g.get? b = some o) → KtsDicts ((env :: outer).filterMap (·.frame)) g →
      wpAny (model prog w) (A.deeper (envOf qual scope L' f cdv)) (execs body (envOf qual scope L' f cdv))
        (fun fl s' => LeaveT (env :: outer) outer A₀ base h₀ L m g (restOf own news) R (match fl with | .ret v => v | _ => .none) s')
        (fun e s' => wpAny (model prog w) (A.deeper (envOf qual scope L' f cdv)) (leaving (envOf qual scope L' f cdv) e) (fun _ s'' => R (.error e) s'') (fun e' s'' => R (.error e') s'') s')
        { s with heap := h₁, toks := s.toks + binds.length })
    (hco : scope.isCoroutine = false) (hgen : scope.isGenerator = false) (hk : scope.kind = .function)
    (hcell : ∀ x ∈ scope.names, x.2 ≠ .cell) : codeAny (model prog w) A (.call (.ref f) args) R s := by
  have No : News h₀ L s.heap own := sub N hown
  obtain ⟨FG, BG, st, _⟩ := groundX (R := R) B F No hA hf hke
  have G : ∀ p ∈ restOf own news, (hideAll s.heap (own.map (·.1))).get? p.1 = some p.2 := fun p hp => hideAll_get _ (N p (mem_restOf.mp hp).1).1 (mem_restOf.mp hp).2
  refine codeAny_call_def (fd := fnOf name qual params body scope dV kV doc pm an cdv ct) (body := body) (binds := binds) hroom ((X₀.keeps F.keep) _ _ ho) rfl (T.nolimit.keeps F.keep) (codeRec_of (X₀.keeps F.keep) hcd) rfl hbind hcell hloc (fun h₁ hns hk₁ => ?_) hco hgen hk
  refine wpAny_mono (h _ s.heap.objs.size h₁ FG ⟨hns, fun b o e => hk₁ b o (of_hideAll _ e), Nat.le_of_eq (hideAll_size _ _)⟩
    (fun p hp => ⟨hk₁ _ _ (No p hp).1, Nat.ne_of_lt (Heap.lt_size (No p hp).1), hideAll_none _ (List.mem_map_of_mem hp)⟩) BG (X₀.keeps st) (T.keeps st) G (fun p hp => Heap.lt_size (No p hp).1) (fun b o e hn => hideAll_get _ e hn) (dicts_push FG st hf D)) (fun fl s' hl => ?_) fun _ _ y => y
  exact left_turned B F N hown hf D st FG G hl
theorem code_ownTC {env : Env} {outer : List Env} {R : Result → Shared → Prop} {name qual : Str} {params : Arguments} {body : List Stmt} {scope : Scope} {dV kV doc pm cdv ct oc : Value} {an od : Option Addr} {osl : Array (Option Value)} {f : Addr} {args : Args} {binds : List (Str × Value)} (own : List (Addr × Obj))
    (B : Below A₀ base outer h₀) (F : Fr h₀ L s.heap m) (X₀ : K.In h₀) (N : News h₀ L s.heap news) (hown : ∀ p ∈ own, p ∈ news) (T : Top p loose mean mg mb h₀) (D : KtsDicts (outer.filterMap (·.frame)) h₀) (hA : A.frames = some (env :: outer)) (hf : env.frame = some L) (hke : env.scope.kind = .function)
    (ho : K.lookup f = some ⟨oc, od, .func (fnOf name qual params body scope dV kV doc pm an cdv ct), osl⟩) (hcd : codeIn K cdv qual = true) (hroom : A.depth < recursionLimit)
    (hbind : BindsTo s (fnOf name qual params body scope dV kV doc pm an cdv ct) args binds) (hkind : (binds.all fun y => scope.names.lookup y.1 == some .local || scope.names.lookup y.1 == some .cell) = true)
    (hnd : ((cellsFrom 0 scope.names []).map (·.1)).Nodup)
    (h : ∀ g L' h₁ tk cells, Fr h₀ L g m → Fr g L' h₁ (bindL (envOfC qual scope L' f cdv).kindOf binds fun _ => none) → News g L' h₁ (cells ++ own) →
      CellsAre (bindC (envOfC qual scope L' f cdv).kindOf binds fun _ => none) (cellsFrom (L' + 1) scope.names []) cells → Below A base (env :: outer) g → K.In g → Top p loose mean mg mb g → (∀ p ∈ restOf own news, g.get? p.1 = some p.2) → (∀ p ∈ own, p.1 < L') → (∀ b o, s.heap.get? b = some o → b ∉ own.map (·.1) → g.get? b = some o) → KtsDicts ((env :: outer).filterMap (·.frame)) g →
      wpAny (model prog w) (A.deeper (envOfC qual scope L' f cdv)) (execs body (envOfC qual scope L' f cdv))
        (fun fl s' => LeaveT (env :: outer) outer A₀ base h₀ L m g (restOf own news) R (match fl with | .ret v => v | _ => .none) s')
        (fun e s' => wpAny (model prog w) (A.deeper (envOfC qual scope L' f cdv)) (leaving (envOfC qual scope L' f cdv) e) (fun _ s'' => R (.error e) s'') (fun e' s'' => R (.error e') s'') s')
        { s with heap := h₁, toks := tk })
    (hco : scope.isCoroutine = false) (hgen : scope.isGenerator = false) (hk : scope.kind = .function) : codeAny (model prog w) A (.call (.ref f) args) R s := by
  have No : News h₀ L s.heap own := sub N hown
  obtain ⟨FG, BG, st, _⟩ := groundX (R := R) B F No hA hf hke
  have G : ∀ p ∈ restOf own news, (hideAll s.heap (own.map (·.1))).get? p.1 = some p.2 := fun p hp => hideAll_get _ (N p (mem_restOf.mp hp).1).1 (mem_restOf.mp hp).2
  refine codeAny_call_function hroom ((X₀.keeps F.keep) _ _ ho) rfl hco hgen rfl (codeRec_of (X₀.keeps F.keep) hcd) (hbind _ _ _ _ ?_)
  refine wpAny_newFunctionEnv_cells hk (kindsX hkind _) fun env' he s' x => ?_
  subst he
  refine ⟨(T.nolimit.keeps F.keep).keeps x.toInCall.keep, codeAny_func ?_⟩
  obtain ⟨h₁, tk, rfl, _⟩ := x.done
  have hk₁ := x.toInCall.keep
  obtain ⟨cells, NC, Y⟩ := Cl.news (h₀ := s.heap) (Nat.le_refl _) fun n c hm => ⟨x.cell n c (lookup_of_mem_nodup (cellsFrom_names scope.names 0 (s.heap.objs.size + 1) [] [] rfl ▸ hnd) hm), x.above n c hm⟩
  refine wpAny_mono (h _ s.heap.objs.size h₁ tk cells FG ⟨x.toInCall.ns, fun b o e => hk₁ b o (of_hideAll _ e), Nat.le_of_eq (hideAll_size _ _)⟩ (fun p hp => ?_) Y BG (X₀.keeps st) (T.keeps st) G (fun p hp => Heap.lt_size (No p hp).1) (fun b o e hn => hideAll_get _ e hn) (dicts_push FG st hf D)) (fun fl s' hl => ?_) fun _ _ y => y
  · rcases List.mem_append.mp hp with hp | hp
    · refine ⟨(NC p hp).1, (NC p hp).2.1, ?_⟩
      cases q : (hideAll s.heap (own.map (·.1))).get? p.1 with
      | none => rfl
      | some o => have := of_hideAll _ q; rw [(NC p hp).2.2] at this; cases this
    · exact ⟨hk₁ _ _ (No p hp).1, Nat.ne_of_lt (Heap.lt_size (No p hp).1), hideAll_none _ (List.mem_map_of_mem hp)⟩
  · exact left_turned B F N hown hf D st FG G hl
end
theorem words_entert_1 : True := by
  k_with "own T" => (refine' code_ownT _ ?k1q94bd70 ?k2q94bd70 ?k3q94bd70 ?k4q94bd70 ?kOq94bd70 ?k5q94bd70 ?kDDq94bd70 ?kAq94bd70 ?kFq94bd70 ?kKq94bd70 ?k6q94bd70 ?k7q94bd70 ?k8q94bd70 ?k9q94bd70 ?kBq94bd70 ?_ ?c2q94bd70 ?c3q94bd70 ?c4q94bd70 ?c5q94bd70; (case kOq94bd70 => k_asm); (case kDDq94bd70 => k_asm); (case kAq94bd70 => exact rfl); (case kFq94bd70 => exact rfl); (case kKq94bd70 => exact rfl); (case k1q94bd70 => k_asm); (case k2q94bd70 => k_asm); (case k3q94bd70 => k_asm); (case k4q94bd70 => k_asm); (case k5q94bd70 => k_asm); (case k6q94bd70 => k_is); (case k7q94bd70 => k_is); (case k8q94bd70 => k_room); (case k9q94bd70 => first | exact BindsTo.of_eq rfl | exact binds_K (by k_in) rfl (by k_is) rfl rfl rfl | fail "own enter: no rule for these arguments"); (case c5q94bd70 => decide); (case kBq94bd70 => exact locs rfl); (case c2q94bd70 => exact rfl); (case c3q94bd70 => exact rfl); (case c4q94bd70 => exact rfl); k_whole; intro g'9 L'9 h'9 FG'9 F'9 N'9 B'9 X'9 T'9 hG9 hL9 hX9 D'9; (try dsimp only); (try k_fold); walk_at "my gen")
  k_with "own TC" => (refine' code_ownTC _ ?k1q1e6e4d ?k2q1e6e4d ?k3q1e6e4d ?k4q1e6e4d ?kOq1e6e4d ?k5q1e6e4d ?kDDq1e6e4d ?kAq1e6e4d ?kFq1e6e4d ?kKq1e6e4d ?k6q1e6e4d ?k7q1e6e4d ?k8q1e6e4d ?k9q1e6e4d ?kBq1e6e4d ?kDq1e6e4d ?_ ?c2q1e6e4d ?c3q1e6e4d ?c4q1e6e4d; (case kOq1e6e4d => k_asm); (case kDDq1e6e4d => k_asm); (case kAq1e6e4d => exact rfl); (case kFq1e6e4d => exact rfl); (case kKq1e6e4d => exact rfl); (case k1q1e6e4d => k_asm); (case k2q1e6e4d => k_asm); (case k3q1e6e4d => k_asm); (case k4q1e6e4d => k_asm); (case k5q1e6e4d => k_asm); (case k6q1e6e4d => k_is); (case k7q1e6e4d => k_is); (case k8q1e6e4d => k_room); (case k9q1e6e4d => first | exact BindsTo.of_eq rfl | exact binds_K (by k_in) rfl (by k_is) rfl rfl rfl | fail "own TC: no rule for these arguments"); (case kBq1e6e4d => exact rfl); (case kDq1e6e4d => decide +kernel); (case c2q1e6e4d => exact rfl); (case c3q1e6e4d => exact rfl); (case c4q1e6e4d => exact rfl); k_whole; intro g'9 L'9 h'9 tk'9 cells'9 FG'9 F'9 N'9 Y'9 B'9 X'9 T'9 hG9 hL9 hX9 D'9; (k_lt hL9); k_cells Y'9; (try simp only [List.cons_append, List.nil_append] at N'9); (try dsimp only); (try k_fold); walk_at "my gen")
  k_with "LeaveT" => (k_dflt (refine' LeaveT.intro ?Fq2e5889 ?Nq2e5889 ?Tq2e5889 ?_; (case Fq2e5889 => k_asm); (case Nq2e5889 => k_asm); (case Tq2e5889 => first | assumption | exact KtsTurn.refl); k_whole); intro h0'9 kT9 kF9 kN9 kR9 kB9 kD9; (try dsimp only))
  trivial
theorem words_refused_1 : True := by
  k_with "call ref" => (k_here; (with_reducible show wpAny _ _ (call (Value.ref 279) _) _ _ _); k_dflt (refine' changer_spec ⟨?Bqat, ?Fqat, ?Xqat, ?Nqat, ?Tqat, ?dqat, ?uqat⟩ ?_; walk_at "my at"; k_whole); intro c'9 d'9 t'9 h'9 tk'9 F'9 N'9 l19 l29; (try k_sweep); (try dsimp only))
  trivial
theorem back_turn {h₀ h₁ h h' : Heap} {L : Addr} {own own' news : List (Addr × Obj)} (N : News h₀ L h news) (hown : ∀ p ∈ own, p ∈ news) (N' : News h₁ L h' own') (NR : News h₁ L h' (restOf own news)) (hs : ∀ p ∈ own, p ∈ own') : News h₁ L h' news := fun p hp => by
  by_cases hm : p.1 ∈ own.map (·.1)
  · obtain ⟨q, hq, e⟩ := List.mem_map.mp hm
    have e2 : p = q := news_same N hp (hown q hq) e.symm
    subst e2
    exact N' p (hs p hq)
  · exact NR p (mem_restOf.mpr ⟨hp, hm⟩)
section
variable {w : World} {mean : ExcName → Option Value} {mg mb : Str → Option Value}
   {dp un : Nat} {gd : Option (List Code)} {cn : Str} {nm : List (Str × NameKind)} {ig ic : Bool} {mo : List (Str × Const)} {a : Addr} {ccd : Value} {cl : List (Str × Addr)} {outer : List Env} {A₀ : Around} {base h₀ : Heap} {L : Addr} {m : Str → Option Value} {s : Shared} {Q E : Value → Shared → Prop} {news : List (Addr × Obj)}
theorem refused_spec (H : At 56 w mean mg mb A₀ base h₀ outer L m s news dp un) (XB : (Mine.frag w.params).In base) (TB : Top Mine.view (looseW Mine.view LR) mean mg mb base) (D : KtsDicts (outer.filterMap (·.frame)) h₀)
   {x : Addr} {f : Cf} {way : Int} {tw : Tok} (hc : CfIn w.params news x f) (hs : Sound f) (hv : ids f.v ≠ []) (hw : (way = 0 ∧ ids f.o ≠ []) ∨ (way = 1 ∧ ids f.o ≠ []) ∨ (way = 2 ∧ ids f.o = []))
   (ret : ∀ h₀' h' tk', KtsTurn (outer.filterMap (·.frame)) h₀ h₀' → Fr h₀' L h' m → News h₀' L h' news → Below A₀ base outer h₀' → (Mine.frag w.params).In h₀' → Top Mine.view (looseW Mine.view LR) mean mg mb h₀' → KtsDicts (outer.filterMap (·.frame)) h₀' → Q (.bool true) { s with heap := h', toks := tk' }) :
   CallA w dp un gd cn nm ig ic mo L a ccd cl outer 381 [.ref x, .int way tw] Q E s := by
  have z := zz
  revert z
  k_fill
  intro _
  w_on
  obtain ⟨B, F, X, N, T, hd, hu⟩ := H
  unfold CallA
  have nextOn : NextOn := ⟨⟩
  obtain ⟨fv, fo, fl, fn, fa⟩ := f
  obtain ⟨d, lv, lo, ll, ln, vv, vo, vl, vn, cv, co, cl', cn', t1, t2, t3, t4, t5, h1, h2, h3, h4, h5, h6, i1, i2, i3, i4⟩ := hc
  dsimp only at hv h2 i1 i2 i3 i4 hw
  refine wpAny_call ?_
  have hO : ∀ p ∈ ([(x, instObj 183 d), (d, cfD w.params lv lo ll ln fa t1 t2 t3 t4 t5), (lv, listO vv cv), (lo, listO vo co), (ll, listO vl cl'), (ln, listO vn cn')] : List (Addr × Obj)), p ∈ news := sc (h1) (sc (h2) (sc (h3) (sc (h4) (sc (h5) (sc (h6) (sn))))))
  rcases hw with ⟨rfl, ho⟩ | ⟨rfl, ho⟩ | ⟨rfl, ho⟩
  · skip
    k_dflt walk_at "own T"
    walk_at "my steps"
    rename KtsTurn _ h₀ _ => kT'
    rename News _ L _ (restOf _ _) => kR'
    rename News _ L _ (_ :: _) => kN'
    rename Below A₀ base outer _ => kB'
    rename KtsDicts (outer.filterMap _) _ => kD'
    exact ret _ _ _ kT' (by assumption) (back_turn N hO kN' kR' (by kcj_all)) kB' (XB.keeps kB'.stays) (TB.keeps kB'.stays) kD'
  · skip
    k_dflt walk_at "own T"
    walk_at "my steps"
    rename KtsTurn _ h₀ _ => kT'
    rename News _ L _ (restOf _ _) => kR'
    rename News _ L _ (_ :: _) => kN'
    rename Below A₀ base outer _ => kB'
    rename KtsDicts (outer.filterMap _) _ => kD'
    exact ret _ _ _ kT' (by assumption) (back_turn N hO kN' kR' (by kcj_all)) kB' (XB.keeps kB'.stays) (TB.keeps kB'.stays) kD'
  · have ho2 : ¬ ids fo ≠ [] := fun z => z ho
    k_dflt walk_at "own T"
    walk_at "my steps"
    rename KtsTurn _ h₀ _ => kT'
    rename News _ L _ (restOf _ _) => kR'
    rename News _ L _ (_ :: _) => kN'
    rename Below A₀ base outer _ => kB'
    rename KtsDicts (outer.filterMap _) _ => kD'
    exact ret _ _ _ kT' (by assumption) (back_turn N hO kN' kR' (by kcj_all)) kB' (XB.keeps kB'.stays) (TB.keeps kB'.stays) kD'
end
noncomputable def tupD (ns : List Int) : PyData := .tuple (ns.map .int)
noncomputable def rowD (f : Cf) : PyData := .tuple [tupD (ids f.v), tupD (ids f.o), tupD (ids f.l), tupD (ids f.n), .bool f.au]
noncomputable def sameRow (f g : Cf) : Bool := decide (ids f.v = ids g.v) && (decide (ids f.o = ids g.o) && (decide (ids f.l = ids g.l) && (decide (ids f.n = ids g.n) && (f.au == g.au))))
theorem row_shaped (f : Cf) : SeqAt.shaped (rowD f) = true := by
  simp [rowD, tupD, SeqAt.shaped, PyData.canLay0, PyData.canLayAll0, PyData.depth, PyData.depthAll, ke_canLayAll0, ke_depthAll]
theorem row_eqv (f g : Cf) : PyData.eqv (rowD f) (rowD g) = sameRow f g := by
  simp only [rowD, tupD, sameRow, PyData.eqv, PyData.eqvAll, ked_eqvAll, Bool.and_true]
theorem tup_reads {h₀ h : Heap} {L a : Addr} {news : List (Addr × Obj)} {vs : List Value} {ns : List Int} {c : Nat} (N : News h₀ L h news) (ha : (a, tupO vs c) ∈ news) (hi : IntsAre vs ns) : Reads h (.ref a) (tupD ns) [] :=
  reads_newDataT ⟨_, (N _ ha).1, rfl, c, rfl⟩ (ke_carried hi)
theorem row_reads {h₀ h : Heap} {L r : Addr} {news : List (Addr × Obj)} {f : Cf} (N : News h₀ L h news) (hr : RowIn news r f) : ∃ as, Reads h (.ref r) (rowD f) as := by
  obtain ⟨c, a1, a2, a3, a4, v1, v2, v3, v4, c1, c2, c3, c4, h1, h2, h3, h4, h5, i1, i2, i3, i4⟩ := hr
  exact ⟨_, reads_tuple_at (N _ h1).1 rfl rfl (.cons (tup_reads N h2 i1) (.cons (tup_reads N h3 i2) (.cons (tup_reads N h4 i3) (.cons (tup_reads N h5 i4) (.cons (.bool _) .nil)))))⟩
section
variable {prog : Program} {w : World} {A : Around} {E : Value → Shared → Prop} {s : Shared} {h₀ : Heap} {L a b : Addr} {news news' : List (Addr × Obj)} {f g : Cf} {Q : Value → Shared → Prop}
theorem rows_eq (N : News h₀ L s.heap news) (ha : RowIn news a f) (hb : RowIn news b g) (hu : A.units + 64 < cLine) (h : Q (.bool (sameRow f g)) s) : wpAny (model prog w) A (compareOp .Eq (.ref a) (.ref b)) Q E s := by
  obtain ⟨as, ra⟩ := row_reads N ha
  obtain ⟨bs, rb⟩ := row_reads N hb
  exact eq_dataH ra rb (row_shaped f) (row_shaped g) hu (by rw [row_eqv]; exact h)
theorem rows_ne (N : News h₀ L s.heap news) (ha : RowIn news a f) (hb : RowIn news b g) (hu : A.units + 64 < cLine) (h : Q (.bool (!sameRow f g)) s) : wpAny (model prog w) A (compareOp .NotEq (.ref a) (.ref b)) Q E s := by
  obtain ⟨as, ra⟩ := row_reads N ha
  obtain ⟨bs, rb⟩ := row_reads N hb
  exact ne_dataH ra rb (row_shaped f) (row_shaped g) hu (by rw [row_eqv]; exact h)
end
/-- a member's status: votes, voted, learns, waits -/
noncomputable abbrev St4 := Bool × Bool × Bool × Bool
noncomputable def Cf.st (f : Cf) (i : Int) : St4 := (f.v i, f.o i, f.l i, f.n i)
/-- what one step of a kind makes of a status -/
noncomputable def act (k : Int) (s : St4) : St4 :=
  if k = 0 then (true, s.2.1, false, false)
  else if k = 3 then (if s.2.2.1 then s else if s.2.1 then (false, true, false, true) else (false, false, true, false))
  else if k = 1 then (false, s.2.1, false, false) else s
theorem step_st {f : Cf} {c : Int × Int} {i : Int} (hc : c.2 ∈ IDs) : (f.step c).st i = if c.2 = i then act c.1 (f.st i) else f.st i := by
  obtain ⟨k, n⟩ := c
  by_cases e : n = i
  · subst e
    rw [if_pos rfl]
    unfold Cf.step act
    dsimp only at hc ⊢
    by_cases k0 : k = 0
    · rw [if_pos k0, if_pos k0]
      simp [Cf.makeVoter, Cf.st]
    · rw [if_neg k0, if_neg k0]
      by_cases k3 : k = 3
      · rw [if_pos k3, if_pos k3]
        unfold Cf.makeLearner
        by_cases hl : f.l n = true
        · rw [if_pos (mem_ids.mpr ⟨hc, hl⟩)]
          simp [Cf.st, hl]
        · rw [if_neg (fun z => hl (mem_ids.mp z).2)]
          by_cases ho : f.o n = true
          · rw [if_pos (mem_ids.mpr ⟨hc, ho⟩)]
            simp [Cf.st, Cf.remove, hl, ho]
          · rw [if_neg (fun z => ho (mem_ids.mp z).2)]
            simp [Cf.st, Cf.remove, hl, ho]
      · rw [if_neg k3, if_neg k3]
        by_cases k1 : k = 1
        · rw [if_pos k1, if_pos k1]
          simp [Cf.remove, Cf.st]
        · rw [if_neg k1, if_neg k1]
  · rw [if_neg e]
    have e2 : (i == n) = false := by simpa using fun z => e z.symm
    have e3 : (i != n) = true := by simpa using fun z => e z.symm
    unfold Cf.step
    dsimp only
    split
    · simp [Cf.makeVoter, Cf.st, e2, e3]
    · split
      · unfold Cf.makeLearner
        split
        · rfl
        · split <;> simp [Cf.st, Cf.remove, e2, e3]
      · split
        · simp [Cf.remove, Cf.st, e3]
        · rfl
theorem steps_st {i : Int} : ∀ {cs : List (Int × Int)} {f : Cf}, (∀ c ∈ cs, c.2 ∈ IDs) → (f.steps cs).st i = ((cs.filter fun c => c.2 == i).map (·.1)).foldl (fun s k => act k s) (f.st i)
  | [], _, _ => rfl
  | c :: cs, f, h => by
    have hr := steps_st (i := i) (cs := cs) (f := f.step c) fun d hd => h d (.tail _ hd)
    show ((f.step c).steps cs).st i = _
    rw [hr, step_st (h c (.head _))]
    by_cases e : c.2 = i
    · rw [if_pos e, List.filter_cons_of_pos (by simpa using e)]
      rfl
    · rw [if_neg e, List.filter_cons_of_neg (by simpa using e)]
theorem steps_au : ∀ {cs : List (Int × Int)} {f : Cf}, (f.steps cs).au = f.au
  | [], _ => rfl
  | c :: cs, f => by
    show ((f.step c).steps cs).au = _
    rw [steps_au]
    unfold Cf.step Cf.makeLearner
    split
    · rfl
    · split
      · split
        · rfl
        · split <;> rfl
      · split <;> rfl
/-- alike on the members -/
noncomputable def Same (f g : Cf) : Prop := (∀ i ∈ IDs, f.st i = g.st i) ∧ f.au = g.au
theorem Same.ids {f g : Cf} (h : Same f g) : Mine.ids f.v = Mine.ids g.v ∧ Mine.ids f.o = Mine.ids g.o ∧ Mine.ids f.l = Mine.ids g.l ∧ Mine.ids f.n = Mine.ids g.n := by
  refine ⟨ids_ext fun i hi => ?_, ids_ext fun i hi => ?_, ids_ext fun i hi => ?_, ids_ext fun i hi => ?_⟩ <;>
  · have := h.1 i hi
    simp only [Cf.st, Prod.mk.injEq] at this
    simp [this]
noncomputable def Rol (ρ : Int → Int) : Prop := ∀ i ∈ IDs, ρ i = 0 ∨ ρ i = 1 ∨ ρ i = 2
/-- the kind of step that makes a role -/
noncomputable def stepOf (r : Int) : Int := [1, 0, 3].getD r.toNat 0
noncomputable def stp (ν : Int → Int) (i : Int) : Int × Int := (stepOf (ν i), i)
noncomputable def ord (ν : Int → Int) : List (List (Int × Int)) :=
  [[stp ν 2, stp ν 3, stp ν 5], [stp ν 2, stp ν 5, stp ν 3], [stp ν 3, stp ν 2, stp ν 5], [stp ν 3, stp ν 5, stp ν 2], [stp ν 5, stp ν 2, stp ν 3], [stp ν 5, stp ν 3, stp ν 2]]
/-- the joint configuration of old and new roles -/
noncomputable def jc (ρ ν : Int → Int) (au : Bool) : Cf := ⟨fun i => ν i == 1, fun i => ρ i == 1, fun i => ν i == 2 && ρ i != 1, fun i => ν i == 2 && ρ i == 1, au⟩
noncomputable def Noise (cs : List (Int × Int)) : Prop := cs = [] ∨ ∃ κ n, cs = [(κ, n)] ∧ (κ = 0 ∨ κ = 1 ∨ κ = 2 ∨ κ = 3) ∧ (n = 2 ∨ n = 3 ∨ n = 5)
noncomputable def tgt (r r' : Int) : St4 := (r' == 1, r == 1, r' == 2 && r != 1, r' == 2 && r == 1)
theorem act_one {r r' : Int} (h : r = 0 ∨ r = 1 ∨ r = 2) (h' : r' = 0 ∨ r' = 1 ∨ r' = 2) : act (stepOf r') (r == 1, r == 1, r == 2, false) = tgt r r' := by
  rcases h with rfl | rfl | rfl <;> rcases h' with rfl | rfl | rfl <;> decide
theorem act_two {r r' κ : Int} (h : r = 0 ∨ r = 1 ∨ r = 2) (h' : r' = 0 ∨ r' = 1 ∨ r' = 2) (hk : κ = 0 ∨ κ = 1 ∨ κ = 2 ∨ κ = 3) : act (stepOf r') (act κ (r == 1, r == 1, r == 2, false)) = tgt r r' := by
  rcases h with rfl | rfl | rfl <;> rcases h' with rfl | rfl | rfl <;> rcases hk with rfl | rfl | rfl | rfl <;> decide
theorem act_set {r r' : Int} (h : r = 0 ∨ r = 1 ∨ r = 2) (h' : r' = 0 ∨ r' = 1 ∨ r' = 2) : act (stepOf r') (r == 1, false, r == 2, false) = (r' == 1, false, r' == 2, false) := by
  rcases h with rfl | rfl | rfl <;> rcases h' with rfl | rfl | rfl <;> decide
theorem tgt_same {r : Int} (h : r = 0 ∨ r = 1 ∨ r = 2) : (r == 1, r == 1, r == 2, false) = tgt r r := by
  rcases h with rfl | rfl | rfl <;> decide
theorem mem_ids4 {i : Int} (h : i ∈ IDs) : i = 2 ∨ i = 3 ∨ i = 5 ∨ i = 9 := by
  simpa [IDs] using h
theorem ord_ids {ν : Int → Int} {cs : List (Int × Int)} (h : cs ∈ ord ν) : ∀ c ∈ cs, c.2 ∈ IDs := by
  simp only [ord, List.mem_cons, List.not_mem_nil, or_false] at h
  rcases h with rfl | rfl | rfl | rfl | rfl | rfl <;> simp [stp, IDs]
/-- in each order a member that moves has one step, member 9 none -/
theorem ord_of {ν : Int → Int} {cs : List (Int × Int)} (h : cs ∈ ord ν) {i : Int} (hi : i ∈ IDs) : (cs.filter fun c => c.2 == i).map (·.1) = if i = 9 then [] else [stepOf (ν i)] := by
  simp only [ord, List.mem_cons, List.not_mem_nil, or_false] at h
  rcases mem_ids4 hi with rfl | rfl | rfl | rfl <;> rcases h with rfl | rfl | rfl | rfl | rfl | rfl <;> rfl
theorem enter_st {f : Cf} {au : Bool} {cs : List (Int × Int)} {i : Int} (h : ∀ c ∈ cs, c.2 ∈ IDs) : (f.enter au cs).st i = ((cs.filter fun c => c.2 == i).map (·.1)).foldl (fun s k => act k s) (f.v i, f.v i, f.l i, f.n i) :=
  steps_st (f := { f with o := f.v }) h
theorem enter_jc {ρ ν : Int → Int} {au : Bool} {ns cs : List (Int × Int)} (hr : Rol ρ) (hn : Rol ν) (h9 : ν 9 = ρ 9) (hs : Noise ns) (hc : cs ∈ ord ν) : Same ((Cf.of ρ).enter au (ns ++ cs)) (jc ρ ν au) := by
  refine ⟨fun i hi => ?_, rfl⟩
  have hids : ∀ c ∈ ns ++ cs, c.2 ∈ IDs := fun c hc' => by
    rcases List.mem_append.mp hc' with z | z
    · rcases hs with rfl | ⟨κ, n, rfl, _, hn'⟩
      · cases z
      · rw [List.mem_singleton.mp z]
        rcases hn' with rfl | rfl | rfl <;> simp [IDs]
    · exact ord_ids hc c z
  rw [enter_st hids, List.filter_append, List.map_append, List.foldl_append, ord_of hc hi]
  show _ = tgt (ρ i) (ν i)
  have e0 : ((Cf.of ρ).v i, (Cf.of ρ).v i, (Cf.of ρ).l i, (Cf.of ρ).n i) = (ρ i == 1, ρ i == 1, ρ i == 2, false) := rfl
  rw [e0]
  rcases hs with rfl | ⟨κ, n, rfl, hκ, hn'⟩
  · by_cases e9 : i = 9
    · subst e9
      rw [if_pos rfl, h9]
      exact tgt_same (hr _ hi)
    · rw [if_neg e9]
      exact act_one (hr _ hi) (hn _ hi)
  · by_cases e9 : i = 9
    · subst e9
      rw [if_pos rfl, h9]
      have : ([(κ, n)] : List (Int × Int)).filter (fun c => c.2 == 9) = [] := by
        rcases hn' with rfl | rfl | rfl <;> rfl
      rw [this]
      exact tgt_same (hr _ hi)
    · rw [if_neg e9]
      by_cases en : n = i
      · subst en
        have : ([(κ, n)] : List (Int × Int)).filter (fun c => c.2 == n) = [(κ, n)] := by simp
        rw [this]
        exact act_two (hr _ hi) (hn _ hi) hκ
      · have : ([(κ, n)] : List (Int × Int)).filter (fun c => c.2 == i) = [] := by simp [en]
        rw [this]
        exact act_one (hr _ hi) (hn _ hi)
/-- simple, all at once -/
theorem steps_of {ρ ν : Int → Int} {cs : List (Int × Int)} (hr : Rol ρ) (hn : Rol ν) (h9 : ν 9 = ρ 9) (hc : cs ∈ ord ν) : Same ((Cf.of ρ).steps cs) (Cf.of ν) := by
  refine ⟨fun i hi => ?_, steps_au⟩
  rw [steps_st (ord_ids hc), ord_of hc hi]
  by_cases e9 : i = 9
  · subst e9
    rw [if_pos rfl]
    simp only [List.foldl_nil, Cf.st, Cf.of, h9]
  · rw [if_neg e9]
    exact act_set (hr _ hi) (hn _ hi)
theorem leave_jc {ρ ν : Int → Int} {au : Bool} : Same (jc ρ ν au).leave (Cf.of ν) := by
  refine ⟨fun i _ => ?_, rfl⟩
  simp only [Cf.st, Cf.leave, jc, Cf.of]
  cases h : ν i == 2 <;> cases h2 : ρ i == 1 <;> simp [bne, h2]
theorem Same.cf {P : Params} {news : List (Addr × Obj)} {a : Addr} {f g : Cf} (h : Same f g) (hc : CfIn P news a f) : CfIn P news a g := by
  obtain ⟨e1, e2, e3, e4⟩ := h.ids
  obtain ⟨d, lv, lo, ll, ln, vv, vo, vl, vn, cv, co, cl', cn', t1, t2, t3, t4, t5, h1, h2, h3, h4, h5, h6, i1, i2, i3, i4⟩ := hc
  rw [h.2] at h2
  rw [e1] at i1
  rw [e2] at i2
  rw [e3] at i3
  rw [e4] at i4
  exact ⟨d, lv, lo, ll, ln, vv, vo, vl, vn, cv, co, cl', cn', t1, t2, t3, t4, t5, h1, h2, h3, h4, h5, h6, i1, i2, i3, i4⟩
theorem Same.row {news : List (Addr × Obj)} {a : Addr} {f g : Cf} (h : Same f g) (hc : RowIn news a f) : RowIn news a g := by
  obtain ⟨e1, e2, e3, e4⟩ := h.ids
  obtain ⟨c, a1, a2, a3, a4, v1, v2, v3, v4, c1, c2, c3, c4, h1, h2, h3, h4, h5, i1, i2, i3, i4⟩ := hc
  rw [h.2] at h1
  rw [e1] at i1
  rw [e2] at i2
  rw [e3] at i3
  rw [e4] at i4
  exact ⟨c, a1, a2, a3, a4, v1, v2, v3, v4, c1, c2, c3, c4, h1, h2, h3, h4, h5, i1, i2, i3, i4⟩
theorem Same.rows {f g : Cf} (h : Same f g) : sameRow f g = true := by
  obtain ⟨e1, e2, e3, e4⟩ := h.ids
  simp [sameRow, e1, e2, e3, e4, h.2]
theorem same_refl (f : Cf) : Same f f := ⟨fun _ _ => rfl, rfl⟩
theorem sameRow_refl (f : Cf) : sameRow f f = true := (same_refl f).rows
noncomputable def okSt (s : St4) : Bool := (!s.2.2.2 || (s.2.1 && !s.2.2.1 && !s.1)) && (!s.2.2.1 || (!s.1 && !s.2.1))
theorem sound_of {f : Cf} (h : ∀ i ∈ IDs, okSt (f.st i) = true) (hj : ids f.o = [] → f.au = false) : Sound f := by
  refine ⟨fun i hi => ?_, fun i hi => ?_, hj⟩
  · obtain ⟨h1, h2⟩ := mem_ids.mp hi
    have := h i h1
    simp only [okSt, Cf.st, h2, Bool.not_true, Bool.false_or, Bool.and_eq_true, Bool.not_eq_true'] at this
    refine ⟨mem_ids.mpr ⟨h1, this.1.1.1⟩, fun z => ?_, fun z => ?_⟩
    · have z2 := (mem_ids.mp z).2
      rw [this.1.1.2] at z2
      cases z2
    · have z2 := (mem_ids.mp z).2
      rw [this.1.2] at z2
      cases z2
  · obtain ⟨h1, h2⟩ := mem_ids.mp hi
    have := h i h1
    simp only [okSt, Cf.st, h2, Bool.not_true, Bool.false_or, Bool.and_eq_true, Bool.not_eq_true'] at this
    refine ⟨fun z => ?_, fun z => ?_⟩
    · have z2 := (mem_ids.mp z).2
      rw [this.2.1] at z2
      cases z2
    · have z2 := (mem_ids.mp z).2
      rw [this.2.2] at z2
      cases z2
theorem Same.sound {f g : Cf} (h : Same f g) (s : Sound g) : Sound f := by
  obtain ⟨e1, e2, e3, e4⟩ := h.ids
  exact ⟨by rw [e1, e2, e3, e4]; exact s.n, by rw [e1, e2, e3]; exact s.l, by rw [e2, h.2]; exact s.j⟩
theorem sound_set {ρ : Int → Int} : Sound (Cf.of ρ) := sound_of (fun i _ => by
  simp only [okSt, Cf.st, Cf.of]
  by_cases h : ρ i = 1
  · simp [h]
  · simp [h]) fun _ => rfl
theorem sound_jc {ρ ν : Int → Int} {au : Bool} (hv : ids (Cf.of ρ).v ≠ []) : Sound (jc ρ ν au) := sound_of (fun i _ => by
  simp only [okSt, Cf.st, jc]
  by_cases h : ν i = 1 <;> by_cases h2 : ν i = 2 <;> by_cases h3 : ρ i = 1 <;> simp_all) fun z => absurd z hv
noncomputable def upd (σ : Int → Int) (k r : Int) : Int → Int := fun i => if i = k then r else σ i
/-- one step alone -/
theorem step_upd {σ ν : Int → Int} {k : Int} (hk : k ∈ IDs) (hs : σ k = 0 ∨ σ k = 1 ∨ σ k = 2) (hn : ν k = 0 ∨ ν k = 1 ∨ ν k = 2) : Same ((Cf.of σ).steps [stp ν k]) (Cf.of (upd σ k (ν k))) := by
  refine ⟨fun i hi => ?_, steps_au⟩
  rw [steps_st (fun c hc => by rw [List.mem_singleton.mp hc]; exact hk)]
  by_cases e : k = i
  · subst e
    have : ([stp ν k] : List (Int × Int)).filter (fun c => c.2 == k) = [stp ν k] := by simp [stp]
    rw [this]
    have e2 : (Cf.of (upd σ k (ν k))).st k = (ν k == 1, false, ν k == 2, false) := by simp [Cf.st, Cf.of, upd]
    rw [e2]
    exact act_set hs hn
  · have : ([stp ν k] : List (Int × Int)).filter (fun c => c.2 == i) = [] := by simp [stp, e]
    rw [this]
    have e3 : ¬ i = k := fun z => e z.symm
    simp [Cf.st, Cf.of, upd, e3]
theorem count_two {f g : Int → Bool} : ∀ l : List Int, (l.filter fun i => f i && !g i).length + (l.filter fun i => g i && !f i).length = (l.filter fun i => f i != g i).length
  | [] => rfl
  | a :: l => by
    have := count_two (f := f) (g := g) l
    cases h1 : f a <;> cases h2 : g a <;> simp [List.filter_cons, h1, h2] <;> omega
theorem ids_out {f g : Int → Bool} : (ids f).filter (fun i => !decide (i ∈ ids g)) = IDs.filter fun i => f i && !g i := by
  unfold ids
  rw [List.filter_filter]
  refine List.filter_congr fun i hi => ?_
  have : decide (i ∈ IDs.filter g) = g i := by
    cases h : g i <;> simp [List.mem_filter, h, hi]
  rw [this, Bool.and_comm]
theorem apart_eq {f g : Int → Bool} : apart f g = (IDs.filter fun i => f i != g i).length := by
  unfold apart
  rw [ids_out, ids_out]
  exact count_two IDs
/-- the members that move and whose being a voter changes -/
noncomputable def moved (ρ ν : Int → Int) : List Int := [2, 3, 5].filter fun i => (ρ i == 1) != (ν i == 1)
theorem apart_of {ρ ν : Int → Int} (h9 : ν 9 = ρ 9) : apart (Cf.of ρ).v (Cf.of ν).v = (moved ρ ν).length := by
  rw [apart_eq]
  have : IDs = [2, 3, 5] ++ [9] := rfl
  rw [this, List.filter_append]
  have e : ([9] : List Int).filter (fun i => (Cf.of ρ).v i != (Cf.of ν).v i) = [] := by simp [Cf.of, h9]
  rw [e, List.append_nil]
  rfl
theorem apart_same {f g g' : Cf} (h : Same g g') : apart f.v g.v = apart f.v g'.v := by
  unfold apart
  rw [h.ids.1]
/-- no voter: 1 is none of the roles -/
theorem none_votes {ρ : Int → Int} : ids (Cf.of ρ).v = [] ↔ (1 : Int) ∉ [ρ 2, ρ 3, ρ 5, ρ 9] := by
  constructor
  · intro h hm
    have : ∀ i ∈ IDs, ρ i ≠ 1 := fun i hi e => by
      have : i ∈ ids (Cf.of ρ).v := mem_ids.mpr ⟨hi, by simp [Cf.of, e]⟩
      rw [h] at this
      cases this
    simp only [List.mem_cons, List.not_mem_nil, or_false] at hm
    rcases hm with e | e | e | e
    · exact this 2 (by decide) e.symm
    · exact this 3 (by decide) e.symm
    · exact this 5 (by decide) e.symm
    · exact this 9 (by decide) e.symm
  · intro h
    refine List.filter_eq_nil_iff.mpr fun i hi e => h ?_
    have e1 : ρ i = 1 := by simpa [Cf.of] using e
    rcases mem_ids4 hi with rfl | rfl | rfl | rfl <;> simp [e1]
theorem lt_off {a b c n : Nat} (h : a + n < c) (hk : b ≤ n) : a + b < c := Nat.lt_of_le_of_lt (Nat.add_le_add_left hk a) h
theorem row_open {h₀ h : Heap} {L r : Addr} {tl news : List (Addr × Obj)} {f : Cf} {P : Prop} (N : News h₀ L h (tl ++ news)) (hr : RowIn tl r f)
   (k : ∀ a1 a2 a3 a4 v1 v2 v3 v4 c c1 c2 c3 c4, News h₀ L h ((r, tupO [.ref a1, .ref a2, .ref a3, .ref a4, .bool f.au] c) :: (a1, tupO v1 c1) :: (a2, tupO v2 c2) :: (a3, tupO v3 c3) :: (a4, tupO v4 c4) :: news) → IntsAre v1 (ids f.v) → IntsAre v2 (ids f.o) → IntsAre v3 (ids f.l) → IntsAre v4 (ids f.n) → P) : P := by
  obtain ⟨c, a1, a2, a3, a4, v1, v2, v3, v4, c1, c2, c3, c4, h1, h2, h3, h4, h5, i1, i2, i3, i4⟩ := hr
  exact k _ _ _ _ _ _ _ _ _ _ _ _ _ (sub N (sc (List.mem_append_left _ h1) (sc (List.mem_append_left _ h2) (sc (List.mem_append_left _ h3) (sc (List.mem_append_left _ h4) (sc (List.mem_append_left _ h5) (fun p hp => List.mem_append_right _ hp))))))) i1 i2 i3 i4
theorem cf_open {P : Params} {h₀ h : Heap} {L x : Addr} {tl news : List (Addr × Obj)} {f : Cf} {G : Prop} (N : News h₀ L h (tl ++ news)) (hc : CfIn P tl x f)
   (k : ∀ d lv lo ll ln vv vo vl vn cv co cl' cn' t1 t2 t3 t4 t5, News h₀ L h ((x, instObj 183 d) :: (d, cfD P lv lo ll ln f.au t1 t2 t3 t4 t5) :: (lv, listO vv cv) :: (lo, listO vo co) :: (ll, listO vl cl') :: (ln, listO vn cn') :: news) → IntsAre vv (ids f.v) → IntsAre vo (ids f.o) → IntsAre vl (ids f.l) → IntsAre vn (ids f.n) → G) : G := by
  obtain ⟨d, lv, lo, ll, ln, vv, vo, vl, vn, cv, co, cl', cn', t1, t2, t3, t4, t5, h1, h2, h3, h4, h5, h6, i1, i2, i3, i4⟩ := hc
  exact k _ _ _ _ _ _ _ _ _ _ _ _ _ _ _ _ _ _ (sub N (sc (List.mem_append_left _ h1) (sc (List.mem_append_left _ h2) (sc (List.mem_append_left _ h3) (sc (List.mem_append_left _ h4) (sc (List.mem_append_left _ h5) (sc (List.mem_append_left _ h6) (fun p hp => List.mem_append_right _ hp)))))))) i1 i2 i3 i4
section
variable {prog : Program} {w : World} {A : Around} {E : Value → Shared → Prop} {s : Shared} {h₀ : Heap} {L l : Addr} {m : Str → Option Value} {news : List (Addr × Obj)} {vs : List Value} {n : Nat} {Q : Value → Shared → Prop}
theorem cw_pair {M : Model} {p : Pos} {f : Value} {l : List Value} {a : List (Bool × Sem Value)} {b : List (Option Str × Sem Value)} {Q' : Value → Shared → Prop} (h : wpAny M A (callWith p f l a b) Q' E s) : wpAny M A (callWith p (f, l).1 (f, l).2 a b) Q' E s := h
theorem item_lit {value slice : Expr} {ns : List Int} {k x : Int} {u : Tok} (N : News h₀ L s.heap news) (hm : (l, listO vs n) ∈ news) (hi : IntsAre vs ns) (h0 : 0 ≤ k) (hf : k < 2 ^ 63) (hx : ns[k.toNat]? = some x) (h : ∀ t, Q (.int x t) s)
    (hs : subscripted slice false (.ref l) (.int k u) = operate [.ref l, .int k u] (getItem (.ref l) (.int k u)) := by with_unfolding_all rfl) : wpAny (model prog w) A (subscriptTail value slice (.ref l) (.int k u)) Q E s := by
  have hlt : k.toNat < ns.length := by
    have := (List.getElem?_eq_some_iff.mp hx).1
    exact this
  refine item_anyK (News.isList N hm) hi h0 (by omega) hf (fun t => ?_) hs
  have : ns.getD k.toNat 0 = x := by rw [List.getD_eq_getElem?_getD, hx]; rfl
  rw [this]
  exact h t
theorem item_step {value slice : Expr} {k : Int} {u : Tok} (N : News h₀ L s.heap news) (hm : (l, listO vs n) ∈ news) (hi : IntsAre vs [1, 0, 3]) (h0 : 0 ≤ k) (h1 : k < 3) (h : ∀ t, Q (.int (stepOf k) t) s)
    (hs : subscripted slice false (.ref l) (.int k u) = operate [.ref l, .int k u] (getItem (.ref l) (.int k u)) := by with_unfolding_all rfl) : wpAny (model prog w) A (subscriptTail value slice (.ref l) (.int k u)) Q E s :=
  item_anyK (News.isList N hm) hi h0 (by simpa using h1) (by omega) (fun t => h t) hs
theorem item_mem {value slice : Expr} {k : Int} {u : Tok} (N : News h₀ L s.heap news) (hm : (l, listO vs n) ∈ news) (h0 : 0 ≤ k) (h1 : k < vs.length) (hf : k < 2 ^ 63) (h : ∀ v ∈ vs, Q v s)
    (hs : subscripted slice false (.ref l) (.int k u) = operate [.ref l, .int k u] (getItem (.ref l) (.int k u)) := by with_unfolding_all rfl) : wpAny (model prog w) A (subscriptTail value slice (.ref l) (.int k u)) Q E s := by
  have hlt : k.toNat < vs.length := by omega
  exact item_litK (News.isList N hm) h0 hf (List.getElem?_eq_getElem hlt) (h _ (List.getElem_mem hlt)) hs
theorem rows_eqT {a b : Addr} {f g : Cf} (N : News h₀ L s.heap news) (ha : RowIn news a f) (hb : RowIn news b g) (hs : sameRow f g = true) (hu : A.units + 64 < cLine) (h : Q (.bool true) s) : wpAny (model prog w) A (compareOp .Eq (.ref a) (.ref b)) Q E s := rows_eq N ha hb hu (by rw [hs]; exact h)
theorem rows_neF {a b : Addr} {f g : Cf} (N : News h₀ L s.heap news) (ha : RowIn news a f) (hb : RowIn news b g) (hs : sameRow f g = true) (hu : A.units + 64 < cLine) (h : Q (.bool false) s) : wpAny (model prog w) A (compareOp .NotEq (.ref a) (.ref b)) Q E s := rows_ne N ha hb hu (by rw [hs]; exact h)
theorem add_any {a b : Addr} {ws : List Value} {n' : Nat} (F : Fr h₀ L s.heap m) (N : News h₀ L s.heap news) (ha : (a, listO vs n) ∈ news) (hb : (b, listO ws n') ∈ news)
    (hz : vs.length + ws.length ≤ sizeLine)
    (h : ∀ D h', Fr h₀ L h' m → News h₀ L h' ((D, listO (vs ++ ws) 0) :: news) → (∀ p ∈ news, p.1 < D) → Q (.ref D) { s with heap := h' }) : wpAny (model prog w) A (binaryOp .Add (.ref a) (.ref b)) Q E s :=
  kmk_add_lit F N (News.isList N ha) (News.isList N hb) rfl h (by simpa using hz)
end
theorem turn_end {h₀ : Heap} {L I C D a : Addr} {m : Str → Option Value} {s₁ : Shared} {oI oC oD o : Obj} {S : List (Addr × Obj) → Prop} {rest : Value → List (Addr × Obj) → Prop} {h' : Heap} {tk : Nat} {all news : List (Addr × Obj)}
    (off : LCg.Off3 I C D news) (F : Fr h₀ L h' m) (N : News h₀ L h' all) (hm : (a, o) ∈ all) (hs : ∀ p ∈ (I, oI) :: (C, oC) :: (D, oD) :: news, p ∈ all) (ne : a ≠ I ∧ a ≠ C ∧ a ≠ D) (hS : S ((a, o) :: news)) (r : rest (.ref a) ((a, o) :: news)) :
    LCg.CompEnd h₀ L m s₁ I oI C oC D oD S rest (.ref a) { s₁ with heap := h', toks := tk } := LCg.CompEnd.intro F N ((a, o) :: news) (fun p hp => by
      rcases List.mem_cons.mp hp with rfl | hp
      · exact hs _ (.head _)
      · rcases List.mem_cons.mp hp with rfl | hp
        · exact hs _ (.tail _ (.head _))
        · rcases List.mem_cons.mp hp with rfl | hp
          · exact hs _ (.tail _ (.tail _ (.head _)))
          · rcases List.mem_cons.mp hp with rfl | hp
            · exact hm
            · exact hs _ (.tail _ (.tail _ (.tail _ hp)))) ⟨ne, off⟩ hS r
/-- the ledger bears the steps -/
inductive StepsIn (news : List (Addr × Obj)) : List Value → List (Int × Int) → Prop
  | nil : StepsIn news [] []
  | cons {a : Addr} {k n : Int} {t1 t2 : Tok} {c : Nat} {vs : List Value} {cs : List (Int × Int)} : (a, tupO [.int k t1, .int n t2] c) ∈ news → StepsIn news vs cs → StepsIn news (.ref a :: vs) ((k, n) :: cs)
theorem StepsIn.mono {news news' : List (Addr × Obj)} {vs : List Value} {cs : List (Int × Int)} (x : StepsIn news vs cs) (hs : ∀ p ∈ news, p ∈ news') : StepsIn news' vs cs := by
  induction x with
  | nil => exact .nil
  | cons hm _ ih => exact .cons (hs _ hm) ih
theorem StepsIn.at {h₀ h : Heap} {L : Addr} {news : List (Addr × Obj)} {vs : List Value} {cs : List (Int × Int)} (N : News h₀ L h news) (x : StepsIn news vs cs) : StepsAt h vs cs := by
  induction x with
  | nil => exact .nil
  | cons hm _ ih => exact .cons (News.isTup N hm) ih
theorem StepsAt.append {h : Heap} {vs ws : List Value} {cs ds : List (Int × Int)} (x : StepsAt h vs cs) (y : StepsAt h ws ds) : StepsAt h (vs ++ ws) (cs ++ ds) := by
  induction x with
  | nil => exact y
  | cons hm _ ih => exact .cons hm ih
theorem StepsAt.turn {fs : List Addr} {g g' : Heap} {vs : List Value} {cs : List (Int × Int)} (x : StepsAt g vs cs) (T : KtsTurn fs g g') : StepsAt g' vs cs := by
  induction x with
  | nil => exact .nil
  | cons hm _ ih =>
    obtain ⟨o, ho, hc, r⟩ := hm
    obtain ⟨sl, h2⟩ := T.up ho
    exact .cons ⟨_, h2, hc, r⟩ ih
section
variable {prog : Program} {w : World} {A : Around} {E : Value → Shared → Prop} {s : Shared} {env : Env} {target : Expr} {body : List Stmt} {Q : Flow → Shared → Prop}
theorem letGo_int {I : Value} {k : Int} {t : Tok} {Q' : Unit → Shared → Prop} {s' : Shared} (h : Q' () s') : wpAny (model prog w) A (letOwnedTupleGo target I (.int k t)) Q' E s' := by
  unfold letOwnedTupleGo
  cases target <;> first | exact wpAny_pure h | (cases I <;> exact wpAny_pure h)
inductive REnd (L : Addr) (Inv : Heap → (Str → Option Value) → List (Addr × Obj) → Prop) (I : Addr) (o : Obj) (s₁ s₂ : Shared) : Prop
  | mk (g' h' : Heap) (tk : Nat) (m' : Str → Option Value) (nx' : List (Addr × Obj)) (e : s₂ = { s₁ with heap := h', toks := tk }) (F : Fr g' L h' m') (N : News g' L h' ((I, o) :: nx')) (off : ∀ p ∈ nx', p.1 ≠ I) (i : Inv g' m' nx')
noncomputable def RPost (L : Addr) (Inv : Heap → (Str → Option Value) → List (Addr × Obj) → Prop) (I : Addr) (o : Obj) (s₁ : Shared) (Q : Flow → Shared → Prop) (f : Flow) (s₂ : Shared) : Prop :=
  match f with
  | .ret v => Q (.ret v) s₂
  | .brk => Q .next s₂
  | _ => REnd L Inv I o s₁ s₂
inductive RInv (s : Shared) (L : Addr) (n : Nat) (Inv : Nat → Heap → (Str → Option Value) → List (Addr × Obj) → Prop) (k : Nat) (s' : Shared) : Prop
  | mk (g h' : Heap) (tk : Nat) (m : Str → Option Value) (nx : List (Addr × Obj)) (i : Nat) (it : Obj) (e : s' = { s with heap := h', toks := tk }) (hi : i ≤ n) (hk : k = n + 1 - i) (hit : IsRangeIter h' s.heap.objs.size (0 + (i : Nat) * 1) ((n : Int) - (i : Nat)) 1) (hc : it.cls = .type "range_iterator") (F : Fr g L h' m) (N : News g L h' ((s.heap.objs.size, it) :: nx))
    (off : ∀ p ∈ nx, p.1 ≠ s.heap.objs.size) (hI : Inv i g m nx)
/-- a loop over range(n) whose turns may change the ground -/
theorem for_r {r : Addr} {n : Nat} {b₀ : Int} {t₀ u₀ v₀ : Tok} {g₀ : Heap} {m₀ : Str → Option Value} {news : List (Addr × Obj)} (Inv : Nat → Heap → (Str → Option Value) → List (Addr × Obj) → Prop)
    (hh : A.handled = none) (hr : IsRange s.heap r 0 b₀ 1 t₀ u₀ v₀) (hsmall : Builtin.Range.small 0 b₀ 1 = true) (hn : Builtin.Range.rangeSize 0 b₀ 1 = (n : Int)) (F : Fr g₀ env.locals s.heap m₀) (N : News g₀ env.locals s.heap news) (h0 : Inv 0 g₀ m₀ news)
    (turn : ∀ i g I t m nx h tk o, i < n → o.cls = .type "range_iterator" → Inv i g m nx → Fr g env.locals h m → News g env.locals h ((I, o) :: nx) → (∀ p ∈ nx, p.1 ≠ I) →
      wpAny (model prog w) A (assign target env (.int (i : Int) t)) (fun _ s₂ => wpAny (model prog w) A (execs body env) (RPost env.locals (Inv (i + 1)) I o { s with heap := h, toks := tk } Q) E s₂) E { s with heap := h, toks := tk })
    (done : ∀ g m nx h tk, Inv n g m nx → Fr g env.locals h m → News g env.locals h nx → Q .next { s with heap := h, toks := tk })
    (hE : PassesOwn (model prog w) A env E := by passes_own) :
    wpAny (model prog w) A (pyIter (.ref r)) (fun it s₂ => TurnsG prog w A env target body Q E it s₂) E s := by
  refine wpAny_pyIter_range hr hsmall ?_
  unfold TurnsG
  have W := Walks.range (prog := prog) (w := w) hh s.heap.objs.size 0 1 n
  refine codeAny_forLoop_any (R := fun r s' => match r with | .ok f => Q f s' | .error e => cameBackBy (model prog w) A env E e s')
    (RInv s env.locals n Inv) ?_ (n + 1) ?_
  · rintro k s' ⟨g, h', tk, m, nx, i, it, rfl, hi, rfl, hst, hit, Fg, Ng, hoff, hI⟩
    by_cases hlt : i < n
    · refine W.item i _ _ _ hlt hst fun v h₁ tk₁ hv hst₁ hk₁ => ?_
      obtain ⟨t, rfl⟩ := hv
      refine letGo_int ?_
      have o₁ := hst₁
      have nI := Ng _ (.head _)
      have F₁ : Fr g env.locals h₁ m := ⟨Fg.ns.at' fun o e => hk₁ _ o (by simpa using Ne.symm nI.2.1) e, fun b o e => hk₁ b o (by
        intro hb
        have hb' : b = s.heap.objs.size := by simpa using hb
        rw [hb', nI.2.2] at e
        cases e) (Fg.keep b o e), Fg.above⟩
      obtain ⟨oI, hoI, hoc⟩ : ∃ oI, h₁.get? s.heap.objs.size = some oI ∧ oI.cls = .type "range_iterator" := ⟨_, o₁, rfl⟩
      have N₁ : News g env.locals h₁ ((s.heap.objs.size, oI) :: nx) := fun p hp => by
        rcases List.mem_cons.mp hp with rfl | hp
        · exact ⟨hoI, nI.2⟩
        · exact ⟨hk₁ _ _ (by simpa using hoff p hp) (Ng p (.tail _ hp)).1, (Ng p (.tail _ hp)).2⟩
      have T := turn i g _ t m nx h₁ tk₁ oI hlt hoc hI F₁ N₁ hoff
      have ei : (0 : Int) + (i : Int) * 1 = (i : Int) := by omega
      rw [ei]
      refine wpAny_mono T (fun _ s₂ x => ?_) hE
      refine wpAny_mono (wpAny_passesOwn hE x) (fun f s₃ h₃ => ?_) fun _ _ e => e
      have up : REnd env.locals (Inv (i + 1)) s.heap.objs.size oI { s with heap := h₁, toks := tk₁ } s₃ → ∃ k', k' < n + 1 - i ∧ RInv s env.locals n Inv k' s₃ := by
        rintro ⟨g', h₄, tk₄, m₄, nx₄, rfl, F₄, N₄, off₄, I₄⟩
        have hold : IsRangeIter h₄ s.heap.objs.size (0 + ((i + 1 : Nat) : Int) * 1) ((n : Int) - ((i + 1 : Nat) : Int)) 1 := by
          have h4 := (N₄ _ (.head _)).1
          have e4 : some oI = _ := hoI.symm.trans hst₁
          unfold IsRangeIter
          rw [h4, e4]
        exact ⟨n + 1 - (i + 1), by omega, g', h₄, tk₄, m₄, nx₄, i + 1, oI, rfl, hlt, rfl, hold, hoc, F₄, N₄, off₄, I₄⟩
      cases f with
      | ret v => exact h₃
      | brk => exact h₃
      | next => exact up h₃
      | cont => exact up h₃
    · have hin : i = n := by omega
      subst hin
      refine W.done _ _ _ hst fun h₁ tk₁ hk₁ => wpAny_execs_nil ?_
      have nI := Ng _ (.head _)
      refine done g m nx h₁ tk₁ hI ⟨Fg.ns.at' fun o e => hk₁ _ o (by simpa using Ne.symm nI.2.1) e, fun b o e => hk₁ b o (by
        intro hb
        have hb' : b = s.heap.objs.size := by simpa using hb
        rw [hb', nI.2.2] at e
        cases e) (Fg.keep b o e), Fg.above⟩ fun p hp => ⟨hk₁ _ _ (by simpa using hoff p hp) (Ng p (.tail _ hp)).1, (Ng p (.tail _ hp)).2⟩
  · refine ⟨g₀, _, _, m₀, news, 0, _, rfl, Nat.zero_le _, rfl, ?_, rfl, F.push _, News.push F N _, fun p hp => Nat.ne_of_lt (Heap.lt_size (N p hp).1), h0⟩
    have := Heap.get?_push_size s.heap (o := { cls := .type "range_iterator", data := .fields #[rawInt 0, rawInt (Builtin.Range.rangeSize 0 b₀ 1), rawInt 1] }) rfl
    unfold IsRangeIter
    rw [this, hn]
    simp
end
/-- a map of names where some are known -/
noncomputable def ovr : List (Str × Value) → (Str → Option Value) → Str → Option Value
  | [], m, z => m z
  | (a, v) :: l, m, z => if z = a then some v else ovr l m z
theorem frame_ovr {m : Str → Option Value} : ∀ {l : List (Str × Value)}, (∀ q ∈ l, m q.1 = some q.2) → m = ovr l m
  | [], _ => rfl
  | (a, v) :: l, h => by
    funext z
    show m z = if z = a then some v else ovr l m z
    by_cases e : z = a
    · rw [if_pos e, e, h _ (.head _)]
    · rw [if_neg e, ← frame_ovr fun q hq => h q (.tail _ hq)]
theorem fr_ovr {g h : Heap} {L : Addr} {m : Str → Option Value} {l : List (Str × Value)} (hfr : ∀ q ∈ l, m q.1 = some q.2) (F : Fr g L h m) : Fr g L h (ovr l m) := by rw [← frame_ovr hfr]; exact F
theorem fr_cons {m : Str → Option Value} {a : Str} {v : Value} {l : List (Str × Value)} (h : m a = some v) (t : ∀ q ∈ l, m q.1 = some q.2) : ∀ q ∈ (a, v) :: l, m q.1 = some q.2 := fun q hq => by
  rcases List.mem_cons.mp hq with rfl | hq
  · exact h
  · exact t q hq
/-- the ground's standing, told of every ground that a catch may turn it to -/
theorem good_pack {K : Frag} {p : Program} {loose : List Str} {mean : ExcName → Option Value} {mg mb : Str → Option Value} {A : Around} {base g₀ : Heap} {envs : List Env} {vs : List Value} {cs : List (Int × Int)}
    (B : Below A base envs g₀) (X : K.In g₀) (T : Top p loose mean mg mb g₀) (D : KtsDicts (envs.filterMap (·.frame)) g₀) (S : StepsAt g₀ vs cs) : ∃ GG : Heap → Prop, GG g₀ ∧
      (∀ g, GG g → KtsTurn (envs.filterMap (·.frame)) g₀ g ∧ Below A base envs g ∧ K.In g ∧ Top p loose mean mg mb g ∧ KtsDicts (envs.filterMap (·.frame)) g ∧ StepsAt g vs cs) ∧
      (∀ g, KtsTurn (envs.filterMap (·.frame)) g₀ g → Below A base envs g → K.In g → Top p loose mean mg mb g → KtsDicts (envs.filterMap (·.frame)) g → GG g) :=
  ⟨fun g => KtsTurn (envs.filterMap (·.frame)) g₀ g ∧ Below A base envs g ∧ K.In g ∧ Top p loose mean mg mb g ∧ KtsDicts (envs.filterMap (·.frame)) g ∧ StepsAt g vs cs, ⟨KtsTurn.refl, B, X, T, D, S⟩, fun _ h => h, fun _ a b c d e => ⟨a, b, c, d, e, S.turn a⟩⟩
theorem off_iter {h₀ h : Heap} {L I : Addr} {o : Obj} {news nx : List (Addr × Obj)} (N : News h₀ L h news) (hI : (I, o) ∈ news) (ho : o.cls = .type "list_iterator") (hs : ∀ p ∈ nx, p ∈ news) (hc : ∀ p ∈ nx, p.2.cls ≠ .type "list_iterator") : ∀ p ∈ nx, p.1 ≠ I := fun p hp e => by
  have := news_same N (hs p hp) hI e
  subst this
  exact hc _ hp ho
noncomputable def GP (p : Int → Bool) : List Int → Int → List Int := GF (fun k => p (idAt k)) idAt
theorem gp_yes {p : Int → Bool} {k : Int} {l : List Int} (h : p (idAt k) = true) : GP p l k = l ++ [idAt k] := by
  unfold GP GF
  rw [if_pos h]
theorem gp_no {p : Int → Bool} {k : Int} {l : List Int} (h : p (idAt k) = false) : GP p l k = l := by
  unfold GP GF
  rw [if_neg (by show ¬ p (idAt k) = true; rw [h]; decide)]
noncomputable def apT (ρ ν : Int → Int) (k : Int) : Bool := (ρ (idAt k) == 1) != (ν (idAt k) == 1)
theorem ap_yes {ρ ν : Int → Int} {k : Int} {l : List Int} (h : apT ρ ν k = true) : GF (apT ρ ν) (fun k => k) l k = l ++ [k] := by
  unfold GF
  rw [if_pos h]
theorem ap_no {ρ ν : Int → Int} {k : Int} {l : List Int} (h : apT ρ ν k = false) : GF (apT ρ ν) (fun k => k) l k = l := by
  unfold GF
  rw [if_neg (by rw [h]; decide)]
theorem ap_len (ρ ν : Int → Int) : ((rangeKs 0 3).foldl (GF (apT ρ ν) fun k => k) []).length = (moved ρ ν).length := by
  have e : rangeKs 0 3 = [0, 1, 2] := by decide
  rw [e]
  have h0 : apT ρ ν 0 = ((ρ 2 == 1) != (ν 2 == 1)) := rfl
  have h1 : apT ρ ν 1 = ((ρ 3 == 1) != (ν 3 == 1)) := rfl
  have h2 : apT ρ ν 2 = ((ρ 5 == 1) != (ν 5 == 1)) := rfl
  cases q0 : apT ρ ν 0 <;> cases q1 : apT ρ ν 1 <;> cases q2 : apT ρ ν 2 <;> (rw [q0] at h0; rw [q1] at h1; rw [q2] at h2; simp [GF, moved, q0, q1, q2, ← h0, ← h1, ← h2])
theorem ap_pack {ρ ν : Int → Int} {ya : List Value} (h : IntsAre ya ((rangeKs 0 3).foldl (GF (apT ρ ν) fun k => k) [])) : ∃ ap, IntsAre ya ap ∧ ap.length = (moved ρ ν).length ∧ ap.length < 9223372036854775808 :=
  ⟨_, h, ap_len ρ ν, by rw [ap_len]; exact Nat.lt_of_le_of_lt (List.length_filter_le _ _) (by decide)⟩
theorem jr1 {ρ ν : Int → Int} {i : Int} (h : ν i = 2) (h2 : ρ i ≠ 1) : (ν i == 2 && ρ i != 1) = true := by simp [h, h2]
theorem jr2 {ρ ν : Int → Int} {i : Int} (h : ν i ≠ 2) : (ν i == 2 && ρ i != 1) = false := by simp [h]
theorem jr3 {ρ ν : Int → Int} {i : Int} (h : ρ i = 1) : (ν i == 2 && ρ i != 1) = false := by simp [h]
theorem jr4 {ρ ν : Int → Int} {i : Int} (h : ν i = 2) (h2 : ρ i = 1) : (ν i == 2 && ρ i == 1) = true := by simp [h, h2]
theorem jr5 {ρ ν : Int → Int} {i : Int} (h : ν i ≠ 2) : (ν i == 2 && ρ i == 1) = false := by simp [h]
theorem jr6 {ρ ν : Int → Int} {i : Int} (h : ρ i ≠ 1) : (ν i == 2 && ρ i == 1) = false := by simp [h]
section
variable {w : World} {mean : ExcName → Option Value} {mg mb : Str → Option Value}
   {dp un : Nat} {gd : Option (List Code)} {cn : Str} {nm : List (Str × NameKind)} {ig ic : Bool} {mo : List (Str × Const)} {a : Addr} {ccd : Value} {cl : List (Str × Addr)} {outer : List Env} {A₀ : Around} {base h₀ : Heap} {L : Addr} {m : Str → Option Value} {s : Shared} {Q E : Value → Shared → Prop} {news : List (Addr × Obj)}
variable {sf ds b cx : Addr} {f fg : Cf} {tb : Tok} {cvs : List Value} {nc : Nat} {cs : List (Int × Int)} {au : Bool}
theorem enter_ok (H : At 40 w mean mg mb A₀ base h₀ outer L m s news dp un) (hsf : (sf, instObj 279 ds) ∈ news) (hds : (ds, chD w.params b tb) ∈ news) (hc : CfIn w.params news b f) (hs : Sound f) (hv : ids f.v ≠ [])
   (hcx : (cx, listO cvs nc) ∈ news) (hst : StepsAt s.heap cvs cs) (hcs : ∀ c ∈ cs, GoodC c) (hs2 : Sound (f.enter au cs)) (hg : ids f.o = [] ∧ ids (f.enter au cs).v ≠ []) (hm : Same (f.enter au cs) fg)
   (ret : ∀ r tl h' tk', Fr h₀ L h' m → News h₀ L h' (tl ++ news) → CfIn w.params tl r fg → Q (.ref r) { s with heap := h', toks := tk' }) :
   CallA w dp un gd cn nm ig ic mo L a ccd cl outer 227 [.ref sf, .bool au, .ref cx] Q E s :=
  enter_joint_spec H hsf hds hc hs hv hcx hst hcs hs2 (fun _ _ r tl h' tk' F N c => ret r tl h' tk' F N (hm.cf c)) (fun z => (z.elim (fun y => absurd hg.1 y) fun y => absurd y hg.2))
theorem enter_bad (H : At 40 w mean mg mb A₀ base h₀ outer L m s news dp un) (hsf : (sf, instObj 279 ds) ∈ news) (hds : (ds, chD w.params b tb) ∈ news) (hc : CfIn w.params news b f) (hs : Sound f) (hv : ids f.v ≠ [])
   (hcx : (cx, listO cvs nc) ∈ news) (hst : StepsAt s.heap cvs cs) (hcs : ∀ c ∈ cs, GoodC c) (hs2 : Sound (f.enter au cs)) (hb : ids f.o ≠ [] ∨ ids (f.enter au cs).v = [])
   (err : ∀ e t vs G h' tk', Fr h₀ L G m → RaisedS base G (envX cn (ScF nm ig ic mo) L a ccd cl :: outer) e (.ref 56) t vs news h' → G.UpToSlots h' → E (.ref e) { s with heap := h', toks := tk' }) :
   CallA w dp un gd cn nm ig ic mo L a ccd cl outer 227 [.ref sf, .bool au, .ref cx] Q E s :=
  enter_joint_spec H hsf hds hc hs hv hcx hst hcs hs2 (fun y z => (hb.elim (fun x => absurd y x) fun x => absurd x z)) (fun _ => err)
theorem simple_ok (H : At 40 w mean mg mb A₀ base h₀ outer L m s news dp un) (hsf : (sf, instObj 279 ds) ∈ news) (hds : (ds, chD w.params b tb) ∈ news) (hc : CfIn w.params news b f) (hs : Sound f) (hv : ids f.v ≠ [])
   (hcx : (cx, listO cvs nc) ∈ news) (hst : StepsAt s.heap cvs cs) (hcs : ∀ c ∈ cs, GoodC c) (hs2 : Sound (f.steps cs)) (hg : ids f.o = [] ∧ ids (f.steps cs).v ≠ [] ∧ ¬ 1 < (apart f.v (f.steps cs).v : Int)) (hm : Same (f.steps cs) fg)
   (ret : ∀ r tl h' tk', Fr h₀ L h' m → News h₀ L h' (tl ++ news) → CfIn w.params tl r fg → Q (.ref r) { s with heap := h', toks := tk' }) :
   CallA w dp un gd cn nm ig ic mo L a ccd cl outer 241 [.ref sf, .ref cx] Q E s :=
  simple_spec H hsf hds hc hs hv hcx hst hcs hs2 (fun _ _ _ r tl h' tk' F N c => ret r tl h' tk' F N (hm.cf c)) (fun z => (z.elim (fun y => absurd hg.1 y) fun y => y.elim (fun y => absurd y hg.2.1) fun y => absurd y hg.2.2))
theorem simple_bad (H : At 40 w mean mg mb A₀ base h₀ outer L m s news dp un) (hsf : (sf, instObj 279 ds) ∈ news) (hds : (ds, chD w.params b tb) ∈ news) (hc : CfIn w.params news b f) (hs : Sound f) (hv : ids f.v ≠ [])
   (hcx : (cx, listO cvs nc) ∈ news) (hst : StepsAt s.heap cvs cs) (hcs : ∀ c ∈ cs, GoodC c) (hs2 : Sound (f.steps cs)) (hb : ids f.o ≠ [] ∨ ids (f.steps cs).v = [] ∨ 1 < (apart f.v (f.steps cs).v : Int))
   (err : ∀ e t vs G h' tk', Fr h₀ L G m → RaisedS base G (envX cn (ScF nm ig ic mo) L a ccd cl :: outer) e (.ref 56) t vs news h' → G.UpToSlots h' → E (.ref e) { s with heap := h', toks := tk' }) :
   CallA w dp un gd cn nm ig ic mo L a ccd cl outer 241 [.ref sf, .ref cx] Q E s :=
  simple_spec H hsf hds hc hs hv hcx hst hcs hs2 (fun x y z => (hb.elim (fun v => absurd x v) fun v => v.elim (fun v => absurd v y) fun v => absurd v z)) (fun _ => err)
theorem eb_mk {f : Cf} {cs : List (Int × Int)} (h : ids (f.steps cs).v = []) : ids (Cf.mk f.v f.o f.l f.n f.au).o ≠ [] ∨ ids ((Cf.mk f.v f.o f.l f.n f.au).steps cs).v = [] ∨ 1 < (apart (Cf.mk f.v f.o f.l f.n f.au).v ((Cf.mk f.v f.o f.l f.n f.au).steps cs).v : Int) := .inr (.inl h)
theorem eg_mk {f : Cf} {cs : List (Int × Int)} (h0 : ids f.o = []) (h1 : ids (f.steps cs).v ≠ []) (h2 : ¬ 1 < (apart f.v (f.steps cs).v : Int)) : ids (Cf.mk f.v f.o f.l f.n f.au).o = [] ∧ ids ((Cf.mk f.v f.o f.l f.n f.au).steps cs).v ≠ [] ∧ ¬ 1 < (apart (Cf.mk f.v f.o f.l f.n f.au).v ((Cf.mk f.v f.o f.l f.n f.au).steps cs).v : Int) := ⟨h0, h1, h2⟩
theorem leave_ok (H : At 32 w mean mg mb A₀ base h₀ outer L m s news dp un) (hsf : (sf, instObj 279 ds) ∈ news) (hds : (ds, chD w.params b tb) ∈ news) (hc : CfIn w.params news b f) (hs : Sound f) (hv : ids f.v ≠ []) (hs2 : Sound f.leave) (hg : ids f.o ≠ []) (hm : Same f.leave fg)
   (ret : ∀ r tl h' tk', Fr h₀ L h' m → News h₀ L h' (tl ++ news) → CfIn w.params tl r fg → Q (.ref r) { s with heap := h', toks := tk' }) :
   CallA w dp un gd cn nm ig ic mo L a ccd cl outer 234 [.ref sf] Q E s :=
  leave_joint_spec H hsf hds hc hs hv hs2 (fun _ r tl h' tk' F N c => ret r tl h' tk' F N (hm.cf c)) (fun z => absurd z hg)
end
theorem words_wayk_1 : True := by
  k_with "lib k_room" => ((try simp only [depth_mark, depth_under_make, depth_under_kw, depth_in1, depth_deeper, depth_caller]); (try dsimp only [ktrTop]); (try simp only [Nat.add_assoc, Nat.reduceAdd]); exact lt_off (by k_asm) (by decide))
  k_with "lib k_in" => (with_reducible refine' Frag.In.keeps ?kinXqeb991f (Fr.keep ?kinFqeb991f); (case kinFqeb991f => with_reducible assumption); (case kinXqeb991f => with_reducible assumption))
  k_with "lib k_in" => k_in_fast
  k_with "my units" => ((try simp only [units_in1, units_deeper, units_under_make, Around.mark_units, units_caller]); (try dsimp only [ktrTop]); (try simp only [Nat.add_assoc, Nat.reduceAdd]); exact lt_off (by k_asm) (by decide))
  k_with "eval Tuple" => ((with_reducible rename Flag "my tuple" => hz9); refine Tuple_ ?_)
  k_with "callWith ref" => (k_here; (with_reducible refine cw_pair ?_); (with_reducible show wpAny _ _ (callWith _ (Value.ref _) _ (backTo _ (starEach [] _)) []) _ _ _); k_dflt (refine' callWith_K0 ?k1q971d30 ?k2q971d30 ?_; (case k1q971d30 => k_in); (case k2q971d30 => k_is); k_whole); (try dsimp only [List.nil_append, List.cons_append]))
  k_with "subscriptTail" => (k_here; (with_reducible show wpAny _ _ (subscriptTail _ _ (Value.ref 333) (Value.int _ _)) _ _ _); k_dflt (refine' item_litK (listIn ?kxq51e6ed ?kfq51e6ed ?koq51e6ed) ?k2q51e6ed ?k3q51e6ed ?k4q51e6ed ?_ ?k6q51e6ed; (case kxq51e6ed => k_asm); (case kfq51e6ed => k_asm); (case koq51e6ed => k_is); (case k2q51e6ed => decide); (case k3q51e6ed => decide); (case k4q51e6ed => exact rfl); (case k6q51e6ed => with_unfolding_all rfl); k_whole))
  k_with "subscriptTail Name Name ref int" => (k_here; (with_reducible show wpAny _ _ (subscriptTail _ _ (Value.ref 333) (Value.int _ _)) _ _ _); k_dflt (refine' item_litK (listIn ?kxq51e6ed ?kfq51e6ed ?koq51e6ed) ?k2q51e6ed ?k3q51e6ed ?k4q51e6ed ?_ ?k6q51e6ed; (case kxq51e6ed => k_asm); (case kfq51e6ed => k_asm); (case koq51e6ed => k_is); (case k2q51e6ed => decide); (case k3q51e6ed => decide); (case k4q51e6ed => exact rfl); (case k6q51e6ed => with_unfolding_all rfl); k_whole))
  k_with "callWith ref" => (k_here; (with_reducible show wpAny _ _ (callWith _ (Value.ref _) _ (backTo _ (starEach [] _)) []) _ _ _); k_dflt (refine' callWith_K0 ?k1q039c9f ?k2q039c9f ?_; (case k1q039c9f => k_in); (case k2q039c9f => k_is); k_whole))
  k_with "subscriptTail" => (k_here; (with_reducible show wpAny _ _ (subscriptTail _ _ (Value.ref _) (Value.int _ _)) _ _ _); k_dflt (refine' item_lit ?k1q9f9365 ?k2q9f9365 ?k3q9f9365 ?k4q9f9365 ?k6q9f9365 ?k7q9f9365 ?_ ?k8q9f9365; (case k1q9f9365 => k_asm); (case k2q9f9365 => k_extra "mem"); (case k3q9f9365 => k_asm); (case k4q9f9365 => decide); (case k6q9f9365 => decide); (case k7q9f9365 => exact rfl); (case k8q9f9365 => with_unfolding_all rfl); k_whole); intro t'9)
  k_with "subscriptTail Name Name ref int" => (k_here; (with_reducible show wpAny _ _ (subscriptTail _ _ (Value.ref _) (Value.int _ _)) _ _ _); k_dflt (refine' item_lit ?k1q9f9365 ?k2q9f9365 ?k3q9f9365 ?k4q9f9365 ?k6q9f9365 ?k7q9f9365 ?_ ?k8q9f9365; (case k1q9f9365 => k_asm); (case k2q9f9365 => k_extra "mem"); (case k3q9f9365 => k_asm); (case k4q9f9365 => decide); (case k6q9f9365 => decide); (case k7q9f9365 => exact rfl); (case k8q9f9365 => with_unfolding_all rfl); k_whole); intro t'9)
  k_with "subscriptTail" => (k_here; (with_reducible show wpAny _ _ (subscriptTail _ _ (Value.ref _) (Value.int _ _)) _ _ _); k_dflt (refine' item_step ?k1q3ab962 ?k2q3ab962 ?k3q3ab962 ?k4q3ab962 ?k5q3ab962 ?_ ?k8q3ab962; (case k1q3ab962 => k_asm); (case k2q3ab962 => k_extra "mem"); (case k3q3ab962 => k_asm); (case k4q3ab962 => k_asm); (case k5q3ab962 => k_asm); (case k8q3ab962 => with_unfolding_all rfl); k_whole); intro t'9)
  k_with "call ref" => (k_here; (with_reducible show wpAny _ _ (call (Value.ref 341) _) _ _ _); k_dflt (refine' steps_spec ⟨?Bqat, ?Fqat, ?Xqat, ?Nqat, ?Tqat, ?dqat, ?uqat⟩ ?_; walk_at "my at"; k_whole); intro r'9 vs'9 h'9 tk'9 n'9 F'9 N'9 l19 i'9; walk_at "my off in"; (try k_sweep); (try dsimp only))
  k_with "my roles" => assumption
  k_with "my row in" => (intro a1'9 a2'9 a3'9 a4'9 v1'9 v2'9 v3'9 v4'9 c'9 c1'9 c2'9 c3'9 c4'9 N2'9 i1'9 i2'9 i3'9 i4'9; (try dsimp only [Cf.of] at N2'9 i1'9 i2'9 i3'9 i4'9); (try k_sweep); (try dsimp only))
  k_with "call ref" => (k_here; (with_reducible show wpAny _ _ (call (Value.ref 367) _) _ _ _); k_dflt (refine' settled_spec ⟨?Bqat, ?Fqat, ?Xqat, ?Nqat, ?Tqat, ?dqat, ?uqat⟩ ?h1qaa6ec3 ?i1qaa6ec3 ?_; walk_at "my at"; (case h1qaa6ec3 => k_extra "mem"); (case i1qaa6ec3 => walk_at "my roles"); k_whole); intro r'9 tl'9 h'9 tk'9 F'9 N'9 hr'9; k_whole; refine row_open N'9 hr'9 ?_; clear N'9 hr'9; walk_at "my row in")
  k_with "call ref" => (k_here; (with_reducible show wpAny _ _ (call (Value.ref 124) _) _ _ _); k_dflt (refine' row_spec (f := ⟨_, _, _, _, _⟩) ⟨?Bqat, ?Fqat, ?Xqat, ?Nqat, ?Tqat, ?dqat, ?uqat⟩ ?hcq4f1e35 ?_; walk_at "my at"; (case hcq4f1e35 => walk_at "my cf"); k_whole); intro r'9 tl'9 h'9 tk'9 F'9 N'9 hr'9; k_whole; refine row_open N'9 hr'9 ?_; clear N'9 hr'9; walk_at "my row in")
  k_with "call ref" => (k_here; (with_reducible show wpAny _ _ (call (Value.ref 374) _) _ _ _); k_dflt (refine' orders_spec ⟨?Bqat, ?Fqat, ?Xqat, ?Nqat, ?Tqat, ?dqat, ?uqat⟩ ?h1q7828b5 ?_; walk_at "my at"; (case h1q7828b5 => k_extra "mem"); k_whole); intro r'9 o1'9 o2'9 o3'9 o4'9 o5'9 o6'9 h'9 tk'9 c'9 c1'9 c2'9 c3'9 c4'9 c5'9 c6'9 F'9 N'9; (try k_sweep); (try dsimp only))
  k_with "my row" => first | exact RowIn.mk' (by k_extra "mem") (by k_extra "mem") (by k_extra "mem") (by k_extra "mem") (by k_extra "mem") (by k_asm) (by k_asm) (by k_asm) (by k_asm) | exact ⟨_, _, _, _, _, _, _, _, _, _, _, _, _, by k_extra "mem", by k_extra "mem", by k_extra "mem", by k_extra "mem", by k_extra "mem", by assumption, by assumption, by assumption, by assumption⟩
  k_with "my same" => first | exact sameRow_refl _ | exact Same.rows (by k_asm)
  k_with "compareOp Eq ref ref" => (k_here; (with_reducible show wpAny _ _ (compareOp CmpOp.Eq (Value.ref _) (Value.ref _)) _ _ _); k_dflt (refine' rows_eqT (f := ⟨_, _, _, _, _⟩) (g := ⟨_, _, _, _, _⟩) ?Nq365578 ?aq365578 ?bq365578 ?sq365578 ?uq365578 ?_; (case Nq365578 => k_asm); (case aq365578 => walk_at "my row"); (case bq365578 => walk_at "my row"); (case sq365578 => walk_at "my same"); (case uq365578 => walk_at "my units"); k_whole))
  k_with "compareOp NotEq ref ref" => (k_here; (with_reducible show wpAny _ _ (compareOp CmpOp.NotEq (Value.ref _) (Value.ref _)) _ _ _); k_dflt (refine' rows_neF (f := ⟨_, _, _, _, _⟩) (g := ⟨_, _, _, _, _⟩) ?Nq923b75 ?aq923b75 ?bq923b75 ?sq923b75 ?uq923b75 ?_; (case Nq923b75 => k_asm); (case aq923b75 => walk_at "my row"); (case bq923b75 => walk_at "my row"); (case sq923b75 => walk_at "my same"); (case uq923b75 => walk_at "my units"); k_whole))
  k_with "KCiEl" => (refine kci_el ?kceq83f315 (by with_unfolding_all rfl) (by with_unfolding_all rfl); (case kceq83f315 => first | exact gf_yes (by k_asm) | exact ap_yes (by unfold apT; first | assumption | simp [*]) | exact gp_yes (jr1 (by k_asm) (by k_asm)) | exact gp_yes (jr4 (by k_asm) (by k_asm))))
  k_with "KCiNo" => (refine kci_no ?kceq8922c0 (by with_unfolding_all rfl); (case kceq8922c0 => first | exact gf_no (by k_asm) | exact ap_no (by unfold apT; first | assumption | simp [*]) | exact gp_no (jr2 (by k_asm)) | exact gp_no (jr3 (by k_asm)) | exact gp_no (jr5 (by k_asm)) | exact gp_no (jr6 (by k_asm))))
  k_with "CompSrc" => ((with_reducible rename Flag "my turns" => hz9); k_dflt (refine LCg.CompSrc.ledger (by rfl) (by k_asm) (by k_asm) (by k_extra "mem") (by first | size_fits | exact Nat.le_of_ble_eq_true rfl) ?_; intro g'9; lcg_lit))
  k_with "CompSrc" => ((with_reducible rename Flag "my turns" => hz9); k_dflt (refine LCg.CompSrc.range (by rfl) (by k_asm) (by k_asm) (by k_asm) (by first | decide | rfl) (by first | rfl | decide) (by first | size_fits | exact Nat.le_of_ble_eq_true rfl) ?_; intro g'9; lcg_lit))
  k_with "exec For Name Name cons nil" => ((with_reducible rename Flag "my gfor" => hz9); k_here; (with_unfolding_all refine' For_g ?_; k_whole))
  k_with "CompRest" => ((with_reducible rename Flag "my turns" => hz9); with_unfolding_all first | (refine LCg.CompRest.succ ?_; intro v'9 I'9 oI'9 C'9 oC'9 D'9 m'9 h'9 tk'9 E'9 hv'9 hC'9 hx'9 F'9 N'9 off'9 ne'9; first | lcg_open hv'9 | (obtain ⟨t9'9, hv9'9⟩ := hv'9; subst hv9'9)) | refine LCg.CompRest.zero ?_)
  k_with "CompEnd" => ((with_reducible rename Flag "my turns" => hz9); k_dflt (refine' turn_end ?offq915864 ?Fq915864 ?Nq915864 ?mq915864 ?sq915864 ?neq915864 ?Sq915864 ?_; (case offq915864 => k_asm); (case Fq915864 => k_asm); (case Nq915864 => k_asm); (case mq915864 => k_extra "mem"); (case sq915864 => first | exact fun p hp => .tail _ hp | exact fun p hp => .tail _ (.tail _ hp) | exact fun p hp => .tail _ (.tail _ (.tail _ hp))); (case Sq915864 => lcg_src); (case neq915864 => (refine ⟨?_, ?_, ?_⟩ <;> k_ne))))
  k_with "subscriptTail Name Name ref int" => ((with_reducible rename Flag "my pick" => hz9); (with_reducible show wpAny _ _ (subscriptTail _ (Expr.Name (Str.ofString "which") _) _ _) _ _ _); refine Hold.out ?_)
  k_with "execs cons" => ((with_reducible rename Flag "my cut" => hz9); (with_reducible show wpAny _ _ (execs (Stmt.Try _ _ _ _ _ :: _) _) _ _ _); refine Hold.out ?_)
  k_with "my way" => first | exact .inl ⟨rfl, by assumption⟩ | exact .inr (.inl ⟨rfl, by assumption⟩) | exact .inr (.inr ⟨rfl, ids_none⟩)
  k_with "call ref" => (k_here; (with_reducible show wpAny _ _ (call (Value.ref 381) _) _ _ _); k_dflt (refine' refused_spec (f := ⟨_, _, _, _, _⟩) ⟨?Bqat, ?Fqat, ?Xqat, ?Nqat, ?Tqat, ?dqat, ?uqat⟩ ?XBq42a83f ?TBq42a83f ?Dq42a83f ?hcq42a83f ?hsq42a83f ?hvq42a83f ?hwq42a83f ?_; walk_at "my at"; (case XBq42a83f => k_asm); (case TBq42a83f => k_asm); (case Dq42a83f => k_asm); (case hcq42a83f => walk_at "my cf"); (case hsq42a83f => walk_at "my sound"); (case hvq42a83f => k_asm); (case hwq42a83f => walk_at "my way"); k_whole); intro h0'9 h'9 tk'9 kT'9 F'9 N'9 B'9 X'9 T'9 D'9; (have kT29 := KtsTurn.trans (by k_asm) kT'9); clear kT'9; (try k_sweep); (try dsimp only))
  k_with "my frame" => first | exact an | (refine ac rfl ?_; k_extra "my frame")
  k_with "my steps at" => first | assumption | (refine' StepsIn.at ?naq2b5fa8 (StepsIn.cons ?nbq2b5fa8 StepsIn.nil); (case naq2b5fa8 => k_asm); (case nbq2b5fa8 => k_extra "mem")) | (refine' StepsIn.at ?ncq2b5fa8 (StepsIn.cons ?ndq2b5fa8 (StepsIn.cons ?neq2b5fa8 (StepsIn.cons ?nfq2b5fa8 StepsIn.nil))); (case ncq2b5fa8 => k_asm); (case ndq2b5fa8 => k_extra "mem"); (case neq2b5fa8 => k_extra "mem"); (case nfq2b5fa8 => k_extra "mem")) | (refine' StepsAt.append (StepsAt.keeps ?ngq2b5fa8 (Fr.keep ?nhq2b5fa8)) (StepsIn.at ?niq2b5fa8 (StepsIn.mono ?njq2b5fa8 ?nkq2b5fa8)); (case ngq2b5fa8 => k_asm); (case nhq2b5fa8 => k_asm); (case niq2b5fa8 => k_asm); (case njq2b5fa8 => k_asm); (case nkq2b5fa8 => k_extra "my memall")) | (refine' StepsIn.at ?nlq2b5fa8 (StepsIn.mono ?nmq2b5fa8 ?nnq2b5fa8); (case nlq2b5fa8 => k_asm); (case nmq2b5fa8 => k_asm); (case nnq2b5fa8 => k_extra "my memall"))
  k_with "binaryOp Add ref ref" => ((with_reducible rename Flag "my add" => hz9); (with_reducible show wpAny _ _ (binaryOp _ (Value.ref _) (Value.ref _)) _ _ _); k_dflt (refine' add_any ?Fqa139c8 ?Nqa139c8 ?aqa139c8 ?bqa139c8 ?zqa139c8 ?_; (case Fqa139c8 => k_asm); (case Nqa139c8 => k_asm); (case aqa139c8 => k_extra "mem"); (case bqa139c8 => k_extra "mem"); (case zqa139c8 => k_asm); k_whole); intro D'9 h'9 F'9 N'9 l19; clear l19; (try k_sweep))
  k_with "my cf in" => (intro d'9 lv'9 lo'9 ll'9 ln'9 vv'9 vo'9 vl'9 vn'9 cv'9 co'9 cl'9 cn'9 t1'9 t2'9 t3'9 t4'9 t5'9 N2'9 i1'9 i2'9 i3'9 i4'9; (try dsimp only [Cf.of, jc] at N2'9 i1'9 i2'9 i3'9 i4'9); (try k_sweep); (try dsimp only))
  k_with "my err in" => (intro e'9 t'9 vs'9 G'9 h'9 tk'9 F'9 S'9 U'9; (try dsimp only))
  k_with "my good" => first | ((with_reducible rename (_ ∧ _ ∧ _) => hz9); exact hz9) | (with_reducible assumption) | assumption | exact ⟨ids_none, by assumption⟩ | exact ⟨ids_none, by assumption, by assumption⟩
  k_with "my bad" => first | ((with_reducible rename (_ ∨ _ ∨ _) => hz9); exact hz9) | (with_reducible first | assumption | exact .inr (.inl (by assumption)) | exact .inr (.inr (by assumption)) | exact .inl (by assumption) | exact .inr (by assumption)) | exact .inr (.inl (by assumption)) | exact .inr (.inr (by assumption)) | exact .inr (by assumption) | exact .inl (by assumption)
  k_with "my sound2" => first | assumption | exact Same.sound (by k_asm) sound_set | exact Same.sound (by k_asm) (sound_jc (by k_asm))
  k_with "call ref" => (k_here; (with_reducible show wpAny _ _ (call (Value.ref 227) _) _ _ _); k_dflt (refine' enter_bad (f := ⟨_, _, _, _, _⟩) ⟨?Bqat, ?Fqat, ?Xqat, ?Nqat, ?Tqat, ?dqat, ?uqat⟩ ?h1qc6d45a ?h2qc6d45a ?hcqc6d45a ?hsqc6d45a ?hvqc6d45a ?h3qc6d45a ?hstqc6d45a ?hcsqc6d45a ?hs2qc6d45a ?ebqc6d45a ?_; walk_at "my at"; (case h1qc6d45a => k_extra "mem"); (case h2qc6d45a => k_extra "mem"); (case hcqc6d45a => walk_at "my cf"); (case hsqc6d45a => walk_at "my sound"); (case hvqc6d45a => k_asm); (case h3qc6d45a => k_extra "mem"); (case hstqc6d45a => walk_at "my steps at"); (case hcsqc6d45a => k_asm); (case hs2qc6d45a => walk_at "my sound2"); (case ebqc6d45a => walk_at "my bad"); k_whole); walk_at "my err in")
  k_with "call ref" => (k_here; (with_reducible show wpAny _ _ (call (Value.ref 227) _) _ _ _); k_dflt (refine' enter_ok (f := ⟨_, _, _, _, _⟩) ⟨?Bqat, ?Fqat, ?Xqat, ?Nqat, ?Tqat, ?dqat, ?uqat⟩ ?h1q92c8d1 ?h2q92c8d1 ?hcq92c8d1 ?hsq92c8d1 ?hvq92c8d1 ?h3q92c8d1 ?hstq92c8d1 ?hcsq92c8d1 ?hs2q92c8d1 ?egq92c8d1 ?smq92c8d1 ?_; walk_at "my at"; (case h1q92c8d1 => k_extra "mem"); (case h2q92c8d1 => k_extra "mem"); (case hcq92c8d1 => walk_at "my cf"); (case hsq92c8d1 => walk_at "my sound"); (case hvq92c8d1 => k_asm); (case h3q92c8d1 => k_extra "mem"); (case hstq92c8d1 => walk_at "my steps at"); (case hcsq92c8d1 => k_asm); (case hs2q92c8d1 => walk_at "my sound2"); (case egq92c8d1 => walk_at "my good"); (case smq92c8d1 => k_asm); k_whole); intro r'9 tl'9 h'9 tk'9 F'9 N'9 hc'9; k_whole; refine cf_open N'9 hc'9 ?_; clear N'9 hc'9; walk_at "my cf in")
  k_with "call ref" => (k_here; (with_reducible show wpAny _ _ (call (Value.ref 241) _) _ _ _); k_dflt (refine' simple_bad (f := ⟨_, _, _, _, _⟩) ⟨?Bqat, ?Fqat, ?Xqat, ?Nqat, ?Tqat, ?dqat, ?uqat⟩ ?h1q72ee0a ?h2q72ee0a ?hcq72ee0a ?hsq72ee0a ?hvq72ee0a ?h3q72ee0a ?hstq72ee0a ?hcsq72ee0a ?hs2q72ee0a ?ebq72ee0a ?_; walk_at "my at"; (case h1q72ee0a => k_extra "mem"); (case h2q72ee0a => k_extra "mem"); (case hcq72ee0a => walk_at "my cf"); (case hsq72ee0a => walk_at "my sound"); (case hvq72ee0a => k_asm); (case h3q72ee0a => k_extra "mem"); (case hstq72ee0a => walk_at "my steps at"); (case hcsq72ee0a => k_asm); (case hs2q72ee0a => walk_at "my sound2"); (case ebq72ee0a => walk_at "my bad"); k_whole); walk_at "my err in")
  k_with "call ref" => (k_here; (with_reducible show wpAny _ _ (call (Value.ref 241) _) _ _ _); k_dflt (refine' simple_ok (f := ⟨_, _, _, _, _⟩) ⟨?Bqat, ?Fqat, ?Xqat, ?Nqat, ?Tqat, ?dqat, ?uqat⟩ ?h1qbec5f6 ?h2qbec5f6 ?hcqbec5f6 ?hsqbec5f6 ?hvqbec5f6 ?h3qbec5f6 ?hstqbec5f6 ?hcsqbec5f6 ?hs2qbec5f6 ?egqbec5f6 ?smqbec5f6 ?_; walk_at "my at"; (case h1qbec5f6 => k_extra "mem"); (case h2qbec5f6 => k_extra "mem"); (case hcqbec5f6 => walk_at "my cf"); (case hsqbec5f6 => walk_at "my sound"); (case hvqbec5f6 => k_asm); (case h3qbec5f6 => k_extra "mem"); (case hstqbec5f6 => walk_at "my steps at"); (case hcsqbec5f6 => k_asm); (case hs2qbec5f6 => walk_at "my sound2"); (case egqbec5f6 => walk_at "my good"); (case smqbec5f6 => k_asm); k_whole); intro r'9 tl'9 h'9 tk'9 F'9 N'9 hc'9; k_whole; refine cf_open N'9 hc'9 ?_; clear N'9 hc'9; walk_at "my cf in")
  k_with "call ref" => (k_here; (with_reducible show wpAny _ _ (call (Value.ref 234) _) _ _ _); k_dflt (refine' leave_ok (f := ⟨_, _, _, _, _⟩) ⟨?Bqat, ?Fqat, ?Xqat, ?Nqat, ?Tqat, ?dqat, ?uqat⟩ ?h1q33d8e3 ?h2q33d8e3 ?hcq33d8e3 ?hsq33d8e3 ?hvq33d8e3 ?hs2q33d8e3 ?egq33d8e3 ?smq33d8e3 ?_; walk_at "my at"; (case h1q33d8e3 => k_extra "mem"); (case h2q33d8e3 => k_extra "mem"); (case hcq33d8e3 => walk_at "my cf"); (case hsq33d8e3 => walk_at "my sound"); (case hvq33d8e3 => k_asm); (case smq33d8e3 => k_asm); (case hs2q33d8e3 => walk_at "my sound2"); (case egq33d8e3 => k_asm); k_whole); intro r'9 tl'9 h'9 tk'9 F'9 N'9 hc'9; k_whole; refine cf_open N'9 hc'9 ?_; clear N'9 hc'9; walk_at "my cf in")
  k_with "noteFrame ref" => ((with_reducible rename Flag "my catch" => hz9); k_dflt (refine' caught_cells ?Rq69d045 ?Fq69d045 ?Kq69d045 ?Uq69d045 ?XBq69d045 ?TBq69d045 ?Dq69d045 ?T0q69d045 ?exq69d045 ?qq69d045 ?_; (case Rq69d045 => k_asm); (case Fq69d045 => k_asm); (case Kq69d045 => k_asm); (case Uq69d045 => k_asm); (case XBq69d045 => k_asm); (case TBq69d045 => k_asm); (case Dq69d045 => k_asm); (case T0q69d045 => first | assumption | exact KtsTurn.refl); (case exq69d045 => k_is); (case qq69d045 => kts_isx); k_whole); intro h'9 g'9 T'9 F'9 N'9 K'9 X'9 P'9 D'9; (try k_lift K'9); (try k_sweep); (try dsimp only))
  trivial
noncomputable def ordIn (ν : Int → Int) (l6 : List (Addr × Obj)) (l3 : List (Addr × Obj)) (v : Value) : Prop := ∃ o vs3 n3 cs3, v = .ref o ∧ (o, listO vs3 n3) ∈ l6 ∧ vs3.length = 3 ∧ StepsIn l3 vs3 cs3 ∧ cs3 ∈ ord ν
theorem ord_in {a b c o1 o2 o3 o4 o5 o6 : Addr} {ν : Int → Int} {ta tb tc ua ub uc : Tok} {ca cb cc k1 k2 k3 k4 k5 k6 : Nat} : ∀ v ∈ [Value.ref o1, .ref o2, .ref o3, .ref o4, .ref o5, .ref o6],
    ordIn ν [(o1, listO [.ref a, .ref b, .ref c] k1), (o2, listO [.ref a, .ref c, .ref b] k2), (o3, listO [.ref b, .ref a, .ref c] k3), (o4, listO [.ref b, .ref c, .ref a] k4), (o5, listO [.ref c, .ref a, .ref b] k5), (o6, listO [.ref c, .ref b, .ref a] k6)]
      [(a, tupO [.int (stepOf (ν 2)) ta, .int 2 ua] ca), (b, tupO [.int (stepOf (ν 3)) tb, .int 3 ub] cb), (c, tupO [.int (stepOf (ν 5)) tc, .int 5 uc] cc)] v := by
  intro v hv
  simp only [List.mem_cons, List.not_mem_nil, or_false] at hv
  have ha : ∀ {vs cs}, StepsIn [(a, tupO [.int (stepOf (ν 2)) ta, .int 2 ua] ca), (b, tupO [.int (stepOf (ν 3)) tb, .int 3 ub] cb), (c, tupO [.int (stepOf (ν 5)) tc, .int 5 uc] cc)] vs cs → StepsIn [(a, tupO [.int (stepOf (ν 2)) ta, .int 2 ua] ca), (b, tupO [.int (stepOf (ν 3)) tb, .int 3 ub] cb), (c, tupO [.int (stepOf (ν 5)) tc, .int 5 uc] cc)] (.ref a :: vs) (stp ν 2 :: cs) := fun x => .cons (.head _) x
  have hb : ∀ {vs cs}, StepsIn [(a, tupO [.int (stepOf (ν 2)) ta, .int 2 ua] ca), (b, tupO [.int (stepOf (ν 3)) tb, .int 3 ub] cb), (c, tupO [.int (stepOf (ν 5)) tc, .int 5 uc] cc)] vs cs → StepsIn [(a, tupO [.int (stepOf (ν 2)) ta, .int 2 ua] ca), (b, tupO [.int (stepOf (ν 3)) tb, .int 3 ub] cb), (c, tupO [.int (stepOf (ν 5)) tc, .int 5 uc] cc)] (.ref b :: vs) (stp ν 3 :: cs) := fun x => .cons (.tail _ (.head _)) x
  have hc : ∀ {vs cs}, StepsIn [(a, tupO [.int (stepOf (ν 2)) ta, .int 2 ua] ca), (b, tupO [.int (stepOf (ν 3)) tb, .int 3 ub] cb), (c, tupO [.int (stepOf (ν 5)) tc, .int 5 uc] cc)] vs cs → StepsIn [(a, tupO [.int (stepOf (ν 2)) ta, .int 2 ua] ca), (b, tupO [.int (stepOf (ν 3)) tb, .int 3 ub] cb), (c, tupO [.int (stepOf (ν 5)) tc, .int 5 uc] cc)] (.ref c :: vs) (stp ν 5 :: cs) := fun x => .cons (.tail _ (.tail _ (.head _))) x
  rcases hv with rfl | rfl | rfl | rfl | rfl | rfl
  · exact ⟨o1, _, k1, _, rfl, .head _, rfl, ha (hb (hc .nil)), by simp [ord]⟩
  · exact ⟨o2, _, k2, _, rfl, .tail _ (.head _), rfl, ha (hc (hb .nil)), by simp [ord]⟩
  · exact ⟨o3, _, k3, _, rfl, .tail _ (.tail _ (.head _)), rfl, hb (ha (hc .nil)), by simp [ord]⟩
  · exact ⟨o4, _, k4, _, rfl, .tail _ (.tail _ (.tail _ (.head _))), rfl, hb (hc (ha .nil)), by simp [ord]⟩
  · exact ⟨o5, _, k5, _, rfl, .tail _ (.tail _ (.tail _ (.tail _ (.head _)))), rfl, hc (ha (hb .nil)), by simp [ord]⟩
  · exact ⟨o6, _, k6, _, rfl, .tail _ (.tail _ (.tail _ (.tail _ (.tail _ (.head _))))), rfl, hc (hb (ha .nil)), by simp [ord]⟩
theorem stepOf_ok {r : Int} (h : r = 0 ∨ r = 1 ∨ r = 2) : stepOf r = 0 ∨ stepOf r = 1 ∨ stepOf r = 2 ∨ stepOf r = 3 := by
  rcases h with rfl | rfl | rfl <;> decide
theorem good_ord {ν : Int → Int} (hn : Rol ν) {cs cs3 : List (Int × Int)} (hs : Noise cs) (h3 : cs3 ∈ ord ν) : ∀ c ∈ cs ++ cs3, GoodC c := fun c hc => by
  rcases List.mem_append.mp hc with z | z
  · rcases hs with rfl | ⟨κ, n, rfl, hκ, hn'⟩
    · cases z
    · rw [List.mem_singleton.mp z]
      refine ⟨hκ, ?_⟩
      rcases hn' with rfl | rfl | rfl <;> simp [IDs]
  · have h2 : stepOf (ν 2) = 0 ∨ stepOf (ν 2) = 1 ∨ stepOf (ν 2) = 2 ∨ stepOf (ν 2) = 3 := stepOf_ok (hn 2 (by decide))
    have h3' : stepOf (ν 3) = 0 ∨ stepOf (ν 3) = 1 ∨ stepOf (ν 3) = 2 ∨ stepOf (ν 3) = 3 := stepOf_ok (hn 3 (by decide))
    have h5 : stepOf (ν 5) = 0 ∨ stepOf (ν 5) = 1 ∨ stepOf (ν 5) = 2 ∨ stepOf (ν 5) = 3 := stepOf_ok (hn 5 (by decide))
    have h2' : GoodC (stp ν 2) := ⟨h2, by simp [IDs, stp]⟩
    have h3'' : GoodC (stp ν 3) := ⟨h3', by simp [IDs, stp]⟩
    have h5' : GoodC (stp ν 5) := ⟨h5, by simp [IDs, stp]⟩
    simp only [ord, List.mem_cons, List.not_mem_nil, or_false] at h3
    rcases h3 with rfl | rfl | rfl | rfl | rfl | rfl <;>
    · simp only [List.mem_cons, List.not_mem_nil, or_false] at z
      rcases z with rfl | rfl | rfl <;> assumption
theorem room3 {vs vs3 : List Value} {cs : List (Int × Int)} {h : Heap} (x : StepsAt h vs cs) (hs : Noise cs) (h3 : vs3.length = 3) : vs.length + vs3.length ≤ sizeLine := by
  rw [h3, sizeLine_eq]
  rcases hs with rfl | ⟨κ, n, rfl, _, _⟩
  · cases x
    simp
  · cases x with
    | cons _ y =>
      cases y
      simp
theorem tail_cut {M : Model} {A : Around} {E : Value → Shared → Prop} {s : Shared} {env : Env} {st1 st2 st3 : Stmt} {rest : List Stmt} {Q : Flow → Shared → Prop} (Inv : Heap → (Str → Option Value) → List (Addr × Obj) → Prop)
    (hmain : ∀ R : List Stmt, (∀ g h tk m nx, Inv g m nx → Fr g env.locals h m → News g env.locals h nx → wpAny M A (execs R env) Q E { s with heap := h, toks := tk }) → wpAny M A (execs (st1 :: st2 :: st3 :: R) env) Q E s)
    (hR : ∀ g h tk m nx, Inv g m nx → Fr g env.locals h m → News g env.locals h nx → wpAny M A (execs rest env) Q E { s with heap := h, toks := tk }) : wpAny M A (execs (st1 :: st2 :: st3 :: rest) env) Q E s := hmain rest hR
theorem end_plain {h₀ h : Heap} {L I : Addr} {o : Obj} {led Λ : List (Addr × Obj)} (N : News h₀ L h led) (hI : (I, o) ∈ led) (hΛ : ∀ p ∈ Λ, p ∈ led) : News h₀ L h ((I, o) :: Λ) := sub N (sc hI (hΛ))
theorem end_cf {P : Params} {h₀ h : Heap} {L I xj dj jv jo jl jn : Addr} {o : Obj} {led Λ : List (Addr × Obj)} {f : Cf} {au9 : Bool} {p1 p2 p3 p4 : List Value} {n1 n2 n3 n4 : Nat} {t1 t2 t3 t4 t5 : Tok} (N : News h₀ L h led) (hI : (I, o) ∈ led) (hΛ : ∀ p ∈ Λ, p ∈ led) (hoff : ∀ p ∈ Λ, p.1 ≠ I) (ho : o.cls = .type "list_iterator")
    (h6 : ∀ p ∈ [(xj, instObj 183 dj), (dj, cfD P jv jo jl jn au9 t1 t2 t3 t4 t5), (jv, listO p1 n1), (jo, listO p2 n2), (jl, listO p3 n3), (jn, listO p4 n4)], p ∈ led) (i1 : IntsAre p1 (ids f.v)) (i2 : IntsAre p2 (ids f.o)) (i3 : IntsAre p3 (ids f.l)) (i4 : IntsAre p4 (ids f.n)) (hau : au9 = f.au) :
    ∃ nx, News h₀ L h ((I, o) :: nx) ∧ (∀ p ∈ nx, p.1 ≠ I) ∧ (∀ p ∈ Λ, p ∈ nx) ∧ CfIn P nx xj f := by
  subst hau
  refine ⟨[(xj, instObj 183 dj), (dj, cfD P jv jo jl jn f.au t1 t2 t3 t4 t5), (jv, listO p1 n1), (jo, listO p2 n2), (jl, listO p3 n3), (jn, listO p4 n4)] ++ Λ, sub N (sc hI (List.forall_mem_append.mpr ⟨h6, hΛ⟩)), List.forall_mem_append.mpr ⟨off_iter N hI ho h6 ?_, hoff⟩, fun p hp => List.mem_append_right _ hp, ?_⟩
  · simp
  · exact ⟨_, _, _, _, _, _, _, _, _, _, _, _, _, _, _, _, _, _, .head _, .tail _ (.head _), .tail _ (.tail _ (.head _)), .tail _ (.tail _ (.tail _ (.head _))), .tail _ (.tail _ (.tail _ (.tail _ (.head _)))), .tail _ (.tail _ (.tail _ (.tail _ (.tail _ (.head _))))), i1, i2, i3, i4⟩
theorem ways_pack {P : Params} {g h : Heap} {L r c1 c2 ol nl sl : Addr} {oc1 oc2 : Obj} {m : Str → Option Value} {news : List (Addr × Obj)} {vo vn vs : List Value} {no nn ns : Nat} {au : Bool} {wh : Int} {tw : Tok} {ρ ν : Int → Int} {G : Prop}
   {x d lv lo ll ln f a1 a2 a3 a4 o1 o2 o3 o4 o5 o6 y1 y2 y3 j b1 b2 b3 b4 : Addr} {vv vp vl vq v1 v2 v3 v4 w1 w2 w3 w4 : List Value} {e1 e2 e3 e4 e5 e6 e7 e8 e9 k0 k1 k2 k3 k4 k5 k6 q1 q2 q3 z0 z1 z2 z3 z4 : Nat} {t1 t2 t3 t4 t5 u1 u2 u3 s1 s2 s3 : Tok} (F : Fr g L h m) (N : News g L h news) (_hc1 : oc1.data = .cell (some (.ref ol))) (_hc2 : oc2.data = .cell (some (.ref nl)))
   (hm : ∀ q ∈ [(Str.ofString "noise", Value.ref sl), (Str.ofString "auto", Value.bool au), (Str.ofString "which", Value.int wh tw), (Str.ofString "base", Value.ref x), (Str.ofString "first", Value.ref f), (Str.ofString "orders", Value.ref r), (Str.ofString "joint_row", Value.ref j)], m q.1 = some q.2)
   (hn : ∀ p ∈ [(c1, oc1), (c2, oc2), (ol, listO vo no), (nl, listO vn nn), (sl, listO vs ns), (x, instObj 183 d), (d, cfD P lv lo ll ln false t1 t2 t3 t4 t5), (lv, listO vv e1), (lo, listO vp e2), (ll, listO vl e3), (ln, listO vq e4), (f, tupO [.ref a1, .ref a2, .ref a3, .ref a4, .bool false] e5), (a1, tupO v1 e6), (a2, tupO v2 e7), (a3, tupO v3 e8), (a4, tupO v4 e9), (r, listO [.ref o1, .ref o2, .ref o3, .ref o4, .ref o5, .ref o6] k0), (o1, listO [.ref y1, .ref y2, .ref y3] k1), (o2, listO [.ref y1, .ref y3, .ref y2] k2), (o3, listO [.ref y2, .ref y1, .ref y3] k3), (o4, listO [.ref y2, .ref y3, .ref y1] k4), (o5, listO [.ref y3, .ref y1, .ref y2] k5), (o6, listO [.ref y3, .ref y2, .ref y1] k6), (y1, tupO [.int (stepOf (ν 2)) u1, .int 2 s1] q1), (y2, tupO [.int (stepOf (ν 3)) u2, .int 3 s2] q2), (y3, tupO [.int (stepOf (ν 5)) u3, .int 5 s3] q3), (j, tupO [.ref b1, .ref b2, .ref b3, .ref b4, .bool au] z0), (b1, tupO w1 z1), (b2, tupO w2 z2), (b3, tupO w3 z3), (b4, tupO w4 z4)], p ∈ news)
   (i1 : IntsAre vv (ids fun i => ρ i == 1))
   (i2 : IntsAre vp (ids fun _ => false))
   (i3 : IntsAre vl (ids fun i => ρ i == 2))
   (i4 : IntsAre vq (ids fun _ => false))
   (i5 : IntsAre v1 (ids fun i => ρ i == 1))
   (i6 : IntsAre v2 (ids fun _ => false))
   (i7 : IntsAre v3 (ids fun i => ρ i == 2))
   (i8 : IntsAre v4 (ids fun _ => false))
   (i9 : IntsAre w1 (ids fun i => ν i == 1))
   (i10 : IntsAre w2 (ids fun i => ρ i == 1))
   (i11 : IntsAre w3 (ids fun i => ν i == 2 && ρ i != 1))
   (i12 : IntsAre w4 (ids fun i => ν i == 2 && ρ i == 1))
   (k : ∀ (m : Str → Option Value) (r' : Addr) (x d lv lo ll ln f a1 a2 a3 a4 o1 o2 o3 o4 o5 o6 y1 y2 y3 j b1 b2 b3 b4 : Addr) (vv vp vl vq v1 v2 v3 v4 w1 w2 w3 w4 : List Value) (e1 e2 e3 e4 e5 e6 e7 e8 e9 k0 k1 k2 k3 k4 k5 k6 q1 q2 q3 z0 z1 z2 z3 z4 : Nat) (t1 t2 t3 t4 t5 u1 u2 u3 s1 s2 s3 : Tok), r' = r → Fr g L h m → (∀ q ∈ [(Str.ofString "noise", Value.ref sl), (Str.ofString "auto", Value.bool au), (Str.ofString "which", Value.int wh tw), (Str.ofString "base", Value.ref x), (Str.ofString "first", Value.ref f), (Str.ofString "orders", Value.ref r'), (Str.ofString "joint_row", Value.ref j)], m q.1 = some q.2) → ∀ Λ : List (Addr × Obj), (c1, oc1) ∈ Old Λ → (c2, oc2) ∈ Old Λ → (ol, listO vo no) ∈ Old Λ → (nl, listO vn nn) ∈ Old Λ → (sl, listO vs ns) ∈ Old Λ → (x, instObj 183 d) ∈ Old Λ → (d, cfD P lv lo ll ln false t1 t2 t3 t4 t5) ∈ Old Λ → (lv, listO vv e1) ∈ Old Λ → (lo, listO vp e2) ∈ Old Λ → (ll, listO vl e3) ∈ Old Λ → (ln, listO vq e4) ∈ Old Λ → (f, tupO [.ref a1, .ref a2, .ref a3, .ref a4, .bool false] e5) ∈ Old Λ → (a1, tupO v1 e6) ∈ Old Λ → (a2, tupO v2 e7) ∈ Old Λ → (a3, tupO v3 e8) ∈ Old Λ → (a4, tupO v4 e9) ∈ Old Λ → (r', listO [.ref o1, .ref o2, .ref o3, .ref o4, .ref o5, .ref o6] k0) ∈ Old Λ → (o1, listO [.ref y1, .ref y2, .ref y3] k1) ∈ Old Λ → (o2, listO [.ref y1, .ref y3, .ref y2] k2) ∈ Old Λ → (o3, listO [.ref y2, .ref y1, .ref y3] k3) ∈ Old Λ → (o4, listO [.ref y2, .ref y3, .ref y1] k4) ∈ Old Λ → (o5, listO [.ref y3, .ref y1, .ref y2] k5) ∈ Old Λ → (o6, listO [.ref y3, .ref y2, .ref y1] k6) ∈ Old Λ → (y1, tupO [.int (stepOf (ν 2)) u1, .int 2 s1] q1) ∈ Old Λ → (y2, tupO [.int (stepOf (ν 3)) u2, .int 3 s2] q2) ∈ Old Λ → (y3, tupO [.int (stepOf (ν 5)) u3, .int 5 s3] q3) ∈ Old Λ → (j, tupO [.ref b1, .ref b2, .ref b3, .ref b4, .bool au] z0) ∈ Old Λ → (b1, tupO w1 z1) ∈ Old Λ → (b2, tupO w2 z2) ∈ Old Λ → (b3, tupO w3 z3) ∈ Old Λ → (b4, tupO w4 z4) ∈ Old Λ → News g L h (Old Λ) → IntsAre vv (ids fun i => ρ i == 1) → IntsAre vp (ids fun _ => false) → IntsAre vl (ids fun i => ρ i == 2) → IntsAre vq (ids fun _ => false) → IntsAre v1 (ids fun i => ρ i == 1) → IntsAre v2 (ids fun _ => false) → IntsAre v3 (ids fun i => ρ i == 2) → IntsAre v4 (ids fun _ => false) → IntsAre w1 (ids fun i => ν i == 1) → IntsAre w2 (ids fun i => ρ i == 1) → IntsAre w3 (ids fun i => ν i == 2 && ρ i != 1) → IntsAre w4 (ids fun i => ν i == 2 && ρ i == 1) → G) : G :=
  k m r _ _ _ _ _ _ _ _ _ _ _ _ _ _ _ _ _ _ _ _ _ _ _ _ _ _ _ _ _ _ _ _ _ _ _ _ _ _ _ _ _ _ _ _ _ _ _ _ _ _ _ _ _ _ _ _ _ _ _ _ _ _ _ _ _ _ _ _ _ _ _ _ rfl F hm news (old_mem (hn _ (by k_mem))) (old_mem (hn _ (by k_mem))) (old_mem (hn _ (by k_mem))) (old_mem (hn _ (by k_mem))) (old_mem (hn _ (by k_mem))) (old_mem (hn _ (by k_mem))) (old_mem (hn _ (by k_mem))) (old_mem (hn _ (by k_mem))) (old_mem (hn _ (by k_mem))) (old_mem (hn _ (by k_mem))) (old_mem (hn _ (by k_mem))) (old_mem (hn _ (by k_mem))) (old_mem (hn _ (by k_mem))) (old_mem (hn _ (by k_mem))) (old_mem (hn _ (by k_mem))) (old_mem (hn _ (by k_mem))) (old_mem (hn _ (by k_mem))) (old_mem (hn _ (by k_mem))) (old_mem (hn _ (by k_mem))) (old_mem (hn _ (by k_mem))) (old_mem (hn _ (by k_mem))) (old_mem (hn _ (by k_mem))) (old_mem (hn _ (by k_mem))) (old_mem (hn _ (by k_mem))) (old_mem (hn _ (by k_mem))) (old_mem (hn _ (by k_mem))) (old_mem (hn _ (by k_mem))) (old_mem (hn _ (by k_mem))) (old_mem (hn _ (by k_mem))) (old_mem (hn _ (by k_mem))) (old_mem (hn _ (by k_mem))) (old_news N) i1 i2 i3 i4 i5 i6 i7 i8 i9 i10 i11 i12
/-- between two turns of the single steps: σ the roles now, ws the members waiting, r the turns left -/
noncomputable def WaySt (ν σ : Int → Int) (ws : List Int) (r : Nat) : Prop :=
  Rol σ ∧ (∀ k ∈ ws, k = 2 ∨ k = 3 ∨ k = 5) ∧ ws.Nodup ∧ (∀ i ∈ IDs, i ∉ ws → σ i = ν i) ∧ (∃ i ∈ IDs, σ i = 1) ∧
    (ws.length < r ∨ (ws.length ≤ r ∧ ∃ j ∈ IDs, ν j = 1 ∧ (ws = [] ∨ ∃ pre k, ws = pre ++ [k] ∧ σ k = 1 ∧ j ≠ k)))
theorem votes_iff {σ : Int → Int} : ids (Cf.of σ).v ≠ [] ↔ ∃ i ∈ IDs, σ i = 1 := by
  constructor
  · intro h
    obtain ⟨i, hi⟩ := List.exists_mem_of_ne_nil _ h
    obtain ⟨h1, h2⟩ := mem_ids.mp hi
    exact ⟨i, h1, by simpa [Cf.of] using h2⟩
  · rintro ⟨i, hi, e⟩ h
    have : i ∈ ids (Cf.of σ).v := mem_ids.mpr ⟨hi, by simp [Cf.of, e]⟩
    rw [h] at this
    cases this
theorem upd_self {σ : Int → Int} {k r : Int} : upd σ k r k = r := by simp [upd]
theorem upd_ne {σ : Int → Int} {k r i : Int} (h : i ≠ k) : upd σ k r i = σ i := by simp [upd, h]
theorem mem_ids3 {k : Int} (h : k = 2 ∨ k = 3 ∨ k = 5) : k ∈ IDs := by
  rcases h with rfl | rfl | rfl <;> decide
theorem WaySt.done {ν σ : Int → Int} {k : Int} {ws : List Int} {r : Nat} (h : WaySt ν σ (k :: ws) (r + 1)) (hn : Rol ν) (hv : ids (Cf.of (upd σ k (ν k))).v ≠ []) : WaySt ν (upd σ k (ν k)) ws r := by
  obtain ⟨hs, h3, hd, hm, _, hr⟩ := h
  rw [List.nodup_cons] at hd
  refine ⟨fun i hi => ?_, fun j hj => h3 j (.tail _ hj), hd.2, fun i hi hw => ?_, votes_iff.mp hv, ?_⟩
  · by_cases e : i = k
    · rw [e, upd_self]; exact hn k (e ▸ hi)
    · rw [upd_ne e]; exact hs i hi
  · by_cases e : i = k
    · rw [e, upd_self]
    · rw [upd_ne e]
      exact hm i hi fun z => by
        rcases List.mem_cons.mp z with z | z
        · exact e z
        · exact hw z
  · rcases hr with hr | ⟨hr, j, hj, ej, hw⟩
    · left
      simp only [List.length_cons] at hr
      omega
    · right
      simp only [List.length_cons] at hr
      refine ⟨by omega, j, hj, ej, ?_⟩
      rcases hw with hw | ⟨pre, k', hw, e1, e2⟩
      · cases hw
      · cases pre with
        | nil =>
          left
          simp only [List.nil_append, List.cons.injEq] at hw
          exact hw.2
        | cons p pre =>
          right
          simp only [List.cons_append, List.cons.injEq] at hw
          refine ⟨pre, k', hw.2, ?_, e2⟩
          rw [upd_ne fun e => ?_]
          · exact e1
          · apply hd.1
            rw [hw.2, ← e]
            simp
theorem WaySt.wait {ν σ : Int → Int} {k : Int} {ws : List Int} {r : Nat} (h : WaySt ν σ (k :: ws) (r + 1)) (hN : ids (Cf.of ν).v ≠ []) (hv : ids (Cf.of (upd σ k (ν k))).v = []) : WaySt ν σ (ws ++ [k]) r := by
  obtain ⟨hs, h3, hd, hm, ⟨i, hi, ei⟩, hr⟩ := h
  have hno : ∀ j ∈ IDs, upd σ k (ν k) j ≠ 1 := fun j hj e => (votes_iff.mpr ⟨j, hj, e⟩) hv
  have hik : i = k := by
    by_cases e : i = k
    · exact e
    · have := hno i hi
      rw [upd_ne e] at this
      exact absurd ei this
  subst hik
  have hνk : ν i ≠ 1 := by
    have := hno i hi
    rw [upd_self] at this
    exact this
  obtain ⟨j, hj, ej⟩ := votes_iff.mp hN
  have hji : j ≠ i := fun e => hνk (e ▸ ej)
  rw [List.nodup_cons] at hd
  have hlen : (ws ++ [i]).length = ws.length + 1 := by simp
  refine ⟨hs, fun q hq => h3 q ?_, ?_, fun q hq hw => hm q hq fun z => hw ?_, ⟨i, hi, ei⟩, ?_⟩
  · rcases List.mem_append.mp hq with z | z
    · exact .tail _ z
    · rw [List.mem_singleton.mp z]; exact .head _
  · rw [List.nodup_append]
    refine ⟨hd.2, by simp, fun a ha b hb e => ?_⟩
    rw [List.mem_singleton.mp hb] at e
    exact hd.1 (e ▸ ha)
  · rcases List.mem_cons.mp z with z | z
    · rw [z]; simp
    · exact List.mem_append_left _ z
  · rcases hr with hr | ⟨_, j', hj', ej', hw⟩
    · right
      simp only [List.length_cons] at hr
      exact ⟨by omega, j, hj, ej, .inr ⟨ws, i, rfl, ei, hji⟩⟩
    · exfalso
      rcases hw with hw | ⟨pre, k', hw, e1, e2⟩
      · cases hw
      · have hk' : k' ∈ IDs := mem_ids3 (h3 k' (by rw [hw]; simp))
        by_cases e : k' = i
        · subst e
          have hj2 : σ j' = ν j' := by
            cases pre with
            | nil =>
              simp only [List.nil_append, List.cons.injEq, true_and] at hw
              exact hm j' hj' (by rw [hw]; simpa using e2)
            | cons p pre =>
              simp only [List.cons_append, List.cons.injEq] at hw
              exfalso
              apply hd.1
              rw [hw.2]
              simp
          have := hno j' hj'
          rw [upd_ne e2, hj2] at this
          exact this ej'
        · have := hno k' hk'
          rw [upd_ne e] at this
          exact this e1
theorem WaySt.fin {ν σ : Int → Int} {ws : List Int} (h : WaySt ν σ ws 0) : ws = [] ∧ Same (Cf.of σ) (Cf.of ν) := by
  obtain ⟨hs, h3, hd, hm, _, hr⟩ := h
  have e : ws = [] := by
    rcases hr with hr | ⟨hr, _⟩
    · exact absurd hr (Nat.not_lt_zero _)
    · exact List.eq_nil_of_length_eq_zero (Nat.le_zero.mp hr)
  refine ⟨e, fun i hi => ?_, rfl⟩
  have : σ i = ν i := hm i hi (by rw [e]; simp)
  simp [Cf.st, Cf.of, this]
theorem WaySt.none_left {ν σ : Int → Int} {r : Nat} (h : WaySt ν σ [] (r + 1)) : WaySt ν σ [] r := by
  obtain ⟨hs, h3, hd, hm, hv, _⟩ := h
  refine ⟨hs, h3, hd, hm, hv, ?_⟩
  obtain ⟨i, hi, e⟩ := hv
  exact .inr ⟨Nat.zero_le _, i, hi, by rw [← hm i hi (by simp)]; exact e, .inl rfl⟩
theorem way_start {ρ ν : Int → Int} {cs3 : List (Int × Int)} (hr : Rol ρ) (h9 : ν 9 = ρ 9) (hv : ids (Cf.of ρ).v ≠ []) (h : cs3 ∈ ord ν) : ∃ ws, cs3 = ws.map (stp ν) ∧ WaySt ν ρ ws 4 := by
  have key : ∀ ws : List Int, ws.length = 3 → (∀ k ∈ ws, k = 2 ∨ k = 3 ∨ k = 5) → ws.Nodup → (∀ i ∈ IDs, i ∉ ws → i = 9) → WaySt ν ρ ws 4 := fun ws hl h3 hd h9' =>
    ⟨hr, h3, hd, fun i hi hw => by rw [h9' i hi hw, h9], votes_iff.mp hv, .inl (by omega)⟩
  simp only [ord, List.mem_cons, List.not_mem_nil, or_false] at h
  rcases h with rfl | rfl | rfl | rfl | rfl | rfl
  · exact ⟨[2, 3, 5], rfl, key _ rfl (by decide) (by decide) (by decide)⟩
  · exact ⟨[2, 5, 3], rfl, key _ rfl (by decide) (by decide) (by decide)⟩
  · exact ⟨[3, 2, 5], rfl, key _ rfl (by decide) (by decide) (by decide)⟩
  · exact ⟨[3, 5, 2], rfl, key _ rfl (by decide) (by decide) (by decide)⟩
  · exact ⟨[5, 2, 3], rfl, key _ rfl (by decide) (by decide) (by decide)⟩
  · exact ⟨[5, 3, 2], rfl, key _ rfl (by decide) (by decide) (by decide)⟩
theorem filter_one {k : Int} {p : Int → Bool} (h : ∀ i, i ≠ k → p i = false) : ∀ l : List Int, l.Nodup → (l.filter p).length ≤ 1
  | [], _ => Nat.zero_le _
  | a :: l, hd => by
    rw [List.nodup_cons] at hd
    by_cases e : a = k
    · subst e
      have : l.filter p = [] := List.filter_eq_nil_iff.mpr fun i hi z => by
        rw [h i fun e => hd.1 (e ▸ hi)] at z
        cases z
      rw [List.filter_cons]
      split
      · rw [List.length_cons, this]; exact Nat.le_refl _
      · rw [this]; exact Nat.zero_le _
    · rw [List.filter_cons_of_neg (by rw [h a e]; decide)]
      exact filter_one h l hd.2
/-- one step moves one voter at most -/
theorem apart_one {σ : Int → Int} {k r : Int} {g : Cf} (h : Same g (Cf.of (upd σ k r))) : ¬ 1 < (apart (Cf.of σ).v g.v : Int) := by
  rw [apart_same h, apart_eq]
  have := filter_one (k := k) (p := fun i => (Cf.of σ).v i != (Cf.of (upd σ k r)).v i) (fun i hi => by simp [Cf.of, upd, hi]) IDs (by decide)
  omega
theorem ints4 {vr : List Value} {a b c d : Int} (h : IntsAre vr [a, b, c, d]) : ∃ t1 t2 t3 t4, vr = [.int a t1, .int b t2, .int c t3, .int d t4] := by
  cases h with | cons _ t1 h => cases h with | cons _ t2 h => cases h with | cons _ t3 h => cases h with | cons _ t4 h =>
    cases h
    exact ⟨t1, t2, t3, t4, rfl⟩
theorem ints_upd2 {σ : Int → Int} {r : Int} {t1 t2 t3 t4 : Tok} : IntsAre [.int r t1, .int (σ 3) t2, .int (σ 5) t3, .int (σ 9) t4] [upd σ 2 r 2, upd σ 2 r 3, upd σ 2 r 5, upd σ 2 r 9] := .cons _ _ (.cons _ _ (.cons _ _ (.cons _ _ .nil)))
theorem ints_upd3 {σ : Int → Int} {r : Int} {t1 t2 t3 t4 : Tok} : IntsAre [.int (σ 2) t1, .int r t2, .int (σ 5) t3, .int (σ 9) t4] [upd σ 3 r 2, upd σ 3 r 3, upd σ 3 r 5, upd σ 3 r 9] := .cons _ _ (.cons _ _ (.cons _ _ (.cons _ _ .nil)))
theorem ints_upd5 {σ : Int → Int} {r : Int} {t1 t2 t3 t4 : Tok} : IntsAre [.int (σ 2) t1, .int (σ 3) t2, .int r t3, .int (σ 9) t4] [upd σ 5 r 2, upd σ 5 r 3, upd σ 5 r 5, upd σ 5 r 9] := .cons _ _ (.cons _ _ (.cons _ _ (.cons _ _ .nil)))
theorem ints_r {σ : Int → Int} {t1 t2 t3 t4 : Tok} : IntsAre [.int (σ 2) t1, .int (σ 3) t2, .int (σ 5) t3, .int (σ 9) t4] [σ 2, σ 3, σ 5, σ 9] := .cons _ _ (.cons _ _ (.cons _ _ (.cons _ _ .nil)))
theorem pick_tail {v : Value} {vs : List Value} : kms_pick (v :: vs) (some 1) none = vs := by
  have h1 : kms_lo (some 1) (v :: vs).length = 1 := by simp [kms_lo]
  have h2 : kms_hi none (v :: vs).length = vs.length + 1 := by simp [kms_hi]
  unfold kms_pick
  rw [h1, h2]
  simp
theorem StepsIn.len {news : List (Addr × Obj)} {vs : List Value} {cs : List (Int × Int)} (x : StepsIn news vs cs) : vs.length = cs.length := by
  induction x with
  | nil => rfl
  | cons _ _ ih => simp [ih]
theorem StepsIn.snoc {news : List (Addr × Obj)} {vs : List Value} {cs : List (Int × Int)} {a : Addr} {k n : Int} {t1 t2 : Tok} {c : Nat} (x : StepsIn news vs cs) (h : (a, tupO [.int k t1, .int n t2] c) ∈ news) : StepsIn news (vs ++ [.ref a]) (cs ++ [(k, n)]) := by
  induction x with
  | nil => exact .cons h .nil
  | cons hm _ ih => exact .cons hm ih
theorem end_ways {P : Params} {h₀ h : Heap} {L I xj dj jv jo jl jn wt rl : Addr} {o : Obj} {led Λ : List (Addr × Obj)} {f : Cf} {au9 : Bool} {p1 p2 p3 p4 vsw vr : List Value} {n1 n2 n3 n4 nw nr : Nat} {t1 t2 t3 t4 t5 : Tok} (N : News h₀ L h led) (hI : (I, o) ∈ led) (hΛ : ∀ p ∈ Λ, p ∈ led) (hoff : ∀ p ∈ Λ, p.1 ≠ I) (ho : o.cls = .type "range_iterator")
    (h8 : ∀ p ∈ [(xj, instObj 183 dj), (dj, cfD P jv jo jl jn au9 t1 t2 t3 t4 t5), (jv, listO p1 n1), (jo, listO p2 n2), (jl, listO p3 n3), (jn, listO p4 n4), (wt, listO vsw nw), (rl, listO vr nr)], p ∈ led) (i1 : IntsAre p1 (ids f.v)) (i2 : IntsAre p2 (ids f.o)) (i3 : IntsAre p3 (ids f.l)) (i4 : IntsAre p4 (ids f.n)) (hau : au9 = f.au) :
    ∃ nx, News h₀ L h ((I, o) :: nx) ∧ (∀ p ∈ nx, p.1 ≠ I) ∧ (∀ p ∈ Λ, p ∈ nx) ∧ (wt, listO vsw nw) ∈ nx ∧ (rl, listO vr nr) ∈ nx ∧ CfIn P nx xj f := by
  subst hau
  refine ⟨[(xj, instObj 183 dj), (dj, cfD P jv jo jl jn f.au t1 t2 t3 t4 t5), (jv, listO p1 n1), (jo, listO p2 n2), (jl, listO p3 n3), (jn, listO p4 n4), (wt, listO vsw nw), (rl, listO vr nr)] ++ Λ, sub N (sc hI (List.forall_mem_append.mpr ⟨h8, hΛ⟩)), List.forall_mem_append.mpr ⟨fun p hp e => ?_, hoff⟩, fun p hp => List.mem_append_right _ hp, by simp, by simp, ?_⟩
  · have := news_same N (h8 p hp) hI e
    subst this
    simp only [List.mem_cons, List.not_mem_nil, or_false, Prod.mk.injEq] at hp
    rcases hp with ⟨_, e⟩ | ⟨_, e⟩ | ⟨_, e⟩ | ⟨_, e⟩ | ⟨_, e⟩ | ⟨_, e⟩ | ⟨_, e⟩ | ⟨_, e⟩ <;> (rw [e] at ho; simp at ho)
  · exact ⟨_, _, _, _, _, _, _, _, _, _, _, _, _, _, _, _, _, _, .head _, .tail _ (.head _), .tail _ (.tail _ (.head _)), .tail _ (.tail _ (.tail _ (.head _))), .tail _ (.tail _ (.tail _ (.tail _ (.head _)))), .tail _ (.tail _ (.tail _ (.tail _ (.tail _ (.head _))))), i1, i2, i3, i4⟩
theorem left_of {P : Params} {g h : Heap} {L lf : Addr} {m : Str → Option Value} {news : List (Addr × Obj)} {f : Cf} (_F : Fr g L h m) (_N : News g L h news) (hm : m (Str.ofString "left") = some (.ref lf)) (hc : CfIn P news lf f) : ∃ lf, m (Str.ofString "left") = some (.ref lf) ∧ CfIn P news lf f := ⟨lf, hm, hc⟩
theorem good_one {ν : Int → Int} (hn : Rol ν) {k : Int} (hk : k ∈ IDs) : ∀ c ∈ [stp ν k], GoodC c := fun c hc => by
  rw [List.mem_singleton.mp hc]
  exact ⟨stepOf_ok (hn k hk), hk⟩
theorem WaySt.len {ν σ : Int → Int} {ws : List Int} {r : Nat} (h : WaySt ν σ ws r) : ws.length ≤ r := by
  obtain ⟨_, _, _, _, _, hr⟩ := h
  rcases hr with hr | ⟨hr, _⟩
  · exact Nat.le_of_lt hr
  · exact hr
theorem wait_room {L3 : List (Addr × Obj)} {vs : List Value} {ν : Int → Int} {ws : List Int} {a : Addr} (x : StepsIn L3 vs (ws.map (stp ν))) (h4 : ws.length ≤ 4) : vs.length + [Value.ref a].length ≤ sizeLine := by
  have h1 := x.len
  rw [List.length_map] at h1
  rw [sizeLine_eq, List.length_singleton]
  omega
theorem wait_fit {L3 : List (Addr × Obj)} {vs : List Value} {ν : Int → Int} {ws : List Int} {a : Addr} (x : StepsIn L3 vs (ws.map (stp ν))) (h4 : ws.length ≤ 4) : (((Value.ref a :: vs).length : Nat) : Int) < 2 ^ 63 := by
  have h1 := x.len
  rw [List.length_map] at h1
  rw [List.length_cons]
  omega
theorem wait_size {L3 : List (Addr × Obj)} {vs : List Value} {ν : Int → Int} {ws : List Int} {a : Addr} (x : StepsIn L3 vs (ws.map (stp ν))) (h4 : ws.length ≤ 4) : (Value.ref a :: vs).toArray.size ≤ sizeLine := by
  have h1 := x.len
  rw [List.length_map] at h1
  rw [List.size_toArray, List.length_cons, sizeLine_eq]
  omega
theorem wait_pos {a : Addr} {vs : List Value} : 0 < (((Value.ref a :: vs).length : Nat) : Int) := by
  rw [List.length_cons]
  omega
theorem five_pack {g h : Heap} {L c1 c2 ol nl : Addr} {oc1 oc2 : Obj} {news rest : List (Addr × Obj)} (N : News g L h news) (_h1 : oc1.data = .cell (some (.ref ol))) (_h2 : oc2.data = .cell (some (.ref nl))) (h2 : ∀ p ∈ [(c1, oc1), (c2, oc2)], p ∈ news) (hr : ∀ p ∈ rest, p ∈ news) : (∀ p ∈ (c1, oc1) :: (c2, oc2) :: rest, p ∈ news) ∧ News g L h ((c1, oc1) :: (c2, oc2) :: rest) :=
  ⟨(ac (h2 _ (.head _)) (ac (h2 _ (.tail _ (.head _))) hr)), sub N (sc (h2 _ (.head _)) (sc (h2 _ (.tail _ (.head _))) hr))⟩
section
variable {prog : Program} {w : World} {A : Around} {E : Value → Shared → Prop} {s : Shared} {h₀ : Heap} {L D : Addr} {m : Str → Option Value} {its : Array Value} {n : Nat} {K : Frag}
theorem ids_method {name : Str} {id : String} {pl : Sem Bool} {Q : Value × List Value → Shared → Prop} (X : K.In h₀) (F : Fr h₀ L s.heap m) (ho : K.lookup D = some (listOf its n)) (slot : Slot "list" name id) (hty : typeOf (.builtin id) = pure (.type "method_descriptor"))
    (h : Q (.builtin id, [.ref D]) s) : wpAny (model prog w) A (getMethod (.ref D) name pl) Q E s := by
  have hg : s.heap.get? D = some (listOf its n) := F.keep _ _ (X _ _ ho)
  exact getMethod_builtin ⟨_, hg, rfl⟩ PySem.F.plainAttrs_list slot hty (fun a e => by cases e; exact ⟨_, hg, rfl⟩) h
theorem ids_index {k i : Int} {t : Tok} {j : Nat} {Q : Value → Shared → Prop} (X : K.In h₀) (F : Fr h₀ L s.heap m) (ho : K.lookup D = some (listOf its n)) (hi : kf_ints its.toList = true) (e : kf_at k its.toList = some j) (ei : (j : Int) = i) (hz : its.toList.length ≤ 64)
    (h : Q (.int i s.toks) { s with toks := s.toks + 1 }) : wpAny (model prog w) A (call (.builtin "list.index") [.ref D, .int k t]) Q E s := by
  have hg : s.heap.get? D = some (listOf its n) := F.keep _ _ (X _ _ ho)
  obtain ⟨a, b, c⟩ := kf_at_spec e
  have hs : its.toList.length = its.size := Array.length_toList
  subst ei
  refine call_meets PySem.F.slot_list_index ⟨_, hg, rfl⟩ PySem.F.entry_list_index (PySem.F.args_list_index_2 _ _)
    (MeetsSeq.list_index D its n (.int k t) (isInt k) (fun y hy => kf_eq hi y (by simpa using hy)) j (by omega) (by omega) (by simpa using b) (fun i hi hlt => (c i (by omega) hlt : isInt k its.toList[i] = false))) ⟨hg, h⟩
end
theorem words_pure6_1 : True := by
  k_with "my roles" => first | exact ints_upd2 | exact ints_upd3 | exact ints_upd5 | exact ints_r | assumption
  k_with "exec For Name Call cons nil" => ((with_reducible rename Flag "my gfor" => hz9); k_here; (with_unfolding_all refine' For_g ?_; k_whole))
  k_with "subscriptTail Name Slice ref ref" => ((with_reducible rename Flag "my tail" => hz9); (with_reducible show wpAny _ _ (subscriptTail (Expr.Name (Str.ofString "waiting") _) (PySem.Expr.Slice _ _ none _) (Value.ref _) (Value.ref _)) _ _ _); k_dflt (refine' kms_slice_lit ?Fqbd2287 ?Nqbd2287 ?lqbd2287 ?pqbd2287 ?qqbd2287 ?eqbd2287 ?_ ?sqbd2287 ?tqbd2287 ?zqbd2287; (case Fqbd2287 => k_asm); (case Nqbd2287 => k_asm); (case lqbd2287 => exact News.isList (by k_asm) (by k_extra "mem")); (case pqbd2287 => kmk_part); (case qqbd2287 => kmk_part); (case eqbd2287 => exact pick_tail); (case sqbd2287 => with_unfolding_all rfl); (case tqbd2287 => kmk_pure); (case zqbd2287 => k_asm)); intro D'9 h'9 F'9 N'9 l19; clear l19; (try k_sweep))
  k_with "subscriptTail Name Slice ref ref" => ((with_reducible rename Flag "my tail" => hz9); (with_reducible show wpAny _ _ (subscriptTail (Expr.Name (Str.ofString "roles") _) (PySem.Expr.Slice _ _ none _) (Value.ref _) (Value.ref _)) _ _ _); k_dflt (refine' kms_slice_lit ?Fq450ad0 ?Nq450ad0 ?lq450ad0 ?pq450ad0 ?qq450ad0 ?eq450ad0 ?_ ?sq450ad0 ?tq450ad0 ?zq450ad0; (case Fq450ad0 => k_asm); (case Nq450ad0 => k_asm); (case lq450ad0 => exact News.isList (by k_asm) (by k_extra "mem")); (case pq450ad0 => kmk_part); (case qq450ad0 => kmk_part); (case eq450ad0 => kl_lit); (case sq450ad0 => with_unfolding_all rfl); (case tq450ad0 => kmk_pure); (case zq450ad0 => exact Nat.le_of_ble_eq_true rfl)); intro D'9 h'9 F'9 N'9 l19; clear l19; (try k_sweep))
  k_with "call builtin:len" => ((with_reducible rename Flag "my tail" => hz9); (with_reducible show wpAny _ _ (call (Value.builtin "len") [Value.ref _]) _ _ _); k_dflt (refine' kst_len ?k1qb1dc0f ?k2qb1dc0f ?k3qb1dc0f ?k4qb1dc0f ?_; (case k1qb1dc0f => k_asm); (case k2qb1dc0f => k_memK); (case k3qb1dc0f => exact rfl); (case k4qb1dc0f => k_asm); k_whole))
  k_with "getMethod ref" => ((with_reducible rename Flag "my tail" => hz9); (with_reducible show wpAny _ _ (getMethod (Value.ref 333) (PySem.Str.ofString "index") _) _ _ _); k_dflt (refine' ids_method ?Xq964021 ?Fq964021 ?oq964021 PySem.F.slot_list_index PySem.F.type_list_index ?_; (case Fq964021 => k_asm); (case Xq964021 => k_asm); (case oq964021 => k_is)))
  k_with "call builtin:list.index" => ((with_reducible rename Flag "my tail" => hz9); k_dflt (show wpAny _ _ (call (Value.builtin "list.index") [Value.ref 333, Value.int _ _]) _ _ _); k_dflt (refine' ids_index ?Xq5b4761 ?Fq5b4761 ?oq5b4761 ?iq5b4761 ?eq5b4761 ?cq5b4761 ?zq5b4761 ?_; (case Fq5b4761 => k_asm); (case Xq5b4761 => k_asm); (case oq5b4761 => k_is); (case iq5b4761 => rfl); (case eq5b4761 => kf_find); (case cq5b4761 => kf_int); (case zq5b4761 => decide)))
  trivial
/-- a member's place among the four -/
noncomputable def ix (k : Int) : Int := if k = 2 then 0 else if k = 3 then 1 else 2
theorem ix_cases (k : Int) : ix k = 0 ∨ ix k = 1 ∨ ix k = 2 := by
  unfold ix
  split
  · exact .inl rfl
  · split
    · exact .inr (.inl rfl)
    · exact .inr (.inr rfl)
theorem ix_at {k : Int} (hk : k = 2 ∨ k = 3 ∨ k = 5) : idAt (ix k) = k := by
  rcases hk with rfl | rfl | rfl <;> rfl
theorem ix_nn (k : Int) : 0 ≤ ix k := by rcases ix_cases k with e | e | e <;> omega
theorem ix_lt (k : Int) : ix k < 4 := by rcases ix_cases k with e | e | e <;> omega
noncomputable def loR (k : Int) (vs : List Value) : List Value := vs.take (ix k).toNat
noncomputable def hiR (k : Int) (vs : List Value) : List Value := vs.drop ((ix k).toNat + 1)
theorem pick_lo {k : Int} {a b c d : Value} : kms_pick [a, b, c, d] none (some (ix k)) = loR k [a, b, c, d] := by
  unfold loR
  rcases ix_cases k with e | e | e <;> (rw [e]; rfl)
theorem pick_hi {k : Int} {a b c d : Value} : kms_pick [a, b, c, d] (some (ix k + 1)) none = hiR k [a, b, c, d] := by
  unfold hiR
  rcases ix_cases k with e | e | e <;> (rw [e]; rfl)
theorem lo_room {k : Int} {a b c d v : Value} : (loR k [a, b, c, d]).length + [v].length ≤ sizeLine := by
  unfold loR
  rw [sizeLine_eq]
  rcases ix_cases k with e | e | e <;> (rw [e]; exact Nat.le_of_ble_eq_true rfl)
theorem hi_room {k : Int} {a b c d v : Value} : (loR k [a, b, c, d] ++ [v]).length + (hiR k [a, b, c, d]).length ≤ sizeLine := by
  unfold loR hiR
  rw [sizeLine_eq]
  rcases ix_cases k with e | e | e <;> (rw [e]; exact Nat.le_of_ble_eq_true rfl)
theorem ints_after {σ : Int → Int} {k r : Int} {t t1 t2 t3 t4 : Tok} (hk : k = 2 ∨ k = 3 ∨ k = 5) : IntsAre ((loR k [.int (σ 2) t1, .int (σ 3) t2, .int (σ 5) t3, .int (σ 9) t4] ++ [.int r t]) ++ hiR k [.int (σ 2) t1, .int (σ 3) t2, .int (σ 5) t3, .int (σ 9) t4]) [upd σ k r 2, upd σ k r 3, upd σ k r 5, upd σ k r 9] := by
  rcases hk with rfl | rfl | rfl
  · exact .cons _ _ (.cons _ _ (.cons _ _ (.cons _ _ .nil)))
  · exact .cons _ _ (.cons _ _ (.cons _ _ (.cons _ _ .nil)))
  · exact .cons _ _ (.cons _ _ (.cons _ _ (.cons _ _ .nil)))
theorem end_ways2 {P : Params} {h₀ h : Heap} {L I xj dj jv jo jl jn wt rl lf : Addr} {o : Obj} {led Λ : List (Addr × Obj)} {f : Cf} {au9 : Bool} {m : Str → Option Value} {p1 p2 p3 p4 vsw vr : List Value} {n1 n2 n3 n4 nw nr : Nat} {t1 t2 t3 t4 t5 : Tok} (_F : Fr h₀ L h m) (e1 : m (Str.ofString "waiting") = some (.ref wt)) (e2 : m (Str.ofString "roles") = some (.ref rl)) (e3 : m (Str.ofString "at") = some (.ref xj)) (e4 : m (Str.ofString "left") = some (.ref lf)) (N : News h₀ L h led) (hI : (I, o) ∈ led) (hΛ : ∀ p ∈ Λ, p ∈ led) (hoff : ∀ p ∈ Λ, p.1 ≠ I) (ho : o.cls = .type "range_iterator")
    (h8 : ∀ p ∈ [(xj, instObj 183 dj), (dj, cfD P jv jo jl jn au9 t1 t2 t3 t4 t5), (jv, listO p1 n1), (jo, listO p2 n2), (jl, listO p3 n3), (jn, listO p4 n4), (wt, listO vsw nw), (rl, listO vr nr)], p ∈ led) (i1 : IntsAre p1 (ids f.v)) (i2 : IntsAre p2 (ids f.o)) (i3 : IntsAre p3 (ids f.l)) (i4 : IntsAre p4 (ids f.n)) (hau : au9 = f.au) :
    ∃ nx, (∀ q ∈ [(Str.ofString "left", Value.ref lf), (Str.ofString "waiting", Value.ref wt), (Str.ofString "roles", Value.ref rl), (Str.ofString "at", Value.ref xj)], m q.1 = some q.2) ∧ News h₀ L h ((I, o) :: nx) ∧ (∀ p ∈ nx, p.1 ≠ I) ∧ (∀ p ∈ Λ, p ∈ nx) ∧ (wt, listO vsw nw) ∈ nx ∧ (rl, listO vr nr) ∈ nx ∧ CfIn P nx xj f := by
  subst hau
  obtain ⟨nx, h⟩ := end_ways N hI hΛ hoff ho h8 i1 i2 i3 i4 rfl
  exact ⟨nx, fr_cons e4 (fr_cons e1 (fr_cons e2 (fr_cons e3 (an)))), h⟩
section
variable {prog : Program} {w : World} {A : Around} {E : Value → Shared → Prop} {s : Shared} {h₀ : Heap} {L D l : Addr} {m : Str → Option Value} {its : Array Value} {vs : List Value} {news : List (Addr × Obj)} {n : Nat} {K : Frag}
theorem ids_ix {k : Int} {t : Tok} {Q : Value → Shared → Prop} (hk : k = 2 ∨ k = 3 ∨ k = 5) (X : K.In h₀) (F : Fr h₀ L s.heap m) (ho : K.lookup D = some (listOf its n)) (hi : kf_ints its.toList = true) (e2 : kf_at 2 its.toList = some 0) (e3 : kf_at 3 its.toList = some 1) (e5 : kf_at 5 its.toList = some 2) (hz : its.toList.length ≤ 64)
    (h : Q (.int (ix k) s.toks) { s with toks := s.toks + 1 }) : wpAny (model prog w) A (call (.builtin "list.index") [.ref D, .int k t]) Q E s := by
  rcases hk with rfl | rfl | rfl
  · exact ids_index X F ho hi e2 rfl hz h
  · exact ids_index X F ho hi e3 rfl hz h
  · exact ids_index X F ho hi e5 rfl hz h
theorem item_ix {value slice : Expr} {ρ : Int → Int} {k : Int} {u : Tok} {Q : Value → Shared → Prop} (hk : k = 2 ∨ k = 3 ∨ k = 5) (N : News h₀ L s.heap news) (hm : (l, listO vs n) ∈ news) (hi : IntsAre vs [ρ 2, ρ 3, ρ 5, ρ 9]) (h : ∀ t, Q (.int (ρ k) t) s)
    (hs : subscripted slice false (.ref l) (.int (ix k) u) = operate [.ref l, .int (ix k) u] (getItem (.ref l) (.int (ix k) u)) := by with_unfolding_all rfl) : wpAny (model prog w) A (subscriptTail value slice (.ref l) (.int (ix k) u)) Q E s :=
  item_role N hm hi (ix_nn k) (ix_lt k) (fun t => by rw [ix_at hk]; exact h t) hs
theorem notin_T {ns : List Int} {k : Int} {t : Tok} {Q : Value → Shared → Prop} (hl : s.heap.IsList l vs.toArray) (hi : IntsAre vs ns) (hn : k ∉ ns) (h : Q (.bool true) s) : wpAny (model prog w) A (compareOp .NotIn (.int k t) (.ref l)) Q E s :=
  notin_list_ints hl hi (by
    have e : ns.any (· == k) = false := by
      rw [List.any_eq_false]
      intro x hx z
      exact hn (eq_of_beq z ▸ hx)
    rw [e]
    exact h)
theorem notin_F {ns : List Int} {k : Int} {t : Tok} {Q : Value → Shared → Prop} (hl : s.heap.IsList l vs.toArray) (hi : IntsAre vs ns) (hn : k ∈ ns) (h : Q (.bool false) s) : wpAny (model prog w) A (compareOp .NotIn (.int k t) (.ref l)) Q E s :=
  notin_list_ints hl hi (by
    have e : ns.any (· == k) = true := by
      rw [List.any_eq_true]
      exact ⟨k, hn, beq_self_eq_true k⟩
    rw [e]
    exact h)
end
theorem words_pure7_1 : True := by
  k_with "my roles" => first | exact ints_after (by k_asm) | exact ints_r | assumption
  k_with "subscriptTail Name Slice ref ref" => ((with_reducible rename Flag "my tail" => hz9); (with_reducible show wpAny _ _ (subscriptTail (Expr.Name (Str.ofString "roles") _) (PySem.Expr.Slice none _ none _) (Value.ref _) (Value.ref _)) _ _ _); k_dflt (refine' kms_slice_lit ?Fq80cf07 ?Nq80cf07 ?lq80cf07 ?pq80cf07 ?qq80cf07 ?eq80cf07 ?_ ?sq80cf07 ?tq80cf07 ?zq80cf07; (case Fq80cf07 => k_asm); (case Nq80cf07 => k_asm); (case lq80cf07 => exact News.isList (by k_asm) (by k_extra "mem")); (case pq80cf07 => kmk_part); (case qq80cf07 => kmk_part); (case eq80cf07 => exact pick_lo); (case sq80cf07 => with_unfolding_all rfl); (case tq80cf07 => kmk_pure); (case zq80cf07 => exact Nat.le_of_ble_eq_true rfl)); intro D'9 h'9 F'9 N'9 l19; clear l19; (try k_sweep))
  k_with "subscriptTail Name Slice ref ref" => ((with_reducible rename Flag "my tail" => hz9); (with_reducible show wpAny _ _ (subscriptTail (Expr.Name (Str.ofString "roles") _) (PySem.Expr.Slice _ none none _) (Value.ref _) (Value.ref _)) _ _ _); k_dflt (refine' kms_slice_lit ?Fqa86021 ?Nqa86021 ?lqa86021 ?pqa86021 ?qqa86021 ?eqa86021 ?_ ?sqa86021 ?tqa86021 ?zqa86021; (case Fqa86021 => k_asm); (case Nqa86021 => k_asm); (case lqa86021 => exact News.isList (by k_asm) (by k_extra "mem")); (case pqa86021 => kmk_part); (case qqa86021 => kmk_part); (case eqa86021 => exact pick_hi); (case sqa86021 => with_unfolding_all rfl); (case tqa86021 => kmk_pure); (case zqa86021 => exact Nat.le_of_ble_eq_true rfl)); intro D'9 h'9 F'9 N'9 l19; clear l19; (try k_sweep))
  k_with "call builtin:list.index" => ((with_reducible rename Flag "my tail" => hz9); k_dflt (show wpAny _ _ (call (Value.builtin "list.index") [Value.ref 333, Value.int _ _]) _ _ _); k_dflt (refine' ids_ix ?hkq85830a ?Xq85830a ?Fq85830a ?oq85830a ?iq85830a ?e2q85830a ?e3q85830a ?e5q85830a ?zq85830a ?_; (case hkq85830a => k_asm); (case Fq85830a => k_asm); (case Xq85830a => k_asm); (case oq85830a => k_is); (case iq85830a => rfl); (case e2q85830a => kf_find); (case e3q85830a => kf_find); (case e5q85830a => kf_find); (case zq85830a => decide)))
  k_with "subscriptTail Name Name ref int" => ((with_reducible rename Flag "my tail" => hz9); (with_reducible show wpAny _ _ (subscriptTail _ _ (Value.ref _) (Value.int (ix _) _)) _ _ _); k_dflt (refine' item_ix ?hkq24b697 ?k1q24b697 ?k2q24b697 ?k3q24b697 ?_ ?k8q24b697; (case hkq24b697 => k_asm); (case k1q24b697 => k_asm); (case k2q24b697 => k_extra "mem"); (case k3q24b697 => k_asm); (case k8q24b697 => with_unfolding_all rfl); k_whole); intro t'9)
  k_with "binaryOp Add ref ref" => ((with_reducible rename Flag "my tail" => hz9); (with_reducible show wpAny _ _ (binaryOp _ (Value.ref _) (Value.ref _)) _ _ _); k_dflt (refine' add_any ?Fq9b294e ?Nq9b294e ?aq9b294e ?bq9b294e ?zq9b294e ?_; (case Fq9b294e => k_asm); (case Nq9b294e => k_asm); (case aq9b294e => k_extra "mem"); (case bq9b294e => k_extra "mem"); (case zq9b294e => first | exact lo_room | exact hi_room | assumption); k_whole); intro D'9 h'9 F'9 N'9 l19; clear l19; (try k_sweep))
  k_with "compareOp NotIn int ref" => ((with_reducible rename Flag "my tail" => hz9); k_dflt (refine' notin_T ?lqa7a435 ?iqa7a435 ?hqa7a435 ?_; (case lqa7a435 => exact News.isList (by k_asm) (by k_extra "mem")); (case iqa7a435 => walk_at "my roles"); (case hqa7a435 => k_asm)))
  k_with "compareOp NotIn int ref" => ((with_reducible rename Flag "my tail" => hz9); k_dflt (refine' notin_F ?lq73686a ?iq73686a ?hq73686a ?_; (case lq73686a => exact News.isList (by k_asm) (by k_extra "mem")); (case iq73686a => walk_at "my roles"); (case hq73686a => k_asm)))
  k_with "newList" => ((with_reducible rename Flag "my tail" => hz9); (with_reducible show wpAny _ _ (newList [_]) _ _ _); k_dflt (refine' newList_K ?k1q751044 ?k2q751044 ?_ ?zq751044; (case zq751044 => exact Nat.le_of_ble_eq_true rfl); (case k1q751044 => k_asm); (case k2q751044 => k_asm); k_whole); intro l'9 h'9 F'9 N'9 l19; clear l19; (try k_sweep))
  k_with "call ref" => ((with_reducible rename Flag "my wait" => hz9); k_here; (with_reducible show wpAny _ _ (call (Value.ref 241) _) _ _ _); k_dflt (refine' simple_bad (f := ⟨_, _, _, _, _⟩) ⟨?Bqat, ?Fqat, ?Xqat, ?Nqat, ?Tqat, ?dqat, ?uqat⟩ ?h1qb26695 ?h2qb26695 ?hcqb26695 ?hsqb26695 ?hvqb26695 ?h3qb26695 ?hstqb26695 ?hcsqb26695 ?hs2qb26695 ?ebqb26695 ?_; walk_at "my at"; (case h1qb26695 => k_extra "mem"); (case h2qb26695 => k_extra "mem"); (case hcqb26695 => walk_at "my cf"); (case hsqb26695 => walk_at "my sound"); (case hvqb26695 => k_asm); (case h3qb26695 => k_extra "mem"); (case hstqb26695 => walk_at "my steps at"); (case hcsqb26695 => k_asm); (case hs2qb26695 => walk_at "my sound2"); (case ebqb26695 => exact .inr (.inl (by k_asm))); k_whole); walk_at "my err in")
  k_with "call ref" => ((with_reducible rename Flag "my go" => hz9); k_here; (with_reducible show wpAny _ _ (call (Value.ref 241) _) _ _ _); k_dflt (refine' simple_ok (f := ⟨_, _, _, _, _⟩) ⟨?Bqat, ?Fqat, ?Xqat, ?Nqat, ?Tqat, ?dqat, ?uqat⟩ ?h1qf4f536 ?h2qf4f536 ?hcqf4f536 ?hsqf4f536 ?hvqf4f536 ?h3qf4f536 ?hstqf4f536 ?hcsqf4f536 ?hs2qf4f536 ?egqf4f536 ?smqf4f536 ?_; walk_at "my at"; (case h1qf4f536 => k_extra "mem"); (case h2qf4f536 => k_extra "mem"); (case hcqf4f536 => walk_at "my cf"); (case hsqf4f536 => walk_at "my sound"); (case hvqf4f536 => k_asm); (case h3qf4f536 => k_extra "mem"); (case hstqf4f536 => walk_at "my steps at"); (case hcsqf4f536 => k_asm); (case hs2qf4f536 => walk_at "my sound2"); (case egqf4f536 => exact ⟨ids_none, by assumption, by assumption⟩); (case smqf4f536 => k_asm); k_whole); intro r'9 tl'9 h'9 tk'9 F'9 N'9 hc'9; k_whole; refine cf_open N'9 hc'9 ?_; clear N'9 hc'9; walk_at "my cf in")
  trivial
/-- between two orders -/
inductive OrdInv (P : Params) (GG : Heap → Prop) (names : List (Str × Value)) (items : List Value) (Λ : List (Addr × Obj)) (ν : Int → Int) (fj : Cf) (rr : List Value) (g : Heap) (m : Str → Option Value) (nx : List (Addr × Obj)) : Prop
  | mk (hs : ∀ v ∈ rr, v ∈ items) (hG : GG g) (hm : ∀ q ∈ names, m q.1 = some q.2) (hn : ∀ p ∈ Λ, p ∈ nx) (hj : rr.length < 6 → (ids (Cf.of ν).v = [] ∧ m (Str.ofString "joint") = some .none) ∨ (ids (Cf.of ν).v ≠ [] ∧ ∃ xj, m (Str.ofString "joint") = some (.ref xj) ∧ CfIn P nx xj fj))
/-- between two single steps -/
inductive WayInv (P : Params) (GG : Heap → Prop) (ν : Int → Int) (lf : Addr) (Λ stps : List (Addr × Obj)) (i : Nat) (g : Heap) (m : Str → Option Value) (nx : List (Addr × Obj)) : Prop
  | mk (σ : Int → Int) (ws : List Int) (at_ wt rl : Addr) (vsw : List Value) (nw : Nat) (vr : List Value) (nr : Nat) (hG : GG g) (hW : WaySt ν σ ws (4 - i)) (hm : ∀ q ∈ [(Str.ofString "left", Value.ref lf), (Str.ofString "waiting", Value.ref wt), (Str.ofString "roles", Value.ref rl), (Str.ofString "at", Value.ref at_)], m q.1 = some q.2)
    (hn : ∀ p ∈ Λ, p ∈ nx) (h1 : (wt, listO vsw nw) ∈ nx) (hs : StepsIn stps vsw (ws.map (stp ν))) (h2 : (rl, listO vr nr) ∈ nx) (hi : IntsAre vr [σ 2, σ 3, σ 5, σ 9]) (hc : CfIn P nx at_ (Cf.of σ))
/-- what is kept over a cut -/
inductive KeepInv (GG : Heap → Prop) (names : List (Str × Value)) (Λ : List (Addr × Obj)) (g : Heap) (m : Str → Option Value) (nx : List (Addr × Obj)) : Prop
  | mk (hG : GG g) (hm : ∀ q ∈ names, m q.1 = some q.2) (hn : ∀ p ∈ Λ, p ∈ nx)
section
variable {w : World} {mean : ExcName → Option Value} {mg mb : Str → Option Value}
   {dp un : Nat} {gd : Option (List Code)} {cn : Str} {nm : List (Str × NameKind)} {ig ic : Bool} {mo : List (Str × Const)} {a : Addr} {ccd : Value} {cl : List (Str × Addr)} {outer : List Env} {A₀ : Around} {base h₀ : Heap} {L : Addr} {m : Str → Option Value} {s : Shared} {Q E : Value → Shared → Prop} {news : List (Addr × Obj)}
theorem ways_spec (H : At 80 w mean mg mb A₀ base h₀ outer L m s news dp un) (XB : (Mine.frag w.params).In base) (TB : Top Mine.view (looseW Mine.view LR) mean mg mb base) (D : KtsDicts (outer.filterMap (·.frame)) h₀)
   {ol nl sl : Addr} {vo vn vs : List Value} {no nn ns : Nat} {ρ ν : Int → Int} {au : Bool} {wh : Int} {tw : Tok} {cs : List (Int × Int)}
   (h1 : (ol, listO vo no) ∈ news) (i1 : IntsAre vo [ρ 2, ρ 3, ρ 5, ρ 9]) (h2 : (nl, listO vn nn) ∈ news) (i2 : IntsAre vn [ν 2, ν 3, ν 5, ν 9]) (h3 : (sl, listO vs ns) ∈ news) (hst : StepsAt s.heap vs cs) (hcs : Noise cs)
   (hr : Rol ρ) (hn : Rol ν) (h9 : ν 9 = ρ 9) (hv : ids (Cf.of ρ).v ≠ []) (hw : 0 ≤ wh) (hw2 : wh < 6)
   (ret : ∀ h₀' h' tk', KtsTurn (outer.filterMap (·.frame)) h₀ h₀' → Fr h₀' L h' m → News h₀' L h' news → Below A₀ base outer h₀' → (Mine.frag w.params).In h₀' → Top Mine.view (looseW Mine.view LR) mean mg mb h₀' → KtsDicts (outer.filterMap (·.frame)) h₀' → Q (.bool true) { s with heap := h', toks := tk' }) :
   CallA w dp un gd cn nm ig ic mo L a ccd cl outer 386 [.ref ol, .ref nl, .ref sl, .bool au, .int wh tw] Q E s := by
  have z := zz
  revert z
  k_fill
  intro _
  w_on
  obtain ⟨B, F, X, N, T, hd, hu⟩ := H
  unfold CallA
  have nextOn : NextOn := ⟨⟩
  have n2 : 0 ≤ ν 2 ∧ ν 2 < 3 := by rcases hn 2 (by decide) with e | e | e <;> omega
  have n3 : 0 ≤ ν 3 ∧ ν 3 < 3 := by rcases hn 3 (by decide) with e | e | e <;> omega
  have n5 : 0 ≤ ν 5 ∧ ν 5 < 3 := by rcases hn 5 (by decide) with e | e | e <;> omega
  have r2 : 0 ≤ ρ 2 ∧ ρ 2 < 3 := by rcases hr 2 (by decide) with e | e | e <;> omega
  have r3 : 0 ≤ ρ 3 ∧ ρ 3 < 3 := by rcases hr 3 (by decide) with e | e | e <;> omega
  have r5 : 0 ≤ ρ 5 ∧ ρ 5 < 3 := by rcases hr 5 (by decide) with e | e | e <;> omega
  obtain ⟨r2a, r2b⟩ := r2
  obtain ⟨r3a, r3b⟩ := r3
  obtain ⟨r5a, r5b⟩ := r5
  obtain ⟨n2a, n2b⟩ := n2
  obtain ⟨n3a, n3b⟩ := n3
  obtain ⟨n5a, n5b⟩ := n5
  refine wpAny_call ?_
  have hO : ∀ p ∈ ([(ol, listO vo no), (nl, listO vn nn), (sl, listO vs ns)] : List (Addr × Obj)), p ∈ news := sc (h1) (sc (h2) (sc (h3) (sn)))
  k_dflt walk_at "own TC"
  have flg : Flag "my compT" := ⟨⟩
  have flg : Flag "my turns" := ⟨⟩
  have flg : Flag "my tuple" := ⟨⟩
  walk_at "my steps"
  (repeat ((with_reducible rename Flag _ => hz9); clear hz9))
  unfold Hold
  refine LCt.CompSrcT.range (by rfl) (by k_asm) (by k_asm) (by assumption) (by decide) (by rfl) (by rw [sizeLine_eq]; decide) ?_
  intro g'
  refine' kci_range (GP (fun i => ν i == 2 && ρ i != 1)) (fun k' t' I' oI' C' oC' D' m' ys' l' h' tk' E' hlo' hhi' hI' hC' hx' F' N' off' ne' hMark' => ?turn) ?fin GF.grows
  case turn =>
    have hhi : k' < 4 := hhi'
    clear hhi'
    have flg : Flag "my role" := ⟨⟩
    walk_at "my steps"
    (repeat ((with_reducible rename Flag _ => hz9); clear hz9))
  case fin =>
    unfold KPfDone
    intro ys hys hyl
    have hys1 : IntsAre ys (ids (fun i => ν i == 2 && ρ i != 1)) := by rw [← fold_ids]; exact hys
    clear hys
    have flg : Flag "my compT" := ⟨⟩
    have flg : Flag "my tuple" := ⟨⟩
    walk_at "my steps"
    (repeat ((with_reducible rename Flag _ => hz9); clear hz9))
    unfold Hold
    refine LCt.CompSrcT.range (by rfl) (by k_asm) (by k_asm) (by assumption) (by decide) (by rfl) (by rw [sizeLine_eq]; decide) ?_
    intro g'
    refine' kci_range (GP (fun i => ν i == 2 && ρ i == 1)) (fun k' t' I' oI' C' oC' D' m' ys' l' h' tk' E' hlo' hhi' hI' hC' hx' F' N' off' ne' hMark' => ?turn) ?fin GF.grows
    case turn =>
      have hhi : k' < 4 := hhi'
      clear hhi'
      have flg : Flag "my role" := ⟨⟩
      walk_at "my steps"
      (repeat ((with_reducible rename Flag _ => hz9); clear hz9))
    case fin =>
      unfold KPfDone
      intro ys2 hys2 hyl2
      have hys3 : IntsAre ys2 (ids (fun i => ν i == 2 && ρ i == 1)) := by rw [← fold_ids]; exact hys2
      clear hys2
      have flg : Flag "my gfor" := ⟨⟩
      have flg : Flag "my iter" := ⟨⟩
      walk_at "my steps"
      (repeat ((with_reducible rename Flag _ => hz9); clear hz9))
      unfold Hold
      rename Fr _ _ _ _ => F0
      rename News _ _ _ _ => N0
      rename (Obj.data _ = Data.cell (some (Value.ref ol))) => hc1
      rename (Obj.data _ = Data.cell (some (Value.ref nl))) => hc2
      rename Below _ _ _ _ => B0
      rename (KtsDicts (List.filterMap _ (_ :: _)) _) => D0
      rename Frag.In _ _ => X0
      rename Top _ _ _ _ _ _ => T0
      rename (∀ b o, Heap.get? _ b = some o → _ ∉ _ → _) => hX0
      have hst0 := hst.ground N hO hX0 (by simp)
      obtain ⟨GG, hG0, hGo, hGi⟩ := good_pack B0 X0 T0 D0 hst0
      clear hX0 hst0
      refine' ways_pack F0 N0 hc1 hc2 ?hm ?hn ?i1 ?i2 ?i3 ?i4 ?i5 ?i6 ?i7 ?i8 ?i9 ?i10 ?i11 ?i12 ?_
      (case hm => walk_at "my frame")
      (case hn => walk_at "my memall")
      (case i1 => assumption)
      (case i2 => assumption)
      (case i3 => assumption)
      (case i4 => assumption)
      (case i5 => assumption)
      (case i6 => assumption)
      (case i7 => assumption)
      (case i8 => assumption)
      (case i9 => assumption)
      (case i10 => assumption)
      (case i11 => assumption)
      (case i12 => assumption)
      intro m1 r x d lv lo ll ln f a1 a2 a3 a4 o1 o2 o3 o4 o5 o6 y1 y2 y3 j b1 b2 b3 b4 vv vp vl vq v1 v2 v3 v4 w1 w2 w3 w4 e1 e2 e3 e4 e5 e6 e7 e8 e9 k0 k1 k2 k3 k4 k5 k6 q1 q2 q3 z0 z1 z2 z3 z4 t1 t2 t3 t4 t5 u1 u2 u3 s1 s2 s3 hre F1 hm Λ mm1 mm2 mm3 mm4 mm5 mm6 mm7 mm8 mm9 mm10 mm11 mm12 mm13 mm14 mm15 mm16 mm17 mm18 mm19 mm20 mm21 mm22 mm23 mm24 mm25 mm26 mm27 mm28 mm29 mm30 mm31 N2 j1 j2 j3 j4 j5 j6 j7 j8 j9 j10 j11 j12
      subst hre
      clear F0 N0 B0 D0 X0 T0
      (repeat (rename (_ < _ ∧ _) => hz; clear hz))
      (repeat (rename (_ ≠ _ ∧ _) => hz; clear hz))
      (repeat (rename Off _ _ => hz; clear hz))
      (repeat (rename InElt _ _ => hz; clear hz))
      (repeat (rename LCg.Off3 _ _ _ _ => hz; clear hz))
      (repeat (rename LCg.NsObj _ _ => hz; clear hz))
      (repeat (rename IsRange _ _ _ _ _ _ _ _ => hz; clear hz))
      have hΛ6 : ∀ p ∈ [(o1, listO [.ref y1, .ref y2, .ref y3] k1), (o2, listO [.ref y1, .ref y3, .ref y2] k2), (o3, listO [.ref y2, .ref y1, .ref y3] k3), (o4, listO [.ref y2, .ref y3, .ref y1] k4), (o5, listO [.ref y3, .ref y1, .ref y2] k5), (o6, listO [.ref y3, .ref y2, .ref y1] k6)], p ∈ (Old Λ) := by walk_at "my memall"
      have hro : (r, listO [Value.ref o1, .ref o2, .ref o3, .ref o4, .ref o5, .ref o6] k0) ∈ (Old Λ) := by k_mem
      refine for_g (n := k0) (OrdInv w.params GG [(Str.ofString "noise", Value.ref sl), (Str.ofString "auto", Value.bool au), (Str.ofString "which", Value.int wh tw), (Str.ofString "base", Value.ref x), (Str.ofString "first", Value.ref f), (Str.ofString "orders", Value.ref r), (Str.ofString "joint_row", Value.ref j)] [Value.ref o1, .ref o2, .ref o3, .ref o4, .ref o5, .ref o6] (Old Λ) ν (jc ρ ν au)) rfl F1 N2 hro ⟨fun _ h => h, hG0, hm, fun _ h => h, fun h => absurd h (Nat.lt_irrefl 6)⟩ ?turn ?done
      case turn =>
        clear F1 N2
        intro g I v rr m nx h tk o ho hz10 Ft Nt hoff hk
        walk_at "my post"
        walk_at "my ice"
        obtain ⟨hsub, hGG, hfr, hnx, -⟩ := hz10
        obtain ⟨T0, B0, X0, P0, D0, S0⟩ := hGo g hGG
        have hv6 : ordIn ν [(o1, listO [.ref y1, .ref y2, .ref y3] k1), (o2, listO [.ref y1, .ref y3, .ref y2] k2), (o3, listO [.ref y2, .ref y1, .ref y3] k3), (o4, listO [.ref y2, .ref y3, .ref y1] k4), (o5, listO [.ref y3, .ref y1, .ref y2] k5), (o6, listO [.ref y3, .ref y2, .ref y1] k6)] [(y1, tupO [.int (stepOf (ν 2)) u1, .int 2 s1] q1), (y2, tupO [.int (stepOf (ν 3)) u2, .int 3 s2] q2), (y3, tupO [.int (stepOf (ν 5)) u3, .int 5 s3] q3)] v := ord_in v (hsub v (.head _))
        obtain ⟨ov, vs3, n3, cs3, rfl, ho6, hl3, hst3, hc3⟩ := hv6
        replace Nt := sub Nt (sc (.head _) (sc (.tail _ (hnx _ (hΛ6 _ ho6))) (fun p hp => .tail _ (hnx p hp))))
        have hoffΛ : ∀ p ∈ (Old Λ), p.1 ≠ I := fun p hp => hoff p (hnx p hp)
        replace Ft := fr_ovr hfr Ft
        have hsm := enter_jc (au := au) hr hn h9 hcs hc3
        have hgd := good_ord hn hcs hc3
        have hjs : Sound ((Cf.of ρ).enter au (cs ++ cs3)) := hsm.sound (sound_jc hv)
        have hE : ids ((Cf.of ρ).enter au (cs ++ cs3)).v = ids (Cf.of ν).v := hsm.ids.1
        have hrm := room3 S0 hcs hl3
        have hss := sound_set (ρ := ρ)
        clear hfr hnx hoff hk
        by_cases hN : ids (Cf.of ν).v = []
        case neg =>
          have hN1 : (1 : Int) ∈ [ν 2, ν 3, ν 5, ν 9] := Decidable.not_not.mp fun z => hN (none_votes.mpr z)
          have hE0 : ids ((Cf.of ρ).enter au (cs ++ cs3)).v ≠ [] := by rw [hE]; exact hN
          have flg : Flag "my add" := ⟨⟩
          have flg : Flag "my catch" := ⟨⟩
          walk_at "my steps"
          rename Fr g _ _ _ => Fe
          rename News g _ _ _ => Ne
          obtain ⟨nx, Nn, offn, subn, cfn⟩ := end_cf (f := jc ρ ν au) (Λ := (Old Λ)) Ne (by k_mem) (by walk_at "my memall") hoffΛ ho (by walk_at "my memall") (by assumption) (by assumption) (by assumption) (by assumption) rfl
          exact ⟨_, _, _, _, nx, rfl, Fe, Nn, offn, subn _ hro, fun v hv => hsub v (.tail _ hv), hGG, by walk_at "my frame", subn, fun _ => .inr ⟨hN, _, rfl, cfn⟩⟩
        case pos =>
          have hN1 := none_votes.mp hN
          have hE0 := hE.trans hN
          have flg : Flag "my add" := ⟨⟩
          have flg : Flag "my catch" := ⟨⟩
          walk_at "my steps"
          rename Fr _ _ _ _ => Fe
          rename News _ _ _ _ => Ne
          rename Below _ _ _ _ => Be
          rename Frag.In _ _ => Xe
          rename Top _ _ _ _ _ _ => Pe
          rename KtsDicts _ _ => De
          rename KtsTurn _ _ _ => Te
          exact ⟨_, _, _, _, (Old Λ), rfl, Fe, end_plain Ne (by k_mem) (by walk_at "my memall"), hoffΛ, hro, fun v hv => hsub v (.tail _ hv), hGi _ Te Be Xe Pe De, by walk_at "my frame", fun _ h => h, fun _ => .inl ⟨hN, rfl⟩⟩
      case done =>
        clear F1 N2
        intro g m nx h tk hz5 Ft Nt
        walk_at "my ice"
        obtain ⟨-, hGG, hfr, hnx, hj⟩ := hz5
        replace hj := hj (by decide)
        obtain ⟨T0, B0, X0, P0, D0, S0⟩ := hGo g hGG
        rcases hj with ⟨hN, hj⟩ | ⟨hN, xj, hj, cfj⟩
        · replace Nt := sub Nt hnx
          replace hfr := fr_cons hj hfr
          replace Ft := fr_ovr hfr Ft
          clear hfr hnx hj hGG
          have hN1 := none_votes.mp hN
          have flg : Flag "my compT" := ⟨⟩
          walk_at "my steps"
          (repeat ((with_reducible rename Flag _ => hz9); clear hz9))
          unfold Hold
          refine LCt.CompSrcT.range (by rfl) (by k_asm) (by k_asm) (by assumption) (by decide) (by rfl) (by rw [sizeLine_eq]; decide) ?_
          intro g'
          refine' kci_range (GF (apT ρ ν) fun k => k) (fun k' t' I' oI' C' oC' D' m' ys' l' h' tk' E' hlo' hhi' hI' hC' hx' F' N' off' ne' hMark' => ?turn) ?fin GF.grows
          case turn =>
            have hhi : k' < 4 := Int.lt_trans hhi' (by decide)
            clear hhi'
            have flg : Flag "my role" := ⟨⟩
            walk_at "my steps"
            (repeat ((with_reducible rename Flag _ => hz9); clear hz9))
          case fin =>
            unfold KPfDone
            intro ya hya hyl
            obtain ⟨ap, hap, hal, hal3⟩ := ap_pack hya
            clear hya hyl
            have flg : Flag "my pick" := ⟨⟩
            have flg : Flag "my catch" := ⟨⟩
            walk_at "my steps"
            unfold Hold
            rename News _ _ _ _ => N1
            refine item_mem N1 (by k_mem) hw (by exact hw2) (Int.lt_trans hw2 (by decide)) ?_
            intro v hv
            have hv6 : ordIn ν [(o1, listO [.ref y1, .ref y2, .ref y3] k1), (o2, listO [.ref y1, .ref y3, .ref y2] k2), (o3, listO [.ref y2, .ref y1, .ref y3] k3), (o4, listO [.ref y2, .ref y3, .ref y1] k4), (o5, listO [.ref y3, .ref y1, .ref y2] k5), (o6, listO [.ref y3, .ref y2, .ref y1] k6)] [(y1, tupO [.int (stepOf (ν 2)) u1, .int 2 s1] q1), (y2, tupO [.int (stepOf (ν 3)) u2, .int 3 s2] q2), (y3, tupO [.int (stepOf (ν 5)) u3, .int 5 s3] q3)] v := ord_in v hv
            obtain ⟨ov, vs3, n3, cs3, rfl, ho6, hl3, hst3, hc3⟩ := hv6
            replace N1 := sub N1 (sc ((show ∀ p ∈ [(o1, listO [.ref y1, .ref y2, .ref y3] k1), (o2, listO [.ref y1, .ref y3, .ref y2] k2), (o3, listO [.ref y2, .ref y1, .ref y3] k3), (o4, listO [.ref y2, .ref y3, .ref y1] k4), (o5, listO [.ref y3, .ref y1, .ref y2] k5), (o6, listO [.ref y3, .ref y2, .ref y1] k6)], p ∈ _ by walk_at "my memall") _ ho6) (fun p hp => hp))
            have hsm := steps_of hr hn h9 hc3
            have hgd : ∀ c ∈ cs3, GoodC c := fun c hc => good_ord hn (.inl rfl) hc3 c hc
            have hE : ids ((Cf.of ρ).steps cs3).v = ids (Cf.of ν).v := hsm.ids.1
            have hss := sound_set (ρ := ρ)
            have hjs : Sound ((Cf.of ρ).steps cs3) := hsm.sound sound_set
            have hE0 := hE.trans hN
            walk_at "my steps"
            (repeat ((with_reducible rename Flag _ => hz9); clear hz9))
            · rename (1 < (_ : Int)) => q1
              rename ((true != _) = true) => q2
              simp [q1] at q2
            all_goals
              rename KtsTurn _ h₀ _ => kT'
              rename News _ L _ (restOf _ _) => kR'
              rename News _ L _ (_ :: _) => kN'
              rename Below A₀ base outer _ => kB'
              rename KtsDicts (outer.filterMap _) _ => kD'
              exact ret _ _ _ kT' (by assumption) (back_turn N hO kN' kR' (by kcj_all)) kB' (XB.keeps kB'.stays) (TB.keeps kB'.stays) kD'
        · obtain ⟨dj, jv, jo, jl, jn, p1, p2, p3, p4, pn1, pn2, pn3, pn4, pt1, pt2, pt3, pt4, pt5, g1, g2, g3, g4, g5, g6, ki1, ki2, ki3, ki4⟩ := cfj
          dsimp only [jc] at g2 ki1 ki2 ki3 ki4
          replace Nt := sub Nt (sc g1 (sc g2 (sc g3 (sc g4 (sc g5 (sc g6 hnx))))))
          replace hfr := fr_cons hj hfr
          obtain ⟨Λ2, hΛ2, N2⟩ : ∃ Λ, Λ = _ ∧ News _ _ _ Λ := ⟨_, rfl, Nt⟩
          replace Ft := fr_ovr hfr Ft
          clear g1 g2 g3 g4 g5 g6 hfr hnx hj N2
          have hN1 : (1 : Int) ∈ [ν 2, ν 3, ν 5, ν 9] := Decidable.not_not.mp fun z => hN (none_votes.mpr z)
          have flg : Flag "my compT" := ⟨⟩
          walk_at "my steps"
          (repeat ((with_reducible rename Flag _ => hz9); clear hz9))
          unfold Hold
          refine LCt.CompSrcT.range (by rfl) (by k_asm) (by k_asm) (by assumption) (by decide) (by rfl) (by rw [sizeLine_eq]; decide) ?_
          intro g'
          refine' kci_range (GF (apT ρ ν) fun k => k) (fun k' t' I' oI' C' oC' D' m' ys' l' h' tk' E' hlo' hhi' hI' hC' hx' F' N' off' ne' hMark' => ?turn) ?fin GF.grows
          case turn =>
            have hhi : k' < 4 := Int.lt_trans hhi' (by decide)
            clear hhi'
            have flg : Flag "my role" := ⟨⟩
            walk_at "my steps"
            (repeat ((with_reducible rename Flag _ => hz9); clear hz9))
          case fin =>
            unfold KPfDone
            intro ya hya hyl
            obtain ⟨ap, hap, hal, hal3⟩ := ap_pack hya
            clear hya hyl
            have flg : Flag "my cut" := ⟨⟩
            walk_at "my steps"
            (repeat ((with_reducible rename Flag _ => hz9); clear hz9))
            unfold Hold
            refine tail_cut (KeepInv GG [(Str.ofString "joint", Value.ref xj), (Str.ofString "noise", Value.ref sl), (Str.ofString "auto", Value.bool au), (Str.ofString "which", Value.int wh tw), (Str.ofString "base", Value.ref x), (Str.ofString "first", Value.ref f), (Str.ofString "orders", Value.ref r), (Str.ofString "joint_row", Value.ref j)] Λ2) ?main ?rest
            case main =>
              intro R hR
              have flg : Flag "my pick" := ⟨⟩
              have flg : Flag "my catch" := ⟨⟩
              walk_at "my steps"
              unfold Hold
              rename News _ _ _ _ => N1
              refine item_mem N1 (by k_mem) hw (by exact hw2) (Int.lt_trans hw2 (by decide)) ?_
              intro v hv
              have hv6 : ordIn ν [(o1, listO [.ref y1, .ref y2, .ref y3] k1), (o2, listO [.ref y1, .ref y3, .ref y2] k2), (o3, listO [.ref y2, .ref y1, .ref y3] k3), (o4, listO [.ref y2, .ref y3, .ref y1] k4), (o5, listO [.ref y3, .ref y1, .ref y2] k5), (o6, listO [.ref y3, .ref y2, .ref y1] k6)] [(y1, tupO [.int (stepOf (ν 2)) u1, .int 2 s1] q1), (y2, tupO [.int (stepOf (ν 3)) u2, .int 3 s2] q2), (y3, tupO [.int (stepOf (ν 5)) u3, .int 5 s3] q3)] v := ord_in v hv
              obtain ⟨ov, vs3, n3, cs3, rfl, ho6, hl3, hst3, hc3⟩ := hv6
              replace N1 := sub N1 (sc ((show ∀ p ∈ [(o1, listO [.ref y1, .ref y2, .ref y3] k1), (o2, listO [.ref y1, .ref y3, .ref y2] k2), (o3, listO [.ref y2, .ref y1, .ref y3] k3), (o4, listO [.ref y2, .ref y3, .ref y1] k4), (o5, listO [.ref y3, .ref y1, .ref y2] k5), (o6, listO [.ref y3, .ref y2, .ref y1] k6)], p ∈ _ by walk_at "my memall") _ ho6) (fun p hp => hp))
              have hsm := steps_of hr hn h9 hc3
              have hgd : ∀ c ∈ cs3, GoodC c := fun c hc => good_ord hn (.inl rfl) hc3 c hc
              have hE : ids ((Cf.of ρ).steps cs3).v = ids (Cf.of ν).v := hsm.ids.1
              have hss := sound_set (ρ := ρ)
              have hjs : Sound ((Cf.of ρ).steps cs3) := hsm.sound sound_set
              have hE0 : ids ((Cf.of ρ).steps cs3).v ≠ [] := by rw [hE]; exact hN
              have hap2 : (apart (Cf.of ρ).v ((Cf.of ρ).steps cs3).v : Int) = (ap.length : Int) := by rw [apart_same hsm, apart_of h9, hal]
              by_cases q : 1 < (ap.length : Int)
              case pos =>
                have hq : 1 < (apart (Cf.of ρ).v ((Cf.of ρ).steps cs3).v : Int) := by rw [hap2]; exact q
                walk_at "my steps"
                · rename ((true != _) = true) => q2
                  simp [q] at q2
                · rename Fr _ _ _ _ => Fe
                  rename News _ _ _ _ => Ne
                  rename Below _ _ _ _ => Be
                  rename Frag.In _ _ => Xe
                  rename Top _ _ _ _ _ _ => Pe
                  rename KtsDicts _ _ => De
                  rename KtsTurn _ _ _ => Te
                  exact hR _ _ _ _ _ ⟨hGi _ Te Be Xe Pe De, by walk_at "my frame", by rw [hΛ2]; walk_at "my memall"⟩ Fe Ne
              case neg =>
                have hq : ¬ 1 < (apart (Cf.of ρ).v ((Cf.of ρ).steps cs3).v : Int) := by rw [hap2]; exact q
                walk_at "my steps"
                rename Fr _ _ _ _ => Fe
                rename News _ _ _ _ => Ne
                exact hR _ _ _ _ _ ⟨hGG, by walk_at "my frame", by rw [hΛ2]; walk_at "my memall"⟩ Fe Ne
            case rest =>
              clear T0 B0 X0 P0 D0 S0 hGG
              rename IntsAre p4 _ => ki4
              revert N D i1 i2 ki1 ki2 ki3 ki4 j1 j2 j3 j4 j5 j6 j7 j8 j9 j10 j11 j12
              (repeat (rename News _ _ _ _ => hz; clear hz))
              (repeat (rename IntsAre _ _ => hz; clear hz))
              (repeat (rename KtsDicts _ _ => hz; clear hz))
              (repeat (rename Off _ _ => hz; clear hz))
              (repeat (rename LCg.NsObj _ _ => hz; clear hz))
              (repeat (rename IsRange _ _ _ _ _ _ _ _ => hz; clear hz))
              (repeat (rename (List.length _ = _) => hz; clear hz))
              intro D i1 i2 N j1 j2 j3 j4 j5 j6 j7 j8 j9 j10 j11 j12 ki1 ki2 ki3 ki4
              intro g h tk m nx hz5 Ft Nt
              walk_at "my ice"
              obtain ⟨hGG, hfr, hnx⟩ := hz5
              obtain ⟨T0, B0, X0, P0, D0, -⟩ := hGo g hGG
              replace Nt := sub Nt hnx
              rw [hΛ2] at Nt
              replace Ft := fr_ovr hfr Ft
              clear hfr hnx hGG
              have hlv : Same (jc ρ ν au).leave (Cf.of ν) := leave_jc
              have hls := hlv.sound sound_set
              have hsj : Sound (jc ρ ν au) := sound_jc hv
              have hss := sound_set (ρ := ρ)
              have hsn := sound_set (ρ := ν)
              have hback : [stp ρ 5, stp ρ 2, stp ρ 3] ∈ ord ρ := by simp [ord]
              have hbk : Same ((Cf.of ν).enter (!au) [stp ρ 5, stp ρ 2, stp ρ 3]) (jc ν ρ (!au)) := enter_jc (ns := []) hn hr h9.symm (.inl rfl) hback
              have hgb : ∀ c ∈ [stp ρ 5, stp ρ 2, stp ρ 3], GoodC c := fun c hc => good_ord hr (.inl rfl) hback c hc
              have hbv : ids ((Cf.of ν).enter (!au) [stp ρ 5, stp ρ 2, stp ρ 3]).v ≠ [] := by rw [hbk.ids.1]; exact hv
              have hbs : Sound ((Cf.of ν).enter (!au) [stp ρ 5, stp ρ 2, stp ρ 3]) := hbk.sound (sound_jc hN)
              have hsj2 : Sound (jc ν ρ (!au)) := sound_jc hN
              have hbl : Same (jc ν ρ (!au)).leave (Cf.of ρ) := leave_jc
              have hbls := hbl.sound sound_set
              (repeat (rename (_ < _ ∧ _) => hz; clear hz))
              (repeat (rename (_ ≠ _ ∧ _) => hz; clear hz))
              (repeat (rename Off _ _ => hz; clear hz))
              (repeat (rename InElt _ _ => hz; clear hz))
              (repeat (rename LCg.Off3 _ _ _ _ => hz; clear hz))
              (repeat (rename LCg.NsObj _ _ => hz; clear hz))
              (repeat (rename IsRange _ _ _ _ _ _ _ _ => hz; clear hz))
              have flg : Flag "my turns" := ⟨⟩
              have flg : Flag "my tuple" := ⟨⟩
              have flg : Flag "my pick" := ⟨⟩
              walk_at "my steps"
              unfold Hold
              rename News _ _ _ _ => N1
              refine item_mem N1 (by k_mem) hw (by exact hw2) (Int.lt_trans hw2 (by decide)) ?_
              intro v hv0
              have hv6 : ordIn ν [(o1, listO [.ref y1, .ref y2, .ref y3] k1), (o2, listO [.ref y1, .ref y3, .ref y2] k2), (o3, listO [.ref y2, .ref y1, .ref y3] k3), (o4, listO [.ref y2, .ref y3, .ref y1] k4), (o5, listO [.ref y3, .ref y1, .ref y2] k5), (o6, listO [.ref y3, .ref y2, .ref y1] k6)] [(y1, tupO [.int (stepOf (ν 2)) u1, .int 2 s1] q1), (y2, tupO [.int (stepOf (ν 3)) u2, .int 3 s2] q2), (y3, tupO [.int (stepOf (ν 5)) u3, .int 5 s3] q3)] v := ord_in v hv0
              obtain ⟨ov, vs3, n3, cs3, rfl, ho6, hl3, hst3, hc3⟩ := hv6
              replace N1 := sub N1 (sc ((show ∀ p ∈ [(o1, listO [.ref y1, .ref y2, .ref y3] k1), (o2, listO [.ref y1, .ref y3, .ref y2] k2), (o3, listO [.ref y2, .ref y1, .ref y3] k3), (o4, listO [.ref y2, .ref y3, .ref y1] k4), (o5, listO [.ref y3, .ref y1, .ref y2] k5), (o6, listO [.ref y3, .ref y2, .ref y1] k6)], p ∈ _ by walk_at "my memall") _ ho6) (fun p hp => hp))
              obtain ⟨ws0, hws0, hW0⟩ := way_start hr h9 hv hc3
              rw [hws0] at hst3
              have flg : Flag "my gfor" := ⟨⟩
              have flg : Flag "my iter" := ⟨⟩
              walk_at "my steps"
              (repeat ((with_reducible rename Flag _ => hz9); clear hz9))
              unfold Hold
              rename Fr _ _ _ _ => F5
              rename News _ _ _ _ => N5
              obtain ⟨lf, hlf, ld, lv', lo', ll', ln', q1', q2', q3', q4', qn1, qn2, qn3, qn4, qt1, qt2, qt3, qt4, qt5, c1, c2, c3, c4, c5, c6, ci1, ci2, ci3, ci4⟩ := left_of (P := w.params) (f := Cf.of ν) F5 N5 rfl (by walk_at "my cf")
              obtain ⟨Λ5, hΛ5, hm5, N6⟩ : ∃ Λ, Λ = _ ∧ (∀ p ∈ Λ, p ∈ _) ∧ News _ _ _ Λ := ⟨_, rfl, five_pack (rest := [(ol, listO vo no), (sl, listO vs ns), (nl, listO vn nn), (y1, tupO [.int (stepOf (ν 2)) u1, .int 2 s1] q1), (y2, tupO [.int (stepOf (ν 3)) u2, .int 3 s2] q2), (y3, tupO [.int (stepOf (ν 5)) u3, .int 5 s3] q3), (lf, instObj 183 ld), (ld, cfD w.params lv' lo' ll' ln' false qt1 qt2 qt3 qt4 qt5), (lv', listO q1' qn1), (lo', listO q2' qn2), (ll', listO q3' qn3), (ln', listO q4' qn4)]) N5 hc1 hc2 (by walk_at "my memall") (sc (by k_mem) (sc (by k_mem) (sc (by k_mem) (sc (by k_mem) (sc (by k_mem) (sc (by k_mem) (sc c1 (sc c2 (sc c3 (sc c4 (sc c5 (sc c6 (an)))))))))))))⟩
              clear N6
              have hΛ3 : ∀ p ∈ [(y1, tupO [.int (stepOf (ν 2)) u1, .int 2 s1] q1), (y2, tupO [.int (stepOf (ν 3)) u2, .int 3 s2] q2), (y3, tupO [.int (stepOf (ν 5)) u3, .int 5 s3] q3)], p ∈ Λ5 := by rw [hΛ5]; walk_at "my memall"
              have hG5 := hGi _ (by assumption) (by assumption) (by assumption) (by assumption) (by assumption)
              refine for_r (n := 4) (WayInv w.params GG ν lf Λ5 [(y1, tupO [.int (stepOf (ν 2)) u1, .int 2 s1] q1), (y2, tupO [.int (stepOf (ν 3)) u2, .int 3 s2] q2), (y3, tupO [.int (stepOf (ν 5)) u3, .int 5 s3] q3)]) rfl (by assumption) (by decide) (by rfl) F5 N5 ⟨ρ, ws0, x, ov, ol, vs3, n3, vo, no, hG5, hW0, (by refine ac hlf ?_; walk_at "my frame"), hm5, by k_mem, hst3, by k_mem, i1, by walk_at "my cf"⟩ ?turn ?done
              case turn =>
                clear F5 N5 hm5 hG5
                revert D i2 ci1 ci2 ci3 ci4
                (repeat (rename News _ _ _ _ => hz; clear hz))
                (repeat (rename Fr _ _ _ _ => hz; clear hz))
                (repeat (rename IntsAre _ _ => hz; clear hz))
                (repeat (rename KtsDicts _ _ => hz; clear hz))
                (repeat (rename KtsTurn _ _ _ => hz; clear hz))
                (repeat (rename Off _ _ => hz; clear hz))
                (repeat (rename Sound _ => hz; clear hz))
                (repeat (rename Same _ _ => hz; clear hz))
                (repeat (rename LCg.NsObj _ _ => hz; clear hz))
                (repeat (rename IsRange _ _ _ _ _ _ _ _ => hz; clear hz))
                (repeat (rename (_ = List.length _) => hz; clear hz))
                (repeat (rename (List.length _ = _) => hz; clear hz))
                intro D i2 ci1 ci2 ci3 ci4
                intro i g I t m nx h tk o hi ho hz11 Ft Nt hoff
                walk_at "my post"
                walk_at "my ice"
                obtain ⟨σ, ws, at_, wt, rl, vsw, nw, vr, nr, hGG, hW, hfr, hnx, hwm, hws, hrm, hri, hcf⟩ := hz11
                have e4 : 4 - i = (4 - (i + 1)) + 1 := by omega
                rw [e4] at hW
                obtain ⟨dj2, jv2, jo2, jl2, jn2, p12, p22, p32, p42, pn12, pn22, pn32, pn42, pt12, pt22, pt32, pt42, pt52, g12, g22, g32, g42, g52, g62, ki12, ki22, ki32, ki42⟩ := hcf
                obtain ⟨T0, B0, X0, P0, D0, -⟩ := hGo g hGG
                obtain ⟨rt1, rt2, rt3, rt4, rfl⟩ := ints4 hri
                have hσv : ids (Cf.of σ).v ≠ [] := votes_iff.mpr hW.2.2.2.2.1
                have hss := sound_set (ρ := σ)
                have hoff5 : ∀ p ∈ Λ5, p.1 ≠ I := fun p hp => hoff p (hnx p hp)
                have hl4 : ws.length ≤ 4 - (i + 1) + 1 := hW.len
                clear hri
                cases ws with
                | nil =>
                  cases hws
                  replace Nt := sub Nt (sc (.head _) (sc (.tail _ hwm) (sc (.tail _ hrm) (sc (.tail _ g12) (sc (.tail _ g22) (sc (.tail _ g32) (sc (.tail _ g42) (sc (.tail _ g52) (sc (.tail _ g62) (fun p hp => .tail _ (hnx p hp)))))))))))
                  obtain ⟨Λ6, hΛ6', N7⟩ : ∃ Λ, Λ = _ ∧ News _ _ _ Λ := ⟨_, rfl, Nt⟩
                  clear N7
                  rw [hΛ5] at Nt
                  replace Ft := fr_ovr hfr Ft
                  clear hfr hnx hwm hrm g12 g22 g32 g42 g52 g62
                  walk_at "my steps"
                  rename Fr g _ _ _ => Fe
                  rename News g _ _ _ => Ne
                  obtain ⟨nx', Nn, offn, subn, hwm', hrm', cfn⟩ := end_ways (P := w.params) (f := Cf.of σ) (wt := wt) (rl := rl) (Λ := Λ5) Ne (by k_mem) (by rw [hΛ5]; walk_at "my memall") hoff5 ho (by walk_at "my memall") (by assumption) (by assumption) (by assumption) (by assumption) rfl
                  exact ⟨_, _, _, _, nx', rfl, Fe, Nn, offn, σ, [], at_, wt, rl, _, _, _, _, hGG, hW.none_left, by walk_at "my frame", subn, hwm', .nil, hrm', ints_r, cfn⟩
                | cons k ws =>
                  cases hws with
                  | cons hat hws =>
                    rename_i a t1 t2 c vs'
                    have hk := hW.2.1 k (.head _)
                    have hl5 : ws.length ≤ 4 := by simp only [List.length_cons] at hl4; omega
                    have hwr := wait_room (a := a) hws hl5
                    have hwf := wait_fit (a := a) hws hl5
                    have hwz := wait_size (a := a) hws hl5
                    have hwp := wait_pos (a := a) (vs := vs')
                    have hwp2 : (0 : Int) < (((Value.ref a :: vs').toArray.size : Nat) : Int) := wait_pos (a := a) (vs := vs')
                    replace Nt := sub Nt (sc (.head _) (sc (.tail _ hwm) (sc (.tail _ (hnx _ (hΛ3 _ hat))) (sc (.tail _ hrm) (sc (.tail _ g12) (sc (.tail _ g22) (sc (.tail _ g32) (sc (.tail _ g42) (sc (.tail _ g52) (sc (.tail _ g62) (fun p hp => .tail _ (hnx p hp))))))))))))
                    rw [hΛ5] at Nt
                    replace Ft := fr_ovr hfr Ft
                    clear hfr hnx hwm hrm g12 g22 g32 g42 g52 g62
                    have flg : Flag "my add" := ⟨⟩
                    have flg : Flag "my catch" := ⟨⟩
                    have flg : Flag "my tail" := ⟨⟩
                    have hsm := step_upd (σ := σ) (ν := ν) (k := k) (mem_ids3 hk) (hW.1 k (mem_ids3 hk)) (hn k (mem_ids3 hk))
                    have hgd := good_one hn (k := k) (mem_ids3 hk)
                    have hE : ids ((Cf.of σ).steps [stp ν k]).v = ids (Cf.of (upd σ k (ν k))).v := hsm.ids.1
                    have hjs := hsm.sound sound_set
                    have hap := apart_one hsm
                    by_cases hq : ids (Cf.of (upd σ k (ν k))).v = []
                    case pos =>
                      have hN1 : (1 : Int) ∉ [upd σ k (ν k) 2, upd σ k (ν k) 3, upd σ k (ν k) 5, upd σ k (ν k) 9] := none_votes.mp hq
                      have hE0 := hE.trans hq
                      have heb := eb_mk (f := Cf.of σ) hE0
                      have flg : Flag "my wait" := ⟨⟩
                      walk_at "my steps"
                      (repeat ((with_reducible rename Flag _ => hz9); clear hz9))
                      · rename Fr _ _ _ _ => Fe
                        rename News _ _ _ _ => Ne
                        rename Below _ _ _ _ => Be
                        rename Frag.In _ _ => Xe
                        rename Top _ _ _ _ _ _ => Pe
                        rename KtsDicts _ _ => De
                        rename KtsTurn _ _ _ => Te
                        obtain ⟨nx', hfr', Nn, offn, subn, hwm', hrm', cfn⟩ := end_ways2 (P := w.params) (f := Cf.of σ) (Λ := Λ5) Fe rfl rfl rfl rfl Ne (by k_mem) (by rw [hΛ5]; walk_at "my memall") hoff5 ho (by walk_at "my memall") (by assumption) (by assumption) (by assumption) (by assumption) rfl
                        exact ⟨_, _, _, _, nx', rfl, Fe, Nn, offn, σ, ws ++ [k], _, _, _, _, _, _, _, hGi _ Te Be Xe Pe De, hW.wait hN hq, hfr', subn, hwm', by rw [List.map_append]; exact hws.snoc hat, hrm', ints_r, cfn⟩
                      all_goals exact absurd hwp2 (by assumption)
                    case neg =>
                      have hN1 : (1 : Int) ∈ [upd σ k (ν k) 2, upd σ k (ν k) 3, upd σ k (ν k) 5, upd σ k (ν k) 9] := Decidable.not_not.mp fun z => hq (none_votes.mpr z)
                      have hE0 : ids ((Cf.of σ).steps [stp ν k]).v ≠ [] := by rw [hE]; exact hq
                      have heg := eg_mk (f := Cf.of σ) ids_none hE0 hap
                      have flg : Flag "my add" := ⟨⟩
                      have flg : Flag "my catch" := ⟨⟩
                      have flg : Flag "my tail" := ⟨⟩
                      have flg : Flag "my go" := ⟨⟩
                      walk_at "my steps"
                      (repeat ((with_reducible rename Flag _ => hz9); clear hz9))
                      · rename Fr _ _ _ _ => Fe
                        rename News _ _ _ _ => Ne
                        obtain ⟨nx', hfr', Nn, offn, subn, hwm', hrm', cfn⟩ := end_ways2 (P := w.params) (f := Cf.of (upd σ k (ν k))) (Λ := Λ5) Fe rfl rfl rfl rfl Ne (by k_mem) (by rw [hΛ5]; walk_at "my memall") hoff5 ho (by walk_at "my memall") (by assumption) (by assumption) (by assumption) (by assumption) rfl
                        exact ⟨_, _, _, _, nx', rfl, Fe, Nn, offn, upd σ k (ν k), ws, _, _, _, _, _, _, _, hGG, hW.done hn hq, hfr', subn, hwm', hws, hrm', ints_after hk, cfn⟩
                      all_goals exact absurd hwp2 (by assumption)
              case done =>
                clear F5 N5 hm5 hG5
                intro g m nx h tk hz5 Ft Nt
                walk_at "my ice"
                obtain ⟨σ, ws, at_, wt, rl, vsw, nw, vr, nr, hGG, hW, hfr, hnx, hwm, hws, hrm, hri, hcf⟩ := hz5
                obtain ⟨rfl, hsm⟩ := WaySt.fin hW
                cases hws
                obtain ⟨dj2, jv2, jo2, jl2, jn2, p12, p22, p32, p42, pn12, pn22, pn32, pn42, pt12, pt22, pt32, pt42, pt52, g12, g22, g32, g42, g52, g62, ki12, ki22, ki32, ki42⟩ := hcf
                obtain ⟨T0, B0, X0, P0, D0, -⟩ := hGo g hGG
                replace Nt := sub Nt (sc hwm (sc g12 (sc g22 (sc g32 (sc g42 (sc g52 (sc g62 hnx)))))))
                rw [hΛ5] at Nt
                replace Ft := fr_ovr hfr Ft
                clear hfr hnx hGG hwm hrm hri g12 g22 g32 g42 g52 g62
                walk_at "my steps"
                rename KtsTurn _ h₀ _ => kT'
                rename News _ L _ (restOf _ _) => kR'
                rename News _ L _ (_ :: _) => kN'
                rename Below A₀ base outer _ => kB'
                rename KtsDicts (outer.filterMap _) _ => kD'
                exact ret _ _ _ kT' (by assumption) (back_turn N hO kN' kR' (by kcj_all)) kB' (XB.keeps kB'.stays) (TB.keeps kB'.stays) kD'
end
noncomputable def bt (b : Bool) : Int := if b then 1 else 0
/-- a mask of the four members -/
noncomputable def mk (f : Int → Bool) : Int := bt (f 2) + 2 * bt (f 3) + 4 * bt (f 5) + 8 * bt (f 9)
noncomputable def mk4 (x y z u : Bool) : Int := bt x + 2 * bt y + 4 * bt z + 8 * bt u
theorem mk_eq4 (f : Int → Bool) : mk f = mk4 (f 2) (f 3) (f 5) (f 9) := rfl
noncomputable def fn4 (x y z u : Bool) (i : Int) : Bool := if i = 2 then x else if i = 3 then y else if i = 5 then z else u
theorem mk_of {a : Int} (h0 : 0 ≤ a) (h1 : a < 16) : ∃ f, a = mk f := by
  obtain ⟨n, rfl⟩ := Int.eq_ofNat_of_zero_le h0
  have hn : n < 16 := by omega
  have key : ∀ n < 16, ((n : Nat) : Int) = mk (fn4 (n.testBit 0) (n.testBit 1) (n.testBit 2) (n.testBit 3)) := by decide
  exact ⟨_, key n hn⟩
theorem mk4_range : ∀ x y z u : Bool, 0 ≤ mk4 x y z u ∧ mk4 x y z u < 16 := by decide
theorem mk_nn (f : Int → Bool) : 0 ≤ mk f := (mk4_range _ _ _ _).1
theorem mk_lt (f : Int → Bool) : mk f < 16 := (mk4_range _ _ _ _).2
theorem mk4_and : ∀ x y z u x' y' z' u' : Bool, Builtin.bitAnd (mk4 x y z u) (mk4 x' y' z' u') = mk4 (x && x') (y && y') (z && z') (u && u') := by decide +kernel
theorem mk4_or : ∀ x y z u x' y' z' u' : Bool, Builtin.bitOr (mk4 x y z u) (mk4 x' y' z' u') = mk4 (x || x') (y || y') (z || z') (u || u') := by decide +kernel
theorem mk_and (f g : Int → Bool) : Builtin.bitAnd (mk f) (mk g) = mk (fun i => f i && g i) := mk4_and _ _ _ _ _ _ _ _
theorem mk_or (f g : Int → Bool) : Builtin.bitOr (mk f) (mk g) = mk (fun i => f i || g i) := mk4_or _ _ _ _ _ _ _ _
theorem mk4_eq : ∀ x y z u x' y' z' u' : Bool, mk4 x y z u = mk4 x' y' z' u' ↔ x = x' ∧ y = y' ∧ z = z' ∧ u = u' := by decide +kernel
theorem mk_inj {f g : Int → Bool} : mk f = mk g ↔ ∀ i ∈ IDs, f i = g i := by
  refine (mk4_eq _ _ _ _ _ _ _ _).trans ⟨fun h i hi => ?_, fun h => ⟨h 2 (by decide), h 3 (by decide), h 5 (by decide), h 9 (by decide)⟩⟩
  obtain ⟨a, b, c, d⟩ := h
  have : i = 2 ∨ i = 3 ∨ i = 5 ∨ i = 9 := by simpa [IDs] using hi
  rcases this with rfl | rfl | rfl | rfl <;> assumption
noncomputable def shr (f : Int → Bool) (k : Int) : Int := (mk f).fdiv (2 ^ k.toNat)
theorem mk4_bit : ∀ x y z u : Bool, Builtin.bitAnd ((mk4 x y z u).fdiv (2 ^ 0)) 1 = bt x ∧ Builtin.bitAnd ((mk4 x y z u).fdiv (2 ^ 1)) 1 = bt y ∧ Builtin.bitAnd ((mk4 x y z u).fdiv (2 ^ 2)) 1 = bt z ∧ Builtin.bitAnd ((mk4 x y z u).fdiv (2 ^ 3)) 1 = bt u := by decide +kernel
theorem shr_bit (f : Int → Bool) {k : Int} (h0 : 0 ≤ k) (h1 : k < 4) : Builtin.bitAnd (shr f k) 1 = bt (f (idAt k)) := by
  have h := mk4_bit (f 2) (f 3) (f 5) (f 9)
  have : k = 0 ∨ k = 1 ∨ k = 2 ∨ k = 3 := by omega
  rcases this with rfl | rfl | rfl | rfl
  · exact h.1
  · exact h.2.1
  · exact h.2.2.1
  · exact h.2.2.2
theorem bt_one {b : Bool} (h : bt b = 1) : b = true := by
  cases b
  · exact absurd h (by decide)
  · rfl
theorem bt_ne {b : Bool} (h : bt b ≠ 1) : b = false := by
  cases b
  · rfl
  · exact absurd rfl h
noncomputable def cnt (f : Int → Bool) : Int := ((ids f).length : Int)
noncomputable def cnt4 (x y z u : Bool) : Int := bt x + bt y + bt z + bt u
theorem cnt_eq4 (f : Int → Bool) : cnt f = cnt4 (f 2) (f 3) (f 5) (f 9) := by
  unfold cnt ids IDs cnt4
  cases h0 : f 2 <;> cases h1 : f 3 <;> cases h2 : f 5 <;> cases h3 : f 9 <;> simp [h0, h1, h2, h3, bt]
theorem ones4 : ∀ x y z u : Bool, ([0, 1, 1, 2, 1, 2, 2, 3, 1, 2, 2, 3, 2, 3, 3, 4] : List Int)[(mk4 x y z u).toNat]? = some (cnt4 x y z u) := by decide +kernel
theorem ones_cnt (f : Int → Bool) : ([0, 1, 1, 2, 1, 2, 2, 3, 1, 2, 2, 3, 2, 3, 3, 4] : List Int)[(mk f).toNat]? = some (cnt f) := by
  rw [mk_eq4, ones4, cnt_eq4]
theorem cnt_nil {f : Int → Bool} : ids f = [] ↔ mk f = 0 := by
  rw [mk_eq4]
  have key : ∀ x y z u : Bool, mk4 x y z u = 0 ↔ cnt4 x y z u = 0 := by decide
  rw [key, ← cnt_eq4]
  unfold cnt
  rw [Int.natCast_eq_zero, List.length_eq_zero_iff]
/-- whether the members g win in the half f -/
noncomputable def winH (f g : Int → Bool) : Bool := decide (mk f = 0) || decide (cnt f < 2 * cnt (fun i => g i && f i))
/-- whether the members g win in both halves -/
noncomputable def win (fa fb g : Int → Bool) : Bool := winH fa g && winH fb g
noncomputable def winH4 (x y z u x' y' z' u' : Bool) : Bool := decide (mk4 x y z u = 0) || decide (cnt4 x y z u < 2 * cnt4 (x' && x) (y' && y) (z' && z) (u' && u))
theorem winH_eq4 (f g : Int → Bool) : winH f g = winH4 (f 2) (f 3) (f 5) (f 9) (g 2) (g 3) (g 5) (g 9) := by
  unfold winH winH4
  rw [cnt_eq4, cnt_eq4, mk_eq4]
/-- the mask as a test -/
noncomputable def ms (k : Int) (i : Int) : Bool := decide (i ∈ IDs) && (decide (i = 2 ∧ Builtin.bitAnd k 1 = 1) || decide (i = 3 ∧ Builtin.bitAnd (k.fdiv 2) 1 = 1) || decide (i = 5 ∧ Builtin.bitAnd (k.fdiv 4) 1 = 1) || decide (i = 9 ∧ Builtin.bitAnd (k.fdiv 8) 1 = 1))
theorem ms_mk (f : Int → Bool) : ∀ i ∈ IDs, ms (mk f) i = f i := by
  have key : ∀ x y z u : Bool, ms (mk4 x y z u) 2 = x ∧ ms (mk4 x y z u) 3 = y ∧ ms (mk4 x y z u) 5 = z ∧ ms (mk4 x y z u) 9 = u := by decide +kernel
  intro i hi
  obtain ⟨a, b, c, d⟩ := key (f 2) (f 3) (f 5) (f 9)
  have : i = 2 ∨ i = 3 ∨ i = 5 ∨ i = 9 := by simpa [IDs] using hi
  rcases this with rfl | rfl | rfl | rfl
  · exact a
  · exact b
  · exact c
  · exact d
theorem winH_cong {f g g' : Int → Bool} (h : ∀ i ∈ IDs, g i = g' i) : winH f g = winH f g' := by
  rw [winH_eq4, winH_eq4, h 2 (by decide), h 3 (by decide), h 5 (by decide), h 9 (by decide)]
theorem win_cong {fa fb g g' : Int → Bool} (h : ∀ i ∈ IDs, g i = g' i) : win fa fb g = win fa fb g' := by
  unfold win
  rw [winH_cong h, winH_cong h]
theorem win_ms (fa fb g : Int → Bool) : win fa fb (ms (mk g)) = win fa fb g := win_cong (ms_mk g)
/-- more members win if fewer do -/
theorem winH_mono {f g g' : Int → Bool} (h : ∀ i ∈ IDs, g i = true → g' i = true) (hw : winH f g = true) : winH f g' = true := by
  have key : ∀ x y z u p q r s p' q' r' s' : Bool, (p = true → p' = true) → (q = true → q' = true) → (r = true → r' = true) → (s = true → s' = true) → winH4 x y z u p q r s = true → winH4 x y z u p' q' r' s' = true := by decide +kernel
  rw [winH_eq4] at hw ⊢
  exact key _ _ _ _ _ _ _ _ _ _ _ _ (h 2 (by decide)) (h 3 (by decide)) (h 5 (by decide)) (h 9 (by decide)) hw
theorem win_mono {fa fb g g' : Int → Bool} (h : ∀ i ∈ IDs, g i = true → g' i = true) (hw : win fa fb g = true) : win fa fb g' = true := by
  unfold win at hw ⊢
  rw [Bool.and_eq_true] at hw ⊢
  exact ⟨winH_mono h hw.1, winH_mono h hw.2⟩
/-- the verdict told by all the ways in which the silent may vote -/
noncomputable def verdict (fa fb y n : Int → Bool) : Int := if win fa fb y = true then 3 else if win fa fb (fun i => !n i) = true then 1 else 2
theorem filter_ids (f p : Int → Bool) : (ids f).filter p = ids (fun i => p i && f i) := by
  unfold ids
  rw [List.filter_filter]
theorem cnt_out {vt : Int → Option Bool} (f : Int → Bool) : cnt (fun i => isYes vt i && f i) + cnt (fun i => isOut vt i && f i) = cnt (fun i => !isNo vt i && f i) := by
  have one : ∀ i, bt (isYes vt i && f i) + bt (isOut vt i && f i) = bt (!isNo vt i && f i) := fun i => by
    unfold isYes isOut isNo
    rcases vt i with _ | _ | _ <;> cases f i <;> decide
  rw [cnt_eq4, cnt_eq4, cnt_eq4]
  have h2 := one 2
  have h3 := one 3
  have h5 := one 5
  have h9 := one 9
  unfold cnt4
  omega
theorem half_iff {c q : Int} : c ≥ Int.fdiv q 2 + 1 ↔ q < 2 * c := by
  rw [Int.fdiv_eq_ediv_of_nonneg _ (by decide)]
  omega
theorem mvote_win (f : Int → Bool) (vt : Int → Option Bool) : mvote f vt = if winH f (isYes vt) = true then 3 else if winH f (fun i => !isNo vt i) = true then 1 else 2 := by
  have c1 : (((ids f).filter (isYes vt)).length : Int) = cnt (fun i => isYes vt i && f i) := by rw [filter_ids]; rfl
  have c2 : (((ids f).filter (isOut vt)).length : Int) = cnt (fun i => isOut vt i && f i) := by rw [filter_ids]; rfl
  have c3 : ((ids f).length : Int) = cnt f := rfl
  unfold mvote winH
  rw [c1, c2, c3, cnt_out]
  by_cases h : ids f = []
  · rw [if_pos h, if_pos (by simp [cnt_nil.mp h])]
  · have hm : mk f ≠ 0 := fun e => h (cnt_nil.mpr e)
    rw [if_neg h]
    simp only [half_iff, hm, decide_false, Bool.false_or, decide_eq_true_eq]
theorem yes_no {vt : Int → Option Bool} {i : Int} (h : isYes vt i = true) : (!isNo vt i) = true := by
  unfold isYes at h
  unfold isNo
  rw [eq_of_beq h]
  rfl
theorem jvote_verdict (f g : Int → Bool) (vt : Int → Option Bool) : jvote f g vt = verdict f g (isYes vt) (isNo vt) := by
  unfold jvote verdict win
  rw [mvote_win, mvote_win]
  have m1 : winH f (isYes vt) = true → winH f (fun i => !isNo vt i) = true := winH_mono fun i _ h => yes_no h
  have m2 : winH g (isYes vt) = true → winH g (fun i => !isNo vt i) = true := winH_mono fun i _ h => yes_no h
  cases a : winH f (isYes vt) <;> cases b : winH f (fun i => !isNo vt i) <;> cases c : winH g (isYes vt) <;> cases d : winH g (fun i => !isNo vt i) <;> simp_all
/-- the votes of all the others -/
noncomputable def others (vt : Int → Option Bool) (i : Int) : Option Bool := some (!isYes vt i)
theorem others_yes (vt : Int → Option Bool) : isYes (others vt) = fun i => !isYes vt i := by
  funext i
  unfold others
  show (some (!isYes vt i) == some true) = _
  cases isYes vt i <;> rfl
theorem others_no (vt : Int → Option Bool) : (fun i => !isNo (others vt) i) = fun i => !isYes vt i := by
  funext i
  unfold others
  show (!(some (!isYes vt i) == some false)) = _
  cases isYes vt i <;> rfl
theorem winH_others {f y : Int → Bool} (hf : mk f ≠ 0) (h : winH f y = true) : winH f (fun i => !y i) = false := by
  have key : ∀ x1 x2 x3 x4 p q r s : Bool, mk4 x1 x2 x3 x4 ≠ 0 → winH4 x1 x2 x3 x4 p q r s = true → winH4 x1 x2 x3 x4 (!p) (!q) (!r) (!s) = false := by decide +kernel
  rw [winH_eq4] at h ⊢
  exact key _ _ _ _ _ _ _ _ hf h
theorem jvote_others {f g : Int → Bool} {vt : Int → Option Bool} (hw : verdict f g (isYes vt) (isNo vt) = 3) (hp : 0 < mk f + mk g) : jvote f g (others vt) = 2 := by
  rw [jvote_verdict]
  unfold verdict at hw ⊢
  rw [others_yes, others_no]
  have h1 : win f g (isYes vt) = true := by
    by_cases h : win f g (isYes vt) = true
    · exact h
    · rw [if_neg h] at hw
      split at hw <;> simp at hw
  unfold win at h1
  rw [Bool.and_eq_true] at h1
  have h2 : win f g (fun i => !isYes vt i) = false := by
    unfold win
    by_cases hf : mk f = 0
    · have hg : mk g ≠ 0 := by omega
      rw [winH_others hg h1.2, Bool.and_false]
    · rw [winH_others hf h1.1, Bool.false_and]
  rw [h2]
  rfl
/-- the votes taken so far that the mask k agrees with -/
noncomputable def sel (y n : Int → Bool) (k : Int) : Bool := decide (mk (fun i => ms k i && (y i || n i)) = mk y)
noncomputable def ends (fa fb y n : Int → Bool) : List Bool := ((rangeKs 0 16).filter (sel y n)).map fun k => win fa fb (ms k)
theorem mem_range16 {k : Int} : k ∈ rangeKs 0 16 ↔ 0 ≤ k ∧ k < 16 := by
  refine ⟨fun h => ?_, fun h => ?_⟩
  · have := mem_rangeKs h
    omega
  · have e : rangeKs 0 16 = [0, 1, 2, 3, 4, 5, 6, 7, 8, 9, 10, 11, 12, 13, 14, 15] := by decide
    rw [e]
    have z : ∀ i < 16, ((i : Nat) : Int) ∈ [(0 : Int), 1, 2, 3, 4, 5, 6, 7, 8, 9, 10, 11, 12, 13, 14, 15] := by decide
    obtain ⟨i, rfl⟩ := Int.eq_ofNat_of_zero_le h.1
    exact z i (Int.ofNat_lt.mp h.2)
theorem sel_mk {y n g : Int → Bool} : sel y n (mk g) = true ↔ ∀ i ∈ IDs, (g i && (y i || n i)) = y i := by
  unfold sel
  rw [decide_eq_true_eq, mk_inj]
  exact ⟨fun h i hi => by have := h i hi; rwa [ms_mk g i hi] at this, fun h i hi => by rw [ms_mk g i hi]; exact h i hi⟩
theorem mem_ends {fa fb y n : Int → Bool} {b : Bool} : b ∈ ends fa fb y n ↔ ∃ g, (∀ i ∈ IDs, (g i && (y i || n i)) = y i) ∧ win fa fb g = b := by
  unfold ends
  rw [List.mem_map]
  constructor
  · rintro ⟨k, hk, rfl⟩
    rw [List.mem_filter, mem_range16] at hk
    obtain ⟨g, rfl⟩ := mk_of hk.1.1 hk.1.2
    exact ⟨g, sel_mk.mp hk.2, (win_ms fa fb g).symm⟩
  · rintro ⟨g, hg, rfl⟩
    exact ⟨mk g, List.mem_filter.mpr ⟨mem_range16.mpr ⟨mk_nn g, mk_lt g⟩, sel_mk.mpr hg⟩, win_ms fa fb g⟩
theorem ends_won {fa fb y n : Int → Bool} : false ∉ ends fa fb y n ↔ win fa fb y = true := by
  rw [mem_ends]
  constructor
  · intro h
    cases e : win fa fb y
    · exact absurd ⟨y, fun i hi => by cases y i <;> simp, e⟩ h
    · rfl
  · rintro hw ⟨g, hg, e⟩
    rw [win_mono (fun i hi hy => ?_) hw] at e
    · cases e
    · have := hg i hi
      rw [hy, Bool.and_eq_true] at this
      exact this.1
theorem ends_open {fa fb y n : Int → Bool} (hd : ∀ i ∈ IDs, y i = true → n i = false) : true ∈ ends fa fb y n ↔ win fa fb (fun i => !n i) = true := by
  rw [mem_ends]
  constructor
  · rintro ⟨g, hg, e⟩
    refine win_mono (fun i hi hy => ?_) e
    have h1 := hg i hi
    have h2 := hd i hi
    rw [hy] at h1
    cases hn : n i
    · rfl
    · rw [hn, Bool.or_true, Bool.and_true] at h1
      rw [h2 h1.symm] at hn
      cases hn
  · intro hw
    refine ⟨_, fun i hi => ?_, hw⟩
    have h2 := hd i hi
    cases hy : y i <;> cases hn : n i <;> simp_all
theorem disj {vt : Int → Option Bool} : ∀ i ∈ IDs, isYes vt i = true → isNo vt i = false := fun i _ h => by
  have := yes_no h
  cases e : isNo vt i
  · rfl
  · rw [e] at this; cases this
theorem tyes_cnt (f g : Int → Bool) (vt : Int → Option Bool) : ((tyes f g vt : Nat) : Int) = cnt (fun i => isYes vt i && (f i || g i)) := by
  unfold tyes cnt
  rw [filter_ids]
theorem tno_cnt (f g : Int → Bool) (vt : Int → Option Bool) : ((tno f g vt : Nat) : Int) = cnt (fun i => isNo vt i && (f i || g i)) := by
  unfold tno cnt
  rw [filter_ids]
/-- the best index: up to which the members at or past it win -/
theorem MIdx.win {f : Int → Bool} {ak : Int → Int} {r : Int} (h : MIdx f ak r) (hf : ids f ≠ []) (i : Int) : winH f (fun j => decide (i ≤ ak j)) = true ↔ i ≤ r := by
  rcases h with ⟨h, _⟩ | ⟨_, ns, hp, hs, hr⟩
  · exact absurd h hf
  · have hm : mk f ≠ 0 := fun e => hf (cnt_nil.mpr e)
    have hl : ns.length = (ids f).length := by rw [hp.length_eq, List.length_map]
    have hpos : 0 < (ids f).length := List.length_pos_iff.mpr hf
    have hlt : (ids f).length - ((ids f).length / 2 + 1) < ns.length := by omega
    have e1 : cnt (fun j => decide (i ≤ ak j) && f j) = ((ns.filter fun z => decide (i ≤ z)).length : Int) := by
      have e := (hp.filter fun z => decide (i ≤ z)).length_eq
      rw [e, List.filter_map, List.length_map]
      unfold cnt
      rw [← filter_ids f (fun j => decide (i ≤ ak j))]
      rfl
    have e2 : winH f (fun j => decide (i ≤ ak j)) = true ↔ cnt f < 2 * cnt (fun j => decide (i ≤ ak j) && f j) := by
      unfold winH
      simp [hm]
    rw [e2, e1]
    have e3 : cnt f = ((ids f).length : Int) := rfl
    rw [e3, hr, List.getD_eq_getElem?_getD, List.getElem?_eq_getElem hlt, Option.getD_some]
    have split := List.take_append_drop ((ids f).length - ((ids f).length / 2 + 1)) ns
    constructor
    · intro hc
      apply Decidable.byContradiction
      intro hn
      have hz : (ns.take ((ids f).length - ((ids f).length / 2 + 1) + 1)).filter (fun z => decide (i ≤ z)) = [] := by
        rw [List.filter_eq_nil_iff]
        intro z hz hzi
        rw [List.mem_take_iff_getElem] at hz
        obtain ⟨q, hq, rfl⟩ := hz
        have hzi : i ≤ ns[q] := by simpa using hzi
        have : ns[q] ≤ ns[(ids f).length - ((ids f).length / 2 + 1)] := by
          rcases Nat.lt_or_eq_of_le (show q ≤ (ids f).length - ((ids f).length / 2 + 1) by omega) with hq' | hq'
          · exact List.pairwise_iff_getElem.mp hs _ _ _ _ hq'
          · subst hq'
            exact Int.le_refl _
        omega
      have hsp := List.take_append_drop ((ids f).length - ((ids f).length / 2 + 1) + 1) ns
      rw [← hsp, List.filter_append, hz, List.nil_append] at hc
      have := List.length_filter_le (fun z => decide (i ≤ z)) (ns.drop ((ids f).length - ((ids f).length / 2 + 1) + 1))
      rw [List.length_drop] at this
      omega
    · intro hi
      have hz : (ns.drop ((ids f).length - ((ids f).length / 2 + 1))).filter (fun z => decide (i ≤ z)) = ns.drop ((ids f).length - ((ids f).length / 2 + 1)) := by
        rw [List.filter_eq_self]
        intro z hz
        rw [List.mem_drop_iff_getElem] at hz
        obtain ⟨q, hq, rfl⟩ := hz
        have : ns[(ids f).length - ((ids f).length / 2 + 1)] ≤ ns[(ids f).length - ((ids f).length / 2 + 1) + q] := by
          rcases Nat.eq_zero_or_pos q with hq' | hq'
          · subst hq'
            exact Int.le_refl _
          · exact List.pairwise_iff_getElem.mp hs _ _ _ _ (by omega)
        rw [decide_eq_true_eq]
        omega
      have h2 : (ns.drop ((ids f).length - ((ids f).length / 2 + 1))).length ≤ (ns.filter fun z => decide (i ≤ z)).length := by
        rw [← hz]
        conv => rhs; rw [← split, List.filter_append, List.length_append]
        omega
      rw [List.length_drop] at h2
      omega
/-- and it is one of the given -/
theorem MIdx.range {f : Int → Bool} {ak : Int → Int} {r : Int} (h : MIdx f ak r) (hf : ids f ≠ []) (ha : ∀ i ∈ IDs, 0 ≤ ak i ∧ ak i < 7) : 0 ≤ r ∧ r < 7 := by
  rcases h with ⟨h, _⟩ | ⟨_, ns, hp, hs, hr⟩
  · exact absurd h hf
  · have hl : ns.length = (ids f).length := by rw [hp.length_eq, List.length_map]
    have hpos : 0 < (ids f).length := List.length_pos_iff.mpr hf
    have hlt : (ids f).length - ((ids f).length / 2 + 1) < ns.length := by omega
    rw [hr, List.getD_eq_getElem?_getD, List.getElem?_eq_getElem hlt, Option.getD_some]
    have hm : ns[(ids f).length - ((ids f).length / 2 + 1)] ∈ (ids f).map ak := hp.mem_iff.mp (List.getElem_mem hlt)
    obtain ⟨j, hj, e⟩ := List.mem_map.mp hm
    rw [← e]
    exact ha j (mem_ids.mp hj).1
theorem winH_nil {f g : Int → Bool} (h : ids f = []) : winH f g = true := by
  unfold winH
  rw [decide_eq_true (cnt_nil.mp h)]
  rfl
theorem mk_pos {f : Int → Bool} (h : ids f ≠ []) : 0 < mk f := by
  have h1 : mk f ≠ 0 := fun e => h (cnt_nil.mpr e)
  have := mk_nn f
  omega
theorem JIdx.none {f g : Int → Bool} {ak : Int → Int} {r : Int} (h : JIdx f g ak r) (hp : ¬ 0 < mk f + mk g) : r = 18446744073709551615 := by
  have h1 := mk_nn f
  have h2 := mk_nn g
  have hf : ids f = [] := cnt_nil.mpr (by omega)
  have hg : ids g = [] := cnt_nil.mpr (by omega)
  obtain ⟨r1, r2, m1, m2, rfl⟩ := h
  rcases m1 with ⟨_, rfl⟩ | ⟨z, _⟩
  · rcases m2 with ⟨_, rfl⟩ | ⟨z, _⟩
    · rfl
    · exact absurd hg z
  · exact absurd hf z
theorem JIdx.some {f g : Int → Bool} {ak : Int → Int} {r : Int} (h : JIdx f g ak r) (hp : 0 < mk f + mk g) (ha : ∀ i ∈ IDs, 0 ≤ ak i ∧ ak i < 7) : 0 ≤ r ∧ r < 7 ∧ ∀ i < 7, (win f g (fun j => decide (i ≤ ak j)) = true ↔ i ≤ r) := by
  obtain ⟨r1, r2, m1, m2, rfl⟩ := h
  have key : ∀ {f : Int → Bool} {r : Int}, MIdx f ak r → (0 ≤ r ∧ ∀ i < 7, (winH f (fun j => decide (i ≤ ak j)) = true ↔ i ≤ r)) ∧ (ids f ≠ [] → r < 7) := fun {f r} m => by
    by_cases hf : ids f = []
    · rcases m with ⟨_, rfl⟩ | ⟨z, _⟩
      · exact ⟨⟨by decide, fun i hi => ⟨fun _ => by omega, fun _ => winH_nil hf⟩⟩, fun z => absurd hf z⟩
      · exact absurd hf z
    · have hr := m.range hf ha
      exact ⟨⟨hr.1, fun i _ => m.win hf i⟩, fun _ => hr.2⟩
  obtain ⟨⟨a1, b1⟩, c1⟩ := key m1
  obtain ⟨⟨a2, b2⟩, c2⟩ := key m2
  have h7 : r1 < 7 ∨ r2 < 7 := by
    by_cases hf : ids f = []
    · by_cases hg : ids g = []
      · have := cnt_nil.mp hf
        have := cnt_nil.mp hg
        omega
      · exact .inr (c2 hg)
    · exact .inl (c1 hf)
  refine ⟨by split <;> omega, by split <;> omega, fun i hi => ?_⟩
  unfold Mine.win
  rw [Bool.and_eq_true, b1 i hi, b2 i hi]
  split <;> omega
/-- the indexes that can be won -/
noncomputable def tried (f g : Int → Bool) (ak : Int → Int) : List Int := (rangeKs 0 7).filter fun i => Mine.win f g (fun j => decide (i ≤ ak j))
theorem tried_eq {f g : Int → Bool} {ak : Int → Int} {r : Int} (h : JIdx f g ak r) (hp : 0 < mk f + mk g) (ha : ∀ i ∈ IDs, 0 ≤ ak i ∧ ak i < 7) : ∃ l, tried f g ak = l ++ [r] := by
  obtain ⟨h0, h7, hw⟩ := h.some hp ha
  have e : tried f g ak = (rangeKs 0 7).filter fun i => decide (i ≤ r) := by
    unfold tried
    refine List.filter_congr fun i hi => ?_
    have h1 := mem_rangeKs hi
    have h2 := hw i (by omega)
    cases e : Mine.win f g (fun j => decide (i ≤ ak j))
    · rw [e] at h2
      have : ¬ i ≤ r := fun z => by simpa using h2.mpr z
      simp [this]
    · simp [h2.mp e]
  rw [e]
  have : r = 0 ∨ r = 1 ∨ r = 2 ∨ r = 3 ∨ r = 4 ∨ r = 5 ∨ r = 6 := by omega
  rcases this with rfl | rfl | rfl | rfl | rfl | rfl | rfl
  · exact ⟨[], by decide⟩
  · exact ⟨[0], by decide⟩
  · exact ⟨[0, 1], by decide⟩
  · exact ⟨[0, 1, 2], by decide⟩
  · exact ⟨[0, 1, 2, 3], by decide⟩
  · exact ⟨[0, 1, 2, 3, 4], by decide⟩
  · exact ⟨[0, 1, 2, 3, 4, 5], by decide⟩
/-- a comprehension's element, told by what holds of the list so far -/
noncomputable def GEl (R : List Value → Prop) (news : List (Addr × Obj)) (ys : List Value) (y : Value) (news' : List (Addr × Obj)) : Prop := news' = news ∧ R (ys ++ [y])
noncomputable def GNo (R : List Value → Prop) (news : List (Addr × Obj)) (ys : List Value) (news' : List (Addr × Obj)) : Prop := news' = news ∧ R ys
section
variable {prog : Program} {w : World} {A : Around} {h₀ : Heap} {L : Addr} {m : Str → Option Value} {env : Env} {ct elt : Expr} {x : Str} {scope : Scope} {cl : List (Str × Addr)} {s : Shared} {S : List (Addr × Obj) → Prop} {Fin : List Value → List (Addr × Obj) → Prop} {news : List (Addr × Obj)}
theorem cg_range {n : Nat} (R : Nat → List Value → Prop) (h0 : R 0 [])
    (turn : ∀ i t I oI C oC D m₂ ys h tk (E' : Value → Shared → Prop), i < n → R i ys → LCg.NsObj oC m₂ → m₂ x = some (.int (i : Int) t) → Fr h₀ L h m → News h₀ L h ((I, oI) :: (C, oC) :: (D, LCg.lst ys) :: news) → LCg.Off3 I C D news → ((@Ne Nat I C) ∧ (@Ne Nat I D) ∧ (@Ne Nat C D)) →
      wpAny (model prog w) A (eval elt (compEnvC scope cl C env)) (LCg.CompEnd h₀ L m { s with heap := h, toks := tk } I oI C oC D (LCg.lst ys) S (fun y news' => GEl (R (i + 1)) news ys y news')) E' { s with heap := h, toks := tk })
    (fin : ∀ ys, R n ys → Fin ys news) : LCg.CompRest prog w A h₀ L m env elt x scope cl s S (fun i v => ∃ t, v = .int (0 + (i : Int)) t) Fin n 0 [] news := by
  have key : ∀ (j i : Nat) (ys : List Value), i + j = n → R i ys → LCg.CompRest prog w A h₀ L m env elt x scope cl s S (fun i v => ∃ t, v = .int (0 + (i : Int)) t) Fin j i ys news := by
    intro j
    induction j with
    | zero =>
      intro i ys hi hy
      have e : i = n := by omega
      subst e
      exact LCg.CompRest.zero (fin ys hy)
    | succ j ih =>
      intro i ys hi hy
      refine LCg.CompRest.succ ?_
      intro v I oI C oC D m₂ h tk E' hv hC hx F N off ne
      obtain ⟨t, rfl⟩ := hv
      rw [Int.zero_add] at hx
      refine wpAny_mono (turn i t I oI C oC D m₂ ys h tk E' (by omega) hy hC hx F N off ne) (fun y s₃ hr => ?_) fun _ _ e => e
      obtain ⟨h', tk', nw, e, F', N', off', hS, hn, hr'⟩ := hr
      rw [hn] at N' off' hS
      exact ⟨h', tk', news, e, F', N', off', hS, ih (i + 1) _ (by omega) hr'⟩
  exact key n 0 [] (by omega) h0
theorem ct_range {n : Nat} (R : Nat → List Value → Prop) (h0 : R 0 [])
    (turn : ∀ i t I oI C oC D m₂ ys h tk (E' : Value → Shared → Prop), i < n → R i ys → LCg.NsObj oC m₂ → m₂ x = some (.int (i : Int) t) → Fr h₀ L h m → News h₀ L h ((I, oI) :: (C, oC) :: (D, LCg.lst ys) :: news) → LCg.Off3 I C D news → ((@Ne Nat I C) ∧ (@Ne Nat I D) ∧ (@Ne Nat C D)) →
      wpAny (model prog w) A (isTrue ct (compEnvC scope cl C env) (eval ct (compEnvC scope cl C env))) (fun b s' => if b = true then wpAny (model prog w) A (eval elt (compEnvC scope cl C env)) (LCg.CompEnd h₀ L m { s with heap := h, toks := tk } I oI C oC D (LCg.lst ys) S (fun y news' => GEl (R (i + 1)) news ys y news')) E' s'
        else LCg.CompEnd h₀ L m { s with heap := h, toks := tk } I oI C oC D (LCg.lst ys) S (fun _ news' => GNo (R (i + 1)) news ys news') Value.none s') E' { s with heap := h, toks := tk })
    (fin : ∀ ys, R n ys → Fin ys news) : LCt.CompRestT prog w A h₀ L m env ct elt x scope cl s S (fun i v => ∃ t, v = .int (0 + (i : Int)) t) Fin n 0 [] news := by
  have key : ∀ (j i : Nat) (ys : List Value), i + j = n → R i ys → LCt.CompRestT prog w A h₀ L m env ct elt x scope cl s S (fun i v => ∃ t, v = .int (0 + (i : Int)) t) Fin j i ys news := by
    intro j
    induction j with
    | zero =>
      intro i ys hi hy
      have e : i = n := by omega
      subst e
      exact LCt.CompRestT.zero (fin ys hy)
    | succ j ih =>
      intro i ys hi hy
      refine LCt.CompRestT.succ ?_
      intro v I oI C oC D m₂ h tk E' hv hC hx F N off ne
      obtain ⟨t, rfl⟩ := hv
      rw [Int.zero_add] at hx
      refine wpAny_mono (turn i t I oI C oC D m₂ ys h tk E' (by omega) hy hC hx F N off ne) (fun b s₂ hq => ?_) fun _ _ e => e
      cases b with
      | true =>
        simp only [if_true] at hq ⊢
        refine wpAny_mono hq (fun y s₃ hr => ?_) fun _ _ e => e
        obtain ⟨h', tk', nw, e, F', N', off', hS, hn, hr'⟩ := hr
        rw [hn] at N' off' hS
        exact ⟨h', tk', news, e, F', N', off', hS, ih (i + 1) _ (by omega) hr'⟩
      | false =>
        simp only [Bool.false_eq_true, if_false] at hq ⊢
        obtain ⟨h', tk', nw, e, F', N', off', hS, hn, hr'⟩ := hq
        rw [hn] at N' off' hS
        exact ⟨h', tk', news, e, F', N', off', hS, ih (i + 1) _ (by omega) hr'⟩
  exact key n 0 [] (by omega) h0
end
theorem rangeKs_succ (i : Nat) : rangeKs 0 (i + 1) = rangeKs 0 i ++ [(i : Int)] := by
  unfold rangeKs
  rw [List.range_succ, List.map_append]
  simp
/-- the wins told so far -/
noncomputable def WinsR (fa fb : Int → Bool) (i : Nat) (ys : List Value) : Prop := LSm.BoolsAre ys ((rangeKs 0 i).map fun k => win fa fb (ms k))
theorem WinsR.step {fa fb g : Int → Bool} {i : Nat} {ys : List Value} {b : Bool} (h : WinsR fa fb i ys) (hg : (i : Int) = mk g) (hb : b = win fa fb g) : WinsR fa fb (i + 1) (ys ++ [.bool b]) := by
  unfold WinsR at h ⊢
  rw [rangeKs_succ, List.map_append, hb]
  refine kbo_app h ?_
  rw [List.map_singleton, hg, win_ms]
  exact .cons _ .nil
/-- the ends told so far -/
noncomputable def EndsR (fa fb y n : Int → Bool) (i : Nat) (ys : List Value) : Prop := LSm.BoolsAre ys (((rangeKs 0 i).filter (sel y n)).map fun k => win fa fb (ms k))
theorem EndsR.yes {fa fb y n g : Int → Bool} {i : Nat} {ys : List Value} (h : EndsR fa fb y n i ys) (hg : (i : Int) = mk g) (hs : mk (fun i => g i && (y i || n i)) = mk y) : EndsR fa fb y n (i + 1) (ys ++ [.bool (win fa fb g)]) := by
  unfold EndsR at h ⊢
  have e : sel y n (i : Int) = true := by rw [hg]; exact sel_mk.mpr (mk_inj.mp hs)
  rw [rangeKs_succ, List.filter_append, List.filter_cons_of_pos e, List.filter_nil, List.map_append]
  refine kbo_app h ?_
  rw [List.map_singleton, hg, win_ms]
  exact .cons _ .nil
theorem EndsR.no {fa fb y n g : Int → Bool} {i : Nat} {ys : List Value} (h : EndsR fa fb y n i ys) (hg : (i : Int) = mk g) (hs : ¬ mk (fun i => g i && (y i || n i)) = mk y) : EndsR fa fb y n (i + 1) ys := by
  unfold EndsR at h ⊢
  have e : ¬ sel y n (i : Int) = true := by rw [hg]; exact fun z => hs (mk_inj.mpr (sel_mk.mp z))
  rw [rangeKs_succ, List.filter_append, List.filter_cons_of_neg e, List.filter_nil, List.append_nil]
  exact h
theorem wins_at {fa fb g : Int → Bool} {ys : List Value} (_h : WinsR fa fb 16 ys) : ((rangeKs 0 16).map fun k => win fa fb (ms k)).getD (mk g).toNat false = win fa fb g := by
  have e : (rangeKs 0 16)[(mk g).toNat]? = some (mk g) := by
    have h1 := mk_nn g
    have h2 := mk_lt g
    simp [rangeKs, h2]
    omega
  rw [List.getD_eq_getElem?_getD, List.getElem?_map, e]
  exact win_ms fa fb g
/-- the indexes that can be won, told so far -/
noncomputable def TriedR (fa fb : Int → Bool) (ak : Int → Int) (i : Nat) (ys : List Value) : Prop := IntsAre ys ((rangeKs 0 i).filter fun i => win fa fb (fun j => decide (i ≤ ak j)))
theorem TriedR.yes {fa fb : Int → Bool} {ak : Int → Int} {i : Nat} {ys : List Value} {t : Tok} (h : TriedR fa fb ak i ys) (hs : win fa fb (fun j => decide ((i : Int) ≤ ak j)) = true) : TriedR fa fb ak (i + 1) (ys ++ [.int (i : Int) t]) := by
  unfold TriedR at h ⊢
  rw [rangeKs_succ, List.filter_append, List.filter_cons_of_pos (by simpa using hs), List.filter_nil]
  exact IntsAre.append h (.cons _ _ .nil)
theorem TriedR.no {fa fb : Int → Bool} {ak : Int → Int} {i : Nat} {ys : List Value} (h : TriedR fa fb ak i ys) (hs : win fa fb (fun j => decide ((i : Int) ≤ ak j)) = false) : TriedR fa fb ak (i + 1) ys := by
  unfold TriedR at h ⊢
  rw [rangeKs_succ, List.filter_append, List.filter_cons_of_neg (by rw [hs]; decide), List.filter_nil, List.append_nil]
  exact h
/-- the bits of the members that hold what is asked, told so far -/
noncomputable def BitsR (p : Int → Bool) (i : Nat) (ys : List Value) : Prop := IntsAre ys (((rangeKs 0 i).filter fun k => p (idAt k)).map fun k => 1 * 2 ^ k.toNat)
theorem BitsR.yes {p : Int → Bool} {i : Nat} {ys : List Value} {t : Tok} (h : BitsR p i ys) (hs : p (idAt (i : Int)) = true) : BitsR p (i + 1) (ys ++ [.int (1 * 2 ^ (i : Int).toNat) t]) := by
  unfold BitsR at h ⊢
  rw [rangeKs_succ, List.filter_append, List.filter_cons_of_pos (by simpa using hs), List.filter_nil, List.map_append]
  exact IntsAre.append h (.cons _ _ .nil)
theorem BitsR.no {p : Int → Bool} {i : Nat} {ys : List Value} (h : BitsR p i ys) (hs : p (idAt (i : Int)) = false) : BitsR p (i + 1) ys := by
  unfold BitsR at h ⊢
  rw [rangeKs_succ, List.filter_append, List.filter_cons_of_neg (by rw [hs]; decide), List.filter_nil, List.append_nil]
  exact h
theorem bits_sum {p : Int → Bool} : (((rangeKs 0 4).filter fun k => p (idAt k)).map fun k => 1 * 2 ^ k.toNat).sum = mk p := by
  have e : rangeKs 0 4 = [0, 1, 2, 3] := by decide
  rw [e]
  have i0 : idAt 0 = 2 := rfl
  have i1 : idAt 1 = 3 := rfl
  have i2 : idAt 2 = 5 := rfl
  have i3 : idAt 3 = 9 := rfl
  unfold mk
  cases h0 : p 2 <;> cases h1 : p 3 <;> cases h2 : p 5 <;> cases h3 : p 9 <;> simp [i0, i1, i2, i3, h0, h1, h2, h3, bt]
section
variable {prog : Program} {w : World} {A : Around} {E : Value → Shared → Prop} {s : Shared} {h₀ : Heap} {L l : Addr} {m : Str → Option Value} {news news' : List (Addr × Obj)} {vs : List Value} {n : Nat} {Q : Value → Shared → Prop}
theorem shr_go {f : Int → Bool} {k : Int} {t u : Tok} (h0 : 0 ≤ k) (h : Q (.int (shr f k) s.toks) { s with toks := s.toks + 1 }) : wpAny (model prog w) A (binaryOp .RShift (.int (mk f) t) (.int k u)) Q E s := rshift_int h0 h
theorem and_go {f g : Int → Bool} {t u : Tok} (h : Q (.int (mk fun i => f i && g i) s.toks) { s with toks := s.toks + 1 }) : wpAny (model prog w) A (binaryOp .BitAnd (.int (mk f) t) (.int (mk g) u)) Q E s := and_int (by rw [mk_and]; exact h)
theorem or_go {f g : Int → Bool} {t u : Tok} (h : Q (.int (mk fun i => f i || g i) s.toks) { s with toks := s.toks + 1 }) : wpAny (model prog w) A (binaryOp .BitOr (.int (mk f) t) (.int (mk g) u)) Q E s := or_int (by rw [mk_or]; exact h)
theorem bit_go {f : Int → Bool} {k : Int} {t u : Tok} (h0 : 0 ≤ k) (h1 : k < 4) (h : Q (.int (bt (f (idAt k))) s.toks) { s with toks := s.toks + 1 }) : wpAny (model prog w) A (binaryOp .BitAnd (.int (shr f k) t) (.int 1 u)) Q E s := and_int (by rw [shr_bit f h0 h1]; exact h)
theorem bit_one {b : Bool} {t u : Tok} (h : Q (.bool b) s) : wpAny (model prog w) A (compareOp .Eq (.int (bt b) t) (.int 1 u)) Q E s := eq_int (by
  have : (bt b == 1) = b := by cases b <;> rfl
  rw [this]; exact h)
theorem bit_zero {b : Bool} {t u : Tok} (h : Q (.bool (!b)) s) : wpAny (model prog w) A (compareOp .Eq (.int (bt b) t) (.int 0 u)) Q E s := eq_int (by
  have : (bt b == 0) = !b := by cases b <;> rfl
  rw [this]; exact h)
theorem item_ones {value slice : Expr} {f : Int → Bool} {u : Tok} (N : News h₀ L s.heap news) (hm : (l, listO vs n) ∈ news) (hi : IntsAre vs [0, 1, 1, 2, 1, 2, 2, 3, 1, 2, 2, 3, 2, 3, 3, 4]) (h : ∀ t, Q (.int (cnt f) t) s)
    (hs : subscripted slice false (.ref l) (.int (mk f) u) = operate [.ref l, .int (mk f) u] (getItem (.ref l) (.int (mk f) u)) := by with_unfolding_all rfl) : wpAny (model prog w) A (subscriptTail value slice (.ref l) (.int (mk f) u)) Q E s :=
  item_lit N hm hi (mk_nn f) (Int.lt_trans (mk_lt f) (by decide)) (ones_cnt f) h hs
theorem item_wins {value slice : Expr} {fa fb g : Int → Bool} {u : Tok} (N : News h₀ L s.heap news) (hm : (l, listO vs n) ∈ news) (hi : WinsR fa fb 16 vs) (h : Q (.bool (win fa fb g)) s)
    (hs : subscripted slice false (.ref l) (.int (mk g) u) = operate [.ref l, .int (mk g) u] (getItem (.ref l) (.int (mk g) u)) := by with_unfolding_all rfl) : wpAny (model prog w) A (subscriptTail value slice (.ref l) (.int (mk g) u)) Q E s :=
  kbo_sub N hm hi (mk_nn g) (by rw [List.length_map]; exact mk_lt g) (Int.lt_trans (mk_lt g) (by decide)) (by rw [wins_at hi]; exact h) hs
theorem EqGives_bool (a b : Bool) : MeetsSeq.EqGives (.bool a) (.bool b) (a == b) := fun _ _ _ _ _ _ h => by
  unfold eqBool
  show wpAny _ _ (if (Value.bool a == Value.bool b) = true then _ else _) _ _ _
  by_cases hab : (Value.bool a == Value.bool b) = true
  · rw [if_pos hab]
    have e : a = b := by have := eq_of_beq hab; injection this
    subst e
    exact wpAny_bind (wpAny_rule (wpAny_pure (by simpa using h)))
  · rw [if_neg hab]
    exact wpAny_bind (eq_bool (wpAny_truthy_bool h))
noncomputable def isB (k : Bool) : Value → Bool
  | .bool b => b == k
  | _ => false
theorem any_isB (k : Bool) : ∀ {vs : List Value} {bs : List Bool}, LSm.BoolsAre vs bs → vs.any (isB k) = bs.any (· == k)
  | _, _, .nil => rfl
  | _, _, .cons b h => by simp only [List.any_cons, isB, any_isB k h]
theorem eq_isB (k : Bool) : ∀ {vs : List Value} {bs : List Bool}, LSm.BoolsAre vs bs → ∀ y, y ∈ vs → MeetsSeq.EqGives y (.bool k) (isB k y)
  | _, _, .nil, _, hy => nomatch hy
  | _, _, .cons b h, y, hy => by
    rcases List.mem_cons.mp hy with rfl | hy
    · exact EqGives_bool b k
    · exact eq_isB k h y hy
theorem ends_false {fa fb : Int → Bool} {vt : Int → Option Bool} : (!(ends fa fb (isYes vt) (isNo vt)).any (· == false)) = win fa fb (isYes vt) := by
  have h := ends_won (fa := fa) (fb := fb) (y := isYes vt) (n := isNo vt)
  cases e : win fa fb (isYes vt)
  · rw [e] at h
    have : false ∈ ends fa fb (isYes vt) (isNo vt) := Decidable.not_not.mp fun z => Bool.noConfusion (h.mp z)
    have : (ends fa fb (isYes vt) (isNo vt)).any (· == false) = true := List.any_eq_true.mpr ⟨_, this, rfl⟩
    rw [this]; rfl
  · have := h.mpr e
    have : (ends fa fb (isYes vt) (isNo vt)).any (· == false) = false := by
      rw [List.any_eq_false]
      intro x hx z
      exact this (eq_of_beq z ▸ hx)
    rw [this]; rfl
theorem ends_true {fa fb : Int → Bool} {vt : Int → Option Bool} : (ends fa fb (isYes vt) (isNo vt)).any (· == true) = win fa fb (fun i => !isNo vt i) := by
  have h := ends_open (fa := fa) (fb := fb) (y := isYes vt) (n := isNo vt) disj
  cases e : win fa fb (fun i => !isNo vt i)
  · rw [e] at h
    rw [List.any_eq_false]
    intro x hx z
    have := h.mp (eq_of_beq z ▸ hx)
    cases this
  · exact List.any_eq_true.mpr ⟨_, h.mpr e, rfl⟩
theorem ends_notin {fa fb : Int → Bool} {vt : Int → Option Bool} (hl : s.heap.IsList l vs.toArray) (hi : EndsR fa fb (isYes vt) (isNo vt) 16 vs) (h : Q (.bool (win fa fb (isYes vt))) s) : wpAny (model prog w) A (compareOp .NotIn (.bool false) (.ref l)) Q E s :=
  SeqInW.notIn_listW (isB false) (fun y hy => eq_isB false hi y (by simpa using hy)) hl (by
    rw [← Array.any_toList, show vs.toArray.toList = vs from rfl, any_isB false hi]
    have e := ends_false (fa := fa) (fb := fb) (vt := vt)
    unfold ends at e
    rw [e]
    exact h)
theorem ends_in {fa fb : Int → Bool} {vt : Int → Option Bool} (hl : s.heap.IsList l vs.toArray) (hi : EndsR fa fb (isYes vt) (isNo vt) 16 vs) (h : Q (.bool (win fa fb (fun i => !isNo vt i))) s) : wpAny (model prog w) A (compareOp .In (.bool true) (.ref l)) Q E s :=
  SeqInW.in_listW (isB true) (fun y hy => eq_isB true hi y (by simpa using hy)) hl (by
    rw [← Array.any_toList, show vs.toArray.toList = vs from rfl, any_isB true hi]
    have e := ends_true (fa := fa) (fb := fb) (vt := vt)
    unfold ends at e
    rw [e]
    exact h)
theorem bits_go {p : Int → Bool} (F : Fr h₀ L s.heap m) (N : News h₀ L s.heap news) (hh : A.handled = none) (hm : (l, listO vs n) ∈ news) (hi : BitsR p 4 vs)
    (h : ∀ h' tk t', Fr h₀ L h' m → News h₀ L h' news → Q (.int (mk p) t') { s with heap := h', toks := tk }) : wpAny (model prog w) A (call (.builtin "sum") [.ref l]) Q E s :=
  LSm.sum_ints F N hh (News.isList N hm) hi (by rw [bits_sum]; exact h)
end
/-- the ledger without the cell c -/
inductive CDrop (c : Addr) : List (Addr × Obj) → List (Addr × Obj) → Prop
  | nil : CDrop c [] []
  | skip {p : Addr × Obj} {r r' : List (Addr × Obj)} : CDrop c r r' → CDrop c (p :: r) r'
  | keepD {p : Addr × Obj} {r r' : List (Addr × Obj)} : (∀ v, p.2.data ≠ .cell v) → CDrop c r r' → CDrop c (p :: r) (p :: r')
  | keepA {p : Addr × Obj} {r r' : List (Addr × Obj)} : p.1 ≠ c → CDrop c r r' → CDrop c (p :: r) (p :: r')
theorem CDrop.sub {c : Addr} {a b : List (Addr × Obj)} (h : CDrop c a b) : ∀ p ∈ b, p ∈ a ∧ (p.1 ≠ c ∨ ∀ v, p.2.data ≠ .cell v) := by
  induction h with
  | nil => exact fun _ h => nomatch h
  | skip _ ih => exact fun p hp => ⟨.tail _ (ih p hp).1, (ih p hp).2⟩
  | keepD hd _ ih =>
    intro p hp
    rcases List.mem_cons.mp hp with rfl | hp
    · exact ⟨.head _, .inr hd⟩
    · exact ⟨.tail _ (ih p hp).1, (ih p hp).2⟩
  | keepA hd _ ih =>
    intro p hp
    rcases List.mem_cons.mp hp with rfl | hp
    · exact ⟨.head _, .inl hd⟩
    · exact ⟨.tail _ (ih p hp).1, (ih p hp).2⟩
theorem CDrop.ne {h₀ h : Heap} {L c : Addr} {o : Obj} {v₀ : Option Value} {news news0 : List (Addr × Obj)} (N : News h₀ L h news) (hm : (c, o) ∈ news) (hd : o.data = .cell v₀) (D : CDrop c news news0) : ∀ p ∈ news0, p.1 ≠ c := fun p hp e => by
  obtain ⟨h1, h2⟩ := D.sub p hp
  rcases h2 with h2 | h2
  · exact h2 e
  · have := news_same N h1 hm e
    subst this
    exact h2 _ hd
theorem store_cell {M : Model} {A : Around} {E : Value → Shared → Prop} {s : Shared} {h₀ : Heap} {L a : Addr} {m : Str → Option Value} {cn : Str} {cs : Scope} {ccd : Value} {cl : List (Str × Addr)}
   {x : Str} {v : Value} {Q : Unit → Shared → Prop} {news news0 : List (Addr × Obj)} {c : Addr} {o : Obj} {v₀ : Option Value} (F : Fr h₀ L s.heap m) (N : News h₀ L s.heap news) (hc : cl.lookup x = some c) (hm : (c, o) ∈ news) (hd : o.data = .cell v₀) (D : CDrop c news news0)
   (h : ∀ h' o', Fr h₀ L h' m → News h₀ L h' ((c, o') :: news0) → o'.data = .cell (some v) → Q () { s with heap := h' })
   (hk : cs.kind = .function) (hx : (envX cn cs L a ccd cl).kindOf x = some .cell) : wpAny M A (storeName (envX cn cs L a ccd cl) x v) Q E s := by
  have hmem := N (c, o) hm
  refine wpAny_storeName_cell hk hx hc ⟨o, hmem.1, hd⟩ fun h' hv hs => ?_
  obtain ⟨o', ho', hd'⟩ := hv
  refine h h' o' ⟨F.ns.sameBut hs (Ne.symm hmem.2.1), fun b ob e => (hs.2 b (fun q => ?_)).trans (F.keep b ob e), F.above⟩ (fun p hp => ?_) hd'
  · rw [q, hmem.2.2] at e; cases e
  · rcases List.mem_cons.mp hp with rfl | hp
    · exact ⟨ho', hmem.2⟩
    · have h1 := (D.sub p hp).1
      exact ⟨(hs.2 _ (D.ne N hm hd p hp)).trans (N p h1).1, (N p h1).2⟩
theorem dict_nc {o : Obj} {prog : Program} {w : World} {K : Type} [DecidableEq K] {knd : KeyKind prog w K} {kvs : List (K × Value)} (h : o.IsDictOf knd kvs) : ∀ v, o.data ≠ .cell v := fun v e => by
  obtain ⟨es, ep, hc, r⟩ := h
  rw [r.1] at e
  cases e
theorem up_ne (L : Nat) {a b : Nat} (h : a ≠ b) : L + a ≠ L + b := fun e => h (Nat.add_left_cancel e)
/-- a statement's end, where the paths meet -/
noncomputable def StEnd (R : Shared → Prop) (f : Flow) (s₂ : Shared) : Prop := f = .next ∧ R s₂
theorem st_cut {M : Model} {A : Around} {E : Value → Shared → Prop} {s : Shared} {env : Env} {st : Stmt} {Q : Flow → Shared → Prop} (R : Shared → Prop) (h1 : wpAny M A (exec st env) (StEnd R) E s) (h2 : ∀ s₂, R s₂ → Q .next s₂) : wpAny M A (exec st env) Q E s :=
  wpAny_mono h1 (fun f s₂ hq => by obtain ⟨rfl, hr⟩ := hq; exact h2 _ hr) fun _ _ e => e
/-- nothing but the heap's other parts has changed -/
inductive Kept (g : Heap) (L : Addr) (m : Str → Option Value) (news : List (Addr × Obj)) (s s₂ : Shared) : Prop
  | mk (h' : Heap) (tk : Nat) (e : s₂ = { s with heap := h', toks := tk }) (F : Fr g L h' m) (N : News g L h' news)
theorem st_kept {M : Model} {A : Around} {E : Value → Shared → Prop} {s : Shared} {env : Env} {st : Stmt} {Q : Flow → Shared → Prop} {g : Heap} {L : Addr} {m : Str → Option Value} {news : List (Addr × Obj)} (_F : Fr g L s.heap m) (_N : News g L s.heap news)
    (h1 : wpAny M A (exec st env) (StEnd (Kept g L m news s)) E s) (h2 : ∀ h' tk, Fr g L h' m → News g L h' news → Q .next { s with heap := h', toks := tk }) : wpAny M A (exec st env) Q E s :=
  st_cut _ h1 fun s₂ hr => by obtain ⟨h', tk, rfl, F, N⟩ := hr; exact h2 _ _ F N
/-- a name has been given a number -/
inductive Given (g : Heap) (L : Addr) (m : Str → Option Value) (news : List (Addr × Obj)) (x : Str) (v : Int) (s s₂ : Shared) : Prop
  | mk (h' : Heap) (tk : Nat) (t : Tok) (e : s₂ = { s with heap := h', toks := tk }) (F : Fr g L h' (fun y => if y = x then some (.int v t) else m y)) (N : News g L h' news)
theorem st_given {M : Model} {A : Around} {E : Value → Shared → Prop} {s : Shared} {env : Env} {st : Stmt} {Q : Flow → Shared → Prop} {g : Heap} {L : Addr} {m : Str → Option Value} {news : List (Addr × Obj)} (x : Str) (v : Int) (_F : Fr g L s.heap m) (_N : News g L s.heap news)
    (h1 : wpAny M A (exec st env) (StEnd (Given g L m news x v s)) E s) (h2 : ∀ h' tk t, Fr g L h' (fun y => if y = x then some (.int v t) else m y) → News g L h' news → Q .next { s with heap := h', toks := tk }) : wpAny M A (exec st env) Q E s :=
  st_cut _ h1 fun s₂ hr => by obtain ⟨h', tk, t, rfl, F, N⟩ := hr; exact h2 _ _ _ F N
theorem single_yes {fa fb : Int → Bool} (h : cnt fa = 1) : ((decide ((ids fa).length = 1) && decide (ids fb = [])) != (mk fb == 0)) = false := by
  have h1 : (ids fa).length = 1 := by unfold cnt at h; omega
  rw [decide_eq_true h1, Bool.true_and]
  by_cases e : mk fb = 0
  · rw [decide_eq_true (cnt_nil.mpr e), e]; rfl
  · rw [decide_eq_false fun z => e (cnt_nil.mp z)]
    simpa using e
theorem single_no {fa fb : Int → Bool} (h : ¬ cnt fa = 1) : ((decide ((ids fa).length = 1) && decide (ids fb = [])) != false) = false := by
  have h1 : ¬ (ids fa).length = 1 := fun z => h (by unfold cnt; omega)
  rw [decide_eq_false h1]; rfl
theorem tups_ne {prog : Program} {w : World} {A : Around} {E : Value → Shared → Prop} {s : Shared} {h₀ : Heap} {L a b : Addr} {news : List (Addr × Obj)} {Q : Value → Shared → Prop} {xs ys : List Value} {ns ms : List Int} {c d : Nat} (N : News h₀ L s.heap news) (ha : (a, tupO xs c) ∈ news) (hb : (b, tupO ys d) ∈ news) (hi : IntsAre xs ns) (hj : IntsAre ys ms) (hu : A.units + 64 < cLine) (he : ns = ms) (h : Q (.bool false) s) :
    wpAny (model prog w) A (compareOp .NotEq (.ref a) (.ref b)) Q E s := by
  have sh : ∀ l : List Int, SeqAt.shaped (tupD l) = true := fun l => by
    simp [tupD, SeqAt.shaped, PyData.canLay0, PyData.canLayAll0, PyData.depth, PyData.depthAll, ke_canLayAll0, ke_depthAll]
  refine ne_dataH (tup_reads N ha hi) (tup_reads N hb hj) (sh _) (sh _) hu ?_
  have e : PyData.eqv (tupD ns) (tupD ms) = true := by
    simp only [tupD, PyData.eqv, ked_eqvAll]
    exact decide_eq_true he
  rw [e]
  exact h
section
variable {w : World} {mean : ExcName → Option Value} {mg mb : Str → Option Value}
   {dp un : Nat} {gd : Option (List Code)} {cn : Str} {nm : List (Str × NameKind)} {ig ic : Bool} {mo : List (Str × Const)} {a : Addr} {ccd : Value} {cl : List (Str × Addr)} {outer : List Env} {A₀ : Around} {base h₀ : Heap} {L : Addr} {m : Str → Option Value} {s : Shared} {Q E : Value → Shared → Prop} {news : List (Addr × Obj)}
variable {x bd c vd : Addr} {f : Cf} {vt : Int → Option Bool} {t1' t2' : Tok}
theorem tally_go (H : At 24 w mean mg mb A₀ base h₀ outer L m s news dp un) (hx : (x, instObj 328 bd) ∈ news) (hbd : (bd, balD w.params c vd t1' t2') ∈ news) (hc : CfIn w.params news c f) (hv : VotesIn w news vd vt)
   (ret : ∀ r h' tk' u1 u2 u3 n', Fr h₀ L h' m → News h₀ L h' ((r, tupO [.int (cnt fun i => isYes vt i && (f.v i || f.o i)) u1, .int (cnt fun i => isNo vt i && (f.v i || f.o i)) u2, .int (verdict f.v f.o (isYes vt) (isNo vt)) u3] n') :: news) → Q (.ref r) { s with heap := h', toks := tk' }) :
   CallA w dp un gd cn nm ig ic mo L a ccd cl outer 318 [.ref x] Q E s :=
  tally_spec H hx hbd hc hv (fun r tl h' tk' u1 u2 u3 n' F N => by
    rw [tyes_cnt, tno_cnt, jvote_verdict] at N
    exact ret r h' tk' u1 u2 u3 n' F (sub N (sc (.head _) (fun p hp => .tail _ (List.mem_append_right _ hp)))))
theorem Drop.all {d : Addr} : ∀ {l : List (Addr × Obj)}, (∀ p ∈ l, p.1 ≠ d) → Drop d l l
  | [], _ => .nil
  | p :: l, h => .keep (h p (.head _)) (Drop.all fun q hq => h q (.tail _ hq))
theorem record_go (H : At 4 w mean mg mb A₀ base h₀ outer L m s news dp un)
   {o : Obj} {tk : Tok} {k : Int} {ok : Bool} {kvs : List (Int × Value)} {news0 : List (Addr × Obj)} (hs : ∀ p ∈ news0, p ∈ news) (hne : ∀ p ∈ news0, p.1 ≠ vd) (h1 : (x, instObj 328 bd) ∈ news0) (h2 : (bd, balD w.params c vd t1' t2') ∈ news0) (h3 : (vd, o) ∈ news) (hlo : (vd == sysModules) = false)
   (hdo : o.IsDictOf (PySem.intKind Challenge.rw_no0410_01.row.prog w) kvs) (hn : kvs.length < 20)
   (ret : ∀ o' h' tk', Fr h₀ L h' m → News h₀ L h' ((vd, o') :: news0) → o'.IsDictOf (PySem.intKind Challenge.rw_no0410_01.row.prog w) (if (valueAt kvs k).isSome then kvs else stored kvs k (.bool ok)) → Q .none { s with heap := h', toks := tk' }) :
   CallA w dp un gd cn nm ig ic mo L a ccd cl outer 304 [.ref x, .int k tk, .bool ok] Q E s := by
  obtain ⟨B, F, X, N, T, hd, hu⟩ := H
  exact record_vote_spec ⟨B, F, X, sub N (sc h3 hs), T, hd, hu⟩ (.tail _ h1) (.tail _ h2) (.head _) hlo hdo hn (hne _ h1) (hne _ h2) (.skip (Drop.all hne)) ret
end
theorem words_ctk_1 : True := by
  k_with "binaryOp RShift int int" => (k_here; (with_reducible show wpAny _ _ (binaryOp _ (Value.int (mk _) _) (Value.int _ _)) _ _ _); k_dflt (refine' shr_go ?hq5d47a8 ?_; (case hq5d47a8 => k_asm); k_whole))
  k_with "binaryOp BitAnd int int" => (k_here; (with_reducible refine and_go ?_); k_whole)
  k_with "binaryOp BitAnd int int" => (k_here; (with_reducible show wpAny _ _ (binaryOp _ (Value.int (shr _ _) _) (Value.int 1 _)) _ _ _); k_dflt (refine' bit_go ?hq4e0844 ?h2q4e0844 ?_; (case hq4e0844 => k_asm); (case h2q4e0844 => k_asm); k_whole))
  k_with "binaryOp BitOr int int" => (k_here; (with_reducible refine or_go ?_); k_whole)
  k_with "compareOp Eq int int" => (k_here; (with_reducible refine bit_one ?_); k_whole)
  k_with "compareOp Eq int int" => (k_here; (with_reducible refine bit_zero ?_); k_whole)
  k_with "my ones" => (k_here; (with_reducible show wpAny _ _ (subscriptTail _ _ (Value.ref _) (Value.int (mk _) _)) _ _ _); k_dflt (refine' item_ones ?k1qa78986 ?k2qa78986 ?k3qa78986 ?_ ?k8qa78986; (case k1qa78986 => k_asm); (case k2qa78986 => k_mem); (case k3qa78986 => l_ints); (case k8qa78986 => with_unfolding_all rfl); k_whole); intro t'9)
  k_with "my wins" => (k_here; (with_reducible show wpAny _ _ (subscriptTail _ _ (Value.ref _) (Value.int (mk _) _)) _ _ _); k_dflt (refine' item_wins ?k1qe8da16 ?k2qe8da16 ?k3qe8da16 ?_ ?k8qe8da16; (case k1qe8da16 => k_asm); (case k2qe8da16 => k_mem); (case k3qe8da16 => k_asm); (case k8qe8da16 => with_unfolding_all rfl); k_whole))
  k_with "subscriptTail" => walk_at "my ones"
  k_with "subscriptTail" => walk_at "my wins"
  k_with "subscriptTail Name Name ref int" => walk_at "my ones"
  k_with "subscriptTail Name Name ref int" => walk_at "my wins"
  k_with "subscriptTail Name BinOp ref int" => walk_at "my ones"
  k_with "subscriptTail Name Call ref int" => walk_at "my wins"
  k_with "CompSrc" => ((with_reducible rename Flag "my compG" => hz9); refine Hold.out ?_)
  k_with "KCiEl" => ((with_reducible rename Flag "my bits" => hz9); refine kci_el ?kceq65dffd (by with_unfolding_all rfl) (by with_unfolding_all rfl); (case kceq65dffd => exact gp_yes (by k_asm)))
  k_with "KCiNo" => ((with_reducible rename Flag "my bits" => hz9); refine kci_no ?kceqdbc36d (by with_unfolding_all rfl); (case kceqdbc36d => exact gp_no (by k_asm)))
  k_with "call ref" => (k_here; (with_reducible show wpAny _ _ (call (Value.ref 328) _) _ _ _); k_dflt (refine' ballots_spec ⟨?Bqat, ?Fqat, ?Xqat, ?Nqat, ?Tqat, ?dqat, ?uqat⟩ ?_; walk_at "my at"; k_whole); intro x'9 d'9 c'9 vd'9 o'9 t1'9 t2'9 h'9 tk'9 F'9 N'9 hd'9 hlo'9 l19 l29 l39; (try k_sweep); (try dsimp only))
  k_with "call ref" => (k_here; (with_reducible show wpAny _ _ (call (Value.ref 325) _) _ _ _); k_dflt (refine' single_spec (f := ⟨_, _, _, _, _⟩) ⟨?Bqat, ?Fqat, ?Xqat, ?Nqat, ?Tqat, ?dqat, ?uqat⟩ ?hxq25a878 ?hbdq25a878 ?hcq25a878 ?_; walk_at "my at"; (case hxq25a878 => k_mem); (case hbdq25a878 => k_mem); (case hcq25a878 => walk_at "my cf"); k_whole); intro h'9 tk'9 F'9 N'9; (try k_sweep); (try dsimp only))
  k_with "call ref" => (k_here; (with_reducible show wpAny _ _ (call (Value.ref 318) _) _ _ _); k_dflt (refine' tally_go (f := ⟨_, _, _, _, _⟩) ⟨?Bqat, ?Fqat, ?Xqat, ?Nqat, ?Tqat, ?dqat, ?uqat⟩ ?hxqec1a48 ?hbdqec1a48 ?hcqec1a48 ?hvqec1a48 ?_; walk_at "my at"; (case hxqec1a48 => k_mem); (case hbdqec1a48 => k_mem); (case hcqec1a48 => walk_at "my cf"); (case hvqec1a48 => walk_at "my votes"); k_whole); intro r'9 h'9 tk'9 u1'9 u2'9 u3'9 n'9 F'9 N'9; (try k_sweep); (try dsimp only))
  k_with "exec If" => ((with_reducible rename Flag "my if" => hz9); refine Hold.out ?_)
  k_with "compareOp NotEq ref ref" => ((with_reducible rename Flag "my tup" => hz9); k_dflt (refine' tups_ne ?Nqee0b51 ?aqee0b51 ?bqee0b51 ?iqee0b51 ?jqee0b51 ?uqee0b51 ?eqee0b51 ?_; (case Nqee0b51 => k_asm); (case aqee0b51 => k_mem); (case bqee0b51 => k_mem); (case iqee0b51 => l_ints); (case jqee0b51 => l_ints); (case uqee0b51 => walk_at "my units"); (case eqee0b51 => rfl); k_whole))
  k_with "compareOp NotIn bool ref" => ((with_reducible rename Flag "my ends" => hz9); k_dflt (refine' ends_notin ?lqbb4b61 ?iqbb4b61 ?_; (case lqbb4b61 => exact News.isList (by k_asm) (by k_mem)); (case iqbb4b61 => k_asm); k_whole))
  k_with "compareOp In bool ref" => ((with_reducible rename Flag "my ends" => hz9); k_dflt (refine' ends_in ?lq4e84fc ?iq4e84fc ?_; (case lq4e84fc => exact News.isList (by k_asm) (by k_mem)); (case iq4e84fc => k_asm); k_whole))
  k_with "call builtin:sum" => ((with_reducible rename Flag "my bits" => hz9); k_dflt (refine' bits_go ?Fq5bdccb ?Nq5bdccb ?hhq5bdccb ?mq5bdccb ?iq5bdccb ?_; (case Fq5bdccb => k_asm); (case Nq5bdccb => k_asm); (case hhq5bdccb => rfl); (case mq5bdccb => k_mem); (case iq5bdccb => k_asm); k_whole); intro h'9 tk'9 t'9 F'9 N'9; (try k_sweep))
  k_with "LCg.CompEnd" => ((with_reducible rename Flag "my end" => hz9); k_dflt (refine' turn_kept ?offqb32c64 ?Fqb32c64 ?Nqb32c64 ?Sqb32c64 ?_; (case offqb32c64 => k_asm); (case Fqb32c64 => k_asm); (case Nqb32c64 => k_asm); (case Sqb32c64 => lcg_src)))
  k_with "CompEnd" => ((with_reducible rename Flag "my end" => hz9); k_dflt (refine' turn_kept ?offqb32c64 ?Fqb32c64 ?Nqb32c64 ?Sqb32c64 ?_; (case offqb32c64 => k_asm); (case Fqb32c64 => k_asm); (case Nqb32c64 => k_asm); (case Sqb32c64 => lcg_src)))
  k_with "call ref" => (k_here; (with_reducible show wpAny _ _ (call (Value.ref 348) _) _ _ _); k_dflt (refine' nolimit_spec ⟨?Bqat, ?Fqat, ?Xqat, ?Nqat, ?Tqat, ?dqat, ?uqat⟩ ?_; walk_at "my at"; k_whole); intro t'9 h'9 tk'9 F'9 N'9; (try k_sweep); (try dsimp only))
  k_with "my digit" => first | decide | assumption | omega
  k_with "call ref" => (k_here; (with_reducible show wpAny _ _ (call (Value.ref 355) _) _ _ _); k_dflt (refine' draw_spec ⟨?Bqat, ?Fqat, ?Xqat, ?Nqat, ?Tqat, ?dqat, ?uqat⟩ ?hLq22c301 ?hiq22c301 ?hnq22c301 ?hpq22c301 ?hp2q22c301 ?hqq22c301 ?hq2q22c301 ?_; walk_at "my at"; (case hLq22c301 => k_asm); (case hiq22c301 => k_asm); (case hnq22c301 => k_asm); (case hpq22c301 => walk_at "my digit"); (case hp2q22c301 => walk_at "my digit"); (case hqq22c301 => decide); (case hq2q22c301 => decide); k_whole); intro v'9 t'9 h'9 tk'9 q1'9 q2'9 F'9 N'9; (try k_sweep); (try dsimp only))
  k_with "call ref" => (k_here; (with_reducible show wpAny _ _ (call (Value.ref 159) _) _ _ _); k_dflt (refine' committed_spec (f := ⟨_, _, _, _, _⟩) ⟨?Bqat, ?Fqat, ?Xqat, ?Nqat, ?Tqat, ?dqat, ?uqat⟩ ?hcq47670b ?hvq47670b ?_; walk_at "my at"; (case hcq47670b => walk_at "my cf"); (case hvq47670b => walk_at "my acked"); k_whole); intro r'9 t'9 h'9 tk'9 q'9 F'9 N'9; (try k_sweep); (try dsimp only))
  k_with "my cdrop" => first | exact CDrop.nil | (refine' CDrop.keepD ?aqb004ec ?bqb004ec; (case aqb004ec => (intro v9 e9; cases e9)); (case bqb004ec => k_extra "my cdrop")) | (refine' CDrop.keepA ?aqb004ec ?bqb004ec; (case aqb004ec => (refine neN ?_; simp [Nat.add_assoc]; done)); (case bqb004ec => k_extra "my cdrop")) | (refine' CDrop.keepD ?aqb004ec ?bqb004ec; (case aqb004ec => exact dict_nc (by k_asm)); (case bqb004ec => k_extra "my cdrop")) | (refine' CDrop.keepA ?aqb004ec ?bqb004ec; (case aqb004ec => k_asm); (case bqb004ec => k_extra "my cdrop")) | (refine' CDrop.skip ?bqb004ec; (case bqb004ec => k_extra "my cdrop"))
  k_with "storeName" => (k_here; k_dflt (refine' store_cell ?Fq145462 ?Nq145462 ?cq145462 ?mq145462 ?dq145462 ?Dq145462 ?_ ?aq145462 ?bq145462; (case aq145462 => rfl); (case bq145462 => rfl); (case Fq145462 => k_asm); (case Nq145462 => k_asm); (case cq145462 => rfl); (case mq145462 => k_mem); (case dq145462 => k_asm); (case Dq145462 => k_extra "my cdrop"); k_whole); intro h'9 o'9 F'9 N'9 d'9; (try dsimp only at N'9); (try k_sweep))
  trivial
theorem counts_pack {w : World} {g h : Heap} {L sl : Addr} {m : Str → Option Value} {news : List (Addr × Obj)} {fa fb : Int → Bool} {G : Prop}
   {x bd cf d lv lo ll ln l1 lw vd : Addr} {oa ob oo ow oy on oh od : Obj} {v1 vw vv vo vl vn : List Value} {n1 nw e1 e2 e3 e4 : Nat} {u1 u2 t1 t2 t3 t4 t5 w1 w2 w5 w6 : Tok} (F : Fr g L h m) (N : News g L h news)
   (hm : ∀ q ∈ [(Str.ofString "ballots", Value.ref x), (Str.ofString "config", Value.ref cf), (Str.ofString "script", Value.ref sl)], m q.1 = some q.2)
   (hc : ∀ p ∈ [(L + 1, oa), (L + 1 + 1, ob), (L + 1 + 1 + 1, oo), (L + 1 + 1 + 1 + 1, ow), (L + 1 + 1 + 1 + 1 + 1, oy), (L + 1 + 1 + 1 + 1 + 1 + 1, on), (L + 1 + 1 + 1 + 1 + 1 + 1 + 1, oh)], p ∈ news)
   (hn : ∀ p ∈ [(l1, listO v1 n1), (lw, listO vw nw), (x, instObj 328 bd), (bd, balD w.params cf vd u1 u2), (cf, instObj 183 d), (d, cfD w.params lv lo ll ln false t1 t2 t3 t4 t5), (lv, listO vv e1), (lo, listO vo e2), (ll, listO vl e3), (ln, listO vn e4)], p ∈ news)
   (hd : (vd, od) ∈ news)
   (hv : ∀ p ∈ [(L + 1, oa), (L + 1 + 1, ob), (L + 1 + 1 + 1, oo), (L + 1 + 1 + 1 + 1, ow), (L + 1 + 1 + 1 + 1 + 1 + 1 + 1, oh), (l1, listO v1 n1), (lw, listO vw nw), (x, instObj 328 bd), (bd, balD w.params cf vd u1 u2), (cf, instObj 183 d), (d, cfD w.params lv lo ll ln false t1 t2 t3 t4 t5), (lv, listO vv e1), (lo, listO vo e2), (ll, listO vl e3), (ln, listO vn e4)], p.1 ≠ vd)
   (i1 : oa.data = .cell (some (.int (mk fa) w1)))
   (i2 : ob.data = .cell (some (.int (mk fb) w2)))
   (i3 : oo.data = .cell (some (.ref l1)))
   (i4 : ow.data = .cell (some (.ref lw)))
   (i5 : oy.data = .cell (some (.int 0 w5)))
   (i6 : on.data = .cell (some (.int 0 w6)))
   (i7 : oh.data = .cell (none))
   (i8 : od.IsDictOf (PySem.intKind Challenge.rw_no0410_01.row.prog w) [])
   (i9 : (vd == sysModules) = false)
   (i10 : IntsAre v1 [0, 1, 1, 2, 1, 2, 2, 3, 1, 2, 2, 3, 2, 3, 3, 4])
   (i11 : WinsR fa fb 16 vw)
   (i12 : IntsAre vv (ids fa))
   (i13 : IntsAre vo (ids fb))
   (i14 : IntsAre vl (ids fun _ => false))
   (i15 : IntsAre vn (ids fun _ => false))
   (k : ∀ (m : Str → Option Value) (x bd cf d lv lo ll ln l1 lw vd : Addr) (oa ob oo ow oy on oh od : Obj) (v1 vw vv vo vl vn : List Value) (n1 nw e1 e2 e3 e4 : Nat) (u1 u2 t1 t2 t3 t4 t5 w1 w2 w5 w6 : Tok) (Λ : List (Addr × Obj)), Λ = [(L + 1, oa), (L + 1 + 1, ob), (L + 1 + 1 + 1, oo), (L + 1 + 1 + 1 + 1, ow), (L + 1 + 1 + 1 + 1 + 1 + 1 + 1, oh), (l1, listO v1 n1), (lw, listO vw nw), (x, instObj 328 bd), (bd, balD w.params cf vd u1 u2), (cf, instObj 183 d), (d, cfD w.params lv lo ll ln false t1 t2 t3 t4 t5), (lv, listO vv e1), (lo, listO vo e2), (ll, listO vl e3), (ln, listO vn e4)] → Fr g L h m → (∀ q ∈ [(Str.ofString "ballots", Value.ref x), (Str.ofString "config", Value.ref cf), (Str.ofString "script", Value.ref sl)], m q.1 = some q.2) → (∀ p ∈ Λ, p.1 ≠ vd) → News g L h ([(L + 1 + 1 + 1 + 1 + 1, oy), (L + 1 + 1 + 1 + 1 + 1 + 1, on), (vd, od)] ++ Λ) → oa.data = .cell (some (.int (mk fa) w1)) → ob.data = .cell (some (.int (mk fb) w2)) → oo.data = .cell (some (.ref l1)) → ow.data = .cell (some (.ref lw)) → oy.data = .cell (some (.int 0 w5)) → on.data = .cell (some (.int 0 w6)) → oh.data = .cell (none) → od.IsDictOf (PySem.intKind Challenge.rw_no0410_01.row.prog w) [] → (vd == sysModules) = false → IntsAre v1 [0, 1, 1, 2, 1, 2, 2, 3, 1, 2, 2, 3, 2, 3, 3, 4] → WinsR fa fb 16 vw → IntsAre vv (ids fa) → IntsAre vo (ids fb) → IntsAre vl (ids fun _ => false) → IntsAre vn (ids fun _ => false) → G) : G :=
  k m _ _ _ _ _ _ _ _ _ _ _ _ _ _ _ _ _ _ _ _ _ _ _ _ _ _ _ _ _ _ _ _ _ _ _ _ _ _ _ _ _ _ _ rfl F hm hv (sub N (sc (hc _ (by simp)) (sc (hc _ (by simp)) (sc hd (sc (hc _ (by simp)) (sc (hc _ (by simp)) (sc (hc _ (by simp)) (sc (hc _ (by simp)) (sc (hc _ (by simp)) hn))))))))) i1 i2 i3 i4 i5 i6 i7 i8 i9 i10 i11 i12 i13 i14 i15

theorem valueAt_stored {kvs : List (Int × Value)} {k i : Int} {v : Value} : valueAt (stored kvs k v) i = if i = k then some v else valueAt kvs i := by
  by_cases ha : kvs.any (fun kv => kv.1 = k) = true
  · have e : stored kvs k v = kvs.map (fun kv => if kv.1 = k then (kv.1, v) else kv) := by unfold stored; rw [if_pos ha]
    rw [e]
    unfold valueAt
    by_cases hi : i = k
    · subst hi
      rw [if_pos rfl]
      induction kvs with
      | nil => simp at ha
      | cons p r ih =>
        by_cases hp : p.1 = i
        · simp [hp]
        · have ha' : r.any (fun kv => kv.1 = i) = true := by simpa [hp] using ha
          have e' : stored r i v = r.map (fun kv => if kv.1 = i then (kv.1, v) else kv) := by unfold stored; rw [if_pos ha']
          have := ih ha' e'
          simp [hp] at this ⊢
          exact this
    · rw [if_neg hi]
      clear ha e
      induction kvs with
      | nil => rfl
      | cons p r ih =>
        by_cases hp : p.1 = k
        · have : p.1 ≠ i := fun z => hi (z.symm.trans hp)
          simp [hp, Ne.symm hi]
          simpa using ih
        · by_cases hq : p.1 = i
          · simp [hp, hq, hi]
          · simp [hp, hq]
            simpa using ih
  · have e : stored kvs k v = kvs ++ [(k, v)] := by unfold stored; rw [if_neg ha]
    rw [e]
    unfold valueAt
    rw [List.find?_append]
    by_cases hi : i = k
    · subst hi
      rw [if_pos rfl]
      have : kvs.find? (fun kv => kv.1 = i) = none := by
        rw [List.find?_eq_none]
        intro x hx hz
        exact ha (List.any_eq_true.mpr ⟨x, hx, by simpa using hz⟩)
      rw [this]
      simp
    · rw [if_neg hi]
      simp [Ne.symm hi]
theorem stored_len {kvs : List (Int × Value)} {k : Int} {v : Value} : (stored kvs k v).length ≤ kvs.length + 1 := by
  unfold stored
  split
  · rw [List.length_map]; omega
  · rw [List.length_append]; exact Nat.le_refl _
/-- the votes after one more is heard -/
noncomputable def heard (vt : Int → Option Bool) (k : Int) (ok : Bool) (i : Int) : Option Bool := if i = k ∧ vt k = none then some ok else vt i
theorem heard_dict {vt : Int → Option Bool} {k : Int} {ok : Bool} {kvs : List (Int × Value)} (hk : k ∈ IDs) (h : ∀ i ∈ IDs, valueAt kvs i = (vt i).map Value.bool) : ∀ i ∈ IDs, valueAt (if (valueAt kvs k).isSome then kvs else stored kvs k (.bool ok)) i = (heard vt k ok i).map Value.bool := by
  intro i hi
  unfold heard
  rw [h k hk]
  cases e : vt k with
  | some b =>
    simp only [Option.map_some, Option.isSome_some, if_true]
    rw [if_neg (fun z => by cases z.2)]
    exact h i hi
  | none =>
    simp only [Option.map_none, Option.isSome_none]
    rw [if_neg (by decide), valueAt_stored]
    by_cases z : i = k
    · rw [if_pos z, if_pos ⟨z, trivial⟩]; rfl
    · rw [if_neg z, if_neg fun y => z y.1]
      exact h i hi
theorem heard_len {kvs : List (Int × Value)} {k : Int} {v : Value} : (if (valueAt kvs k).isSome then kvs else stored kvs k v).length ≤ kvs.length + 1 := by
  split
  · omega
  · exact stored_len
theorem heard_none {vt : Int → Option Bool} {k : Int} : (isYes vt k || isNo vt k) = false ↔ vt k = none := by
  unfold isYes isNo
  rcases vt k with _ | _ | _ <;> decide
theorem heard_old {vt : Int → Option Bool} {k : Int} {ok : Bool} (h : (isYes vt k || isNo vt k) = true) : heard vt k ok = vt := by
  funext i
  unfold heard
  rw [if_neg fun z => by rw [heard_none.mpr z.2] at h; cases h]
theorem mk_cong {f g : Int → Bool} (h : ∀ i ∈ IDs, f i = g i) : mk f = mk g := mk_inj.mpr h
theorem mk_add {f g : Int → Bool} {e : Int} (h0 : 0 ≤ e) (h4 : e < 4) (hf : f (idAt e) = false) (hg : ∀ i ∈ IDs, g i = if i = idAt e then true else f i) : mk f + 1 * 2 ^ e.toNat = mk g := by
  rw [mk_cong hg]
  have : e = 0 ∨ e = 1 ∨ e = 2 ∨ e = 3 := by omega
  have i0 : idAt 0 = 2 := rfl
  have i1 : idAt 1 = 3 := rfl
  have i2 : idAt 2 = 5 := rfl
  have i3 : idAt 3 = 9 := rfl
  unfold mk
  rcases this with rfl | rfl | rfl | rfl
  · rw [i0] at hf ⊢; simp [hf, bt]; omega
  · rw [i1] at hf ⊢; simp [hf, bt]; omega
  · rw [i2] at hf ⊢; simp [hf, bt]; omega
  · rw [i3] at hf ⊢; simp [hf, bt]
theorem idAt_mem {k : Int} (h0 : 0 ≤ k) (h1 : k < 4) : idAt k ∈ IDs := by
  have : k = 0 ∨ k = 1 ∨ k = 2 ∨ k = 3 := by omega
  rcases this with rfl | rfl | rfl | rfl <;> decide
theorem fmod4 {e : Int} (h0 : 0 ≤ e) (h8 : e < 8) : (e < 4 → e.fmod 4 = e) ∧ (¬ e < 4 → e.fmod 4 = e - 4) := by
  rw [Int.fmod_eq_emod_of_nonneg _ (by decide)]
  omega
theorem heard_yes {vt : Int → Option Bool} {k : Int} (h : vt k = none) : ∀ i ∈ IDs, isYes (heard vt k true) i = if i = k then true else isYes vt i := by
  intro i _
  unfold isYes heard
  by_cases e : i = k
  · rw [if_pos e, if_pos ⟨e, h⟩]; rfl
  · rw [if_neg e, if_neg fun z => e z.1]
theorem heard_yes' {vt : Int → Option Bool} {k : Int} (h : vt k = none) : ∀ i ∈ IDs, isNo (heard vt k true) i = isNo vt i := by
  intro i _
  unfold isNo heard
  by_cases e : i = k
  · rw [if_pos ⟨e, h⟩, e, h]; rfl
  · rw [if_neg fun z => e z.1]
theorem heard_no {vt : Int → Option Bool} {k : Int} (h : vt k = none) : ∀ i ∈ IDs, isNo (heard vt k false) i = if i = k then true else isNo vt i := by
  intro i _
  unfold isNo heard
  by_cases e : i = k
  · rw [if_pos e, if_pos ⟨e, h⟩]; rfl
  · rw [if_neg e, if_neg fun z => e z.1]
theorem heard_no' {vt : Int → Option Bool} {k : Int} (h : vt k = none) : ∀ i ∈ IDs, isYes (heard vt k false) i = isYes vt i := by
  intro i _
  unfold isYes heard
  by_cases e : i = k
  · rw [if_pos ⟨e, h⟩, e, h]; rfl
  · rw [if_neg fun z => e z.1]
theorem heard_dict8 {vt : Int → Option Bool} {e : Int} {kvs : List (Int × Value)} (_h8 : e < 8) (h : ∀ i ∈ IDs, valueAt kvs i = (vt i).map Value.bool) : ∀ i ∈ IDs, valueAt (if (valueAt kvs (idAt (e.fmod 4))).isSome then kvs else stored kvs (idAt (e.fmod 4)) (.bool (decide (e < 4)))) i = (heard vt (idAt (e.fmod 4)) (decide (e < 4)) i).map Value.bool := heard_dict (idAt_mem (fmod_in e (by decide)).1 (fmod_in e (by decide)).2) h
theorem heard_len8 {e : Int} {i : Nat} {kvs : List (Int × Value)} (_h8 : e < 8) (h : kvs.length ≤ i) : (if (valueAt kvs (idAt (e.fmod 4))).isSome then kvs else stored kvs (idAt (e.fmod 4)) (.bool (decide (e < 4)))).length ≤ i + 1 := Nat.le_trans heard_len (Nat.succ_le_succ h)
/-- a yes has been heard: the masks -/
theorem mask_yes {vt : Int → Option Bool} {e : Int} (h0 : 0 ≤ e) (h8 : e < 8) (h4 : e < 4) (h : (isYes vt (idAt (e.fmod 4)) || isNo vt (idAt (e.fmod 4))) = false) : mk (isYes vt) + 1 * 2 ^ e.toNat = mk (isYes (heard vt (idAt (e.fmod 4)) true)) ∧ mk (isNo vt) = mk (isNo (heard vt (idAt (e.fmod 4)) true)) := by
  have hm := (fmod4 h0 h8).1 h4
  have hn := heard_none.mp h
  rw [hm] at hn ⊢
  exact ⟨mk_add h0 h4 (by unfold isYes; rw [hn]; rfl) (heard_yes hn), mk_cong fun i hi => (heard_yes' hn i hi).symm⟩
theorem mask_no {vt : Int → Option Bool} {e : Int} (h0 : 0 ≤ e) (h8 : e < 8) (h4 : ¬ e < 4) (h : (isYes vt (idAt (e.fmod 4)) || isNo vt (idAt (e.fmod 4))) = false) : mk (isNo vt) + 1 * 2 ^ (e - 4).toNat = mk (isNo (heard vt (idAt (e.fmod 4)) false)) ∧ mk (isYes vt) = mk (isYes (heard vt (idAt (e.fmod 4)) false)) := by
  have hm := (fmod4 h0 h8).2 h4
  have hn := heard_none.mp h
  rw [hm] at hn ⊢
  exact ⟨mk_add (by omega) (by omega) (by unfold isNo; rw [hn]; rfl) (heard_no hn), mk_cong fun i hi => (heard_no' hn i hi).symm⟩
/-- the votes of the others, so far -/
noncomputable def OthersUpTo (vt : Int → Option Bool) (i : Nat) (kvs : List (Int × Value)) : Prop := kvs.length ≤ i ∧ ∀ k : Int, 0 ≤ k → k < i → valueAt kvs (idAt k) = some (.bool (!isYes vt (idAt k)))
theorem idAt_inj {j k : Int} (h0 : 0 ≤ j) (h1 : j < 4) (h2 : 0 ≤ k) (h3 : k < 4) (h : idAt j = idAt k) : j = k := by
  have : j = 0 ∨ j = 1 ∨ j = 2 ∨ j = 3 := by omega
  have : k = 0 ∨ k = 1 ∨ k = 2 ∨ k = 3 := by omega
  rcases ‹j = 0 ∨ _› with rfl | rfl | rfl | rfl <;> rcases ‹k = 0 ∨ _› with rfl | rfl | rfl | rfl <;> first | rfl | exact absurd h (by decide)
theorem OthersUpTo.step {vt : Int → Option Bool} {i : Nat} {kvs : List (Int × Value)} (h : OthersUpTo vt i kvs) (hi : i < 4) : OthersUpTo vt (i + 1) (stored kvs (idAt i) (.bool (!isYes vt (idAt i)))) := by
  refine ⟨Nat.le_trans stored_len (Nat.succ_le_succ h.1), fun k h0 h1 => ?_⟩
  rw [valueAt_stored]
  by_cases e : k = i
  · subst e; rw [if_pos rfl]
  · rw [if_neg fun z => e (idAt_inj h0 (by omega) (by omega) (by omega) z)]
    exact h.2 k h0 (by omega)
theorem OthersUpTo.all {vt : Int → Option Bool} {kvs : List (Int × Value)} (h : OthersUpTo vt 4 kvs) : ∀ i ∈ IDs, valueAt kvs i = (others vt i).map Value.bool := by
  intro i hi
  have : i = 2 ∨ i = 3 ∨ i = 5 ∨ i = 9 := by simpa [IDs] using hi
  rcases this with rfl | rfl | rfl | rfl
  · exact h.2 0 (by decide) (by decide)
  · exact h.2 1 (by decide) (by decide)
  · exact h.2 2 (by decide) (by decide)
  · exact h.2 3 (by decide) (by decide)
/-- between two turns of the votes' loop -/
inductive CInv1 (w : World) (GG : Heap → Prop) (x cf sl vd : Addr) (Λ : List (Addr × Obj)) (L : Addr) (i : Nat) (g : Heap) (m : Str → Option Value) (nx : List (Addr × Obj)) : Prop
  | mk (hG : GG g) (hm : ∀ q ∈ [(Str.ofString "ballots", Value.ref x), (Str.ofString "config", Value.ref cf), (Str.ofString "script", Value.ref sl)], m q.1 = some q.2) (hn : ∀ p ∈ Λ, p ∈ nx)
    (vt : Int → Option Bool) (oy on od : Obj) (ty tn : Tok) (kvs : List (Int × Value)) (h1 : (L + 1 + 1 + 1 + 1 + 1, oy) ∈ nx) (h2 : oy.data = .cell (some (.int (Mine.mk (isYes vt)) ty))) (h3 : (L + 1 + 1 + 1 + 1 + 1 + 1, on) ∈ nx) (h4 : on.data = .cell (some (.int (Mine.mk (isNo vt)) tn))) (h5 : (vd, od) ∈ nx)
    (h6 : od.IsDictOf (PySem.intKind Challenge.rw_no0410_01.row.prog w) kvs) (h7 : ∀ j ∈ IDs, valueAt kvs j = (vt j).map Value.bool) (h8 : kvs.length ≤ i)
theorem CInv1.start {w : World} {GG : Heap → Prop} {x cf sl vd L : Addr} {Λ : List (Addr × Obj)} {g : Heap} {m : Str → Option Value} {oy on od : Obj} {ty tn : Tok} (h1 : GG g) (h2 : ∀ q ∈ [(Str.ofString "ballots", Value.ref x), (Str.ofString "config", Value.ref cf), (Str.ofString "script", Value.ref sl)], m q.1 = some q.2)
   (h3 : oy.data = .cell (some (.int 0 ty))) (h4 : on.data = .cell (some (.int 0 tn))) (h5 : od.IsDictOf (PySem.intKind Challenge.rw_no0410_01.row.prog w) []) :
   CInv1 w GG x cf sl vd Λ L 0 g m ([(L + 1 + 1 + 1 + 1 + 1, oy), (L + 1 + 1 + 1 + 1 + 1 + 1, on), (vd, od)] ++ Λ) := by
  have e1 : Mine.mk (isYes fun _ => none) = 0 := by decide
  have e2 : Mine.mk (isNo fun _ => none) = 0 := by decide
  exact ⟨h1, h2, fun p hp => List.mem_append_right _ hp, fun _ => none, oy, on, od, ty, tn, [], .head _, by rw [e1]; exact h3, .tail _ (.head _), by rw [e2]; exact h4, .tail _ (.tail _ (.head _)), h5, fun _ _ => rfl, Nat.le_refl _⟩
theorem cgood {A : Around} {base g h₀ : Heap} {envs : List Env} {K : Frag} {p : Program} {loose : List Str} {mean : ExcName → Option Value} {mg mb : Str → Option Value} {L sl : Addr} {m : Str → Option Value} {items : Array Value} {rest : List (Addr × Obj)} (B : Below A base envs g) (X : K.In g) (T : Top p loose mean mg mb g) (H : ∀ q ∈ rest, g.get? q.1 = some q.2) (F : Fr h₀ L g m) (S : g.IsList sl items) :
   ∃ GG : Heap → Prop, GG g ∧ (∀ z, GG z → Below A base envs z ∧ K.In z ∧ Top p loose mean mg mb z ∧ (∀ q ∈ rest, z.get? q.1 = some q.2) ∧ Fr h₀ L z m ∧ z.IsList sl items) ∧ ∀ z z', GG z → GG z' → z' = z :=
  ⟨fun z => z = g, rfl, fun _ h => h ▸ ⟨B, X, T, H, F, S⟩, fun _ _ h h' => h'.trans h.symm⟩
theorem verdict_won {fa fb y n : Int → Bool} (h : win fa fb y = true) : verdict fa fb y n = 3 := if_pos h
theorem verdict_open {fa fb y n : Int → Bool} (h : win fa fb y = false) (h2 : win fa fb (fun i => !n i) = true) : verdict fa fb y n = 1 := by unfold verdict; rw [h, if_neg (by decide), if_pos h2]
theorem verdict_lost {fa fb y n : Int → Bool} (h : win fa fb y = false) (h2 : win fa fb (fun i => !n i) = false) : verdict fa fb y n = 2 := by unfold verdict; rw [h, if_neg (by decide), h2, if_neg (by decide)]
theorem cell_off {g h : Heap} {L c vd : Addr} {oc od : Obj} {news : List (Addr × Obj)} {v : Option Value} {w : World} {kvs : List (Int × Value)} (N : News g L h news) (h1 : (c, oc) ∈ news) (h2 : (vd, od) ∈ news) (hc : oc.data = .cell v) (hd : od.IsDictOf (PySem.intKind Challenge.rw_no0410_01.row.prog w) kvs) : c ≠ vd := fun e => by
  have := news_same N h1 h2 e
  have e2 : oc = od := congrArg (·.2) this
  subst e2
  exact dict_nc hd _ hc
theorem c1_end {w : World} {GG : Heap → Prop} {x cf sl vd L I : Addr} {Λ led : List (Addr × Obj)} {i tk : Nat} {g h : Heap} {m : Str → Option Value} {o oy on od : Obj} {vt : Int → Option Bool} {ty tn : Tok} {kvs : List (Int × Value)} {s₁ : Shared}
   (hGG : GG g) (F : Fr g L h m) (N : News g L h led) (hI : (I, o) ∈ led) (hy : (L + 1 + 1 + 1 + 1 + 1, oy) ∈ led) (hn : (L + 1 + 1 + 1 + 1 + 1 + 1, on) ∈ led) (hd : (vd, od) ∈ led) (hΛ : ∀ p ∈ Λ, p ∈ led)
   (hm : ∀ q ∈ [(Str.ofString "ballots", Value.ref x), (Str.ofString "config", Value.ref cf), (Str.ofString "script", Value.ref sl)], m q.1 = some q.2) (hoff : ∀ p ∈ Λ, p.1 ≠ I) (h5 : I ≠ L + 1 + 1 + 1 + 1 + 1) (h6 : I ≠ L + 1 + 1 + 1 + 1 + 1 + 1) (hv : I ≠ vd)
   (hy2 : oy.data = .cell (some (.int (mk (isYes vt)) ty))) (hn2 : on.data = .cell (some (.int (mk (isNo vt)) tn))) (hd2 : od.IsDictOf (PySem.intKind Challenge.rw_no0410_01.row.prog w) kvs) (hva : ∀ j ∈ IDs, valueAt kvs j = (vt j).map Value.bool) (hlen : kvs.length ≤ i) :
   REnd L (CInv1 w GG x cf sl vd Λ L i) I o s₁ { s₁ with heap := h, toks := tk } :=
  ⟨g, h, tk, m, (L + 1 + 1 + 1 + 1 + 1, oy) :: (L + 1 + 1 + 1 + 1 + 1 + 1, on) :: (vd, od) :: Λ, rfl, F, sub N (sc hI (sc hy (sc hn (sc hd (hΛ))))),
    (ac h5.symm (ac h6.symm (ac hv.symm hoff))), hGG, hm, fun p hp => .tail _ (.tail _ (.tail _ hp)), vt, oy, on, od, ty, tn, kvs, .head _, hy2, .tail _ (.head _), hn2, .tail _ (.tail _ (.head _)), hd2, hva, hlen⟩
section
variable {prog : Program} {w : World} {A : Around} {E : Value → Shared → Prop} {s : Shared} {Q : Value → Shared → Prop}
theorem mod4_go {e : Int} {t u : Tok} (h : 0 ≤ e.fmod 4 → e.fmod 4 < 4 → Q (.int (e.fmod 4) s.toks) { s with toks := s.toks + 1 }) : wpAny (model prog w) A (binaryOp .Mod (.int e t) (.int 4 u)) Q E s := mod_int' (by decide) (h (fmod_in e (by decide)).1 (fmod_in e (by decide)).2)
theorem shl_go {e : Int} {t u : Tok} (h0 : 0 ≤ e) (h1 : e < 64) (h : Q (.int (1 * 2 ^ e.toNat) s.toks) { s with toks := s.toks + 1 }) : wpAny (model prog w) A (binaryOp .LShift (.int 1 t) (.int e u)) Q E s := lshift_int_small h0 (by omega) (by decide) h
end
/-- what is asked of a frame: some names -/
inductive KeptN (g : Heap) (L : Addr) (names : List (Str × Value)) (news : List (Addr × Obj)) (s s₂ : Shared) : Prop
  | mk (h' : Heap) (tk : Nat) (m' : Str → Option Value) (e : s₂ = { s with heap := h', toks := tk }) (F : Fr g L h' m') (N : News g L h' news) (hm : ∀ q ∈ names, m' q.1 = some q.2)
theorem st_keptN {M : Model} {A : Around} {E : Value → Shared → Prop} {s : Shared} {env : Env} {st : Stmt} {Q : Flow → Shared → Prop} {g : Heap} {L : Addr} {m : Str → Option Value} {news : List (Addr × Obj)} (names : List (Str × Value)) (_F : Fr g L s.heap m) (_N : News g L s.heap news)
    (h1 : wpAny M A (exec st env) (StEnd (KeptN g L names news s)) E s) (h2 : ∀ h' tk m', Fr g L h' m' → News g L h' news → (∀ q ∈ names, m' q.1 = some q.2) → Q .next { s with heap := h', toks := tk }) : wpAny M A (exec st env) Q E s :=
  st_cut _ h1 fun s₂ hr => by obtain ⟨h', tk, m', rfl, F, N, hm⟩ := hr; exact h2 _ _ _ F N hm
/-- between two turns of the loop that makes the others' votes -/
inductive OInv (w : World) (GG : Heap → Prop) (names : List (Str × Value)) (od : Addr) (vt : Int → Option Bool) (led : List (Addr × Obj)) (i : Nat) (g : Heap) (m : Str → Option Value) (nx : List (Addr × Obj)) : Prop
  | mk (hG : GG g) (hl : ∀ p ∈ led, p ∈ nx) (hm : ∀ q ∈ (Str.ofString "others", Value.ref od) :: names, m q.1 = some q.2) (o : Obj) (kvs : List (Int × Value)) (h1 : (od, o) ∈ nx) (h2 : o.IsDictOf (PySem.intKind Challenge.rw_no0410_01.row.prog w) kvs) (h3 : OthersUpTo vt i kvs)
theorem o_end {w : World} {GG : Heap → Prop} {names : List (Str × Value)} {od L I : Addr} {vt : Int → Option Bool} {led led' : List (Addr × Obj)} {i tk : Nat} {g h : Heap} {m : Str → Option Value} {o o' : Obj} {kvs : List (Int × Value)} {s₁ : Shared}
   (hGG : GG g) (F : Fr g L h m) (N : News g L h led') (hI : (I, o) ∈ led') (hd : (od, o') ∈ led') (hl : ∀ p ∈ led, p ∈ led') (hf : ∀ q ∈ (Str.ofString "others", Value.ref od) :: names, m q.1 = some q.2) (hoff : ∀ p ∈ led, p.1 ≠ I) (hIo : I ≠ od)
   (hdo : o'.IsDictOf (PySem.intKind Challenge.rw_no0410_01.row.prog w) kvs) (hup : OthersUpTo vt i kvs) : REnd L (OInv w GG names od vt led i) I o s₁ { s₁ with heap := h, toks := tk } :=
  ⟨g, h, tk, m, (od, o') :: led, rfl, F, sub N (sc hI (sc hd hl)), (ac hIo.symm hoff), hGG, fun p hp => .tail _ hp, hf, o', kvs, .head _, hdo, hup⟩
theorem others_pack {w : World} {g h : Heap} {L od : Addr} {m : Str → Option Value} {news led : List (Addr × Obj)} {o : Obj} {names : List (Str × Value)} {G : Prop} (F : Fr g L h m) (N : News g L h news) (hm : m (Str.ofString "others") = some (.ref od)) (hn : ∀ q ∈ names, m q.1 = some q.2) (hd : (od, o) ∈ news) (hdo : o.IsDictOf (PySem.intKind Challenge.rw_no0410_01.row.prog w) []) (hlo : (od == sysModules) = false) (hl : ∀ p ∈ led, p ∈ news) (hoff : ∀ p ∈ led, p.1 ≠ od)
   (k : ∀ (od : Addr) (o : Obj) (m : Str → Option Value), Fr g L h m → News g L h ((od, o) :: led) → o.IsDictOf (PySem.intKind Challenge.rw_no0410_01.row.prog w) [] → (od == sysModules) = false → (∀ q ∈ (Str.ofString "others", Value.ref od) :: names, m q.1 = some q.2) → Off (led.map (·.1)) od → G) : G :=
  k od o m F (sub N (sc hd hl)) hdo hlo (ac hm hn) (fun x hx => by obtain ⟨p, hp, rfl⟩ := List.mem_map.mp hx; exact hoff p hp)
theorem OthersUpTo.nil {vt : Int → Option Bool} : OthersUpTo vt 0 [] := ⟨Nat.le_refl _, fun k h0 h1 => absurd h1 (by omega)⟩
/-- between two turns of the indexes' loop -/
inductive CInv2 (w : World) (GG : Heap → Prop) (cf sl ad hl : Addr) (Λ : List (Addr × Obj)) (i : Nat) (g : Heap) (m : Str → Option Value) (nx : List (Addr × Obj)) : Prop
  | mk (hG : GG g) (hm : ∀ q ∈ [(Str.ofString "config", Value.ref cf), (Str.ofString "script", Value.ref sl), (Str.ofString "acked", Value.ref ad)], m q.1 = some q.2) (hn : ∀ p ∈ Λ, p ∈ nx)
    (ak : Int → Int) (vh : List Value) (nh : Nat) (o : Obj) (kvs : List (Int × Value)) (h1 : (hl, listO vh nh) ∈ nx) (h2 : IntsAre vh [ak 2, ak 3, ak 5, ak 9]) (h3 : (ad, o) ∈ nx) (h4 : o.IsDictOf (PySem.intKind Challenge.rw_no0410_01.row.prog w) kvs) (h5 : ∀ j ∈ IDs, (∃ t, valueAt kvs j = some (.int (ak j) t)) ∨ (valueAt kvs j = none ∧ ak j = 0)) (h6 : ∀ j ∈ IDs, 0 ≤ ak j ∧ ak j < 7) (h7 : kvs.length ≤ i)
theorem acked_pack {w : World} {g h : Heap} {L cf sl ad hl lw d lv lo ll ln : Addr} {oa ob ow oh o : Obj} {m : Str → Option Value} {news : List (Addr × Obj)} {vh vw vv vo vl vn : List Value} {nh nw e1 e2 e3 e4 : Nat} {t1 t2 t3 t4 t5 : Tok} {G : Prop} (F : Fr g L h m) (N : News g L h news) (hm : ∀ q ∈ [(Str.ofString "config", Value.ref cf), (Str.ofString "script", Value.ref sl), (Str.ofString "acked", Value.ref ad)], m q.1 = some q.2)
   (hh : (L + 1 + 1 + 1 + 1 + 1 + 1 + 1, oh) ∈ news) (hh2 : oh.data = .cell (some (.ref hl))) (hhl : (hl, listO vh nh) ∈ news) (hint : IntsAre vh [0, 0, 0, 0]) (hd : (ad, o) ∈ news) (hdo : o.IsDictOf (PySem.intKind Challenge.rw_no0410_01.row.prog w) []) (hlo : (ad == sysModules) = false)
   (hs : ∀ p ∈ [(L + 1, oa), (L + 1 + 1, ob), (L + 1 + 1 + 1 + 1, ow), (lw, listO vw nw), (cf, instObj 183 d), (d, cfD w.params lv lo ll ln false t1 t2 t3 t4 t5), (lv, listO vv e1), (lo, listO vo e2), (ll, listO vl e3), (ln, listO vn e4)], p ∈ news)
   (ha : ∀ p ∈ [(L + 1 + 1 + 1 + 1 + 1 + 1 + 1, oh), (L + 1, oa), (L + 1 + 1, ob), (L + 1 + 1 + 1 + 1, ow), (lw, listO vw nw), (cf, instObj 183 d), (d, cfD w.params lv lo ll ln false t1 t2 t3 t4 t5), (lv, listO vv e1), (lo, listO vo e2), (ll, listO vl e3), (ln, listO vn e4)], p.1 ≠ ad)
   (hb : ∀ p ∈ [(L + 1 + 1 + 1 + 1 + 1 + 1 + 1, oh), (L + 1, oa), (L + 1 + 1, ob), (L + 1 + 1 + 1 + 1, ow), (lw, listO vw nw), (cf, instObj 183 d), (d, cfD w.params lv lo ll ln false t1 t2 t3 t4 t5), (lv, listO vv e1), (lo, listO vo e2), (ll, listO vl e3), (ln, listO vn e4)], p.1 ≠ hl) (hne : ad ≠ hl)
   (k : ∀ (ad hl : Addr) (oh o : Obj) (vh : List Value) (nh : Nat) (m : Str → Option Value) (Λ : List (Addr × Obj)), Λ = [(L + 1 + 1 + 1 + 1 + 1 + 1 + 1, oh), (L + 1, oa), (L + 1 + 1, ob), (L + 1 + 1 + 1 + 1, ow), (lw, listO vw nw), (cf, instObj 183 d), (d, cfD w.params lv lo ll ln false t1 t2 t3 t4 t5), (lv, listO vv e1), (lo, listO vo e2), (ll, listO vl e3), (ln, listO vn e4)] →
     Fr g L h m → News g L h ((hl, listO vh nh) :: (ad, o) :: Λ) → (∀ q ∈ [(Str.ofString "config", Value.ref cf), (Str.ofString "script", Value.ref sl), (Str.ofString "acked", Value.ref ad)], m q.1 = some q.2) → oh.data = .cell (some (.ref hl)) → IntsAre vh [0, 0, 0, 0] → o.IsDictOf (PySem.intKind Challenge.rw_no0410_01.row.prog w) [] → (ad == sysModules) = false → Off (Λ.map (·.1)) ad → Off (Λ.map (·.1)) hl → ad ≠ hl → G) : G :=
  k ad hl oh o vh nh m _ rfl F (sub N (sc hhl (sc hd (sc hh hs)))) hm hh2 hint hdo hlo (fun x hx => by obtain ⟨p, hp, rfl⟩ := List.mem_map.mp hx; exact ha p hp) (fun x hx => by obtain ⟨p, hp, rfl⟩ := List.mem_map.mp hx; exact hb p hp) hne
/-- the index that is asked for -/
noncomputable def bestI (fa fb : Int → Bool) (ak : Int → Int) : Int := if 0 < mk fa + mk fb then (tried fa fb ak).getLastD 0 else 18446744073709551615
theorem JIdx.best {fa fb : Int → Bool} {ak : Int → Int} {r : Int} (h : JIdx fa fb ak r) (ha : ∀ i ∈ IDs, 0 ≤ ak i ∧ ak i < 7) : r = bestI fa fb ak := by
  unfold bestI
  by_cases hp : 0 < mk fa + mk fb
  · rw [if_pos hp]
    obtain ⟨l, e⟩ := tried_eq h hp ha
    rw [e, List.getLastD_concat]
  · rw [if_neg hp]
    exact h.none hp
theorem words_votel_1 : True := by
  k_with "my neall" => first | exact an | (refine ac (by first | exact Off.use (by k_asm) (by k_extra "mem") | exact Off.use' (by k_asm) (by k_extra "mem") | k_ne) ?_; k_extra "my neall")
  k_with "binaryOp Mod int int" => (k_here; (with_reducible refine mod4_go ?_); intro a0'9 a4'9; k_whole)
  k_with "binaryOp LShift int int" => (k_here; (with_reducible refine shl_go ?h0q8516f8 ?h1q8516f8 ?_); (case h0q8516f8 => walk_at "my digit"); (case h1q8516f8 => walk_at "my digit"); k_whole)
  k_with "call ref" => ((with_reducible rename Flag "my rec" => hz9); (with_reducible show wpAny _ _ (call (Value.ref 304) _) _ _ _); refine Hold.out ?_)
  k_with "my kept" => exact ⟨rfl, _, _, rfl, by assumption, by (rename News _ _ _ _ => NZ9; exact sub NZ9 (by k_extra "my memall"))⟩
  k_with "my given" => exact ⟨rfl, _, _, _, rfl, by assumption, by (rename News _ _ _ _ => NZ9; exact sub NZ9 (by k_extra "my memall"))⟩
  k_with "eval Call" => ((with_reducible rename Flag "my call" => hz9); k_dflt (refine Call_ ?_))
  k_with "subscriptTail Name BinOp ref int" => ((with_reducible rename Flag "my role" => hz9); (with_reducible show wpAny _ _ (subscriptTail _ _ (Value.ref 333) (Value.int _ _)) _ _ _); k_dflt (refine' item_ids (listIn ?kxqde389a ?kfqde389a ?koqde389a) ?k3qde389a ?k4qde389a ?k5qde389a ?_ ?k8qde389a; (case kxqde389a => k_asm); (case kfqde389a => k_asm); (case koqde389a => k_is); (case k3qde389a => l_ints); (case k4qde389a => k_asm); (case k5qde389a => k_asm); (case k8qde389a => with_unfolding_all rfl); k_whole); intro t'9)
  k_with "my keptN" => exact ⟨rfl, _, _, _, rfl, by assumption, by (rename News _ _ _ _ => NZ9; exact sub NZ9 (by k_extra "my memall")), by k_extra "my frame"⟩
  trivial
/-- where a turn of a comprehension whose name lies in a cell ends -/
inductive XEnd (h₀ : Heap) (L : Addr) (m : Str → Option Value) (s₁ : Shared) (led : List (Addr × Obj)) (R : Prop) (s₂ : Shared) : Prop
  | mk (h' : Heap) (tk : Nat) (e : s₂ = { s₁ with heap := h', toks := tk }) (F : Fr h₀ L h' m) (N : News h₀ L h' led) (r : R)
section
variable {prog : Program} {w : World} {A : Around} {E : Value → Shared → Prop} {s : Shared} {h₀ : Heap} {m : Str → Option Value} {env : Env}
theorem newEnv_cell {M : Model} {scope : Scope} {globals : Addr} {cl : List (Str × Addr)} {qual : Str} {x : Str} {Q : Env → Shared → Prop}
   (hcells : ∀ a, cellsFrom a scope.names cl = (x, a) :: cl) (hpush : ∀ h, pushCells h scope.names = h.push { cls := .type "cell", data := .cell none })
   (hQ : Q (newEnv scope s.heap.objs.size globals ((x, s.heap.objs.size + 1) :: cl) qual none .none (some env) builtinsNs) { s with heap := (s.heap.push { cls := .type "dict", data := .dict #[] }).push { cls := .type "cell", data := .cell none } }) :
   wpAny M A (newFunctionEnv scope globals cl [] qual none .none (some env)) Q E s := by
  simp only [newFunctionEnv, Option.isSome_some, if_true]
  refine wpAny_bind (wpAny_alloc ?_)
  refine wpAny_bind (wpAny_layCells _ (fun name kind cells => by cases hkc : kind == NameKind.cell <;> simp [hkc]) _ _ _ _ ?_)
  rw [hcells, hpush]
  dsimp only
  rw [Heap.size_push]
  rw [List.forIn_nil]
  exact wpAny_bind (wpAny_pure (wpAny_pure hQ))
/-- a range over which such a comprehension goes -/
noncomputable def NestSrc (prog : Program) (w : World) (A : Around) (h₀ : Heap) (m : Str → Option Value) (env : Env) (ct elt : Expr) (x y : Str) (scope : Scope) (cl : List (Str × Addr)) (Q : Flow → Shared → Prop) (xv : Value) (s₁ : Shared) : Prop :=
  ∃ (r : Addr) (b : Int) (t u v : Tok) (n : Nat) (news : List (Addr × Obj)) (R : Nat → List Value → Prop), xv = .ref r ∧ A.handled = none ∧ Fr h₀ env.locals s₁.heap m ∧ News h₀ env.locals s₁.heap news ∧ IsRange s₁.heap r 0 b 1 t u v ∧ Builtin.Range.small 0 b 1 = true ∧ Builtin.Range.rangeSize 0 b 1 = (n : Int) ∧ n ≤ sizeLine ∧ R 0 [] ∧
    (∀ i t I oI C oC c oc D (ys : List Value) h tk (E' : Value → Shared → Prop), i < n → R i ys → oc.data = .cell (some (.int (i : Int) t)) → Fr h₀ env.locals h m → News h₀ env.locals h ((I, oI) :: (C, oC) :: (c, oc) :: (D, LCg.lst ys) :: news) →
      wpAny (model prog w) A (isTrue ct (compEnvC scope ((x, c) :: cl) C env) (eval ct (compEnvC scope ((x, c) :: cl) C env))) (fun b s' => if b = true then wpAny (model prog w) A (eval elt (compEnvC scope ((x, c) :: cl) C env)) (fun y s₂ => XEnd h₀ env.locals m { s₁ with heap := h, toks := tk } ((I, oI) :: (C, oC) :: (c, oc) :: (D, LCg.lst ys) :: news) (R (i + 1) (ys ++ [y])) s₂) E' s'
        else XEnd h₀ env.locals m { s₁ with heap := h, toks := tk } ((I, oI) :: (C, oC) :: (c, oc) :: (D, LCg.lst ys) :: news) (R (i + 1) ys) s') E' { s₁ with heap := h, toks := tk }) ∧
    (∀ ys D h' tk, R n ys → Fr h₀ env.locals h' (fun z => if z = y then some (.ref D) else m z) → News h₀ env.locals h' ((D, LCg.lst ys) :: news) → Q .next { s₁ with heap := h', toks := tk })
theorem obj_nsobj {h : Heap} {C : Addr} {m : Str → Option Value} (hn : h.Ns C m) : ∃ oC, h.get? C = some oC ∧ LCg.NsObj oC m := by
  obtain ⟨o, es, ep, h1, h2, h3, h4⟩ := hn
  exact ⟨o, h1, es, ep, h2, h3, h4⟩
theorem nsobj_ns {h : Heap} {C : Addr} {oC : Obj} {m : Str → Option Value} (h1 : h.get? C = some oC) (hn : LCg.NsObj oC m) : h.Ns C m := by
  obtain ⟨es, ep, h2, h3, h4⟩ := hn
  exact ⟨oC, es, ep, h1, h2, h3, h4⟩
inductive NestInv (h₀ : Heap) (L : Addr) (m : Str → Option Value) (s₁ : Shared) (n : Nat) (I : Addr) (R : Nat → List Value → Prop) (news : List (Addr × Obj)) (k : Nat) (s' : Shared) : Prop
  | mk (h' : Heap) (tk i : Nat) (ys : List Value) (m' : Str → Option Value) (oI oC oc : Obj) (v : Option Value) (e : s' = { s₁ with heap := h', toks := tk }) (hi : i ≤ n) (hk : k = n + 1 - i) (hy : ys.length ≤ i) (hr : IsRangeIter h' I (0 + (i : Nat) * 1) ((n : Int) - (i : Nat)) 1) (F : Fr h₀ L h' m) (hC : LCg.NsObj oC m') (hc : oc.data = .cell v)
    (N : News h₀ L h' ((I, oI) :: (I + 1 + 1, oC) :: (I + 1 + 1 + 1, oc) :: (I + 1, LCg.lst ys) :: news)) (r : R i ys)
theorem Assign_nest {ct elt iter : Expr} {x y : Str} {px py : Pos} {scope : Scope} {cl : List (Str × Addr)} {pos spos : Pos} {Q : Flow → Shared → Prop} (_F₀ : Fr h₀ env.locals s.heap m)
    (hsw : swapsWith (.ListComp elt [⟨.Name x px, iter, [ct], 0⟩] scope pos) (some (.Name y py)) spos.line env = pure true)
    (hclos : closureFor scope env = pure cl) (hcells : ∀ a, cellsFrom a scope.names cl = (x, a) :: cl) (hpush : ∀ h, pushCells h scope.names = h.push { cls := .type "cell", data := .cell none }) (hkind : scope.kind = .function)
    (hnames : ∀ z ∈ scope.names, z.2 = .local → scope.names.lookup z.1 = some .local) (hx : ∀ c C, (compEnvC scope ((x, c) :: cl) C env).kindOf x = some .cell)
    (hy : env.kindOf y = some .local) (hp : (env.scope.kind == .class || (env.scope.kind == .module && env.locals != env.globals)) = false)
    (h : wpAny (model prog w) A (eval iter env) (NestSrc prog w A h₀ m env ct elt x y scope cl Q) E s)
    (hs : ∀ x, foldedSetIterable iter env x = pure x := by intro _; rfl) :
    wpAny (model prog w) A (exec (.Assign [.Name y py] (.ListComp elt [⟨.Name x px, iter, [ct], 0⟩] scope pos) spos) env) Q E s := by
  rw [exec_Assign_Name_used _ _ _ _ hsw]
  refine wpAny_bind (wpAny_standAt (wpAny_bind ?_))
  show wpAny _ A (do let _ ← comprehension (.ListComp elt [⟨.Name x px, iter, [ct], 0⟩] scope pos) scope env _ (newList []) false (eval iter env) (some (assign (.Name y py) env))) _ _ s
  refine wpAny_bind (wpAny_mono (wpAny_comprehension_free (use := some (assign (.Name y py) env)) (Q := fun _ s' => Q .next s') rfl hs hclos hkind hnames
    (wpAny_mono h (fun xv s₁ h₁ => ?_) fun _ _ e => e)) (fun _ s' hq => wpAny_pure (wpAny_pure hq)) fun _ _ e => e)
  obtain ⟨r, b, t, u, v, n, news, R, rfl, hh, F, N, hr, hsm, hn, hsz, hR0, turn, fin⟩ := h₁
  refine wpAny_pyIter_range hr hsm ?_
  have W := Walks.range (prog := prog) (w := w) hh s₁.heap.objs.size 0 1 n
  refine wpAny_newObj_type ?_
  refine newEnv_cell hcells hpush ?_
  dsimp only
  have hlt : ∀ p ∈ news, p.1 < s₁.heap.objs.size := fun p hp => Heap.lt_size (N p hp).1
  have hLlt : env.locals < s₁.heap.objs.size := F.ns.lt
  have F4 := (((F.push { cls := .type "range_iterator", data := .fields #[rawInt 0, rawInt (Builtin.Range.rangeSize 0 b 1), rawInt 1] }).push (LCg.lst [])).push { cls := .type "dict", data := .dict #[] }).push { cls := .type "cell", data := .cell none }
  have N4 := News.push (((F.push { cls := .type "range_iterator", data := .fields #[rawInt 0, rawInt (Builtin.Range.rangeSize 0 b 1), rawInt 1] }).push (LCg.lst [])).push { cls := .type "dict", data := .dict #[] }) (News.push ((F.push { cls := .type "range_iterator", data := .fields #[rawInt 0, rawInt (Builtin.Range.rangeSize 0 b 1), rawInt 1] }).push (LCg.lst [])) (News.push (F.push { cls := .type "range_iterator", data := .fields #[rawInt 0, rawInt (Builtin.Range.rangeSize 0 b 1), rawInt 1] }) (News.push F N { cls := .type "range_iterator", data := .fields #[rawInt 0, rawInt (Builtin.Range.rangeSize 0 b 1), rawInt 1] }) (LCg.lst [])) { cls := .type "dict", data := .dict #[] }) { cls := .type "cell", data := .cell none }
  simp only [Heap.size_push] at N4 ⊢
  show codeAny (model prog w) A (.compStart (.ListComp elt [⟨.Name x px, iter, [ct], 0⟩] scope pos) 0 (.ref s₁.heap.objs.size) (.ref (s₁.heap.objs.size + 1)) (compEnvC scope ((x, s₁.heap.objs.size + 1 + 1 + 1) :: cl) (s₁.heap.objs.size + 1 + 1) env)) _ { s₁ with heap := (((s₁.heap.push { cls := .type "range_iterator", data := .fields #[rawInt 0, rawInt (Builtin.Range.rangeSize 0 b 1), rawInt 1] }).push (LCg.lst [])).push { cls := .type "dict", data := .dict #[] }).push { cls := .type "cell", data := .cell none } }
  generalize (((s₁.heap.push { cls := .type "range_iterator", data := .fields #[rawInt 0, rawInt (Builtin.Range.rangeSize 0 b 1), rawInt 1] }).push (LCg.lst [])).push { cls := .type "dict", data := .dict #[] }).push { cls := .type "cell", data := .cell none } = H4 at *
  generalize hI : s₁.heap.objs.size = I at *
  have N5 : News h₀ env.locals H4 ((I, { cls := .type "range_iterator", data := .fields #[rawInt 0, rawInt (Builtin.Range.rangeSize 0 b 1), rawInt 1] }) :: (I + 1 + 1, { cls := .type "dict", data := .dict #[] }) :: (I + 1 + 1 + 1, { cls := .type "cell", data := .cell none }) :: (I + 1, LCg.lst []) :: news) := sub N4 (sc (.tail _ (.tail _ (.tail _ (.head _)))) (sc (.tail _ (.head _)) (sc (.head _) (sc (.tail _ (.tail _ (.head _))) (fun p hp => .tail _ (.tail _ (.tail _ (.tail _ hp))))))))
  clear N4
  have hst : IsRangeIter H4 I (0 + ((0 : Nat) : Int) * 1) ((n : Int) - ((0 : Nat) : Int)) 1 := by
    have := (N5 _ (.head _)).1
    unfold IsRangeIter
    rw [this, hn]
    simp
  have dI : ∀ k : Nat, (I : Nat) ≠ I + k + 1 := fun k => Nat.ne_of_lt (Nat.lt_succ_of_le (Nat.le_add_right I k))
  have dS : ∀ k : Nat, (k : Nat) ≠ k + 1 := fun k => Nat.ne_of_lt (Nat.lt_succ_self k)
  have dS2 : ∀ k : Nat, (k : Nat) ≠ k + 1 + 1 := fun k => Nat.ne_of_lt (Nat.lt_succ_of_lt (Nat.lt_succ_self k))
  have oN : ∀ p ∈ news, ∀ k : Nat, p.1 ≠ I + k := fun p hp k => Nat.ne_of_lt (Nat.lt_of_lt_of_le (hlt p hp) (Nat.le_add_right I k))
  have loop : ∀ s₃ : Shared, s₃ = { s₁ with heap := H4 } → codeAny (model prog w) A (.compLoop (.ListComp elt [⟨.Name x px, iter, [ct], 0⟩] scope pos) 0 (.ref I) (.ref (I + 1)) (compEnvC scope ((x, I + 1 + 1 + 1) :: cl) (I + 1 + 1) env))
      (compPost (model prog w) A E (some (assign (.Name y py) env)) (fun _ s' => Q .next s') (.ref (I + 1)) (I + 1 + 1)) s₃ := by
    rintro s₃ rfl
    refine codeAny_compLoop_tests (NestInv h₀ env.locals m s₁ n I R news) ?_ (n + 1) ⟨H4, _, 0, [], fun _ => none, _, _, _, none, rfl, Nat.zero_le _, rfl, Nat.le_refl _, hst, F4, ⟨#[], _, rfl, (by simp [StrKeys]), fun _ => rfl⟩, rfl, N5, hR0⟩
    rintro k s' ⟨h', tk, i, ys, m', oI, oC, oc, v, rfl, hi, rfl, hyl, hst', F', hoC, hoc, N', hR⟩
    by_cases hlt2 : i < n
    · refine W.item i _ _ _ hlt2 hst' fun v h₂ tk₂ hPv hst₂ hk₂ => ?_
      obtain ⟨t, rfl⟩ := hPv
      have ei : (0 : Int) + (i : Int) * 1 = (i : Int) := by omega
      rw [ei]
      obtain ⟨oI₂, hI₂⟩ : ∃ o, h₂.get? I = some o := ⟨_, hst₂⟩
      have nI := N' _ (.head _)
      have keep₂ : ∀ b o, b ≠ I → h'.get? b = some o → h₂.get? b = some o := fun b o hb e => hk₂ b o (by simpa using hb) e
      have F₂ : Fr h₀ env.locals h₂ m := ⟨F'.ns.at' fun o e => keep₂ _ o (Ne.symm nI.2.1) e, fun b o e => keep₂ b o (fun hb => by rw [hb, nI.2.2] at e; cases e) (F'.keep b o e), F'.above⟩
      have N₂ : News h₀ env.locals h₂ ((I, oI₂) :: (I + 1 + 1, oC) :: (I + 1 + 1 + 1, oc) :: (I + 1, LCg.lst ys) :: news) := by
        refine ac (⟨hI₂, nI.2⟩) (fun p hp => ?_)
        have z := N' p (.tail _ hp)
        refine ⟨keep₂ _ _ ?_ z.1, z.2⟩
        rcases List.mem_cons.mp hp with rfl | hp
        · exact Ne.symm (dS2 I)
        · rcases List.mem_cons.mp hp with rfl | hp
          · exact Ne.symm (dI 2)
          · rcases List.mem_cons.mp hp with rfl | hp
            · exact Ne.symm (dS I)
            · exact oN p hp 0
      have nc := N₂ (I + 1 + 1 + 1, oc) (.tail _ (.tail _ (.head _)))
      refine wpAny_assign_Name (wpAny_storeName_cell (by simp [compEnvC, relabel, hkind]) (hx _ _) (by simp [compEnvC]) ⟨oc, nc.1, hoc⟩ fun h₃ hv₃ hs₃ => ?_)
      obtain ⟨oc₃, hoc₃, hd₃⟩ := hv₃
      have F₃ : Fr h₀ env.locals h₃ m := ⟨F₂.ns.sameBut hs₃ (Ne.symm nc.2.1), fun b o e => (hs₃.2 b (fun q => by rw [q, nc.2.2] at e; cases e)).trans (F₂.keep b o e), F₂.above⟩
      have N₃ : News h₀ env.locals h₃ ((I, oI₂) :: (I + 1 + 1, oC) :: (I + 1 + 1 + 1, oc₃) :: (I + 1, LCg.lst ys) :: news) := by
        have up : ∀ p : Addr × Obj, p ∈ (I, oI₂) :: (I + 1 + 1, oC) :: (I + 1 + 1 + 1, oc) :: (I + 1, LCg.lst ys) :: news → p.1 ≠ I + 1 + 1 + 1 → h₃.get? p.1 = some p.2 ∧ p.1 ≠ env.locals ∧ h₀.get? p.1 = none := fun p hp hne => ⟨(hs₃.2 _ hne).trans (N₂ p hp).1, (N₂ p hp).2⟩
        refine ac (up _ (.head _) (dI 2)) (ac (up _ (.tail _ (.head _)) (dS _)) (ac (⟨hoc₃, nc.2⟩) (ac (up _ (.tail _ (.tail _ (.tail _ (.head _)))) (dS2 (I + 1))) (fun p hp => up p (.tail _ (.tail _ (.tail _ (.tail _ hp)))) (oN p hp 3)))))
      have iter_at : ∀ hh' : Heap, hh'.get? I = some oI₂ → IsRangeIter hh' I (0 + ((i + 1 : Nat) : Int) * 1) ((n : Int) - ((i + 1 : Nat) : Int)) 1 := fun hh' e => by
        have e4 : some oI₂ = _ := hI₂.symm.trans hst₂
        unfold IsRangeIter
        rw [e, e4]
      refine wpAny_tests_one ?_
      refine wpAny_mono (turn i t I oI₂ (I + 1 + 1) oC (I + 1 + 1 + 1) oc₃ (I + 1) ys h₃ _ _ hlt2 hR hd₃ F₃ N₃) (fun ok s₄ h₄ => ?_) fun _ _ e => e
      cases ok with
      | true =>
        simp only [if_true] at h₄ ⊢
        refine wpAny_mono h₄ (fun y s₅ h₅ => ?_) fun _ _ e => e
        obtain ⟨h₅, tk₅, rfl, F₅, N₅, R₅⟩ := h₅
        have zD := N₅ (I + 1, LCg.lst ys) (.tail _ (.tail _ (.tail _ (.head _))))
        refine append_at (hsz := by show ys.toArray.size ≤ sizeLine; rw [List.size_toArray]; exact Nat.le_trans (Nat.le_trans hyl hi) hsz) zD.1 fun h₆ hs₆ hD₆ => ?_
        have up : ∀ p : Addr × Obj, p ∈ (I, oI₂) :: (I + 1 + 1, oC) :: (I + 1 + 1 + 1, oc₃) :: (I + 1, LCg.lst ys) :: news → p.1 ≠ I + 1 → h₆.get? p.1 = some p.2 ∧ p.1 ≠ env.locals ∧ h₀.get? p.1 = none := fun p hp hne => ⟨(hs₆.2 _ hne).trans (N₅ p hp).1, (N₅ p hp).2⟩
        refine ⟨n + 1 - (i + 1), by omega, h₆, tk₅, i + 1, ys ++ [y], m', oI₂, oC, oc₃, _, rfl, hlt2, rfl, by rw [List.length_append, List.length_singleton]; exact Nat.succ_le_succ hyl, iter_at _ (up _ (.head _) (dS I)).1,
          ⟨F₅.ns.sameBut hs₆ (Ne.symm zD.2.1), fun b o e => (hs₆.2 b (fun q => by rw [q, zD.2.2] at e; cases e)).trans (F₅.keep b o e), F₅.above⟩, hoC, hd₃, ?_, R₅⟩
        refine ac (up _ (.head _) (dS I)) (ac (up _ (.tail _ (.head _)) (Ne.symm (dS (I + 1)))) (ac (up _ (.tail _ (.tail _ (.head _))) (Ne.symm (dS2 (I + 1)))) (ac (⟨?_, zD.2⟩) (fun p hp => up p (.tail _ (.tail _ (.tail _ (.tail _ hp)))) (oN p hp 1)))))
        rw [hD₆]
        simp
      | false =>
        simp only [Bool.false_eq_true, if_false] at h₄ ⊢
        obtain ⟨h₅, tk₅, rfl, F₅, N₅, R₅⟩ := h₄
        exact ⟨n + 1 - (i + 1), by omega, h₅, tk₅, i + 1, ys, m', oI₂, oC, oc₃, _, rfl, hlt2, rfl, Nat.le_succ_of_le hyl, iter_at _ (N₅ _ (.head _)).1, F₅, hoC, hd₃, N₅, R₅⟩
    · have hin : i = n := by omega
      subst hin
      refine W.done _ _ _ hst' fun h₂ tk₂ hk₂ => ?_
      show wpAny _ A (assign (.Name y py) env (.ref (I + 1))) _ _ _
      have nI := N' _ (.head _)
      have keep₂ : ∀ b o, b ≠ I → h'.get? b = some o → h₂.get? b = some o := fun b o hb e => hk₂ b o (by simpa using hb) e
      have F₂ : Fr h₀ env.locals h₂ m := ⟨F'.ns.at' fun o e => keep₂ _ o (Ne.symm nI.2.1) e, fun b o e => keep₂ b o (fun hb => by rw [hb, nI.2.2] at e; cases e) (F'.keep b o e), F'.above⟩
      refine wpAny_assign_Name (wpAny_storeName_local hy F₂.ns (fun h₃ hn₃ hs₃ => ?_) hp)
      have zC := N' (I + 1 + 1, oC) (.tail _ (.head _))
      have F₃ : Fr h₀ env.locals h₃ (fun z => if z = y then some (.ref (I + 1)) else m z) := ⟨hn₃, fun b o e => (hs₃.2 b (fun q => by
        have hL₀ : h₀.get? env.locals = none := Heap.get?_none_of_le F'.above
        rw [q, hL₀] at e
        cases e)).trans (F₂.keep b o e), F₂.above⟩
      have N₃ : ∀ p ∈ (I + 1 + 1, oC) :: (I + 1 + 1 + 1, oc) :: (I + 1, LCg.lst ys) :: news, h₃.get? p.1 = some p.2 := fun p hp => by
        have z := N' p (.tail _ hp)
        refine (hs₃.2 _ z.2.1).trans (keep₂ _ _ ?_ z.1)
        rcases List.mem_cons.mp hp with rfl | hp
        · exact Ne.symm (dS2 I)
        · rcases List.mem_cons.mp hp with rfl | hp
          · exact Ne.symm (dI 2)
          · rcases List.mem_cons.mp hp with rfl | hp
            · exact Ne.symm (dS I)
            · exact oN p hp 0
      refine ⟨m', nsobj_ns (N₃ _ (.head _)) hoC, fun h'' hs'' => fin ys (I + 1) h'' _ hR ⟨F₃.ns.sameBut hs'' (Ne.symm zC.2.1), fun b o e => (hs''.2 b (fun q => by rw [q, zC.2.2] at e; cases e)).trans (F₃.keep b o e), F₃.above⟩ (fun p hp => ?_)⟩
      have z : h₃.get? p.1 = some p.2 := N₃ p (.tail _ (.tail _ hp))
      refine ⟨(hs''.2 _ ?_).trans z, (N' p (.tail _ (.tail _ (.tail _ hp)))).2⟩
      rcases List.mem_cons.mp hp with rfl | hp
      · exact dS (I + 1)
      · exact oN p hp 2
  exact codeAny_compStart_list (loop _ rfl) (W.self 0 _ _ _ hst (loop _ rfl))
end
theorem tried_ne {fa fb : Int → Bool} {ak : Int → Int} (ha : ∀ i ∈ IDs, 0 ≤ ak i ∧ ak i < 7) : tried fa fb ak ≠ [] := by
  have key : ∀ x y z u : Bool, winH4 x y z u true true true true = true := by decide
  have hw : win fa fb (fun j => decide ((0 : Int) ≤ ak j)) = true := by
    rw [win_cong (g' := fun _ => true) fun i hi => decide_eq_true (ha i hi).1]
    unfold win
    rw [winH_eq4, winH_eq4, key, key]
    rfl
  have : (0 : Int) ∈ tried fa fb ak := List.mem_filter.mpr ⟨by decide, hw⟩
  intro e
  rw [e] at this
  cases this
theorem set_upd {ak : Int → Int} {k x : Int} (h0 : 0 ≤ k) (h1 : k < 4) : [ak 2, ak 3, ak 5, ak 9].set k.toNat x = [upd ak (idAt k) x 2, upd ak (idAt k) x 3, upd ak (idAt k) x 5, upd ak (idAt k) x 9] := by
  have : k = 0 ∨ k = 1 ∨ k = 2 ∨ k = 3 := by omega
  rcases this with rfl | rfl | rfl | rfl <;> rfl
theorem upd_ok {ak : Int → Int} {k x : Int} (ha : ∀ i ∈ IDs, 0 ≤ ak i ∧ ak i < 7) (h0 : 0 ≤ x) (h1 : x < 7) : ∀ i ∈ IDs, 0 ≤ upd ak k x i ∧ upd ak k x i < 7 := fun i hi => by
  unfold upd
  split
  · exact ⟨h0, h1⟩
  · exact ha i hi
theorem acked_upd {ak : Int → Int} {k x : Int} {t : Tok} {kvs : List (Int × Value)} (h : ∀ j ∈ IDs, (∃ t, valueAt kvs j = some (.int (ak j) t)) ∨ (valueAt kvs j = none ∧ ak j = 0)) : ∀ j ∈ IDs, (∃ t', valueAt (stored kvs k (.int x t)) j = some (.int (upd ak k x j) t')) ∨ (valueAt (stored kvs k (.int x t)) j = none ∧ upd ak k x j = 0) := fun j hj => by
  rw [valueAt_stored]
  unfold upd
  by_cases e : j = k
  · rw [if_pos e, if_pos e]; exact .inl ⟨t, rfl⟩
  · rw [if_neg e, if_neg e]; exact h j hj
theorem div28 {e : Int} (h0 : 0 ≤ e) (h28 : e < 28) : 0 ≤ e.fdiv 4 ∧ e.fdiv 4 < 7 := by
  rw [Int.fdiv_eq_ediv_of_nonneg _ (by decide)]
  omega
section
variable {prog : Program} {w : World} {A : Around} {E : Value → Shared → Prop} {s : Shared} {h₀ : Heap} {L l : Addr} {m : Str → Option Value} {news news' : List (Addr × Obj)} {vs : List Value} {n : Nat}
theorem div4_go {Q : Value → Shared → Prop} {e : Int} {t u : Tok} (h : Q (.int (e.fdiv 4) s.toks) { s with toks := s.toks + 1 }) : wpAny (model prog w) A (binaryOp .FloorDiv (.int e t) (.int 4 u)) Q E s := floordiv_int (by decide) h
theorem item_tried {Q : Value → Shared → Prop} {value slice : Expr} {fa fb : Int → Bool} {ak : Int → Int} {u : Tok} (N : News h₀ L s.heap news) (hm : (l, listO vs n) ∈ news) (hi : TriedR fa fb ak 7 vs) (ha : ∀ i ∈ IDs, 0 ≤ ak i ∧ ak i < 7) (h : ∀ t, Q (.int ((tried fa fb ak).getLastD 0) t) s)
    (hs : subscripted slice false (.ref l) (.int (-1) u) = operate [.ref l, .int (-1) u] (getItem (.ref l) (.int (-1) u)) := by with_unfolding_all rfl) (hg : ∀ r, letTemporaryGo value (.ref l) r = pure () := by intro _; with_unfolding_all rfl) : wpAny (model prog w) A (subscriptTail value slice (.ref l) (.int (-1) u)) Q E s := by
  have hl := News.isList N hm
  have hi' : IntsAre vs (tried fa fb ak) := hi
  have hne := tried_ne (fa := fa) (fb := fb) ha
  generalize tried fa fb ak = ns at hi' hne h
  obtain ⟨l', r, rfl⟩ : ∃ l' r, ns = l' ++ [r] := ⟨_, _, (List.dropLast_concat_getLast hne).symm⟩
  rw [List.getLastD_concat] at h
  have split : ∀ {a : List Int} {vs : List Value}, IntsAre vs (a ++ [r]) → ∃ vi t, vs = vi ++ [.int r t] := by
    intro a
    induction a with
    | nil => intro vs h; cases h with | cons _ t h => cases h; exact ⟨[], t, rfl⟩
    | cons b a ih => intro vs h; cases h with | cons _ t h => obtain ⟨vi, t', e⟩ := ih h; exact ⟨_ :: vi, t', by rw [e]; rfl⟩
  obtain ⟨vi, t, rfl⟩ := split hi'
  exact item_last hl (h t) hs hg
theorem set_held {Q : Unit → Shared → Prop} {ak : Int → Int} {k x : Int} {t u : Tok} (F : Fr h₀ L s.heap m) (N : News h₀ L s.heap news) (U : Upd l (listOf vs.toArray n) (listOf (vs.set k.toNat (.int x u)).toArray n) news news') (hi : IntsAre vs [ak 2, ak 3, ak 5, ak 9]) (h0 : 0 ≤ k) (h1 : k < 4)
    (h : ∀ h', Fr h₀ L h' m → News h₀ L h' news' → IntsAre (vs.set k.toNat (.int x u)) [upd ak (idAt k) x 2, upd ak (idAt k) x 3, upd ak (idAt k) x 5, upd ak (idAt k) x 9] → Q () { s with heap := h' }) :
    wpAny (model prog w) A (setItem (.ref l) (.int k t) (.int x u)) Q E s :=
  ksa_set F N U hi h0 (by simpa using h1) (by omega) (fun h' F' N' I' _ _ => h h' F' N' (set_upd (ak := ak) h0 h1 ▸ I'))
theorem best_same {h₀ h : Heap} {L : Addr} {m : Str → Option Value} {x : Str} {v : Value} (F : Fr h₀ L h (fun y => if y = x then some v else m y)) : Fr h₀ L h (fun y => if y = x then some v else (fun y => if y = x then some v else m y) y) := by
  have e : (fun y => if y = x then some v else (fun y => if y = x then some v else m y) y) = fun y => if y = x then some v else m y := by
    funext y
    dsimp only
    split <;> rfl
  rw [e]
  exact F
theorem best_twice {h₀ h : Heap} {L : Addr} {m m' : Str → Option Value} {x : Str} {v : Value} (F : Fr h₀ L h m') (e : ∀ y, m' y = if y = x then some v else m y) : Fr h₀ L h (fun y => if y = x then some v else m y) := by
  have : m' = fun y => if y = x then some v else m y := funext e
  rw [← this]
  exact F
end
theorem bestI_some {fa fb : Int → Bool} {ak : Int → Int} (hp : 0 < mk fa + mk fb) : bestI fa fb ak = (tried fa fb ak).getLastD 0 := if_pos hp
theorem bestI_none {fa fb : Int → Bool} {ak : Int → Int} (hp : ¬ 0 < mk fa + mk fb) : bestI fa fb ak = 18446744073709551615 := if_neg hp
theorem upd28 {ak : Int → Int} {e : Int} (h0 : 0 ≤ e) (h28 : e < 28) (ha : ∀ i ∈ IDs, 0 ≤ ak i ∧ ak i < 7) : ∀ i ∈ IDs, 0 ≤ upd ak (idAt (e.fmod 4)) (e.fdiv 4) i ∧ upd ak (idAt (e.fmod 4)) (e.fdiv 4) i < 7 := upd_ok ha (div28 h0 h28).1 (div28 h0 h28).2
theorem c2_end {w : World} {GG : Heap → Prop} {cf sl ad hl L I : Addr} {Λ led : List (Addr × Obj)} {i tk nh : Nat} {g h : Heap} {m : Str → Option Value} {o o' : Obj} {ak : Int → Int} {vh : List Value} {kvs : List (Int × Value)} {s₁ : Shared}
   (hGG : GG g) (F : Fr g L h m) (N : News g L h led) (hI : (I, o) ∈ led) (hh : (hl, listO vh nh) ∈ led) (hd : (ad, o') ∈ led) (hΛ : ∀ p ∈ Λ, p ∈ led)
   (hm : ∀ q ∈ [(Str.ofString "config", Value.ref cf), (Str.ofString "script", Value.ref sl), (Str.ofString "acked", Value.ref ad)], m q.1 = some q.2) (hoff : ∀ p ∈ Λ, p.1 ≠ I) (hIh : I ≠ hl) (hIa : I ≠ ad)
   (hint : IntsAre vh [ak 2, ak 3, ak 5, ak 9]) (hdo : o'.IsDictOf (PySem.intKind Challenge.rw_no0410_01.row.prog w) kvs) (hva : ∀ j ∈ IDs, (∃ t, valueAt kvs j = some (.int (ak j) t)) ∨ (valueAt kvs j = none ∧ ak j = 0)) (hak : ∀ j ∈ IDs, 0 ≤ ak j ∧ ak j < 7) (hlen : kvs.length ≤ i) :
   REnd L (CInv2 w GG cf sl ad hl Λ i) I o s₁ { s₁ with heap := h, toks := tk } :=
  ⟨g, h, tk, m, (hl, listO vh nh) :: (ad, o') :: Λ, rfl, F, sub N (sc hI (sc hh (sc hd (hΛ)))), (ac hIh.symm (ac hIa.symm hoff)), hGG, hm, fun p hp => .tail _ (.tail _ hp), ak, vh, nh, o', kvs, .head _, hint, .tail _ (.head _), hdo, hva, hak, hlen⟩
/-- a name has been given a number, and some names stand -/
inductive GivenN (g : Heap) (L : Addr) (names : List (Str × Value)) (news : List (Addr × Obj)) (x : Str) (v : Int) (s s₂ : Shared) : Prop
  | mk (h' : Heap) (tk : Nat) (m' : Str → Option Value) (t : Tok) (e : s₂ = { s with heap := h', toks := tk }) (F : Fr g L h' m') (N : News g L h' news) (hm : ∀ q ∈ (x, Value.int v t) :: names, m' q.1 = some q.2)
theorem st_givenN {M : Model} {A : Around} {E : Value → Shared → Prop} {s : Shared} {env : Env} {st : Stmt} {Q : Flow → Shared → Prop} {g : Heap} {L : Addr} {m : Str → Option Value} {news : List (Addr × Obj)} (names : List (Str × Value)) (x : Str) (v : Int) (_F : Fr g L s.heap m) (_N : News g L s.heap news)
    (h1 : wpAny M A (exec st env) (StEnd (GivenN g L names news x v s)) E s) (h2 : ∀ h' tk m' t, Fr g L h' m' → News g L h' news → (∀ q ∈ (x, Value.int v t) :: names, m' q.1 = some q.2) → Q .next { s with heap := h', toks := tk }) : wpAny M A (exec st env) Q E s :=
  st_cut _ h1 fun s₂ hr => by obtain ⟨h', tk, m', t, rfl, F, N, hm⟩ := hr; exact h2 _ _ _ _ F N hm
theorem words_idxl_1 : True := by
  k_with "exec Assign cons ListComp" => ((with_reducible rename Flag "my nest" => hz9); k_dflt (refine' Assign_nest ?F0q8c7e1d ?swq8c7e1d ?closq8c7e1d ?cellsq8c7e1d ?pushq8c7e1d ?kindq8c7e1d ?namesq8c7e1d ?xq8c7e1d ?yq8c7e1d ?pq8c7e1d ?_; (case F0q8c7e1d => k_asm); (case swq8c7e1d => with_unfolding_all rfl); (case closq8c7e1d => with_unfolding_all rfl); (case cellsq8c7e1d => (intro _; with_unfolding_all rfl)); (case pushq8c7e1d => (intro _; with_unfolding_all rfl)); (case kindq8c7e1d => rfl); (case namesq8c7e1d => decide); (case xq8c7e1d => (intro _ _; with_unfolding_all rfl)); (case yq8c7e1d => rfl); (case pq8c7e1d => rfl)))
  k_with "NestSrc" => ((with_reducible rename Flag "my nest" => hz9); refine Hold.out ?_)
  k_with "binaryOp FloorDiv int int" => (k_here; (with_reducible refine div4_go ?_); k_whole)
  k_with "subscriptTail Name UnaryOp ref int" => ((with_reducible rename Flag "my last" => hz9); k_dflt (refine' item_tried ?k1q1a7132 ?k2q1a7132 ?k3q1a7132 ?k4q1a7132 ?_ ?k5q1a7132 ?k6q1a7132; (case k1q1a7132 => k_asm); (case k2q1a7132 => k_mem); (case k3q1a7132 => k_asm); (case k4q1a7132 => k_asm); (case k5q1a7132 => with_unfolding_all rfl); (case k6q1a7132 => (intro _; with_unfolding_all rfl)); k_whole); intro t'9)
  k_with "setItem ref int" => ((with_reducible rename Flag "my held" => hz9); (with_reducible show wpAny _ _ (setItem (Value.ref _) (Value.int _ _) (Value.int _ _)) _ _ _); k_dflt (refine' set_held ?Fq5384e1 ?Nq5384e1 ?Uq5384e1 ?iq5384e1 ?h0q5384e1 ?h1q5384e1 ?_; (case Fq5384e1 => k_asm); (case Nq5384e1 => k_asm); (case Uq5384e1 => k_upd); (case iq5384e1 => k_asm); (case h0q5384e1 => k_asm); (case h1q5384e1 => k_asm); k_whole); intro h'9 F'9 N'9 hi'9; (try dsimp only at N'9); (try k_sweep))
  k_with "my givenN" => exact ⟨rfl, _, _, _, _, rfl, by assumption, by (rename News _ _ _ _ => NZ9; exact sub NZ9 (by k_extra "my memall")), by k_extra "my frame"⟩
  trivial
theorem isList_turn {fs : List Addr} {g g' : Heap} {a : Addr} {items : Array Value} (x : g.IsList a items) (T : KtsTurn fs g g') : g'.IsList a items := by
  obtain ⟨o, ho, hc, r⟩ := x
  obtain ⟨sl, h2⟩ := T.up ho
  exact ⟨_, h2, hc, r⟩
/-- roles drawn so far -/
noncomputable def RolesR (i : Nat) (ys : List Value) : Prop := ∃ ns, IntsAre ys ns ∧ ns.length = i ∧ ∀ x ∈ ns, x = 0 ∨ x = 1 ∨ x = 2
theorem RolesR.nil : RolesR 0 [] := ⟨[], .nil, rfl, fun _ h => nomatch h⟩
theorem RolesR.step {i : Nat} {ys : List Value} {x : Int} {t : Tok} (h : RolesR i ys) (hx : x = 0 ∨ x = 1 ∨ x = 2) : RolesR (i + 1) (ys ++ [.int x t]) := by
  obtain ⟨ns, hi, hl, ha⟩ := h
  refine ⟨ns ++ [x], IntsAre.append hi (.cons _ _ .nil), by simp [hl], fun y hy => ?_⟩
  rcases List.mem_append.mp hy with hy | hy
  · exact ha y hy
  · rw [List.mem_singleton.mp hy]; exact hx
noncomputable def rolF (a b c d : Int) (i : Int) : Int := if i = 2 then a else if i = 3 then b else if i = 5 then c else d
theorem RolesR.four {ys : List Value} (h : RolesR 4 ys) : ∃ ρ, Rol ρ ∧ IntsAre ys [ρ 2, ρ 3, ρ 5, ρ 9] := by
  obtain ⟨ns, hi, hl, ha⟩ := h
  match ns, hl with
  | [a, b, c, d], _ =>
    refine ⟨rolF a b c d, fun i hi => ?_, hi⟩
    have : i = 2 ∨ i = 3 ∨ i = 5 ∨ i = 9 := by simpa [IDs] using hi
    rcases this with rfl | rfl | rfl | rfl
    · exact ha a (by simp)
    · exact ha b (by simp)
    · exact ha c (by simp)
    · exact ha d (by simp)
theorem RolesR.three {ys : List Value} {ρ : Int → Int} (h : RolesR 3 ys) (hr : Rol ρ) : ∃ ν, Rol ν ∧ ν 9 = ρ 9 ∧ ∀ t, IntsAre (ys ++ [.int (ρ 9) t]) [ν 2, ν 3, ν 5, ν 9] := by
  obtain ⟨ns, hi, hl, ha⟩ := h
  match ns, hl with
  | [a, b, c], _ =>
    refine ⟨rolF a b c (ρ 9), fun i hi => ?_, rfl, fun t => IntsAre.append hi (.cons _ _ .nil)⟩
    · have : i = 2 ∨ i = 3 ∨ i = 5 ∨ i = 9 := by simpa [IDs] using hi
      rcases this with rfl | rfl | rfl | rfl
      · exact ha a (by simp)
      · exact ha b (by simp)
      · exact ha c (by simp)
      · exact hr 9 (by decide)
theorem RolesR.len {i : Nat} {ys : List Value} (h : RolesR i ys) : ys.length = i := by
  obtain ⟨ns, hi, hl, _⟩ := h
  rw [hi.length, hl]
theorem first_up {ρ : Int → Int} {vs : List Value} {t : Tok} (h : IntsAre vs [ρ 2, ρ 3, ρ 5, ρ 9]) : IntsAre (vs.set 0 (.int 1 t)) [upd ρ 2 1 2, upd ρ 2 1 3, upd ρ 2 1 5, upd ρ 2 1 9] := by
  cases h with | cons _ t1 h => cases h with | cons _ t2 h => cases h with | cons _ t3 h => cases h with | cons _ t4 h =>
    cases h
    exact .cons _ _ (.cons _ _ (.cons _ _ (.cons _ _ .nil)))
theorem first_rol {ρ : Int → Int} (h : Rol ρ) : Rol (upd ρ 2 1) := fun i hi => by
  unfold upd
  split
  · exact .inr (.inl rfl)
  · exact h i hi
theorem first_votes (ρ : Int → Int) : ids (Cf.of (upd ρ 2 1)).v ≠ [] := votes_iff.mpr ⟨2, by decide, rfl⟩
theorem some_votes {ρ : Int → Int} (h : (1 : Int) ∈ [ρ 2, ρ 3, ρ 5, ρ 9]) : ids (Cf.of ρ).v ≠ [] := fun e => (none_votes.mp e) h
/-- the noise that is drawn -/
theorem noise_one {c : Int} (h0 : 0 ≤ c) (h1 : c < 12) : Noise [(c.fmod 4, idAt (c.fdiv 4))] := by
  refine .inr ⟨_, _, rfl, ?_, ?_⟩
  · have := fmod_in c (q := 4) (by decide)
    omega
  · have e : c.fdiv 4 = 0 ∨ c.fdiv 4 = 1 ∨ c.fdiv 4 = 2 := by
      rw [Int.fdiv_eq_ediv_of_nonneg _ (by decide)]
      omega
    rcases e with e | e | e <;> rw [e]
    · exact .inl rfl
    · exact .inr (.inl rfl)
    · exact .inr (.inr rfl)
theorem role_at {v : Int} (h0 : 0 ≤ v) (h1 : v < 3) : ([1, 0, 2] : List Int).getD v.toNat 0 = 0 ∨ ([1, 0, 2] : List Int).getD v.toNat 0 = 1 ∨ ([1, 0, 2] : List Int).getD v.toNat 0 = 2 := by
  have : v = 0 ∨ v = 1 ∨ v = 2 := by omega
  rcases this with rfl | rfl | rfl
  · exact .inr (.inl rfl)
  · exact .inl rfl
  · exact .inr (.inr rfl)
section
variable {prog : Program} {w : World} {A : Around} {E : Value → Shared → Prop} {s : Shared} {h₀ : Heap} {L l : Addr} {m : Str → Option Value} {news : List (Addr × Obj)} {vs : List Value} {n : Nat}
theorem item_rl {Q : Value → Shared → Prop} {value slice : Expr} {v : Int} {u : Tok} (hl : s.heap.IsList l vs.toArray) (hi : IntsAre vs [1, 0, 2]) (h0 : 0 ≤ v) (h1 : v < 3) (h : ∀ x t, (x = 0 ∨ x = 1 ∨ x = 2) → Q (.int x t) s)
    (hs : subscripted slice false (.ref l) (.int v u) = operate [.ref l, .int v u] (getItem (.ref l) (.int v u)) := by with_unfolding_all rfl) : wpAny (model prog w) A (subscriptTail value slice (.ref l) (.int v u)) Q E s :=
  item_anyK hl hi h0 (by simpa using h1) (by omega) (fun t => h _ t (role_at h0 h1)) hs
end
theorem new_room {ys : List Value} {v : Value} (h : ys.length = 3) : ys.length + [v].length ≤ sizeLine := by
  rw [h]
  exact Nat.le_of_ble_eq_true rfl
theorem div16_go {prog : Program} {w : World} {A : Around} {E : Value → Shared → Prop} {s : Shared} {Q : Value → Shared → Prop} {e : Int} {t u : Tok} (h0 : 0 ≤ e) (h1 : e < 16) (h : 0 ≤ e.fdiv 4 → e.fdiv 4 < 4 → Q (.int (e.fdiv 4) s.toks) { s with toks := s.toks + 1 }) : wpAny (model prog w) A (binaryOp .FloorDiv (.int e t) (.int 4 u)) Q E s := div4_go (by
  have : 0 ≤ e.fdiv 4 ∧ e.fdiv 4 < 4 := by
    rw [Int.fdiv_eq_ediv_of_nonneg _ (by decide)]
    omega
  exact h this.1 this.2)
theorem first_rol0 {ρ : Int → Int} (h : Rol ρ) : Rol (upd ρ (idAt 0) 1) := first_rol h
theorem first_votes0 (ρ : Int → Int) : ids (Cf.of (upd ρ (idAt 0) 1)).v ≠ [] := first_votes ρ
theorem dicts_nil (h : Heap) : KtsDicts (List.filterMap (fun x : Env => x.frame) []) h := by simp [KtsDicts]
theorem fr_base {base g h : Heap} {L : Addr} {m : Str → Option Value} (F : Fr g L h m) (S : base.StaysIn g) (ha : base.objs.size ≤ L) : Fr base L h m := ⟨F.ns, fun b o e => F.keep b o (S b o e), ha⟩
theorem drop_back {d : Addr} {o : Obj} {a b : List (Addr × Obj)} {g h : Heap} {L : Addr} (hD : Drop d a b) (hm : (d, o) ∈ a) (N : News g L h a) : News g L h ((d, o) :: b) := sub N (sc hm (fun p hp => (hD.sub p hp).1))
theorem old_facts {g h : Heap} {L ol : Addr} {no : Nat} {vo : List Value} {news rest : List (Addr × Obj)} (_N : News g L h news) (hm : (ol, listO vo no) ∈ news) (hD : Drop ol news rest) : (ol, listO vo no) ∈ news ∧ Drop ol news rest := ⟨hm, hD⟩
/-- behind the statement that gives the first a voter -/
inductive OldSet (g : Heap) (L : Addr) (m : Str → Option Value) (ol : Addr) (no : Nat) (rest : List (Addr × Obj)) (ν : Int → Int) (s s₂ : Shared) : Prop
  | mk (h' : Heap) (tk : Nat) (ρ : Int → Int) (vo : List Value) (e : s₂ = { s with heap := h', toks := tk }) (F : Fr g L h' m) (N : News g L h' ((ol, listO vo no) :: rest)) (hi : IntsAre vo [ρ 2, ρ 3, ρ 5, ρ 9]) (hr : Rol ρ) (h9 : ν 9 = ρ 9) (hv : ids (Cf.of ρ).v ≠ [])
theorem st_old {M : Model} {A : Around} {E : Value → Shared → Prop} {s : Shared} {env : Env} {st : Stmt} {Q : Flow → Shared → Prop} {g : Heap} {L ol : Addr} {no : Nat} {vo : List Value} {m : Str → Option Value} {news rest : List (Addr × Obj)} {ν : Int → Int} (_F : Fr g L s.heap m) (_hm : (ol, listO vo no) ∈ news) (_hD : Drop ol news rest)
    (h1 : wpAny M A (exec st env) (StEnd (OldSet g L m ol no rest ν s)) E s) (h2 : ∀ h' tk ρ vo, Fr g L h' m → News g L h' ((ol, listO vo no) :: rest) → IntsAre vo [ρ 2, ρ 3, ρ 5, ρ 9] → Rol ρ → ν 9 = ρ 9 → ids (Cf.of ρ).v ≠ [] → Q .next { s with heap := h', toks := tk }) : wpAny M A (exec st env) Q E s :=
  st_cut _ h1 fun s₂ hr => by obtain ⟨h', tk, ρ, vo, rfl, F, N, hi, hr, h9, hv⟩ := hr; exact h2 _ _ _ _ F N hi hr h9 hv
/-- behind the statement that lays the noise -/
inductive NoiseSet (g : Heap) (L : Addr) (m : Str → Option Value) (rest : List (Addr × Obj)) (s s₂ : Shared) : Prop
  | mk (h' : Heap) (tk : Nat) (sl : Addr) (vs : List Value) (n : Nat) (cs : List (Int × Int)) (tl : List (Addr × Obj)) (e : s₂ = { s with heap := h', toks := tk }) (F : Fr g L h' (fun y => if y = Str.ofString "noise" then some (.ref sl) else m y)) (N : News g L h' ((sl, listO vs n) :: (rest ++ Old tl))) (hs : StepsIn (Old tl) vs cs) (hc : Noise cs)
theorem st_noise {M : Model} {A : Around} {E : Value → Shared → Prop} {s : Shared} {env : Env} {st : Stmt} {Q : Flow → Shared → Prop} {g : Heap} {L n0 : Addr} {no : Nat} {vo : List Value} {m : Str → Option Value} {news rest : List (Addr × Obj)} (_F : Fr g L s.heap (fun y => if y = Str.ofString "noise" then some (.ref n0) else m y)) (_hm : (n0, listO vo no) ∈ news) (_hD : Drop n0 news rest)
    (h1 : wpAny M A (exec st env) (StEnd (NoiseSet g L m rest s)) E s) (h2 : ∀ h' tk sl vs n cs tl, Fr g L h' (fun y => if y = Str.ofString "noise" then some (.ref sl) else m y) → News g L h' ((sl, listO vs n) :: (rest ++ Old tl)) → StepsIn (Old tl) vs cs → Noise cs → Q .next { s with heap := h', toks := tk }) : wpAny M A (exec st env) Q E s :=
  st_cut _ h1 fun s₂ hr => by obtain ⟨h', tk, sl, vs, n, cs, tl, rfl, F, N, hs, hc⟩ := hr; exact h2 _ _ _ _ _ _ _ F N hs hc
theorem noise_pack {g h : Heap} {L : Addr} {x : Addr × Obj} {led rest tl : List (Addr × Obj)} (N : News g L h led) (hx : x ∈ led) (hr : ∀ p ∈ rest, p ∈ led) (ht : ∀ p ∈ tl, p ∈ led) : News g L h (x :: (rest ++ Old tl)) := by
  rw [old_eq]
  exact sub N (sc hx (List.forall_mem_append.mpr ⟨hr, ht⟩))
theorem steps_old {tl : List (Addr × Obj)} {vs : List Value} {cs : List (Int × Int)} (h : StepsIn tl vs cs) : StepsIn (Old tl) vs cs := by rw [old_eq]; exact h
theorem frame_over {g h : Heap} {L : Addr} {a : Str} {u v : Option Value} {m : Str → Option Value} (F : Fr g L h (fun y => if y = a then u else if y = a then v else m y)) : Fr g L h (fun y => if y = a then u else m y) := by
  have e : (fun y => if y = a then u else if y = a then v else m y) = fun y => if y = a then u else m y := by
    funext y
    by_cases z : y = a
    · rw [if_pos z, if_pos z]
    · rw [if_neg z, if_neg z, if_neg z]
  rw [← e]; exact F
theorem words_lawk_1 : True := by
  k_with "my rl" => ((with_reducible show wpAny _ _ (subscriptTail _ _ (Value.ref 334) (Value.int _ _)) _ _ _); k_dflt (refine' item_rl (listIn ?kxq7c357d ?kfq7c357d ?koq7c357d) ?k3q7c357d ?k4q7c357d ?k5q7c357d ?_ ?k8q7c357d; (case kxq7c357d => k_asm); (case kfq7c357d => k_asm); (case koq7c357d => k_is); (case k3q7c357d => l_ints); (case k4q7c357d => k_asm); (case k5q7c357d => k_asm); (case k8q7c357d => with_unfolding_all rfl); k_whole); intro x'9 t'9 hx'9)
  k_with "subscriptTail Name Call ref int" => ((with_reducible rename Flag "my rl" => hz9); walk_at "my rl")
  k_with "call ref" => ((with_reducible rename Flag "my ways" => hz9); (with_reducible show wpAny _ _ (call (Value.ref 386) _) _ _ _); refine Hold.out ?_)
  k_with "call ref" => ((with_reducible rename Flag "my ways" => hz9); (with_reducible show wpAny _ _ (call (Value.ref 391) _) _ _ _); refine Hold.out ?_)
  k_with "binaryOp Add ref ref" => ((with_reducible rename Flag "my new" => hz9); (with_reducible show wpAny _ _ (binaryOp _ (Value.ref _) (Value.ref _)) _ _ _); k_dflt (refine' add_any ?Fqa1d4fd ?Nqa1d4fd ?aqa1d4fd ?bqa1d4fd ?zqa1d4fd ?_; (case Fqa1d4fd => k_asm); (case Nqa1d4fd => k_asm); (case aqa1d4fd => k_mem); (case bqa1d4fd => k_mem); (case zqa1d4fd => exact new_room (by k_asm)); k_whole); intro D'9 h'9 F'9 N'9 l19; (try k_lt l19); (try k_sweep))
  k_with "compareOp NotIn int ref" => ((with_reducible rename Flag "my new" => hz9); k_dflt (refine' notin_T ?lqf1c6cd ?iqf1c6cd ?hqf1c6cd ?_; (case lqf1c6cd => exact News.isList (by k_asm) (by k_mem)); (case iqf1c6cd => k_asm); (case hqf1c6cd => k_asm)))
  k_with "compareOp NotIn int ref" => ((with_reducible rename Flag "my new" => hz9); k_dflt (refine' notin_F ?lq05f4a6 ?iq05f4a6 ?hq05f4a6 ?_; (case lq05f4a6 => exact News.isList (by k_asm) (by k_mem)); (case iq05f4a6 => k_asm); (case hq05f4a6 => k_asm)))
  k_with "binaryOp FloorDiv int int" => ((with_reducible rename Flag "my new" => hz9); (with_reducible refine div16_go ?h0q311ec1 ?h1q311ec1 ?_); (case h0q311ec1 => k_asm); (case h1q311ec1 => omega); intro a0'9 a4'9; k_whole)
  trivial
section
variable {w : World} {mean : ExcName → Option Value} {mg mb : Str → Option Value}
   {dp un : Nat} {gd : Option (List Code)} {cn : Str} {nm : List (Str × NameKind)} {ig ic : Bool} {mo : List (Str × Const)} {a : Addr} {ccd : Value} {cl : List (Str × Addr)} {outer : List Env} {A₀ : Around} {base h₀ : Heap} {L : Addr} {m : Str → Option Value} {s : Shared} {Q E : Value → Shared → Prop} {news : List (Addr × Obj)}
theorem counts_spec (H : At 40 w mean mg mb A₀ base h₀ outer L m s news dp un) {sl : Addr} {vs : List Value} {ns : List Int} {fa fb : Int → Bool} {ta tb : Tok} (hSc : h₀.IsList sl vs.toArray) (hIs : IntsAre vs ns) (hn : ns.length < 64)
   (ret : ∀ h' tk', Fr h₀ L h' m → News h₀ L h' news → Q (.bool true) { s with heap := h', toks := tk' }) :
   CallA w dp un gd cn nm ig ic mo L a ccd cl outer 391 [.int (mk fa) ta, .int (mk fb) tb, .ref sl] Q E s := by
  have z := zz
  revert z
  k_fill
  intro _
  w_on
  obtain ⟨B, F, X, N, T, hd, hu⟩ := H
  unfold CallA
  have nextOn : NextOn := ⟨⟩
  refine wpAny_call ?_
  have hO : ∀ p ∈ ([] : List (Addr × Obj)), p ∈ news := sn
  k_dflt walk_at "own cells"
  rename (∀ b o, Heap.get? _ b = some o → _ → _) => hX
  have hLg := keep_list hX F hSc (by simp)
  clear hX
  have flg : Flag "my compT" := ⟨⟩
  have flg : Flag "my bits" := ⟨⟩
  walk_at "my steps"
  (repeat ((with_reducible rename Flag _ => hz9); clear hz9))
  unfold Hold
  refine LCt.CompSrcT.range (by rfl) (by k_asm) (by k_asm) (by assumption) (by decide) (by rfl) (by rw [sizeLine_eq]; decide) ?_
  intro g'
  refine' kci_range (GP fa) (fun k' t' I' oI' C' oC' D' m' ys' l' h' tk' E' hlo' hhi' hI' hC' hx' F' N' off' ne' hMark' => ?turn) ?fin GF.grows
  case turn =>
    have hhi : k' < 4 := hhi'
    clear hhi'
    have flg : Flag "my role" := ⟨⟩
    have flg : Flag "my bits" := ⟨⟩
    walk_at "my steps"
    (repeat ((with_reducible rename Flag _ => hz9); clear hz9))
  case fin =>
    unfold KPfDone
    intro ys hys hyl
    have hys1 : IntsAre ys (ids fa) := by rw [← fold_ids]; exact hys
    clear hys
    have flg : Flag "my compT" := ⟨⟩
    walk_at "my steps"
    (repeat ((with_reducible rename Flag _ => hz9); clear hz9))
    unfold Hold
    refine LCt.CompSrcT.range (by rfl) (by k_asm) (by k_asm) (by assumption) (by decide) (by rfl) (by rw [sizeLine_eq]; decide) ?_
    intro g'
    refine' kci_range (GP fb) (fun k' t' I' oI' C' oC' D' m' ys' l' h' tk' E' hlo' hhi' hI' hC' hx' F' N' off' ne' hMark' => ?turn) ?fin GF.grows
    case turn =>
      have hhi : k' < 4 := hhi'
      clear hhi'
      have flg : Flag "my role" := ⟨⟩
      have flg : Flag "my bits" := ⟨⟩
      walk_at "my steps"
      (repeat ((with_reducible rename Flag _ => hz9); clear hz9))
    case fin =>
      unfold KPfDone
      intro ys2 hys2 hyl2
      have hys3 : IntsAre ys2 (ids fb) := by rw [← fold_ids]; exact hys2
      clear hys2
      have flg : Flag "my compG" := ⟨⟩
      walk_at "my steps"
      (repeat ((with_reducible rename Flag _ => hz9); clear hz9))
      unfold Hold
      refine LCg.CompSrc.range (by rfl) (by k_asm) (by k_asm) (by assumption) (by decide) (by rfl) (by rw [sizeLine_eq]; decide) ?_
      intro g'
      refine' cg_range (n := 16) (WinsR fa fb) ?h0 (fun i' t' I' oI' C' oC' D' m' ys' h' tk' E' hlt' hR' hC' hx' F' N' off' ne' => ?turn) ?fin
      case h0 => exact .nil
      case turn =>
        obtain ⟨g, hg⟩ := mk_of (a := (i' : Int)) (by omega) (by omega)
        rw [hg] at hx'
        have flg : Flag "my end" := ⟨⟩
        walk_at "my steps"
        (repeat ((with_reducible rename Flag _ => hz9); clear hz9))
        all_goals (refine ⟨rfl, hR'.step hg ?_⟩)
        all_goals first | contradiction | (unfold win winH; simp [*]; done)
      case fin =>
        intro ysw hW
        have flg : Flag "my if" := ⟨⟩
        walk_at "my steps"
        (repeat ((with_reducible rename Flag _ => hz9); clear hz9))
        unfold Hold
        rename Fr _ _ _ _ => Fa
        rename News _ _ _ _ => Na
        refine st_kept Fa Na ?_ ?_
        · walk_at "my steps"
          all_goals first | (exact ⟨rfl, _, _, rfl, by assumption, by assumption⟩) | skip
          · rename (((_ && _) != _) = true) => hq
            rename (cnt fa = 1) => hq1
            rw [single_yes hq1] at hq
            cases hq
          · rename (((_ && _) != _) = true) => hq
            rename (cnt fa ≠ 1) => hq1
            rw [show (cnt fa == 1) = false from beq_false_of_ne hq1, single_no hq1] at hq
            cases hq
        · clear Fa Na
          intro ha' tka Fa Na
          have flg : Flag "my gfor" := ⟨⟩
          have flg : Flag "my iter" := ⟨⟩
          walk_at "my steps"
          (repeat ((with_reducible rename Flag _ => hz9); clear hz9))
          unfold Hold
          rename Fr _ _ _ _ => Fb
          rename News _ _ _ _ => Nb
          rename IsRange _ _ _ _ _ _ _ _ => hR5
          rename IntsAre vs _ => hIs
          rename Below _ _ _ _ => Bg
          rename Frag.In _ _ => Xg
          rename Top _ _ _ _ _ _ => Tg
          rename Fr h₀ L _ m => FG
          rename (∀ p, p ∈ restOf _ _ → _) => hG
          obtain ⟨GG, hG0, hGo, hGu⟩ := cgood Bg Xg Tg hG FG hLg
          clear Bg Xg Tg hG FG hLg
          refine' counts_pack (w := w) (fa := fa) (fb := fb) (sl := sl) Fb Nb ?hm ?hc ?hn ?hd ?hv ?i1 ?i2 ?i3 ?i4 ?i5 ?i6 ?i7 ?i8 ?i9 ?i10 ?i11 ?i12 ?i13 ?i14 ?i15 ?_
          (case hm => walk_at "my frame")
          (case hc => walk_at "my memall")
          (case i1 => assumption)
          (case i2 => assumption)
          (case i3 => assumption)
          (case i4 => assumption)
          (case i5 => assumption)
          (case i6 => assumption)
          (case i7 => assumption)
          (case hn => walk_at "my memall")
          (case hd => k_mem)
          (case i8 => assumption)
          (case i9 => assumption)
          (case i10 => l_ints)
          (case i11 => assumption)
          (case i12 => assumption)
          (case i13 => assumption)
          (case i14 => assumption)
          (case i15 => assumption)
          (case hv => walk_at "my neall")
          clear Fb Nb
          revert N hIs hR5
          (repeat (rename News _ _ _ _ => hz; clear hz))
          (repeat (rename IntsAre _ _ => hz; clear hz))
          (repeat (rename Off _ _ => hz; clear hz))
          (repeat (rename IsRange _ _ _ _ _ _ _ _ => hz; clear hz))
          (repeat (rename (_ ≠ _ ∧ _) => hz; clear hz))
          (repeat (rename (_ < _ ∧ _) => hz; clear hz))
          (repeat (rename (List.length _ = _) => hz; clear hz))
          (repeat (rename (Obj.data _ = _) => hz; clear hz))
          (repeat (rename WinsR _ _ _ _ => hz; clear hz))
          (repeat (rename Obj.IsDictOf _ _ _ => hz; clear hz))
          intro N hIs hR5
          intro m1 x bd cf d lv lo ll ln l1 lw vd oa ob oo ow oy on oh od v1 vw vv vo vl vn n1 nw e1 e2 e3 e4 u1 u2 t1 t2 t3 t4 t5 w1 w2 w5 w6 Λ hΛ F1 hm hv N1 j1 j2 j3 j4 j5 j6 j7 j8 j9 j10 j11 j12 j13 j14 j15
          refine for_r (n := 5) (CInv1 w GG x cf sl vd Λ _) rfl hR5 (by decide) (by rfl) F1 N1 (CInv1.start hG0 hm j5 j6 j8) ?turn ?done
          case turn =>
            clear F1 N1 hR5 hm j5 j6 j8
            intro i g I t m nx h tk o hi ho hz11 Ft Nt hoff
            walk_at "my ice"
            obtain ⟨hGG, hfr, hnx, vt, oy, on, od, ty, tn, kvs, hy1, hy2, hn1, hn2, hd1, hd2, hva, hlen⟩ := hz11
            obtain ⟨B1, X1, T1, H1, FG1, S1⟩ := hGo g hGG
            have hoffΛ : ∀ p ∈ Λ, p.1 ≠ I := fun p hp => hoff p (hnx p hp)
            have hI5 : I ≠ _ := Ne.symm (hoff _ hy1)
            have hI6 : I ≠ _ := Ne.symm (hoff _ hn1)
            have hIv : I ≠ _ := Ne.symm (hoff _ hd1)
            replace Nt := sub Nt (sc (.head _) (sc (.tail _ hy1) (sc (.tail _ hn1) (sc (.tail _ hd1) (fun p hp => .tail _ (hnx p hp))))))
            have hne1 : ∀ p ∈ ((I, o) :: (_, oy) :: (_, on) :: Λ : List (Addr × Obj)), p.1 ≠ vd := ac hIv (ac (cell_off Nt (.tail _ (.head _)) (.tail _ (.tail _ (.tail _ (.head _)))) hy2 hd2) (ac (cell_off Nt (.tail _ (.tail _ (.head _))) (.tail _ (.tail _ (.tail _ (.head _)))) hn2 hd2) hv))
            obtain ⟨Λ1, hΛ1, hs1⟩ : ∃ Λ1 : List (Addr × Obj), Λ1 = _ ∧ ∀ p ∈ Λ1, p.1 ≠ vd := ⟨_, rfl, hne1⟩
            clear hne1
            obtain ⟨Λ2, hΛ2⟩ : ∃ Λ2 : List (Addr × Obj), Λ2 = (vd, od) :: Λ1 := ⟨_, rfl⟩
            rw [hΛ] at Nt
            replace Ft := fr_ovr hfr Ft
            clear hfr hnx hy1 hn1 hd1 hoff
            have flg : Flag "my compT" := ⟨⟩
            walk_at "my steps"
            (repeat ((with_reducible rename Flag _ => hz9); clear hz9))
            unfold Hold
            refine LCt.CompSrcT.range (by rfl) (by k_asm) (by k_asm) (by assumption) (by decide) (by rfl) (by rw [sizeLine_eq]; decide) ?_
            intro g'
            refine' ct_range (n := 16) (EndsR fa fb (isYes vt) (isNo vt)) ?h0 (fun i' t' I' oI' C' oC' D' m' ys' h' tk' E' hlt' hR' hC' hx' F' N' off' ne' => ?turn) ?fin
            case h0 => exact .nil
            case turn =>
              obtain ⟨q, hq⟩ := mk_of (a := (i' : Int)) (by omega) (by omega)
              rw [hq] at hx'
              have flg : Flag "my end" := ⟨⟩
              walk_at "my steps"
              (repeat ((with_reducible rename Flag _ => hz9); clear hz9))
              all_goals first | exact ⟨rfl, hR'.yes hq (by assumption)⟩ | exact ⟨rfl, hR'.no hq (by assumption)⟩
            case fin =>
              intro ye hE
              have flg : Flag "my if" := ⟨⟩
              walk_at "my steps"
              (repeat ((with_reducible rename Flag _ => hz9); clear hz9))
              unfold Hold
              rename Fr _ _ _ _ => Fa
              rename News _ _ _ _ => Na
              refine st_given (Str.ofString "want") (verdict fa fb (isYes vt) (isNo vt)) Fa Na ?_ ?_
              · have flg : Flag "my ends" := ⟨⟩
                walk_at "my steps"
                (repeat ((with_reducible rename Flag _ => hz9); clear hz9))
                · rw [verdict_won (by assumption)]
                  walk_at "my given"
                · rw [verdict_open (by assumption) (by assumption)]
                  walk_at "my given"
                · rw [verdict_lost (by assumption) (by assumption)]
                  walk_at "my given"
              · clear Fa Na
                intro ha tka tw Fa Na
                have flg : Flag "my if" := ⟨⟩
                walk_at "my steps"
                (repeat ((with_reducible rename Flag _ => hz9); clear hz9))
                unfold Hold
                refine st_kept Fa Na ?_ ?_
                · have flg : Flag "my tup" := ⟨⟩
                  walk_at "my steps"
                  (repeat ((with_reducible rename Flag _ => hz9); clear hz9))
                  walk_at "my kept"
                · clear Fa Na
                  intro hb tkb Fa Na
                  have flg : Flag "my if" := ⟨⟩
                  walk_at "my steps"
                  (repeat ((with_reducible rename Flag _ => hz9); clear hz9))
                  unfold Hold
                  refine st_keptN [(Str.ofString "turn", Value.int (i : Int) t), (Str.ofString "ballots", Value.ref x), (Str.ofString "config", Value.ref cf), (Str.ofString "script", Value.ref sl)] Fa (sub (news := Λ2) Na (by rw [hΛ2, hΛ1, hΛ]; walk_at "my memall")) ?_ ?_
                  · have flg : Flag "my gfor" := ⟨⟩
                    have flg : Flag "my iter" := ⟨⟩
                    walk_at "my steps"
                    (repeat ((with_reducible rename Flag _ => hz9); clear hz9))
                    · unfold Hold
                      rename Fr _ _ _ _ => Fc
                      rename News _ _ _ _ => Nc
                      rename IsRange _ _ _ _ _ _ _ _ => hR4
                      have hv3 : verdict fa fb (isYes vt) (isNo vt) = 3 := by assumption
                      have hp3 : 0 < mk fa + mk fb := by assumption
                      have hjo := jvote_others hv3 hp3
                      refine' others_pack (w := w) (led := Λ2) (names := [(Str.ofString "turn", Value.int (i : Int) t), (Str.ofString "ballots", Value.ref x), (Str.ofString "config", Value.ref cf), (Str.ofString "script", Value.ref sl)]) Fc Nc rfl ?hn ?hd ?hdo ?hlo ?hl ?hoff ?_
                      (case hn => walk_at "my frame")
                      (case hd => k_mem)
                      (case hdo => exact isDict_nil (by assumption))
                      (case hlo => assumption)
                      (case hl => rw [hΛ2, hΛ1, hΛ]; walk_at "my memall")
                      (case hoff => rw [hΛ2, hΛ1, hΛ]; walk_at "my neall")
                      clear Fc Nc
                      intro od2 o2 m2 Fc Nc hdo2 hlo2 hf2 hof2
                      rw [hΛ2, hΛ1, hΛ] at hof2
                      simp only [List.map_cons, List.map_nil] at hof2
                      refine for_r (n := 4) (OInv w GG [(Str.ofString "turn", Value.int (i : Int) t), (Str.ofString "ballots", Value.ref x), (Str.ofString "config", Value.ref cf), (Str.ofString "script", Value.ref sl)] od2 vt Λ2) rfl hR4 (by decide) (by rfl) Fc Nc ⟨hGG, fun p hp => .tail _ hp, hf2, o2, [], .head _, hdo2, OthersUpTo.nil⟩ ?turnO ?doneO
                      case turnO =>
                        clear Fc Nc hdo2 hf2
                        intro i2 g2 I2 t2 m3 nx2 h2 tk2 oi hi2 ho2 hz11 Ft2 Nt2 hoff2
                        walk_at "my ice"
                        obtain ⟨hGG2, hl2, hf2, o3, kvs3, hd3, hdo3, hlen3, hup3⟩ := hz11
                        obtain ⟨B2, X2, T2, -, -, S2⟩ := hGo g2 hGG2
                        have hI2 : I2 ≠ od2 := Ne.symm (hoff2 _ hd3)
                        have hoffL : ∀ p ∈ Λ2, p.1 ≠ I2 := fun p hp => hoff2 p (hl2 p hp)
                        have hi0 : (0 : Int) ≤ (i2 : Int) := Int.natCast_nonneg _
                        have hi4 : (i2 : Int) < 4 := by omega
                        replace Nt2 := sub Nt2 (sc (.head _) (sc (.tail _ hd3) (fun p hp => .tail _ (hl2 p hp))))
                        rw [hΛ2, hΛ1, hΛ] at Nt2
                        replace Ft2 := fr_ovr hf2 Ft2
                        clear hf2 hl2 hd3 hoff2
                        have flg : Flag "my role" := ⟨⟩
                        walk_at "my steps"
                        (repeat ((with_reducible rename Flag _ => hz9); clear hz9))
                        rename Fr _ _ _ _ => Fe
                        rename News _ _ _ _ => Ne
                        exact o_end hGG2 Fe Ne (by k_mem) (by k_mem) (by rw [hΛ2, hΛ1, hΛ]; walk_at "my memall") (by walk_at "my frame") hoffL hI2 (by assumption) (OthersUpTo.step ⟨hlen3, hup3⟩ hi2)
                      case doneO =>
                        clear Fc Nc hdo2 hf2
                        intro g2 m3 nx2 h2 tk2 hz5 Ft2 Nt2
                        walk_at "my ice"
                        obtain ⟨hGG2, hl2, hf2, o3, kvs3, hd3, hdo3, hup3⟩ := hz5
                        obtain rfl := hGu _ _ hGG hGG2
                        have hall := hup3.all
                        replace Nt2 := sub Nt2 (sc hd3 hl2)
                        rw [hΛ2, hΛ1, hΛ] at Nt2
                        replace Ft2 := fr_ovr hf2 Ft2
                        clear hf2 hl2 hd3
                        walk_at "my steps"
                        · exact absurd hjo (by assumption)
                        · exact ⟨rfl, _, _, _, rfl, by assumption, by (rename News _ _ _ _ => NZ; rw [hΛ2, hΛ1, hΛ]; exact sub NZ (by walk_at "my memall")), by walk_at "my frame"⟩
                    · exact ⟨rfl, _, _, _, rfl, by assumption, by (rename News _ _ _ _ => NZ; rw [hΛ2, hΛ1, hΛ]; exact sub NZ (by walk_at "my memall")), by walk_at "my frame"⟩
                    · exact ⟨rfl, _, _, _, rfl, by assumption, by (rename News _ _ _ _ => NZ; rw [hΛ2, hΛ1, hΛ]; exact sub NZ (by walk_at "my memall")), by walk_at "my frame"⟩
                  · clear Fa Na
                    intro hc tkc mc Fa Na hfc
                    rw [hΛ2, hΛ1, hΛ] at Na
                    replace Fa := fr_ovr hfc Fa
                    clear hfc
                    have flg : Flag "my if" := ⟨⟩
                    walk_at "my steps"
                    unfold Hold
                    refine wpAny_If ?_
                    have flg : Flag "my rec" := ⟨⟩
                    have flg : Flag "my role" := ⟨⟩
                    have flg : Flag "my call" := ⟨⟩
                    walk_at "my steps"
                    · unfold Hold
                      rename ((_ : Int) < 8) => h8
                      refine' record_go (news0 := Λ1) ⟨?Bqat, ?Fqat, ?Xqat, ?Nqat, ?Tqat, ?dqat, ?uqat⟩ ?hs hs1 ?h1 ?h2 ?h3 (by assumption) hd2 (by omega) ?_
                      walk_at "my at"
                      (case hs => rw [hΛ1, hΛ]; walk_at "my memall")
                      (case h1 => rw [hΛ1, hΛ]; k_mem)
                      (case h2 => rw [hΛ1, hΛ]; k_mem)
                      (case h3 => k_mem)
                      intro o' h' tk' F' N' hd'
                      rw [hΛ1, hΛ] at N'
                      have hva' := heard_dict8 h8 hva
                      have hlen' := heard_len8 h8 hlen
                      walk_at "my steps"
                      unfold Hold
                      refine wpAny_If ?_
                      walk_at "my steps"
                      · skip
                        rename Fr _ _ _ _ => Fe
                        rename News _ _ _ _ => Ne
                        rw [heard_old (by assumption)] at hva'
                        exact c1_end hGG Fe Ne (by k_mem) (by k_mem) (by k_mem) (by k_mem) (by rw [hΛ]; walk_at "my memall") (by walk_at "my frame") hoffΛ hI5 hI6 hIv hy2 hn2 hd' hva' hlen'
                      · unfold Hold
                        refine wpAny_If ?_
                        walk_at "my steps"
                        · rename ((_ : Int) < 4) => h4
                          rw [decide_eq_true h4] at hva' hlen' hd'
                          have mm := mask_yes (vt := vt) (by assumption) h8 h4 (by assumption)
                          rename Fr _ _ _ _ => Fe
                          rename News _ _ _ _ => Ne
                          rename (Obj.data _ = .cell (some (.int (_ + _) _))) => hc2
                          rw [mm.1] at hc2
                          rw [mm.2] at hn2
                          exact c1_end hGG Fe Ne (by k_mem) (by k_mem) (by k_mem) (by k_mem) (by rw [hΛ]; walk_at "my memall") (by walk_at "my frame") hoffΛ hI5 hI6 hIv hc2 hn2 hd' hva' hlen'
                        · rename (¬ (_ : Int) < 4) => h4
                          rw [decide_eq_false h4] at hva' hlen' hd'
                          have mm := mask_no (vt := vt) (by assumption) h8 h4 (by assumption)
                          rename Fr _ _ _ _ => Fe
                          rename News _ _ _ _ => Ne
                          rename (Obj.data _ = .cell (some (.int (_ + _) _))) => hc2
                          rw [mm.1] at hc2
                          rw [mm.2] at hy2
                          exact c1_end hGG Fe Ne (by k_mem) (by k_mem) (by k_mem) (by k_mem) (by rw [hΛ]; walk_at "my memall") (by walk_at "my frame") hoffΛ hI5 hI6 hIv hy2 hc2 hd' hva' hlen'
                    · skip
                      rename Fr _ _ _ _ => Fe
                      rename News _ _ _ _ => Ne
                      exact c1_end hGG Fe Ne (by k_mem) (by k_mem) (by k_mem) (by k_mem) (by rw [hΛ]; walk_at "my memall") (by walk_at "my frame") hoffΛ hI5 hI6 hIv hy2 hn2 hd2 hva (Nat.le_succ_of_le hlen)
          case done =>
            clear F1 N1 hR5 hm j5 j6 j8
            intro g m nx h tk hz5 Ft Nt
            walk_at "my ice"
            obtain ⟨hGG, hfr, hnx, -⟩ := hz5
            obtain ⟨B1, X1, T1, H1, FG1, S1⟩ := hGo g hGG
            replace Nt := sub Nt hnx
            rw [hΛ] at Nt
            replace Ft := fr_ovr hfr Ft
            clear hfr hnx
            have flg : Flag "my gfor" := ⟨⟩
            have flg : Flag "my iter" := ⟨⟩
            walk_at "my steps"
            (repeat ((with_reducible rename Flag _ => hz9); clear hz9))
            unfold Hold
            rename Fr g _ _ _ => Fb
            rename News g _ _ _ => Nb
            rename IsRange _ _ _ _ _ _ _ _ => hR5
            rename (Obj.data _ = Data.cell (some (Value.ref _))) => hcH
            refine' acked_pack (w := w) (cf := cf) (sl := sl) (lw := lw) Fb Nb ?hm ?hh hcH ?hhl ?hint ?hd ?hdo ?hlo ?hs ?ha ?hb ?hne ?_
            (case hm => walk_at "my frame")
            (case hh => k_mem)
            (case hhl => k_mem)
            (case hint => l_ints)
            (case hd => k_mem)
            (case hdo => exact isDict_nil (by assumption))
            (case hlo => assumption)
            (case hs => walk_at "my memall")
            (case ha => walk_at "my neall")
            (case hb => walk_at "my neall")
            (case hne => k_ne)
            clear Fb Nb hcH
            revert hR5
            (repeat (rename News g _ _ _ => hz; clear hz))
            (repeat (rename Fr g _ _ _ => hz; clear hz))
            (repeat (rename (_ < _ ∧ _) => hz; clear hz))
            (repeat (rename (List.length _ = _) => hz; clear hz))
            (repeat (rename Obj.IsDictOf _ _ _ => hz; clear hz))
            (repeat (rename IsRange _ _ _ _ _ _ _ _ => hz; clear hz))
            clear hv j7 hΛ Λ B1 X1 T1 H1 FG1 S1 m1
            intro hR5 ad hl oh2 o2 vh nh m2 Λ hΛ F1 N1 hm k2 k3 k4 k5 k6 k7 k8
            rw [hΛ] at k6 k7
            simp only [List.map_cons, List.map_nil] at k6 k7
            refine for_r (n := 5) (CInv2 w GG cf sl ad hl Λ) rfl hR5 (by decide) (by rfl) F1 N1 ⟨hGG, hm, fun p hp => .tail _ (.tail _ hp), fun _ => 0, vh, nh, o2, [], .head _, k3, .tail _ (.head _), k4, fun j _ => .inr ⟨rfl, rfl⟩, fun j _ => ⟨Int.le_refl 0, (by decide : (0 : Int) < 7)⟩, Nat.le_refl _⟩ ?turn2 ?done2
            case turn2 =>
              clear F1 N1 hR5 hm k3 k4 hGG
              intro i g I t m nx h tk o hi ho hz11 Ft Nt hoff
              walk_at "my ice"
              obtain ⟨hGG, hfr, hnx, ak, vh, nh, oa2, kvs, hy1, hy2, hd1, hd2, hva, hak, hlen⟩ := hz11
              obtain ⟨B1, X1, T1, H1, FG1, S1⟩ := hGo g hGG
              have hoffΛ : ∀ p ∈ Λ, p.1 ≠ I := fun p hp => hoff p (hnx p hp)
              have hIh : I ≠ hl := Ne.symm (hoff _ hy1)
              have hIa : I ≠ ad := Ne.symm (hoff _ hd1)
              replace Nt := sub Nt (sc (.head _) (sc (.tail _ hy1) (sc (.tail _ hd1) (fun p hp => .tail _ (hnx p hp)))))
              rw [hΛ] at Nt
              replace Ft := fr_ovr hfr Ft
              clear hfr hnx hy1 hd1 hoff
              have flg : Flag "my if" := ⟨⟩
              walk_at "my steps"
              (repeat ((with_reducible rename Flag _ => hz9); clear hz9))
              unfold Hold
              rename Fr g _ _ _ => Fa
              rename News g _ _ _ => Na
              refine st_givenN [(Str.ofString "turn", Value.int (i : Int) t), (Str.ofString "config", Value.ref cf), (Str.ofString "script", Value.ref sl), (Str.ofString "acked", Value.ref ad)] (Str.ofString "best") (bestI fa fb ak) Fa Na ?_ ?_
              · have flg : Flag "my nest" := ⟨⟩
                walk_at "my steps"
                (repeat ((with_reducible rename Flag _ => hz9); clear hz9))
                · unfold Hold
                  refine ⟨_, _, _, _, _, 7, _, TriedR fa fb ak, rfl, rfl, by k_asm, by k_asm, by assumption, by decide, by rfl, by rw [sizeLine_eq]; decide, .nil, ?turn3, ?fin3⟩
                  case turn3 =>
                    intro i3 t3 I3 oI3 C3 oC3 c3 oc3 D3 ys3 h3 tk3 E3 hi3 hR3 hoc3 F3 N3
                    have flg : Flag "my compT" := ⟨⟩
                    walk_at "my steps"
                    (repeat ((with_reducible rename Flag _ => hz9); clear hz9))
                    unfold Hold
                    refine LCt.CompSrcT.range (by rfl) (by k_asm) (by k_asm) (by assumption) (by decide) (by rfl) (by rw [sizeLine_eq]; decide) ?_
                    intro g4
                    refine' ct_range (n := 4) (BitsR (fun j => decide ((i3 : Int) ≤ ak j))) ?h04 (fun i4 t4 I4 oI4 C4 oC4 D4 m4 ys4 h4 tk4 E4 hlt4 hR4 hC4 hx4 F4 N4 off4 ne4 => ?turn4) ?fin4
                    case h04 => exact .nil
                    case turn4 =>
                      have hi0 : (0 : Int) ≤ (i4 : Int) := Int.natCast_nonneg _
                      have hi4 : (i4 : Int) < 4 := by omega
                      have flg : Flag "my end" := ⟨⟩
                      have flg : Flag "my role" := ⟨⟩
                      walk_at "my steps"
                      (repeat ((with_reducible rename Flag _ => hz9); clear hz9))
                      all_goals first | exact ⟨rfl, hR4.yes (decide_eq_true (by assumption))⟩ | exact ⟨rfl, hR4.no (decide_eq_false (by assumption))⟩ | skip
                    case fin4 =>
                      intro yb hB
                      have flg : Flag "my bits" := ⟨⟩
                      walk_at "my steps"
                      (repeat ((with_reducible rename Flag _ => hz9); clear hz9))
                      · exact ⟨_, _, rfl, by assumption, by (rename News _ _ _ _ => NZ; exact sub NZ (by walk_at "my memall")), hR3.yes (by assumption)⟩
                      · exact ⟨_, _, rfl, by assumption, by (rename News _ _ _ _ => NZ; exact sub NZ (by walk_at "my memall")), hR3.no (by assumption)⟩
                  case fin3 =>
                    intro ysT DT hT tkT hRT FT NT
                    have flg : Flag "my last" := ⟨⟩
                    walk_at "my steps"
                    (repeat ((with_reducible rename Flag _ => hz9); clear hz9))
                    rw [← bestI_some (fa := fa) (fb := fb) (ak := ak) (by assumption)] at *
                    walk_at "my givenN"
                · rw [bestI_none (by assumption)]
                  walk_at "my givenN"
              · clear Fa Na
                intro ha tka mb2 tb2 Fa Na hfb
                replace Fa := fr_ovr hfb Fa
                clear hfb
                have flg : Flag "my if" := ⟨⟩
                walk_at "my steps"
                (repeat ((with_reducible rename Flag _ => hz9); clear hz9))
                unfold Hold
                refine st_kept Fa Na ?_ ?_
                · walk_at "my steps"
                  · rename JIdx _ _ _ _ => hJ
                    exact absurd (hJ.best hak) (by assumption)
                  · walk_at "my kept"
                · clear Fa Na
                  intro hb tkb Fa Na
                  have flg : Flag "my if" := ⟨⟩
                  walk_at "my steps"
                  (repeat ((with_reducible rename Flag _ => hz9); clear hz9))
                  unfold Hold
                  refine wpAny_If ?_
                  have flg : Flag "my role" := ⟨⟩
                  have flg : Flag "my call" := ⟨⟩
                  have flg : Flag "my held" := ⟨⟩
                  walk_at "my steps"
                  (repeat ((with_reducible rename Flag _ => hz9); clear hz9))
                  · rename ((_ : Int) < 28) => h28
                    rename Fr g _ _ _ => Fe
                    rename News g _ _ _ => Ne
                    have hak' := upd28 (by assumption) h28 hak
                    exact c2_end hGG Fe Ne (by k_mem) (by k_mem) (by k_mem) (by rw [hΛ]; walk_at "my memall") (by walk_at "my frame") hoffΛ hIh hIa (by assumption) (by assumption) (acked_upd hva) hak' (Nat.le_trans stored_len (Nat.succ_le_succ hlen))
                  · rename Fr g _ _ _ => Fe
                    rename News g _ _ _ => Ne
                    exact c2_end hGG Fe Ne (by k_mem) (by k_mem) (by k_mem) (by rw [hΛ]; walk_at "my memall") (by walk_at "my frame") hoffΛ hIh hIa hy2 hd2 hva hak (Nat.le_succ_of_le hlen)
            case done2 =>
              clear F1 N1 hR5 hm k3 k4 hGG
              intro g m nx h tk hz5 Ft Nt
              walk_at "my ice"
              obtain ⟨hGG, hfr, hnx, -⟩ := hz5
              obtain rfl := hGu _ _ hG0 hGG
              obtain ⟨B1, X1, T1, H1, FG1, S1⟩ := hGo _ hG0
              replace Nt := sub Nt hnx
              rw [hΛ] at Nt
              replace Ft := fr_ovr hfr Ft
              clear hfr hnx
              rename News h₀ L s.heap news => N0
              walk_at "my steps"
              rename News _ _ _ (restOf _ _) => NR
              have NA := back_all (own' := []) N0 hO (fun _ h => nomatch h) NR (an)
              exact ret _ _ (by assumption) NA
end
section
variable {w : World} {mean : ExcName → Option Value} {mg mb : Str → Option Value}
   {dp un : Nat} {gd : Option (List Code)} {cn : Str} {nm : List (Str × NameKind)} {ig ic : Bool} {mo : List (Str × Const)} {a : Addr} {ccd : Value} {cl : List (Str × Addr)} {outer : List Env} {A₀ : Around} {base h₀ : Heap} {L : Addr} {m : Str → Option Value} {s : Shared} {Q E : Value → Shared → Prop} {news : List (Addr × Obj)}
theorem counts_go (H : At 40 w mean mg mb A₀ base h₀ outer L m s news dp un) {sl : Addr} {vs : List Value} {ns : List Int} {x y : Int} {ta tb : Tok} (hSc : h₀.IsList sl vs.toArray) (hIs : IntsAre vs ns) (hn : ns.length < 64) (h1 : 0 ≤ x) (h2 : x < 16) (h3 : 0 ≤ y) (h4 : y < 16)
   (ret : ∀ h' tk', Fr h₀ L h' m → News h₀ L h' news → Q (.bool true) { s with heap := h', toks := tk' }) :
   CallA w dp un gd cn nm ig ic mo L a ccd cl outer 391 [.int x ta, .int y tb, .ref sl] Q E s := by
  obtain ⟨fa, rfl⟩ := mk_of h1 h2
  obtain ⟨fb, rfl⟩ := mk_of h3 h4
  exact counts_spec H hSc hIs hn ret
end

set_option maxHeartbeats 16000000 in
theorem law_holds : PySem.Challenge.rw_no0410_01.Holds := hd_in (by rfl) (by rfl) (by rfl) (by w_on; w_witness2) (by
  w_on
  k_fill
  intro w s₀ s₁ mg mb G Y fa o pm cd doc dV kV ho hd hcd hD hmg hg args vals as hpre hlay hrd hwl hlo
  have KX := kIn_of Y
  have X := (Ground.X G).1
  have V := (Ground.X G).2
  have GL := glob_more (Ground.glob G (by decide +kernel) (by decide +kernel)) V
  refine Ground.open G ?_
  intro T B D TE TW
  refine guard_noD D (by decide +kernel) ?_
  clear D
  obtain ⟨_, _, M⟩ := bmod_of_top T
  have TA := at_of_top T
  obtain ⟨_, _, he, B0⟩ := based_of_top T rfl hmg ho hd
  have he' : cd = _ := he
  subst he'
  clear he
  clear hmg
  wrow_args hpre hlay hrd hwl hlo
  all_goals (
    first | refine callC_kw (enter_call ?_) | refine enter_call ?_ | refine callC_kw (enter_callW ?_) | refine enter_callW ?_ | w_how
    w_top on
    try refine codeAny_mono ?_ (fun _ _ g => GoodW.toG g)
    have K0 := below_caller (Top.heap T)
    w_call any ho hd hcd hD T F
    clear hd TA
    k_drop
    skip)
  have hn64 : List.length _ < 64 := Nat.lt_succ_of_le (Int.ofNat_le.mp (Int.not_lt.mp (by assumption)))
  have flg : Flag "my compG" := ⟨⟩
  walk_at "my steps"
  (repeat ((with_reducible rename Flag _ => hz9); clear hz9))
  unfold Hold
  refine LCg.CompSrc.range (by rfl) (by k_asm) (by k_asm) (by assumption) (by decide) (by rfl) (by rw [sizeLine_eq]; decide) ?_
  intro g'
  refine' cg_range (n := 4) RolesR ?h0 (fun i' t' I' oI' C' oC' D' m' ys' h' tk' E' hlt' hR' hC' hx' F' N' off' ne' => ?turn) ?fin
  case h0 => exact RolesR.nil
  case turn =>
    have hi0 : (0 : Int) ≤ (i' : Int) := Int.natCast_nonneg _
    have hi4 : (i' : Int) < 64 := by omega
    have flg : Flag "my end" := ⟨⟩
    have flg : Flag "my rl" := ⟨⟩
    walk_at "my steps"
    (repeat ((with_reducible rename Flag _ => hz9); clear hz9))
    all_goals exact ⟨rfl, hR'.step (by assumption)⟩
  case fin =>
    intro ys hys
    obtain ⟨ρ, hρ, hy⟩ := hys.four
    have hyl := hys.len
    clear hys
    have flg : Flag "my compG" := ⟨⟩
    walk_at "my steps"
    (repeat ((with_reducible rename Flag _ => hz9); clear hz9))
    unfold Hold
    refine LCg.CompSrc.range (by rfl) (by k_asm) (by k_asm) (by assumption) (by decide) (by rfl) (by rw [sizeLine_eq]; decide) ?_
    intro g2
    refine' cg_range (n := 3) RolesR ?h02 (fun i' t' I' oI' C' oC' D' m' ys' h' tk' E' hlt' hR' hC' hx' F' N' off' ne' => ?turn2) ?fin2
    case h02 => exact RolesR.nil
    case turn2 =>
      have hi0 : (0 : Int) ≤ (i' : Int) := Int.natCast_nonneg _
      have hi4 : (i' : Int) < 3 := by omega
      have flg : Flag "my end" := ⟨⟩
      have flg : Flag "my rl" := ⟨⟩
      walk_at "my steps"
      (repeat ((with_reducible rename Flag _ => hz9); clear hz9))
      all_goals exact ⟨rfl, hR'.step (by assumption)⟩
    case fin2 =>
      intro ys2 hys2
      have hyl2 := hys2.len
      have h00 : (0 : Int) ≤ 0 := Int.le_refl 0
      have h04 : (0 : Int) < 4 := by decide
      obtain ⟨ν, hν, h9, hν3⟩ := hys2.three hρ
      rename (Heap.IsList _ _ _) => hLs
      have flg : Flag "my new" := ⟨⟩
      have flg : Flag "my if" := ⟨⟩
      walk_at "my steps"
      (repeat ((with_reducible rename Flag _ => hz9); clear hz9))
      unfold Hold
      rename Fr _ _ _ _ => Fa
      rename News _ _ _ _ => Na
      obtain ⟨hm, hD⟩ := old_facts (vo := ys) Na (by k_mem) (by walk_at "my drop")
      refine st_old (ν := ν) Fa hm hD ?h1 ?h2
      case h1 =>
        by_cases hv1 : (1 : Int) ∈ [ρ 2, ρ 3, ρ 5, ρ 9]
        case pos =>
          have flg : Flag "my new" := ⟨⟩
          walk_at "my steps"
          (repeat ((with_reducible rename Flag _ => hz9); clear hz9))
          exact ⟨rfl, _, _, ρ, _, rfl, by assumption, drop_back hD hm (by assumption), by assumption, hρ, h9, some_votes hv1⟩
        case neg =>
          have flg : Flag "my new" := ⟨⟩
          have flg : Flag "my held" := ⟨⟩
          walk_at "my steps"
          (repeat ((with_reducible rename Flag _ => hz9); clear hz9))
          exact ⟨rfl, _, _, upd ρ (idAt 0) 1, _, rfl, by assumption, by (rename News _ _ _ _ => NZ; exact sub NZ (sc (by k_mem) (by walk_at "my memall"))), by assumption, first_rol0 hρ, h9, first_votes0 ρ⟩
      case h2 =>
        clear hm hD Fa Na
        intro ha tka ρ' vo' Fa Na hy' hρ' h9' hvv
        have flg : Flag "my call" := ⟨⟩
        have flg : Flag "my role" := ⟨⟩
        have flg : Flag "my if" := ⟨⟩
        walk_at "my steps"
        (repeat ((with_reducible rename Flag _ => hz9); clear hz9))
        unfold Hold
        rename Fr _ _ _ _ => Fb
        rename News _ _ _ _ => Nb
        obtain ⟨hm, hD⟩ := old_facts (vo := []) Nb (by k_mem) (by walk_at "my drop")
        refine st_noise Fb hm hD ?h3 ?h4
        case h3 =>
          have flg : Flag "my call" := ⟨⟩
          have flg : Flag "my role" := ⟨⟩
          have flg : Flag "my new" := ⟨⟩
          walk_at "my steps"
          (repeat ((with_reducible rename Flag _ => hz9); clear hz9))
          · exact ⟨rfl, _, _, _, _, _, [(_, _)], [(_, _)], rfl, by first | assumption | exact frame_over (by assumption), by (rename News _ _ _ _ => NZ; exact noise_pack NZ (by k_mem) (by walk_at "my memall") (by walk_at "my memall")), steps_old (StepsIn.cons (.head _) StepsIn.nil), noise_one (by assumption) (by assumption)⟩
          · exact ⟨rfl, _, _, _, _, _, [], [], rfl, by assumption, by (rename News _ _ _ _ => NZ; exact noise_pack NZ hm (fun p hp => (hD.sub p hp).1) (List.forall_mem_nil _)), steps_old StepsIn.nil, .inl rfl⟩
        case h4 =>
          clear hm hD Fb Nb
          intro hb tkb sl vs' ns' cs' tl' Fb Nb hst hcs
          simp only [List.cons_append, List.nil_append] at Nb
          have flg : Flag "my call" := ⟨⟩
          have flg : Flag "my ways" := ⟨⟩
          walk_at "my steps"
          unfold Hold
          k_dflt (refine' ways_spec (ρ := ρ') (ν := ν) ⟨?Bqat, ?Fqat, ?Xqat, ?Nqat, ?Tqat, ?dqat, ?uqat⟩ ?XB ?TB ?D ?h1 ?i1 ?h2 ?i2 ?h3 ?hst ?hcs hρ' hν h9' hvv ?hw ?hw2 ?_)
          k_dflt walk_at "my at"
          (case XB => assumption)
          (case TB => assumption)
          (case D => exact dicts_nil _)
          (case h1 => k_mem)
          (case i1 => assumption)
          (case h2 => k_mem)
          (case i2 => exact hν3 _)
          (case h3 => k_mem)
          (case hst => exact StepsIn.at (by k_asm) (StepsIn.mono hst (by walk_at "my lam")))
          (case hcs => exact hcs)
          (case hw => assumption)
          (case hw2 => assumption)
          intro h0' h' tk' kT F' N' B' X' T' D'
          have hL2 := isList_turn hLs kT
          walk_at "my steps"
          unfold Hold
          k_dflt (refine' counts_go ⟨?Bqat, ?Fqat, ?Xqat, ?Nqat, ?Tqat, ?dqat, ?uqat⟩ hL2 ?hI hn64 ?h1 ?h2 ?h3 ?h4 ?_)
          k_dflt walk_at "my at"
          (case hI => assumption)
          (case h1 => omega)
          (case h2 => omega)
          (case h3 => assumption)
          (case h4 => assumption)
          intro h'' tk'' F'' N''
          walk_at "my steps"
          have FF := fr_base F'' B'.stays (Nat.le_refl _)
          refine goodW_bool FF (by assumption) (raisesW_false ?_) ?_
          · first | (intro _; rfl) | wrow_none_raised
          · first | rfl | wrow_post)
end Mine
theorem PySem.Challenge.cw_no0410_01_holds : PySem.Challenge.rw_no0410_01.Holds :=
  Mine.law_holds
