import PyProof.Rows.All
import KE.BitLaws
import KE.BytesMake
import KE.BytesMul
import Wide.FinOn
import OpenK.AllK
import Wide.All
import PySem.Challenge.RW_no0427_01
open PySem PySem.W PySem.Calls PyProof.Rows
set_option Elab.async false
set_option maxRecDepth 100000
set_option linter.all false
set_option maxHeartbeats 0
set_option genSizeOf false
namespace Mine
section
noncomputable section
def stmtAt (i : Nat) : Stmt := PySem.Challenge.pw_no0427_01.main.body.getD i (.Pass default)
def methAt (i j : Nat) : Stmt := match stmtAt i with
  | .ClassDef _ _ _ body _ _ _ _ _ _ _ => body.getD j (.Pass default)
  | s => s
def sName : Stmt → Str | .FunctionDef n _ _ _ _ _ _ _ _ _ => n | _ => Str.empty
def sParams : Stmt → Arguments | .FunctionDef _ a _ _ _ _ _ _ _ _ => a | _ => ⟨[], [], none, [], [], none, []⟩
def sBody : Stmt → List Stmt | .FunctionDef _ _ b _ _ _ _ _ _ _ => b | _ => []
def sScope : Stmt → Scope | .FunctionDef _ _ _ _ _ _ s _ _ _ => s | _ => { kind := .function, names := [], isGenerator := false, isCoroutine := false, more := [] }
noncomputable def fnObj (st : Stmt) (qual : Str) (cd : Addr) (pm : Str) (t : Tok) : Obj :=
  { cls := .type "function", data := .func { name := sName st, qualname := qual, params := sParams st, body := .stmts (sBody st), scope := sScope st, globals := mainGlobals, closure := [], defaults := .none, kwdefaults := .none, pyModule := .str pm t, code := .ref cd, builtins := builtinsNs } }
noncomputable def fnObj0 (st : Stmt) (qual : Str) (g : Addr) : Obj :=
  { cls := .none, data := .func { name := sName st, qualname := qual, params := sParams st, body := .stmts (sBody st), scope := sScope st, globals := g, closure := [], defaults := .none, kwdefaults := .none } }
def runT (ok : Thread → Bool) (go : SharedT → Thread → Option (SharedT × Thread)) (thr : Thread → Bool) : Nat → SharedT → Thread → Option SharedT
  | 0, _, _ => none
  | n + 1, s, t => match thr t with
    | true => some s
    | false => match ok t with
      | false => none
      | true => match go s t with
        | some (s', t') => runT ok go thr n s' t'
        | none => none
theorem topRun_of {tb : String → Option Builtin} {p : Program} {w : World} {n₀ : Nat} {ann : Option Value} : ∀ {n : Nat} {s s' : SharedT} {t : Thread},
    runT (stepOk n₀ ann) (stepT (denote tb) p w) through n s t = some s' → topRun tb p w n₀ ann n s.abs t = some s'.abs
  | 0, _, _, _, h => by cases h
  | n + 1, s, s', t, h => by
    unfold runT at h
    unfold topRun
    cases ht : through t with
    | true => rw [ht] at h; cases h; rfl
    | false =>
      rw [ht] at h
      cases hk : stepOk n₀ ann t with
      | false => rw [hk] at h; cases h
      | true =>
        rw [hk] at h
        cases hs : stepT (denote tb) p w s t with
        | none => rw [hs] at h; cases h
        | some r => obtain ⟨s₂, t₂⟩ := r; rw [hs] at h; rw [stepT_spec hs]; exact topRun_of h
def bootT (P : Params) : BT :=
  .node (boot_o_0 P) (.node (boot_o_1 P) (.node (boot_o_3 P) (.node (boot_o_7 P) .nil .nil) .nil) (.node (boot_o_5 P) (.node (boot_o_9 P) .nil .nil) .nil)) (.node (boot_o_2 P) (.node (boot_o_4 P) (.node (boot_o_8 P) .nil .nil) .nil) (.node (boot_o_6 P) (.node (boot_o_10 P) .nil .nil) .nil))
noncomputable def cu : Str := "/claim/cut.py"
noncomputable def tp (l : Array Value) : Obj := { cls := .type "tuple", data := .seq l }
noncomputable def co (l : Array Value) : Obj := { cls := .type "code", data := .fields l }
noncomputable def fl (l : Array Value) : Obj := { cls := .none, data := .fields l }
noncomputable def bf (l : Array Value) : Obj := { cls := .type "builtin_function_or_method", data := .fields l }
noncomputable def sp (l : Array Value) : Obj := { cls := .type "super", data := .fields l }
noncomputable def gd (l : Array Value) : Obj := { cls := .type "getset_descriptor", data := .fields l }
noncomputable def ent (P : Params) (k : Str) (t : Tok) (v : Value) : DictEntry := { hash := PyData.keyHash P k, key := .str k t, val := v }
def o2 (P : Params) : Obj := { cls := .none, data := .dict #[ent P "type.__subclasses__.Exception.0" 212 (.int 31 0), ent P "type.__subclasses__.Exception.n" 213 (.int 1 0)] 2 }
def o3 (P : Params) : Obj := { cls := .type "dict", data := .dict #[ent P "__name__" 165 (.str "law_no0427_01" 1348), ent P "__doc__" 166 (.none), ent P "__package__" 167 (.none), ent P "__loader__" 168 (.builtin "__main__.__loader__#op\x61que"), ent P "__spec__" 169 (.none), ent P "__annotations__" 170 (.ref 6), ent P "__builtins__" 171 (.ref 4), ent P "__file__" 173 (.str cu 172), ent P "__cached__" 174 (.none), ent P "_wall" 193 (.ref 21), ent P "KeepError" 215 (.ref 31), ent P "StoreError" 231 (.ref 44), ent P "BadOption" 247 (.ref 56), ent P "RaftError" 263 (.ref 68), ent P "Compacted" 279 (.ref 80), ent P "Unavailable" 295 (.ref 92), ent P "SnapOutOfDate" 311 (.ref 104), ent P "SnapNotReady" 327 (.ref 116), ent P "LogGap" 343 (.ref 128), ent P "LogPanic" 359 (.ref 140), ent P "MAX_32" 363 (.int 4294967295 362), ent P "MAX_64" 365 (.int 18446744073709551615 364), ent P "write_groups" 374 (.ref 149), ent P "put_varint" 381 (.ref 156), ent P "put_varint32" 388 (.ref 163), ent P "varint_length" 396 (.ref 170), ent P "Sink" 487 (.ref 243), ent P "NONE" 491 (.int 0 490), ent P "NO_LIMIT" 493 (.int 18446744073709551615 492), ent P "rising" 502 (.ref 254), ent P "Entry" 567 (.ref 299), ent P "encode_entry" 575 (.ref 310), ent P "limit_size" 586 (.ref 317), ent P "HardState" 648 (.ref 362), ent P "ConfState" 699 (.ref 397), ent P "put_ids" 708 (.ref 408), ent P "encode_conf" 716 (.ref 415), ent P "Snapshot" 772 (.ref 453), ent P "encode_snapshot" 780 (.ref 464), ent P "Message" 835 (.ref 491), ent P "encode_message" 844 (.ref 502), ent P "MemoryStorage" 982 (.ref 603), ent P "Unstable" 1089 (.ref 687), ent P "RaftLog" 1347 (.ref 897), ent P "_law_folds" 1355 (.ref 908), ent P "_law_terms" 1361 (.ref 915), ent P "_law_lengths" 1367 (.ref 922), ent P "_law_limits" 1373 (.ref 929), ent P "_law_draw" 1381 (.ref 936), ent P "_law_width" 1388 (.ref 943), ent P "_law_weight" 1394 (.ref 948), ent P "_law_ends" 1400 (.ref 953), ent P "_law_fewest" 1406 (.ref 958), ent P "_law_no_size" 1415 (.ref 965), ent P "_law_rows" 1421 (.ref 970), ent P "_law_letter" 1427 (.ref 975), ent P "_law_apply" 1442 (.ref 982), ent P "law" 1448 (.ref 987)] 58 }
def o13 : Obj := co #[.str "<module>" 182, .str "<module>" 183, .str cu 184, .int 1 0, .int 0 0, .int 0 0, .int 0 0, .int 0 0, .ref 11, .bool false, .int 181 0, .ref 12, .none, .none, .none, .none, .int 185 0, .int 1 0, .str cu 186]
def o20 : Obj := co #[.str "_wall" 187, .str "_wall" 188, .str cu 189, .int 1 0, .int 1 0, .int 0 0, .int 0 0, .int 3 0, .ref 15, .bool true, .int 181 0, .ref 16, .none, .ref 17, .ref 18, .ref 19, .int 191 0, .int 1 0, .str cu 192]
def o21 : Obj := fnObj (stmtAt 0) "_wall" 20 "__main__" 164
def o24 (P : Params) : Obj := { cls := .type "dict", data := .dict #[ent P "__module__" 203 (.str "raftkeep.errors" 194), ent P "__qualname__" 205 (.str "KeepError" 204), ent P "__firstlineno__" 207 (.int 5 206), ent P "__static_attributes__" 208 (.ref 29)] 4 }
def o27 : Obj := co #[.str "KeepError" 198, .str "KeepError" 199, .str cu 200, .int 5 0, .int 0 0, .int 0 0, .int 0 0, .int 0 0, .ref 25, .bool false, .int 181 0, .ref 26, .none, .none, .none, .none, .int 201 0, .int 5 0, .str cu 202]
def o30 (P : Params) : Obj := { cls := .type "dict", data := .dict #[ent P "__module__" 203 (.str "raftkeep.errors" 194), ent P "__firstlineno__" 207 (.int 5 206), ent P "__static_attributes__" 208 (.ref 29), ent P "__weakref__" 210 (.ref 32), ent P "__doc__" 211 (.none)] 3 }
noncomputable def o31 : Obj := { cls := .type "type", data := .cls { name := "KeepError", bases := [.type "Exception"], mro := [.ref 31, .type "Exception", .type "BaseException", .type "object"], ns := 30, qualname := "KeepError", subclasses := [.ref 44, .ref 68] }, slots := #[some (.ref 22), none, some (.str "KeepError" 196), some (.str "KeepError" 204), some (.builtin "Exception.__new__"), some (.bool true)] }
def o32 : Obj := gd #[.str "__weakref__" 209, .ref 31, .builtin "ExceptionGroup.__weakref__", .none]
def o37 (P : Params) : Obj := { cls := .type "dict", data := .dict #[ent P "__module__" 223 (.str "raftkeep.errors" 194), ent P "__qualname__" 225 (.str "StoreError" 224), ent P "__firstlineno__" 227 (.int 7 226), ent P "__static_attributes__" 228 (.ref 42)] 4 }
def o40 : Obj := co #[.str "StoreError" 218, .str "StoreError" 219, .str cu 220, .int 7 0, .int 0 0, .int 0 0, .int 0 0, .int 0 0, .ref 38, .bool false, .int 181 0, .ref 39, .none, .none, .none, .none, .int 221 0, .int 7 0, .str cu 222]
def o43 (P : Params) : Obj := { cls := .type "dict", data := .dict #[ent P "__module__" 223 (.str "raftkeep.errors" 194), ent P "__firstlineno__" 227 (.int 7 226), ent P "__static_attributes__" 228 (.ref 42), ent P "__doc__" 229 (.none)] 2 }
noncomputable def o44 : Obj := { cls := .type "type", data := .cls { name := "StoreError", bases := [.ref 31], mro := [.ref 44, .ref 31, .type "Exception", .type "BaseException", .type "object"], ns := 43, qualname := "StoreError", subclasses := [.ref 56] }, slots := #[some (.ref 35), none, some (.str "StoreError" 216), some (.str "StoreError" 224), some (.builtin "Exception.__new__"), some (.bool true)] }
def o49 (P : Params) : Obj := { cls := .type "dict", data := .dict #[ent P "__module__" 239 (.str "raftkeep.errors" 194), ent P "__qualname__" 241 (.str "BadOption" 240), ent P "__firstlineno__" 243 (.int 9 242), ent P "__static_attributes__" 244 (.ref 54)] 4 }
def o52 : Obj := co #[.str "BadOption" 234, .str "BadOption" 235, .str cu 236, .int 9 0, .int 0 0, .int 0 0, .int 0 0, .int 0 0, .ref 50, .bool false, .int 181 0, .ref 51, .none, .none, .none, .none, .int 237 0, .int 9 0, .str cu 238]
def o55 (P : Params) : Obj := { cls := .type "dict", data := .dict #[ent P "__module__" 239 (.str "raftkeep.errors" 194), ent P "__firstlineno__" 243 (.int 9 242), ent P "__static_attributes__" 244 (.ref 54), ent P "__doc__" 245 (.none)] 2 }
noncomputable def o56 : Obj := { cls := .type "type", data := .cls { name := "BadOption", bases := [.ref 44], mro := [.ref 56, .ref 44, .ref 31, .type "Exception", .type "BaseException", .type "object"], ns := 55, qualname := "BadOption" }, slots := #[some (.ref 47), none, some (.str "BadOption" 232), some (.str "BadOption" 240), some (.builtin "Exception.__new__"), some (.bool true)] }
def o61 (P : Params) : Obj := { cls := .type "dict", data := .dict #[ent P "__module__" 255 (.str "raftkeep.errors" 194), ent P "__qualname__" 257 (.str "RaftError" 256), ent P "__firstlineno__" 259 (.int 11 258), ent P "__static_attributes__" 260 (.ref 66)] 4 }
def o64 : Obj := co #[.str "RaftError" 250, .str "RaftError" 251, .str cu 252, .int 11 0, .int 0 0, .int 0 0, .int 0 0, .int 0 0, .ref 62, .bool false, .int 181 0, .ref 63, .none, .none, .none, .none, .int 253 0, .int 11 0, .str cu 254]
def o67 (P : Params) : Obj := { cls := .type "dict", data := .dict #[ent P "__module__" 255 (.str "raftkeep.errors" 194), ent P "__firstlineno__" 259 (.int 11 258), ent P "__static_attributes__" 260 (.ref 66), ent P "__doc__" 261 (.none)] 2 }
noncomputable def o68 : Obj := { cls := .type "type", data := .cls { name := "RaftError", bases := [.ref 31], mro := [.ref 68, .ref 31, .type "Exception", .type "BaseException", .type "object"], ns := 67, qualname := "RaftError", subclasses := [.ref 80, .ref 92, .ref 104, .ref 116, .ref 128, .ref 140] }, slots := #[some (.ref 59), none, some (.str "RaftError" 248), some (.str "RaftError" 256), some (.builtin "Exception.__new__"), some (.bool true)] }
def o73 (P : Params) : Obj := { cls := .type "dict", data := .dict #[ent P "__module__" 271 (.str "raftkeep.errors" 194), ent P "__qualname__" 273 (.str "Compacted" 272), ent P "__firstlineno__" 275 (.int 13 274), ent P "__static_attributes__" 276 (.ref 78)] 4 }
def o76 : Obj := co #[.str "Compacted" 266, .str "Compacted" 267, .str cu 268, .int 13 0, .int 0 0, .int 0 0, .int 0 0, .int 0 0, .ref 74, .bool false, .int 181 0, .ref 75, .none, .none, .none, .none, .int 269 0, .int 13 0, .str cu 270]
def o79 (P : Params) : Obj := { cls := .type "dict", data := .dict #[ent P "__module__" 271 (.str "raftkeep.errors" 194), ent P "__firstlineno__" 275 (.int 13 274), ent P "__static_attributes__" 276 (.ref 78), ent P "__doc__" 277 (.none)] 2 }
noncomputable def o80 : Obj := { cls := .type "type", data := .cls { name := "Compacted", bases := [.ref 68], mro := [.ref 80, .ref 68, .ref 31, .type "Exception", .type "BaseException", .type "object"], ns := 79, qualname := "Compacted" }, slots := #[some (.ref 71), none, some (.str "Compacted" 264), some (.str "Compacted" 272), some (.builtin "Exception.__new__"), some (.bool true)] }
def o85 (P : Params) : Obj := { cls := .type "dict", data := .dict #[ent P "__module__" 287 (.str "raftkeep.errors" 194), ent P "__qualname__" 289 (.str "Unavailable" 288), ent P "__firstlineno__" 291 (.int 15 290), ent P "__static_attributes__" 292 (.ref 90)] 4 }
def o88 : Obj := co #[.str "Unavailable" 282, .str "Unavailable" 283, .str cu 284, .int 15 0, .int 0 0, .int 0 0, .int 0 0, .int 0 0, .ref 86, .bool false, .int 181 0, .ref 87, .none, .none, .none, .none, .int 285 0, .int 15 0, .str cu 286]
def o91 (P : Params) : Obj := { cls := .type "dict", data := .dict #[ent P "__module__" 287 (.str "raftkeep.errors" 194), ent P "__firstlineno__" 291 (.int 15 290), ent P "__static_attributes__" 292 (.ref 90), ent P "__doc__" 293 (.none)] 2 }
noncomputable def o92 : Obj := { cls := .type "type", data := .cls { name := "Unavailable", bases := [.ref 68], mro := [.ref 92, .ref 68, .ref 31, .type "Exception", .type "BaseException", .type "object"], ns := 91, qualname := "Unavailable" }, slots := #[some (.ref 83), none, some (.str "Unavailable" 280), some (.str "Unavailable" 288), some (.builtin "Exception.__new__"), some (.bool true)] }
def o97 (P : Params) : Obj := { cls := .type "dict", data := .dict #[ent P "__module__" 303 (.str "raftkeep.errors" 194), ent P "__qualname__" 305 (.str "SnapOutOfDate" 304), ent P "__firstlineno__" 307 (.int 17 306), ent P "__static_attributes__" 308 (.ref 102)] 4 }
def o100 : Obj := co #[.str "SnapOutOfDate" 298, .str "SnapOutOfDate" 299, .str cu 300, .int 17 0, .int 0 0, .int 0 0, .int 0 0, .int 0 0, .ref 98, .bool false, .int 181 0, .ref 99, .none, .none, .none, .none, .int 301 0, .int 17 0, .str cu 302]
def o103 (P : Params) : Obj := { cls := .type "dict", data := .dict #[ent P "__module__" 303 (.str "raftkeep.errors" 194), ent P "__firstlineno__" 307 (.int 17 306), ent P "__static_attributes__" 308 (.ref 102), ent P "__doc__" 309 (.none)] 2 }
noncomputable def o104 : Obj := { cls := .type "type", data := .cls { name := "SnapOutOfDate", bases := [.ref 68], mro := [.ref 104, .ref 68, .ref 31, .type "Exception", .type "BaseException", .type "object"], ns := 103, qualname := "SnapOutOfDate" }, slots := #[some (.ref 95), none, some (.str "SnapOutOfDate" 296), some (.str "SnapOutOfDate" 304), some (.builtin "Exception.__new__"), some (.bool true)] }
def o109 (P : Params) : Obj := { cls := .type "dict", data := .dict #[ent P "__module__" 319 (.str "raftkeep.errors" 194), ent P "__qualname__" 321 (.str "SnapNotReady" 320), ent P "__firstlineno__" 323 (.int 19 322), ent P "__static_attributes__" 324 (.ref 114)] 4 }
def o112 : Obj := co #[.str "SnapNotReady" 314, .str "SnapNotReady" 315, .str cu 316, .int 19 0, .int 0 0, .int 0 0, .int 0 0, .int 0 0, .ref 110, .bool false, .int 181 0, .ref 111, .none, .none, .none, .none, .int 317 0, .int 19 0, .str cu 318]
def o115 (P : Params) : Obj := { cls := .type "dict", data := .dict #[ent P "__module__" 319 (.str "raftkeep.errors" 194), ent P "__firstlineno__" 323 (.int 19 322), ent P "__static_attributes__" 324 (.ref 114), ent P "__doc__" 325 (.none)] 2 }
noncomputable def o116 : Obj := { cls := .type "type", data := .cls { name := "SnapNotReady", bases := [.ref 68], mro := [.ref 116, .ref 68, .ref 31, .type "Exception", .type "BaseException", .type "object"], ns := 115, qualname := "SnapNotReady" }, slots := #[some (.ref 107), none, some (.str "SnapNotReady" 312), some (.str "SnapNotReady" 320), some (.builtin "Exception.__new__"), some (.bool true)] }
def o121 (P : Params) : Obj := { cls := .type "dict", data := .dict #[ent P "__module__" 335 (.str "raftkeep.errors" 194), ent P "__qualname__" 337 (.str "LogGap" 336), ent P "__firstlineno__" 339 (.int 21 338), ent P "__static_attributes__" 340 (.ref 126)] 4 }
def o124 : Obj := co #[.str "LogGap" 330, .str "LogGap" 331, .str cu 332, .int 21 0, .int 0 0, .int 0 0, .int 0 0, .int 0 0, .ref 122, .bool false, .int 181 0, .ref 123, .none, .none, .none, .none, .int 333 0, .int 21 0, .str cu 334]
def o127 (P : Params) : Obj := { cls := .type "dict", data := .dict #[ent P "__module__" 335 (.str "raftkeep.errors" 194), ent P "__firstlineno__" 339 (.int 21 338), ent P "__static_attributes__" 340 (.ref 126), ent P "__doc__" 341 (.none)] 2 }
noncomputable def o128 : Obj := { cls := .type "type", data := .cls { name := "LogGap", bases := [.ref 68], mro := [.ref 128, .ref 68, .ref 31, .type "Exception", .type "BaseException", .type "object"], ns := 127, qualname := "LogGap" }, slots := #[some (.ref 119), none, some (.str "LogGap" 328), some (.str "LogGap" 336), some (.builtin "Exception.__new__"), some (.bool true)] }
def o133 (P : Params) : Obj := { cls := .type "dict", data := .dict #[ent P "__module__" 351 (.str "raftkeep.errors" 194), ent P "__qualname__" 353 (.str "LogPanic" 352), ent P "__firstlineno__" 355 (.int 23 354), ent P "__static_attributes__" 356 (.ref 138)] 4 }
def o136 : Obj := co #[.str "LogPanic" 346, .str "LogPanic" 347, .str cu 348, .int 23 0, .int 0 0, .int 0 0, .int 0 0, .int 0 0, .ref 134, .bool false, .int 181 0, .ref 135, .none, .none, .none, .none, .int 349 0, .int 23 0, .str cu 350]
def o139 (P : Params) : Obj := { cls := .type "dict", data := .dict #[ent P "__module__" 351 (.str "raftkeep.errors" 194), ent P "__firstlineno__" 355 (.int 23 354), ent P "__static_attributes__" 356 (.ref 138), ent P "__doc__" 357 (.none)] 2 }
noncomputable def o140 : Obj := { cls := .type "type", data := .cls { name := "LogPanic", bases := [.ref 68], mro := [.ref 140, .ref 68, .ref 31, .type "Exception", .type "BaseException", .type "object"], ns := 139, qualname := "LogPanic" }, slots := #[some (.ref 131), none, some (.str "LogPanic" 344), some (.str "LogPanic" 352), some (.builtin "Exception.__new__"), some (.bool true)] }
def o148 : Obj := co #[.str "write_groups" 366, .str "write_groups" 367, .str cu 368, .int 28 0, .int 2 0, .int 0 0, .int 0 0, .int 3 0, .ref 143, .bool true, .int 181 0, .ref 144, .none, .ref 145, .ref 146, .ref 147, .int 372 0, .int 28 0, .str cu 373]
def o149 : Obj := fnObj (stmtAt 15) "write_groups" 148 "raftkeep.octets" 360
def o155 : Obj := co #[.str "put_varint" 375, .str "put_varint" 376, .str cu 377, .int 37 0, .int 1 0, .int 0 0, .int 0 0, .int 3 0, .ref 150, .bool true, .int 181 0, .ref 151, .none, .ref 152, .ref 153, .ref 154, .int 379 0, .int 37 0, .str cu 380]
def o156 : Obj := fnObj (stmtAt 16) "put_varint" 155 "raftkeep.octets" 360
def o162 : Obj := co #[.str "put_varint32" 382, .str "put_varint32" 383, .str cu 384, .int 41 0, .int 1 0, .int 0 0, .int 0 0, .int 3 0, .ref 157, .bool true, .int 181 0, .ref 158, .none, .ref 159, .ref 160, .ref 161, .int 386 0, .int 41 0, .str cu 387]
def o163 : Obj := fnObj (stmtAt 17) "put_varint32" 162 "raftkeep.octets" 360
def o169 : Obj := co #[.str "varint_length" 389, .str "varint_length" 390, .str cu 391, .int 45 0, .int 1 0, .int 0 0, .int 0 0, .int 3 0, .ref 164, .bool true, .int 181 0, .ref 165, .none, .ref 166, .ref 167, .ref 168, .int 394 0, .int 45 0, .str cu 395]
def o170 : Obj := fnObj (stmtAt 18) "varint_length" 169 "raftkeep.octets" 360
def o173 (P : Params) : Obj := { cls := .type "dict", data := .dict #[ent P "__module__" 404 (.str "raftkeep.octets" 360), ent P "__qualname__" 406 (.str "Sink" 405), ent P "__firstlineno__" 408 (.int 53 407), ent P "__init__" 415 (.ref 184), ent P "varint" 423 (.ref 191), ent P "fixed32" 431 (.ref 198), ent P "fixed64" 439 (.ref 205), ent P "lengthed" 447 (.ref 212), ent P "octet" 455 (.ref 219), ent P "flag" 463 (.ref 226), ent P "raw" 471 (.ref 233), ent P "done" 478 (.ref 240), ent P "__static_attributes__" 480 (.ref 241)] 13 }
def o176 : Obj := co #[.str "Sink" 399, .str "Sink" 400, .str cu 401, .int 53 0, .int 0 0, .int 0 0, .int 0 0, .int 0 0, .ref 174, .bool false, .int 181 0, .ref 175, .none, .none, .none, .none, .int 402 0, .int 53 0, .str cu 403]
def o183 : Obj := co #[.str "__init__" 409, .str "Sink.__init__" 410, .str cu 411, .int 55 0, .int 1 0, .int 0 0, .int 0 0, .int 3 0, .ref 178, .bool true, .int 181 0, .ref 179, .none, .ref 180, .ref 181, .ref 182, .int 413 0, .int 55 0, .str cu 414]
def o184 : Obj := fnObj (methAt 19 0) "Sink.__init__" 183 "raftkeep.octets" 360
def o190 : Obj := co #[.str "varint" 416, .str "Sink.varint" 417, .str cu 418, .int 58 0, .int 2 0, .int 0 0, .int 0 0, .int 3 0, .ref 185, .bool true, .int 181 0, .ref 186, .none, .ref 187, .ref 188, .ref 189, .int 421 0, .int 58 0, .str cu 422]
def o191 : Obj := fnObj (methAt 19 1) "Sink.varint" 190 "raftkeep.octets" 360
def o197 : Obj := co #[.str "fixed32" 424, .str "Sink.fixed32" 425, .str cu 426, .int 64 0, .int 2 0, .int 0 0, .int 0 0, .int 3 0, .ref 192, .bool true, .int 181 0, .ref 193, .none, .ref 194, .ref 195, .ref 196, .int 429 0, .int 64 0, .str cu 430]
def o198 : Obj := fnObj (methAt 19 2) "Sink.fixed32" 197 "raftkeep.octets" 360
def o204 : Obj := co #[.str "fixed64" 432, .str "Sink.fixed64" 433, .str cu 434, .int 67 0, .int 2 0, .int 0 0, .int 0 0, .int 3 0, .ref 199, .bool true, .int 181 0, .ref 200, .none, .ref 201, .ref 202, .ref 203, .int 437 0, .int 67 0, .str cu 438]
def o205 : Obj := fnObj (methAt 19 3) "Sink.fixed64" 204 "raftkeep.octets" 360
def o211 : Obj := co #[.str "lengthed" 440, .str "Sink.lengthed" 441, .str cu 442, .int 70 0, .int 2 0, .int 0 0, .int 0 0, .int 3 0, .ref 206, .bool true, .int 181 0, .ref 207, .none, .ref 208, .ref 209, .ref 210, .int 445 0, .int 70 0, .str cu 446]
def o212 : Obj := fnObj (methAt 19 4) "Sink.lengthed" 211 "raftkeep.octets" 360
def o218 : Obj := co #[.str "octet" 448, .str "Sink.octet" 449, .str cu 450, .int 74 0, .int 2 0, .int 0 0, .int 0 0, .int 3 0, .ref 213, .bool true, .int 181 0, .ref 214, .none, .ref 215, .ref 216, .ref 217, .int 453 0, .int 74 0, .str cu 454]
def o219 : Obj := fnObj (methAt 19 5) "Sink.octet" 218 "raftkeep.octets" 360
def o225 : Obj := co #[.str "flag" 456, .str "Sink.flag" 457, .str cu 458, .int 79 0, .int 2 0, .int 0 0, .int 0 0, .int 3 0, .ref 220, .bool true, .int 181 0, .ref 221, .none, .ref 222, .ref 223, .ref 224, .int 461 0, .int 79 0, .str cu 462]
def o226 : Obj := fnObj (methAt 19 6) "Sink.flag" 225 "raftkeep.octets" 360
def o232 : Obj := co #[.str "raw" 464, .str "Sink.raw" 465, .str cu 466, .int 85 0, .int 2 0, .int 0 0, .int 0 0, .int 3 0, .ref 227, .bool true, .int 181 0, .ref 228, .none, .ref 229, .ref 230, .ref 231, .int 469 0, .int 85 0, .str cu 470]
def o233 : Obj := fnObj (methAt 19 7) "Sink.raw" 232 "raftkeep.octets" 360
def o239 : Obj := co #[.str "done" 472, .str "Sink.done" 473, .str cu 474, .int 88 0, .int 1 0, .int 0 0, .int 0 0, .int 3 0, .ref 234, .bool true, .int 181 0, .ref 235, .none, .ref 236, .ref 237, .ref 238, .int 476 0, .int 88 0, .str cu 477]
def o240 : Obj := fnObj (methAt 19 8) "Sink.done" 239 "raftkeep.octets" 360
def o242 (P : Params) : Obj := { cls := .type "dict", data := .dict #[ent P "__module__" 404 (.str "raftkeep.octets" 360), ent P "__firstlineno__" 408 (.int 53 407), ent P "__init__" 415 (.ref 184), ent P "varint" 423 (.ref 191), ent P "fixed32" 431 (.ref 198), ent P "fixed64" 439 (.ref 205), ent P "lengthed" 447 (.ref 212), ent P "octet" 455 (.ref 219), ent P "flag" 463 (.ref 226), ent P "raw" 471 (.ref 233), ent P "done" 478 (.ref 240), ent P "__static_attributes__" 480 (.ref 241), ent P "__dict__" 482 (.ref 244), ent P "__weakref__" 484 (.ref 245), ent P "__doc__" 485 (.none)] 4 }
noncomputable def o243 : Obj := { cls := .type "type", data := .cls { name := "Sink", bases := [.type "object"], mro := [.ref 243, .type "object"], ns := 242, qualname := "Sink" }, slots := #[none, none, some (.str "Sink" 397), some (.str "Sink" 405), some (.builtin "object.__new__"), some (.bool true)] }
def o244 : Obj := gd #[.str "__dict__" 481, .ref 243, .builtin "function.__dict__", .builtin "function.__dict__#set"]
def o245 : Obj := gd #[.str "__weakref__" 483, .ref 243, .builtin "ExceptionGroup.__weakref__", .none]
def o253 : Obj := co #[.str "rising" 494, .str "rising" 495, .str cu 496, .int 93 0, .int 1 0, .int 0 0, .int 0 0, .int 3 0, .ref 248, .bool true, .int 181 0, .ref 249, .none, .ref 250, .ref 251, .ref 252, .int 500 0, .int 93 0, .str cu 501]
def o254 : Obj := fnObj (stmtAt 23) "rising" 253 "raftkeep.messages" 488
def o257 (P : Params) : Obj := { cls := .type "dict", data := .dict #[ent P "__module__" 510 (.str "raftkeep.messages" 488), ent P "__qualname__" 512 (.str "Entry" 511), ent P "__firstlineno__" 514 (.int 99 513), ent P "__init__" 525 (.ref 268), ent P "row" 532 (.ref 275), ent P "copy" 539 (.ref 282), ent P "payload" 546 (.ref 289), ent P "size" 555 (.ref 296), ent P "__static_attributes__" 560 (.ref 297)] 9 }
def o260 : Obj := co #[.str "Entry" 505, .str "Entry" 506, .str cu 507, .int 99 0, .int 0 0, .int 0 0, .int 0 0, .int 0 0, .ref 258, .bool false, .int 181 0, .ref 259, .none, .none, .none, .none, .int 508 0, .int 99 0, .str cu 509]
def o267 : Obj := co #[.str "__init__" 515, .str "Entry.__init__" 516, .str cu 517, .int 101 0, .int 5 0, .int 0 0, .int 0 0, .int 3 0, .ref 262, .bool true, .int 181 0, .ref 263, .none, .ref 264, .ref 265, .ref 266, .int 523 0, .int 101 0, .str cu 524]
def o268 : Obj := fnObj (methAt 24 0) "Entry.__init__" 267 "raftkeep.messages" 488
def o274 : Obj := co #[.str "row" 526, .str "Entry.row" 527, .str cu 528, .int 107 0, .int 1 0, .int 0 0, .int 0 0, .int 3 0, .ref 269, .bool true, .int 181 0, .ref 270, .none, .ref 271, .ref 272, .ref 273, .int 530 0, .int 107 0, .str cu 531]
def o275 : Obj := fnObj (methAt 24 1) "Entry.row" 274 "raftkeep.messages" 488
def o281 : Obj := co #[.str "copy" 533, .str "Entry.copy" 534, .str cu 535, .int 110 0, .int 1 0, .int 0 0, .int 0 0, .int 3 0, .ref 276, .bool true, .int 181 0, .ref 277, .none, .ref 278, .ref 279, .ref 280, .int 537 0, .int 110 0, .str cu 538]
def o282 : Obj := fnObj (methAt 24 2) "Entry.copy" 281 "raftkeep.messages" 488
def o288 : Obj := co #[.str "payload" 540, .str "Entry.payload" 541, .str cu 542, .int 113 0, .int 1 0, .int 0 0, .int 0 0, .int 3 0, .ref 283, .bool true, .int 181 0, .ref 284, .none, .ref 285, .ref 286, .ref 287, .int 544 0, .int 113 0, .str cu 545]
def o289 : Obj := fnObj (methAt 24 3) "Entry.payload" 288 "raftkeep.messages" 488
def o295 : Obj := co #[.str "size" 547, .str "Entry.size" 548, .str cu 549, .int 116 0, .int 1 0, .int 0 0, .int 0 0, .int 3 0, .ref 290, .bool true, .int 181 0, .ref 291, .none, .ref 292, .ref 293, .ref 294, .int 553 0, .int 116 0, .str cu 554]
def o296 : Obj := fnObj (methAt 24 4) "Entry.size" 295 "raftkeep.messages" 488
def o298 (P : Params) : Obj := { cls := .type "dict", data := .dict #[ent P "__module__" 510 (.str "raftkeep.messages" 488), ent P "__firstlineno__" 514 (.int 99 513), ent P "__init__" 525 (.ref 268), ent P "row" 532 (.ref 275), ent P "copy" 539 (.ref 282), ent P "payload" 546 (.ref 289), ent P "size" 555 (.ref 296), ent P "__static_attributes__" 560 (.ref 297), ent P "__dict__" 562 (.ref 300), ent P "__weakref__" 564 (.ref 301), ent P "__doc__" 565 (.none)] 4 }
noncomputable def o299 : Obj := { cls := .type "type", data := .cls { name := "Entry", bases := [.type "object"], mro := [.ref 299, .type "object"], ns := 298, qualname := "Entry" }, slots := #[none, none, some (.str "Entry" 503), some (.str "Entry" 511), some (.builtin "object.__new__"), some (.bool true)] }
def o300 : Obj := gd #[.str "__dict__" 561, .ref 299, .builtin "function.__dict__", .builtin "function.__dict__#set"]
def o301 : Obj := gd #[.str "__weakref__" 563, .ref 299, .builtin "ExceptionGroup.__weakref__", .none]
def o309 : Obj := co #[.str "encode_entry" 568, .str "encode_entry" 569, .str cu 570, .int 120 0, .int 1 0, .int 0 0, .int 0 0, .int 3 0, .ref 304, .bool true, .int 181 0, .ref 305, .none, .ref 306, .ref 307, .ref 308, .int 573 0, .int 120 0, .str cu 574]
def o310 : Obj := fnObj (stmtAt 25) "encode_entry" 309 "raftkeep.messages" 488
def o316 : Obj := co #[.str "limit_size" 576, .str "limit_size" 577, .str cu 578, .int 127 0, .int 2 0, .int 0 0, .int 0 0, .int 3 0, .ref 311, .bool true, .int 181 0, .ref 312, .none, .ref 313, .ref 314, .ref 315, .int 584 0, .int 127 0, .str cu 585]
def o317 : Obj := fnObj (stmtAt 26) "limit_size" 316 "raftkeep.messages" 488
def o320 (P : Params) : Obj := { cls := .type "dict", data := .dict #[ent P "__module__" 594 (.str "raftkeep.messages" 488), ent P "__qualname__" 596 (.str "HardState" 595), ent P "__firstlineno__" 598 (.int 136 597), ent P "__init__" 608 (.ref 331), ent P "row" 615 (.ref 338), ent P "empty" 622 (.ref 345), ent P "same" 630 (.ref 352), ent P "copy" 637 (.ref 359), ent P "__static_attributes__" 641 (.ref 360)] 9 }
def o323 : Obj := co #[.str "HardState" 589, .str "HardState" 590, .str cu 591, .int 136 0, .int 0 0, .int 0 0, .int 0 0, .int 0 0, .ref 321, .bool false, .int 181 0, .ref 322, .none, .none, .none, .none, .int 592 0, .int 136 0, .str cu 593]
def o330 : Obj := co #[.str "__init__" 599, .str "HardState.__init__" 600, .str cu 601, .int 138 0, .int 4 0, .int 0 0, .int 0 0, .int 3 0, .ref 325, .bool true, .int 181 0, .ref 326, .none, .ref 327, .ref 328, .ref 329, .int 606 0, .int 138 0, .str cu 607]
def o331 : Obj := fnObj (methAt 27 0) "HardState.__init__" 330 "raftkeep.messages" 488
def o337 : Obj := co #[.str "row" 609, .str "HardState.row" 610, .str cu 611, .int 143 0, .int 1 0, .int 0 0, .int 0 0, .int 3 0, .ref 332, .bool true, .int 181 0, .ref 333, .none, .ref 334, .ref 335, .ref 336, .int 613 0, .int 143 0, .str cu 614]
def o338 : Obj := fnObj (methAt 27 1) "HardState.row" 337 "raftkeep.messages" 488
def o344 : Obj := co #[.str "empty" 616, .str "HardState.empty" 617, .str cu 618, .int 146 0, .int 1 0, .int 0 0, .int 0 0, .int 3 0, .ref 339, .bool true, .int 181 0, .ref 340, .none, .ref 341, .ref 342, .ref 343, .int 620 0, .int 146 0, .str cu 621]
def o345 : Obj := fnObj (methAt 27 2) "HardState.empty" 344 "raftkeep.messages" 488
def o351 : Obj := co #[.str "same" 623, .str "HardState.same" 624, .str cu 625, .int 149 0, .int 2 0, .int 0 0, .int 0 0, .int 3 0, .ref 346, .bool true, .int 181 0, .ref 347, .none, .ref 348, .ref 349, .ref 350, .int 628 0, .int 149 0, .str cu 629]
def o352 : Obj := fnObj (methAt 27 3) "HardState.same" 351 "raftkeep.messages" 488
def o358 : Obj := co #[.str "copy" 631, .str "HardState.copy" 632, .str cu 633, .int 152 0, .int 1 0, .int 0 0, .int 0 0, .int 3 0, .ref 353, .bool true, .int 181 0, .ref 354, .none, .ref 355, .ref 356, .ref 357, .int 635 0, .int 152 0, .str cu 636]
def o359 : Obj := fnObj (methAt 27 4) "HardState.copy" 358 "raftkeep.messages" 488
def o361 (P : Params) : Obj := { cls := .type "dict", data := .dict #[ent P "__module__" 594 (.str "raftkeep.messages" 488), ent P "__firstlineno__" 598 (.int 136 597), ent P "__init__" 608 (.ref 331), ent P "row" 615 (.ref 338), ent P "empty" 622 (.ref 345), ent P "same" 630 (.ref 352), ent P "copy" 637 (.ref 359), ent P "__static_attributes__" 641 (.ref 360), ent P "__dict__" 643 (.ref 363), ent P "__weakref__" 645 (.ref 364), ent P "__doc__" 646 (.none)] 4 }
noncomputable def o362 : Obj := { cls := .type "type", data := .cls { name := "HardState", bases := [.type "object"], mro := [.ref 362, .type "object"], ns := 361, qualname := "HardState" }, slots := #[none, none, some (.str "HardState" 587), some (.str "HardState" 595), some (.builtin "object.__new__"), some (.bool true)] }
def o363 : Obj := gd #[.str "__dict__" 642, .ref 362, .builtin "function.__dict__", .builtin "function.__dict__#set"]
def o364 : Obj := gd #[.str "__weakref__" 644, .ref 362, .builtin "ExceptionGroup.__weakref__", .none]
def o369 (P : Params) : Obj := { cls := .type "dict", data := .dict #[ent P "__module__" 656 (.str "raftkeep.messages" 488), ent P "__qualname__" 658 (.str "ConfState" 657), ent P "__firstlineno__" 660 (.int 154 659), ent P "__init__" 672 (.ref 380), ent P "row" 679 (.ref 387), ent P "copy" 686 (.ref 394), ent P "__static_attributes__" 692 (.ref 395)] 7 }
def o372 : Obj := co #[.str "ConfState" 651, .str "ConfState" 652, .str cu 653, .int 154 0, .int 0 0, .int 0 0, .int 0 0, .int 0 0, .ref 370, .bool false, .int 181 0, .ref 371, .none, .none, .none, .none, .int 654 0, .int 154 0, .str cu 655]
def o379 : Obj := co #[.str "__init__" 661, .str "ConfState.__init__" 662, .str cu 663, .int 156 0, .int 6 0, .int 0 0, .int 0 0, .int 3 0, .ref 374, .bool true, .int 181 0, .ref 375, .none, .ref 376, .ref 377, .ref 378, .int 670 0, .int 156 0, .str cu 671]
def o380 : Obj := fnObj (methAt 28 0) "ConfState.__init__" 379 "raftkeep.messages" 488
def o386 : Obj := co #[.str "row" 673, .str "ConfState.row" 674, .str cu 675, .int 163 0, .int 1 0, .int 0 0, .int 0 0, .int 3 0, .ref 381, .bool true, .int 181 0, .ref 382, .none, .ref 383, .ref 384, .ref 385, .int 677 0, .int 163 0, .str cu 678]
def o387 : Obj := fnObj (methAt 28 1) "ConfState.row" 386 "raftkeep.messages" 488
def o393 : Obj := co #[.str "copy" 680, .str "ConfState.copy" 681, .str cu 682, .int 166 0, .int 1 0, .int 0 0, .int 0 0, .int 3 0, .ref 388, .bool true, .int 181 0, .ref 389, .none, .ref 390, .ref 391, .ref 392, .int 684 0, .int 166 0, .str cu 685]
def o394 : Obj := fnObj (methAt 28 2) "ConfState.copy" 393 "raftkeep.messages" 488
def o396 (P : Params) : Obj := { cls := .type "dict", data := .dict #[ent P "__module__" 656 (.str "raftkeep.messages" 488), ent P "__firstlineno__" 660 (.int 154 659), ent P "__init__" 672 (.ref 380), ent P "row" 679 (.ref 387), ent P "copy" 686 (.ref 394), ent P "__static_attributes__" 692 (.ref 395), ent P "__dict__" 694 (.ref 398), ent P "__weakref__" 696 (.ref 399), ent P "__doc__" 697 (.none)] 4 }
noncomputable def o397 : Obj := { cls := .type "type", data := .cls { name := "ConfState", bases := [.type "object"], mro := [.ref 397, .type "object"], ns := 396, qualname := "ConfState" }, slots := #[none, none, some (.str "ConfState" 649), some (.str "ConfState" 657), some (.builtin "object.__new__"), some (.bool true)] }
def o398 : Obj := gd #[.str "__dict__" 693, .ref 397, .builtin "function.__dict__", .builtin "function.__dict__#set"]
def o399 : Obj := gd #[.str "__weakref__" 695, .ref 397, .builtin "ExceptionGroup.__weakref__", .none]
def o407 : Obj := co #[.str "put_ids" 700, .str "put_ids" 701, .str cu 702, .int 168 0, .int 2 0, .int 0 0, .int 0 0, .int 3 0, .ref 402, .bool true, .int 181 0, .ref 403, .none, .ref 404, .ref 405, .ref 406, .int 706 0, .int 168 0, .str cu 707]
def o408 : Obj := fnObj (stmtAt 29) "put_ids" 407 "raftkeep.messages" 488
def o414 : Obj := co #[.str "encode_conf" 709, .str "encode_conf" 710, .str cu 711, .int 172 0, .int 1 0, .int 0 0, .int 0 0, .int 3 0, .ref 409, .bool true, .int 181 0, .ref 410, .none, .ref 411, .ref 412, .ref 413, .int 714 0, .int 172 0, .str cu 715]
def o415 : Obj := fnObj (stmtAt 30) "encode_conf" 414 "raftkeep.messages" 488
def o418 (P : Params) : Obj := { cls := .type "dict", data := .dict #[ent P "__module__" 724 (.str "raftkeep.messages" 488), ent P "__qualname__" 726 (.str "Snapshot" 725), ent P "__firstlineno__" 728 (.int 180 727), ent P "__init__" 739 (.ref 429), ent P "row" 746 (.ref 436), ent P "empty" 753 (.ref 443), ent P "copy" 760 (.ref 450), ent P "__static_attributes__" 765 (.ref 451)] 8 }
def o421 : Obj := co #[.str "Snapshot" 719, .str "Snapshot" 720, .str cu 721, .int 180 0, .int 0 0, .int 0 0, .int 0 0, .int 0 0, .ref 419, .bool false, .int 181 0, .ref 420, .none, .none, .none, .none, .int 722 0, .int 180 0, .str cu 723]
def o428 : Obj := co #[.str "__init__" 729, .str "Snapshot.__init__" 730, .str cu 731, .int 182 0, .int 5 0, .int 0 0, .int 0 0, .int 3 0, .ref 423, .bool true, .int 181 0, .ref 424, .none, .ref 425, .ref 426, .ref 427, .int 737 0, .int 182 0, .str cu 738]
def o429 : Obj := fnObj (methAt 31 0) "Snapshot.__init__" 428 "raftkeep.messages" 488
def o435 : Obj := co #[.str "row" 740, .str "Snapshot.row" 741, .str cu 742, .int 188 0, .int 1 0, .int 0 0, .int 0 0, .int 3 0, .ref 430, .bool true, .int 181 0, .ref 431, .none, .ref 432, .ref 433, .ref 434, .int 744 0, .int 188 0, .str cu 745]
def o436 : Obj := fnObj (methAt 31 1) "Snapshot.row" 435 "raftkeep.messages" 488
def o442 : Obj := co #[.str "empty" 747, .str "Snapshot.empty" 748, .str cu 749, .int 191 0, .int 1 0, .int 0 0, .int 0 0, .int 3 0, .ref 437, .bool true, .int 181 0, .ref 438, .none, .ref 439, .ref 440, .ref 441, .int 751 0, .int 191 0, .str cu 752]
def o443 : Obj := fnObj (methAt 31 2) "Snapshot.empty" 442 "raftkeep.messages" 488
def o449 : Obj := co #[.str "copy" 754, .str "Snapshot.copy" 755, .str cu 756, .int 194 0, .int 1 0, .int 0 0, .int 0 0, .int 3 0, .ref 444, .bool true, .int 181 0, .ref 445, .none, .ref 446, .ref 447, .ref 448, .int 758 0, .int 194 0, .str cu 759]
def o450 : Obj := fnObj (methAt 31 3) "Snapshot.copy" 449 "raftkeep.messages" 488
def o452 (P : Params) : Obj := { cls := .type "dict", data := .dict #[ent P "__module__" 724 (.str "raftkeep.messages" 488), ent P "__firstlineno__" 728 (.int 180 727), ent P "__init__" 739 (.ref 429), ent P "row" 746 (.ref 436), ent P "empty" 753 (.ref 443), ent P "copy" 760 (.ref 450), ent P "__static_attributes__" 765 (.ref 451), ent P "__dict__" 767 (.ref 454), ent P "__weakref__" 769 (.ref 455), ent P "__doc__" 770 (.none)] 4 }
noncomputable def o453 : Obj := { cls := .type "type", data := .cls { name := "Snapshot", bases := [.type "object"], mro := [.ref 453, .type "object"], ns := 452, qualname := "Snapshot" }, slots := #[none, none, some (.str "Snapshot" 717), some (.str "Snapshot" 725), some (.builtin "object.__new__"), some (.bool true)] }
def o454 : Obj := gd #[.str "__dict__" 766, .ref 453, .builtin "function.__dict__", .builtin "function.__dict__#set"]
def o455 : Obj := gd #[.str "__weakref__" 768, .ref 453, .builtin "ExceptionGroup.__weakref__", .none]
def o463 : Obj := co #[.str "encode_snapshot" 773, .str "encode_snapshot" 774, .str cu 775, .int 196 0, .int 1 0, .int 0 0, .int 0 0, .int 3 0, .ref 458, .bool true, .int 181 0, .ref 459, .none, .ref 460, .ref 461, .ref 462, .int 778 0, .int 196 0, .str cu 779]
def o464 : Obj := fnObj (stmtAt 32) "encode_snapshot" 463 "raftkeep.messages" 488
def o467 (P : Params) : Obj := { cls := .type "dict", data := .dict #[ent P "__module__" 788 (.str "raftkeep.messages" 488), ent P "__qualname__" 790 (.str "Message" 789), ent P "__firstlineno__" 792 (.int 203 791), ent P "__init__" 803 (.ref 478), ent P "row" 809 (.ref 483), ent P "copy" 815 (.ref 488), ent P "__static_attributes__" 828 (.ref 489)] 7 }
def o470 : Obj := co #[.str "Message" 783, .str "Message" 784, .str cu 785, .int 203 0, .int 0 0, .int 0 0, .int 0 0, .int 0 0, .ref 468, .bool false, .int 181 0, .ref 469, .none, .none, .none, .none, .int 786 0, .int 203 0, .str cu 787]
def o477 : Obj := co #[.str "__init__" 793, .str "Message.__init__" 794, .str cu 795, .int 205 0, .int 5 0, .int 0 0, .int 0 0, .int 3 0, .ref 472, .bool true, .int 181 0, .ref 473, .none, .ref 474, .ref 475, .ref 476, .int 801 0, .int 205 0, .str cu 802]
def o478 : Obj := fnObj (methAt 33 0) "Message.__init__" 477 "raftkeep.messages" 488
def o482 : Obj := co #[.str "row" 804, .str "Message.row" 805, .str cu 806, .int 219 0, .int 1 0, .int 0 0, .int 0 0, .int 3 0, .ref 479, .bool true, .int 181 0, .ref 480, .none, .none, .none, .ref 481, .int 807 0, .int 219 0, .str cu 808]
def o483 : Obj := fnObj (methAt 33 1) "Message.row" 482 "raftkeep.messages" 488
def o487 : Obj := co #[.str "copy" 810, .str "Message.copy" 811, .str cu 812, .int 226 0, .int 1 0, .int 0 0, .int 0 0, .int 3 0, .ref 484, .bool true, .int 181 0, .ref 485, .none, .none, .none, .ref 486, .int 813 0, .int 226 0, .str cu 814]
def o488 : Obj := fnObj (methAt 33 2) "Message.copy" 487 "raftkeep.messages" 488
def o490 (P : Params) : Obj := { cls := .type "dict", data := .dict #[ent P "__module__" 788 (.str "raftkeep.messages" 488), ent P "__firstlineno__" 792 (.int 203 791), ent P "__init__" 803 (.ref 478), ent P "row" 809 (.ref 483), ent P "copy" 815 (.ref 488), ent P "__static_attributes__" 828 (.ref 489), ent P "__dict__" 830 (.ref 492), ent P "__weakref__" 832 (.ref 493), ent P "__doc__" 833 (.none)] 4 }
noncomputable def o491 : Obj := { cls := .type "type", data := .cls { name := "Message", bases := [.type "object"], mro := [.ref 491, .type "object"], ns := 490, qualname := "Message" }, slots := #[none, none, some (.str "Message" 781), some (.str "Message" 789), some (.builtin "object.__new__"), some (.bool true)] }
def o492 : Obj := gd #[.str "__dict__" 829, .ref 491, .builtin "function.__dict__", .builtin "function.__dict__#set"]
def o493 : Obj := gd #[.str "__weakref__" 831, .ref 491, .builtin "ExceptionGroup.__weakref__", .none]
def o501 : Obj := co #[.str "encode_message" 836, .str "encode_message" 837, .str cu 838, .int 238 0, .int 1 0, .int 0 0, .int 0 0, .int 3 0, .ref 496, .bool true, .int 181 0, .ref 497, .none, .ref 498, .ref 499, .ref 500, .int 842 0, .int 238 0, .str cu 843]
def o502 : Obj := fnObj (stmtAt 34) "encode_message" 501 "raftkeep.messages" 488
def o505 (P : Params) : Obj := { cls := .type "dict", data := .dict #[ent P "__module__" 854 (.str "raftkeep.raftlog" 845), ent P "__qualname__" 856 (.str "MemoryStorage" 855), ent P "__firstlineno__" 858 (.int 258 857), ent P "__init__" 867 (.ref 516), ent P "initial_state" 874 (.ref 523), ent P "first_index" 881 (.ref 530), ent P "last_index" 888 (.ref 537), ent P "entries_between" 899 (.ref 544), ent P "term_at" 907 (.ref 551), ent P "snapshot" 914 (.ref 558), ent P "set_hard" 922 (.ref 565), ent P "append" 933 (.ref 572), ent P "apply_snapshot" 941 (.ref 579), ent P "create_snapshot" 951 (.ref 586), ent P "compact" 959 (.ref 593), ent P "row" 968 (.ref 600), ent P "__static_attributes__" 975 (.ref 601)] 17 }
def o508 : Obj := co #[.str "MemoryStorage" 849, .str "MemoryStorage" 850, .str cu 851, .int 258 0, .int 0 0, .int 0 0, .int 0 0, .int 0 0, .ref 506, .bool false, .int 181 0, .ref 507, .none, .none, .none, .none, .int 852 0, .int 258 0, .str cu 853]
def o515 : Obj := co #[.str "__init__" 859, .str "MemoryStorage.__init__" 860, .str cu 861, .int 260 0, .int 2 0, .int 0 0, .int 0 0, .int 3 0, .ref 510, .bool true, .int 181 0, .ref 511, .none, .ref 512, .ref 513, .ref 514, .int 865 0, .int 260 0, .str cu 866]
def o516 : Obj := fnObj (methAt 36 0) "MemoryStorage.__init__" 515 "raftkeep.raftlog" 845
def o522 : Obj := co #[.str "initial_state" 868, .str "MemoryStorage.initial_state" 869, .str cu 870, .int 271 0, .int 1 0, .int 0 0, .int 0 0, .int 3 0, .ref 517, .bool true, .int 181 0, .ref 518, .none, .ref 519, .ref 520, .ref 521, .int 872 0, .int 271 0, .str cu 873]
def o523 : Obj := fnObj (methAt 36 1) "MemoryStorage.initial_state" 522 "raftkeep.raftlog" 845
def o529 : Obj := co #[.str "first_index" 875, .str "MemoryStorage.first_index" 876, .str cu 877, .int 274 0, .int 1 0, .int 0 0, .int 0 0, .int 3 0, .ref 524, .bool true, .int 181 0, .ref 525, .none, .ref 526, .ref 527, .ref 528, .int 879 0, .int 274 0, .str cu 880]
def o530 : Obj := fnObj (methAt 36 2) "MemoryStorage.first_index" 529 "raftkeep.raftlog" 845
def o536 : Obj := co #[.str "last_index" 882, .str "MemoryStorage.last_index" 883, .str cu 884, .int 277 0, .int 1 0, .int 0 0, .int 0 0, .int 3 0, .ref 531, .bool true, .int 181 0, .ref 532, .none, .ref 533, .ref 534, .ref 535, .int 886 0, .int 277 0, .str cu 887]
def o537 : Obj := fnObj (methAt 36 3) "MemoryStorage.last_index" 536 "raftkeep.raftlog" 845
def o543 : Obj := co #[.str "entries_between" 889, .str "MemoryStorage.entries_between" 890, .str cu 891, .int 280 0, .int 4 0, .int 0 0, .int 0 0, .int 3 0, .ref 538, .bool true, .int 181 0, .ref 539, .none, .ref 540, .ref 541, .ref 542, .int 897 0, .int 280 0, .str cu 898]
def o544 : Obj := fnObj (methAt 36 4) "MemoryStorage.entries_between" 543 "raftkeep.raftlog" 845
def o550 : Obj := co #[.str "term_at" 900, .str "MemoryStorage.term_at" 901, .str cu 902, .int 290 0, .int 2 0, .int 0 0, .int 0 0, .int 3 0, .ref 545, .bool true, .int 181 0, .ref 546, .none, .ref 547, .ref 548, .ref 549, .int 905 0, .int 290 0, .str cu 906]
def o551 : Obj := fnObj (methAt 36 5) "MemoryStorage.term_at" 550 "raftkeep.raftlog" 845
def o557 : Obj := co #[.str "snapshot" 908, .str "MemoryStorage.snapshot" 909, .str cu 910, .int 299 0, .int 1 0, .int 0 0, .int 0 0, .int 3 0, .ref 552, .bool true, .int 181 0, .ref 553, .none, .ref 554, .ref 555, .ref 556, .int 912 0, .int 299 0, .str cu 913]
def o558 : Obj := fnObj (methAt 36 6) "MemoryStorage.snapshot" 557 "raftkeep.raftlog" 845
def o564 : Obj := co #[.str "set_hard" 915, .str "MemoryStorage.set_hard" 916, .str cu 917, .int 304 0, .int 2 0, .int 0 0, .int 0 0, .int 3 0, .ref 559, .bool true, .int 181 0, .ref 560, .none, .ref 561, .ref 562, .ref 563, .int 920 0, .int 304 0, .str cu 921]
def o565 : Obj := fnObj (methAt 36 7) "MemoryStorage.set_hard" 564 "raftkeep.raftlog" 845
def o571 : Obj := co #[.str "append" 923, .str "MemoryStorage.append" 924, .str cu 925, .int 307 0, .int 2 0, .int 0 0, .int 0 0, .int 3 0, .ref 566, .bool true, .int 181 0, .ref 567, .none, .ref 568, .ref 569, .ref 570, .int 931 0, .int 307 0, .str cu 932]
def o572 : Obj := fnObj (methAt 36 8) "MemoryStorage.append" 571 "raftkeep.raftlog" 845
def o578 : Obj := co #[.str "apply_snapshot" 934, .str "MemoryStorage.apply_snapshot" 935, .str cu 936, .int 324 0, .int 2 0, .int 0 0, .int 0 0, .int 3 0, .ref 573, .bool true, .int 181 0, .ref 574, .none, .ref 575, .ref 576, .ref 577, .int 939 0, .int 324 0, .str cu 940]
def o579 : Obj := fnObj (methAt 36 9) "MemoryStorage.apply_snapshot" 578 "raftkeep.raftlog" 845
def o585 : Obj := co #[.str "create_snapshot" 942, .str "MemoryStorage.create_snapshot" 943, .str cu 944, .int 333 0, .int 4 0, .int 0 0, .int 0 0, .int 3 0, .ref 580, .bool true, .int 181 0, .ref 581, .none, .ref 582, .ref 583, .ref 584, .int 949 0, .int 333 0, .str cu 950]
def o586 : Obj := fnObj (methAt 36 10) "MemoryStorage.create_snapshot" 585 "raftkeep.raftlog" 845
def o592 : Obj := co #[.str "compact" 952, .str "MemoryStorage.compact" 953, .str cu 954, .int 336 0, .int 2 0, .int 0 0, .int 0 0, .int 3 0, .ref 587, .bool true, .int 181 0, .ref 588, .none, .ref 589, .ref 590, .ref 591, .int 957 0, .int 336 0, .str cu 958]
def o593 : Obj := fnObj (methAt 36 11) "MemoryStorage.compact" 592 "raftkeep.raftlog" 845
def o599 : Obj := co #[.str "row" 960, .str "MemoryStorage.row" 961, .str cu 962, .int 339 0, .int 1 0, .int 0 0, .int 0 0, .int 3 0, .ref 594, .bool true, .int 181 0, .ref 595, .none, .ref 596, .ref 597, .ref 598, .int 966 0, .int 339 0, .str cu 967]
def o600 : Obj := fnObj (methAt 36 12) "MemoryStorage.row" 599 "raftkeep.raftlog" 845
def o602 (P : Params) : Obj := { cls := .type "dict", data := .dict #[ent P "__module__" 854 (.str "raftkeep.raftlog" 845), ent P "__firstlineno__" 858 (.int 258 857), ent P "__init__" 867 (.ref 516), ent P "initial_state" 874 (.ref 523), ent P "first_index" 881 (.ref 530), ent P "last_index" 888 (.ref 537), ent P "entries_between" 899 (.ref 544), ent P "term_at" 907 (.ref 551), ent P "snapshot" 914 (.ref 558), ent P "set_hard" 922 (.ref 565), ent P "append" 933 (.ref 572), ent P "apply_snapshot" 941 (.ref 579), ent P "create_snapshot" 951 (.ref 586), ent P "compact" 959 (.ref 593), ent P "row" 968 (.ref 600), ent P "__static_attributes__" 975 (.ref 601), ent P "__dict__" 977 (.ref 604), ent P "__weakref__" 979 (.ref 605), ent P "__doc__" 980 (.none)] 4 }
noncomputable def o603 : Obj := { cls := .type "type", data := .cls { name := "MemoryStorage", bases := [.type "object"], mro := [.ref 603, .type "object"], ns := 602, qualname := "MemoryStorage" }, slots := #[none, none, some (.str "MemoryStorage" 847), some (.str "MemoryStorage" 855), some (.builtin "object.__new__"), some (.bool true)] }
def o604 : Obj := gd #[.str "__dict__" 976, .ref 603, .builtin "function.__dict__", .builtin "function.__dict__#set"]
def o605 : Obj := gd #[.str "__weakref__" 978, .ref 603, .builtin "ExceptionGroup.__weakref__", .none]
def o610 (P : Params) : Obj := { cls := .type "dict", data := .dict #[ent P "__module__" 990 (.str "raftkeep.raftlog" 845), ent P "__qualname__" 992 (.str "Unstable" 991), ent P "__firstlineno__" 994 (.int 344 993), ent P "__init__" 1002 (.ref 621), ent P "maybe_first" 1009 (.ref 628), ent P "maybe_last" 1016 (.ref 635), ent P "maybe_term" 1024 (.ref 642), ent P "stable_to" 1034 (.ref 649), ent P "stable_snap_to" 1042 (.ref 656), ent P "restore" 1050 (.ref 663), ent P "truncate_and_append" 1059 (.ref 670), ent P "part" 1068 (.ref 677), ent P "row" 1078 (.ref 684), ent P "__static_attributes__" 1082 (.ref 685)] 14 }
def o613 : Obj := co #[.str "Unstable" 985, .str "Unstable" 986, .str cu 987, .int 344 0, .int 0 0, .int 0 0, .int 0 0, .int 0 0, .ref 611, .bool false, .int 181 0, .ref 612, .none, .none, .none, .none, .int 988 0, .int 344 0, .str cu 989]
def o620 : Obj := co #[.str "__init__" 995, .str "Unstable.__init__" 996, .str cu 997, .int 346 0, .int 2 0, .int 0 0, .int 0 0, .int 3 0, .ref 615, .bool true, .int 181 0, .ref 616, .none, .ref 617, .ref 618, .ref 619, .int 1000 0, .int 346 0, .str cu 1001]
def o621 : Obj := fnObj (methAt 37 0) "Unstable.__init__" 620 "raftkeep.raftlog" 845
def o627 : Obj := co #[.str "maybe_first" 1003, .str "Unstable.maybe_first" 1004, .str cu 1005, .int 351 0, .int 1 0, .int 0 0, .int 0 0, .int 3 0, .ref 622, .bool true, .int 181 0, .ref 623, .none, .ref 624, .ref 625, .ref 626, .int 1007 0, .int 351 0, .str cu 1008]
def o628 : Obj := fnObj (methAt 37 1) "Unstable.maybe_first" 627 "raftkeep.raftlog" 845
def o634 : Obj := co #[.str "maybe_last" 1010, .str "Unstable.maybe_last" 1011, .str cu 1012, .int 356 0, .int 1 0, .int 0 0, .int 0 0, .int 3 0, .ref 629, .bool true, .int 181 0, .ref 630, .none, .ref 631, .ref 632, .ref 633, .int 1014 0, .int 356 0, .str cu 1015]
def o635 : Obj := fnObj (methAt 37 2) "Unstable.maybe_last" 634 "raftkeep.raftlog" 845
def o641 : Obj := co #[.str "maybe_term" 1017, .str "Unstable.maybe_term" 1018, .str cu 1019, .int 363 0, .int 2 0, .int 0 0, .int 0 0, .int 3 0, .ref 636, .bool true, .int 181 0, .ref 637, .none, .ref 638, .ref 639, .ref 640, .int 1022 0, .int 363 0, .str cu 1023]
def o642 : Obj := fnObj (methAt 37 3) "Unstable.maybe_term" 641 "raftkeep.raftlog" 845
def o648 : Obj := co #[.str "stable_to" 1025, .str "Unstable.stable_to" 1026, .str cu 1027, .int 372 0, .int 3 0, .int 0 0, .int 0 0, .int 3 0, .ref 643, .bool true, .int 181 0, .ref 644, .none, .ref 645, .ref 646, .ref 647, .int 1032 0, .int 372 0, .str cu 1033]
def o649 : Obj := fnObj (methAt 37 4) "Unstable.stable_to" 648 "raftkeep.raftlog" 845
def o655 : Obj := co #[.str "stable_snap_to" 1035, .str "Unstable.stable_snap_to" 1036, .str cu 1037, .int 381 0, .int 2 0, .int 0 0, .int 0 0, .int 3 0, .ref 650, .bool true, .int 181 0, .ref 651, .none, .ref 652, .ref 653, .ref 654, .int 1040 0, .int 381 0, .str cu 1041]
def o656 : Obj := fnObj (methAt 37 5) "Unstable.stable_snap_to" 655 "raftkeep.raftlog" 845
def o662 : Obj := co #[.str "restore" 1043, .str "Unstable.restore" 1044, .str cu 1045, .int 384 0, .int 2 0, .int 0 0, .int 0 0, .int 3 0, .ref 657, .bool true, .int 181 0, .ref 658, .none, .ref 659, .ref 660, .ref 661, .int 1048 0, .int 384 0, .str cu 1049]
def o663 : Obj := fnObj (methAt 37 6) "Unstable.restore" 662 "raftkeep.raftlog" 845
def o669 : Obj := co #[.str "truncate_and_append" 1051, .str "Unstable.truncate_and_append" 1052, .str cu 1053, .int 387 0, .int 2 0, .int 0 0, .int 0 0, .int 3 0, .ref 664, .bool true, .int 181 0, .ref 665, .none, .ref 666, .ref 667, .ref 668, .int 1057 0, .int 387 0, .str cu 1058]
def o670 : Obj := fnObj (methAt 37 7) "Unstable.truncate_and_append" 669 "raftkeep.raftlog" 845
def o676 : Obj := co #[.str "part" 1060, .str "Unstable.part" 1061, .str cu 1062, .int 401 0, .int 3 0, .int 0 0, .int 0 0, .int 3 0, .ref 671, .bool true, .int 181 0, .ref 672, .none, .ref 673, .ref 674, .ref 675, .int 1066 0, .int 401 0, .str cu 1067]
def o677 : Obj := fnObj (methAt 37 8) "Unstable.part" 676 "raftkeep.raftlog" 845
def o683 : Obj := co #[.str "row" 1069, .str "Unstable.row" 1070, .str cu 1071, .int 408 0, .int 1 0, .int 0 0, .int 0 0, .int 3 0, .ref 678, .bool true, .int 181 0, .ref 679, .none, .ref 680, .ref 681, .ref 682, .int 1076 0, .int 408 0, .str cu 1077]
def o684 : Obj := fnObj (methAt 37 9) "Unstable.row" 683 "raftkeep.raftlog" 845
def o686 (P : Params) : Obj := { cls := .type "dict", data := .dict #[ent P "__module__" 990 (.str "raftkeep.raftlog" 845), ent P "__firstlineno__" 994 (.int 344 993), ent P "__init__" 1002 (.ref 621), ent P "maybe_first" 1009 (.ref 628), ent P "maybe_last" 1016 (.ref 635), ent P "maybe_term" 1024 (.ref 642), ent P "stable_to" 1034 (.ref 649), ent P "stable_snap_to" 1042 (.ref 656), ent P "restore" 1050 (.ref 663), ent P "truncate_and_append" 1059 (.ref 670), ent P "part" 1068 (.ref 677), ent P "row" 1078 (.ref 684), ent P "__static_attributes__" 1082 (.ref 685), ent P "__dict__" 1084 (.ref 688), ent P "__weakref__" 1086 (.ref 689), ent P "__doc__" 1087 (.none)] 4 }
noncomputable def o687 : Obj := { cls := .type "type", data := .cls { name := "Unstable", bases := [.type "object"], mro := [.ref 687, .type "object"], ns := 686, qualname := "Unstable" }, slots := #[none, none, some (.str "Unstable" 983), some (.str "Unstable" 991), some (.builtin "object.__new__"), some (.bool true)] }
def o688 : Obj := gd #[.str "__dict__" 1083, .ref 687, .builtin "function.__dict__", .builtin "function.__dict__#set"]
def o689 : Obj := gd #[.str "__weakref__" 1085, .ref 687, .builtin "ExceptionGroup.__weakref__", .none]
def o694 (P : Params) : Obj := { cls := .type "dict", data := .dict #[ent P "__module__" 1097 (.str "raftkeep.raftlog" 845), ent P "__qualname__" 1099 (.str "RaftLog" 1098), ent P "__firstlineno__" 1101 (.int 416 1100), ent P "__init__" 1111 (.ref 705), ent P "first_index" 1119 (.ref 712), ent P "last_index" 1127 (.ref 719), ent P "last_term" 1134 (.ref 726), ent P "term" 1143 (.ref 733), ent P "term_or_zero" 1151 (.ref 740), ent P "match_term" 1160 (.ref 747), ent P "up_to_date" 1169 (.ref 754), ent P "maybe_append" 1180 (.ref 761), ent P "append" 1189 (.ref 768), ent P "find_conflict" 1197 (.ref 775), ent P "conflict_by_term" 1206 (.ref 782), ent P "restore" 1214 (.ref 789), ent P "commit_to" 1222 (.ref 796), ent P "maybe_commit" 1231 (.ref 803), ent P "applied_to" 1239 (.ref 810), ent P "stable_to" 1248 (.ref 817), ent P "stable_snap_to" 1256 (.ref 824), ent P "unstable_entries" 1263 (.ref 831), ent P "pending_snapshot" 1270 (.ref 838), ent P "first_unapplied" 1277 (.ref 845), ent P "has_next" 1284 (.ref 852), ent P "next_committed" 1291 (.ref 859), ent P "snapshot" 1298 (.ref 866), ent P "entries" 1307 (.ref 873), ent P "all_entries" 1314 (.ref 880), ent P "slice" 1327 (.ref 887), ent P "row" 1334 (.ref 894), ent P "__static_attributes__" 1340 (.ref 895)] 32 }
def o697 : Obj := co #[.str "RaftLog" 1092, .str "RaftLog" 1093, .str cu 1094, .int 416 0, .int 0 0, .int 0 0, .int 0 0, .int 0 0, .ref 695, .bool false, .int 181 0, .ref 696, .none, .none, .none, .none, .int 1095 0, .int 416 0, .str cu 1096]
def o704 : Obj := co #[.str "__init__" 1102, .str "RaftLog.__init__" 1103, .str cu 1104, .int 418 0, .int 3 0, .int 0 0, .int 0 0, .int 3 0, .ref 699, .bool true, .int 181 0, .ref 700, .none, .ref 701, .ref 702, .ref 703, .int 1109 0, .int 418 0, .str cu 1110]
def o705 : Obj := fnObj (methAt 38 0) "RaftLog.__init__" 704 "raftkeep.raftlog" 845
def o711 : Obj := co #[.str "first_index" 1112, .str "RaftLog.first_index" 1113, .str cu 1114, .int 426 0, .int 1 0, .int 0 0, .int 0 0, .int 3 0, .ref 706, .bool true, .int 181 0, .ref 707, .none, .ref 708, .ref 709, .ref 710, .int 1117 0, .int 426 0, .str cu 1118]
def o712 : Obj := fnObj (methAt 38 1) "RaftLog.first_index" 711 "raftkeep.raftlog" 845
def o718 : Obj := co #[.str "last_index" 1120, .str "RaftLog.last_index" 1121, .str cu 1122, .int 432 0, .int 1 0, .int 0 0, .int 0 0, .int 3 0, .ref 713, .bool true, .int 181 0, .ref 714, .none, .ref 715, .ref 716, .ref 717, .int 1125 0, .int 432 0, .str cu 1126]
def o719 : Obj := fnObj (methAt 38 2) "RaftLog.last_index" 718 "raftkeep.raftlog" 845
def o725 : Obj := co #[.str "last_term" 1128, .str "RaftLog.last_term" 1129, .str cu 1130, .int 438 0, .int 1 0, .int 0 0, .int 0 0, .int 3 0, .ref 720, .bool true, .int 181 0, .ref 721, .none, .ref 722, .ref 723, .ref 724, .int 1132 0, .int 438 0, .str cu 1133]
def o726 : Obj := fnObj (methAt 38 3) "RaftLog.last_term" 725 "raftkeep.raftlog" 845
def o732 : Obj := co #[.str "term" 1135, .str "RaftLog.term" 1136, .str cu 1137, .int 441 0, .int 2 0, .int 0 0, .int 0 0, .int 3 0, .ref 727, .bool true, .int 181 0, .ref 728, .none, .ref 729, .ref 730, .ref 731, .int 1141 0, .int 441 0, .str cu 1142]
def o733 : Obj := fnObj (methAt 38 4) "RaftLog.term" 732 "raftkeep.raftlog" 845
def o739 : Obj := co #[.str "term_or_zero" 1144, .str "RaftLog.term_or_zero" 1145, .str cu 1146, .int 451 0, .int 2 0, .int 0 0, .int 0 0, .int 3 0, .ref 734, .bool true, .int 181 0, .ref 735, .none, .ref 736, .ref 737, .ref 738, .int 1149 0, .int 451 0, .str cu 1150]
def o740 : Obj := fnObj (methAt 38 5) "RaftLog.term_or_zero" 739 "raftkeep.raftlog" 845
def o746 : Obj := co #[.str "match_term" 1152, .str "RaftLog.match_term" 1153, .str cu 1154, .int 454 0, .int 3 0, .int 0 0, .int 0 0, .int 3 0, .ref 741, .bool true, .int 181 0, .ref 742, .none, .ref 743, .ref 744, .ref 745, .int 1158 0, .int 454 0, .str cu 1159]
def o747 : Obj := fnObj (methAt 38 6) "RaftLog.match_term" 746 "raftkeep.raftlog" 845
def o753 : Obj := co #[.str "up_to_date" 1161, .str "RaftLog.up_to_date" 1162, .str cu 1163, .int 457 0, .int 3 0, .int 0 0, .int 0 0, .int 3 0, .ref 748, .bool true, .int 181 0, .ref 749, .none, .ref 750, .ref 751, .ref 752, .int 1167 0, .int 457 0, .str cu 1168]
def o754 : Obj := fnObj (methAt 38 7) "RaftLog.up_to_date" 753 "raftkeep.raftlog" 845
def o760 : Obj := co #[.str "maybe_append" 1170, .str "RaftLog.maybe_append" 1171, .str cu 1172, .int 460 0, .int 5 0, .int 0 0, .int 0 0, .int 3 0, .ref 755, .bool true, .int 181 0, .ref 756, .none, .ref 757, .ref 758, .ref 759, .int 1178 0, .int 460 0, .str cu 1179]
def o761 : Obj := fnObj (methAt 38 8) "RaftLog.maybe_append" 760 "raftkeep.raftlog" 845
def o767 : Obj := co #[.str "append" 1181, .str "RaftLog.append" 1182, .str cu 1183, .int 463 0, .int 2 0, .int 0 0, .int 0 0, .int 3 0, .ref 762, .bool true, .int 181 0, .ref 763, .none, .ref 764, .ref 765, .ref 766, .int 1187 0, .int 463 0, .str cu 1188]
def o768 : Obj := fnObj (methAt 38 9) "RaftLog.append" 767 "raftkeep.raftlog" 845
def o774 : Obj := co #[.str "find_conflict" 1190, .str "RaftLog.find_conflict" 1191, .str cu 1192, .int 474 0, .int 2 0, .int 0 0, .int 0 0, .int 3 0, .ref 769, .bool true, .int 181 0, .ref 770, .none, .ref 771, .ref 772, .ref 773, .int 1195 0, .int 474 0, .str cu 1196]
def o775 : Obj := fnObj (methAt 38 10) "RaftLog.find_conflict" 774 "raftkeep.raftlog" 845
def o781 : Obj := co #[.str "conflict_by_term" 1198, .str "RaftLog.conflict_by_term" 1199, .str cu 1200, .int 477 0, .int 3 0, .int 0 0, .int 0 0, .int 3 0, .ref 776, .bool true, .int 181 0, .ref 777, .none, .ref 778, .ref 779, .ref 780, .int 1204 0, .int 477 0, .str cu 1205]
def o782 : Obj := fnObj (methAt 38 11) "RaftLog.conflict_by_term" 781 "raftkeep.raftlog" 845
def o788 : Obj := co #[.str "restore" 1207, .str "RaftLog.restore" 1208, .str cu 1209, .int 480 0, .int 2 0, .int 0 0, .int 0 0, .int 3 0, .ref 783, .bool true, .int 181 0, .ref 784, .none, .ref 785, .ref 786, .ref 787, .int 1212 0, .int 480 0, .str cu 1213]
def o789 : Obj := fnObj (methAt 38 12) "RaftLog.restore" 788 "raftkeep.raftlog" 845
def o795 : Obj := co #[.str "commit_to" 1215, .str "RaftLog.commit_to" 1216, .str cu 1217, .int 483 0, .int 2 0, .int 0 0, .int 0 0, .int 3 0, .ref 790, .bool true, .int 181 0, .ref 791, .none, .ref 792, .ref 793, .ref 794, .int 1220 0, .int 483 0, .str cu 1221]
def o796 : Obj := fnObj (methAt 38 13) "RaftLog.commit_to" 795 "raftkeep.raftlog" 845
def o802 : Obj := co #[.str "maybe_commit" 1223, .str "RaftLog.maybe_commit" 1224, .str cu 1225, .int 490 0, .int 3 0, .int 0 0, .int 0 0, .int 3 0, .ref 797, .bool true, .int 181 0, .ref 798, .none, .ref 799, .ref 800, .ref 801, .int 1229 0, .int 490 0, .str cu 1230]
def o803 : Obj := fnObj (methAt 38 14) "RaftLog.maybe_commit" 802 "raftkeep.raftlog" 845
def o809 : Obj := co #[.str "applied_to" 1232, .str "RaftLog.applied_to" 1233, .str cu 1234, .int 493 0, .int 2 0, .int 0 0, .int 0 0, .int 3 0, .ref 804, .bool true, .int 181 0, .ref 805, .none, .ref 806, .ref 807, .ref 808, .int 1237 0, .int 493 0, .str cu 1238]
def o810 : Obj := fnObj (methAt 38 15) "RaftLog.applied_to" 809 "raftkeep.raftlog" 845
def o816 : Obj := co #[.str "stable_to" 1240, .str "RaftLog.stable_to" 1241, .str cu 1242, .int 500 0, .int 3 0, .int 0 0, .int 0 0, .int 3 0, .ref 811, .bool true, .int 181 0, .ref 812, .none, .ref 813, .ref 814, .ref 815, .int 1246 0, .int 500 0, .str cu 1247]
def o817 : Obj := fnObj (methAt 38 16) "RaftLog.stable_to" 816 "raftkeep.raftlog" 845
def o823 : Obj := co #[.str "stable_snap_to" 1249, .str "RaftLog.stable_snap_to" 1250, .str cu 1251, .int 503 0, .int 2 0, .int 0 0, .int 0 0, .int 3 0, .ref 818, .bool true, .int 181 0, .ref 819, .none, .ref 820, .ref 821, .ref 822, .int 1254 0, .int 503 0, .str cu 1255]
def o824 : Obj := fnObj (methAt 38 17) "RaftLog.stable_snap_to" 823 "raftkeep.raftlog" 845
def o830 : Obj := co #[.str "unstable_entries" 1257, .str "RaftLog.unstable_entries" 1258, .str cu 1259, .int 506 0, .int 1 0, .int 0 0, .int 0 0, .int 3 0, .ref 825, .bool true, .int 181 0, .ref 826, .none, .ref 827, .ref 828, .ref 829, .int 1261 0, .int 506 0, .str cu 1262]
def o831 : Obj := fnObj (methAt 38 18) "RaftLog.unstable_entries" 830 "raftkeep.raftlog" 845
def o837 : Obj := co #[.str "pending_snapshot" 1264, .str "RaftLog.pending_snapshot" 1265, .str cu 1266, .int 509 0, .int 1 0, .int 0 0, .int 0 0, .int 3 0, .ref 832, .bool true, .int 181 0, .ref 833, .none, .ref 834, .ref 835, .ref 836, .int 1268 0, .int 509 0, .str cu 1269]
def o838 : Obj := fnObj (methAt 38 19) "RaftLog.pending_snapshot" 837 "raftkeep.raftlog" 845
def o844 : Obj := co #[.str "first_unapplied" 1271, .str "RaftLog.first_unapplied" 1272, .str cu 1273, .int 512 0, .int 1 0, .int 0 0, .int 0 0, .int 3 0, .ref 839, .bool true, .int 181 0, .ref 840, .none, .ref 841, .ref 842, .ref 843, .int 1275 0, .int 512 0, .str cu 1276]
def o845 : Obj := fnObj (methAt 38 20) "RaftLog.first_unapplied" 844 "raftkeep.raftlog" 845
def o851 : Obj := co #[.str "has_next" 1278, .str "RaftLog.has_next" 1279, .str cu 1280, .int 515 0, .int 1 0, .int 0 0, .int 0 0, .int 3 0, .ref 846, .bool true, .int 181 0, .ref 847, .none, .ref 848, .ref 849, .ref 850, .int 1282 0, .int 515 0, .str cu 1283]
def o852 : Obj := fnObj (methAt 38 21) "RaftLog.has_next" 851 "raftkeep.raftlog" 845
def o858 : Obj := co #[.str "next_committed" 1285, .str "RaftLog.next_committed" 1286, .str cu 1287, .int 520 0, .int 1 0, .int 0 0, .int 0 0, .int 3 0, .ref 853, .bool true, .int 181 0, .ref 854, .none, .ref 855, .ref 856, .ref 857, .int 1289 0, .int 520 0, .str cu 1290]
def o859 : Obj := fnObj (methAt 38 22) "RaftLog.next_committed" 858 "raftkeep.raftlog" 845
def o865 : Obj := co #[.str "snapshot" 1292, .str "RaftLog.snapshot" 1293, .str cu 1294, .int 525 0, .int 1 0, .int 0 0, .int 0 0, .int 3 0, .ref 860, .bool true, .int 181 0, .ref 861, .none, .ref 862, .ref 863, .ref 864, .int 1296 0, .int 525 0, .str cu 1297]
def o866 : Obj := fnObj (methAt 38 23) "RaftLog.snapshot" 865 "raftkeep.raftlog" 845
def o872 : Obj := co #[.str "entries" 1299, .str "RaftLog.entries" 1300, .str cu 1301, .int 530 0, .int 3 0, .int 0 0, .int 0 0, .int 3 0, .ref 867, .bool true, .int 181 0, .ref 868, .none, .ref 869, .ref 870, .ref 871, .int 1305 0, .int 530 0, .str cu 1306]
def o873 : Obj := fnObj (methAt 38 24) "RaftLog.entries" 872 "raftkeep.raftlog" 845
def o879 : Obj := co #[.str "all_entries" 1308, .str "RaftLog.all_entries" 1309, .str cu 1310, .int 535 0, .int 1 0, .int 0 0, .int 0 0, .int 3 0, .ref 874, .bool true, .int 181 0, .ref 875, .none, .ref 876, .ref 877, .ref 878, .int 1312 0, .int 535 0, .str cu 1313]
def o880 : Obj := fnObj (methAt 38 25) "RaftLog.all_entries" 879 "raftkeep.raftlog" 845
def o886 : Obj := co #[.str "slice" 1315, .str "RaftLog.slice" 1316, .str cu 1317, .int 538 0, .int 4 0, .int 0 0, .int 0 0, .int 3 0, .ref 881, .bool true, .int 181 0, .ref 882, .none, .ref 883, .ref 884, .ref 885, .int 1325 0, .int 538 0, .str cu 1326]
def o887 : Obj := fnObj (methAt 38 26) "RaftLog.slice" 886 "raftkeep.raftlog" 845
def o893 : Obj := co #[.str "row" 1328, .str "RaftLog.row" 1329, .str cu 1330, .int 561 0, .int 1 0, .int 0 0, .int 0 0, .int 3 0, .ref 888, .bool true, .int 181 0, .ref 889, .none, .ref 890, .ref 891, .ref 892, .int 1332 0, .int 561 0, .str cu 1333]
def o894 : Obj := fnObj (methAt 38 27) "RaftLog.row" 893 "raftkeep.raftlog" 845
def o896 (P : Params) : Obj := { cls := .type "dict", data := .dict #[ent P "__module__" 1097 (.str "raftkeep.raftlog" 845), ent P "__firstlineno__" 1101 (.int 416 1100), ent P "__init__" 1111 (.ref 705), ent P "first_index" 1119 (.ref 712), ent P "last_index" 1127 (.ref 719), ent P "last_term" 1134 (.ref 726), ent P "term" 1143 (.ref 733), ent P "term_or_zero" 1151 (.ref 740), ent P "match_term" 1160 (.ref 747), ent P "up_to_date" 1169 (.ref 754), ent P "maybe_append" 1180 (.ref 761), ent P "append" 1189 (.ref 768), ent P "find_conflict" 1197 (.ref 775), ent P "conflict_by_term" 1206 (.ref 782), ent P "restore" 1214 (.ref 789), ent P "commit_to" 1222 (.ref 796), ent P "maybe_commit" 1231 (.ref 803), ent P "applied_to" 1239 (.ref 810), ent P "stable_to" 1248 (.ref 817), ent P "stable_snap_to" 1256 (.ref 824), ent P "unstable_entries" 1263 (.ref 831), ent P "pending_snapshot" 1270 (.ref 838), ent P "first_unapplied" 1277 (.ref 845), ent P "has_next" 1284 (.ref 852), ent P "next_committed" 1291 (.ref 859), ent P "snapshot" 1298 (.ref 866), ent P "entries" 1307 (.ref 873), ent P "all_entries" 1314 (.ref 880), ent P "slice" 1327 (.ref 887), ent P "row" 1334 (.ref 894), ent P "__static_attributes__" 1340 (.ref 895), ent P "__dict__" 1342 (.ref 898), ent P "__weakref__" 1344 (.ref 899), ent P "__doc__" 1345 (.none)] 4 }
noncomputable def o897 : Obj := { cls := .type "type", data := .cls { name := "RaftLog", bases := [.type "object"], mro := [.ref 897, .type "object"], ns := 896, qualname := "RaftLog" }, slots := #[none, none, some (.str "RaftLog" 1090), some (.str "RaftLog" 1098), some (.builtin "object.__new__"), some (.bool true)] }
def o898 : Obj := gd #[.str "__dict__" 1341, .ref 897, .builtin "function.__dict__", .builtin "function.__dict__#set"]
def o899 : Obj := gd #[.str "__weakref__" 1343, .ref 897, .builtin "ExceptionGroup.__weakref__", .none]
def o907 : Obj := co #[.str "_law_folds" 1350, .str "_law_folds" 1351, .str cu 1352, .int 564 0, .int 0 0, .int 0 0, .int 0 0, .int 3 0, .ref 902, .bool true, .int 181 0, .ref 903, .none, .ref 904, .ref 905, .ref 906, .int 1353 0, .int 564 0, .str cu 1354]
def o908 : Obj := fnObj (stmtAt 40) "_law_folds" 907 "law_no0427_01" 1348
def o914 : Obj := co #[.str "_law_terms" 1356, .str "_law_terms" 1357, .str cu 1358, .int 566 0, .int 0 0, .int 0 0, .int 0 0, .int 3 0, .ref 909, .bool true, .int 181 0, .ref 910, .none, .ref 911, .ref 912, .ref 913, .int 1359 0, .int 566 0, .str cu 1360]
def o915 : Obj := fnObj (stmtAt 41) "_law_terms" 914 "law_no0427_01" 1348
def o921 : Obj := co #[.str "_law_lengths" 1362, .str "_law_lengths" 1363, .str cu 1364, .int 568 0, .int 0 0, .int 0 0, .int 0 0, .int 3 0, .ref 916, .bool true, .int 181 0, .ref 917, .none, .ref 918, .ref 919, .ref 920, .int 1365 0, .int 568 0, .str cu 1366]
def o922 : Obj := fnObj (stmtAt 42) "_law_lengths" 921 "law_no0427_01" 1348
def o928 : Obj := co #[.str "_law_limits" 1368, .str "_law_limits" 1369, .str cu 1370, .int 570 0, .int 0 0, .int 0 0, .int 0 0, .int 3 0, .ref 923, .bool true, .int 181 0, .ref 924, .none, .ref 925, .ref 926, .ref 927, .int 1371 0, .int 570 0, .str cu 1372]
def o929 : Obj := fnObj (stmtAt 43) "_law_limits" 928 "law_no0427_01" 1348
def o935 : Obj := co #[.str "_law_draw" 1374, .str "_law_draw" 1375, .str cu 1376, .int 572 0, .int 2 0, .int 0 0, .int 0 0, .int 3 0, .ref 930, .bool true, .int 181 0, .ref 931, .none, .ref 932, .ref 933, .ref 934, .int 1379 0, .int 572 0, .str cu 1380]
def o936 : Obj := fnObj (stmtAt 44) "_law_draw" 935 "law_no0427_01" 1348
def o942 : Obj := co #[.str "_law_width" 1382, .str "_law_width" 1383, .str cu 1384, .int 574 0, .int 1 0, .int 0 0, .int 0 0, .int 3 0, .ref 937, .bool true, .int 181 0, .ref 938, .none, .ref 939, .ref 940, .ref 941, .int 1386 0, .int 574 0, .str cu 1387]
def o943 : Obj := fnObj (stmtAt 45) "_law_width" 942 "law_no0427_01" 1348
def o947 : Obj := co #[.str "_law_weight" 1389, .str "_law_weight" 1390, .str cu 1391, .int 580 0, .int 1 0, .int 0 0, .int 0 0, .int 3 0, .ref 944, .bool true, .int 181 0, .ref 945, .none, .none, .none, .ref 946, .int 1392 0, .int 580 0, .str cu 1393]
def o948 : Obj := fnObj (stmtAt 46) "_law_weight" 947 "law_no0427_01" 1348
def o952 : Obj := co #[.str "_law_ends" 1395, .str "_law_ends" 1396, .str cu 1397, .int 583 0, .int 3 0, .int 0 0, .int 0 0, .int 3 0, .ref 949, .bool true, .int 181 0, .ref 950, .none, .none, .none, .ref 951, .int 1398 0, .int 583 0, .str cu 1399]
def o953 : Obj := fnObj (stmtAt 47) "_law_ends" 952 "law_no0427_01" 1348
def o957 : Obj := co #[.str "_law_fewest" 1401, .str "_law_fewest" 1402, .str cu 1403, .int 585 0, .int 2 0, .int 0 0, .int 0 0, .int 3 0, .ref 954, .bool true, .int 181 0, .ref 955, .none, .none, .none, .ref 956, .int 1404 0, .int 585 0, .str cu 1405]
def o958 : Obj := fnObj (stmtAt 48) "_law_fewest" 957 "law_no0427_01" 1348
def o964 : Obj := co #[.str "_law_no_size" 1407, .str "_law_no_size" 1408, .str cu 1409, .int 590 0, .int 3 0, .int 0 0, .int 0 0, .int 3 0, .ref 959, .bool true, .int 181 0, .ref 960, .none, .ref 961, .ref 962, .ref 963, .int 1413 0, .int 590 0, .str cu 1414]
def o965 : Obj := fnObj (stmtAt 49) "_law_no_size" 964 "law_no0427_01" 1348
def o969 : Obj := co #[.str "_law_rows" 1416, .str "_law_rows" 1417, .str cu 1418, .int 596 0, .int 1 0, .int 0 0, .int 0 0, .int 3 0, .ref 966, .bool true, .int 181 0, .ref 967, .none, .none, .none, .ref 968, .int 1419 0, .int 596 0, .str cu 1420]
def o970 : Obj := fnObj (stmtAt 50) "_law_rows" 969 "law_no0427_01" 1348
def o974 : Obj := co #[.str "_law_letter" 1422, .str "_law_letter" 1423, .str cu 1424, .int 598 0, .int 5 0, .int 0 0, .int 0 0, .int 3 0, .ref 971, .bool true, .int 181 0, .ref 972, .none, .none, .none, .ref 973, .int 1425 0, .int 598 0, .str cu 1426]
def o975 : Obj := fnObj (stmtAt 51) "_law_letter" 974 "law_no0427_01" 1348
def o981 : Obj := co #[.str "_law_apply" 1428, .str "_law_apply" 1429, .str cu 1430, .int 628 0, .int 5 0, .int 0 0, .int 0 0, .int 3 0, .ref 976, .bool true, .int 181 0, .ref 977, .none, .ref 978, .ref 979, .ref 980, .int 1440 0, .int 628 0, .str cu 1441]
def o982 : Obj := fnObj (stmtAt 52) "_law_apply" 981 "law_no0427_01" 1348
def o986 : Obj := co #[.str "law" 1443, .str "law" 1444, .str cu 1445, .int 639 0, .int 1 0, .int 0 0, .int 0 0, .int 3 0, .ref 983, .bool true, .int 181 0, .ref 984, .none, .none, .none, .ref 985, .int 1446 0, .int 639 0, .str cu 1447]
def o987 : Obj := fnObj (stmtAt 53) "law" 986 "law_no0427_01" 1348
def finT (P : Params) : BT :=
  (.node (boot_o_0 P) (.node (boot_o_1 P) (.node (o3 P) (.node (boot_o_7 P) (.node (tp #[]) (.node o31 (.node (fl #[]) (.node (o127 P) (.node (tp #[]) (.node (fl #[]) .nil .nil) (.node o767 .nil .nil)) (.node (tp #[.str "self" 676]) (.node (tp #[]) .nil .nil) (.node (tp #[.str "applied" 1335, .str "committed" 1336, .str "max_committed" 1337, .str "storage" 1338, .str "unstable" 1339]) .nil .nil))) (.node o191 (.node (bf #[.builtin "type.__prepare__", .type "type"]) (.node (tp #[.str "self" 937, .str "snapshot" 938]) .nil .nil) (.node o831 .nil .nil)) (.node (tp #[]) (.node (fnObj0 (methAt 38 0) "RaftLog.__init__" 0) .nil .nil) (.node (tp #[]) .nil .nil)))) (.node (tp #[.ref 68]) (.node (tp #[.str "n" 385]) (.node (fnObj0 (methAt 24 3) "Entry.payload" 0) (.node o543 .nil .nil) (.node (tp #[.str "self" 1226, .str "i" 1227, .str "term" 1228]) .nil .nil)) (.node o415 (.node (tp #[]) .nil .nil) (.node (fnObj0 (stmtAt 43) "_law_limits" 0) .nil .nil))) (.node (tp #[]) (.node o351 (.node (bf #[.builtin "object.__init_subclass__", .ref 603]) .nil .nil) (.node (tp #[]) .nil .nil)) (.node (tp #[]) (.node (fl #[]) .nil .nil) .nil)))) (.node (tp #[.ref 44]) (.node (o79 P) (.node (tp #[]) (.node (tp #[.str "self" 529]) (.node (tp #[]) .nil .nil) (.node (tp #[]) .nil .nil)) (.node o399 (.node o655 .nil .nil) (.node (tp #[]) .nil .nil))) (.node (fl #[]) (.node (tp #[]) (.node (fnObj0 (methAt 36 11) "MemoryStorage.compact" 0) .nil .nil) (.node (fl #[]) .nil .nil)) (.node o463 (.node o719 .nil .nil) (.node o975 .nil .nil)))) (.node (fl #[]) (.node (fl #[.int 55 0, .int 4 0, .ref 183, .int 58 0, .int 4 0, .ref 190, .int 64 0, .int 4 0, .ref 197, .int 67 0, .int 4 0, .ref 204, .int 70 0, .int 4 0, .ref 211, .int 74 0, .int 4 0, .ref 218, .int 79 0, .int 4 0, .ref 225, .int 85 0, .int 4 0, .ref 232, .int 88 0, .int 4 0, .ref 239]) (.node (bf #[.builtin "object.__init_subclass__", .ref 299]) (.node (tp #[]) .nil .nil) (.node (fnObj0 (methAt 38 16) "RaftLog.stable_to" 0) .nil .nil)) (.node (fl #[]) (.node o687 .nil .nil) (.node o943 .nil .nil))) (.node o239 (.node (tp #[]) (.node (fl #[]) .nil .nil) (.node o879 .nil .nil)) (.node (bf #[.builtin "object.__init_subclass__", .ref 491]) (.node (tp #[]) .nil .nil) .nil))))) (.node (bf #[.builtin "type.__prepare__", .type "type"]) (.node (fl #[]) (.node (tp #[.ref 68]) (.node (fl #[]) (.node (fl #[]) (.node (tp #[.str "self" 871]) .nil .nil) (.node o775 .nil .nil)) (.node (tp #[]) (.node (fnObj0 (methAt 37 4) "Unstable.stable_to" 0) .nil .nil) (.node (fl #[]) .nil .nil))) (.node (tp #[]) (.node (tp #[.str "self" 602, .str "term" 603, .str "vote" 604, .str "commit" 605]) (.node (tp #[]) .nil .nil) (.node (tp #[]) .nil .nil)) (.node o455 (.node o711 .nil .nil) (.node (fl #[]) .nil .nil)))) (.node (o103 P) (.node (tp #[]) (.node o295 (.node o551 .nil .nil) (.node (tp #[]) .nil .nil)) (.node (tp #[]) (.node (fl #[]) .nil .nil) (.node o935 .nil .nil))) (.node (fnObj0 (methAt 19 7) "Sink.raw" 0) (.node o359 (.node (tp #[]) .nil .nil) (.node (fnObj0 (methAt 38 24) "RaftLog.entries" 0) .nil .nil)) (.node o487 (.node (tp #[.str "self" 1155, .str "i" 1156, .str "t" 1157]) .nil .nil) .nil)))) (.node (o55 P) (.node (fl #[]) (.node (fl #[]) (.node (tp #[]) (.node (fnObj0 (methAt 36 3) "MemoryStorage.last_index" 0) .nil .nil) (.node (fl #[]) .nil .nil)) (.node o407 (.node o663 .nil .nil) (.node (tp #[]) .nil .nil))) (.node (tp #[.str "self" 451, .str "n" 452]) (.node (fnObj0 (methAt 27 2) "HardState.empty" 0) (.node o599 .nil .nil) (.node (tp #[.str "self" 1288]) .nil .nil)) (.node { cls := .type "frame", slots := #[some (.ref 470), some (.ref 3), some (.ref 467), none, some (.str "raftkeep.messages" 488), none, some (.ref 0)] } (.node (tp #[]) .nil .nil) (.node (tp #[]) .nil .nil)))) (.node (tp #[.ref 68]) (.node o183 (.node (tp #[]) (.node (fl #[]) .nil .nil) (.node o823 .nil .nil)) (.node (tp #[.str "self" 750]) (.node (tp #[]) .nil .nil) (.node (fnObj0 (stmtAt 47) "_law_ends" 0) .nil .nil))) (.node (bf #[.builtin "object.__init_subclass__", .ref 243]) (.node (fl #[]) (.node (tp #[.str "self" 1013]) .nil .nil) (.node o887 .nil .nil)) (.node (tp #[]) (.node (fnObj0 (methAt 38 8) "RaftLog.maybe_append" 0) .nil .nil) .nil)))))) (.node (tp #[]) (.node (fnObj0 (stmtAt 0) "_wall" 0) (.node (tp #[.ref 31]) (.node (o67 P) (.node (tp #[.ref 68]) (.node (fl #[.int 101 0, .int 4 0, .ref 267, .int 107 0, .int 4 0, .ref 274, .int 110 0, .int 4 0, .ref 281, .int 113 0, .int 4 0, .ref 288, .int 116 0, .int 4 0, .ref 295]) (.node o515 .nil .nil) (.node (tp #[.str "self" 1193, .str "entries" 1194]) .nil .nil)) (.node o387 (.node (tp #[]) .nil .nil) (.node o899 .nil .nil))) (.node (tp #[]) (.node o323 (.node o579 .nil .nil) (.node (tp #[]) .nil .nil)) (.node (tp #[.str "conf" 761, .str "data" 762, .str "index" 763, .str "term" 764]) (.node (fl #[]) .nil .nil) (.node (fnObj0 (stmtAt 49) "_law_no_size" 0) .nil .nil)))) (.node (fl #[]) (.node o163 (.node (fl #[]) (.node (tp #[.str "self" 903, .str "i" 904]) .nil .nil) (.node o803 .nil .nil)) (.node (tp #[]) (.node (fnObj0 (methAt 37 8) "Unstable.part" 0) .nil .nil) (.node (fl #[]) .nil .nil))) (.node (tp #[]) (.node (tp #[.str "self" 634]) (.node (tp #[]) .nil .nil) (.node (tp #[]) .nil .nil)) (.node o483 (.node o739 .nil .nil) .nil)))) (.node (fl #[]) (.node (tp #[.ref 68]) (.node (fnObj0 (stmtAt 15) "write_groups" 0) (.node o275 (.node (tp #[]) .nil .nil) (.node (fnObj0 (methAt 38 12) "RaftLog.restore" 0) .nil .nil)) (.node (fl #[]) (.node (tp #[.str "self" 1046, .str "snapshot" 1047]) .nil .nil) (.node o915 .nil .nil))) (.node o211 (.node (tp #[]) (.node (fl #[]) .nil .nil) (.node o851 .nil .nil)) (.node (o467 P) (.node (tp #[]) .nil .nil) (.node (tp #[]) .nil .nil)))) (.node (o115 P) (.node (fl #[]) (.node (tp #[]) (.node (fnObj0 (methAt 36 7) "MemoryStorage.set_hard" 0) .nil .nil) (.node (fl #[]) .nil .nil)) (.node o435 (.node (bf #[.builtin "object.__init_subclass__", .ref 687]) .nil .nil) (.node o947 .nil .nil))) (.node o243 (.node (fl #[.int 156 0, .int 4 0, .ref 379, .int 163 0, .int 4 0, .ref 386, .int 166 0, .int 4 0, .ref 393]) (.node o627 .nil .nil) (.node (tp #[.str "self" 1318, .str "lo" 1319, .str "hi" 1320, .str "limit" 1321, .str "offset" 1322, .str "found" 1323, .str "end" 1324]) .nil .nil)) (.node (tp #[]) (.node (tp #[]) .nil .nil) .nil))))) (.node o27 (.node (o43 P) (.node (fl #[]) (.node (o139 P) (.node o267 (.node o523 .nil .nil) (.node (tp #[]) .nil .nil)) (.node (tp #[.str "auto_leave" 687, .str "learners" 688, .str "learners_next" 689, .str "outgoing" 690, .str "voters" 691]) (.node (fl #[]) .nil .nil) (.node o907 .nil .nil))) (.node (fnObj0 (methAt 19 3) "Sink.fixed64" 0) (.node o331 (.node (tp #[]) .nil .nil) (.node (fnObj0 (methAt 38 20) "RaftLog.first_unapplied" 0) .nil .nil)) (.node (fl #[]) (.node (tp #[.str "self" 1123, .str "i" 1124]) .nil .nil) (.node (tp #[]) .nil .nil)))) (.node (tp #[.ref 68]) (.node (tp #[]) (.node o299 (.node (tp #[]) .nil .nil) (.node (tp #[]) .nil .nil)) (.node (fnObj0 (methAt 31 0) "Snapshot.__init__" 0) (.node o683 .nil .nil) (.node (tp #[.str "n" 1385]) .nil .nil))) (.node (fl #[]) (.node o363 (.node (fnObj0 (methAt 37 0) "Unstable.__init__" 0) .nil .nil) (.node (fl #[]) .nil .nil)) (.node o491 (.node o747 .nil .nil) .nil)))) (.node (tp #[.ref 31]) (.node (o91 P) (.node o155 (.node (tp #[]) (.node (fl #[]) .nil .nil) (.node o795 .nil .nil)) (.node (tp #[.str "conf" 712, .str "sink" 713]) (.node (tp #[]) .nil .nil) (.node (tp #[]) .nil .nil))) (.node o219 (.node (fl #[]) (.node o603 .nil .nil) (.node o859 .nil .nil)) (.node (tp #[]) (.node (fnObj0 (methAt 38 4) "RaftLog.term" 0) .nil .nil) (.node o987 .nil .nil)))) (.node (fl #[]) (.node (tp #[.str "self" 419, .str "n" 420]) (.node (fnObj0 (stmtAt 26) "limit_size" 0) (.node o571 .nil .nil) (.node (tp #[.str "self" 1260]) .nil .nil)) (.node o443 (.node (tp #[]) .nil .nil) (.node (fl #[]) .nil .nil))) (.node (tp #[]) (.node o379 (.node o635 .nil .nil) (.node (tp #[]) .nil .nil)) (.node (fl #[.int 260 0, .int 4 0, .ref 515, .int 271 0, .int 4 0, .ref 522, .int 274 0, .int 4 0, .ref 529, .int 277 0, .int 4 0, .ref 536, .int 280 0, .int 4 0, .ref 543, .int 290 0, .int 4 0, .ref 550, .int 299 0, .int 4 0, .ref 557, .int 304 0, .int 4 0, .ref 564, .int 307 0, .int 4 0, .ref 571, .int 324 0, .int 4 0, .ref 578, .int 333 0, .int 4 0, .ref 585, .int 336 0, .int 4 0, .ref 592, .int 339 0, .int 4 0, .ref 599]) (.node (fl #[]) .nil .nil) .nil))))))) (.node (boot_o_5 P) (.node (boot_o_9 P) (.node (tp #[.str "k" 190]) (.node (sp #[.ref 31, .ref 31, .ref 31]) (.node { cls := .type "frame", slots := #[some (.ref 64), some (.ref 3), some (.ref 61), none, some (.str "raftkeep.errors" 194), none, some (.ref 0)] } (.node (sp #[.ref 128, .ref 128, .ref 128]) (.node (o257 P) (.node (tp #[]) .nil .nil) (.node (tp #[]) .nil .nil)) (.node (fnObj0 (methAt 28 1) "ConfState.row" 0) (.node o641 .nil .nil) (.node o897 .nil .nil))) (.node (fl #[]) (.node (tp #[]) (.node (fnObj0 (methAt 36 9) "MemoryStorage.apply_snapshot" 0) .nil .nil) (.node (fl #[]) .nil .nil)) (.node o449 (.node o705 .nil .nil) (.node (tp #[.str "term" 1410, .str "index" 1411, .str "kind" 1412]) .nil .nil)))) (.node (o97 P) (.node (fnObj0 (stmtAt 17) "put_varint32" 0) (.node o289 (.node (tp #[]) .nil .nil) (.node (fnObj0 (methAt 38 14) "RaftLog.maybe_commit" 0) .nil .nil)) (.node (bf #[.builtin "type.__prepare__", .type "type"]) (.node (tp #[.str "self" 1063, .str "lo" 1064, .str "hi" 1065]) .nil .nil) (.node o929 .nil .nil))) (.node o225 (.node (tp #[]) (.node (bf #[.builtin "type.__prepare__", .type "type"]) .nil .nil) (.node o865 .nil .nil)) (.node (fnObj0 (methAt 33 1) "Message.row" 0) (.node (tp #[]) .nil .nil) .nil)))) (.node (o49 P) (.node (sp #[.ref 80, .ref 80, .ref 80]) (.node (tp #[.str "n" 369, .str "most" 370, .str "out" 371]) (.node (fnObj0 (methAt 24 1) "Entry.row" 0) (.node o529 .nil .nil) (.node (tp #[.str "self" 1210, .str "snapshot" 1211]) .nil .nil)) (.node (bf #[.builtin "object.__init_subclass__", .ref 397]) (.node (tp #[]) .nil .nil) (.node (fnObj0 (stmtAt 41) "_law_terms" 0) .nil .nil))) (.node (tp #[]) (.node o337 (.node o593 .nil .nil) (.node (tp #[]) .nil .nil)) (.node (tp #[]) (.node (fl #[]) .nil .nil) (.node (fl #[]) .nil .nil)))) (.node { cls := .type "frame", slots := #[some (.ref 112), some (.ref 3), some (.ref 109), none, some (.str "raftkeep.errors" 194), none, some (.ref 0)] } (.node { cls := .type "frame", slots := #[some (.ref 176), some (.ref 3), some (.ref 173), none, some (.str "raftkeep.octets" 360), none, some (.ref 0)] } (.node (fl #[]) (.node (tp #[.str "self" 918, .str "hard" 919]) .nil .nil) (.node o817 .nil .nil)) (.node (tp #[]) (.node o689 .nil .nil) (.node (fl #[]) .nil .nil))) (.node (tp #[.str "parts" 479]) (.node (o369 P) (.node (tp #[]) .nil .nil) (.node (tp #[]) .nil .nil)) (.node (fl #[]) (.node o753 .nil .nil) .nil))))) (.node (tp #[]) (.node { cls := .type "frame", slots := #[some (.ref 40), some (.ref 3), some (.ref 37), none, some (.str "raftkeep.errors" 194), none, some (.ref 0)] } (.node (o73 P) (.node { cls := .type "frame", slots := #[some (.ref 136), some (.ref 3), some (.ref 133), none, some (.str "raftkeep.errors" 194), none, some (.ref 0)] } (.node (tp #[]) (.node (fnObj0 (methAt 36 1) "MemoryStorage.initial_state" 0) .nil .nil) (.node (fl #[]) .nil .nil)) (.node o393 (.node o649 .nil .nil) (.node (tp #[]) .nil .nil))) (.node (tp #[.str "self" 435, .str "n" 436]) (.node (fnObj0 (methAt 27 0) "HardState.__init__" 0) (.node o585 .nil .nil) (.node (tp #[.str "self" 1274]) .nil .nil)) (.node (bf #[.builtin "object.__init_subclass__", .ref 453]) (.node (tp #[]) .nil .nil) (.node o969 .nil .nil)))) (.node (sp #[.ref 104, .ref 104, .ref 104]) (.node o169 (.node (tp #[.str "data" 556, .str "index" 557, .str "kind" 558, .str "term" 559]) (.node (fl #[]) .nil .nil) (.node o809 .nil .nil)) (.node (tp #[.str "self" 732, .str "index" 733, .str "term" 734, .str "conf" 735, .str "data" 736]) (.node (tp #[]) .nil .nil) (.node (tp #[]) .nil .nil))) (.node o233 (.node (o361 P) (.node (tp #[.str "self" 998, .str "offset" 999]) .nil .nil) (.node o873 .nil .nil)) (.node (tp #[.str "commit" 816, .str "context" 817, .str "entries" 818, .str "frm" 819, .str "index" 820, .str "kind" 821, .str "log_term" 822, .str "reject" 823, .str "reject_hint" 824, .str "snapshot" 825, .str "term" 826, .str "to" 827]) (.node (fnObj0 (methAt 38 6) "RaftLog.match_term" 0) .nil .nil) .nil)))) (.node (sp #[.ref 56, .ref 56, .ref 56]) (.node { cls := .type "frame", slots := #[some (.ref 88), some (.ref 3), some (.ref 85), none, some (.str "raftkeep.errors" 194), none, some (.ref 0)] } (.node (tp #[]) (.node o281 (.node o537 .nil .nil) (.node (tp #[]) .nil .nil)) (.node (tp #[]) (.node (fl #[]) .nil .nil) (.node o921 .nil .nil))) (.node (fnObj0 (methAt 19 5) "Sink.octet" 0) (.node o345 (.node (tp #[.str "base_index" 969, .str "base_term" 970, .str "conf" 971, .str "entries" 972, .str "hard" 973, .str "snap" 974]) .nil .nil) (.node (fnObj0 (methAt 38 22) "RaftLog.next_committed" 0) .nil .nil)) (.node (fl #[]) (.node (tp #[.str "self" 1138, .str "i" 1139, .str "known" 1140]) .nil .nil) (.node (fnObj0 (stmtAt 53) "law" 0) .nil .nil)))) (.node (o121 P) (.node (tp #[]) (.node (tp #[.str "entries" 579, .str "n" 580, .str "total" 581, .str "kept" 582, .str "entry" 583]) (.node (tp #[]) .nil .nil) (.node (tp #[]) .nil .nil)) (.node (fnObj0 (methAt 31 2) "Snapshot.empty" 0) (.node o697 .nil .nil) (.node o953 .nil .nil))) (.node (fl #[]) (.node (tp #[]) (.node (fnObj0 (methAt 37 2) "Unstable.maybe_last" 0) .nil .nil) (.node (fl #[]) .nil .nil)) (.node (o505 P) (.node o761 .nil .nil) .nil)))))) (.node o13 (.node o21 (.node (o37 P) (.node (sp #[.ref 68, .ref 68, .ref 68]) (.node (o133 P) (.node { cls := .type "frame", slots := #[some (.ref 260), some (.ref 3), some (.ref 257), none, some (.str "raftkeep.messages" 488), none, some (.ref 0)] } (.node (tp #[]) .nil .nil) (.node (fnObj0 (methAt 38 10) "RaftLog.find_conflict" 0) .nil .nil)) (.node (fl #[]) (.node (tp #[.str "self" 1028, .str "i" 1029, .str "term" 1030, .str "found" 1031]) .nil .nil) (.node (bf #[.builtin "object.__init_subclass__", .ref 897]) .nil .nil))) (.node o197 (.node (tp #[]) (.node (fl #[]) .nil .nil) (.node o837 .nil .nil)) (.node o453 (.node (tp #[]) .nil .nil) (.node o965 .nil .nil)))) (.node { cls := .type "frame", slots := #[some (.ref 100), some (.ref 3), some (.ref 97), none, some (.str "raftkeep.errors" 194), none, some (.ref 0)] } (.node (fl #[]) (.node (tp #[]) (.node (fnObj0 (methAt 36 5) "MemoryStorage.term_at" 0) .nil .nil) (.node (fl #[]) .nil .nil)) (.node o421 (.node o677 .nil .nil) (.node (tp #[]) .nil .nil))) (.node (tp #[.str "self" 467, .str "b" 468]) (.node (fnObj0 (methAt 27 4) "HardState.copy" 0) (.node o613 .nil .nil) (.node (tp #[.str "self" 1302, .str "i" 1303, .str "limit" 1304]) .nil .nil)) (.node (fl #[]) (.node (tp #[]) .nil .nil) .nil)))) (.node { cls := .type "frame", slots := #[some (.ref 52), some (.ref 3), some (.ref 49), none, some (.str "raftkeep.errors" 194), none, some (.ref 0)] } (.node (o85 P) (.node o149 (.node (fl #[]) (.node (tp #[.str "self" 885]) .nil .nil) (.node o789 .nil .nil)) (.node (tp #[]) (.node (fnObj0 (methAt 37 6) "Unstable.restore" 0) .nil .nil) (.node (fl #[]) .nil .nil))) (.node (tp #[]) (.node (tp #[.str "self" 619]) (.node (tp #[]) .nil .nil) (.node (tp #[]) .nil .nil)) (.node (fl #[.int 205 0, .int 4 0, .ref 477, .int 219 0, .int 4 0, .ref 482, .int 226 0, .int 4 0, .ref 487]) (.node o725 .nil .nil) (.node o981 .nil .nil)))) (.node (sp #[.ref 116, .ref 116, .ref 116]) (.node (tp #[]) (.node o309 (.node o565 .nil .nil) (.node (tp #[]) .nil .nil)) (.node (tp #[]) (.node (bf #[.builtin "type.__prepare__", .type "type"]) .nil .nil) (.node (tp #[]) .nil .nil))) (.node o245 (.node { cls := .type "frame", slots := #[some (.ref 372), some (.ref 3), some (.ref 369), none, some (.str "raftkeep.messages" 488), none, some (.ref 0)] } (.node (tp #[]) .nil .nil) (.node (fnObj0 (methAt 38 26) "RaftLog.slice" 0) .nil .nil)) (.node o501 (.node (tp #[.str "self" 1173, .str "index" 1174, .str "log_term" 1175, .str "committed" 1176, .str "entries" 1177]) .nil .nil) .nil))))) (.node (tp #[]) (.node (sp #[.ref 44, .ref 44, .ref 44]) (.node { cls := .type "frame", slots := #[some (.ref 76), some (.ref 3), some (.ref 73), none, some (.str "raftkeep.errors" 194), none, some (.ref 0)] } (.node (sp #[.ref 140, .ref 140, .ref 140]) (.node (tp #[]) (.node (fl #[]) .nil .nil) (.node o781 .nil .nil)) (.node o397 (.node (tp #[]) .nil .nil) (.node (tp #[]) .nil .nil))) (.node o205 (.node (fl #[]) (.node (tp #[.str "self" 955, .str "i" 956]) .nil .nil) (.node o845 .nil .nil)) (.node (tp #[]) (.node (fnObj0 (methAt 38 2) "RaftLog.last_index" 0) .nil .nil) (.node (fnObj0 (stmtAt 51) "_law_letter" 0) .nil .nil)))) (.node (o109 P) (.node (o173 P) (.node o301 (.node o557 .nil .nil) (.node (tp #[.str "self" 1243, .str "i" 1244, .str "term" 1245]) .nil .nil)) (.node o429 (.node (tp #[.str "entries" 1079, .str "offset" 1080, .str "snapshot" 1081]) .nil .nil) (.node (fnObj0 (stmtAt 45) "_law_width" 0) .nil .nil))) (.node (tp #[]) (.node (sp #[.ref 362, .ref 362, .ref 362]) (.node o621 .nil .nil) (.node (tp #[]) .nil .nil)) (.node o493 (.node (fl #[]) .nil .nil) .nil)))) (.node (o61 P) (.node (sp #[.ref 92, .ref 92, .ref 92]) (.node (tp #[]) (.node (tp #[.str "self" 543]) (.node (tp #[]) .nil .nil) (.node (tp #[]) .nil .nil)) (.node (fnObj0 (stmtAt 30) "encode_conf" 0) (.node o669 .nil .nil) (.node (tp #[]) .nil .nil))) (.node (fl #[]) (.node (tp #[]) (.node o605 .nil .nil) (.node (fl #[]) .nil .nil)) (.node o477 (.node o733 .nil .nil) .nil))) (.node { cls := .type "frame", slots := #[some (.ref 124), some (.ref 3), some (.ref 121), none, some (.str "raftkeep.errors" 194), none, some (.ref 0)] } (.node (fnObj0 (methAt 19 1) "Sink.varint" 0) (.node o317 (.node (tp #[]) .nil .nil) (.node (fnObj0 (methAt 38 18) "RaftLog.unstable_entries" 0) .nil .nil)) (.node (fl #[]) (.node (tp #[.str "self" 1105, .str "storage" 1106, .str "max_committed" 1107, .str "first" 1108]) .nil .nil) (.node o957 .nil .nil))) (.node o253 (.node (tp #[]) (.node (fl #[]) .nil .nil) (.node o893 .nil .nil)) (.node { cls := .type "frame", slots := #[some (.ref 508), some (.ref 3), some (.ref 505), none, some (.str "raftkeep.raftlog" 845), none, some (.ref 0)] } (.node (tp #[]) .nil .nil) .nil)))))))) (.node (o2 P) (.node (boot_o_4 P) (.node (boot_o_8 P) (.node (fl #[]) (.node o32 (.node o64 (.node o128 (.node (bf #[.builtin "type.__prepare__", .type "type"]) (.node (tp #[.str "self" 862, .str "conf" 863, .str "begin" 864]) .nil .nil) (.node o768 .nil .nil)) (.node (tp #[]) (.node (fnObj0 (methAt 37 3) "Unstable.maybe_term" 0) .nil .nil) (.node (o896 P) .nil .nil))) (.node (tp #[]) (.node (o320 P) (.node (tp #[]) .nil .nil) (.node (tp #[]) .nil .nil)) (.node (fnObj0 (methAt 31 3) "Snapshot.copy" 0) (.node o704 .nil .nil) (.node (fl #[]) .nil .nil)))) (.node (bf #[.builtin "type.__prepare__", .type "type"]) (.node (tp #[]) (.node o288 (.node o544 .nil .nil) (.node (tp #[]) .nil .nil)) (.node (tp #[]) (.node (fl #[]) .nil .nil) (.node o928 .nil .nil))) (.node (fnObj0 (methAt 19 6) "Sink.flag" 0) (.node o352 (.node (tp #[]) .nil .nil) (.node (fnObj0 (methAt 38 23) "RaftLog.snapshot" 0) .nil .nil)) (.node (fl #[]) (.node (tp #[.str "self" 1147, .str "i" 1148]) .nil .nil) .nil)))) (.node (bf #[.builtin "type.__prepare__", .type "type"]) (.node o80 (.node (fl #[]) (.node (tp #[]) (.node (fnObj0 (methAt 36 2) "MemoryStorage.first_index" 0) .nil .nil) (.node (fl #[]) .nil .nil)) (.node (sp #[.ref 397, .ref 397, .ref 397]) (.node o656 .nil .nil) (.node (tp #[]) .nil .nil))) (.node (tp #[.str "self" 443, .str "b" 444]) (.node (fnObj0 (methAt 27 1) "HardState.row" 0) (.node o592 .nil .nil) (.node (tp #[.str "self" 1281]) .nil .nil)) (.node o464 (.node (tp #[]) .nil .nil) (.node (tp #[]) .nil .nil)))) (.node o112 (.node o176 (.node (tp #[]) (.node (fl #[]) .nil .nil) (.node o816 .nil .nil)) (.node (tp #[.str "self" 743]) (.node o688 .nil .nil) (.node (tp #[]) .nil .nil))) (.node o240 (.node (bf #[.builtin "type.__prepare__", .type "type"]) (.node (tp #[.str "self" 1006]) .nil .nil) (.node o880 .nil .nil)) (.node (tp #[]) (.node (fnObj0 (methAt 38 7) "RaftLog.up_to_date" 0) .nil .nil) .nil))))) (.node (o24 P) (.node o40 (.node (bf #[.builtin "type.__prepare__", .type "type"]) (.node o136 (.node (tp #[.str "self" 518, .str "term" 519, .str "index" 520, .str "kind" 521, .str "data" 522]) (.node (tp #[]) .nil .nil) (.node (tp #[]) .nil .nil)) (.node (fnObj0 (methAt 28 2) "ConfState.copy" 0) (.node o648 .nil .nil) (.node (tp #[]) .nil .nil))) (.node (fl #[]) (.node (tp #[]) (.node (fnObj0 (methAt 36 10) "MemoryStorage.create_snapshot" 0) .nil .nil) (.node (fl #[]) .nil .nil)) (.node (sp #[.ref 453, .ref 453, .ref 453]) (.node o712 .nil .nil) (.node (fnObj0 (stmtAt 50) "_law_rows" 0) .nil .nil)))) (.node o104 (.node (fnObj0 (stmtAt 18) "varint_length" 0) (.node o296 (.node (tp #[]) .nil .nil) (.node (fnObj0 (methAt 38 15) "RaftLog.applied_to" 0) .nil .nil)) (.node (fl #[]) (.node (tp #[.str "self" 1072, .str "rows" 1073, .str "e" 1074, .str "snap" 1075]) .nil .nil) (.node o936 .nil .nil))) (.node o232 (.node (tp #[.str "commit" 638, .str "term" 639, .str "vote" 640]) (.node (fl #[]) .nil .nil) (.node o872 .nil .nil)) (.node o488 (.node (tp #[]) .nil .nil) .nil)))) (.node o56 (.node o88 (.node (tp #[.str "n" 378]) (.node (fnObj0 (methAt 24 2) "Entry.copy" 0) (.node o536 .nil .nil) (.node (tp #[.str "self" 1218, .str "i" 1219]) .nil .nil)) (.node o408 (.node (tp #[]) .nil .nil) (.node (fnObj0 (stmtAt 42) "_law_lengths" 0) .nil .nil))) (.node (tp #[]) (.node o344 (.node o600 .nil .nil) (.node (tp #[]) .nil .nil)) (.node (tp #[]) (.node (fl #[]) .nil .nil) (.node (fl #[]) .nil .nil)))) (.node (bf #[.builtin "type.__prepare__", .type "type"]) (.node o184 (.node (fl #[]) (.node (tp #[.str "self" 926, .str "entries" 927, .str "start" 928, .str "k" 929, .str "first" 930]) .nil .nil) (.node o824 .nil .nil)) (.node (tp #[]) (.node (fl #[.int 418 0, .int 4 0, .ref 704, .int 426 0, .int 4 0, .ref 711, .int 432 0, .int 4 0, .ref 718, .int 438 0, .int 4 0, .ref 725, .int 441 0, .int 4 0, .ref 732, .int 451 0, .int 4 0, .ref 739, .int 454 0, .int 4 0, .ref 746, .int 457 0, .int 4 0, .ref 753, .int 460 0, .int 4 0, .ref 760, .int 463 0, .int 4 0, .ref 767, .int 474 0, .int 4 0, .ref 774, .int 477 0, .int 4 0, .ref 781, .int 480 0, .int 4 0, .ref 788, .int 483 0, .int 4 0, .ref 795, .int 490 0, .int 4 0, .ref 802, .int 493 0, .int 4 0, .ref 809, .int 500 0, .int 4 0, .ref 816, .int 503 0, .int 4 0, .ref 823, .int 506 0, .int 4 0, .ref 830, .int 509 0, .int 4 0, .ref 837, .int 512 0, .int 4 0, .ref 844, .int 515 0, .int 4 0, .ref 851, .int 520 0, .int 4 0, .ref 858, .int 525 0, .int 4 0, .ref 865, .int 530 0, .int 4 0, .ref 872, .int 535 0, .int 4 0, .ref 879, .int 538 0, .int 4 0, .ref 886, .int 561 0, .int 4 0, .ref 893]) .nil .nil) (.node o952 .nil .nil))) (.node (tp #[]) (.node (tp #[.str "self" 664, .str "voters" 665, .str "learners" 666, .str "outgoing" 667, .str "learners_next" 668, .str "auto_leave" 669]) (.node (tp #[]) .nil .nil) (.node (tp #[]) .nil .nil)) (.node (bf #[.builtin "type.__prepare__", .type "type"]) (.node o760 .nil .nil) .nil)))))) (.node (fl #[.int 1 0, .int 0 0, .ref 20, .int 5 0, .int 0 0, .ref 27, .int 7 0, .int 0 0, .ref 40, .int 9 0, .int 0 0, .ref 52, .int 11 0, .int 0 0, .ref 64, .int 13 0, .int 0 0, .ref 76, .int 15 0, .int 0 0, .ref 88, .int 17 0, .int 0 0, .ref 100, .int 19 0, .int 0 0, .ref 112, .int 21 0, .int 0 0, .ref 124, .int 23 0, .int 0 0, .ref 136, .int 28 0, .int 0 0, .ref 148, .int 37 0, .int 0 0, .ref 155, .int 41 0, .int 0 0, .ref 162, .int 45 0, .int 0 0, .ref 169, .int 53 0, .int 0 0, .ref 176, .int 93 0, .int 0 0, .ref 253, .int 99 0, .int 0 0, .ref 260, .int 120 0, .int 0 0, .ref 309, .int 127 0, .int 0 0, .ref 316, .int 136 0, .int 0 0, .ref 323, .int 154 0, .int 0 0, .ref 372, .int 168 0, .int 0 0, .ref 407, .int 172 0, .int 0 0, .ref 414, .int 180 0, .int 0 0, .ref 421, .int 196 0, .int 0 0, .ref 463, .int 203 0, .int 0 0, .ref 470, .int 238 0, .int 0 0, .ref 501, .int 258 0, .int 0 0, .ref 508, .int 344 0, .int 0 0, .ref 613, .int 416 0, .int 0 0, .ref 697, .int 564 0, .int 0 0, .ref 907, .int 566 0, .int 0 0, .ref 914, .int 568 0, .int 0 0, .ref 921, .int 570 0, .int 0 0, .ref 928, .int 572 0, .int 0 0, .ref 935, .int 574 0, .int 0 0, .ref 942, .int 580 0, .int 0 0, .ref 947, .int 583 0, .int 0 0, .ref 952, .int 585 0, .int 0 0, .ref 957, .int 590 0, .int 0 0, .ref 964, .int 596 0, .int 0 0, .ref 969, .int 598 0, .int 0 0, .ref 974, .int 628 0, .int 0 0, .ref 981, .int 639 0, .int 0 0, .ref 986]) (.node o20 (.node (bf #[.builtin "type.__prepare__", .type "type"]) (.node o68 (.node (bf #[.builtin "type.__prepare__", .type "type"]) (.node o260 (.node o516 .nil .nil) (.node (tp #[]) .nil .nil)) (.node (tp #[]) (.node (fl #[]) .nil .nil) (.node (sp #[.ref 897, .ref 897, .ref 897]) .nil .nil))) (.node (fnObj0 (methAt 19 2) "Sink.fixed32" 0) (.node { cls := .type "frame", slots := #[some (.ref 323), some (.ref 3), some (.ref 320), none, some (.str "raftkeep.messages" 488), none, some (.ref 0)] } (.node (tp #[]) .nil .nil) (.node (fnObj0 (methAt 38 19) "RaftLog.pending_snapshot" 0) .nil .nil)) (.node (o452 P) (.node (tp #[.str "self" 1115, .str "i" 1116]) .nil .nil) (.node o964 .nil .nil)))) (.node o100 (.node (tp #[]) (.node (tp #[.str "self" 550, .str "length" 551, .str "head" 552]) (.node (tp #[]) .nil .nil) (.node (tp #[]) .nil .nil)) (.node (fl #[.int 182 0, .int 4 0, .ref 428, .int 188 0, .int 4 0, .ref 435, .int 191 0, .int 4 0, .ref 442, .int 194 0, .int 4 0, .ref 449]) (.node o676 .nil .nil) (.node (tp #[.str "nums" 1377, .str "i" 1378]) .nil .nil))) (.node (fl #[]) (.node (tp #[]) (.node (fl #[.int 346 0, .int 4 0, .ref 620, .int 351 0, .int 4 0, .ref 627, .int 356 0, .int 4 0, .ref 634, .int 363 0, .int 4 0, .ref 641, .int 372 0, .int 4 0, .ref 648, .int 381 0, .int 4 0, .ref 655, .int 384 0, .int 4 0, .ref 662, .int 387 0, .int 4 0, .ref 669, .int 401 0, .int 4 0, .ref 676, .int 408 0, .int 4 0, .ref 683]) .nil .nil) (.node (fl #[]) .nil .nil)) (.node (tp #[]) (.node o740 .nil .nil) .nil)))) (.node o52 (.node (bf #[.builtin "type.__prepare__", .type "type"]) (.node o148 (.node (tp #[]) (.node (fl #[]) .nil .nil) (.node o788 .nil .nil)) (.node (tp #[.str "sink" 703, .str "ids" 704, .str "nid" 705]) (.node (tp #[]) .nil .nil) (.node (tp #[]) .nil .nil))) (.node o212 (.node (fl #[]) (.node (tp #[.str "self" 963, .str "rows" 964, .str "e" 965]) .nil .nil) (.node o852 .nil .nil)) (.node (tp #[]) (.node (fnObj0 (methAt 38 3) "RaftLog.last_term" 0) .nil .nil) (.node (fnObj0 (stmtAt 52) "_law_apply" 0) .nil .nil)))) (.node o116 (.node (tp #[.str "self" 412]) (.node (fnObj0 (stmtAt 25) "encode_entry" 0) (.node o564 .nil .nil) (.node (tp #[.str "self" 1252, .str "i" 1253]) .nil .nil)) (.node o436 (.node (tp #[]) .nil .nil) (.node o948 .nil .nil))) (.node o244 (.node o372 (.node o628 .nil .nil) (.node (tp #[]) .nil .nil)) (.node (fnObj0 (stmtAt 34) "encode_message" 0) (.node (fl #[]) .nil .nil) .nil))))) (.node { cls := .type "frame", slots := #[some (.ref 27), some (.ref 3), some (.ref 24), none, some (.str "raftkeep.errors" 194), none, some (.ref 0)] } (.node o44 (.node o76 (.node o140 (.node o268 (.node (tp #[]) .nil .nil) (.node (fnObj0 (methAt 38 11) "RaftLog.conflict_by_term" 0) .nil .nil)) (.node (o396 P) (.node (tp #[.str "self" 1038, .str "i" 1039]) .nil .nil) (.node o908 .nil .nil))) (.node o204 (.node (tp #[]) (.node (fl #[]) .nil .nil) (.node o844 .nil .nil)) (.node (tp #[.str "snapshot" 776, .str "sink" 777]) (.node (tp #[]) .nil .nil) (.node (fl #[]) .nil .nil)))) (.node (bf #[.builtin "type.__prepare__", .type "type"]) (.node (bf #[.builtin "type.__prepare__", .type "type"]) (.node o300 (.node (fnObj0 (methAt 36 6) "MemoryStorage.snapshot" 0) .nil .nil) (.node (fl #[]) .nil .nil)) (.node o428 (.node o684 .nil .nil) (.node (tp #[]) .nil .nil))) (.node (tp #[.str "self" 475]) (.node o364 (.node o620 .nil .nil) (.node (tp #[.str "self" 1311]) .nil .nil)) (.node o492 (.node (tp #[]) .nil .nil) .nil)))) (.node (bf #[.builtin "type.__prepare__", .type "type"]) (.node o92 (.node o156 (.node (fl #[]) (.node (tp #[.str "self" 892, .str "lo" 893, .str "hi" 894, .str "limit" 895, .str "first" 896]) .nil .nil) (.node o796 .nil .nil)) (.node (tp #[]) (.node (fnObj0 (methAt 37 7) "Unstable.truncate_and_append" 0) .nil .nil) (.node (fl #[]) .nil .nil))) (.node (tp #[]) (.node (tp #[.str "self" 626, .str "other" 627]) (.node o604 .nil .nil) (.node (tp #[]) .nil .nil)) (.node (fnObj0 (methAt 33 0) "Message.__init__" 0) (.node o732 .nil .nil) .nil))) (.node o124 (.node (tp #[]) (.node o316 (.node o572 .nil .nil) (.node (tp #[]) .nil .nil)) (.node (tp #[]) (.node (fl #[]) .nil .nil) (.node (fnObj0 (stmtAt 48) "_law_fewest" 0) .nil .nil))) (.node (fnObj0 (stmtAt 23) "rising" 0) (.node o380 (.node (tp #[]) .nil .nil) (.node (fnObj0 (methAt 38 27) "RaftLog.row" 0) .nil .nil)) (.node o508 (.node (tp #[.str "self" 1184, .str "entries" 1185, .str "before" 1186]) .nil .nil) .nil))))))) (.node (boot_o_6 P) (.node (boot_o_10 P) (.node (tp #[]) (.node (bf #[.builtin "object.__init_subclass__", .ref 31]) (.node (tp #[]) (.node (bf #[.builtin "object.__init_subclass__", .ref 128]) (.node (tp #[]) (.node (fnObj0 (methAt 36 0) "MemoryStorage.__init__" 0) .nil .nil) (.node (fl #[]) .nil .nil)) (.node o386 (.node o642 .nil .nil) (.node o898 .nil .nil))) (.node (tp #[.str "self" 427, .str "n" 428]) (.node (fl #[.int 138 0, .int 4 0, .ref 330, .int 143 0, .int 4 0, .ref 337, .int 146 0, .int 4 0, .ref 344, .int 149 0, .int 4 0, .ref 351, .int 152 0, .int 4 0, .ref 358]) (.node o578 .nil .nil) (.node (tp #[.str "self" 1267]) .nil .nil)) (.node o450 (.node (tp #[]) .nil .nil) (.node (tp #[]) .nil .nil)))) (.node (tp #[]) (.node o162 (.node (tp #[]) (.node (fl #[]) .nil .nil) (.node o802 .nil .nil)) (.node (o418 P) (.node (tp #[]) .nil .nil) (.node (tp #[]) .nil .nil))) (.node o226 (.node (fl #[]) (.node (o610 P) .nil .nil) (.node o866 .nil .nil)) (.node o482 (.node (fnObj0 (methAt 38 5) "RaftLog.term_or_zero" 0) .nil .nil) .nil)))) (.node (tp #[]) (.node (bf #[.builtin "object.__init_subclass__", .ref 80]) (.node (tp #[]) (.node o274 (.node o530 .nil .nil) (.node (tp #[]) .nil .nil)) (.node (tp #[]) (.node (fl #[]) .nil .nil) (.node o914 .nil .nil))) (.node (fnObj0 (methAt 19 4) "Sink.lengthed" 0) (.node o338 (.node (tp #[]) .nil .nil) (.node (fnObj0 (methAt 38 21) "RaftLog.has_next" 0) .nil .nil)) (.node (bf #[.builtin "type.__prepare__", .type "type"]) (.node (tp #[.str "self" 1131]) .nil .nil) (.node (tp #[.str "log" 1431, .str "rows" 1432, .str "fold" 1433, .str "weights" 1434, .str "limit" 1435, .str "done" 1436, .str "end" 1437, .str "page" 1438, .str "k" 1439]) .nil .nil)))) (.node (tp #[]) (.node (tp #[]) (.node (tp #[.str "entry" 571, .str "sink" 572]) (.node (tp #[]) .nil .nil) (.node (tp #[]) .nil .nil)) (.node (fnObj0 (methAt 31 1) "Snapshot.row" 0) (.node (sp #[.ref 687, .ref 687, .ref 687]) .nil .nil) (.node (fnObj0 (stmtAt 46) "_law_weight" 0) .nil .nil))) (.node (o242 P) (.node (tp #[]) (.node (fnObj0 (methAt 37 1) "Unstable.maybe_first" 0) .nil .nil) (.node (fl #[]) .nil .nil)) (.node (tp #[.str "message" 839, .str "sink" 840, .str "entry" 841]) (.node o754 .nil .nil) .nil))))) (.node (fl #[]) (.node (tp #[]) (.node (tp #[]) (.node (tp #[]) (.node (fnObj0 (methAt 24 0) "Entry.__init__" 0) (.node o522 .nil .nil) (.node (tp #[.str "self" 1201, .str "index" 1202, .str "term" 1203]) .nil .nil)) (.node o394 (.node (tp #[]) .nil .nil) (.node (fnObj0 (stmtAt 40) "_law_folds" 0) .nil .nil))) (.node (tp #[]) (.node o330 (.node o586 .nil .nil) (.node (tp #[]) .nil .nil)) (.node (tp #[]) (.node (fl #[]) .nil .nil) (.node o970 .nil .nil)))) (.node (bf #[.builtin "object.__init_subclass__", .ref 104]) (.node o170 (.node (o298 P) (.node (tp #[.str "self" 911]) .nil .nil) (.node o810 .nil .nil)) (.node (tp #[]) (.node (fnObj0 (methAt 37 9) "Unstable.row" 0) .nil .nil) (.node (fl #[]) .nil .nil))) (.node (tp #[]) (.node o362 (.node (tp #[]) .nil .nil) (.node (tp #[]) .nil .nil)) (.node (o490 P) (.node o746 .nil .nil) .nil)))) (.node (bf #[.builtin "object.__init_subclass__", .ref 56]) (.node (tp #[]) (.node (fnObj0 (stmtAt 16) "put_varint" 0) (.node o282 (.node (tp #[]) .nil .nil) (.node (fnObj0 (methAt 38 13) "RaftLog.commit_to" 0) .nil .nil)) (.node (fl #[]) (.node (tp #[.str "self" 1054, .str "entries" 1055, .str "after" 1056]) .nil .nil) (.node o922 .nil .nil))) (.node o218 (.node (tp #[]) (.node (o602 P) .nil .nil) (.node o858 .nil .nil)) (.node (tp #[.str "self" 796, .str "kind" 797, .str "to" 798, .str "frm" 799, .str "term" 800]) (.node (tp #[]) .nil .nil) (.node o986 .nil .nil)))) (.node (tp #[]) (.node (fl #[]) (.node (tp #[]) (.node (fnObj0 (methAt 36 8) "MemoryStorage.append" 0) .nil .nil) (.node (fl #[]) .nil .nil)) (.node o442 (.node { cls := .type "frame", slots := #[some (.ref 697), some (.ref 3), some (.ref 694), none, some (.str "raftkeep.raftlog" 845), none, some (.ref 0)] } .nil .nil) (.node (tp #[]) .nil .nil))) (.node (tp #[.str "ids" 497, .str "out" 498, .str "nid" 499]) (.node (fnObj0 (methAt 28 0) "ConfState.__init__" 0) (.node o634 .nil .nil) (.node (tp #[.str "self" 1331]) .nil .nil)) (.node (tp #[]) (.node (tp #[]) .nil .nil) .nil)))))) (.node { cls := .type "frame", slots := #[some (.ref 13), some (.ref 3), some (.ref 3), none, some (.str "__main__" 164), none, some (.ref 0)] } (.node (tp #[.type "Exception"]) (.node (tp #[]) (.node (bf #[.builtin "object.__init_subclass__", .ref 68]) (.node (tp #[]) (.node (tp #[]) (.node (fl #[]) .nil .nil) (.node o774 .nil .nil)) (.node (tp #[.str "self" 683]) (.node (tp #[]) .nil .nil) (.node (tp #[]) .nil .nil))) (.node o198 (.node (fl #[]) (.node (tp #[.str "self" 945, .str "i" 946, .str "conf" 947, .str "data" 948]) .nil .nil) (.node o838 .nil .nil)) (.node o454 (.node (fnObj0 (methAt 38 1) "RaftLog.first_index" 0) .nil .nil) (.node (tp #[]) .nil .nil)))) (.node (tp #[]) (.node (tp #[.str "n" 392, .str "count" 393]) (.node (fnObj0 (methAt 24 4) "Entry.size" 0) (.node o550 .nil .nil) (.node (tp #[.str "self" 1235, .str "i" 1236]) .nil .nil)) (.node { cls := .type "frame", slots := #[some (.ref 421), some (.ref 3), some (.ref 418), none, some (.str "raftkeep.messages" 488), none, some (.ref 0)] } (.node (tp #[]) .nil .nil) (.node (fnObj0 (stmtAt 44) "_law_draw" 0) .nil .nil))) (.node (tp #[]) (.node o358 (.node { cls := .type "frame", slots := #[some (.ref 613), some (.ref 3), some (.ref 610), none, some (.str "raftkeep.raftlog" 845), none, some (.ref 0)] } .nil .nil) (.node (tp #[]) .nil .nil)) (.node (fnObj0 (methAt 33 2) "Message.copy" 0) (.node (fl #[]) .nil .nil) .nil)))) (.node (tp #[]) (.node (tp #[]) (.node (tp #[]) (.node (tp #[.str "self" 536]) (.node (tp #[]) .nil .nil) (.node (tp #[]) .nil .nil)) (.node (fnObj0 (stmtAt 29) "put_ids" 0) (.node o662 .nil .nil) (.node (tp #[]) .nil .nil))) (.node (fl #[]) (.node (tp #[]) (.node (fnObj0 (methAt 36 12) "MemoryStorage.row" 0) .nil .nil) (.node (fl #[]) .nil .nil)) (.node o470 (.node o726 .nil .nil) (.node o982 .nil .nil)))) (.node (bf #[.builtin "object.__init_subclass__", .ref 116]) (.node (fnObj0 (methAt 19 0) "Sink.__init__" 0) (.node o310 (.node (tp #[]) .nil .nil) (.node (fnObj0 (methAt 38 17) "RaftLog.stable_snap_to" 0) .nil .nil)) (.node (fl #[]) (.node (o694 P) .nil .nil) (.node (fl #[]) .nil .nil))) (.node (sp #[.ref 243, .ref 243, .ref 243]) (.node (tp #[]) (.node (fl #[]) .nil .nil) (.node o886 .nil .nil)) (.node o502 (.node (tp #[]) .nil .nil) .nil))))) (.node (o30 P) (.node (bf #[.builtin "object.__init_subclass__", .ref 44]) (.node (tp #[]) (.node (bf #[.builtin "object.__init_subclass__", .ref 140]) (.node (fl #[]) (.node (tp #[.str "self" 878]) .nil .nil) (.node o782 .nil .nil)) (.node o398 (.node (fnObj0 (methAt 37 5) "Unstable.stable_snap_to" 0) .nil .nil) (.node (fl #[]) .nil .nil))) (.node (tp #[]) (.node (tp #[.str "self" 612]) (.node (tp #[]) .nil .nil) (.node (tp #[]) .nil .nil)) (.node (fnObj0 (stmtAt 32) "encode_snapshot" 0) (.node o718 .nil .nil) (.node o974 .nil .nil)))) (.node (tp #[]) (.node (tp #[]) (.node (sp #[.ref 299, .ref 299, .ref 299]) (.node o558 .nil .nil) (.node (tp #[]) .nil .nil)) (.node (tp #[]) (.node (o686 P) .nil .nil) (.node o942 .nil .nil))) (.node (fnObj0 (methAt 19 8) "Sink.done" 0) (.node (bf #[.builtin "object.__init_subclass__", .ref 362]) (.node (tp #[]) .nil .nil) (.node (fnObj0 (methAt 38 25) "RaftLog.all_entries" 0) .nil .nil)) (.node (sp #[.ref 491, .ref 491, .ref 491]) (.node (tp #[.str "self" 1164, .str "last" 1165, .str "term" 1166]) .nil .nil) .nil)))) (.node (tp #[]) (.node (bf #[.builtin "object.__init_subclass__", .ref 92]) (.node (fl #[]) (.node (tp #[]) (.node (fnObj0 (methAt 36 4) "MemoryStorage.entries_between" 0) .nil .nil) (.node (fl #[]) .nil .nil)) (.node o414 (.node o670 .nil .nil) (.node (tp #[]) .nil .nil))) (.node (tp #[.str "self" 459, .str "b" 460]) (.node (fnObj0 (methAt 27 3) "HardState.same" 0) (.node (sp #[.ref 603, .ref 603, .ref 603]) .nil .nil) (.node (tp #[.str "self" 1295]) .nil .nil)) (.node o478 (.node (tp #[]) .nil .nil) .nil))) (.node (tp #[]) (.node o190 (.node (tp #[]) (.node (fl #[]) .nil .nil) (.node o830 .nil .nil)) (.node (tp #[.str "self" 757]) (.node (tp #[]) .nil .nil) (.node o958 .nil .nil))) (.node o254 (.node (fl #[]) (.node (tp #[.str "self" 1020, .str "i" 1021]) .nil .nil) (.node o894 .nil .nil)) (.node (tp #[]) (.node (fnObj0 (methAt 38 9) "RaftLog.append" 0) .nil .nil) .nil)))))))))
def finH (P : Params) : Heap := absHeap (finT P) 988 {}
def KF (P : Params) : Frag := [(2, o2 P), (3, o3 P), (13, o13), (20, o20), (21, o21), (24, o24 P), (27, o27), (30, o30 P), (31, o31), (32, o32),
  (37, o37 P), (40, o40), (43, o43 P), (44, o44), (49, o49 P), (52, o52), (55, o55 P), (56, o56), (61, o61 P), (64, o64),
  (67, o67 P), (68, o68), (73, o73 P), (76, o76), (79, o79 P), (80, o80), (85, o85 P), (88, o88), (91, o91 P), (92, o92),
  (97, o97 P), (100, o100), (103, o103 P), (104, o104), (109, o109 P), (112, o112), (115, o115 P), (116, o116), (121, o121 P), (124, o124),
  (127, o127 P), (128, o128), (133, o133 P), (136, o136), (139, o139 P), (140, o140), (148, o148), (149, o149), (155, o155), (156, o156),
  (162, o162), (163, o163), (169, o169), (170, o170), (173, o173 P), (176, o176), (183, o183), (184, o184), (190, o190), (191, o191),
  (197, o197), (198, o198), (204, o204), (205, o205), (211, o211), (212, o212), (218, o218), (219, o219), (225, o225), (226, o226),
  (232, o232), (233, o233), (239, o239), (240, o240), (242, o242 P), (243, o243), (244, o244), (245, o245), (253, o253), (254, o254),
  (257, o257 P), (260, o260), (267, o267), (268, o268), (274, o274), (275, o275), (281, o281), (282, o282), (288, o288), (289, o289),
  (295, o295), (296, o296), (298, o298 P), (299, o299), (300, o300), (301, o301), (309, o309), (310, o310), (316, o316), (317, o317),
  (320, o320 P), (323, o323), (330, o330), (331, o331), (337, o337), (338, o338), (344, o344), (345, o345), (351, o351), (352, o352),
  (358, o358), (359, o359), (361, o361 P), (362, o362), (363, o363), (364, o364), (369, o369 P), (372, o372), (379, o379), (380, o380),
  (386, o386), (387, o387), (393, o393), (394, o394), (396, o396 P), (397, o397), (398, o398), (399, o399), (407, o407), (408, o408),
  (414, o414), (415, o415), (418, o418 P), (421, o421), (428, o428), (429, o429), (435, o435), (436, o436), (442, o442), (443, o443),
  (449, o449), (450, o450), (452, o452 P), (453, o453), (454, o454), (455, o455), (463, o463), (464, o464), (467, o467 P), (470, o470),
  (477, o477), (478, o478), (482, o482), (483, o483), (487, o487), (488, o488), (490, o490 P), (491, o491), (492, o492), (493, o493),
  (501, o501), (502, o502), (505, o505 P), (508, o508), (515, o515), (516, o516), (522, o522), (523, o523), (529, o529), (530, o530),
  (536, o536), (537, o537), (543, o543), (544, o544), (550, o550), (551, o551), (557, o557), (558, o558), (564, o564), (565, o565),
  (571, o571), (572, o572), (578, o578), (579, o579), (585, o585), (586, o586), (592, o592), (593, o593), (599, o599), (600, o600),
  (602, o602 P), (603, o603), (604, o604), (605, o605), (610, o610 P), (613, o613), (620, o620), (621, o621), (627, o627), (628, o628),
  (634, o634), (635, o635), (641, o641), (642, o642), (648, o648), (649, o649), (655, o655), (656, o656), (662, o662), (663, o663),
  (669, o669), (670, o670), (676, o676), (677, o677), (683, o683), (684, o684), (686, o686 P), (687, o687), (688, o688), (689, o689),
  (694, o694 P), (697, o697), (704, o704), (705, o705), (711, o711), (712, o712), (718, o718), (719, o719), (725, o725), (726, o726),
  (732, o732), (733, o733), (739, o739), (740, o740), (746, o746), (747, o747), (753, o753), (754, o754), (760, o760), (761, o761),
  (767, o767), (768, o768), (774, o774), (775, o775), (781, o781), (782, o782), (788, o788), (789, o789), (795, o795), (796, o796),
  (802, o802), (803, o803), (809, o809), (810, o810), (816, o816), (817, o817), (823, o823), (824, o824), (830, o830), (831, o831),
  (837, o837), (838, o838), (844, o844), (845, o845), (851, o851), (852, o852), (858, o858), (859, o859), (865, o865), (866, o866),
  (872, o872), (873, o873), (879, o879), (880, o880), (886, o886), (887, o887), (893, o893), (894, o894), (896, o896 P), (897, o897),
  (898, o898), (899, o899), (907, o907), (908, o908), (914, o914), (915, o915), (921, o921), (922, o922), (928, o928), (929, o929),
  (935, o935), (936, o936), (942, o942), (943, o943), (947, o947), (948, o948), (952, o952), (953, o953), (957, o957), (958, o958),
  (964, o964), (965, o965), (969, o969), (970, o970), (974, o974), (975, o975), (981, o981), (982, o982), (986, o986), (987, o987)]
noncomputable def asL : List Addr := [2, 3, 13, 20, 21, 24, 27, 30, 31, 32, 37, 40, 43, 44, 49, 52, 55, 56, 61, 64,
  67, 68, 73, 76, 79, 80, 85, 88, 91, 92, 97, 100, 103, 104, 109, 112, 115, 116, 121, 124,
  127, 128, 133, 136, 139, 140, 148, 149, 155, 156, 162, 163, 169, 170, 173, 176, 183, 184, 190, 191,
  197, 198, 204, 205, 211, 212, 218, 219, 225, 226, 232, 233, 239, 240, 242, 243, 244, 245, 253, 254,
  257, 260, 267, 268, 274, 275, 281, 282, 288, 289, 295, 296, 298, 299, 300, 301, 309, 310, 316, 317,
  320, 323, 330, 331, 337, 338, 344, 345, 351, 352, 358, 359, 361, 362, 363, 364, 369, 372, 379, 380,
  386, 387, 393, 394, 396, 397, 398, 399, 407, 408, 414, 415, 418, 421, 428, 429, 435, 436, 442, 443,
  449, 450, 452, 453, 454, 455, 463, 464, 467, 470, 477, 478, 482, 483, 487, 488, 490, 491, 492, 493,
  501, 502, 505, 508, 515, 516, 522, 523, 529, 530, 536, 537, 543, 544, 550, 551, 557, 558, 564, 565,
  571, 572, 578, 579, 585, 586, 592, 593, 599, 600, 602, 603, 604, 605, 610, 613, 620, 621, 627, 628,
  634, 635, 641, 642, 648, 649, 655, 656, 662, 663, 669, 670, 676, 677, 683, 684, 686, 687, 688, 689,
  694, 697, 704, 705, 711, 712, 718, 719, 725, 726, 732, 733, 739, 740, 746, 747, 753, 754, 760, 761,
  767, 768, 774, 775, 781, 782, 788, 789, 795, 796, 802, 803, 809, 810, 816, 817, 823, 824, 830, 831,
  837, 838, 844, 845, 851, 852, 858, 859, 865, 866, 872, 873, 879, 880, 886, 887, 893, 894, 896, 897,
  898, 899, 907, 908, 914, 915, 921, 922, 928, 929, 935, 936, 942, 943, 947, 948, 952, 953, 957, 958,
  964, 965, 969, 970, 974, 975, 981, 982, 986, 987]
theorem asL_is : ∀ P, asL = (KF P).map (·.1) := fun _ => rfl
noncomputable def keepL : List Nat := [0, 2, 3, 4, 5, 6, 7, 8, 9, 10, 11, 13, 14, 15, 16, 17, 18, 19, 21, 22, 23, 24, 25, 26, 27, 28, 29, 30, 31, 32, 33, 34, 36, 37, 38, 40, 41, 42, 43, 44, 45, 46, 47, 48, 49, 50, 51, 52, 53]
def QV : Program := view PySem.Challenge.pw_no0427_01 keepL
noncomputable abbrev hookK : Hook := kHook KF asL asL_is
noncomputable abbrev rowO := PySem.Challenge.rw_no0427_01.row
noncomputable abbrev XtO : Shared → Bool := fun s => xlAt QV [] s && recOk (RowW.records rowO.toRowW) s
theorem fin_abs : ∀ P, absHeap (finT P) 988 {} = finH P := fun _ => rfl
theorem boot_abs : ∀ P, absHeap (bootT P) 11 {} = boot_heap P := by
  intro P
  kernel_rfl
set_option maxHeartbeats 0 in
theorem run_ok : ∀ (w : World) (os : OsState), runT (stepOk 11 (some (.ref 6))) (stepT (denote treeTable) PySem.Challenge.pw_no0427_01 w) through 7400 ⟨bootT w.params, 11, {}, Array.mk [], boot_drawn, boot_toks, os⟩ (topStub PySem.Challenge.pw_no0427_01) =
    some ⟨finT w.params, 988, {}, Array.mk [], boot_drawn, 1449, os⟩ := by
  intro w os
  unfold topStub
  rw [PySem.W.Fast.te6613529449190102663,
    PySem.W.Fast.te10156331382660048174, PySem.W.Fast.te11892475500146522536, PySem.W.Fast.te14364793385576792824, PySem.W.Fast.te17154629097778926822, PySem.W.Fast.te12822647523644345616]
  kernel_rfl
end
end
section
theorem look1 : ∀ (w : World) (os : OsState), (staticsOk (importedModules PySem.Challenge.pw_no0427_01.main.body) (boot_heap w.params) (finH w.params) && namesBound PySem.Challenge.pw_no0427_01 (finH w.params) && gensDone ⟨finH w.params, Array.mk [], boot_drawn, 1449, os⟩ && laidKept (boot_heap w.params) (finH w.params)) = true := by
  intro w os
  rw [PySem.W.Fast.te5923862056798008813]
  kernel_rfl
theorem look3 : ∀ (w : World) (os : OsState), hookK.obs ⟨finH w.params, Array.mk [], boot_drawn, 1449, os⟩ = hookK.val w := by
  intro w os
  kernel_rfl
theorem size_ok : ∀ w : World, ((boot_heap w.params).isNs mainGlobals && (Array.mk [] : Array GenState).size == 0, (boot_heap w.params).objs.size, (boot_heap w.params).nsMap mainGlobals "__annotations__") = (true, 11, some (.ref 6)) := by
  intro w
  kernel_rfl
theorem look2 : ∀ (w : World) (os : OsState), openSeen QV [] (importedModules PySem.Challenge.pw_no0427_01.main.body) XtO true ⟨finH w.params, Array.mk [], boot_drawn, 1449, os⟩ = openGood QV [] := by
  intro w os
  unfold QV
  rw [PySem.W.Fast.te5923862056798008813, PySem.W.Fast.te4187177175401517315]
  kernel_rfl
end
section
theorem left_ok : LeftO rowO.prog QV [] XtO hookK.obs hookK.val 15000 :=
  LeftO.of_pieces (H₀ := boot_heap) (H₁ := finH) (gs₀ := Array.mk []) (gs₁ := Array.mk []) (d₀ := boot_drawn) (d₁ := boot_drawn) (k₀ := boot_toks) (k₁ := 1449) (m₀ := 11) (ann := some (.ref 6)) (M := 7400)
    (boot_open (by kernel_rfl) (by decide) (fun s => by kernel_rfl)) size_ok
    (fun w os => by
      have r := topRun_of (run_ok w os)
      have a : SharedT.abs ⟨bootT w.params, 11, {}, Array.mk [], boot_drawn, boot_toks, os⟩ = ⟨boot_heap w.params, Array.mk [], boot_drawn, boot_toks, os⟩ := by
        show Shared.mk (absHeap (bootT w.params) 11 {}) _ _ _ _ = _
        rw [boot_abs]
      have b : SharedT.abs ⟨finT w.params, 988, {}, Array.mk [], boot_drawn, 1449, os⟩ = ⟨finH w.params, Array.mk [], boot_drawn, 1449, os⟩ := by
        show Shared.mk (absHeap (finT w.params) 988 {}) _ _ _ _ = _
        rw [fin_abs]
      rw [a, b] at r
      exact r)
    (by decide)
    (fun w => funext fun os => looks_pair (look1 w os) (looks_pair (look2 w os) (look3 w os)))
noncomputable abbrev dLaw : DefRec := { name := "law", params := sParams (stmtAt 53), body := sBody (stmtAt 53), scope := sScope (stmtAt 53), pos := ⟨639, 0, 710, 133⟩ }
theorem def_law : defOf QV rowO.name = some (dLaw, []) := by kernel_rfl
theorem the_law : rowO.prog.theDef rowO.name = some (dLaw.params, dLaw.body, dLaw.scope) := by kernel_rfl
theorem kw_law : kwWritten? dLaw.params.kwonlyargs dLaw.params.kw_defaults = some [] := by kernel_rfl
end
section
noncomputable def badIds : List String := Builtin.Bytes.decodersThatHold ++ ["bytearray.__contains__", "bytearray.__mod__", "bytearray.__rmod__", "_struct.pack_into.held", "bytearray.find.held"]
noncomputable def okCode : Code → Bool
  | .builtin id _ => !badIds.contains id
  | _ => true
theorem okB {id : String} {args : Args} (h : badIds.contains id = false) : okCode (.builtin id args) = true := by
  show (!badIds.contains id) = true
  rw [h]; rfl
noncomputable def ClnB (Γ : Ctx) : Prop := ∀ x ∈ Γ.below, okCode x.1 = true
noncomputable def Cln (Γ : Ctx) : Prop := okCode Γ.code = true ∧ ClnB Γ
theorem Cln.enter {Γ : Ctx} (h : Cln Γ) (c : Code) (hd : Option Value) (p : Pos) : ClnB (Γ.enter c hd p) := fun x hx => by
  rcases List.mem_cons.mp hx with rfl | hx
  · exact h.1
  · exact h.2 x hx
theorem Cln.stack {Γ : Ctx} (h : Cln Γ) (p : Pos) : ∀ x ∈ (Γ.code, p) :: Γ.below, okCode x.1 = true := fun x hx => by
  rcases List.mem_cons.mp hx with rfl | hx
  · exact h.1
  · exact h.2 x hx
noncomputable def wpC {α : Type} (M : Model) (A : Around) (t : Sem α) (Q : α → Shared → Prop) (E : Value → Shared → Prop) (s : Shared) : Prop :=
  ∀ Γ p, Γ.In A → Cln Γ → Sem.wp M Γ t (fun a _ s' => Q a s') (fun e _ s' => E e s') p s
noncomputable def codeC (M : Model) (A : Around) (c : Code) (R : Result → Shared → Prop) (s : Shared) : Prop :=
  ∀ Γ p, Γ.code = c → Γ.Below A → ClnB Γ → wpCode M Γ R p s
section
variable {α β γ : Type} {M : Model} {A : Around} {E : Value → Shared → Prop} {s : Shared} {env : Env}
theorem anyC {t : Sem α} {Q : α → Shared → Prop} (h : wpAny M A t Q E s) : wpC M A t Q E s := fun Γ p i _ => h Γ p i
theorem codeC_any {c : Code} {R : Result → Shared → Prop} (h : codeAny M A c R s) : codeC M A c R s := fun Γ p e i _ => h Γ p e i
theorem wpC_pure {a : α} {Q : α → Shared → Prop} (h : Q a s) : wpC M A (pure a) Q E s := fun _ _ _ _ => h
theorem wpC_monoE {t : Sem α} {Q Q' : α → Shared → Prop} {E' : Value → Shared → Prop} (h : wpC M A t Q E s) (k : ∀ a s', Q a s' → Q' a s') (kE : ∀ e s', E e s' → E' e s') : wpC M A t Q' E' s :=
  fun Γ p i c => Sem.wp_mono M Γ t (fun a _ s' => k a s') (fun e _ s' => kE e s') p s (h Γ p i c)
theorem wpC_mono {t : Sem α} {Q Q' : α → Shared → Prop} (h : wpC M A t Q E s) (k : ∀ a s', Q a s' → Q' a s') : wpC M A t Q' E s := wpC_monoE h k fun _ _ e => e
theorem wpC_bind {m : Sem α} {f : α → Sem β} {Q : β → Shared → Prop} (h : wpC M A m (fun a s' => wpC M A (f a) Q E s') E s) : wpC M A (m >>= f) Q E s := fun Γ p i c => by
  rw [Sem.wp_bind']
  exact Sem.wp_mono M Γ m (fun a p' s' k => k Γ p' i c) (fun _ _ _ k => k) p s (h Γ p i c)
theorem wpC_then {m : Sem α} {f : α → Sem β} {Q' : α → Shared → Prop} {Q : β → Shared → Prop} (h : wpC M A m Q' E s) (k : ∀ a s', Q' a s' → wpC M A (f a) Q E s') : wpC M A (m >>= f) Q E s := wpC_bind (wpC_mono h k)
theorem wpC_holding {vs : List Value} {m : Sem α} {Q : α → Shared → Prop} (h : wpC M A m Q E s) : wpC M A (holding vs m) Q E s := fun Γ p i c => by rw [Sem.wp_holding]; exact h Γ p i c
theorem wpC_keep {vs : List Value} {m : Sem α} {Q : α → Shared → Prop} (h : wpC M A m Q E s) : wpC M A (m.keep vs) Q E s := fun Γ p i c => by rw [Sem.wp_keep]; exact h Γ p i c
theorem holdC {vs : List Value} {m : Sem α} {f : α → Sem β} {Q' : α → Shared → Prop} {Q : β → Shared → Prop} (h : wpC M A m Q' E s) (k : ∀ a s', Q' a s' → wpC M A (f a) Q E s') : wpC M A (holding vs m >>= f) Q E s := wpC_then (wpC_holding h) k
theorem atC {pos : Pos} {f : Unit → Sem β} {Q : β → Shared → Prop} (h : wpC M A (f ()) Q E s) : wpC M A (standAt pos >>= f) Q E s := wpC_bind (anyC (wpAny_standAt h))
theorem pureC {a : α} {f : α → Sem β} {Q : β → Shared → Prop} (h : wpC M A (f a) Q E s) : wpC M A (pure a >>= f) Q E s := wpC_bind (wpC_pure h)
theorem stepC {m : Sem α} {f : α → Sem β} {Q : β → Shared → Prop} (h : wpAny M A m (fun a s' => wpC M A (f a) Q E s') E s) : wpC M A (m >>= f) Q E s := wpC_bind (anyC h)
theorem wpC_operate {vs : List Value} {m : Sem Value} {Q : Value → Shared → Prop} (h : wpC M A m Q E s) : wpC M A (operate vs m) Q E s := fun Γ p i c => by rw [Sem.wp_operate]; exact h Γ p i c
theorem wpC_release {vs keep : List Value} {Q : Unit → Shared → Prop} (h : Q () s) : wpC M A (release vs keep) Q E s := fun Γ p i c => by rw [Sem.wp_release]; exact h
theorem wpC_bindName {x : Str} {v : Value} {Q : Unit → Shared → Prop} (h : wpC M A (storeName env x v) Q E s) : wpC M A (bindName env x v) Q E s := fun Γ p i c => by rw [Sem.wp_bindName]; exact h Γ p i c
theorem wpC_onRaise {m : Sem α} {k : Value → Sem Unit} {Q : α → Shared → Prop} (h : wpC M A m Q (fun e s' => wpC M A (k e) (fun _ s'' => E e s'') E s') s) : wpC M A (m.onRaise k) Q E s := fun Γ p i c => by
  rw [Sem.wp_onRaise]
  exact Sem.wp_mono M Γ m (fun _ _ _ q => q) (fun e p' s' q => q Γ p' i c) p s (h Γ p i c)
theorem wpC_attempt {m : Sem α} {Q : Except Value α → Shared → Prop} (h : wpC M A m (fun a => Q (.ok a)) (fun e => Q (.error e)) s) : wpC M A m.attempt Q E s := fun Γ p i c => by rw [Sem.wp_attempt]; exact h Γ p i c
theorem wpC_of_eq {t t' : Sem α} {Q : α → Shared → Prop} (e : t = t') (h : wpC M A t' Q E s) : wpC M A t Q E s := e ▸ h
theorem wpC_stack {Q : List (Code × Pos) → Shared → Prop} (h : ∀ st : List (Code × Pos), (∀ x ∈ st, okCode x.1 = true) → Q st s) : wpC M A stack Q E s := fun Γ p i c => by
  show Q ((Γ.code, p) :: Γ.below) s
  exact h _ (c.stack p)
theorem wpC_run {c : Code} {h : Option Value} {Q : Flow → Shared → Prop} (hc : codeC M (A.mark h) c (fun r s' => match r with | .ok f => Q f s' | .error e => E e s') s) (hnb : h ≠ some byPass) : wpC M A (run c h) Q E s :=
  fun Γ p i k => by rw [Sem.wp_run]; exact hc _ p rfl (i.enter c h p hnb) (k.enter c h p)
theorem wpC_runValue {c : Code} {Q : Value → Shared → Prop} (hc : codeC M A c (fun r s' => match r with | .ok (.ret v) => Q v s' | .ok _ => False | .error e => E e s') s) : wpC M A (runValue c) Q E s :=
  fun Γ p i k => by rw [Sem.wp_runValue]; exact hc _ p rfl (i.enter c none p (by intro x; cases x)) (k.enter c none p)
theorem wpC_call {f : Value} {pos : List Value} {kw : List (Str × Value)} {Q : Value → Shared → Prop} (hc : codeC M A (.call f ⟨pos, kw⟩) (fun r s' => match r with | .ok (.ret v) => Q v s' | .ok _ => False | .error e => E e s') s) : wpC M A (call f pos kw) Q E s := wpC_runValue hc
theorem codeC_mono {c : Code} {R R' : Result → Shared → Prop} (h : codeC M A c R s) (k : ∀ r s', R r s' → R' r s') : codeC M A c R' s := fun Γ p e i b => wpCode_mono k (h Γ p e i b)
theorem codeC_of_tree {c : Code} {R : Result → Shared → Prop} (hk : okCode c = true)
    (h : wpC M (A.under c) (M.den c) (fun fin s' => match fin with | .done f => R (.ok f) s' | .again c' => c'.quiet = true ∧ codeC M A c' R s') (fun e s' => R (.error e) s') s) : codeC M A c R s := fun Γ p e i b => by
  rw [wpCode_iff_wp, e]
  refine Sem.wp_mono M Γ _ (fun fin p' s' q => ?_) (fun _ _ _ q => q) p s (h Γ p (e ▸ i.in) ⟨e ▸ hk, b⟩)
  cases fin with
  | done f => exact q
  | again c' => exact ⟨q.1, q.2 (Γ.goto c') p' rfl (i.goto c') b⟩
theorem codeC_loop {c : Code} {R : Result → Shared → Prop} (hq : c.quiet = true) (hk : okCode c = true) (I : Nat → Shared → Prop)
    (turn : ∀ n s, I n s → wpC M (A.under c) (M.den c) (fun fin s' => match fin with | .done f => R (.ok f) s' | .again c' => (c' = c ∧ ∃ m, m < n ∧ I m s') ∨ (c'.quiet = true ∧ codeC M A c' R s')) (fun e s' => R (.error e) s') s)
    (n : Nat) (h : I n s) : codeC M A c R s := by
  induction n using Nat.strongRecOn generalizing s with
  | ind n ih =>
    refine codeC_of_tree hk (wpC_mono (turn n s h) fun fin s' q => ?_)
    cases fin with
    | done f => exact q
    | again c' =>
      rcases q with ⟨rfl, m, hm, hI⟩ | q
      · exact ⟨hq, ih m hm hI⟩
      · exact q
noncomputable def backC (M : Model) (A : Around) (env : Env) (E : Value → Shared → Prop) : Value → Shared → Prop := fun x s' => wpC M A (do
    if (← field x 1) == .none then unsupported "frame.own-activation:exception-without-traceback"
    setFlight x env.frame) (fun _ s'' => E x s'') E s'
theorem wpC_runOwn {c : Code} {h : Option Value} {Q : Flow → Shared → Prop} (hc : codeC M (A.mark h) c (fun r s' => match r with | .ok f => Q f s' | .error e => backC M A env E e s') s) (hnb : h ≠ some byPass) : wpC M A (runOwn c env h) Q E s := by
  unfold runOwn
  exact wpC_onRaise (wpC_run hc hnb)
noncomputable def notedC (M : Model) (A : Around) (env : Env) (E : Value → Shared → Prop) : Value → Shared → Prop := fun x s' => wpC M A (noteFrame x env) (fun _ s'' => E x s'') E s'
theorem wpC_noted {m : Sem α} {Q : α → Shared → Prop} (h : wpC M A m Q (notedC M A env E) s) : wpC M A (m.onRaise fun x => do noteFrame x env; theTreesLotGoes x) Q E s :=
  wpC_onRaise (wpC_monoE h (fun _ _ q => q) fun _ _ q => wpC_then q fun _ _ e => anyC (wpAny_theTreesLotGoes e))
theorem wpC_notedAt {pos : Pos} {m : Sem α} {Q : α → Shared → Prop} (h : wpC M A m Q (notedC M A env E) s) : wpC M A (m.onRaise fun x => do noteFrame x env; standAt pos) Q E s :=
  wpC_onRaise (wpC_monoE h (fun _ _ q => q) fun _ _ q => wpC_then q fun _ _ e => anyC (wpAny_standAt e))
theorem wpC_BinOp {l op r pos} {Q : Value → Shared → Prop} (h : wpC M A (eval l env) (fun a s₁ => wpC M A (eval r env) (fun b s₂ => wpC M A (binaryOp op a b) Q E s₂) E s₁) E s) : wpC M A (eval (.BinOp l op r pos) env) Q E s := by
  rw [eval_BinOp]
  exact wpC_then h fun a s₁ h₁ => holdC h₁ fun b s₂ h₂ => atC (wpC_operate h₂)
theorem wpC_Compare1 {l op r pos} {Q : Value → Shared → Prop} (h : wpC M A (eval l env) (fun a s₁ => wpC M A (eval r env) (fun b s₂ => wpC M A (compareOp op a b) Q E s₂) E s₁) E s) (hm : behindInMarks op r = false) :
    wpC M A (eval (.Compare l [op] [r] pos) env) Q E s := by
  rw [eval_Compare1]
  simp only [markedBehindIn_of_false hm]
  exact wpC_then h fun a s₁ h₁ => holdC h₁ fun b s₂ h₂ => atC (wpC_operate h₂)
theorem wpC_isTrue_Compare1 {l op r pos whole} {Q : Bool → Shared → Prop} (h : wpC M A (eval l env) (fun a s₁ => wpC M A (eval r env) (fun b s₂ => wpC M A (compareOp op a b) (fun c s₃ => wpC M A (truthy c) Q E s₃) E s₂) E s₁) E s)
    (hm : behindInMarks op r = false) : wpC M A (isTrue (.Compare l [op] [r] pos) env whole) Q E s := by
  rw [isTrue_Compare1]
  simp only [markedBehindIn_of_false hm]
  exact wpC_then h fun a s₁ h₁ => holdC h₁ fun b s₂ h₂ => atC (wpC_then (wpC_operate h₂) fun c s₃ h₃ => wpC_holding h₃)
theorem wpC_UnaryOp {op : UnaryOp} {x : Expr} {pos : Pos} {Q : Value → Shared → Prop} (h : wpC M A (eval x env) (fun v s₁ => wpC M A (unaryOp op v) Q E s₁) E s) : wpC M A (eval (.UnaryOp op x pos) env) Q E s := by
  rw [arm_eval_UnaryOp]
  exact wpC_then h fun v s₁ h₁ => atC (wpC_holding h₁)
theorem wpC_IfExp {test body orelse : Expr} {pos : Pos} {Q : Value → Shared → Prop} (h : wpC M A (isTrue test env (eval test env)) (fun b s₁ => if b then wpC M A (eval body env) Q E s₁ else wpC M A (eval orelse env) Q E s₁) E s) : wpC M A (eval (.IfExp test body orelse pos) env) Q E s := by
  rw [arm_eval_IfExp]
  exact wpC_then h fun b s₁ h₁ => by cases b <;> exact h₁
theorem wpC_isTrue_Not {x : Expr} {pos : Pos} {whole : Sem Value} {Q : Bool → Shared → Prop} (h : wpC M A (isTrue x env (eval x env)) (fun b s₁ => Q (!b) s₁) E s) : wpC M A (isTrue (.UnaryOp .Not x pos) env whole) Q E s := by
  rw [arm_isTrue_UnaryOp]
  exact wpC_then h fun b s₁ h₁ => wpC_pure h₁
theorem wpC_isTrue_value {e : Expr} {whole : Sem Value} {Q : Bool → Shared → Prop} (h : wpC M A whole (fun v s₁ => wpC M A (truthy v) Q E s₁) E s) (he : isTrue e env whole = (do let v ← whole; standAt e.pos; holding [v] (truthy v))) : wpC M A (isTrue e env whole) Q E s := by
  rw [he]
  exact wpC_then h fun v s₁ h₁ => atC (wpC_holding h₁)
theorem wpC_isTrue_BoolOp {op : BoolOp} {values : List Expr} {pos : Pos} {whole : Sem Value} {Q : Bool → Shared → Prop} (h : wpC M A (allTrue op values env) Q E s) : wpC M A (isTrue (.BoolOp op values pos) env whole) Q E s := by rw [arm_isTrue_BoolOp]; exact h
theorem wpC_allTrue_And_nil {Q : Bool → Shared → Prop} (h : Q true s) : wpC M A (allTrue .And [] env) Q E s := wpC_pure h
theorem wpC_allTrue_Or_nil {Q : Bool → Shared → Prop} (h : Q false s) : wpC M A (allTrue .Or [] env) Q E s := wpC_pure h
theorem wpC_allTrue_And_cons {x : Expr} {rest : List Expr} {Q : Bool → Shared → Prop} (h : wpC M A (isTrue x env (eval x env)) (fun b s₁ => if b then wpC M A (allTrue .And rest env) Q E s₁ else Q false s₁) E s) : wpC M A (allTrue .And (x :: rest) env) Q E s := by
  rw [allTrue]
  refine wpC_then h fun b s₁ h₁ => ?_
  cases b
  · exact wpC_pure h₁
  · exact h₁
theorem wpC_allTrue_Or_cons {x : Expr} {rest : List Expr} {Q : Bool → Shared → Prop} (h : wpC M A (isTrue x env (eval x env)) (fun b s₁ => if b then Q true s₁ else wpC M A (allTrue .Or rest env) Q E s₁) E s) : wpC M A (allTrue .Or (x :: rest) env) Q E s := by
  rw [allTrue]
  refine wpC_then h fun b s₁ h₁ => ?_
  cases b
  · exact h₁
  · exact wpC_pure h₁
theorem wpC_items_nil {pos : Pos} {Q : List Value → Shared → Prop} (h : Q [] s) : wpC M A (spliced (backTo pos (starEach [] env))) Q E s := wpC_pure h
theorem wpC_items_cons {pos : Pos} {e : Expr} {rest : List Expr} {Q : List Value → Shared → Prop} (h : wpC M A (eval e env) (fun v s₁ => wpC M A (spliced (backTo pos (starEach rest env))) (fun vs s₂ => Q (v :: vs) s₂) E s₁) E s)
    (he : starEach (e :: rest) env = (false, eval e env) :: starEach rest env) : wpC M A (spliced (backTo pos (starEach (e :: rest) env))) Q E s := by
  rw [he]
  show wpC M A (eval e env >>= fun v => (pure [v] : Sem (List Value)) >>= fun here => holding here (spliced (backTo pos (starEach rest env))) >>= fun r => pure (here ++ r)) Q E s
  exact wpC_then h fun v s₁ h₁ => pureC (holdC h₁ fun vs s₂ h₂ => wpC_pure h₂)
theorem wpC_Tuple {elts : List Expr} {k : Nat} {pos : Pos} {Q : Value → Shared → Prop} (h : wpC M A (spliced (backTo pos (starEach elts env))) (fun vs s₁ => vs.length ≤ sizeLine ∧ Q (.ref s₁.heap.objs.size) { s₁ with heap := s₁.heap.push { cls := .type "tuple", data := .seq vs.toArray } }) E s) : wpC M A (eval (.Tuple elts k pos) env) Q E s := by
  rw [arm_eval_Tuple]
  exact atC (wpC_then h fun vs s₁ h₁ => anyC (wpAny_newObj_type h₁.2 (by show vs.toArray.size ≤ sizeLine; rw [List.size_toArray]; exact h₁.1)))
theorem wpC_List {elts : List Expr} {pos : Pos} {Q : Value → Shared → Prop} (h : wpC M A (spliced (backTo pos (starEach elts env))) (fun vs s₁ => vs.length ≤ sizeLine ∧ Q (.ref s₁.heap.objs.size) { s₁ with heap := s₁.heap.push { cls := .type "list", data := .seq vs.toArray } }) E s) : wpC M A (eval (.List elts pos) env) Q E s := by
  rw [arm_eval_List]
  exact atC (wpC_then h fun vs s₁ h₁ => anyC (wpAny_newObj_type h₁.2 (by show vs.toArray.size ≤ sizeLine; rw [List.size_toArray]; exact h₁.1)))
theorem wpC_Slice {lower upper step : Option Expr} {p : Pos} {Q : Value → Shared → Prop} (h : wpC M A (evalPart lower env) (fun l s₁ => wpC M A (evalPart upper env) (fun u s₂ => wpC M A (evalPart step env) (fun st s₃ =>
      Q (.ref s₃.heap.objs.size) { s₃ with heap := s₃.heap.push { cls := .type "slice", data := .fields #[l, u, st] } }) E s₂) E s₁) E s) : wpC M A (eval (.Slice lower upper step p) env) Q E s := by
  rw [arm_eval_Slice]
  exact wpC_then h fun l s₁ h₁ => holdC h₁ fun u s₂ h₂ => holdC h₂ fun st s₃ h₃ => anyC (wpAny_newObj_type h₃)
theorem wpC_evalPart_some {e : Expr} {Q : Value → Shared → Prop} (h : wpC M A (eval e env) Q E s) : wpC M A (evalPart (some e) env) Q E s := h
theorem wpC_evalPart_none {Q : Value → Shared → Prop} (h : Q .none s) : wpC M A (evalPart none env) Q E s := wpC_pure h
theorem Attribute_C {value : Expr} {attr : Str} {pos : Pos} {Q : Value → Shared → Prop} (h : wpC M A (eval value env) (fun o s₁ => wpC M A (getAttr o attr true) Q E s₁) E s)
    (he : eval (.Attribute value attr pos) env = (do
      let o ← eval value env
      standAt pos.atName
      let r ← holding [o] (getAttr o attr true)
      letTemporaryGo value o r
      pure r)) (hl : ∀ {A : Around} {E : Value → Shared → Prop} {s : Shared} {o r : Value} {Q : Unit → Shared → Prop}, Q () s → wpAny M A (letTemporaryGo value o r) Q E s) : wpC M A (eval (.Attribute value attr pos) env) Q E s := by
  rw [he]
  exact wpC_then h fun o s₁ h₁ => atC (holdC h₁ fun r s₂ h₂ => stepC (hl (wpC_pure h₂)))
theorem Subscript_C {value slice pos} {Q : Value → Shared → Prop} (h : wpC M A (eval value env) (fun o s₁ => wpC M A (eval slice env) (fun i s₂ => wpC M A (subscriptTail value slice o i) Q E s₂) E s₁) E s) : wpC M A (eval (.Subscript value slice pos) env) Q E s := by
  rw [eval_Subscript]
  exact wpC_then h fun o s₁ h₁ => holdC h₁ fun i s₂ h₂ => atC h₂
theorem evalArgs_plainC {f : Value} {x : Sem Value} {rest : List (Bool × Sem Value)} {Q : Args → Shared → Prop} (h : wpC M A (spliced ((false, x) :: rest)) (fun vs s' => Q ⟨vs, []⟩ s') E s) : wpC M A (evalArgs f true ((false, x) :: rest) []) Q E s := by
  unfold evalArgs
  show wpC M A (spliced ((false, x) :: rest) >>= _) Q E s
  exact wpC_then h fun vs s' h' => wpC_holding (pureC (pureC (wpC_pure h')))
theorem tailC {t : Sem Value} {Q : Value → Shared → Prop} (h : wpC M A t Q E s) : wpC M A (t >>= fun r => holding [r] point >>= fun _ => pure r) Q E s :=
  wpC_then h fun r s' q => stepC (wpAny_holding (wpAny_point (wpC_pure q)))
theorem callWith_C {pos : Pos} {f : Value} {first : List Value} {P : Heap → Prop} {args : List (Bool × Sem Value)} {keywords : List (Option Str × Sem Value)} {Q : Value → Shared → Prop} (hplain : (args.any (·.1) || keywords.any (·.1.isNone)) = false)
    (hk : ∀ h, P h → ∃ k, (k = Keeper.frame ∨ k = Keeper.machine ∨ k = Keeper.boundFrame) ∧ Looks M h (keeperOf f) k)
    (h : wpC M A (evalArgs f true args keywords) (fun a s₁ => P s₁.heap ∧ wpC M A (call f (first ++ a.pos) a.kw) Q E s₁) E s) : wpC M A (callWith pos f first args keywords) Q E s := by
  unfold callWith
  refine holdC h fun a s₁ h₁ => atC ?_
  obtain ⟨k, hk', L⟩ := hk _ h₁.1
  simp only [hplain]
  refine stepC (L.here ?_)
  have marked (mk : Value) : wpC M A (callMarked mk f (first ++ a.pos) a.kw) Q E s₁ := by unfold callMarked; exact wpC_keep h₁.2
  rcases hk' with rfl | rfl | rfl <;> dsimp only <;> first | exact tailC h₁.2 | (split <;> first | exact tailC h₁.2 | exact tailC (marked _))
theorem callWith_KC {K : Frag} {pos : Pos} {f : Value} {first : List Value} {e : Expr} {rest : List Expr} {Q : Value → Shared → Prop} (hk : keepIn K f = true) (h : wpC M A (spliced (backTo pos (starEach (e :: rest) env))) (fun vs s₁ => K.In s₁.heap ∧ wpC M A (call f (first ++ vs)) Q E s₁) E s)
    (he : starEach (e :: rest) env = (false, eval e env) :: starEach rest env) (hplain : (backTo pos (starEach rest env)).any (·.1) = false) : wpC M A (callWith pos f first (backTo pos (starEach (e :: rest) env)) []) Q E s := by
  rw [he] at h ⊢
  exact callWith_C (by show ((false || (backTo pos (starEach rest env)).any (·.1)) || false) = false; rw [hplain]; rfl) (keeps_K hk) (evalArgs_plainC h)
theorem callWith_K0C {K : Frag} {pos : Pos} {f : Value} {first : List Value} {Q : Value → Shared → Prop} (X : K.In s.heap) (hk : keepIn K f = true) (h : wpC M A (call f (first ++ [])) Q E s) : wpC M A (callWith pos f first (backTo pos (starEach [] env)) []) Q E s :=
  callWith_C rfl (keeps_K hk) (anyC (evalArgs_nil3 ⟨X, h⟩))
theorem methodCall_C {name : Str} {o : Expr} {apos pos : Pos} {args : List Expr} {kws : List Keyword} {pl : Sem Bool} {Q : Value → Shared → Prop}
    (h : wpC M A (eval o env) (fun ov s₁ => wpC M A (getMethod ov name pl) (fun fx s₂ => wpC M A (callWith pos fx.1 fx.2 (backTo pos (starEach args env)) (backToKw pos (keywordEach kws env))) Q E s₂) E s₁) E s)
    (he : eval (.Call (.Attribute o name apos) args kws pos) env = (do
      let ov ← eval o env
      standAt apos.atName
      let (f, first) ← holding [ov] (getMethod ov name pl)
      callWith pos f first (backTo pos (starEach args env)) (backToKw pos (keywordEach kws env)))) : wpC M A (eval (.Call (.Attribute o name apos) args kws pos) env) Q E s := by
  rw [he]
  exact wpC_then h fun ov s₁ h₁ => atC (holdC h₁ fun fx s₂ h₂ => h₂)
theorem callWith_builtinC {pos : Pos} {id : String} {first : List Value} {args : List (Bool × Sem Value)} {Q : Value → Shared → Prop} (hplain : args.any (·.1) = false) (h : wpC M A (evalArgs (.builtin id) true args []) (fun a s₁ => wpC M A (call (.builtin id) (first ++ a.pos) a.kw) Q E s₁) E s) : wpC M A (callWith pos (.builtin id) first args []) Q E s := by
  unfold callWith
  refine holdC h fun a s₁ h₁ => atC ?_
  simp only [hplain, List.any_nil, Bool.or_false]
  exact pureC (tailC h₁)
theorem callWith_typeC {pos : Pos} {T : String} {first : List Value} {args : List (Bool × Sem Value)} {Q : Value → Shared → Prop} (hplain : args.any (·.1) = false) (h : wpC M A (evalArgs (.type T) true args []) (fun a s₁ => wpC M A (call (.type T) (first ++ a.pos) a.kw) Q E s₁) E s) : wpC M A (callWith pos (.type T) first args []) Q E s := by
  unfold callWith
  refine holdC h fun a s₁ h₁ => atC ?_
  simp only [hplain, List.any_nil, Bool.or_false]
  exact pureC (tailC h₁)
theorem callWith_type0C {pos : Pos} {T : String} {Q : Value → Shared → Prop} (h : wpC M A (call (.type T) []) Q E s) : wpC M A (callWith pos (.type T) [] (backTo pos (starEach [] env)) []) Q E s := callWith_typeC rfl (anyC (evalArgs_nil3 h))
theorem wpC_execs_nil {Q : Flow → Shared → Prop} (h : Q .next s) : wpC M A (execs [] env) Q E s := wpC_pure h
theorem wpC_execs_cons {st rest} {Q : Flow → Shared → Prop} (h : wpC M A (exec st env) (fun f s' => match f with | .next => wpC M A (execs rest env) Q E s' | f => Q f s') E s) : wpC M A (execs (st :: rest) env) Q E s := by
  rw [execs_cons]
  exact wpC_then h fun f s' k => by cases f <;> first | exact k | exact wpC_pure k
theorem wpC_Assign_Name {x pos' value pos} {Q : Flow → Shared → Prop} (h : wpC M A (eval value env) (fun v s₁ => wpC M A (storeName env x v) (fun _ => Q .next) E s₁) E s) (hs : swapsWith value (some (.Name x pos')) pos.line env = pure false) : wpC M A (exec (.Assign [.Name x pos'] value pos) env) Q E s := by
  rw [exec_Assign_Name env x pos' value pos hs]
  exact atC (wpC_then h fun v s₁ h₁ => atC (wpC_then (wpC_bindName h₁) fun _ _ q => wpC_pure q))
theorem wpC_AugAssign_Name {x pos' op value pos} {Q : Flow → Shared → Prop} (h : wpC M A (loadName env x) (fun old s₁ => wpC M A (eval value env) (fun v s₂ => wpC M A (inplaceOp op old v) (fun r s₃ => wpC M A (storeName env x r) (fun _ => Q .next) E s₃) E s₂) E s₁) E s) : wpC M A (exec (.AugAssign (.Name x pos') op value pos) env) Q E s := by
  rw [exec_AugAssign_Name]
  exact atC (wpC_then h fun old s₁ h₁ => holdC h₁ fun v s₂ h₂ => atC (wpC_then (wpC_operate h₂) fun r s₃ h₃ => atC (wpC_then (wpC_bindName h₃) fun _ _ q => wpC_pure q)))
theorem wpC_Return_some {e pos} {Q : Flow → Shared → Prop} (h : wpC M A (eval e env) (fun v => Q (.ret v)) E s) : wpC M A (exec (.Return (some e) pos) env) Q E s := by
  rw [exec_Return_some]
  exact atC (wpC_then h fun v s₁ q => wpC_pure q)
theorem wpC_Return_none {pos} {Q : Flow → Shared → Prop} (h : Q (.ret .none) s) : wpC M A (exec (.Return none pos) env) Q E s := anyC (wpAny_Return_none h)
theorem wpC_Break {pos : Pos} {Q : Flow → Shared → Prop} (h : Q .brk s) : wpC M A (exec (.Break pos) env) Q E s := anyC (wpAny_Break h)
theorem wpC_If {test body orelse pos} {Q : Flow → Shared → Prop} (h : wpC M A (isTrue test env (eval test env)) (fun b s₂ => if b then wpC M A (execs body env) Q E s₂ else wpC M A (execs orelse env) Q E s₂) E s) : wpC M A (exec (.If test body orelse pos) env) Q E s := by
  rw [exec_If]
  exact atC (wpC_then h fun b s₁ h₁ => by cases b <;> exact h₁)
theorem wpC_Assign_Attribute {o attr pos' value pos} {Q : Flow → Shared → Prop} (h : wpC M A (eval value env) (fun v s₁ => wpC M A (eval o env) (fun ov s₂ => wpC M A (setAttr ov attr v) (fun _ => Q .next) E s₂) E s₁) E s) (hs : swapsWith value (some (.Attribute o attr pos')) pos.line env = pure false) :
    wpC M A (exec (.Assign [.Attribute o attr pos'] value pos) env) Q E s := by
  rw [plainObj_exec_Assign_Attribute o attr pos' value pos hs]
  simp only [assign_Attribute]
  refine atC (wpC_then h fun v s₁ h₁ => wpC_bind ?_)
  exact holdC h₁ fun ov s₂ h₂ => atC (holdC h₂ fun _ s₃ q => wpC_release (wpC_pure q))
theorem wpC_AugAssign_Attribute {o value : Expr} {attr : Str} {tpos pos : Pos} {op : Operator} {Q : Flow → Shared → Prop}
    (h : wpC M A (eval o env) (fun ov s₁ => wpC M A (getAttr ov attr true) (fun old s₂ => wpC M A (eval value env) (fun v s₃ => wpC M A (inplaceOp op old v) (fun new s₄ => wpC M A (setAttr ov attr new) (fun _ => Q .next) E s₄) E s₃) E s₂) E s₁) E s) :
    wpC M A (exec (.AugAssign (.Attribute o attr tpos) op value pos) env) Q E s := by
  have e : exec (.AugAssign (.Attribute o attr tpos) op value pos) env = (do
      standAt pos
      let ov ← eval o env
      let new ← holding [ov] do
        standAt tpos.atName
        let old ← getAttr ov attr true
        let v ← holding [old] (eval value env)
        standAt pos
        operate [old, v] (inplaceOp op old v)
      standAt tpos.atName
      holding [new, ov] (setAttr ov attr new)
      release [new, ov] []
      pure .next) := rfl
  rw [e]
  refine atC (wpC_then h fun ov s₁ h₁ => wpC_bind (wpC_holding (atC (wpC_then h₁ fun old s₂ h₂ => holdC h₂ fun v s₃ h₃ => atC (wpC_mono (wpC_operate h₃) fun new s₄ h₄ => ?_)))))
  exact atC (holdC h₄ fun _ s₅ q => wpC_bind (wpC_release (wpC_pure q)))
theorem wpC_While {test body orelse pos} {Q : Flow → Shared → Prop} (h : codeC M A (.whileLoop test body orelse env) (fun r s' => match r with | .ok f => Q f s' | .error e => backC M A env E e s') s) : wpC M A (exec (.While test body orelse pos) env) Q E s := by
  rw [exec_While]; exact atC (wpC_runOwn h (by intro x; cases x))
theorem wpC_For {target iter body orelse pos} {Q : Flow → Shared → Prop} (h : wpC M A (eval iter env) (fun x s₁ => wpC M A (pyIter x) (fun it s₂ => codeC M A (.forLoop target it body orelse env) (fun r s' => match r with | .ok f => Q f s' | .error e => backC M A env E e s') s₂) E s₁) E s)
    (hs : ∀ x, foldedSetIterable iter env x = pure x) : wpC M A (exec (.For target iter body orelse pos) env) Q E s := by
  rw [exec_For]
  exact atC (wpC_then h fun x s₁ h₁ => wpC_bind (wpC_of_eq (hs x) (wpC_pure (atC (holdC h₁ fun it s₂ h₂ => wpC_runOwn h₂ (by intro x; cases x))))))
theorem wpC_assign_Name {x pos v} {Q : Unit → Shared → Prop} (h : wpC M A (storeName env x v) Q E s) : wpC M A (assign (.Name x pos) env v) Q E s := by
  rw [PySem.assign_Name]; exact atC (wpC_bindName h)
end
section
variable {prog : Program} {w : World} {A : Around} {E : Value → Shared → Prop} {R : Result → Shared → Prop} {s : Shared} {env : Env}
theorem wpC_Expr_any {e pos} {Q : Flow → Shared → Prop} (h : wpC (model prog w) A (eval e env) (fun _ => Q .next) E s) (hi : interactive env = false) (hs : swapsWith e none pos.line env = pure false) : wpC (model prog w) A (exec (.Expr e pos) env) Q E s := by
  rw [exec_Expr env e pos hi hs]
  exact atC (wpC_then h fun v s' q => anyC (wpAny_dropValue q))
theorem AttributeC {value : Expr} {attr : Str} {pos : Pos} {Q : Value → Shared → Prop} (h : wpC (model prog w) A (eval value env) (fun o s₁ => wpC (model prog w) A (getAttr o attr true) Q E s₁) E s)
    (he : eval (.Attribute value attr pos) env = (do
      let o ← eval value env
      standAt pos.atName
      let r ← holding [o] (getAttr o attr true)
      letTemporaryGo value o r
      pure r)) : wpC (model prog w) A (eval (.Attribute value attr pos) env) Q E s := Attribute_C h he fun q => wpAny_letTemporaryGo q
theorem codeC_whileLoop {test body orelse env} (I : Nat → Shared → Prop)
    (turn : ∀ n s, I n s → wpC (model prog w) A (isTrue test env (eval test env)) (fun b s₂ =>
        if b then wpC (model prog w) A (execs body env) (fun f s₃ => match f with
            | .next | .cont => ∃ m, m < n ∧ I m s₃
            | .brk => R (.ok .next) s₃
            | .ret v => R (.ok (.ret v)) s₃) (notedC (model prog w) A env fun e s' => R (.error e) s') s₂
        else wpC (model prog w) A (execs orelse env) (fun f s₃ => R (.ok f) s₃) (notedC (model prog w) A env fun e s' => R (.error e) s') s₂)
        (notedC (model prog w) A env fun e s' => R (.error e) s') s)
    (n : Nat) (h : I n s) : codeC (model prog w) A (.whileLoop test body orelse env) R s := by
  refine codeC_loop rfl rfl I (fun n s hI => ?_) n h
  show wpC _ A ((whileTurn test body orelse env).onRaise (fun x => do noteFrame x env; theTreesLotGoes x)) _ _ s
  refine wpC_noted ?_
  simp only [whileTurn]
  refine wpC_then (turn n s hI) fun b s₂ h₂ => ?_
  cases b with
  | false => exact wpC_then h₂ fun f s₃ q => wpC_pure q
  | true =>
    refine wpC_then h₂ fun f s₃ q => ?_
    cases f with
    | next => exact wpC_pure (.inl ⟨rfl, q⟩)
    | cont => exact wpC_pure (.inl ⟨rfl, q⟩)
    | brk => exact wpC_pure q
    | ret v => exact wpC_pure q
theorem codeC_block {stmts : List Stmt} (h : wpC (model prog w) A (execs stmts env) (fun f s' => R (.ok f) s') (notedC (model prog w) A env fun e s' => R (.error e) s') s) : codeC (model prog w) A (.block stmts env) R s := by
  refine codeC_of_tree rfl ?_
  show wpC _ _ ((execs stmts env).onRaise (fun x => do noteFrame x env; theTreesLotGoes x) >>= fun f => pure (Fin.done f)) _ _ s
  exact wpC_then (wpC_noted h) fun f s' q => wpC_pure q
theorem codeC_forLoop {target it body orelse env} (I : Nat → Shared → Prop)
    (turn : ∀ n s, I n s → wpC (model prog w) A (pyNext it) (fun r s₁ => match r with
      | none => wpC (model prog w) A (execs orelse env) (fun f s₃ => R (.ok f) s₃) (notedC (model prog w) A env fun e s' => R (.error e) s') s₁
      | some v => wpC (model prog w) A (letOwnedTupleGo target it v) (fun _ s₁' =>
          wpC (model prog w) A (assign target env v) (fun _ s₂ => wpC (model prog w) A (execs body env) (fun f s₃ => match f with
            | .next | .cont => ∃ m, m < n ∧ I m s₃
            | .brk => R (.ok .next) s₃
            | .ret v => R (.ok (.ret v)) s₃) (notedC (model prog w) A env fun e s' => R (.error e) s') s₂) (notedC (model prog w) A env fun e s' => R (.error e) s') s₁') (notedC (model prog w) A env fun e s' => R (.error e) s') s₁) (notedC (model prog w) A env fun e s' => R (.error e) s') s)
    (n : Nat) (h : I n s) : codeC (model prog w) A (.forLoop target it body orelse env) R s := by
  refine codeC_loop rfl rfl I (fun n s hI => ?_) n h
  show wpC _ A ((forTurn target it body orelse env).onRaise (fun x => do noteFrame x env; theTreesLotGoes x)) _ _ s
  refine wpC_noted ?_
  simp only [forTurn]
  refine atC (wpC_bind (wpC_onRaise (wpC_monoE (turn n s hI) (fun r s₁ h₁ => ?_) fun _ _ q => anyC (wpAny_standAt q))))
  cases r with
  | none => exact wpC_pure (.inr ⟨rfl, codeC_block h₁⟩)
  | some v =>
    refine wpC_then h₁ fun _ s₁' h₁' => wpC_then h₁' fun _ s₂ h₂ => wpC_then h₂ fun f s₃ q => ?_
    cases f with
    | next => exact wpC_pure (.inl ⟨rfl, q⟩)
    | cont => exact wpC_pure (.inl ⟨rfl, q⟩)
    | brk => exact wpC_pure q
    | ret v => exact wpC_pure q
theorem codeC_func {body env} (h : wpC (model prog w) (A.deeper env) (execs body env) (fun f s' => R (.ok (.ret (match f with | .ret v => v | _ => .none))) s')
      (fun e s' => wpC (model prog w) (A.deeper env) (leaving env e) (fun _ s'' => R (.error e) s'') (fun e' s'' => R (.error e') s'') s') s) : codeC (model prog w) A (.func body env) R s := by
  refine codeC_of_tree rfl ?_
  show wpC _ (A.deeper env) (point >>= fun _ => (execs body env).onRaise (leaving env) >>= fun f => match f with | .ret v => ret v | _ => ret .none) _ _ s
  refine stepC (wpAny_point (wpC_then (wpC_onRaise h) fun f s' q => ?_))
  cases f <;> exact wpC_pure q
theorem codeC_call_function {a : Addr} {args : Args} {o : Obj} {fd : FuncData} {body : List Stmt} (hroom : A.depth < recursionLimit) (ho : s.heap.get? a = some o)
    (hd' : o.data = .func fd) (hco : fd.scope.isCoroutine = false) (hgen : fd.scope.isGenerator = false) (hbody : fd.body = .stmts body) (hcd : s.heap.CodeRec fd.code fd.qualname)
    (h : wpAny (model prog w) A.in1 (bindArgs fd args) (fun binds s₁ => wpAny (model prog w) A.in1 (newFunctionEnv fd.scope fd.globals fd.closure binds (fd.qualname ++ ".<locals>.") (some a) fd.code none fd.builtins)
        (fun env s₂ => s₂.heap.NoLimit ∧ codeC (model prog w) A (.func body env) R s₂) (fun e s' => R (.error e) s') s₁) (fun e s' => R (.error e) s') s) : codeC (model prog w) A (.call (.ref a) args) R s := by
  refine codeC_of_tree rfl ?_
  show wpC _ A.in1 (callAny (.ref a) args) _ _ s
  simp only [callAny]
  refine stepC (wpAny_load ho ?_)
  obtain ⟨c, oc, vs, tq, hc, hoc, hdc, hq⟩ := hcd
  simp only [hd', callFunction, hco, hgen, hbody, hc]
  rw [hc] at h
  refine wpC_bind (m := field (.ref c) 1) (anyC (wpAny_field hoc hdc hq (pureC ?_)))
  exact wpC_then (anyC h) fun binds s₁ h₁ => wpC_then (anyC h₁) fun env s₂ h₂ => stepC (wpAny_enterFrame h₂.1 hroom (wpC_pure (And.intro rfl h₂.2)))
theorem codeC_call_builtin_at {id : String} {args : Args} {b : Builtin} (hk : okCode (.builtin id args) = true) (hq : (Code.builtin id args).quiet = true) (hb : entryFor table id = some b)
    (h : wpC (model prog w) A.in1 (checkBuiltinCall id args) (fun _ s₁ => wpC (model prog w) (A.under (.builtin id args)) (b args)
      (fun fin s' => match fin with | .done f => R (.ok f) s' | .again c' => c'.quiet = true ∧ codeC (model prog w) A c' R s') (fun e s' => R (.error e) s') s₁) (fun e s' => R (.error e) s') s) : codeC (model prog w) A (.call (.builtin id) args) R s := by
  refine codeC_of_tree rfl ?_
  show wpC _ A.in1 (checkBuiltinCall id args >>= fun _ => again (.builtin id args)) _ _ s
  refine wpC_then h fun _ s₁ h₁ => wpC_pure (And.intro hq (codeC_of_tree hk ?_))
  show wpC _ _ (match entryFor table id with | some b => b args | none => unsupported ((withoutEnding? id "#data").getD id)) _ _ s₁
  rw [hb]; exact h₁
theorem codeC_compStart_list {elt target iter ifs rest scope pos it acc env}
    (h0 : codeC (model prog w) A (.compLoop (.ListComp elt (⟨target, iter, ifs, 0⟩ :: rest) scope pos) 0 it acc env) R s)
    (h : wpC (model prog w) A (pyIter it) (fun it' s' => codeC (model prog w) A (.compLoop (.ListComp elt (⟨target, iter, ifs, 0⟩ :: rest) scope pos) 0 it' acc env) R s') (notedC (model prog w) A env fun x s' => R (.error x) s') s) :
    codeC (model prog w) A (.compStart (.ListComp elt (⟨target, iter, ifs, 0⟩ :: rest) scope pos) 0 it acc env) R s := by
  refine codeC_of_tree rfl ?_
  show wpC _ _ ((compStart (.ListComp elt (⟨target, iter, ifs, 0⟩ :: rest) scope pos) 0 it acc env).onRaise (fun x => do noteFrame x env; standAt theWindowsPlace)) _ _ s
  refine wpC_notedAt ?_
  unfold compStart
  show wpC _ _ (ask >>= _) _ _ s
  refine stepC (wpAny_askSetting ?_)
  dsimp only
  split
  · first
      | exact pureC (wpC_pure (And.intro rfl h0))
      | exact wpC_pure (And.intro rfl h0)
  · refine stepC (wpAny_rule ?_)
    show wpC _ _ (standAt iter.pos >>= _) _ _ s
    exact atC (wpC_then h fun it' s' q => wpC_pure (And.intro rfl q))
theorem codeC_compLoop {elt target iter : Expr} {ifs : List Expr} {scope : Scope} {pos : Pos} {it acc : Value} {env : Env} (I : Nat → Shared → Prop)
    (turn : ∀ n s, I n s → wpC (model prog w) A (pyNext it) (fun r s₁ => match r with
      | none => R (.ok .next) s₁
      | some v => wpC (model prog w) A (assign target env v) (fun _ s₂ =>
          wpC (model prog w) A (forIn ifs true fun c r => if r = true then do let ok ← isTrue c env (eval c env); pure (ForInStep.yield ok) else pure (ForInStep.yield r)) (fun ok s₃ =>
            if ok = true then wpC (model prog w) A (eval elt env) (fun x s₄ =>
              wpC (model prog w) A (call (.builtin "list.append") [acc, x]) (fun _ s₅ => ∃ m, m < n ∧ I m s₅) (notedC (model prog w) A env fun e s' => R (.error e) s') s₄) (notedC (model prog w) A env fun e s' => R (.error e) s') s₃
            else ∃ m, m < n ∧ I m s₃) (notedC (model prog w) A env fun e s' => R (.error e) s') s₂) (notedC (model prog w) A env fun e s' => R (.error e) s') s₁) (notedC (model prog w) A env fun e s' => R (.error e) s') s)
    (n : Nat) (h : I n s) (ht : ∀ v, letOwnedTupleGo target it v = pure () := by intro _; rfl) :
    codeC (model prog w) A (.compLoop (.ListComp elt [⟨target, iter, ifs, 0⟩] scope pos) 0 it acc env) R s := by
  refine codeC_loop rfl rfl I (fun n s hI => ?_) n h
  show wpC _ A ((compTurn (.ListComp elt [⟨target, iter, ifs, 0⟩] scope pos) 0 it acc env).onRaise (fun x => do noteFrame x env; theTreesLotGoes x)) _ _ s
  refine wpC_noted ?_
  rw [compTurn_list]
  refine atC (wpC_then (turn n s hI) fun r s₁ h₁ => ?_)
  cases r with
  | none => exact wpC_pure h₁
  | some v =>
    refine wpC_bind (wpC_of_eq (ht v) (wpC_pure (wpC_then h₁ fun _ s₂ h₂ => wpC_then h₂ fun ok s₃ h₃ => ?_)))
    cases ok with
    | false => exact wpC_pure (.inl ⟨rfl, h₃⟩)
    | true => exact wpC_bind (wpC_then h₃ fun x s₄ h₄ => wpC_then h₄ fun _ s₅ q => wpC_pure (wpC_pure (.inl ⟨rfl, q⟩)))
end
section
variable {M : Model} {A : Around} {E : Value → Shared → Prop} {s : Shared} {env : Env}
noncomputable def compPostC (M : Model) (A : Around) (E : Value → Shared → Prop) (use : Option (Value → Sem Unit)) (Q : Value → Shared → Prop) (acc : Value) (cenv : Env) (r : Result) (s' : Shared) : Prop :=
  match r, use with
  | .ok _, none => ∃ m, s'.heap.Ns cenv.locals m ∧ ∀ h', Heap.SameBut cenv.locals s'.heap h' → Q acc { s' with heap := h' }
  | .ok _, some u => wpC M A (u acc) (fun _ s'' => ∃ m, s''.heap.Ns cenv.locals m ∧ ∀ h', Heap.SameBut cenv.locals s''.heap h' → Q .none { s'' with heap := h' }) E s'
  | .error x, _ => ∃ m, s'.heap.Ns cenv.locals m ∧ ∀ h', Heap.SameBut cenv.locals s'.heap h' → wpC M A (passOn "comprehension.variables-let-go" x cenv) Q E { s' with heap := h' }
theorem standIfC {α : Type} {c : Prop} [Decidable c] {pos : Pos} {k : PUnit → Sem α} {Q : α → Shared → Prop} (h : wpC M A (k ()) Q E s) : wpC M A (if c then (standAt pos >>= k) else k ()) Q E s := by
  split
  · exact atC h
  · exact h
theorem wpC_comp {e : Expr} {scope : Scope} {pos : Pos} {newAcc first : Sem Value} {g : Comprehension} {gs : List Comprehension} {cl : List (Str × Addr)} {use : Option (Value → Sem Unit)} {Q : Value → Shared → Prop}
    (hcl : clausesOf e = g :: gs) (hs : ∀ x, foldedSetIterable g.iter env x = pure x) (hclos : closureFor scope env = pure cl) (hkind : scope.kind = .function) (hnames : ∀ x ∈ scope.names, x.2 = .local → scope.names.lookup x.1 = some .local)
    (h : wpC M A first (fun x s₁ => wpC M A (pyIter x) (fun it s₂ => wpC M A newAcc (fun acc s₃ =>
      wpC M A (newFunctionEnv scope env.globals cl [] env.qual none .none (some env)) (fun cenv s₄ =>
        codeC M A (.compStart e 0 it acc { cenv with scope := relabel scope env }) (compPostC M A E use Q acc { cenv with scope := relabel scope env }) s₄) E s₃) E s₂) E s₁) E s) :
    wpC M A (comprehension e scope env pos newAcc false first use) Q E s := by
  unfold comprehension
  rw [hclos, hcl]
  refine wpC_then h fun x s₁ h₁ => atC (wpC_bind (wpC_of_eq (hs x) (wpC_pure (holdC h₁ fun it s₂ h₂ => standIfC (wpC_then h₂ fun acc s₃ h₃ => pureC (wpC_then h₃ fun cenv s₄ h₄ => ?_))))))
  dsimp only
  have hv : ∀ (l : List (Str × NameKind)), (∀ x ∈ l, x ∈ (scope.names.filter fun x => (x.2 == .local || x.2 == .cell) && x.1 != (".0" : Str)).reverse) → ∀ x ∈ l, x.2 = .local → Env.kindOf { cenv with scope := relabel scope env } x.1 = some .local :=
    fun l hl x hx k => lookup_relabel_local (hnames x (List.mem_filter.mp (List.mem_reverse.mp (hl x hx))).1 k)
  refine wpC_holding (wpC_bind (wpC_attempt (wpC_holding (wpC_run (codeC_mono h₄ fun r s' hr => ?_) (by intro x; cases x)))))
  cases r with
  | ok f =>
    cases use with
    | none =>
      obtain ⟨m, hn, hr⟩ := hr
      exact stepC (wpAny_holding (wpAny_comp_letGo (cenv := { cenv with scope := relabel scope env }) hkind _ s' m (hv _ fun _ hx => hx) hn fun h' m' _ hs' => wpC_pure (hr h' hs')))
    | some u =>
      refine stepC (wpAny_rule (holdC hr fun _ s'' hr' => ?_))
      obtain ⟨m, hn, hr'⟩ := hr'
      refine stepC (wpAny_comp_letGo (cenv := { cenv with scope := relabel scope env }) hkind _ s'' m (hv _ fun x hx => ?_) hn fun h' m' _ hs' => wpC_pure (hr' h' hs'))
      rcases List.mem_append.mp hx with q | q
      · exact List.mem_of_mem_drop q
      · exact List.mem_of_mem_take q
  | error x =>
    have hr' : ∃ m, s'.heap.Ns cenv.locals m ∧ ∀ h', Heap.SameBut cenv.locals s'.heap h' → wpC M A (passOn "comprehension.variables-let-go" x { cenv with scope := relabel scope env }) Q E { s' with heap := h' } := by cases use <;> exact hr
    obtain ⟨m, hn, hr⟩ := hr'
    exact stepC (wpAny_holding (wpAny_comp_letGo (cenv := { cenv with scope := relabel scope env }) hkind _ s' m (hv _ fun _ hx => hx) hn fun h' m' _ hs' => hr h' hs'))
end
section
variable {prog : Program} {w : World} {A : Around} {R : Result → Shared → Prop} {s : Shared}
theorem codeC_call_def {a : Addr} {o : Obj} {fd : FuncData} {body : List Stmt} {args : Args} {binds : List (Str × Value)}
    (hroom : A.depth < recursionLimit) (ho : s.heap.get? a = some o) (hdata : o.data = .func fd) (hlim : s.heap.NoLimit) (hcd : s.heap.CodeRec fd.code fd.qualname)
    (hbody : fd.body = .stmts body) (hbind : BindsTo s fd args binds) (hcell : ∀ x ∈ fd.scope.names, x.2 ≠ .cell) (hloc : ∀ x ∈ binds, fd.scope.names.lookup x.1 = some .local)
    (h : ∀ h₀, h₀.Ns s.heap.objs.size (fun x => binds.reverse.lookup x) → (∀ b o, s.heap.get? b = some o → h₀.get? b = some o) →
      wpC (model prog w) (A.deeper (callEnv fd s.heap.objs.size a)) (execs body (callEnv fd s.heap.objs.size a)) (fun f s' => R (.ok (.ret (match f with | .ret v => v | _ => .none))) s')
        (fun e s' => wpC (model prog w) (A.deeper (callEnv fd s.heap.objs.size a)) (leaving (callEnv fd s.heap.objs.size a) e) (fun _ s'' => R (.error e) s'') (fun e' s'' => R (.error e') s'') s')
        { s with heap := h₀, toks := s.toks + binds.length })
    (hco : fd.scope.isCoroutine = false := by rfl) (hgen : fd.scope.isGenerator = false := by rfl) (hk : fd.scope.kind = .function := by rfl) :
    codeC (model prog w) A (.call (.ref a) args) R s := by
  refine codeC_call_function hroom ho hdata hco hgen hbody hcd (hbind _ _ _ _ ?_)
  refine wpAny_newFunctionEnv hcell hloc (fun h₀ hn hb => ⟨hlim.fresh _ hb, codeC_func (h h₀ hn fun b o e => ?_)⟩) hk
  exact hb.extBut b o (Nat.ne_of_lt (Heap.lt_size e)) (Heap.get?_push_of_some _ e)
end
section
variable {prog : Program} {w : World} {A : Around} {C : Addr} {R : Result → Shared → Prop} {h : Heap} {g : Array GenState} {d : Drawn} {t : Nat} {os : OsState}
theorem make_C {rest : List Value} {kw : List (Str × Value)} {init : Value} (Y : Makes (model prog w) h C) (hi : Looks (model prog w) h (typeLookup (.ref C) "__init__") (some init))
    (hb : ∀ self, Looks (model prog w) h (bindSpecial init self) (init, [self])) (hne : (some init != some (Value.builtin "object.__init__")) = true ∨ (rest = [] ∧ kw = []))
    (hq : codeC (model prog w) (A.under (.builtin "type.__call__" ⟨.ref C :: rest, kw⟩)) (.call init ⟨.ref (h.objs.size + 1) :: rest, kw⟩) (InitBack (h.objs.size + 1) R) ⟨(h.push emptyDict).push (instObj C h.objs.size), g, d, t, os⟩) :
    codeC (model prog w) A (.call (.ref C) ⟨rest, kw⟩) R ⟨h, g, d, t, os⟩ := by
  have Y' := Y
  obtain ⟨⟨oc, od, cd, sl, hC, e1, e2, e4⟩, made, base, self, top, call, typ⟩ := Y
  refine codeC_of_tree rfl ?_
  show wpC _ _ (callAny (.ref C) _) _ _ _
  refine anyC (nd_load hC ?_)
  show wpAny _ _ (callAny.viaDunder (.ref C) _) _ _ _
  unfold callAny.viaDunder
  refine wpAny_bind (call.at ?_)
  dsimp only
  rw [tc_bind]
  refine wpAny_bind (wpAny_pure (wpAny_bind (wpAny_pure ?_)))
  refine wpAny_pure (a := Fin.again (.call (.builtin "type.__call__") ⟨.ref C :: rest, kw⟩)) (And.intro rfl ?_)
  refine codeC_call_builtin_at (okB (by decide +kernel)) (Code.quiet_builtin _ (by decide +kernel)) entry_typeCall (anyC (check_slot tc_kind tc_split typ (tc_args _ _ _) ?_))
  unfold Builtin.«type.__call__»
  have hm : Looks (model prog w) h (mroOf (.ref C)) cd.mro := ((Looks.ld (part := none) hC).andThen .now).andThen .now
  refine wpC_of_eq (t' := mroOf (.ref C) >>= _) rfl (stepC (hm.at ?_))
  simp only [e4, Bool.false_eq_true, if_false]
  refine stepC (made.at ?_)
  refine pureC (wpC_bind (wpC_holding (wpC_call (codeC_any (new_K Y' hi hne ?_)))))
  have k : ∀ b o, h.get? b = some o → ((h.push emptyDict).push (instObj C h.objs.size)).get? b = some o := fun b o e => Heap.get?_push_of_some _ (Heap.get?_push_of_some _ e)
  have hx : ((h.push emptyDict).push (instObj C h.objs.size)).get? (h.objs.size + 1) = some (instObj C h.objs.size) := by heap_get
  have t1 : Looks (model prog w) ((h.push emptyDict).push (instObj C h.objs.size)) (typeOf (.ref (h.objs.size + 1))) (.ref C) := (Looks.ld hx).andThen .now
  have s1 := self.keeps k
  have i1 := hi.keeps k
  have b1 := (hb (.ref (h.objs.size + 1))).keeps k
  unfold isInstance callSpecial? specialOf
  dsimp only
  refine wpC_bind (stepC (t1.at (anyC (s1.at ?_))))
  simp only [Bool.not_true, Bool.false_eq_true, if_false]
  refine wpC_bind (wpC_holding (wpC_bind (stepC (t1.at (anyC (i1.at ?_))))))
  dsimp only
  refine wpC_holding (stepC (b1.at ?_))
  dsimp only
  refine wpC_bind (wpC_call (codeC_mono hq fun r s' z => ?_))
  rcases r with e | (v | _ | _ | _) <;> first | exact z | exact z.elim | skip
  obtain ⟨rfl, z⟩ := z
  exact wpC_pure (wpC_pure z)
end
end
section
theorem callerC : Cln ⟨.builtin "claim.caller" {}, none, none, [], none⟩ := ⟨okB (by decide +kernel), fun x hx => by cases hx⟩
theorem endsC {prog : Program} {w : World} {t : Sem Fin} {s : Shared} {R : Result → Shared → Prop} (hz : s.asleep)
    (h : wpC (model prog w) callerA t (fun fin s' => ∃ f, fin = .done f ∧ (R (.ok f) s' ∧ AllBare s'.gens)) (fun e s' => R (.error e) s' ∧ AllBare s'.gens) s) :
    ∃ n r s' s'', runN (denote table) prog w n s ⟨t, .builtin "claim.caller" {}, default, []⟩ = .halted (outcomeOf r) s' ∧
      schedN (denote table) prog w n (.single s ⟨t, .builtin "claim.caller" {}, default, []⟩) = .halted (outcomeOf r) s' ∧ s'.forget = s''.forget ∧ R r s'' := by
  have g := h _ default caller_in callerC
  obtain ⟨n, r, s₁, s₂, a, b, c, d⟩ := wp_halts_full (M := model prog w) (c := .builtin "claim.caller" {}) (R := R) hz
    (Sem.wp_mono _ _ t (fun fin p' s' q => by
      obtain ⟨f, rfl, q1, q2⟩ := q
      exact ⟨q1, leftWithCleanup_false_of_bare q2⟩) (fun e p' s' q => ⟨q.1, leftWithCleanup_false_of_bare q.2⟩) default s g)
  exact ⟨n, r, s₂, s₁, b, a, c, d⟩
noncomputable abbrev WalkC (q : Program) (loose : List Str) (XP : (Str → Option Value) → Heap → Prop) (YP : World → Heap → Prop) (r : RowW) (d : DefRec) (kwd : List (Str × Expr)) : Prop :=
  ∀ (w : World) (s₀ s₁ : Shared) (mg mb : Str → Option Value), Ground q loose r.records XP w s₀ mg mb s₁.heap → YP w s₁.heap → ∀ (a : Addr), mg d.name = some (.ref a) → s₁.gens = #[] →
    ∀ (args : List WData) (vals : List Value) (as : List Addr), r.claim.pre args = true → WData.layableAll args = true → ReadsAllW r.records (classAt s₀.heap) s₁.heap vals args as →
      wpC (model r.prog w) callerA (PySem.call (.ref a) vals) (fun v s' => GoodWG r.claim (classAt s₀.heap) (ExcName.means s₀.heap) args s₁ (.ok (.ret v)) s')
        (fun e s' => GoodWG r.claim (classAt s₀.heap) (ExcName.means s₀.heap) args s₁ (.error e) s') s₁
theorem elim3 {α : Type} {A B C : α → Prop} {G : Prop} (h : ∃ a, A a ∧ B a ∧ C a) (k : ∀ a, A a → B a → C a → G) : G := by
  obtain ⟨a, x, y, z⟩ := h
  exact k a x y z
theorem elim4 {α β γ δ : Type} {A B C D : α → β → γ → δ → Prop} {G : Prop} (h : ∃ a b c d, A a b c d ∧ B a b c d ∧ C a b c d ∧ D a b c d) (k : ∀ a b c d, A a b c d → B a b c d → C a b c d → D a b c d → G) : G := by
  obtain ⟨a, b, c, d, x, y, z, u⟩ := h
  exact k a b c d x y z u
theorem elimP {α β : Type} {o : Option (α × β)} {G : Prop} (h : ∃ a, o = some a) (k : ∀ a b, o = some (a, b) → G) : G := by
  obtain ⟨⟨a, b⟩, e⟩ := h
  exact k a b e
theorem elimB {α β : Type} {A B : α → Prop} {C D E F H I : α → β → Prop} {G : Prop} (h : ∃ a, A a ∧ B a ∧ ∃ b, C a b ∧ D a b ∧ E a b ∧ F a b ∧ H a b ∧ I a b) (k : ∀ a, A a → B a → ∀ b, C a b → D a b → E a b → F a b → H a b → I a b → G) : G := by
  obtain ⟨a, x, y, b, c, d, e, f, h, i⟩ := h
  exact k a x y b c d e f h i
theorem openC {r : OpenRow} {q : Program} {loose : List Str} {Xt : Shared → Bool} {XP : (Str → Option Value) → Heap → Prop} {α : Type} {Yf : Shared → α} {Ya : World → α} {YP : World → Heap → Prop} {d : DefRec} {kwd : List (Str × Expr)} {N : Nat}
    (left : LeftO r.prog q loose Xt Yf Ya N) (hY : ∀ w s, Yf s = Ya w → YP w s.heap) (hYk : ∀ w h h', YP w h → (∀ b o, h.get? b = some o → h'.get? b = some o) → YP w h')
    (hX : ∀ s, Xt s = true → XP (s.heap.nsMap mainGlobals) s.heap) (hXk : ∀ mg h h', XP mg h → (∀ b o, h.get? b = some o → h'.get? b = some o) → XP mg h')
    (hdef : defOf q r.name = some (d, kwd)) (hp : r.prog.theDef r.name = some (d.params, d.body, d.scope)) (hk : kwWritten? d.params.kwonlyargs d.params.kw_defaults = some kwd) (hRf : ∀ s, Xt s = true → RecFacts r.records s.heap) (hwr : (!r.writes || r.records.isEmpty) = true)
    (k1 : r.wellSaid = true) (ok : (chainsOk q && opensWell r.prog && (frees r.toRowW && r.within.isEmpty)) = true) (hb : r.prog.bare) (hw : r.toRowW.promised) (call : WalkC q loose XP YP r.toRowW d kwd) : r.Holds := by
  have ok := Bool.and_eq_true_iff.mp ok
  have ok1 := Bool.and_eq_true_iff.mp ok.1
  have ok2 := Bool.and_eq_true_iff.mp ok.2
  have hch := ok1.1
  have wi := ok2.2
  have fr := frees_parts ok2.1
  have hsame := fr.1
  have hm := fr.2.2.2.2
  have hi := ident_freeW fr.2.1 fr.2.2.1 fr.2.2.2.1
  have hwi : r.claim.within = [] := List.isEmpty_iff.mp wi
  refine ⟨k1, hw, ⟨hb, ok1.2, by show r.makers.map _ = []; rw [hm]; rfl⟩, hw.witness, fun w => ⟨(left.behind hX hch w).1, fun s' hs' => ?_⟩⟩
  refine elimB ((left.behind (XP := fun mg h => XP mg h ∧ RecFacts r.records h) (fun s hs => ⟨hX s hs, hRf s hs⟩) hch w).2 s' hs') fun s₀ hf hg0 s hT hz hgens hg G00 y => ?_
  have RF := G00.X.2
  have G0 : Ground q loose [] XP w s (s.heap.nsMap mainGlobals) (s.heap.nsMap builtinsNs) s.heap := { G00 with X := G00.X.1 }
  have hgens : s.gens = #[] := Array.eq_empty_of_size_eq_zero (beq_iff_eq.mp hgens)
  refine ⟨s₀, hf, hg0, s, hT, fun n hn => ?_, RF.1, RF.2.1, fun args hpre hlay ord hord => ?_⟩
  · obtain rfl : n = r.name := by split at hn <;> simp_all
    exact pinned_of_view hg G0 hdef hp hk
  · refine elimP (Option.isSome_iff_exists.mp (layAllW_isSome (P := w.params) (ord := ord) (RF.ground G0).has args r.args s (pre_splitW hpre).1)) fun vs s₁ hlaid => ?_
    have keeps := layAllW_keeps _ _ _ hlaid
    have hal := layAllW_rest _ _ _ hlaid
    refine elim3 (reads_layAllW hord _ _ _ hlaid hlay s₁.heap (fun _ _ e => e)) fun as hrd hin hold => ?_
    have L : Laid r.records w s s₁ args vs as := ⟨⟨ord, hord, hlaid⟩, hrd, hin, hold, keeps, hal.1.trans hgens, hal.2.2.1⟩
    have G₁ := (RF.ground G0).keeps hXk keeps
    have hfn : ∃ a : Addr, s.heap.nsMap mainGlobals r.name = some (.ref a) := by
      obtain ⟨a, _, _, _, _, _, _, h1, _⟩ := G₁.fn hdef
      exact ⟨a, h1⟩
    refine hfn.elim fun a h1 => ?_
    have h := call w s s₁ _ _ G₁ (hYk _ _ _ (hY w s y) keeps) a (defOf_name hdef ▸ h1) L.gens args vs as hpre hlay L.reads
    have h' : wpC (model r.prog w) callerA (do match ← nsGet mainNs r.name with
        | some f => do ret (← PySem.call f vs)
        | none => unsupported "claim.caller:no-such-global") (fun fin s' => ∃ f, fin = .done f ∧ (GoodWG r.claim (classAt s.heap) (ExcName.means s.heap) args s₁ (.ok f) s' ∧ AllBare s'.gens))
        (fun e s' => GoodWG r.claim (classAt s.heap) (ExcName.means s.heap) args s₁ (.error e) s' ∧ AllBare s'.gens) s₁ := by
      refine stepC (wpAny_nsGet G₁.T.g ?_)
      rw [h1]
      exact wpC_bind (wpC_monoE h (fun v s' g => wpC_pure ⟨_, rfl, g, g.2.2.2⟩) fun e s' g => ⟨g, g.2.2.2⟩)
    refine elim4 (endsC (Shared.asleep_of_life hal.2.2.2 hz) h') fun k res s₂ s₃ run sched fg g => ?_
    have e1 := (Shared.forget_eq fg).1
    have e2 := (Shared.forget_eq fg).2.2.2.1
    have gl := GoodWG.laid (c := r.claim) hsame hwi hi L g
    have os := gl.2.1
    have ends := gl.1.congr e1
    refine ⟨vs, s₁, hlaid, k, _, s₂, sched, ?_, (fun _ i x hx => by rw [hgens] at hx; simp at hx), fun q => ⟨namesKept_of hT hg _ keeps (e1 ▸ g.2.1.old), noTable hwr q⟩, by rw [(runN_life _ _ _ run).trans hal.2.2.2], Shared.rest_eq (e2.trans os)⟩
    rcases ends with ⟨v, rfl, d1, d2, d3, d4, d5⟩ | ⟨e, ob, cls, rfl, d1, d2, d3, d4, d5⟩
    · exact .inl ⟨v, rfl, d1, d2, d3, fun b o y _ => d4 b o y, d5⟩
    · exact .inr ⟨e, ob, cls, rfl, d1, d2, d3, d4, fun b o y _ => d5 b o y⟩
theorem law_said : PySem.Challenge.rw_no0427_01.wellSaid = true := by
  rw [PySem.W.Fast.te9446332074065402090]
  kernel_rfl
theorem hdC (hc : WalkC QV [] (XL QV []) hookK.says rowO.toRowW dLaw []) : PySem.Challenge.rw_no0427_01.Holds := by
  refine holds_law law_said fun said => ?_
  refine openC (q := QV) (loose := []) (Xt := XtO) (XP := XL QV []) (Yf := hookK.obs) (Ya := hookK.val) (YP := hookK.says) (N := 15000) left_ok hookK.of hookK.keeps (fun s e => xl_of s (Bool.and_eq_true_iff.mp e).1) XL.keeps def_law the_law kw_law (fun s e => recFacts_of (Bool.and_eq_true_iff.mp e).2) (by rfl) (by assumption) (by decide +kernel) ⟨rfl, rfl, rfl, rfl, rfl, by decide +kernel⟩ ?hw hc
  w_witness2
end
section
inductive V where
  | none | bool (b : Bool) | int (i : Int) | str (s : Str) | bytes (b : Array UInt8) | ref (a : Addr) | lit (v : Value)
noncomputable def V.Is : V → Value → Prop
  | .none, v => v = .none
  | .bool b, v => v = .bool b
  | .int i, v => ∃ t, v = .int i t
  | .str s, v => ∃ t, v = .str s t
  | .bytes b, v => ∃ t, v = .bytes b t
  | .ref a, v => v = .ref a
  | .lit x, v => v = x
noncomputable def AllIs : List V → List Value → Prop
  | [], [] => True
  | a :: as, v :: vs => a.Is v ∧ AllIs as vs
  | _, _ => False
theorem AllIs.length : ∀ {as : List V} {vs : List Value}, AllIs as vs → as.length = vs.length
  | [], [], _ => rfl
  | _ :: _, _ :: _, h => by rw [List.length_cons, List.length_cons, AllIs.length h.2]
  | [], _ :: _, h => h.elim
  | _ :: _, [], h => h.elim
theorem AllIs.get : ∀ {as : List V} {vs : List Value}, AllIs as vs → ∀ {i : Nat} {a : V}, as[i]? = some a → ∃ v, vs[i]? = some v ∧ a.Is v
  | _ :: _, _ :: _, h, 0, _, e => by cases e; exact ⟨_, rfl, h.1⟩
  | _ :: _, _ :: _, h, i + 1, _, e => AllIs.get h.2 (i := i) e
  | [], [], _, _, _, e => by cases e
  | [], _ :: _, h, _, _, _ => h.elim
  | _ :: _, [], h, _, _, _ => h.elim
theorem AllIs.get' : ∀ {as : List V} {vs : List Value}, AllIs as vs → ∀ {i : Nat} {v : Value}, vs[i]? = some v → ∃ a, as[i]? = some a ∧ a.Is v
  | _ :: _, _ :: _, h, 0, _, e => by cases e; exact ⟨_, rfl, h.1⟩
  | _ :: _, _ :: _, h, i + 1, _, e => AllIs.get' h.2 (i := i) e
  | [], [], _, _, _, e => by cases e
  | [], _ :: _, h, _, _, _ => h.elim
  | _ :: _, [], h, _, _, _ => h.elim
theorem AllIs.append : ∀ {as bs : List V} {vs ws : List Value}, AllIs as vs → AllIs bs ws → AllIs (as ++ bs) (vs ++ ws)
  | [], _, [], _, _, k => k
  | _ :: _, _, _ :: _, _, h, k => ⟨h.1, AllIs.append h.2 k⟩
  | [], _, _ :: _, _, h, _ => h.elim
  | _ :: _, _, [], _, h, _ => h.elim
theorem AllIs.one {a : V} {v : Value} (h : a.Is v) : AllIs [a] [v] := ⟨h, trivial⟩
theorem AllIs.take : ∀ {as : List V} {vs : List Value} (n : Nat), AllIs as vs → AllIs (as.take n) (vs.take n)
  | [], [], n, _ => by simp [AllIs]
  | _ :: _, _ :: _, 0, _ => trivial
  | _ :: _, _ :: _, n + 1, h => ⟨h.1, AllIs.take n h.2⟩
  | [], _ :: _, _, h => h.elim
  | _ :: _, [], _, h => h.elim
set_option genInjectivity false in
structure KL where
  l : List Str
  nd : l.Nodup
noncomputable def EntsAre : List Str → List V → List DictEntry → Prop
  | _, [], [] => True
  | k :: ks, v :: vs, e :: es => (∃ t, e.key = .str k t) ∧ v.Is e.val ∧ EntsAre ks vs es
  | _, _, _ => False
theorem isStr_key {e : DictEntry} {k name : Str} (h : ∃ t, e.key = .str k t) : e.key.isStr name = decide (k = name) := by
  obtain ⟨t, h⟩ := h
  rw [h]
  show (k == name) = _
  by_cases q : k = name
  · subst q; simp
  · rw [decide_eq_false q]; exact beq_eq_false_iff_ne.mpr q
theorem EntsAre.noRef : ∀ {ks : List Str} {vs : List V} {es : List DictEntry}, EntsAre ks vs es → es.any (·.refKey) = false
  | _, [], [], _ => rfl
  | _ :: _, _ :: _, e :: _, h => by
    obtain ⟨t, ht⟩ := h.1
    rw [List.any_cons, EntsAre.noRef h.2.2]
    simp [DictEntry.refKey, ht]
  | [], _ :: _, [], h => h.elim
  | [], _ :: _, _ :: _, h => h.elim
  | _ :: _, _ :: _, [], h => h.elim
  | [], [], _ :: _, h => h.elim
  | _ :: _, [], _ :: _, h => h.elim
theorem EntsAre.length : ∀ {ks : List Str} {vs : List V} {es : List DictEntry}, EntsAre ks vs es → es.length = vs.length ∧ vs.length ≤ ks.length
  | _, [], [], _ => ⟨rfl, Nat.zero_le _⟩
  | _ :: _, _ :: _, e :: _, h => by
    have := EntsAre.length h.2.2
    simp only [List.length_cons]; lia
  | [], _ :: _, [], h => h.elim
  | [], _ :: _, _ :: _, h => h.elim
  | _ :: _, _ :: _, [], h => h.elim
  | [], [], _ :: _, h => h.elim
  | _ :: _, [], _ :: _, h => h.elim
theorem EntsAre.find : ∀ {ks : List Str} {vs : List V} {es : List DictEntry}, EntsAre ks vs es → ks.Nodup → ∀ {j : Nat} {name : Str} {v : V}, ks[j]? = some name → vs[j]? = some v → ∃ e, es.find? (·.key.isStr name) = some e ∧ v.Is e.val
  | k :: ks, a :: vs, e :: es, h, nd, 0, name, v, hk, hv => by
    cases hk; cases hv
    refine ⟨e, ?_, h.2.1⟩
    rw [List.find?_cons, isStr_key h.1]; simp
  | k :: ks, a :: vs, e :: es, h, nd, j + 1, name, v, hk, hv => by
    obtain ⟨x, hx, hvx⟩ := EntsAre.find h.2.2 (List.nodup_cons.mp nd).2 (j := j) hk hv
    refine ⟨x, ?_, hvx⟩
    have : k ≠ name := fun q => (List.nodup_cons.mp nd).1 (q ▸ List.mem_of_getElem? hk)
    rw [List.find?_cons, isStr_key h.1, decide_eq_false this]; exact hx
  | _, [], [], _, _, _, _, _, _, hv => by cases hv
  | [], _ :: _, [], h, _, _, _, _, _, _ => h.elim
  | [], _ :: _, _ :: _, h, _, _, _, _, _, _ => h.elim
  | _ :: _, _ :: _, [], h, _, _, _, _, _, _ => h.elim
  | [], [], _ :: _, h, _, _, _, _, _, _ => h.elim
  | _ :: _, [], _ :: _, h, _, _, _, _, _, _ => h.elim
theorem EntsAre.nil (ks : List Str) : EntsAre ks [] [] := by cases ks <;> trivial
theorem EntsAre.absent : ∀ {ks : List Str} {vs : List V} {es : List DictEntry}, EntsAre ks vs es → ∀ {name : Str}, name ∉ ks.take vs.length → es.find? (·.key.isStr name) = none
  | _, [], [], _, name, _ => rfl
  | k :: ks, a :: vs, e :: es, h, name, hn => by
    simp only [List.length_cons, List.take_succ_cons, List.mem_cons, not_or] at hn
    rw [List.find?_cons, isStr_key h.1, decide_eq_false (Ne.symm hn.1)]
    exact EntsAre.absent h.2.2 hn.2
  | [], _ :: _, [], h, _, _ => h.elim
  | [], _ :: _, _ :: _, h, _, _ => h.elim
  | _ :: _, _ :: _, [], h, _, _ => h.elim
  | [], [], _ :: _, h, _, _ => h.elim
  | _ :: _, [], _ :: _, h, _, _ => h.elim
theorem EntsAre.put : ∀ {ks : List Str} {vs : List V} {es : List DictEntry}, EntsAre ks vs es → ks.Nodup → ∀ {j : Nat} {name : Str} {v : V} {x : Value} {hsh : Int} {t : Tok}, ks[j]? = some name → j < vs.length → v.Is x →
    EntsAre ks (vs.set j v) (putL name hsh (.str name t) x es) ∧ (es.any (·.key.isStr name)) = true
  | k :: ks, a :: vs, e :: es, h, nd, 0, name, v, x, hsh, t, hk, hj, hx => by
    obtain rfl : k = name := Option.some.inj hk
    have q := isStr_key (name := k) h.1
    refine ⟨?_, by rw [List.any_cons, q]; simp⟩
    unfold putL
    rw [if_pos (by rw [q]; simp)]
    exact ⟨h.1, hx, h.2.2⟩
  | k :: ks, a :: vs, e :: es, h, nd, j + 1, name, v, x, hsh, t, hk, hj, hx => by
    have ne : k ≠ name := fun q => (List.nodup_cons.mp nd).1 (q ▸ List.mem_of_getElem? hk)
    have q := isStr_key (name := name) h.1
    have ih := EntsAre.put h.2.2 (List.nodup_cons.mp nd).2 (j := j) (hsh := hsh) (t := t) hk (Nat.lt_of_succ_lt_succ hj) hx
    refine ⟨?_, by rw [List.any_cons, ih.2, Bool.or_true]⟩
    unfold putL
    rw [if_neg (by rw [q]; simp [ne])]
    exact ⟨h.1, h.2.1, ih.1⟩
  | _, [], [], _, _, _, _, _, _, _, _, _, hj, _ => by cases hj
  | [], _ :: _, [], h, _, _, _, _, _, _, _, _, _, _ => h.elim
  | [], _ :: _, _ :: _, h, _, _, _, _, _, _, _, _, _, _ => h.elim
  | _ :: _, _ :: _, [], h, _, _, _, _, _, _, _, _, _, _ => h.elim
  | [], [], _ :: _, h, _, _, _, _, _, _, _, _, _, _ => h.elim
  | _ :: _, [], _ :: _, h, _, _, _, _, _, _, _, _, _, _ => h.elim
theorem EntsAre.add : ∀ {ks : List Str} {vs : List V} {es : List DictEntry}, EntsAre ks vs es → ks.Nodup → ∀ {name : Str} {v : V} {x : Value} {hsh : Int} {t : Tok}, ks[vs.length]? = some name → v.Is x →
    EntsAre ks (vs ++ [v]) (putL name hsh (.str name t) x es) ∧ (es.any (·.key.isStr name)) = false
  | k :: ks, [], [], _, nd, name, v, x, hsh, t, hk, hx => by
    obtain rfl : k = name := Option.some.inj hk
    exact ⟨⟨⟨t, rfl⟩, hx, EntsAre.nil ks⟩, rfl⟩
  | k :: ks, a :: vs, e :: es, h, nd, name, v, x, hsh, t, hk, hx => by
    have ne : k ≠ name := fun q => (List.nodup_cons.mp nd).1 (q ▸ List.mem_of_getElem? hk)
    have q := isStr_key (name := name) h.1
    have ih := EntsAre.add h.2.2 (List.nodup_cons.mp nd).2 (hsh := hsh) (t := t) hk hx
    refine ⟨?_, by rw [List.any_cons, ih.2, q]; simp [ne]⟩
    unfold putL
    rw [if_neg (by rw [q]; simp [ne])]
    exact ⟨h.1, h.2.1, ih.1⟩
  | [], [], [], _, _, _, _, _, _, _, hk, _ => by cases hk
  | [], _ :: _, [], h, _, _, _, _, _, _, _, _ => h.elim
  | [], _ :: _, _ :: _, h, _, _, _, _, _, _, _, _ => h.elim
  | _ :: _, _ :: _, [], h, _, _, _, _, _, _, _, _ => h.elim
  | [], [], _ :: _, h, _, _, _, _, _, _, _, _ => h.elim
  | _ :: _, [], _ :: _, h, _, _, _, _, _, _, _, _ => h.elim
noncomputable def ndB : List Str → Bool
  | [] => true
  | a :: r => !(r.any (a == ·)) && ndB r
theorem nd_of : ∀ {l : List Str}, ndB l = true → l.Nodup
  | [], _ => List.nodup_nil
  | a :: r, h => by
    simp only [ndB, Bool.and_eq_true, Bool.not_eq_true', List.any_eq_false, beq_iff_eq] at h
    exact List.nodup_cons.mpr ⟨fun q => h.1 a q rfl, nd_of h.2⟩
noncomputable def clOk (K : Frag) (C : Addr) (l : List Str) (ms : List (Str × Addr)) (fI : Addr) : Bool :=
  plainGet K C Str.empty && hasDictIn K C && (findIn K (.ref C) "__setattr__" == some (some (.builtin "object.__setattr__"))) && plainOver K C && makesIn K C && keepIn K (.ref C) &&
  (findIn K (.ref C) "__init__" == some (some (.ref fI))) && isFn K (.ref fI) &&
  l.all (fun x => findIn K (.ref C) x == some none && takerIn K C x == some none) &&
  ms.all (fun m => findIn K (.ref C) m.1 == some (some (.ref m.2)) && isFn K (.ref m.2) && keepIn K (.ref m.2) && !(l.any (m.1 == ·))) && ndB l && Nat.ble l.length 100
set_option genInjectivity false in
structure CL where
  C : Addr
  l : List Str
  ms : List (Str × Addr)
  fI : Addr
  ok : ∀ P, clOk (KF P) C l ms fI = true
structure CLOk (c : CL) (K : Frag) : Prop where
  get : ∀ x, plainGet K c.C x = true
  dict : hasDictIn K c.C = true
  set : findIn K (.ref c.C) "__setattr__" = some (some (.builtin "object.__setattr__"))
  over : plainOver K c.C = true
  makes : makesIn K c.C = true
  keep : keepIn K (.ref c.C) = true
  init : findIn K (.ref c.C) "__init__" = some (some (.ref c.fI))
  initFn : isFn K (.ref c.fI) = true
  attr : ∀ x ∈ c.l, findIn K (.ref c.C) x = some none ∧ takerIn K c.C x = some none
  len : c.l.length ≤ 100
  meth : ∀ m ∈ c.ms, findIn K (.ref c.C) m.1 = some (some (.ref m.2)) ∧ isFn K (.ref m.2) = true ∧ m.1 ∉ c.l ∧ keepIn K (.ref m.2) = true
theorem CL.good (c : CL) (P : Params) : CLOk c (KF P) := by
  have h := c.ok P
  simp only [clOk, Bool.and_eq_true] at h
  obtain ⟨⟨⟨⟨⟨⟨⟨⟨⟨⟨⟨h1, h2⟩, h3⟩, h4⟩, h5⟩, h6⟩, h7⟩, h8⟩, h9⟩, h10⟩, h11⟩, h12⟩ := h
  refine ⟨fun x => h1, h2, beq_iff_eq.mp h3, h4, h5, h6, beq_iff_eq.mp h7, h8, fun x hx => ?_, Nat.le_of_ble_eq_true h12, fun m hm => ?_⟩
  · have := List.all_eq_true.mp h9 x hx
    simp only [Bool.and_eq_true, beq_iff_eq] at this
    exact this
  · have := List.all_eq_true.mp h10 m hm
    simp only [Bool.and_eq_true, beq_iff_eq, Bool.not_eq_true', List.any_eq_false] at this
    exact ⟨this.1.1.1, this.1.1.2, fun q => this.2 _ q rfl, this.1.2⟩
theorem CL.nd (c : CL) (P : Params) : c.l.Nodup := by
  have h := c.ok P
  simp only [clOk, Bool.and_eq_true] at h
  exact nd_of h.1.2
inductive AO where
  | list (vs : List V)
  | tup (vs : List V)
  | inst (c : CL) (d : Addr) (vs : List V)
  | ba (b : Array UInt8)
  | frame (nm : KL) (ρ : List (Option V))
  | cell (v : Option V)
  | rng (lo hi : Int)
noncomputable def OptIs : Option V → Option Value → Prop
  | none, none => True
  | some v, some x => v.Is x
  | _, _ => False
noncomputable def ObjAt (h : Heap) (a : Addr) : AO → Prop
  | .rng lo hi => ∃ t u v, PySem.IsRange h a lo hi 1 t u v
  | .list vs => ∃ xs n, h.get? a = some { cls := .type "list", data := .seq xs n } ∧ AllIs vs xs.toList
  | .tup vs => ∃ xs n, h.get? a = some { cls := .type "tuple", data := .seq xs n } ∧ AllIs vs xs.toList
  | .inst c d vs => h.get? a = some (instObj c.C d) ∧ ∃ es n, h.get? d = some (dictOf es n) ∧ EntsAre c.l vs es
  | .ba b => h.get? a = some { cls := .type "bytearray", data := .bytearray b 0 }
  | .frame nm ρ => ∃ m, h.Ns a m ∧ ∀ (i : Nat) (x : Str) (v : V), nm.l[i]? = some x → ρ[i]? = some (some v) → ∃ v', m x = some v' ∧ v.Is v'
  | .cell v => ∃ x, h.IsCell a x ∧ OptIs v x
noncomputable abbrev Led := List (Addr × AO)
noncomputable def feet : Addr × AO → List Addr
  | (a, .inst _ d _) => [a, d]
  | (a, _) => [a]
noncomputable def dfeet : Addr × AO → List Addr
  | (_, .inst _ d _) => [d]
  | (a, .frame _ _) => [a]
  | _ => []
noncomputable def dfoot (L : Led) : List Addr := L.flatMap dfeet
noncomputable def foot (L : Led) : List Addr := L.flatMap feet
theorem foot_cons (p : Addr × AO) (L : Led) : foot (p :: L) = feet p ++ foot L := rfl
theorem foot_append (L R : Led) : foot (L ++ R) = foot L ++ foot R := by simp [foot]
theorem ObjAt.keeps {h h' : Heap} {p : Addr × AO} (k : ∀ b o, b ∈ feet p → h.get? b = some o → h'.get? b = some o) (x : ObjAt h p.1 p.2) : ObjAt h' p.1 p.2 := by
  obtain ⟨a, o⟩ := p
  cases o with
  | list vs => obtain ⟨xs, n, e, r⟩ := x; exact ⟨xs, n, k _ _ (by simp [feet]) e, r⟩
  | tup vs => obtain ⟨xs, n, e, r⟩ := x; exact ⟨xs, n, k _ _ (by simp [feet]) e, r⟩
  | inst c d vs => obtain ⟨e, es, n, e', r⟩ := x; exact ⟨k _ _ (by simp [feet]) e, es, n, k _ _ (by simp [feet]) e', r⟩
  | ba b =>
    have x : h.get? a = some { cls := .type "bytearray", data := .bytearray b 0 } := x
    exact k _ _ (by simp [feet]) x
  | frame nm ρ =>
    obtain ⟨m, ⟨o, es, ep, e, r⟩, y⟩ := x
    exact ⟨m, ⟨o, es, ep, k _ _ (by simp [feet]) e, r⟩, y⟩
  | cell v => obtain ⟨x, ⟨o, e, e'⟩, r⟩ := x; exact ⟨x, ⟨o, k _ _ (by simp [feet]) e, e'⟩, r⟩
  | rng lo hi => obtain ⟨t, u, v, e⟩ := x; exact ⟨t, u, v, k _ _ (by simp [feet]) e⟩
theorem ObjAt.live {h : Heap} {p : Addr × AO} (x : ObjAt h p.1 p.2) : ∀ b ∈ feet p, ∃ o, h.get? b = some o := by
  obtain ⟨a, o⟩ := p
  cases o with
  | list vs => obtain ⟨xs, n, e, r⟩ := x; intro b hb; simp only [feet, List.mem_singleton] at hb; subst hb; exact ⟨_, e⟩
  | tup vs => obtain ⟨xs, n, e, r⟩ := x; intro b hb; simp only [feet, List.mem_singleton] at hb; subst hb; exact ⟨_, e⟩
  | inst c d vs =>
    obtain ⟨e, es, n, e', r⟩ := x
    intro b hb
    simp only [feet, List.mem_cons, List.not_mem_nil, or_false] at hb
    rcases hb with rfl | rfl
    · exact ⟨_, e⟩
    · exact ⟨_, e'⟩
  | ba b =>
    have x : h.get? a = .some { cls := .type "bytearray", data := .bytearray b 0 } := x
    intro c hc; simp only [feet, List.mem_singleton] at hc; subst hc; exact ⟨_, x⟩
  | frame nm ρ =>
    obtain ⟨m, ⟨o, es, ep, e, hd, r⟩, y⟩ := x
    intro b hb; simp only [feet, List.mem_singleton] at hb; subst hb; exact ⟨_, e⟩
  | cell v => obtain ⟨x, ⟨o, e, e'⟩, r⟩ := x; intro b hb; simp only [feet, List.mem_singleton] at hb; subst hb; exact ⟨_, e⟩
  | rng lo hi => obtain ⟨t, u, v, e⟩ := x; intro b hb; simp only [feet, List.mem_singleton] at hb; subst hb; exact ⟨_, e⟩
noncomputable def IsD (o : Obj) : Prop := ∃ es ep, o.data = .dict es ep
theorem ObjAt.dict {h : Heap} {p : Addr × AO} (x : ObjAt h p.1 p.2) : ∀ b ∈ dfeet p, ∃ o, h.get? b = some o ∧ IsD o := by
  obtain ⟨a, o⟩ := p
  cases o with
  | list vs => intro b hb; cases hb
  | tup vs => intro b hb; cases hb
  | inst c d vs =>
    obtain ⟨e, es, n, e', r⟩ := x
    intro b hb
    simp only [dfeet, List.mem_singleton] at hb
    subst hb
    exact ⟨_, e', _, _, rfl⟩
  | ba b => intro b hb; cases hb
  | frame nm ρ =>
    obtain ⟨m, ⟨o, es, ep, e, hd, r⟩, y⟩ := x
    intro b hb; simp only [dfeet, List.mem_singleton] at hb; subst hb; exact ⟨_, e, _, _, hd⟩
  | cell v => intro b hb; cases hb
  | rng lo hi => intro b hb; cases hb
theorem ObjAt.only {h : Heap} {p : Addr × AO} (x : ObjAt h p.1 p.2) {b : Addr} {o : Obj} (hb : b ∈ feet p) (e : h.get? b = some o) (hd : IsD o) : b ∈ dfeet p := by
  obtain ⟨a, p⟩ := p
  obtain ⟨es', ep', hd⟩ := hd
  cases p with
  | list vs => obtain ⟨xs, n, e', r⟩ := x; simp only [feet, List.mem_singleton] at hb; subst hb; rw [e] at e'; cases e'; cases hd
  | tup vs => obtain ⟨xs, n, e', r⟩ := x; simp only [feet, List.mem_singleton] at hb; subst hb; rw [e] at e'; cases e'; cases hd
  | inst c d vs =>
    obtain ⟨e', es, n, e'', r⟩ := x
    simp only [feet, List.mem_cons, List.not_mem_nil, or_false] at hb
    rcases hb with rfl | rfl
    · rw [e] at e'; cases e'; cases hd
    · simp [dfeet]
  | ba b' =>
    have x : h.get? a = .some { cls := .type "bytearray", data := .bytearray b' 0 } := x
    simp only [feet, List.mem_singleton] at hb; subst hb; rw [e] at x; cases x; cases hd
  | frame nm ρ => exact hb
  | cell v => obtain ⟨x, ⟨o', e', e''⟩, r⟩ := x; simp only [feet, List.mem_singleton] at hb; subst hb; rw [e] at e'; cases e'; rw [hd] at e''; cases e''
  | rng lo hi => obtain ⟨t, u, v, e'⟩ := x; simp only [feet, List.mem_singleton] at hb; subst hb; have e' : h.get? b = some _ := e'; rw [e] at e'; cases e'; cases hd
noncomputable def nfeet : Addr × AO → List Addr
  | (_, .frame _ _) => []
  | p => feet p
noncomputable def nfoot (L : Led) : List Addr := L.flatMap nfeet
theorem nfeet_sub {p : Addr × AO} {b : Addr} (h : b ∈ nfeet p) : b ∈ feet p := by
  obtain ⟨a, o⟩ := p
  cases o with
  | frame nm ρ => cases h
  | _ => exact h
theorem nfeet_eq {a : Addr} {o o' : AO} (hf : feet (a, o') = feet (a, o)) (hd : dfeet (a, o') = dfeet (a, o)) : nfeet (a, o') = nfeet (a, o) := by
  cases o <;> cases o' <;> first | rfl | exact hf | (simp [feet, dfeet] at hf hd)
theorem nfoot_cons (p : Addr × AO) (L : Led) : nfoot (p :: L) = nfeet p ++ nfoot L := rfl
theorem nfoot_foot {L : Led} {b : Addr} (h : b ∈ nfoot L) : b ∈ foot L := by
  obtain ⟨p, hp, hb⟩ := List.mem_flatMap.mp h
  exact List.mem_flatMap.mpr ⟨p, hp, nfeet_sub hb⟩
noncomputable def SlotEq (o o' : Obj) : Prop := o' = o ∨ (IsD o ∧ ∃ sl, o' = { o with slots := sl })
theorem SlotEq.trans {o o₁ o₂ : Obj} (a : SlotEq o o₁) (b : SlotEq o₁ o₂) : SlotEq o o₂ := by
  rcases a with rfl | ⟨d, sl, rfl⟩
  · exact b
  · rcases b with rfl | ⟨_, sl', rfl⟩
    · exact .inr ⟨d, sl, rfl⟩
    · exact .inr ⟨d, sl', rfl⟩
structure Gd (w : World) (h : Heap) : Prop where
  x : (KF w.params).In h
  t : ∃ mean mg mb, Top QV (looseW QV []) mean mg mb h
theorem Gd.keeps {w : World} {h h' : Heap} (G : Gd w h) (k : ∀ b o, h.get? b = some o → h'.get? b = some o) : Gd w h' :=
  ⟨G.x.keeps k, let ⟨a, b, c, T⟩ := G.t; ⟨a, b, c, T.keeps k⟩⟩
structure Rm (tp : Option Env) (A : Around) (n : Nat) : Prop where
  hh : A.handled = none
  d : A.depth + 3 * n + 3 < recursionLimit
  u : A.units + 60 * n + 300 < cLine
  top : ∀ env, tp = some env → ∃ fs, A.frames = some (env :: fs)
theorem Rm.any {tp : Option Env} {A : Around} {n : Nat} (R : Rm tp A n) : Rm none A n := ⟨R.hh, R.d, R.u, fun _ h => nomatch h⟩
theorem Rm.deeper {tp : Option Env} {A : Around} {n : Nat} (R : Rm tp A (n + 1)) (env : Env) (hf : ∃ fs, A.frames = some fs) : Rm (some env) (A.deeper env) n := by
  refine ⟨R.hh, ?_, ?_, ?_⟩
  · have := R.d; show A.depth + 1 + _ + _ < _; lia
  · have := R.u; show A.units + 3 + _ + _ < _; lia
  · intro e he
    cases he
    obtain ⟨fs, hf⟩ := hf
    exact ⟨fs, by show A.frames.map (env :: ·) = _; rw [hf]; rfl⟩
theorem Rm.room {tp : Option Env} {A : Around} {n : Nat} (R : Rm tp A n) : A.depth < recursionLimit := by have := R.d; lia
theorem Rm.to {tp : Option Env} {A B : Around} {n : Nat} (R : Rm tp A (n + 1)) (hh : B.handled = A.handled) (hd : B.depth ≤ A.depth + 2) (hu : B.units ≤ A.units + 55) : Rm none B n :=
  ⟨hh.trans R.hh, by have := R.d; lia, by have := R.u; lia, fun _ h => nomatch h⟩
set_option genInjectivity false in
structure HB where
  h : Heap
  top : Option Env
noncomputable def FrOk (hb h : Heap) (env : Env) : Prop := env.scope.kind ≠ .module ∧ ∃ a o, env.frame = some a ∧ hb.get? a = none ∧ h.get? a = some o ∧ IsD o
noncomputable def Fo (hb : Heap) (A : Around) (L : Led) (s : Shared) : Prop := ∃ fs, A.frames = some fs ∧ ∀ env ∈ fs, FrOk hb s.heap env ∧ ∀ a, env.frame = some a → a ∉ nfoot L
structure StB (hb : Heap) (w : World) (L : Led) (s : Shared) : Prop where
  gd : Gd w hb
  base : ∀ b o, hb.get? b = some o → s.heap.get? b = some o
  off : ∀ b ∈ foot L, hb.get? b = none
  rel : ∀ p ∈ L, ObjAt s.heap p.1 p.2
  nd : (foot L).Nodup
theorem StB.good {hb : Heap} {w : World} {L : Led} {s : Shared} (S : StB hb w L s) : Gd w s.heap := S.gd.keeps S.base
theorem StB.live {hb : Heap} {w : World} {L : Led} {s : Shared} (S : StB hb w L s) {b : Addr} (h : b ∈ foot L) : ∃ o, s.heap.get? b = some o := by
  obtain ⟨p, hp, hb'⟩ := List.mem_flatMap.mp h
  exact (S.rel p hp).live b hb'
theorem StB.dict {hb : Heap} {w : World} {L : Led} {s : Shared} (S : StB hb w L s) {b : Addr} (h : b ∈ dfoot L) : ∃ o, s.heap.get? b = some o ∧ IsD o := by
  obtain ⟨p, hp, hb'⟩ := List.mem_flatMap.mp h
  exact (S.rel p hp).dict b hb'
theorem StB.only {hb : Heap} {w : World} {L : Led} {s : Shared} (S : StB hb w L s) {b : Addr} {o : Obj} (h : b ∈ foot L) (e : s.heap.get? b = some o) (hd : IsD o) : b ∈ dfoot L := by
  obtain ⟨p, hp, hb'⟩ := List.mem_flatMap.mp h
  exact List.mem_flatMap.mpr ⟨p, hp, (S.rel p hp).only hb' e hd⟩
theorem StB.fresh {hb : Heap} {w : World} {L : Led} {s : Shared} (S : StB hb w L s) {b : Addr} (h : s.heap.get? b = none) : hb.get? b = none := by
  cases e : hb.get? b with
  | none => rfl
  | some o => rw [S.base b o e] at h; cases h
theorem StB.perm {hb : Heap} {w : World} {L L' : Led} {s : Shared} (S : StB hb w L s) (p : L.Perm L') : StB hb w L' s where
  gd := S.gd
  base := S.base
  off := fun b hb' => S.off b ((p.flatMap_right feet).mem_iff.mpr hb')
  rel := fun q hq => S.rel q (p.mem_iff.mpr hq)
  nd := (p.flatMap_right feet).nodup_iff.mp S.nd
theorem foot_sub {L L' : Led} (p : L'.Sublist L) : (foot L').Sublist (foot L) := by
  induction p with
  | slnil => exact .slnil
  | cons a _ ih => exact ih.trans (List.sublist_append_right _ _)
  | cons_cons a _ ih => exact (List.Sublist.refl _).append ih
theorem StB.sub {hb : Heap} {w : World} {L L' : Led} {s : Shared} (S : StB hb w L s) (p : L'.Sublist L) : StB hb w L' s where
  gd := S.gd
  base := S.base
  off := fun b hb' => by
    obtain ⟨q, hq, hb''⟩ := List.mem_flatMap.mp hb'
    exact S.off b (List.mem_flatMap.mpr ⟨q, p.subset hq, hb''⟩)
  rel := fun q hq => S.rel q (p.subset hq)
  nd := (foot_sub p).nodup S.nd
structure To (L : Led) (s : Shared) (L' : Led) (s' : Shared) : Prop where
  sh : ∃ h' tk, s' = { s with heap := h', toks := tk }
  keep : ∀ b o, b ∉ foot L → s.heap.get? b = some o → ∃ o', s'.heap.get? b = some o' ∧ SlotEq o o'
  kind : ∀ b o, s.heap.get? b = some o → IsD o → ∃ o', s'.heap.get? b = some o' ∧ IsD o'
  new : ∀ b ∈ foot L', b ∈ foot L ∨ s.heap.get? b = none
  nf : ∀ b o, s.heap.get? b = some o → IsD o → b ∈ nfoot L' → b ∈ nfoot L
theorem To.keepN {L L' : Led} {s s' : Shared} (T : To L s L' s') {b : Addr} {o : Obj} (hb : b ∉ Mine.foot L) (e : s.heap.get? b = some o) (n : ¬ IsD o) : s'.heap.get? b = some o := by
  obtain ⟨o', e', q⟩ := T.keep b o hb e
  rcases q with rfl | ⟨d, _⟩
  · exact e'
  · exact absurd d n
theorem To.refl {L : Led} {s : Shared} : To L s L s := ⟨⟨s.heap, s.toks, rfl⟩, fun _ o _ e => ⟨o, e, .inl rfl⟩, fun _ o e n => ⟨o, e, n⟩, fun _ h => .inl h, fun _ _ _ _ h => h⟩
theorem To.trans {L L₁ L₂ : Led} {s s₁ s₂ : Shared} (a : To L s L₁ s₁) (b : To L₁ s₁ L₂ s₂) : To L s L₂ s₂ := by
  refine ⟨?_, fun c o hc e => ?_, fun c o e n => ?_, fun c hc => ?_, fun c o e n hc => ?_⟩
  · obtain ⟨h, t, rfl⟩ := a.sh
    obtain ⟨h', t', rfl⟩ := b.sh
    exact ⟨h', t', rfl⟩
  · obtain ⟨o₁, e₁, q₁⟩ := a.keep c o hc e
    obtain ⟨o₂, e₂, q₂⟩ := b.keep c o₁ (fun q => by
      rcases a.new c q with q | q
      · exact hc q
      · rw [q] at e; cases e) e₁
    exact ⟨o₂, e₂, q₁.trans q₂⟩
  · obtain ⟨o₁, e₁, n₁⟩ := a.kind c o e n
    exact b.kind c o₁ e₁ n₁
  · rcases b.new c hc with q | q
    · exact a.new c q
    · by_cases hl : c ∈ Mine.foot L
      · exact .inl hl
      · right
        cases e : s.heap.get? c with
        | none => rfl
        | some o => obtain ⟨o₁, e₁, _⟩ := a.keep c o hl e; rw [e₁] at q; cases q
  · obtain ⟨o₁, e₁, n₁⟩ := a.kind c o e n
    exact a.nf c o e n (b.nf c o₁ e₁ n₁ hc)
theorem To.tok {L : Led} {s : Shared} (t : Tok) : To L s L { s with toks := t } := ⟨⟨s.heap, t, rfl⟩, fun _ o _ e => ⟨o, e, .inl rfl⟩, fun _ o e n => ⟨o, e, n⟩, fun _ h => .inl h, fun _ _ _ _ h => h⟩
theorem StB.tok {hb : Heap} {w : World} {L : Led} {s : Shared} (S : StB hb w L s) (t : Tok) : StB hb w L { s with toks := t } := ⟨S.gd, S.base, S.off, S.rel, S.nd⟩
theorem To.foot {L L' L'' : Led} {s s' : Shared} (t : To L s L' s') (h : ∀ b ∈ foot L'', b ∈ foot L') (hn : ∀ b ∈ nfoot L'', b ∈ nfoot L') : To L s L'' s' := ⟨t.sh, t.keep, t.kind, fun b hb => t.new b (h b hb), fun b o e n hb => t.nf b o e n (hn b hb)⟩
theorem To.perm {L L' L'' : Led} {s s' : Shared} (t : To L s L' s') (p : L'.Perm L'') : To L s L'' s' := t.foot (fun b hb => (p.flatMap_right feet).mem_iff.mpr hb) fun b hb => (p.flatMap_right nfeet).mem_iff.mpr hb
theorem To.sub {L L' L'' : Led} {s s' : Shared} (t : To L s L' s') (p : L''.Sublist L') : To L s L'' s' := t.foot (fun b hb => by
  obtain ⟨q, hq, hb''⟩ := List.mem_flatMap.mp hb
  exact List.mem_flatMap.mpr ⟨q, p.subset hq, hb''⟩) fun b hb => by
  obtain ⟨q, hq, hb''⟩ := List.mem_flatMap.mp hb
  exact List.mem_flatMap.mpr ⟨q, p.subset hq, hb''⟩
theorem To.of {hb : Heap} {w : World} {L L' : Led} {s s' : Shared} (S : StB hb w L s) (S' : StB hb w L' s') (sh : ∃ h' tk, s' = { s with heap := h', toks := tk })
    (keep : ∀ b o, b ∉ Mine.foot L → s.heap.get? b = some o → s'.heap.get? b = some o) (sub : ∀ b ∈ dfoot L, b ∈ dfoot L') (new : ∀ b ∈ Mine.foot L', b ∈ Mine.foot L ∨ s.heap.get? b = none)
    (nf : ∀ b o, s.heap.get? b = some o → IsD o → b ∈ nfoot L' → b ∈ nfoot L) : To L s L' s' :=
  ⟨sh, fun b o hb e => ⟨o, keep b o hb e, .inl rfl⟩, fun b o e n => by
    by_cases q : b ∈ Mine.foot L
    · exact S'.dict (sub b (S.only q e n))
    · exact ⟨o, keep b o q e, n⟩, new, nf⟩
theorem Fo.to {hb : Heap} {A : Around} {L L' : Led} {s s' : Shared} (F : Fo hb A L s) (t : To L s L' s') : Fo hb A L' s' := by
  obtain ⟨fs, e, h⟩ := F
  refine ⟨fs, e, fun env he => ?_⟩
  obtain ⟨⟨hk, a, o, hf, hn, ho, hd⟩, hx⟩ := h env he
  obtain ⟨o', e', n'⟩ := t.kind a o ho hd
  refine ⟨⟨hk, a, o', hf, hn, e', n'⟩, fun b hb' q => hx b hb' ?_⟩
  rw [hf] at hb'
  cases hb'
  exact t.nf _ o ho hd q
theorem Fo.perm {hb : Heap} {A : Around} {L L' : Led} {s : Shared} (F : Fo hb A L s) (p : L.Perm L') : Fo hb A L' s := by
  obtain ⟨fs, e, h⟩ := F
  exact ⟨fs, e, fun env he => ⟨(h env he).1, fun a ha q => (h env he).2 a ha ((p.flatMap_right nfeet).mem_iff.mpr q)⟩⟩
section
variable (hb : HB) (w : World) (prog : Program) (n : Nat)
noncomputable def AC {α β : Type} (R : β → α → Prop) (t : Sem α) (L : Led) (Q : β → Led → Prop) : Prop :=
  ∀ (A : Around) (s : Shared) (Qc : α → Shared → Prop) (E : Value → Shared → Prop), Rm hb.top A n → Fo hb.h A L s → StB hb.h w L s →
    (∀ a b L' s', Q b L' → R b a → StB hb.h w L' s' → To L s L' s' → Qc a s') → wpC (model prog w) A t Qc E s
end
section
variable {hb : HB} {w : World} {prog : Program} {n : Nat} {α β γ δ : Type} {R : β → α → Prop} {R' : δ → γ → Prop} {L : Led}
theorem AC.bind {t : Sem α} {f : α → Sem γ} {Q : δ → Led → Prop} (h : AC hb w prog n R t L fun b L' => ∀ a, R b a → AC hb w prog n R' (f a) L' Q) : AC hb w prog n R' (t >>= f) L Q :=
  fun A s Qc E rm fo S k => wpC_bind (h A s _ E rm fo S fun a b L₁ s₁ hq hr S₁ T₁ => hq a hr A s₁ _ E rm (fo.to T₁) S₁ fun c d L₂ s₂ hq' hr' S₂ T₂ => k c d L₂ s₂ hq' hr' S₂ (T₁.trans T₂))
theorem AC.mono {t : Sem α} {Q Q' : β → Led → Prop} (h : AC hb w prog n R t L Q) (k : ∀ b L', Q b L' → Q' b L') : AC hb w prog n R t L Q' :=
  fun A s Qc E rm fo S k' => h A s Qc E rm fo S fun a b L' s' hq => k' a b L' s' (k b L' hq)
theorem AC.leaf {t : Sem α} {b : β} {Q : β → Led → Prop} (hl : ∀ (A : Around) (s : Shared) (Qc : α → Shared → Prop) (E : Value → Shared → Prop), Rm hb.top A n → StB hb.h w L s → (∀ a tk, R b a → Qc a { s with toks := tk }) → wpAny (model prog w) A t Qc E s)
    (h : Q b L) : AC hb w prog n R t L Q :=
  fun A s Qc E rm fo S k => anyC <| hl A s Qc E rm S fun a tk hr => k a b L _ h hr (S.tok tk) (.tok tk)
theorem AC.shuffle {t : Sem α} {Q : β → Led → Prop} (h : AC hb w prog n R t L fun b L' => ∃ L'', L'.Perm L'' ∧ Q b L'') : AC hb w prog n R t L Q :=
  fun A s Qc E rm fo S k => h A s Qc E rm fo S fun a b _ s' ⟨L'', p, hq⟩ hr S' T' => k a b L'' s' hq hr (S'.perm p) (T'.perm p)
theorem AC.from {t : Sem α} {L₀ : Led} {Q : β → Led → Prop} (p : L.Perm L₀) (h : AC hb w prog n R t L₀ Q) : AC hb w prog n R t L Q :=
  fun A s Qc E rm fo S k => h A s Qc E rm (fo.perm p) (S.perm p) fun a b L' s' hq hr S' T' => k a b L' s' hq hr S' ⟨T'.sh, fun b o hb' => T'.keep b o fun q => hb' ((p.flatMap_right feet).mem_iff.mpr q), T'.kind, fun b hb' => (T'.new b hb').imp_left fun q => (p.flatMap_right feet).mem_iff.mpr q, fun b o e n hb' => (p.flatMap_right nfeet).mem_iff.mpr (T'.nf b o e n hb')⟩
theorem set_perm {α : Type} {l : List α} {i : Nat} {x y : α} (h : l[i]? = some x) : (l.set i y).Perm (y :: l.eraseIdx i) ∧ l.Perm (x :: l.eraseIdx i) := by
  induction l generalizing i with
  | nil => cases h
  | cons z l ih =>
    cases i with
    | zero => cases h; exact ⟨List.Perm.refl _, List.Perm.refl _⟩
    | succ i =>
      obtain ⟨a, b⟩ := ih (i := i) h
      exact ⟨(a.cons z).trans (.swap ..), (b.cons z).trans (.swap ..)⟩
theorem StB.change {s : Shared} {i : Nat} {a : Addr} {o o' : AO} {h' : Heap} {tk : Tok} (S : StB hb.h w L s) (hi : L[i]? = some (a, o)) (hf : feet (a, o') = feet (a, o)) (hdf : dfeet (a, o') = dfeet (a, o))
    (keep : ∀ b x, b ∉ feet (a, o) → s.heap.get? b = some x → h'.get? b = some x) (hO : ObjAt h' a o') :
    StB hb.h w (L.set i (a, o')) { s with heap := h', toks := tk } ∧ To L s (L.set i (a, o')) { s with heap := h', toks := tk } := by
  obtain ⟨p1, p2⟩ := set_perm (y := (a, o')) hi
  have S₁ := S.perm p2
  have hof : foot (L.set i (a, o')) |>.Perm (foot L) := by
    have := (p1.flatMap_right feet).trans ((show ((a, o') :: L.eraseIdx i).flatMap feet = ((a, o) :: L.eraseIdx i).flatMap feet by rw [List.flatMap_cons, List.flatMap_cons, hf]) ▸ (p2.flatMap_right feet).symm)
    exact this
  have off : ∀ b, b ∈ feet (a, o) → b ∈ foot L := fun b hb' => List.mem_flatMap.mpr ⟨_, List.mem_of_getElem? hi, hb'⟩
  have nd := S₁.nd
  rw [foot_cons] at nd
  have dis := (List.nodup_append.mp nd).2.2
  have S' : StB hb.h w (L.set i (a, o')) { s with heap := h', toks := tk } := by
    refine ⟨S.gd, fun b x e => ?_, fun b hb' => S.off b (hof.mem_iff.mp hb'), fun p hp => ?_, hof.nodup_iff.mpr S.nd⟩
    · refine keep b x (fun q => ?_) (S.base b x e)
      rw [S.off b (off b q)] at e; cases e
    · rcases List.mem_cons.mp (p1.mem_iff.mp hp) with rfl | hp
      · exact hO
      · refine (S₁.rel p (.tail _ hp)).keeps fun b x hb' e => keep b x (fun q => ?_) e
        exact dis b q b (List.mem_flatMap.mpr ⟨p, hp, hb'⟩) rfl
  have hdof : dfoot (L.set i (a, o')) |>.Perm (dfoot L) := by
    have := (p1.flatMap_right dfeet).trans ((show ((a, o') :: L.eraseIdx i).flatMap dfeet = ((a, o) :: L.eraseIdx i).flatMap dfeet by rw [List.flatMap_cons, List.flatMap_cons, hdf]) ▸ (p2.flatMap_right dfeet).symm)
    exact this
  have hnof : nfoot (L.set i (a, o')) |>.Perm (nfoot L) := by
    have := (p1.flatMap_right nfeet).trans ((show ((a, o') :: L.eraseIdx i).flatMap nfeet = ((a, o) :: L.eraseIdx i).flatMap nfeet by rw [List.flatMap_cons, List.flatMap_cons, nfeet_eq hf hdf]) ▸ (p2.flatMap_right nfeet).symm)
    exact this
  exact ⟨S', .of S S' ⟨_, _, rfl⟩ (fun b x hb' e => keep b x (fun q => hb' (off b q)) e) (fun b hb' => hdof.mem_iff.mpr hb') (fun b hb' => .inl (hof.mem_iff.mp hb')) fun b _ _ _ hb' => hnof.mem_iff.mp hb'⟩
theorem StB.push {s : Shared} {a : Addr} {o : AO} {h' : Heap} {tk : Tok} (S : StB hb.h w L s) (keep : ∀ b x, s.heap.get? b = some x → h'.get? b = some x)
    (hn : ∀ b ∈ feet (a, o), s.heap.get? b = none) (hd : (feet (a, o)).Nodup) (hO : ObjAt h' a o) :
    StB hb.h w ((a, o) :: L) { s with heap := h', toks := tk } ∧ To L s ((a, o) :: L) { s with heap := h', toks := tk } := by
  have S' : StB hb.h w ((a, o) :: L) { s with heap := h', toks := tk } := by
    refine ⟨S.gd, fun b x e => keep b x (S.base b x e), fun b hb' => ?_, fun p hp => ?_, ?_⟩
    · rw [foot_cons] at hb'
      rcases List.mem_append.mp hb' with q | q
      · exact S.fresh (hn b q)
      · exact S.off b q
    · rcases List.mem_cons.mp hp with rfl | hp
      · exact hO
      · exact (S.rel p hp).keeps fun b x _ e => keep b x e
    · rw [foot_cons]
      exact List.nodup_append.mpr ⟨hd, S.nd, fun b hb' c hc q => by obtain ⟨o, e⟩ := S.live (q ▸ hc); rw [hn b hb'] at e; cases e⟩
  refine ⟨S', .of S S' ⟨_, _, rfl⟩ (fun b x _ e => keep b x e) (fun b hb' => ?_) (fun b hb' => ?_) fun b x e _ hb' => ?_⟩
  · exact List.mem_append_right _ hb'
  · rw [foot_cons] at hb'
    rcases List.mem_append.mp hb' with q | q
    · exact .inr (hn b q)
    · exact .inl q
  · rw [nfoot_cons] at hb'
    rcases List.mem_append.mp hb' with q | q
    · rw [hn b (nfeet_sub q)] at e; cases e
    · exact q
end
end
section
noncomputable def GV (x : Str) (v : V) : Prop := ∀ (w : World) (h : Heap), Gd w h →
  (∃ m v', h.Ns mainGlobals m ∧ m x = some v' ∧ v.Is v') ∨ ∃ m mb v', h.Ns mainGlobals m ∧ m x = none ∧ h.Ns builtinsNs mb ∧ mb x = some v' ∧ v.Is v'
set_option genInjectivity false in
structure FC where
  env : Env
  nm : KL
  gl : List (Str × V)
structure FOk (c : FC) : Prop where
  kind : c.env.scope.kind = .function
  glo : c.env.globals = mainGlobals
  bui : c.env.builtins = builtinsNs
  loc : ∀ x ∈ c.nm.l, c.env.kindOf x = some .local ∧ (x == ("__debug__" : Str)) = false
  glob : ∀ p ∈ c.gl, c.env.kindOf p.1 = some .globalImplicit ∧ (p.1 == ("__debug__" : Str)) = false ∧ GV p.1 p.2
@[reducible] noncomputable def FC.fr (c : FC) (ρ : List (Option V)) : Addr × AO := (c.env.locals, .frame c.nm ρ)
noncomputable def V.plain : V → Bool | .lit _ => false | _ => true
theorem V.Is.handed {b : V} {v : Value} (h : b.Is v) (hp : b.plain = true) : handedIn v = true := by
  cases b with
  | none => cases h; rfl
  | bool b => cases h; rfl
  | int i => obtain ⟨t, rfl⟩ := h; rfl
  | str x => obtain ⟨t, rfl⟩ := h; rfl
  | bytes x => obtain ⟨t, rfl⟩ := h; rfl
  | ref a => cases h; rfl
  | lit v => cases hp
inductive Fr1 (p : Addr × AO) (Q : Led → Prop) (M : Led) : Prop
  | mk (L : Led) (e : M = p :: L) (q : Q L) : Fr1 p Q M
inductive Fr2 (c : FC) (Q : List (Option V) → Led → Prop) (M : Led) : Prop
  | mk (ρ : List (Option V)) (L : Led) (e : M = c.fr ρ :: L) (q : Q ρ L) : Fr2 c Q M
inductive Bk (p : Addr × AO) (Q : Led → Prop) (M : Led) : Prop
  | mk (L : Led) (h : M.Perm (p :: L)) (q : Q L) : Bk p Q M
section
variable (hb : HB) (w : World) (prog : Program) (n : Nat) (c : FC) (ρ : List (Option V)) (L : Led)
noncomputable def EX (t : Sem Value) (Q : V → Led → Prop) : Prop := AC hb w prog n V.Is t (c.fr ρ :: L) fun b => Fr1 (c.fr ρ) (Q b)
noncomputable def EV (e : Expr) (Q : V → Led → Prop) : Prop := EX hb w prog n c ρ L (eval e c.env) Q
noncomputable def TX (t : Sem Bool) (Q : Bool → Led → Prop) : Prop := AC hb w prog n (fun (b a : Bool) => a = b) t (c.fr ρ :: L) fun b => Fr1 (c.fr ρ) (Q b)
noncomputable def TV (e : Expr) (Q : Bool → Led → Prop) : Prop := TX hb w prog n c ρ L (isTrue e c.env (eval e c.env)) Q
noncomputable def AV (pos : Pos) (es : List Expr) (Q : List V → Led → Prop) : Prop := AC hb w prog n AllIs (spliced (backTo pos (starEach es c.env))) (c.fr ρ :: L) fun b => Fr1 (c.fr ρ) (Q b)
inductive FlowA where | nxt | brk | cnt | ret (v : V)
noncomputable def FlowA.Is : FlowA → Flow → Prop
  | .nxt, f => f = .next
  | .brk, f => f = .brk
  | .cnt, f => f = .cont
  | .ret b, f => ∃ v, f = .ret v ∧ b.Is v
noncomputable def SX (t : Sem Flow) (Q : FlowA → List (Option V) → Led → Prop) : Prop := AC hb w prog n FlowA.Is t (c.fr ρ :: L) fun f => Fr2 c (Q f)
noncomputable def SV (ss : List Stmt) (Q : FlowA → List (Option V) → Led → Prop) : Prop := SX hb w prog n c ρ L (execs ss c.env) Q
noncomputable def PV (e : Expr) (v : V) : Prop := ∀ Q : V → Led → Prop, Q v L → EV hb w prog n c ρ L e Q
noncomputable def PT (e : Expr) (p : Prop) : Prop := ∀ Q : Bool → Led → Prop, (∀ b : Bool, (b = true ↔ p) → Q b L) → TV hb w prog n c ρ L e Q
noncomputable def PO (t : Value → Value → Sem Value) (a b r : V) : Prop := ∀ x y (Q : V → Led → Prop), a.Is x → b.Is y → Q r L → AC hb w prog n V.Is (t x y) (c.fr ρ :: L) fun b => Fr1 (c.fr ρ) (Q b)
end
section
variable {hb : HB} {w : World} {prog : Program} {n : Nat} {c : FC} {ρ : List (Option V)} {L : Led}
theorem EX.leaf {t : Sem Value} {b : V} {Q : V → Led → Prop} (hl : ∀ (A : Around) (s : Shared) (Qc : Value → Shared → Prop) (E : Value → Shared → Prop), Rm hb.top A n → StB hb.h w (c.fr ρ :: L) s → (∀ a tk, b.Is a → Qc a { s with toks := tk }) → wpAny (model prog w) A t Qc E s)
    (h : Q b L) : EX hb w prog n c ρ L t Q := AC.leaf (b := b) hl ⟨L, rfl, h⟩
theorem EX.bind {α : Type} {t : Sem α} {f : α → Sem Value} {β : Type} {R : β → α → Prop} {Q : V → Led → Prop}
    (h : AC hb w prog n R t (c.fr ρ :: L) fun b => Fr1 (c.fr ρ) fun L'' => ∀ a, R b a → EX hb w prog n c ρ L'' (f a) Q) : EX hb w prog n c ρ L (t >>= f) Q :=
  AC.bind (AC.mono h fun b L' ⟨L'', e, k⟩ a hr => e ▸ k a hr)
theorem PV.ev {e : Expr} {v : V} {Q : V → Led → Prop} (h : PV hb w prog n c ρ L e v) (q : Q v L) : EV hb w prog n c ρ L e Q := h Q q
theorem frame_get {s : Shared} (S : StB hb.h w (c.fr ρ :: L) s) {i : Nat} {x : Str} {v : V} (hx : c.nm.l[i]? = some x) (hv : ρ[i]? = some (some v)) : ∃ m v', s.heap.Ns c.env.locals m ∧ m x = some v' ∧ v.Is v' := by
  obtain ⟨m, hn, hm⟩ := S.rel (c.fr ρ) (.head _)
  obtain ⟨v', e, k⟩ := hm i x v hx hv
  exact ⟨m, v', hn, e, k⟩
theorem load_local {A : Around} {E : Value → Shared → Prop} (ok : FOk c) {s : Shared} (S : StB hb.h w (c.fr ρ :: L) s) {i : Nat} {x : Str} {v : V} (hx : c.nm.l[i]? = some x) (hv : ρ[i]? = some (some v)) {Q : Value → Shared → Prop} (h : ∀ a, v.Is a → Q a s) :
    wpAny (model prog w) A (loadName c.env x) Q E s := by
  obtain ⟨m, v', hn, e, k⟩ := frame_get S hx hv
  exact wpAny_loadName_local ok.kind (ok.loc x (List.mem_of_getElem? hx)).1 hn e (h _ k)
theorem PV.loc {i : Nat} {x : Str} {pos : Pos} {v : V} (ok : FOk c) (hx : c.nm.l[i]? = some x) (hv : ρ[i]? = some (some v)) : PV hb w prog n c ρ L (.Name x pos) v := fun Q q =>
  EX.leaf (fun A s Qc E rm S k => wpAny_Name (load_local ok S hx hv fun a ha => k a s.toks ha) (ok.loc x (List.mem_of_getElem? hx)).2) q
theorem PV.int {i : Int} {k pos} : PV hb w prog n c ρ L (.Constant (.int i) k pos) (.int i) := fun Q q =>
  EX.leaf (b := .int i) (fun A s Qc E rm S h => wpAny_Constant_int (h _ _ ⟨_, rfl⟩)) q
theorem PV.none {k pos} : PV hb w prog n c ρ L (.Constant .none k pos) .none := fun Q q =>
  EX.leaf (b := .none) (fun A s Qc E rm S h => wpAny_Constant_none (h _ _ rfl)) q
theorem PV.bool {b : Bool} {k pos} : PV hb w prog n c ρ L (.Constant (.bool b) k pos) (.bool b) := fun Q q =>
  EX.leaf (b := .bool b) (fun A s Qc E rm S h => wpAny_Constant_bool (h _ _ rfl)) q
theorem PV.bytes {x : List UInt8} {k pos} : PV hb w prog n c ρ L (.Constant (.bytes x) k pos) (.bytes x.toArray) := fun Q q =>
  EX.leaf (b := .bytes x.toArray) (fun A s Qc E rm S h => Constant_bytes (h _ _ ⟨_, rfl⟩)) q
noncomputable abbrev At (L : Led) (i : Nat) (p : Addr × AO) : Prop := L[i]? = some p
theorem At.hd {p : Addr × AO} {L : Led} : At (p :: L) 0 p := rfl
theorem At.tl {p q : Addr × AO} {L : Led} {i : Nat} (h : At L i p) : At (q :: L) (i + 1) p := h
theorem At.mem {p : Addr × AO} {L : Led} {i : Nat} (h : At L i p) : p ∈ L := List.mem_of_getElem? h
theorem getL_of {c : CL} {P : Params} {vs : List V} {es : List DictEntry} (h : EntsAre c.l vs es) {j : Nat} {x : Str} {v : V} (hx : c.l[j]? = some x) (hv : vs[j]? = some v) : ∃ v', getL x es = some (some v') ∧ v.Is v' := by
  obtain ⟨e, he, k⟩ := h.find (c.nd P) hx hv
  exact ⟨e.val, by unfold getL; rw [he], k⟩
theorem inst_at {s : Shared} (S : StB hb.h w L s) {i : Nat} {a d : Addr} {k : CL} {vs : List V} (hi : At L i (a, .inst k d vs)) :
    ∃ es m, InstAt s.heap a (instObj k.C d) k.C (some (dictOf es m)) ∧ s.heap.get? d = some (dictOf es m) ∧ EntsAre k.l vs es := by
  obtain ⟨e, es, m, e', r⟩ := S.rel _ hi.mem
  exact ⟨es, m, ⟨e, rfl, rfl, e'⟩, e', r⟩
theorem getAttr_inst {A : Around} {E : Value → Shared → Prop} {expr : Bool} {s : Shared} (S : StB hb.h w L s) {i : Nat} {a d : Addr} {k : CL} {vs : List V} (hi : At L i (a, .inst k d vs)) {j : Nat} {x : Str} {v : V}
    (hx : k.l[j]? = some x) (hv : vs[j]? = some v) (hp : v.plain = true) {Q : Value → Shared → Prop} (h : ∀ v', v.Is v' → Q v' { s with toks := s.toks + 1 }) : wpAny (model prog w) A (getAttr (.ref a) x expr) Q E s := by
  obtain ⟨es, m, I, hd, r⟩ := inst_at S hi
  obtain ⟨v', e, hv'⟩ := getL_of (P := w.params) r hx hv
  have ok := k.good w.params
  have X := S.good.x
  exact get_value X I (plainGet_of (ok.get x)).1 (findObj_own ok.dict (ok.attr x (List.mem_of_getElem? hx)).1 rfl (by show lookIn x (dictOf es m) = _; rw [lookIn_dict, e])) (hv'.handed hp) (h _ hv')
noncomputable abbrev AttrOk (e : Expr) (x : Str) (env : Env) : Prop := attributeBase e x env (eval e env) = eval e env
theorem attr_ok {e : Expr} {x : Str} {pos : Pos} {env : Env} (h : AttrOk e x env) : eval (.Attribute e x pos) env = (do
      let o ← eval e env
      standAt pos.atName
      let r ← holding [o] (getAttr o x true)
      letTemporaryGo e o r
      pure r) := by
  rw [arm_eval_Attribute, h]
theorem PV.attr {e : Expr} {x : Str} {pos : Pos} {a d : Addr} {k : CL} {vs : List V} {i j : Nat} {v : V} (h : PV hb w prog n c ρ L e (.ref a)) (hi : At L i (a, .inst k d vs)) (hx : k.l[j]? = some x) (hv : vs[j]? = some v) (hp : v.plain = true) (he : AttrOk e x c.env := by with_unfolding_all rfl) :
    PV hb w prog n c ρ L (.Attribute e x pos) v := fun Q q A s Qc E rm fo S K =>
  AttributeC (h (fun b L' => b = .ref a ∧ L' = L) ⟨rfl, rfl⟩ A s _ E rm fo S fun o b L' s' hq hr S' T' => by
    obtain ⟨L'', rfl, rfl, rfl⟩ := hq
    cases hr
    exact anyC <| getAttr_inst S' (At.tl hi) hx hv hp fun v' hv' => K _ _ _ _ ⟨_, rfl, q⟩ hv' (S'.tok _) (T'.trans (.tok _))) (attr_ok he)
theorem PV.bin {l r : Expr} {op : Operator} {pos : Pos} {a b v : V} (hl : PV hb w prog n c ρ L l a) (hr : PV hb w prog n c ρ L r b) (ho : PO hb w prog n c ρ L (binaryOp op) a b v) : PV hb w prog n c ρ L (.BinOp l op r pos) v := fun Q q A s Qc E rm fo S K =>
  wpC_BinOp (hl (fun b' L' => b' = a ∧ L' = L) ⟨rfl, rfl⟩ A s _ E rm fo S fun x b' L' s₁ hq hx S₁ T₁ => by
    obtain ⟨L'', rfl, rfl, rfl⟩ := hq
    exact hr (fun b' L' => b' = b ∧ L' = L'') ⟨rfl, rfl⟩ A s₁ _ E rm (fo.to T₁) S₁ fun y b₂ L₂ s₂ hq hy S₂ T₂ => by
      obtain ⟨L₃, rfl, rfl, rfl⟩ := hq
      exact ho x y Q hx hy q A s₂ _ E rm (fo.to (T₁.trans T₂)) S₂ fun z b₃ L₄ s₃ hq hz S₃ T₃ => K _ _ _ _ hq hz S₃ ((T₁.trans T₂).trans T₃))
theorem PV.cmp {l r : Expr} {op : CmpOp} {pos : Pos} {a b v : V} (hl : PV hb w prog n c ρ L l a) (hr : PV hb w prog n c ρ L r b) (ho : PO hb w prog n c ρ L (compareOp op) a b v) (hm : behindInMarks op r = false := by with_unfolding_all rfl) : PV hb w prog n c ρ L (.Compare l [op] [r] pos) v := fun Q q A s Qc E rm fo S K =>
  wpC_Compare1 (hl (fun b' L' => b' = a ∧ L' = L) ⟨rfl, rfl⟩ A s _ E rm fo S fun x b' L' s₁ hq hx S₁ T₁ => by
    obtain ⟨L'', rfl, rfl, rfl⟩ := hq
    exact hr (fun b' L' => b' = b ∧ L' = L'') ⟨rfl, rfl⟩ A s₁ _ E rm (fo.to T₁) S₁ fun y b₂ L₂ s₂ hq hy S₂ T₂ => by
      obtain ⟨L₃, rfl, rfl, rfl⟩ := hq
      exact ho x y Q hx hy q A s₂ _ E rm (fo.to (T₁.trans T₂)) S₂ fun z b₃ L₄ s₃ hq hz S₃ T₃ => K _ _ _ _ hq hz S₃ ((T₁.trans T₂).trans T₃)) hm
theorem PT.cmp {l r : Expr} {op : CmpOp} {pos : Pos} {a b : V} {t : Bool} {p : Prop} (hl : PV hb w prog n c ρ L l a) (hr : PV hb w prog n c ρ L r b) (ho : PO hb w prog n c ρ L (compareOp op) a b (.bool t)) (ht : t = true ↔ p) (hm : behindInMarks op r = false := by with_unfolding_all rfl) : PT hb w prog n c ρ L (.Compare l [op] [r] pos) p := fun Q q A s Qc E rm fo S K =>
  wpC_isTrue_Compare1 (hl (fun b' L' => b' = a ∧ L' = L) ⟨rfl, rfl⟩ A s _ E rm fo S fun x b' L' s₁ hq hx S₁ T₁ => by
    obtain ⟨L'', rfl, rfl, rfl⟩ := hq
    exact hr (fun b' L' => b' = b ∧ L' = L'') ⟨rfl, rfl⟩ A s₁ _ E rm (fo.to T₁) S₁ fun y b₂ L₂ s₂ hq hy S₂ T₂ => by
      obtain ⟨L₃, rfl, rfl, rfl⟩ := hq
      exact ho x y (fun b' L' => b' = .bool t ∧ L' = L₃) hx hy ⟨rfl, rfl⟩ A s₂ _ E rm (fo.to (T₁.trans T₂)) S₂ fun z b₃ L₄ s₃ hq hz S₃ T₃ => by
        obtain ⟨L₅, rfl, rfl, rfl⟩ := hq
        cases hz
        exact anyC <| wpAny_truthy_bool (K _ _ _ _ ⟨_, rfl, q t ht⟩ rfl S₃ ((T₁.trans T₂).trans T₃))) hm
theorem PO.leaf {t : Value → Value → Sem Value} {a b r : V} (hl : ∀ (A : Around) (s : Shared) (Qc : Value → Shared → Prop) (E : Value → Shared → Prop) x y, a.Is x → b.Is y → Rm hb.top A n → StB hb.h w (c.fr ρ :: L) s → (∀ z tk, r.Is z → Qc z { s with toks := tk }) → wpAny (model prog w) A (t x y) Qc E s) :
    PO hb w prog n c ρ L t a b r := fun x y Q hx hy q => AC.leaf (b := r) (fun A s Qc E rm S k => hl A s Qc E x y hx hy rm S k) ⟨L, rfl, q⟩
theorem PO.add {a b : Int} : PO hb w prog n c ρ L (binaryOp .Add) (.int a) (.int b) (.int (a + b)) := .leaf fun A s Qc E x y hx hy rm S k => by
  obtain ⟨t, rfl⟩ := hx; obtain ⟨u, rfl⟩ := hy; (with_reducible refine PyProof.Rows.add_int ?_); exact k _ _ ⟨_, rfl⟩
theorem PO.sub {a b : Int} : PO hb w prog n c ρ L (binaryOp .Sub) (.int a) (.int b) (.int (a - b)) := .leaf fun A s Qc E x y hx hy rm S k => by
  obtain ⟨t, rfl⟩ := hx; obtain ⟨u, rfl⟩ := hy; (with_reducible refine PyProof.Rows.sub_int ?_); exact k _ _ ⟨_, rfl⟩
theorem PO.mul {a b : Int} (hm : IntMulOk a b) : PO hb w prog n c ρ L (binaryOp .Mult) (.int a) (.int b) (.int (a * b)) := .leaf fun A s Qc E x y hx hy rm S k => by
  obtain ⟨t, rfl⟩ := hx; obtain ⟨u, rfl⟩ := hy; (with_reducible refine PyProof.Rows.mul_int ?_ hm); exact k _ _ ⟨_, rfl⟩
theorem PO.fdiv {a b : Int} (h : b ≠ 0) (hp : Builtin.divisionGoesByPylong a b = false) : PO hb w prog n c ρ L (binaryOp .FloorDiv) (.int a) (.int b) (.int (a.fdiv b)) := .leaf fun A s Qc E x y hx hy rm S k => by
  obtain ⟨t, rfl⟩ := hx; obtain ⟨u, rfl⟩ := hy; (with_reducible refine PyProof.Rows.floordiv_int h ?_ (.inl hp)); exact k _ _ ⟨_, rfl⟩
theorem PO.fmod {a b : Int} (h : b ≠ 0) (hp : Builtin.divisionGoesByPylong a b = false) : PO hb w prog n c ρ L (binaryOp .Mod) (.int a) (.int b) (.int (a.fmod b)) := .leaf fun A s Qc E x y hx hy rm S k => by
  obtain ⟨t, rfl⟩ := hx; obtain ⟨u, rfl⟩ := hy; (with_reducible refine PyProof.Rows.mod_int' h ?_); exact k _ _ ⟨_, rfl⟩
theorem PO.band {a b : Int} : PO hb w prog n c ρ L (binaryOp .BitAnd) (.int a) (.int b) (.int (Builtin.bitAnd a b)) := .leaf fun A s Qc E x y hx hy rm S k => by
  obtain ⟨t, rfl⟩ := hx; obtain ⟨u, rfl⟩ := hy; (with_reducible refine PyProof.Rows.and_int ?_); exact k _ _ ⟨_, rfl⟩
theorem PO.bor {a b : Int} : PO hb w prog n c ρ L (binaryOp .BitOr) (.int a) (.int b) (.int (Builtin.bitOr a b)) := .leaf fun A s Qc E x y hx hy rm S k => by
  obtain ⟨t, rfl⟩ := hx; obtain ⟨u, rfl⟩ := hy; (with_reducible refine PyProof.Rows.or_int ?_); exact k _ _ ⟨_, rfl⟩
theorem PO.lt {a b : Int} : PO hb w prog n c ρ L (compareOp .Lt) (.int a) (.int b) (.bool (decide (a < b))) := .leaf fun A s Qc E x y hx hy rm S k => by
  obtain ⟨t, rfl⟩ := hx; obtain ⟨u, rfl⟩ := hy; (with_reducible refine PyProof.Rows.lt_int ?_); exact k _ _ rfl
theorem PO.gt {a b : Int} : PO hb w prog n c ρ L (compareOp .Gt) (.int a) (.int b) (.bool (decide (b < a))) := .leaf fun A s Qc E x y hx hy rm S k => by
  obtain ⟨t, rfl⟩ := hx; obtain ⟨u, rfl⟩ := hy; (with_reducible refine PyProof.Rows.gt_int ?_); exact k _ _ rfl
theorem PO.le {a b : Int} : PO hb w prog n c ρ L (compareOp .LtE) (.int a) (.int b) (.bool (decide (a ≤ b))) := .leaf fun A s Qc E x y hx hy rm S k => by
  obtain ⟨t, rfl⟩ := hx; obtain ⟨u, rfl⟩ := hy; (with_reducible refine PyProof.Rows.le_int ?_); exact k _ _ rfl
theorem PO.ge {a b : Int} : PO hb w prog n c ρ L (compareOp .GtE) (.int a) (.int b) (.bool (decide (b ≤ a))) := .leaf fun A s Qc E x y hx hy rm S k => by
  obtain ⟨t, rfl⟩ := hx; obtain ⟨u, rfl⟩ := hy; (with_reducible refine PyProof.Rows.ge_int ?_); exact k _ _ rfl
theorem PO.eq {a b : Int} : PO hb w prog n c ρ L (compareOp .Eq) (.int a) (.int b) (.bool (decide (a = b))) := .leaf fun A s Qc E x y hx hy rm S k => by
  obtain ⟨t, rfl⟩ := hx; obtain ⟨u, rfl⟩ := hy; (with_reducible refine PyProof.Rows.eq_int ?_); exact k _ _ (by show _ = _; congr 1)
theorem PO.ne {a b : Int} : PO hb w prog n c ρ L (compareOp .NotEq) (.int a) (.int b) (.bool (decide (a ≠ b))) := .leaf fun A s Qc E x y hx hy rm S k => by
  obtain ⟨t, rfl⟩ := hx; obtain ⟨u, rfl⟩ := hy
  (with_reducible refine PyProof.Rows.ne_int ?_)
  refine k _ _ ?_
  show Value.bool (a != b) = Value.bool (decide (a ≠ b))
  congr 1
  by_cases h : a = b <;> simp [h]
noncomputable def V.isNone : V → Bool | .none => true | _ => false
theorem V.Is.none_eq {b : V} {v : Value} (h : b.Is v) (hp : b.plain = true) : (v == .none) = b.isNone := by
  cases b with
  | none => cases h; rfl
  | bool b => cases h; rfl
  | int i => obtain ⟨t, rfl⟩ := h; rfl
  | str x => obtain ⟨t, rfl⟩ := h; rfl
  | bytes x => obtain ⟨t, rfl⟩ := h; rfl
  | ref a => cases h; rfl
  | lit v => cases hp
theorem PO.isNone {a : V} (hp : a.plain = true) : PO hb w prog n c ρ L (compareOp .Is) a .none (.bool a.isNone) := .leaf fun A s Qc E x y hx hy rm S k => by
  cases hy; exact is_none (k _ _ (by rw [hx.none_eq hp]; rfl))
theorem PO.isNotNone {a : V} (hp : a.plain = true) : PO hb w prog n c ρ L (compareOp .IsNot) a .none (.bool (!a.isNone)) := .leaf fun A s Qc E x y hx hy rm S k => by
  cases hy; exact isNot_none (k _ _ (by rw [hx.none_eq hp]; rfl))
end
end
section
theorem GV.of_ref {x : Str} {a : Addr} (h : ∀ P, (nsIn (KF P) mainGlobals x == some (some (.ref a))) = true) : GV x (.ref a) := fun w hp G => by
  obtain ⟨_, mg, _, T⟩ := G.t
  exact .inl ⟨mg, _, T.g, mg_of G.x T.g (beq_iff_eq.mp (h w.params)), rfl⟩
theorem GV.of_int {x : Str} {i : Int} {t : Tok} (h : ∀ P, (nsIn (KF P) mainGlobals x == some (some (.int i t))) = true) : GV x (.int i) := fun w hp G => by
  obtain ⟨_, mg, _, T⟩ := G.t
  exact .inl ⟨mg, _, T.g, mg_of G.x T.g (beq_iff_eq.mp (h w.params)), ⟨t, rfl⟩⟩
theorem GV.of_builtin {x : Str} {v : Value} (h : ∀ P, (nsIn (KF P) mainGlobals x == some none) = true) (hn : (x == ("__name__" : Str)) = false) (hb : (bootBuiltins x == some v) = true) : GV x (.lit v) := fun w hp G => by
  obtain ⟨_, mg, mb, T⟩ := G.t
  exact .inr ⟨mg, mb, v, T.g, mg_none_of G.x T.g (beq_iff_eq.mp (h w.params)), T.b, (T.builtins x (beq_eq_false_iff_ne.mp hn)).trans (beq_iff_eq.mp hb), rfl⟩
noncomputable def fnFd (st : Stmt) (qual : Str) (cd : Addr) (pm : Str) (t : Tok) : FuncData :=
  { name := sName st, qualname := qual, params := sParams st, body := .stmts (sBody st), scope := sScope st, globals := mainGlobals, closure := [], defaults := .none, kwdefaults := .none, pyModule := .str pm t, code := .ref cd, builtins := builtinsNs }
set_option genInjectivity false in
structure FS where
  st : Stmt
  f : Addr
  qual : Str
  cd : Addr
  pm : Str
  t : Tok
  k : Nat
  nm : List Str
  gl : List (Str × V)
noncomputable def fsOk (F : FS) : Bool :=
  ndB F.nm && F.nm.all (fun x => (sScope F.st).names.lookup x == some .local && !(x == ("__debug__" : Str))) &&
  F.gl.all (fun x => (sScope F.st).names.lookup x.1 == some .globalImplicit && !(x.1 == ("__debug__" : Str))) &&
  ((sScope F.st).kind == .function) && !(sScope F.st).isCoroutine && !(sScope F.st).isGenerator
structure FSOk (F : FS) : Prop where
  ok : fsOk F = true
  le : F.k ≤ F.nm.length
  at_ : ∀ P, (KF P).lookup F.f = some (fnObj F.st F.qual F.cd F.pm F.t)
  code : ∀ P, codeIn (KF P) (.ref F.cd) F.qual = true
  gv : ∀ p ∈ F.gl, GV p.1 p.2
  bind : ∀ vs : List Value, vs.length = F.k → bindArgs (fnFd F.st F.qual F.cd F.pm F.t) ⟨vs, []⟩ = pure ((F.nm.take F.k).zip vs)
  cell : (sScope F.st).names.all (fun x => !(x.2 == .cell)) = true
structure FSParts (F : FS) : Prop where
  nd : F.nm.Nodup
  loc : ∀ x ∈ F.nm, (sScope F.st).names.lookup x = some .local ∧ (x == ("__debug__" : Str)) = false
  glo : ∀ p ∈ F.gl, (sScope F.st).names.lookup p.1 = some .globalImplicit ∧ (p.1 == ("__debug__" : Str)) = false
  kind : (sScope F.st).kind = .function
  co : (sScope F.st).isCoroutine = false
  gen : (sScope F.st).isGenerator = false
theorem FSOk.parts {F : FS} (h : FSOk F) : FSParts F := by
  have h := h.ok
  simp only [fsOk, Bool.and_eq_true, Bool.not_eq_true', List.all_eq_true, beq_iff_eq] at h
  obtain ⟨⟨⟨⟨⟨h1, h2⟩, h3⟩, h4⟩, h5⟩, h6⟩ := h
  exact ⟨nd_of h1, h2, h3, h4, h5, h6⟩
@[reducible] noncomputable def FS.fc (F : FS) (nd : F.nm.Nodup) (L : Addr) : FC := ⟨envOf F.qual (sScope F.st) L F.f (.ref F.cd), ⟨F.nm, nd⟩, F.gl⟩
theorem FSOk.fok {F : FS} (h : FSOk F) (L : Addr) : FOk (F.fc h.parts.nd L) where
  kind := h.parts.kind
  glo := rfl
  bui := rfl
  loc := h.parts.loc
  glob := fun p hp => ⟨(h.parts.glo p hp).1, (h.parts.glo p hp).2, h.gv p hp⟩
inductive Dr (Q : Led → Prop) (M : Led) : Prop
  | mk (L : Led) (h : L.Sublist M) (q : Q L) : Dr Q M
section
variable (hb : HB) (w : World) (prog : Program) (n : Nat)
noncomputable def CT (f : Addr) (vs : List V) (M : Led) (Q : V → Led → Prop) : Prop :=
  ∀ xs, AllIs vs xs → ∀ (A : Around) (s : Shared) (R : Result → Shared → Prop), Rm none A n → Fo hb.h A M s → StB hb.h w M s →
    (∀ b v M' s', Q b M' → b.Is v → StB hb.h w M' s' → To M s M' s' → R (.ok (.ret v)) s') → codeC (model prog w) A (.call (.ref f) ⟨xs, []⟩) R s
noncomputable def CX (f : Value) (vs : List V) (M : Led) (Q : V → Led → Prop) : Prop := ∀ xs, AllIs vs xs → AC hb w prog n V.Is (call f xs []) M Q
end
section
variable {hb : HB} {w : World} {prog : Program} {n : Nat} {c : FC} {ρ : List (Option V)} {L M : Led}
theorem CT.cx {f : Addr} {vs : List V} {Q : V → Led → Prop} (h : CT hb w prog n f vs M Q) : CX hb w prog n (.ref f) vs M Q :=
  fun xs hxs A s Qc E rm fo S k => wpC_call (h xs hxs A s _ rm.any fo S fun b v M' s' q hv S' T' => k v b M' s' q hv S' T')
theorem CT.drop {f : Addr} {vs : List V} {Q : V → Led → Prop} (h : CT hb w prog n f vs M fun b => Dr (Q b)) : CT hb w prog n f vs M Q :=
  fun xs hxs A s R rm fo S K => h xs hxs A s R rm fo S fun b v M' s' ⟨M'', p, q⟩ hv S' T' => K b v M'' s' q hv (S'.sub p) (T'.sub p)
theorem CT.shuffle {f : Addr} {vs : List V} {Q : V → Led → Prop} (h : CT hb w prog n f vs M fun b M' => ∃ M'', M'.Perm M'' ∧ Q b M'') : CT hb w prog n f vs M Q :=
  fun xs hxs A s R rm fo S K => h xs hxs A s R rm fo S fun b v M' s' ⟨M'', p, q⟩ hv S' T' => K b v M'' s' q hv (S'.perm p) (T'.perm p)
theorem PV.glob {i : Nat} {x : Str} {pos : Pos} {v : V} (ok : FOk c) (hx : c.gl[i]? = some (x, v)) : PV hb w prog n c ρ L (.Name x pos) v := fun Q q =>
  EX.leaf (b := v) (fun A s Qc E rm S k => by
    obtain ⟨h1, h2, h3⟩ := ok.glob _ (List.mem_of_getElem? hx)
    have G := S.good
    refine wpAny_Name ?_ h2
    have e : loadName c.env x = loadGlobal c.env x := by
      unfold loadName Env.blockKind
      rw [ok.kind, h1]
      rfl
    rw [e]
    rcases h3 w _ G with ⟨m, v', hn, hm, hv⟩ | ⟨m, mb, v', hn, hm, hnb, hmb, hv⟩
    · exact loadGlobal_global (ok.glo.symm ▸ hn) hm (k _ s.toks hv)
    · exact loadGlobal_builtin (ok.glo.symm ▸ hn) hm (ok.bui.symm ▸ hnb) hmb (k _ s.toks hv)) q
noncomputable def initρ (F : FS) (vs : List V) : List (Option V) := vs.map some ++ List.replicate (F.nm.length - F.k) none
theorem lookup_rev {ks : List Str} {vs : List Value} (nd : ks.Nodup) {i : Nat} {x : Str} {v : Value} (hx : ks[i]? = some x) (hv : vs[i]? = some v) : ((ks.zip vs).reverse).lookup x = some v := by
  have hm : (x, v) ∈ (ks.zip vs).reverse := by
    rw [List.mem_reverse]
    refine List.mem_of_getElem? (i := i) ?_
    rw [List.getElem?_zip_eq_some]; exact ⟨hx, hv⟩
  have un : ∀ y, (x, y) ∈ (ks.zip vs).reverse → y = v := by
    intro y hy
    rw [List.mem_reverse] at hy
    obtain ⟨j, hj⟩ := List.mem_iff_getElem?.mp hy
    rw [List.getElem?_zip_eq_some] at hj
    have : i = j := (List.getElem?_inj (List.getElem?_eq_some_iff.mp hx).1 nd).mp (hx.trans hj.1.symm)
    subst this
    rw [hv] at hj
    exact (Option.some.inj hj.2).symm
  generalize (ks.zip vs).reverse = l at hm un
  induction l with
  | nil => cases hm
  | cons p l ih =>
    obtain ⟨a, b⟩ := p
    rw [List.lookup_cons]
    by_cases q : x = a
    · subst q
      simp only [beq_self_eq_true]
      rw [un b (.head _)]
    · rw [beq_eq_false_iff_ne.mpr q]
      refine ih ?_ fun y hy => un y (.tail _ hy)
      rcases List.mem_cons.mp hm with e | e
      · exact absurd (congrArg Prod.fst e) q
      · exact e
theorem CT.fn {F : FS} (hF : FSOk F) {vs : List V} {Q : V → Led → Prop} (hk : vs.length = F.k)
    (h : ∀ Lf, SV ⟨hb.h, some (F.fc hF.parts.nd Lf).env⟩ w prog n (F.fc hF.parts.nd Lf) (initρ F vs) M (sBody F.st) fun fl _ M' => Q (match fl with | .ret v => v | _ => .none) M') :
    CT hb w prog (n + 1) F.f vs M Q := fun xs hxs A s R rm fo S K => by
  have G := S.good
  have X := G.x
  have P := hF.parts
  obtain ⟨_, mg, mb, T⟩ := G.t
  have hlen : xs.length = F.k := by rw [← hxs.length, hk]
  refine codeC_call_def (fd := fnFd F.st F.qual F.cd F.pm F.t) (body := sBody F.st) (binds := (F.nm.take F.k).zip xs) rm.room (X _ _ (hF.at_ _)) rfl T.nolimit (codeRec_of X (hF.code _)) rfl
    (.of_eq (hF.bind xs hlen)) (fun x hx q => ?_) (fun x hx => ?_) (fun h₀ hns hk₀ => ?_) P.co P.gen P.kind
  · have := List.all_eq_true.mp hF.cell x hx
    rw [q] at this; cases this
  · exact (P.loc x.1 (List.mem_of_mem_take (List.of_mem_zip hx).1)).1
  · show wpC (model prog w) (A.deeper (F.fc P.nd s.heap.objs.size).env) (execs (sBody F.st) (F.fc P.nd s.heap.objs.size).env) _ _ _
    obtain ⟨S', T'⟩ := S.push (a := s.heap.objs.size) (o := .frame ⟨F.nm, P.nd⟩ (initρ F vs)) (h' := h₀) (tk := s.toks + ((F.nm.take F.k).zip xs).length) hk₀ (by intro b hb'; simp only [feet, List.mem_singleton] at hb'; rw [hb']; exact Heap.get?_none_of_le (Nat.le_refl _)) (by simp [feet])
      ⟨_, hns, fun i x v hx hv => by
        have hi : i < F.k := by
          have h1 : (initρ F vs)[i]? = some (some v) := hv
          unfold initρ at h1
          rw [List.getElem?_append] at h1
          split at h1
          · rename_i q; rw [List.length_map, hk] at q; exact q
          · rw [List.getElem?_replicate] at h1
            split at h1 <;> cases h1
        have hv' : vs[i]? = some v := by
          have h1 : (initρ F vs)[i]? = some (some v) := hv
          unfold initρ at h1
          rw [List.getElem?_append_left (by rw [List.length_map, hk]; exact hi), List.getElem?_map] at h1
          obtain ⟨y, e1, e2⟩ := Option.map_eq_some_iff.mp h1
          cases e2; exact e1
        obtain ⟨v', e1, e2⟩ := hxs.get hv'
        exact ⟨v', lookup_rev (P.nd.sublist (List.take_sublist _ _)) (by rw [List.getElem?_take_of_lt hi]; exact hx) e1, e2⟩⟩
    have fo' : Fo hb.h (A.deeper (F.fc P.nd s.heap.objs.size).env) ((F.fc P.nd s.heap.objs.size).fr (initρ F vs) :: M) { s with heap := h₀, toks := s.toks + ((F.nm.take F.k).zip xs).length } := by
      obtain ⟨fs, e, hf⟩ := fo.to T'
      refine ⟨_, Around.frames_deeper e, ?_⟩
      intro env he
      rcases List.mem_cons.mp he with rfl | he
      · obtain ⟨o, es, ep, ho, hd, _⟩ := hns
        refine ⟨⟨by show (sScope F.st).kind ≠ .module; rw [P.kind]; decide, _, o, rfl, S.fresh (Heap.get?_none_of_le (Nat.le_refl _)), ho, es, ep, hd⟩, fun a ha q => ?_⟩
        obtain ⟨o', e'⟩ := S.live (nfoot_foot (L := M) q)
        cases ha
        rw [Heap.get?_none_of_le (Nat.le_refl _)] at e'; cases e'
      · exact hf env he
    refine h s.heap.objs.size _ _ _ _ (rm.deeper _ (let ⟨fs, e, _⟩ := fo; ⟨fs, e⟩)) fo' S' fun fl a L' s' hq hr S₂ T₂ => ?_
    obtain ⟨ρ', M', rfl, hq⟩ := hq
    refine K _ _ M' s' hq ?_ (S₂.sub (List.sublist_cons_self _ _)) ?_
    · cases a with
      | nxt => cases hr; rfl
      | brk => cases hr; rfl
      | cnt => cases hr; rfl
      | ret b => obtain ⟨v, rfl, hv⟩ := hr; exact hv
    · refine ⟨let ⟨h', t', e⟩ := T₂.sh; ⟨h', t', e⟩, fun b o hb' e => ?_, fun b o e nf => ?_, fun b hb' => ?_, fun b o e nf hb' => ?_⟩
      · obtain ⟨o₁, e₁, q₁⟩ := T'.keep b o hb' e
        obtain ⟨o₂, e₂, q₂⟩ := T₂.keep b o₁ (fun q => by
          rw [foot_cons] at q
          rcases List.mem_append.mp q with q | q
          · simp only [feet, List.mem_singleton] at q
            rw [q] at e
            have e : s.heap.get? s.heap.objs.size = some o := e
            rw [Heap.get?_none_of_le (Nat.le_refl _)] at e; cases e
          · exact hb' q) e₁
        exact ⟨o₂, e₂, q₁.trans q₂⟩
      · obtain ⟨o₁, e₁, n₁⟩ := T'.kind b o e nf
        exact T₂.kind b o₁ e₁ n₁
      · have := T₂.new b (by rw [foot_cons]; exact List.mem_append_right _ hb')
        rcases this with q | q
        · rw [foot_cons] at q
          rcases List.mem_append.mp q with q | q
          · simp only [feet, List.mem_singleton] at q
            rw [q]
            exact .inr (Heap.get?_none_of_le (Nat.le_refl _))
          · exact .inl q
        · right
          cases e : s.heap.get? b with
          | none => rfl
          | some o => rw [hk₀ b o e] at q; cases q
      · obtain ⟨o₁, e₁, n₁⟩ := T'.kind b o e nf
        exact T₂.nf b o₁ e₁ n₁ hb'
end
end
section
theorem tc_weight (C : Addr) (args) (kw) : (Code.builtin "type.__call__" ⟨.ref C :: args, kw⟩).weight = 1 := by kernel_rfl
theorem tc_units (C : Addr) (args) (kw) : (Code.builtin "type.__call__" ⟨.ref C :: args, kw⟩).cUnits = 1 := by kernel_rfl
theorem tc_envs (args) : (Code.builtin "type.__call__" args).envs = [] := by kernel_rfl
section
variable {hb : HB} {w : World} {prog : Program} {n : Nat} {c : FC} {ρ : List (Option V)} {L M : Led}
theorem EX.cx {f : Value} {vs : List V} {Q : V → Led → Prop} {xs : List Value} (hxs : AllIs vs xs) (h : CX hb w prog n f vs (c.fr ρ :: L) fun b => Bk (c.fr ρ) (Q b)) : EX hb w prog n c ρ L (call f xs []) Q :=
  AC.shuffle ((h xs hxs).mono fun b M' ⟨L'', p, q⟩ => ⟨_, p, L'', rfl, q⟩)
theorem back1 {Q : V → Led → Prop} {b : V} {p : Addr × AO} (q : Q b (p :: L)) : Bk (c.fr ρ) (Q b) (p :: c.fr ρ :: L) := ⟨_, .swap .., q⟩
theorem CX.cls {k : CL} {vs : List V} {Q : V → Led → Prop} (h : ∀ a d, CT hb w prog n k.fI (.ref a :: vs) ((a, .inst k d []) :: M) fun b M' => b = .none ∧ Q (.ref a) M') : CX hb w prog (n + 1) (.ref k.C) vs M Q := fun xs hxs A s Qc E rm fo S K => by
  have G := S.good
  have X := G.x
  have ok := k.good w.params
  obtain ⟨hh, g, dr, t, os⟩ := s
  refine wpC_call (make_C (makes_of X ok.makes) (looks_findIn X ok.init) (fun self => bind_fn X self (beq_iff_eq.mp ok.initFn)) (.inl rfl) ?_)
  obtain ⟨S', T'⟩ := S.push (a := hh.objs.size + 1) (o := .inst k hh.objs.size []) (h' := (hh.push emptyDict).push (instObj k.C hh.objs.size)) (tk := t)
    (fun b o e => Heap.get?_push_of_some _ (Heap.get?_push_of_some _ e))
    (by intro b hb'; simp only [feet, List.mem_cons, List.not_mem_nil, or_false] at hb'; refine Heap.get?_none_of_le ?_; show hh.objs.size ≤ b; rcases hb' with rfl | rfl <;> lia)
    (by simp [feet])
    ⟨by heap_get, [], 0, by heap_get, EntsAre.nil _⟩
  have rm' : Rm none (A.under (.builtin "type.__call__" ⟨.ref k.C :: xs, []⟩)) n := rm.to rfl (by show A.depth + _ ≤ _; rw [tc_weight]; lia) (by show A.units + _ ≤ _; rw [tc_units]; lia)
  have fo' : Fo hb.h (A.under (.builtin "type.__call__" ⟨.ref k.C :: xs, []⟩)) ((hh.objs.size + 1, .inst k hh.objs.size []) :: M) ⟨(hh.push emptyDict).push (instObj k.C hh.objs.size), g, dr, t, os⟩ := by
    obtain ⟨fs, e, hf⟩ := fo.to T'
    refine ⟨fs, ?_, hf⟩
    show pushEnvs (Code.builtin "type.__call__" ⟨.ref k.C :: xs, []⟩).envs A.frames = _
    rw [tc_envs]; exact e
  refine h (hh.objs.size + 1) hh.objs.size (.ref (hh.objs.size + 1) :: xs) ⟨rfl, hxs⟩ _ _ _ rm' fo' S' fun b v M' s' hq hv S₂ T₂ => ?_
  obtain ⟨rfl, hq⟩ := hq
  exact ⟨hv, K _ _ _ _ hq rfl S₂ (T'.trans T₂)⟩
theorem AV.nil {pos : Pos} {Q : List V → Led → Prop} (q : Q [] L) : AV hb w prog n c ρ L pos [] Q := fun A s Qc E rm fo S K => wpC_items_nil (K [] [] _ _ ⟨_, rfl, q⟩ trivial S .refl)
theorem AV.cons {pos : Pos} {e : Expr} {rest : List Expr} {Q : List V → Led → Prop} (h : EV hb w prog n c ρ L e fun b L' => AV hb w prog n c ρ L' pos rest fun bs L'' => Q (b :: bs) L'')
    (he : starEach (e :: rest) c.env = (false, eval e c.env) :: starEach rest c.env := by rfl) : AV hb w prog n c ρ L pos (e :: rest) Q := fun A s Qc E rm fo S K =>
  wpC_items_cons (h A s _ E rm fo S fun x b L₁ s₁ hq hx S₁ T₁ => by
    obtain ⟨L'', rfl, hq⟩ := hq
    exact hq A s₁ _ E rm (fo.to T₁) S₁ fun xs bs L₂ s₂ hq hxs S₂ T₂ => by
      obtain ⟨L₃, rfl, hq⟩ := hq
      exact K _ (b :: bs) _ _ ⟨_, rfl, hq⟩ ⟨hx, hxs⟩ S₂ (T₁.trans T₂)) he
theorem fnKeep {f : Addr} {o : Obj} {fd : FuncData} {P : Params} (h : (KF P).lookup f = some o) (hd : o.data = .func fd) : keepIn (KF P) (.ref f) = true := by
  show (match (KF P).lookup f with
      | some ⟨_, _, .func _, _⟩ => true
      | some ⟨_, _, .cls _, _⟩ => specialIn (KF P) (.ref f) "__call__" == some (some (.builtin "type.__call__"))
      | _ => false) = true
  rw [h]
  obtain ⟨a, b, d, e⟩ := o
  dsimp only at hd
  subst hd
  rfl
theorem EV.call {id : Str} {p pos : Pos} {e : Expr} {args : List Expr} {f : Addr} {Q : V → Led → Prop} (hf : PV hb w prog n c ρ L (.Name id p) (.ref f)) (hk : ∀ P, keepIn (KF P) (.ref f) = true)
    (h : AV hb w prog n c ρ L pos (e :: args) fun vs L' => CX hb w prog n (.ref f) vs (c.fr ρ :: L') fun b => Bk (c.fr ρ) (Q b))
    (he : starEach (e :: args) c.env = (false, eval e c.env) :: starEach args c.env := by rfl) (hplain : (backTo pos (starEach args c.env)).any (·.1) = false := by rfl) :
    EV hb w prog n c ρ L (.Call (.Name id p) (e :: args) [] pos) Q := by
  unfold EV
  rw [arm_eval_Call_Name']
  refine EX.bind (AC.mono (hf (fun b L' => b = .ref f ∧ L' = L) ⟨rfl, rfl⟩) ?_)
  rintro b L' ⟨L'', rfl, rfl, rfl⟩
  refine ⟨_, rfl, fun a ha => ?_⟩
  cases ha
  intro A s Qc E rm fo S K
  refine callWith_KC (K := KF w.params) (hk _) (h A s _ E rm fo S fun xs bs L₁ s₁ hq hxs S₁ T₁ => ?_) he hplain
  obtain ⟨L₂, rfl, hq⟩ := hq
  exact ⟨S₁.good.x, EX.cx hxs hq A s₁ _ E rm (fo.to T₁) S₁ fun a b L₃ s₃ q hr S₃ T₃ => K a b L₃ s₃ q hr S₃ (T₁.trans T₃)⟩
theorem EV.call0 {id : Str} {p pos : Pos} {f : Addr} {Q : V → Led → Prop} (hf : PV hb w prog n c ρ L (.Name id p) (.ref f)) (hk : ∀ P, keepIn (KF P) (.ref f) = true)
    (h : CX hb w prog n (.ref f) [] (c.fr ρ :: L) fun b => Bk (c.fr ρ) (Q b)) :
    EV hb w prog n c ρ L (.Call (.Name id p) [] [] pos) Q := by
  unfold EV
  rw [arm_eval_Call_Name']
  refine EX.bind (AC.mono (hf (fun b L' => b = .ref f ∧ L' = L) ⟨rfl, rfl⟩) ?_)
  rintro b L' ⟨L'', rfl, rfl, rfl⟩
  refine ⟨_, rfl, fun a ha => ?_⟩
  cases ha
  intro A s Qc E rm fo S K
  exact callWith_K0C (S.good.x) (hk _) (EX.cx (vs := []) (xs := []) trivial h A s Qc E rm fo S K)
theorem getMethod_inst {A : Around} {E : Value → Shared → Prop} {pl : Sem Bool} {s : Shared} (S : StB hb.h w L s) {i : Nat} {a d f : Addr} {k : CL} {vs : List V} (hi : At L i (a, .inst k d vs)) {j : Nat} {x : Str}
    (hx : k.ms[j]? = some (x, f)) {Q : Value × List Value → Shared → Prop} (h : Q (.ref f, [.ref a]) s) : wpAny (model prog w) A (getMethod (.ref a) x pl) Q E s := by
  obtain ⟨es, m, I, hd, r⟩ := inst_at S hi
  have ok := k.good w.params
  obtain ⟨m1, m2, m3, _⟩ := ok.meth _ (List.mem_of_getElem? hx)
  have X := S.good.x
  refine method_fn X I (plainGet_of (ok.get x)).1 (plainGet_of (ok.get x)).2 m1 (beq_iff_eq.mp m2) ?_ h
  show (lookIn x (dictOf es m)).map _ = _
  rw [lookIn_dict]
  unfold getL
  rw [r.absent fun q => m3 (List.mem_of_mem_take q), r.noRef]
  rfl
theorem methKeep {k : CL} {j : Nat} {x : Str} {f : Addr} (hx : k.ms[j]? = some (x, f)) (P : Params) : keepIn (KF P) (.ref f) = true := ((k.good P).meth _ (List.mem_of_getElem? hx)).2.2.2
noncomputable abbrev MethOk (o : Expr) (x : Str) (apos pos : Pos) (args : List Expr) (env : Env) (pl : Sem Bool) : Prop := eval (.Call (.Attribute o x apos) args [] pos) env = (do
      let ov ← eval o env
      standAt apos.atName
      let (f, first) ← holding [ov] (getMethod ov x pl)
      callWith pos f first (backTo pos (starEach args env)) (backToKw pos (keywordEach [] env)))
theorem EV.meth {o : Expr} {x : Str} {apos pos : Pos} {e : Expr} {args : List Expr} {a d f : Addr} {k : CL} {vs : List V} {i j : Nat} {pl : Sem Bool} {Q : V → Led → Prop} (ho : PV hb w prog n c ρ L o (.ref a)) (hi : At L i (a, .inst k d vs)) (hx : k.ms[j]? = some (x, f))
    (h : AV hb w prog n c ρ L pos (e :: args) fun vs L' => CX hb w prog n (.ref f) (.ref a :: vs) (c.fr ρ :: L') fun b => Bk (c.fr ρ) (Q b))
    (hm : MethOk o x apos pos (e :: args) c.env pl := by rfl)
    (he : starEach (e :: args) c.env = (false, eval e c.env) :: starEach args c.env := by rfl) (hplain : (backTo pos (starEach args c.env)).any (·.1) = false := by rfl) :
    EV hb w prog n c ρ L (.Call (.Attribute o x apos) (e :: args) [] pos) Q := by
  unfold EV
  intro A s Qc E rm fo S K
  refine methodCall_C (pl := pl) (ho (fun b L' => b = .ref a ∧ L' = L) ⟨rfl, rfl⟩ A s _ E rm fo S fun ov b L₁ s₁ hq hr S₁ T₁ => ?_) hm
  obtain ⟨L₂, rfl, rfl, rfl⟩ := hq
  cases hr
  refine anyC <| getMethod_inst S₁ (At.tl hi) hx ?_
  refine callWith_KC (K := KF w.params) (methKeep hx _) (h A s₁ _ E rm (fo.to T₁) S₁ fun xs bs L₂ s₂ hq hxs S₂ T₂ => ?_) he hplain
  obtain ⟨L₃, rfl, hq⟩ := hq
  exact ⟨S₂.good.x, EX.cx (vs := .ref a :: bs) (xs := .ref a :: xs) ⟨rfl, hxs⟩ hq A s₂ _ E rm (fo.to (T₁.trans T₂)) S₂ fun a b L₃ s₃ q hr S₃ T₃ => K a b L₃ s₃ q hr S₃ ((T₁.trans T₂).trans T₃)⟩
theorem EV.meth0 {o : Expr} {x : Str} {apos pos : Pos} {a d f : Addr} {k : CL} {vs : List V} {i j : Nat} {pl : Sem Bool} {Q : V → Led → Prop} (ho : PV hb w prog n c ρ L o (.ref a)) (hi : At L i (a, .inst k d vs)) (hx : k.ms[j]? = some (x, f))
    (h : CX hb w prog n (.ref f) [.ref a] (c.fr ρ :: L) fun b => Bk (c.fr ρ) (Q b))
    (hm : MethOk o x apos pos [] c.env pl := by rfl) :
    EV hb w prog n c ρ L (.Call (.Attribute o x apos) [] [] pos) Q := by
  unfold EV
  intro A s Qc E rm fo S K
  refine methodCall_C (pl := pl) (ho (fun b L' => b = .ref a ∧ L' = L) ⟨rfl, rfl⟩ A s _ E rm fo S fun ov b L₁ s₁ hq hr S₁ T₁ => ?_) hm
  obtain ⟨L₂, rfl, rfl, rfl⟩ := hq
  cases hr
  refine anyC <| getMethod_inst S₁ (At.tl hi) hx ?_
  exact callWith_K0C (S₁.good.x) (methKeep hx _) (EX.cx (vs := [.ref a]) (xs := [.ref a]) ⟨rfl, trivial⟩ h A s₁ Qc E rm (fo.to T₁) S₁ fun a b L₃ s₃ q hr S₃ T₃ => K a b L₃ s₃ q hr S₃ (T₁.trans T₃))
theorem EV.of {e : Expr} {v : V} {Q : V → Led → Prop} (h : PV hb w prog n c ρ L e v) (q : Q v L) : EV hb w prog n c ρ L e Q := h Q q
theorem EV.bin {l r : Expr} {op : Operator} {pos : Pos} {Q : V → Led → Prop} (h : EV hb w prog n c ρ L l fun a L₁ => EV hb w prog n c ρ L₁ r fun b L₂ => ∀ x y, a.Is x → b.Is y → EX hb w prog n c ρ L₂ (binaryOp op x y) Q) :
    EV hb w prog n c ρ L (.BinOp l op r pos) Q := fun A s Qc E rm fo S K =>
  wpC_BinOp (h A s _ E rm fo S fun x a L' s₁ hq hx S₁ T₁ => by
    obtain ⟨L₁, rfl, hq⟩ := hq
    exact hq A s₁ _ E rm (fo.to T₁) S₁ fun y b L₂ s₂ hq hy S₂ T₂ => by
      obtain ⟨L₃, rfl, hq⟩ := hq
      exact hq x y hx hy A s₂ _ E rm (fo.to (T₁.trans T₂)) S₂ fun z b₃ L₄ s₃ hq hz S₃ T₃ => K _ _ _ _ hq hz S₃ ((T₁.trans T₂).trans T₃))
theorem PO.ex {t : Value → Value → Sem Value} {a b r : V} {x y : Value} {Q : V → Led → Prop} (h : PO hb w prog n c ρ L t a b r) (hx : a.Is x) (hy : b.Is y) (q : Q r L) : EX hb w prog n c ρ L (t x y) Q := h x y Q hx hy q
theorem EV.cmp {l r : Expr} {op : CmpOp} {pos : Pos} {Q : V → Led → Prop} (h : EV hb w prog n c ρ L l fun a L₁ => EV hb w prog n c ρ L₁ r fun b L₂ => ∀ x y, a.Is x → b.Is y → EX hb w prog n c ρ L₂ (compareOp op x y) Q)
    (hm : behindInMarks op r = false := by with_unfolding_all rfl) :
    EV hb w prog n c ρ L (.Compare l [op] [r] pos) Q := fun A s Qc E rm fo S K =>
  wpC_Compare1 (h A s _ E rm fo S fun x a L' s₁ hq hx S₁ T₁ => by
    obtain ⟨L₁, rfl, hq⟩ := hq
    exact hq A s₁ _ E rm (fo.to T₁) S₁ fun y b L₂ s₂ hq hy S₂ T₂ => by
      obtain ⟨L₃, rfl, hq⟩ := hq
      exact hq x y hx hy A s₂ _ E rm (fo.to (T₁.trans T₂)) S₂ fun z b₃ L₄ s₃ hq hz S₃ T₃ => K _ _ _ _ hq hz S₃ ((T₁.trans T₂).trans T₃)) hm
theorem TV.cmp {l r : Expr} {op : CmpOp} {pos : Pos} {Q : Bool → Led → Prop} (h : EV hb w prog n c ρ L l fun a L₁ => EV hb w prog n c ρ L₁ r fun b L₂ => ∀ x y, a.Is x → b.Is y → EX hb w prog n c ρ L₂ (compareOp op x y) fun z L₃ => ∃ t, z = .bool t ∧ Q t L₃)
    (hm : behindInMarks op r = false := by with_unfolding_all rfl) :
    TV hb w prog n c ρ L (.Compare l [op] [r] pos) Q := fun A s Qc E rm fo S K =>
  wpC_isTrue_Compare1 (h A s _ E rm fo S fun x a L' s₁ hq hx S₁ T₁ => by
    obtain ⟨L₁, rfl, hq⟩ := hq
    exact hq A s₁ _ E rm (fo.to T₁) S₁ fun y b L₂ s₂ hq hy S₂ T₂ => by
      obtain ⟨L₃, rfl, hq⟩ := hq
      exact hq x y hx hy A s₂ _ E rm (fo.to (T₁.trans T₂)) S₂ fun z b₃ L₄ s₃ hq hz S₃ T₃ => by
        obtain ⟨L₅, rfl, t, rfl, hq⟩ := hq
        cases hz
        exact anyC <| wpAny_truthy_bool (K _ _ _ _ ⟨_, rfl, hq⟩ rfl S₃ ((T₁.trans T₂).trans T₃))) hm
theorem TV.not {e : Expr} {pos : Pos} {Q : Bool → Led → Prop} (h : TV hb w prog n c ρ L e fun b L' => Q (!b) L') : TV hb w prog n c ρ L (.UnaryOp .Not e pos) Q := fun A s Qc E rm fo S K =>
  wpC_isTrue_Not (h A s _ E rm fo S fun a b L' s' hq hr S' T' => by
    obtain ⟨L'', rfl, hq⟩ := hq
    exact K _ _ _ _ ⟨_, rfl, hq⟩ (by rw [hr]) S' T')
noncomputable def AllT (hb : HB) (w : World) (prog : Program) (n : Nat) (c : FC) (ρ : List (Option V)) (L : Led) (op : BoolOp) (es : List Expr) (Q : Bool → Led → Prop) : Prop := TX hb w prog n c ρ L (allTrue op es c.env) Q
theorem TV.boolop {op : BoolOp} {es : List Expr} {pos : Pos} {Q : Bool → Led → Prop} (h : AllT hb w prog n c ρ L op es Q) : TV hb w prog n c ρ L (.BoolOp op es pos) Q := fun A s Qc E rm fo S K => wpC_isTrue_BoolOp (h A s Qc E rm fo S K)
theorem AllT.nilA {Q : Bool → Led → Prop} (q : Q true L) : AllT hb w prog n c ρ L .And [] Q := fun A s Qc E rm fo S K => wpC_allTrue_And_nil (K _ _ _ _ ⟨_, rfl, q⟩ rfl S .refl)
theorem AllT.nilO {Q : Bool → Led → Prop} (q : Q false L) : AllT hb w prog n c ρ L .Or [] Q := fun A s Qc E rm fo S K => wpC_allTrue_Or_nil (K _ _ _ _ ⟨_, rfl, q⟩ rfl S .refl)
theorem AllT.consA {e : Expr} {rest : List Expr} {Q : Bool → Led → Prop} (h : TV hb w prog n c ρ L e fun b L' => if b then AllT hb w prog n c ρ L' .And rest Q else Q false L') : AllT hb w prog n c ρ L .And (e :: rest) Q := fun A s Qc E rm fo S K =>
  wpC_allTrue_And_cons (h A s _ E rm fo S fun a b L' s' hq hr S' T' => by
    obtain ⟨L'', rfl, hq⟩ := hq
    cases hr
    cases a
    · exact K _ _ _ _ ⟨_, rfl, hq⟩ rfl S' T'
    · exact hq A s' _ E rm (fo.to T') S' fun a b L₂ s₂ hq hr S₂ T₂ => K a b L₂ s₂ hq hr S₂ (T'.trans T₂))
theorem AllT.consO {e : Expr} {rest : List Expr} {Q : Bool → Led → Prop} (h : TV hb w prog n c ρ L e fun b L' => if b then Q true L' else AllT hb w prog n c ρ L' .Or rest Q) : AllT hb w prog n c ρ L .Or (e :: rest) Q := fun A s Qc E rm fo S K =>
  wpC_allTrue_Or_cons (h A s _ E rm fo S fun a b L' s' hq hr S' T' => by
    obtain ⟨L'', rfl, hq⟩ := hq
    cases hr
    cases a
    · exact hq A s' _ E rm (fo.to T') S' fun a b L₂ s₂ hq hr S₂ T₂ => K a b L₂ s₂ hq hr S₂ (T'.trans T₂)
    · exact K _ _ _ _ ⟨_, rfl, hq⟩ rfl S' T')
theorem TV.val {e : Expr} {Q : Bool → Led → Prop} (h : EV hb w prog n c ρ L e fun b L' => ∀ x, b.Is x → TX hb w prog n c ρ L' (truthy x) Q)
    (he : isTrue e c.env (eval e c.env) = (do let v ← eval e c.env; standAt e.pos; holding [v] (truthy v)) := by rfl) : TV hb w prog n c ρ L e Q := fun A s Qc E rm fo S K =>
  wpC_isTrue_value (h A s _ E rm fo S fun x b L' s' hq hx S' T' => by
    obtain ⟨L'', rfl, hq⟩ := hq
    exact hq x hx A s' _ E rm (fo.to T') S' fun a b L₂ s₂ hq hr S₂ T₂ => K a b L₂ s₂ hq hr S₂ (T'.trans T₂)) he
theorem TX.bool {t : Bool} {x : Value} {Q : Bool → Led → Prop} (hx : (V.bool t).Is x) (q : Q t L) : TX hb w prog n c ρ L (truthy x) Q := fun A s Qc E rm fo S K => by
  cases hx; exact anyC <| wpAny_truthy_bool (K _ _ _ _ ⟨_, rfl, q⟩ rfl S .refl)
theorem PT.tv {e : Expr} {p : Prop} {Q : Bool → Led → Prop} (h : PT hb w prog n c ρ L e p) (q : ∀ b : Bool, (b = true ↔ p) → Q b L) : TV hb w prog n c ρ L e Q := h Q q
theorem PT.not {e : Expr} {pos : Pos} {p : Prop} (h : PT hb w prog n c ρ L e p) : PT hb w prog n c ρ L (.UnaryOp .Not e pos) (¬p) := fun Q q => TV.not (h _ fun b hb' => q _ (by rw [← hb']; simp))
theorem PT.and {e₁ e₂ : Expr} {pos : Pos} {p₁ p₂ : Prop} (h₁ : PT hb w prog n c ρ L e₁ p₁) (h₂ : p₁ → PT hb w prog n c ρ L e₂ p₂) : PT hb w prog n c ρ L (.BoolOp .And [e₁, e₂] pos) (p₁ ∧ p₂) := fun Q q =>
  TV.boolop (AllT.consA (h₁ _ fun b hb₁ => by
    cases b with
    | false => exact q false (by simp at hb₁; simp [hb₁])
    | true => exact AllT.consA (h₂ (hb₁.mp rfl) _ fun b₂ hb₂ => by
        cases b₂ with
        | false => exact q false (by simp at hb₂; simp [hb₂])
        | true => exact AllT.nilA (q true (by simp [hb₁.mp rfl, hb₂.mp rfl])))))
theorem PT.or {e₁ e₂ : Expr} {pos : Pos} {p₁ p₂ : Prop} (h₁ : PT hb w prog n c ρ L e₁ p₁) (h₂ : ¬p₁ → PT hb w prog n c ρ L e₂ p₂) : PT hb w prog n c ρ L (.BoolOp .Or [e₁, e₂] pos) (p₁ ∨ p₂) := fun Q q =>
  TV.boolop (AllT.consO (h₁ _ fun b hb₁ => by
    cases b with
    | true => exact q true (by simp [hb₁.mp rfl])
    | false => exact AllT.consO (h₂ (fun hp => by simp [hp] at hb₁) _ fun b₂ hb₂ => by
        cases b₂ with
        | true => exact q true (by simp [hb₂.mp rfl])
        | false => exact AllT.nilO (q false (by simp at hb₁ hb₂; simp [hb₁, hb₂])))))
theorem PT.val {e : Expr} {p : Prop} {t : Bool} (h : PV hb w prog n c ρ L e (.bool t)) (ht : t = true ↔ p) (he : isTrue e c.env (eval e c.env) = (do let v ← eval e c.env; standAt e.pos; holding [v] (truthy v)) := by rfl) : PT hb w prog n c ρ L e p := fun Q q =>
  TV.val (h _ fun x hx => TX.bool hx (q t ht)) he
theorem EV.ifexp {test body orelse : Expr} {pos : Pos} {Q : V → Led → Prop} (h : TV hb w prog n c ρ L test fun b L' => if b then EV hb w prog n c ρ L' body Q else EV hb w prog n c ρ L' orelse Q) : EV hb w prog n c ρ L (.IfExp test body orelse pos) Q := fun A s Qc E rm fo S K =>
  wpC_IfExp (h A s _ E rm fo S fun a b L' s' hq hr S' T' => by
    obtain ⟨L'', rfl, hq⟩ := hq
    cases hr
    cases a <;> exact hq A s' _ E rm (fo.to T') S' fun a b L₂ s₂ hq hr S₂ T₂ => K a b L₂ s₂ hq hr S₂ (T'.trans T₂))
theorem PV.neg {e : Expr} {pos : Pos} {a : Int} (h : PV hb w prog n c ρ L e (.int a)) : PV hb w prog n c ρ L (.UnaryOp .USub e pos) (.int (-a)) := fun Q q A s Qc E rm fo S K =>
  wpC_UnaryOp (h (fun b L' => b = .int a ∧ L' = L) ⟨rfl, rfl⟩ A s _ E rm fo S fun x b L' s' hq hx S' T' => by
    obtain ⟨L'', rfl, rfl, rfl⟩ := hq
    obtain ⟨t, rfl⟩ := hx
    exact anyC <| PySem.P.neg_int (K _ (.int (-a)) _ _ ⟨_, rfl, q⟩ ⟨_, rfl⟩ (S'.tok _) (T'.trans (.tok _))))
end
end
section
section
variable (hb : HB) (w : World) (prog : Program) (n : Nat) (c : FC) (ρ : List (Option V)) (L : Led)
noncomputable def S1 (st : Stmt) (Q : FlowA → List (Option V) → Led → Prop) : Prop := SX hb w prog n c ρ L (exec st c.env) Q
@[reducible] noncomputable def Then (rest : List Stmt) (Q : FlowA → List (Option V) → Led → Prop) (f : FlowA) (ρ' : List (Option V)) (L' : Led) : Prop := match f with
  | .nxt => SV hb w prog n c ρ' L' rest Q
  | f => Q f ρ' L'
end
section
variable {hb : HB} {w : World} {prog : Program} {n : Nat} {c : FC} {ρ : List (Option V)} {L : Led} {Q : FlowA → List (Option V) → Led → Prop}
theorem SV.nil (q : Q .nxt ρ L) : SV hb w prog n c ρ L [] Q := fun A s Qc E rm fo S K => wpC_execs_nil (K .next .nxt _ _ ⟨_, _, rfl, q⟩ rfl S .refl)
theorem SV.cons {st : Stmt} {rest : List Stmt} (h : S1 hb w prog n c ρ L st (Then hb w prog n c rest Q)) : SV hb w prog n c ρ L (st :: rest) Q := fun A s Qc E rm fo S K =>
  wpC_execs_cons (h A s _ E rm fo S fun a f L' s' hq hr S' T' => by
    obtain ⟨ρ', L'', rfl, hq⟩ := hq
    cases f with
    | nxt => cases hr; exact hq A s' _ E rm (fo.to T') S' fun a f L₂ s₂ hq hr S₂ T₂ => K a f L₂ s₂ hq hr S₂ (T'.trans T₂)
    | brk => cases hr; exact K _ _ _ _ ⟨_, _, rfl, hq⟩ rfl S' T'
    | cnt => cases hr; exact K _ _ _ _ ⟨_, _, rfl, hq⟩ rfl S' T'
    | ret b => obtain ⟨v, rfl, hv⟩ := hr; exact K _ _ _ _ ⟨_, _, rfl, hq⟩ ⟨v, rfl, hv⟩ S' T')
theorem SV.mono {ss : List Stmt} {Q' : FlowA → List (Option V) → Led → Prop} (h : SV hb w prog n c ρ L ss Q) (k : ∀ f ρ' L', Q f ρ' L' → Q' f ρ' L') : SV hb w prog n c ρ L ss Q' := AC.mono h fun f L' ⟨ρ', L'', e, q⟩ => ⟨ρ', L'', e, k _ _ _ q⟩
theorem store_local {A : Around} {E : Value → Shared → Prop} (ok : FOk c) {s : Shared} (S : StB hb.h w (c.fr ρ :: L) s) {i : Nat} {x : Str} {b : V} {v : Value} (hx : c.nm.l[i]? = some x) (hv : b.Is v) {Qc : Unit → Shared → Prop}
    (h : ∀ s', StB hb.h w (c.fr (ρ.set i (some b)) :: L) s' → To (c.fr ρ :: L) s (c.fr (ρ.set i (some b)) :: L) s' → Qc () s') : wpAny (model prog w) A (storeName c.env x v) Qc E s := by
  obtain ⟨m, hn, hm⟩ := S.rel (c.fr ρ) (.head _)
  refine wpAny_storeName_local (ok.loc x (List.mem_of_getElem? hx)).1 hn (fun h' hn' hs => ?_) (by rw [ok.kind]; rfl)
  obtain ⟨S', T'⟩ := S.change (i := 0) (o' := .frame c.nm (ρ.set i (some b))) (tk := s.toks + 1) (h' := h') rfl rfl rfl (fun y o hy e => (hs.2 y (by simpa [feet] using hy)).trans e) ⟨_, hn', fun j y u hy hu => by
    by_cases q : y = x
    · subst q
      have e : j = i := (List.getElem?_inj (List.getElem?_eq_some_iff.mp hy).1 c.nm.nd).mp (hy.trans hx.symm)
      subst e
      rw [List.getElem?_set] at hu
      split at hu
      · split at hu
        · cases hu; exact ⟨v, by rw [if_pos rfl], hv⟩
        · cases hu
      · rename_i q; exact absurd rfl q
    · have e : i ≠ j := fun e => q (by subst e; rw [hx] at hy; exact (Option.some.inj hy).symm)
      rw [List.getElem?_set_ne e] at hu
      obtain ⟨v', a, b⟩ := hm j y u hy hu
      exact ⟨v', by rw [if_neg q]; exact a, b⟩⟩
  exact h _ S' T'
theorem SV.aug {x : Str} {i : Nat} {px pos : Pos} {op : Operator} {value : Expr} {rest : List Stmt} {old : V} (ok : FOk c) (hx : c.nm.l[i]? = some x) (hv : ρ[i]? = some (some old))
    (h : EV hb w prog n c ρ L value fun b L' => ∀ x y, old.Is x → b.Is y → EX hb w prog n c ρ L' (inplaceOp op x y) fun r L'' => SV hb w prog n c (ρ.set i (some r)) L'' rest Q) :
    SV hb w prog n c ρ L (.AugAssign (.Name x px) op value pos :: rest) Q :=
  SV.cons fun A s Qc E rm fo S K => wpC_AugAssign_Name (anyC <| load_local ok S hx hv fun o ho => h A s _ E rm fo S fun v b L' s₁ hq hv S₁ T₁ => by
    obtain ⟨L'', rfl, hq⟩ := hq
    exact hq o v ho hv A s₁ _ E rm (fo.to T₁) S₁ fun r d L₂ s₂ hq hr S₂ T₂ => by
      obtain ⟨L₃, rfl, hq⟩ := hq
      exact anyC <| store_local ok S₂ hx hr fun s' S' T' => K .next .nxt _ _ ⟨_, _, rfl, hq⟩ rfl S' ((T₁.trans T₂).trans T'))
theorem SV.expr {e : Expr} {pos : Pos} {rest : List Stmt} (h : EV hb w prog n c ρ L e fun _ L' => SV hb w prog n c ρ L' rest Q) (hi : interactive c.env = false := by rfl) (hs : swapsWith e none pos.line c.env = pure false := by rfl) :
    SV hb w prog n c ρ L (.Expr e pos :: rest) Q :=
  SV.cons fun A s Qc E rm fo S K => wpC_Expr_any (h A s _ E rm fo S fun v b L' s₁ hq hv S₁ T₁ => by
    obtain ⟨L'', rfl, hq⟩ := hq
    exact K .next .nxt _ _ ⟨_, _, rfl, hq⟩ rfl S₁ T₁) hi hs
theorem SV.ret {e : Expr} {pos : Pos} {rest : List Stmt} (h : EV hb w prog n c ρ L e fun b L' => Q (.ret b) ρ L') : SV hb w prog n c ρ L (.Return (some e) pos :: rest) Q :=
  SV.cons fun A s Qc E rm fo S K => wpC_Return_some (h A s _ E rm fo S fun v b L' s₁ hq hv S₁ T₁ => by
    obtain ⟨L'', rfl, hq⟩ := hq
    exact K (.ret v) (.ret b) _ _ ⟨_, _, rfl, hq⟩ ⟨v, rfl, hv⟩ S₁ T₁)
theorem SV.ret0 {pos : Pos} {rest : List Stmt} (h : Q (.ret .none) ρ L) : SV hb w prog n c ρ L (.Return none pos :: rest) Q :=
  SV.cons fun A s Qc E rm fo S K => wpC_Return_none (K (.ret .none) (.ret .none) _ _ ⟨_, _, rfl, h⟩ ⟨_, rfl, rfl⟩ S .refl)
theorem SV.brk {pos : Pos} {rest : List Stmt} (h : Q .brk ρ L) : SV hb w prog n c ρ L (.Break pos :: rest) Q :=
  SV.cons fun A s Qc E rm fo S K => wpC_Break (K .brk .brk _ _ ⟨_, _, rfl, h⟩ rfl S .refl)
theorem SV.if_ {test : Expr} {body orelse : List Stmt} {pos : Pos} {rest : List Stmt} (h : TV hb w prog n c ρ L test fun b L' => if b then SV hb w prog n c ρ L' body (Then hb w prog n c rest Q) else SV hb w prog n c ρ L' orelse (Then hb w prog n c rest Q)) :
    SV hb w prog n c ρ L (.If test body orelse pos :: rest) Q :=
  SV.cons fun A s Qc E rm fo S K => wpC_If (h A s _ E rm fo S fun a b L' s₁ hq hr S₁ T₁ => by
    obtain ⟨L'', rfl, hq⟩ := hq
    cases hr
    cases a <;> exact hq A s₁ _ E rm (fo.to T₁) S₁ fun a b L₂ s₂ hq hr S₂ T₂ => K a b L₂ s₂ hq hr S₂ (T₁.trans T₂))
theorem SV.ifp {test : Expr} {body orelse : List Stmt} {pos : Pos} {rest : List Stmt} {p : Prop} (h : PT hb w prog n c ρ L test p) (ht : p → SV hb w prog n c ρ L body (Then hb w prog n c rest Q)) (hf : ¬p → SV hb w prog n c ρ L orelse (Then hb w prog n c rest Q)) :
    SV hb w prog n c ρ L (.If test body orelse pos :: rest) Q :=
  SV.if_ (h _ fun b hb' => by
    cases b with
    | true => exact ht (hb'.mp rfl)
    | false => exact hf fun hp => by simp [hp] at hb')
noncomputable def putV (vs : List V) (j : Nat) (b : V) : List V := if j < vs.length then vs.set j b else vs ++ [b]
theorem setAttr_inst {A : Around} {E : Value → Shared → Prop} {s : Shared} (S : StB hb.h w L s) {i : Nat} {a d : Addr} {k : CL} {vs : List V} (hi : At L i (a, .inst k d vs)) {j : Nat} {x : Str} {b : V} {v : Value}
    (hx : k.l[j]? = some x) (hj : j ≤ vs.length) (hv : b.Is v) {Qc : Unit → Shared → Prop}
    (h : ∀ s', StB hb.h w (L.set i (a, .inst k d (putV vs j b))) s' → To L s (L.set i (a, .inst k d (putV vs j b))) s' → Qc () s') : wpAny (model prog w) A (setAttr (.ref a) x v) Qc E s := by
  obtain ⟨es, m, I, hd, r⟩ := inst_at S hi
  have ok := k.good w.params
  have X := S.good.x
  obtain ⟨cd, hcd, hd'⟩ := any_some ok.dict
  have len := r.length
  have kl := ok.len
  have key : EntsAre k.l (putV vs j b) (putL x (PyData.keyHash w.params x) (.str x (s.toks + 1)) v es) := by
    unfold putV
    split
    · rename_i q; exact (r.put (k.nd w.params) hx q hv).1
    · rename_i q
      have : j = vs.length := Nat.le_antisymm hj (Nat.le_of_not_lt q)
      subst this
      exact (r.add (k.nd w.params) hx hv).1
  obtain ⟨hh, g, dr, t, os⟩ := s
  refine set_plain X I ok.set (osa_open (s := ⟨hh, g, dr, t + 1, os⟩) X I ok.over (ok.attr x (List.mem_of_getElem? hx)).2 fun b' => ?_)
  have D : hh.get? d = some (dictOf es m) := hd
  have X' : (KF w.params).In hh := X
  have kl' := (show EntsAre k.l (putV vs j b) (putL x (PyData.keyHash w.params x) (.str x (t + 1)) v es) from key).length
  have hne : feet (a, AO.inst k d vs) = [a, d] := rfl
  have nd : a ≠ d := fun q => by
    have := S.rel _ hi.mem
    obtain ⟨e1, es', m', e2, _⟩ := this
    have e1 : hh.get? a = _ := e1
    have e2 : hh.get? d = _ := e2
    rw [q, e2] at e1
    cases e1
  have D' : (hh.update d (Obj.putName x (PyData.keyHash w.params x) (.str x (t + 1)) v)).get? d = some (dictOf (putL x (PyData.keyHash w.params x) (.str x (t + 1)) v es) (putN x es m)) := by
    rw [Heap.get?_update_self _ D (by rw [putName_dict]; rfl), putName_dict]
  obtain ⟨S', T'⟩ := S.change (o' := .inst k d (putV vs j b)) (tk := t + 1 + 1) (h' := hh.update d (Obj.putName x (PyData.keyHash w.params x) (.str x (t + 1)) v)) hi rfl rfl
    (fun y o hy e => by
      rw [Heap.get?_update_other _ _ (fun q => hy (by rw [hne, ← q]; simp))]; exact e)
    ⟨by rw [Heap.get?_update_other _ _ (Ne.symm nd)]; exact I.at_, _, _, D', key⟩
  refine wpAny_bind (wpAny_pure (wpAny_bind (wpAny_bind (wpAny_loadPart I.at_ (wpAny_bind ((looks_clsIn X' hcd).at ?_))))))
  rw [hd']
  refine wpAny_pure (a := some d) (wpAny_bind (wpAny_pure (wpAny_bind ?_)))
  unfold nsSet
  refine wpAny_bind (wpAny_bind (wpAny_askSetting (wpAny_pure (wpAny_bind (wpAny_mkText (wpAny_bind (wpAny_loadPart D ?_)))))))
  have nr : (!es.toArray.any (·.key.isStr x) && es.toArray.any (·.refKey)) = false := by
    rw [show es.toArray.any (·.refKey) = false by rw [← Array.any_toList]; exact r.noRef, Bool.and_false]
  dsimp only
  rw [aRefKeyMayBeTheName_at, nr]
  refine wpAny_updatePart D ?_
  refine wpAny_bind (wpAny_lookBehind D' (pastItsLine_dict (by rw [List.size_toArray, sizeLine_eq]; lia)) ?_)
  exact wpAny_pure (h _ S' T')
theorem SV.setattr {o value : Expr} {x : Str} {px pos : Pos} {rest : List Stmt} (h : EV hb w prog n c ρ L value fun b L' => ∃ a i d k vs j, PV hb w prog n c ρ L' o (.ref a) ∧ At L' i (a, .inst k d vs) ∧ k.l[j]? = some x ∧ j ≤ vs.length ∧
      SV hb w prog n c ρ (L'.set i (a, .inst k d (putV vs j b))) rest Q)
    (hs : swapsWith value (some (.Attribute o x px)) pos.line c.env = pure false := by rfl) : SV hb w prog n c ρ L (.Assign [.Attribute o x px] value pos :: rest) Q :=
  SV.cons fun A s Qc E rm fo S K => wpC_Assign_Attribute (h A s _ E rm fo S fun v b L' s₁ hq hv S₁ T₁ => by
    obtain ⟨L'', rfl, a, i, d, k, vs, j, ho, hi, hx, hj, hq⟩ := hq
    exact ho (fun b' L₂ => b' = .ref a ∧ L₂ = L'') ⟨rfl, rfl⟩ A s₁ _ E rm (fo.to T₁) S₁ fun ov b' L₂ s₂ hq' hr S₂ T₂ => by
      obtain ⟨L₃, rfl, rfl, rfl⟩ := hq'
      cases hr
      exact anyC <| setAttr_inst S₂ (At.tl hi) hx hj hv fun s' S' T' => K .next .nxt _ _ ⟨ρ, L₃.set i (a, .inst k d (putV vs j b)), rfl, hq⟩ rfl S' ((T₁.trans T₂).trans T')) hs
theorem SV.augattr {o value : Expr} {x : Str} {px pos : Pos} {op : Operator} {rest : List Stmt} {a d : Addr} {i j : Nat} {k : CL} {vs : List V} {old : V} (ho : PV hb w prog n c ρ L o (.ref a)) (hi : At L i (a, .inst k d vs)) (hx : k.l[j]? = some x) (hv : vs[j]? = some old) (hp : old.plain = true)
    (h : EV hb w prog n c ρ L value fun b L' => ∀ p q, old.Is p → b.Is q → EX hb w prog n c ρ L' (inplaceOp op p q) fun r L'' => ∃ i' d' vs', At L'' i' (a, .inst k d' vs') ∧ j ≤ vs'.length ∧ SV hb w prog n c ρ (L''.set i' (a, .inst k d' (putV vs' j r))) rest Q) :
    SV hb w prog n c ρ L (.AugAssign (.Attribute o x px) op value pos :: rest) Q :=
  SV.cons fun A s Qc E rm fo S K => wpC_AugAssign_Attribute (ho (fun b' L₂ => b' = .ref a ∧ L₂ = L) ⟨rfl, rfl⟩ A s _ E rm fo S fun ov b' L₂ s₁ hq' hr S₁ T₁ => by
    obtain ⟨L₃, rfl, rfl, rfl⟩ := hq'
    cases hr
    exact anyC <| getAttr_inst S₁ (At.tl hi) hx hv hp fun p hp' => h A _ _ E rm ((fo.to T₁).to (.tok (L := c.fr ρ :: L₃) _)) (S₁.tok _) fun v b L' s₂ hq hv S₂ T₂ => by
      obtain ⟨L₄, rfl, hq⟩ := hq
      have T₂' := (T₁.trans (.tok _)).trans T₂
      exact hq p v hp' hv A s₂ _ E rm (fo.to T₂') S₂ fun r d' L₅ s₃ hq hr S₃ T₃ => by
        obtain ⟨L₆, rfl, i', d', vs', hi', hj', hq⟩ := hq
        exact anyC <| setAttr_inst S₃ (At.tl hi') hx hj' hr fun s' S' T' => K .next .nxt _ _ ⟨ρ, L₆.set i' (a, .inst k d' (putV vs' j _)), rfl, hq⟩ rfl S' ((T₂'.trans T₃).trans T'))
theorem SV.while_ {test : Expr} {body : List Stmt} {pos : Pos} {rest : List Stmt} (I : Nat → List (Option V) → Led → Prop) (m : Nat) (h0 : I m ρ L)
    (turn : ∀ m ρ L, I m ρ L → TV hb w prog n c ρ L test fun b L' => if b then SV hb w prog n c ρ L' body (fun f ρ' L'' => match f with
        | .nxt | .cnt => ∃ m', m' < m ∧ I m' ρ' L''
        | .brk => SV hb w prog n c ρ' L'' rest Q
        | .ret v => Q (.ret v) ρ' L'') else SV hb w prog n c ρ L' rest Q) :
    SV hb w prog n c ρ L (.While test body [] pos :: rest) Q :=
  SV.cons fun A s Qc E rm fo S K => wpC_While (codeC_whileLoop (fun m s' => ∃ ρ' L', I m ρ' L' ∧ StB hb.h w (c.fr ρ' :: L') s' ∧ To (c.fr ρ :: L) s (c.fr ρ' :: L') s') (fun m s' hI => by
    obtain ⟨ρ', L', hI, S', T'⟩ := hI
    refine turn m ρ' L' hI A s' _ _ rm (fo.to T') S' fun a b L₁ s₁ hq hr S₁ T₁ => ?_
    obtain ⟨L₂, rfl, hq⟩ := hq
    cases hr
    cases a with
    | false => exact wpC_execs_nil (K .next .nxt _ _ ⟨ρ', L₂, rfl, hq⟩ rfl S₁ (T'.trans T₁))
    | true =>
      exact hq A s₁ _ _ rm (fo.to (T'.trans T₁)) S₁ fun a f L₃ s₂ hq hr S₂ T₂ => by
        obtain ⟨ρ₂, L₄, rfl, hq⟩ := hq
        have T := (T'.trans T₁).trans T₂
        cases f with
        | nxt => cases hr; obtain ⟨m', lt, hI⟩ := hq; exact ⟨m', lt, ρ₂, L₄, hI, S₂, T⟩
        | cnt => cases hr; obtain ⟨m', lt, hI⟩ := hq; exact ⟨m', lt, ρ₂, L₄, hI, S₂, T⟩
        | brk => cases hr; exact K .next .nxt _ _ ⟨ρ₂, L₄, rfl, hq⟩ rfl S₂ T
        | ret v => obtain ⟨v', rfl, hv⟩ := hr; exact K (.ret v') (.ret v) _ _ ⟨ρ₂, L₄, rfl, hq⟩ ⟨v', rfl, hv⟩ S₂ T) m ⟨ρ, L, h0, S, .refl⟩)
end
end
section
structure Itr (hb : HB) (w : World) (prog : Program) (it : Addr) (len : Nat) (item : Nat → V) (need : Led → Prop) (St : Nat → Heap → Prop) : Prop where
  frame : ∀ i h h', St i h → (∀ o, h.get? it = some o → h'.get? it = some o) → St i h'
  live : ∀ i h, St i h → ∃ o, h.get? it = some o ∧ ¬ IsD o
  item : ∀ i (A : Around) (s : Shared) (L : Led) (E : Value → Shared → Prop) (Qc : Option Value → Shared → Prop), i < len → need L → StB hb.h w L s → it ∉ foot L → A.handled = none → St i s.heap →
    (∀ v h' tk, (item i).Is v → St (i + 1) h' → (∀ b o, b ≠ it → s.heap.get? b = some o → h'.get? b = some o) → Qc (some v) { s with heap := h', toks := tk }) → wpAny (model prog w) A (pyNext (.ref it)) Qc E s
  done : ∀ (A : Around) (s : Shared) (L : Led) (E : Value → Shared → Prop) (Qc : Option Value → Shared → Prop), need L → StB hb.h w L s → it ∉ foot L → A.handled = none → St len s.heap →
    (∀ h' tk, (∀ b o, b ≠ it → s.heap.get? b = some o → h'.get? b = some o) → Qc none { s with heap := h', toks := tk }) → wpAny (model prog w) A (pyNext (.ref it)) Qc E s
theorem Itr.nd {hb : HB} {w : World} {prog : Program} {it : Addr} {len : Nat} {item : Nat → V} {need : Led → Prop} {St : Nat → Heap → Prop} (W : Itr hb w prog it len item need St) {i : Nat} {h : Heap} {o : Obj} (st : St i h) (e : h.get? it = some o) : ¬ IsD o := by
  obtain ⟨o', e', n⟩ := W.live i h st
  rw [e] at e'; cases e'; exact n
theorem To.skip {L L' : Led} {s s₁ : Shared} {it : Addr} {h' : Heap} {tk : Tok} (T : To L s L' s₁) (hn : s.heap.get? it = none) (k : ∀ b o, b ≠ it → s₁.heap.get? b = some o → h'.get? b = some o) : To L s L' { s₁ with heap := h', toks := tk } := by
  have ne : ∀ b o, s.heap.get? b = some o → b ≠ it := fun b o e q => by rw [q, hn] at e; cases e
  refine ⟨?_, fun b o hb e => ?_, fun b o e d => ?_, T.new, T.nf⟩
  · obtain ⟨h, t, rfl⟩ := T.sh; exact ⟨h', tk, rfl⟩
  · obtain ⟨o', e', q⟩ := T.keep b o hb e; exact ⟨o', k b o' (ne b o e) e', q⟩
  · obtain ⟨o', e', d'⟩ := T.kind b o e d; exact ⟨o', k b o' (ne b o e) e', d'⟩
theorem StB.skip {hb : HB} {w : World} {L : Led} {s : Shared} {it : Addr} {h' : Heap} {tk : Tok} (S : StB hb.h w L s) (hn : hb.h.get? it = none) (hl : it ∉ foot L) (k : ∀ b o, b ≠ it → s.heap.get? b = some o → h'.get? b = some o) : StB hb.h w L { s with heap := h', toks := tk } where
  gd := S.gd
  base := fun b o e => k b o (fun q => by rw [q, hn] at e; cases e) (S.base b o e)
  off := S.off
  rel := fun p hp => (S.rel p hp).keeps fun b o hb e => k b o (fun q => hl (q ▸ List.mem_flatMap.mpr ⟨p, hp, hb⟩)) e
  nd := S.nd
section
variable {hb : HB} {w : World} {prog : Program} {n : Nat} {c : FC} {ρ : List (Option V)} {L : Led} {Q : FlowA → List (Option V) → Led → Prop}
theorem forLoop_core {it : Addr} {len : Nat} {item : Nat → V} {need : Led → Prop} {St : Nat → Heap → Prop} (W : Itr hb w prog it len item need St) (ok : FOk c) {ix : Nat} {x : Str} {px : Pos} {body rest : List Stmt} (hx : c.nm.l[ix]? = some x)
    (I : Nat → List (Option V) → Led → Prop) (h0 : I 0 ρ L) (hneed : ∀ k ρ' L', I k ρ' L' → need (c.fr ρ' :: L'))
    (turn : ∀ k ρ' L', k < len → I k ρ' L' → SV hb w prog n c (ρ'.set ix (some (item k))) L' body fun f ρ'' L'' => match f with
      | .nxt | .cnt => I (k + 1) ρ'' L''
      | .brk => SV hb w prog n c ρ'' L'' rest Q
      | .ret v => Q (.ret v) ρ'' L'')
    (fin : ∀ ρ' L', I len ρ' L' → SV hb w prog n c ρ' L' rest Q)
    {A : Around} {s s₁ : Shared} {R : Result → Shared → Prop} (rm : Rm hb.top A n) (fo : Fo hb.h A (c.fr ρ :: L) s) (S : StB hb.h w (c.fr ρ :: L) s) (hit : s.heap.get? it = none)
    (S₁ : StB hb.h w (c.fr ρ :: L) s₁) (T₁ : To (c.fr ρ :: L) s (c.fr ρ :: L) s₁) (st : St 0 s₁.heap)
    (K : ∀ a f L' s', Fr2 c (Then hb w prog n c rest Q f) L' → f.Is a → StB hb.h w L' s' → To (c.fr ρ :: L) s L' s' → R (.ok a) s') :
    codeC (model prog w) A (.forLoop (.Name x px) (.ref it) body [] c.env) R s₁ := by
  have hitb : hb.h.get? it = none := S.fresh hit
  have hif : it ∉ foot (c.fr ρ :: L) := fun q => by obtain ⟨o, e⟩ := S.live q; rw [hit] at e; cases e
  refine codeC_forLoop (fun k s' => ∃ i ρ' L', k = len + 1 - i ∧ i ≤ len ∧ I i ρ' L' ∧ StB hb.h w (c.fr ρ' :: L') s' ∧ To (c.fr ρ :: L) s (c.fr ρ' :: L') s' ∧ it ∉ foot (c.fr ρ' :: L') ∧ St i s'.heap)
    (fun k s' hI => ?_) (len + 1) ⟨0, ρ, L, rfl, Nat.zero_le _, h0, S₁, T₁, hif, st⟩
  obtain ⟨i, ρ', L', rfl, hi, hI, S', T', hf, st'⟩ := hI
  have hn := hneed _ _ _ hI
  by_cases q : i < len
  · refine anyC <| W.item i A s' _ _ _ q hn S' hf rm.hh st' fun v h' tk hv st₂ k => ?_
    have S₂ := S'.skip (tk := tk) hitb hf k
    have T₂ := T'.skip (tk := tk) hit k
    have tr := turn i ρ' L' q hI
    show wpC _ _ (letOwnedTupleGo (.Name x px) (.ref it) v) _ _ _
    refine wpC_pure ?_
    refine wpC_assign_Name (anyC <| store_local ok S₂ hx hv fun s₃ S₃ T₃ => ?_)
    have T₃' := T₂.trans T₃
    have hif₃ : it ∉ foot (c.fr (ρ'.set ix (some (item i))) :: L') := hf
    refine tr A s₃ _ _ rm (fo.to T₃') S₃ fun a f L₄ s₄ hq hr S₄ T₄ => ?_
    obtain ⟨ρ₄, L₅, rfl, hq⟩ := hq
    have T₄' := T₃'.trans T₄
    have st₃ : St (i + 1) s₃.heap := W.frame _ _ _ st₂ fun o e => T₃.keepN hf e (W.nd st₂ e)
    have hif₄ : it ∉ foot (c.fr ρ₄ :: L₅) := fun q => by
      rcases T₄.new it q with q | q
      · exact hif₃ q
      · obtain ⟨o, e, _⟩ := W.live _ _ st₃; rw [q] at e; cases e
    have st₄ : St (i + 1) s₄.heap := W.frame _ _ _ st₃ fun o e => T₄.keepN hif₃ e (W.nd st₃ e)
    cases f with
    | nxt => cases hr; exact ⟨len + 1 - (i + 1), by lia, i + 1, ρ₄, L₅, rfl, q, hq, S₄, T₄', hif₄, st₄⟩
    | cnt => cases hr; exact ⟨len + 1 - (i + 1), by omega, i + 1, ρ₄, L₅, rfl, q, hq, S₄, T₄', hif₄, st₄⟩
    | brk => cases hr; exact K .next .nxt _ _ ⟨ρ₄, L₅, rfl, hq⟩ rfl S₄ T₄'
    | ret b => obtain ⟨v', rfl, hv'⟩ := hr; exact K (.ret v') (.ret b) _ _ ⟨ρ₄, L₅, rfl, hq⟩ ⟨v', rfl, hv'⟩ S₄ T₄'
  · obtain rfl : i = len := by lia
    refine anyC <| W.done A s' _ _ _ hn S' hf rm.hh st' fun h' tk k => ?_
    exact wpC_execs_nil (K .next .nxt _ _ ⟨ρ', L', rfl, fin _ _ hI⟩ rfl (S'.skip hitb hf k) (T'.skip hit k))
theorem isList_at {s : Shared} {i : Nat} {a : Addr} {vs : List V} (S : StB hb.h w L s) (hi : At L i (a, .list vs)) : ∃ xs, s.heap.IsList a xs ∧ AllIs vs xs.toList := by
  obtain ⟨xs, m, e, r⟩ := S.rel _ hi.mem
  exact ⟨xs, ⟨_, e, rfl, m, rfl⟩, r⟩
theorem isTup_at {s : Shared} {i : Nat} {a : Addr} {vs : List V} (S : StB hb.h w L s) (hi : At L i (a, .tup vs)) : ∃ xs m, s.heap.get? a = some { cls := .type "tuple", data := .seq xs m } ∧ AllIs vs xs.toList := by
  obtain ⟨xs, m, e, r⟩ := S.rel _ hi.mem
  exact ⟨xs, m, e, r⟩
theorem AllIs.arr {as : List V} {xs : Array Value} (h : AllIs as xs.toList) {i : Nat} {a : V} (e : as[i]? = some a) : ∃ v, xs[i]? = some v ∧ a.Is v := by
  obtain ⟨v, e', k⟩ := h.get e
  exact ⟨v, by rw [← Array.getElem?_toList]; exact e', k⟩
theorem Itr.list {it l : Addr} {vs : List V} : Itr hb w prog it vs.length (fun i => vs.getD i .none) (fun L => ∃ j, At L j (l, .list vs)) (fun i h => h.IsListIter it l i) where
  frame := fun i h h' ⟨o, e, r⟩ k => ⟨o, k o e, r⟩
  live := fun i h ⟨o, e, _, hd⟩ => ⟨o, e, fun ⟨es, ep, q⟩ => by rw [hd] at q; cases q⟩
  item := fun i A s L E Qc hi hn S hf hh st k => by
    obtain ⟨j, hj⟩ := hn
    obtain ⟨xs, hl, r⟩ := isList_at S hj
    obtain ⟨v, e, hv⟩ := r.arr (i := i) (a := vs.getD i .none) (by rw [List.getD_eq_getElem?_getD, List.getElem?_eq_getElem hi]; rfl)
    exact wpAny_pyNext_list_item st hl e fun h' st' sb => k v h' s.toks hv st' fun b o hb' e => (sb.2 b hb').trans e
  done := fun A s L E Qc hn S hf hh st k => by
    obtain ⟨j, hj⟩ := hn
    obtain ⟨xs, hl, r⟩ := isList_at S hj
    exact wpAny_pyNext_list_end hh st hl (by rw [Array.getElem?_eq_none]; rw [← Array.length_toList, ← r.length]; exact Nat.le_refl _) fun h' eb => k h' s.toks fun b o hb' e => eb b o hb' e
inductive ForL (hb : HB) (w : World) (prog : Program) (n : Nat) (c : FC) (ρ : List (Option V)) (ix : Nat) (body rest : List Stmt) (Q : FlowA → List (Option V) → Led → Prop) (b : V) (L₀ : Led) : Prop
  | mk (l : Addr) (vs : List V) (I : Nat → List (Option V) → Led → Prop) (h0 : b = .ref l) (h1 : I 0 ρ L₀) (h2 : (∀ k ρ' L', I k ρ' L' → ∃ j, At L' j (l, .list vs))) (h3 : (∀ k v ρ' L', vs[k]? = some v → I k ρ' L' → SV hb w prog n c (ρ'.set ix (some v)) L' body fun f ρ'' L'' => match f with
        | .nxt | .cnt => I (k + 1) ρ'' L''
        | .brk => SV hb w prog n c ρ'' L'' rest Q
        | .ret v => Q (.ret v) ρ'' L'')) (h4 : (∀ ρ' L', I vs.length ρ' L' → SV hb w prog n c ρ' L' rest Q)) : ForL hb w prog n c ρ ix body rest Q b L₀
theorem SV.forList {x : Str} {ix : Nat} {px pos : Pos} {iter : Expr} {body rest : List Stmt} (ok : FOk c) (hx : c.nm.l[ix]? = some x)
    (h : EV hb w prog n c ρ L iter fun b L₀ => ForL hb w prog n c ρ ix body rest Q b L₀)
    (hs : ∀ x, foldedSetIterable iter c.env x = pure x := by intro _; rfl) : SV hb w prog n c ρ L (.For (.Name x px) iter body [] pos :: rest) Q :=
  SV.cons fun A s Qc E rm fo S K => wpC_For (h A s _ E rm fo S fun xv b L₁ s₁ hq hr S₁ T₁ => by
    obtain ⟨L₀, rfl, l, vs, I, rfl, h0, hn, turn, fin⟩ := hq
    cases hr
    obtain ⟨j, hj⟩ := hn _ _ _ h0
    obtain ⟨xs, hl, _⟩ := isList_at S₁ (At.tl (q := c.fr ρ) hj)
    refine anyC (wpAny_pyIter_list hl ?_)
    have hit : s₁.heap.get? s₁.heap.objs.size = none := Heap.get?_none_of_le (Nat.le_refl _)
    have k : ∀ b o, b ≠ s₁.heap.objs.size → s₁.heap.get? b = some o → (s₁.heap.push { cls := .type "list_iterator", data := .fields #[.ref l, .int 0 0] }).get? b = some o := fun b o _ e => Heap.get?_push_of_some _ e
    have hif : s₁.heap.objs.size ∉ foot (c.fr ρ :: L₀) := fun q => by obtain ⟨o, e⟩ := S₁.live q; rw [hit] at e; cases e
    refine forLoop_core (Itr.list (l := l) (vs := vs)) ok hx I h0 (fun k ρ' L' hI => let ⟨j, hj⟩ := hn k ρ' L' hI; ⟨j + 1, At.tl hj⟩) (fun k ρ' L' hk hI => turn k _ ρ' L' ?_ hI) fin rm (fo.to T₁) S₁ hit (S₁.skip (tk := s₁.toks) (S₁.fresh hit) hif k) (To.refl.skip hit k) ⟨_, Heap.get?_push_size _ rfl, rfl, rfl⟩
      fun a f L' s' hq hr S' T' => K a f L' s' hq hr S' (T₁.trans T')
    rw [List.getD_eq_getElem?_getD, List.getElem?_eq_getElem hk]; rfl) hs
end
end
section
section
variable {hb : HB} {w : World} {prog : Program} {n : Nat} {c : FC} {ρ : List (Option V)} {L M : Led}
theorem StB.grow {s : Shared} {h' : Heap} {tk : Tok} (S : StB hb.h w M s) (k : ∀ x o, s.heap.get? x = some o → h'.get? x = some o) : StB hb.h w M { s with heap := h', toks := tk } :=
  ⟨S.gd, fun b o e => k b o (S.base b o e), S.off, fun p hp => (S.rel p hp).keeps fun b o _ e => k b o e, S.nd⟩
theorem To.grow {s : Shared} {h' : Heap} {tk : Tok} (k : ∀ x o, s.heap.get? x = some o → h'.get? x = some o) : To M s M { s with heap := h', toks := tk } :=
  ⟨⟨h', tk, rfl⟩, fun b o _ e => ⟨o, k b o e, .inl rfl⟩, fun b o e d => ⟨o, k b o e, d⟩, fun b hb' => .inl hb', fun b o e d hb' => hb'⟩
theorem AC.calm {α β : Type} {R : β → α → Prop} {t : Sem α} {b : β} {Q : β → Led → Prop} (hl : ∀ (A : Around) (s : Shared) (Qc : α → Shared → Prop) (E : Value → Shared → Prop), Rm hb.top A n → Fo hb.h A M s → StB hb.h w M s →
      (∀ v h' tk, R b v → (∀ x o, s.heap.get? x = some o → h'.get? x = some o) → Qc v { s with heap := h', toks := tk }) → wpAny (model prog w) A t Qc E s) (h : Q b M) : AC hb w prog n R t M Q :=
  fun A s Qc E rm fo S K => anyC <| hl A s Qc E rm fo S fun v h' tk hv k => K v b M _ h hv (S.grow k) (To.grow k)
theorem AC.fresh {t : Sem Value} {o : AO} {Q : V → Led → Prop} (hf : ∀ r, feet (r, o) = [r]) (hl : ∀ (A : Around) (s : Shared) (Qc : Value → Shared → Prop) (E : Value → Shared → Prop), Rm hb.top A n → Fo hb.h A M s → StB hb.h w M s →
      (∀ r h' tk, s.heap.get? r = none → (∀ x o, s.heap.get? x = some o → h'.get? x = some o) → ObjAt h' r o → Qc (.ref r) { s with heap := h', toks := tk }) → wpAny (model prog w) A t Qc E s) (h : ∀ r, Q (.ref r) ((r, o) :: M)) : AC hb w prog n V.Is t M Q :=
  fun A s Qc E rm fo S K => anyC <| hl A s Qc E rm fo S fun r h' tk hn k hO => by
    obtain ⟨S', T'⟩ := S.push (a := r) (o := o) (h' := h') (tk := tk) k (fun b hb' => by rw [hf] at hb'; rw [List.mem_singleton.mp hb']; exact hn) (by rw [hf]; simp) hO
    exact K _ (.ref r) _ _ (h r) rfl S' T'
theorem EV.callb {id : Str} {p pos : Pos} {e : Expr} {args : List Expr} {f : String} {Q : V → Led → Prop} (hf : PV hb w prog n c ρ L (.Name id p) (.lit (.builtin f)))
    (h : AV hb w prog n c ρ L pos (e :: args) fun vs L' => CX hb w prog n (.builtin f) vs (c.fr ρ :: L') fun b => Bk (c.fr ρ) (Q b))
    (he : starEach (e :: args) c.env = (false, eval e c.env) :: starEach args c.env := by rfl) (hplain : (backTo pos (starEach args c.env)).any (·.1) = false := by rfl) :
    EV hb w prog n c ρ L (.Call (.Name id p) (e :: args) [] pos) Q := by
  unfold EV
  rw [arm_eval_Call_Name']
  refine EX.bind (AC.mono (hf (fun b L' => b = .lit (.builtin f) ∧ L' = L) ⟨rfl, rfl⟩) ?_)
  rintro b L' ⟨L'', rfl, rfl, rfl⟩
  refine ⟨_, rfl, fun a ha => ?_⟩
  cases ha
  intro A s Qc E rm fo S K
  rw [he]
  refine callWith_builtinC (by show (false || (backTo pos (starEach args c.env)).any (·.1)) = false; rw [hplain]; rfl) (evalArgs_plainC ?_)
  have h := h A s (fun vs s' => wpC (model prog w) A (PySem.call (.builtin f) ([] ++ vs) []) Qc E s') E rm fo S
  rw [he] at h
  refine h fun xs bs L₁ s₁ hq hxs S₁ T₁ => ?_
  obtain ⟨L₂, rfl, hq⟩ := hq
  exact EX.cx hxs hq A s₁ _ E rm (fo.to T₁) S₁ fun a b L₃ s₃ q hr S₃ T₃ => K a b L₃ s₃ q hr S₃ (T₁.trans T₃)
theorem EV.callt {id : Str} {p pos : Pos} {e : Expr} {args : List Expr} {f : String} {Q : V → Led → Prop} (hf : PV hb w prog n c ρ L (.Name id p) (.lit (.type f)))
    (h : AV hb w prog n c ρ L pos (e :: args) fun vs L' => CX hb w prog n (.type f) vs (c.fr ρ :: L') fun b => Bk (c.fr ρ) (Q b))
    (he : starEach (e :: args) c.env = (false, eval e c.env) :: starEach args c.env := by rfl) (hplain : (backTo pos (starEach args c.env)).any (·.1) = false := by rfl) :
    EV hb w prog n c ρ L (.Call (.Name id p) (e :: args) [] pos) Q := by
  unfold EV
  rw [arm_eval_Call_Name']
  refine EX.bind (AC.mono (hf (fun b L' => b = .lit (.type f) ∧ L' = L) ⟨rfl, rfl⟩) ?_)
  rintro b L' ⟨L'', rfl, rfl, rfl⟩
  refine ⟨_, rfl, fun a ha => ?_⟩
  cases ha
  intro A s Qc E rm fo S K
  rw [he]
  refine callWith_typeC (by show (false || (backTo pos (starEach args c.env)).any (·.1)) = false; rw [hplain]; rfl) (evalArgs_plainC ?_)
  have h := h A s (fun vs s' => wpC (model prog w) A (PySem.call (.type f) ([] ++ vs) []) Qc E s') E rm fo S
  rw [he] at h
  refine h fun xs bs L₁ s₁ hq hxs S₁ T₁ => ?_
  obtain ⟨L₂, rfl, hq⟩ := hq
  exact EX.cx hxs hq A s₁ _ E rm (fo.to T₁) S₁ fun a b L₃ s₃ q hr S₃ T₃ => K a b L₃ s₃ q hr S₃ (T₁.trans T₃)
theorem EV.callt0 {id : Str} {p pos : Pos} {f : String} {Q : V → Led → Prop} (hf : PV hb w prog n c ρ L (.Name id p) (.lit (.type f)))
    (h : CX hb w prog n (.type f) [] (c.fr ρ :: L) fun b => Bk (c.fr ρ) (Q b)) :
    EV hb w prog n c ρ L (.Call (.Name id p) [] [] pos) Q := by
  unfold EV
  rw [arm_eval_Call_Name']
  refine EX.bind (AC.mono (hf (fun b L' => b = .lit (.type f) ∧ L' = L) ⟨rfl, rfl⟩) ?_)
  rintro b L' ⟨L'', rfl, rfl, rfl⟩
  refine ⟨_, rfl, fun a ha => ?_⟩
  cases ha
  intro A s Qc E rm fo S K
  exact callWith_type0C (EX.cx (vs := []) (xs := []) trivial h A s Qc E rm fo S K)
theorem one_is {a : V} {xs : List Value} (h : AllIs [a] xs) : ∃ x, xs = [x] ∧ a.Is x := by
  match xs, h with
  | [x], h => exact ⟨x, rfl, h.1⟩
theorem two_is {a b : V} {xs : List Value} (h : AllIs [a, b] xs) : ∃ x y, xs = [x, y] ∧ a.Is x ∧ b.Is y := by
  match xs, h with
  | [x, y], h => exact ⟨x, y, rfl, h.1, h.2.1⟩
theorem CX.lenList {i : Nat} {a : Addr} {vs : List V} {Q : V → Led → Prop} (hi : At M i (a, .list vs)) (hf : vs.length < 2 ^ 40) (q : Q (.int vs.length) M) : CX hb w prog n (.builtin "len") [.ref a] M Q := fun xs hxs => by
  obtain ⟨x, rfl, rfl⟩ := one_is hxs
  refine AC.calm (b := .int vs.length) (fun A s Qc E rm fo S k => ?_) q
  obtain ⟨ys, hl, r⟩ := isList_at S hi
  have e : ys.size = vs.length := by rw [← Array.length_toList, ← r.length]
  have := k (.int ys.size (s.toks + 1)) s.heap (s.toks + 1 + 1) ⟨_, by rw [e]⟩ fun _ _ e => e
  exact Calls.call_len_list hl (by lia) this
theorem CX.lenBytes {b : Array UInt8} {Q : V → Led → Prop} (hf : b.size ≤ 1099511627776) (q : Q (.int b.size) M) : CX hb w prog n (.builtin "len") [.bytes b] M Q := fun xs hxs => by
  obtain ⟨x, rfl, t, rfl⟩ := one_is hxs
  refine AC.calm (b := .int b.size) (fun A s Qc E rm fo S k => ?_) q
  exact PySem.W.len_bytes hf (k _ s.heap (s.toks + 1 + 1) ⟨_, rfl⟩ fun _ _ e => e)
theorem CX.range1 {hi : Int} {Q : V → Led → Prop} (q : ∀ r, Q (.ref r) ((r, .rng 0 hi) :: M)) : CX hb w prog n (.type "range") [.int hi] M Q := fun xs hxs => by
  obtain ⟨x, rfl, t, rfl⟩ := one_is hxs
  exact AC.fresh (o := .rng 0 hi) (fun _ => rfl) (fun A s Qc E rm fo S k => call_range_1 (k _ _ _ (Heap.get?_none_of_le (Nat.le_refl _)) (fun x o e => Heap.get?_push_of_some _ e) ⟨_, _, _, IsRange.new ..⟩)) q
theorem CX.range2 {lo hi : Int} {Q : V → Led → Prop} (q : ∀ r, Q (.ref r) ((r, .rng lo hi) :: M)) : CX hb w prog n (.type "range") [.int lo, .int hi] M Q := fun xs hxs => by
  obtain ⟨x, y, rfl, ⟨t, rfl⟩, u, rfl⟩ := two_is hxs
  exact AC.fresh (o := .rng lo hi) (fun _ => rfl) (fun A s Qc E rm fo S k => call_range_2 (k _ _ _ (Heap.get?_none_of_le (Nat.le_refl _)) (fun x o e => Heap.get?_push_of_some _ e) ⟨_, _, _, IsRange.new ..⟩)) q
theorem CX.max2 {a b : Int} {Q : V → Led → Prop} (q : Q (.int (max a b)) M) : CX hb w prog n (.builtin "max") [.int a, .int b] M Q := fun xs hxs => by
  obtain ⟨x, y, rfl, ⟨t, rfl⟩, u, rfl⟩ := two_is hxs
  refine AC.calm (b := .int (max a b)) (fun A s Qc E rm fo S k => max_two_ints rm.hh fun h' tk hk => k _ _ _ ?_ hk) q
  split
  · exact ⟨u, by rw [Int.max_eq_right (by lia)]⟩
  · exact ⟨t, by rw [Int.max_eq_left (by lia)]⟩
theorem CX.min2 {a b : Int} {Q : V → Led → Prop} (q : Q (.int (min a b)) M) : CX hb w prog n (.builtin "min") [.int a, .int b] M Q := fun xs hxs => by
  obtain ⟨x, y, rfl, ⟨t, rfl⟩, u, rfl⟩ := two_is hxs
  refine AC.calm (b := .int (min a b)) (fun A s Qc E rm fo S k => min_two_ints rm.hh fun h' tk hk => k _ _ _ ?_ hk) q
  split
  · exact ⟨u, by rw [Int.min_eq_right (by lia)]⟩
  · exact ⟨t, by rw [Int.min_eq_left (by lia)]⟩
theorem ints_arr {ns : List Int} : ∀ {xs : List Value}, AllIs (ns.map .int) xs → ∃ ys : List (Int × Tok), xs = ys.map (fun p => .int p.1 p.2) ∧ ys.map (·.1) = ns := by
  induction ns with
  | nil => intro xs h; cases xs with
    | nil => exact ⟨[], rfl, rfl⟩
    | cons _ _ => exact h.elim
  | cons a ns ih => intro xs h; cases xs with
    | nil => exact h.elim
    | cons x xs =>
      obtain ⟨⟨t, rfl⟩, h⟩ := h
      obtain ⟨ys, rfl, rfl⟩ := ih h
      exact ⟨(a, t) :: ys, rfl, rfl⟩
theorem ints_at {s : Shared} {i : Nat} {a : Addr} {ns : List Int} (S : StB hb.h w M s) (hi : At M i (a, .list (ns.map .int))) : ∃ ys : Array (Int × Tok), s.heap.IsList a (intItems ys) ∧ ys.toList.map (·.1) = ns := by
  obtain ⟨xs, hl, r⟩ := isList_at S hi
  obtain ⟨ys, e, e'⟩ := ints_arr r
  refine ⟨ys.toArray, ?_, by simpa using e'⟩
  have : xs = intItems ys.toArray := by
    apply Array.toList_inj.mp
    simp [intItems, e]
  rw [← this]; exact hl
theorem CX.sum {i : Nat} {a : Addr} {ns : List Int} {Q : V → Led → Prop} (hi : At M i (a, .list (ns.map .int))) (q : Q (.int ns.sum) M) : CX hb w prog n (.builtin "sum") [.ref a] M Q := fun xs hxs => by
  obtain ⟨x, rfl, rfl⟩ := one_is hxs
  refine AC.calm (b := .int ns.sum) (fun A s Qc E rm fo S k => ?_) q
  obtain ⟨ys, hl, e⟩ := ints_at S hi
  refine sum_intListG rm.hh hl fun h' tk t' hk => k _ _ _ ⟨t', ?_⟩ hk
  rw [preSum_eq, List.take_of_length_le (by simp), e]
theorem CX.minList {i : Nat} {a : Addr} {ns : List Int} {Q : V → Led → Prop} (hi : At M i (a, .list (ns.map .int))) (hne : ns ≠ []) (q : ∀ m ∈ ns, (∀ x ∈ ns, m ≤ x) → Q (.int m) M) : CX hb w prog n (.builtin "min") [.ref a] M Q := fun xs hxs => by
  obtain ⟨x, rfl, rfl⟩ := one_is hxs
  intro A s Qc E rm fo S K
  obtain ⟨ys, hl, e⟩ := ints_at S hi
  have hsz : 0 < ys.size := by
    rw [← Array.length_toList]
    cases q : ys.toList with
    | nil => rw [q] at e; exact absurd e.symm hne
    | cons _ _ => simp
  refine anyC <| min_intList rm.hh hl hsz fun v h' tk hv hk => ?_
  obtain ⟨t, rfl⟩ := intItems_at hv
  obtain ⟨h1, h2⟩ := argBest_lt (numAt ys) (ys.size - 1)
  have len : ns.length = ys.size := by rw [← e, List.length_map, Array.length_toList]
  refine K _ (.int _) M _ (q _ ?_ fun x hx => ?_) ⟨t, rfl⟩ (S.grow hk) (To.grow hk)
  · rw [numAt_eq, e]; exact getD_mem (by omega)
  · obtain ⟨j, hj, rfl⟩ := mem_getD hx
    have := h2 j (by lia)
    rw [numAt_eq ys j, e] at this
    exact this
theorem CX.tupleList {i : Nat} {a : Addr} {vs : List V} {Q : V → Led → Prop} (hi : At M i (a, .list vs)) (hf : vs.length < 2 ^ 20) (q : ∀ r, Q (.ref r) ((r, .tup vs) :: M)) : CX hb w prog n (.type "tuple") [.ref a] M Q := fun xs hxs => by
  obtain ⟨x, rfl, rfl⟩ := one_is hxs
  refine AC.fresh (o := .tup vs) (fun _ => rfl) (fun A s Qc E rm fo S k => ?_) q
  obtain ⟨ys, hl, r⟩ := isList_at S hi
  have e : ys.size = vs.length := by rw [← Array.length_toList, ← r.length]
  refine call_tuple_list hl (fun h' hk => k _ _ _ ?_ (fun x o e => Heap.get?_push_of_some _ (hk _ _ e)) ⟨ys, 0, Heap.get?_push_size _ rfl, r⟩) (by rw [sizeLine_eq]; lia)
  cases q : s.heap.get? h'.objs.size with
  | none => rfl
  | some o => exact absurd (Heap.lt_size (hk _ _ q)) (Nat.lt_irrefl _)
theorem CX.append {i : Nat} {a : Addr} {vs : List V} {b : V} {Q : V → Led → Prop} (hi : At M i (a, .list vs)) (hf : vs.length < 2 ^ 20) (q : Q .none (M.set i (a, .list (vs ++ [b])))) : CX hb w prog n (.builtin "list.append") [.ref a, b] M Q := fun xs hxs => by
  obtain ⟨x, y, rfl, rfl, hy⟩ := two_is hxs
  intro A s Qc E rm fo S K
  obtain ⟨ys, m, e, r⟩ := S.rel _ hi.mem
  have len : ys.size = vs.length := by rw [← Array.length_toList, ← r.length]
  refine anyC <| append_at e (fun h' sb hg => ?_) (by rw [sizeLine_eq]; omega)
  obtain ⟨S', T'⟩ := S.change (o' := .list (vs ++ [b])) (tk := s.toks) (h' := h') hi rfl rfl (fun y o hy e => (sb.2 y (by simpa [feet] using hy)).trans e) ⟨_, _, hg, by rw [Array.toList_push]; exact r.append (AllIs.one hy)⟩
  exact K _ .none _ _ q rfl S' T'
end
end
section
section
variable {hb : HB} {w : World} {prog : Program} {n : Nat} {c : FC} {ρ : List (Option V)} {L M : Led}
theorem AllIs.toArr {as : List V} {vs : List Value} (h : AllIs as vs) : AllIs as vs.toArray.toList := by simpa using h
theorem EV.list {elts : List Expr} {pos : Pos} {Q : V → Led → Prop} (h : AV hb w prog n c ρ L pos elts fun vs L' => vs.length < 2 ^ 20 ∧ ∀ r, Q (.ref r) ((r, .list vs) :: L')) : EV hb w prog n c ρ L (.List elts pos) Q := fun A s Qc E rm fo S K =>
  wpC_List (h A s _ E rm fo S fun xs vs L' s₁ hq hxs S₁ T₁ => by
    obtain ⟨L'', rfl, hlen, hq⟩ := hq
    refine ⟨by rw [← hxs.length, sizeLine_eq]; lia, ?_⟩
    obtain ⟨S', T'⟩ := S₁.push (a := s₁.heap.objs.size) (o := .list vs) (h' := s₁.heap.push { cls := .type "list", data := .seq xs.toArray }) (tk := s₁.toks) (fun x o e => Heap.get?_push_of_some _ e)
      (fun b hb' => by simp only [feet, List.mem_singleton] at hb'; rw [hb']; exact Heap.get?_none_of_le (Nat.le_refl _)) (by simp [feet]) ⟨_, 0, Heap.get?_push_size _ rfl, hxs.toArr⟩
    exact K _ (.ref _) _ _ ⟨(s₁.heap.objs.size, .list vs) :: L'', rfl, hq _⟩ rfl (S'.perm (.swap ..)) ((T₁.trans T').perm (.swap ..)))
theorem EV.tuple {elts : List Expr} {k : Nat} {pos : Pos} {Q : V → Led → Prop} (h : AV hb w prog n c ρ L pos elts fun vs L' => vs.length < 2 ^ 20 ∧ ∀ r, Q (.ref r) ((r, .tup vs) :: L')) : EV hb w prog n c ρ L (.Tuple elts k pos) Q := fun A s Qc E rm fo S K =>
  wpC_Tuple (h A s _ E rm fo S fun xs vs L' s₁ hq hxs S₁ T₁ => by
    obtain ⟨L'', rfl, hlen, hq⟩ := hq
    refine ⟨by rw [← hxs.length, sizeLine_eq]; omega, ?_⟩
    obtain ⟨S', T'⟩ := S₁.push (a := s₁.heap.objs.size) (o := .tup vs) (h' := s₁.heap.push { cls := .type "tuple", data := .seq xs.toArray }) (tk := s₁.toks) (fun x o e => Heap.get?_push_of_some _ e)
      (fun b hb' => by simp only [feet, List.mem_singleton] at hb'; rw [hb']; exact Heap.get?_none_of_le (Nat.le_refl _)) (by simp [feet]) ⟨_, 0, Heap.get?_push_size _ rfl, hxs.toArr⟩
    exact K _ (.ref _) _ _ ⟨(s₁.heap.objs.size, .tup vs) :: L'', rfl, hq _⟩ rfl (S'.perm (.swap ..)) ((T₁.trans T').perm (.swap ..)))
noncomputable abbrev SubOk (slice : Expr) : Prop := ∀ (a : Addr) (k : Int) (u : Tok), subscripted slice false (.ref a) (.int k u) = operate [.ref a, .int k u] (getItem (.ref a) (.int k u))
inductive ItemP (hb : HB) (w : World) (prog : Program) (n : Nat) (c : FC) (ρ : List (Option V)) (slice : Expr) (Q : V → Led → Prop) (b : V) (L' : Led) : Prop
  | mk (a : Addr) (k : Int) (i j : Nat) (vs : List V) (v : V) (h0 : b = .ref a) (h1 : PV hb w prog n c ρ L' slice (.int k)) (h2 : At L' i (a, .list vs)) (h3 : vs.length < 2 ^ 20) (h4 : vs[j]? = some v) (h5 : (k = (j : Int) ∨ k = (j : Int) - vs.length)) (h6 : Q v L') : ItemP hb w prog n c ρ slice Q b L'
theorem EV.item {value slice : Expr} {pos : Pos} {Q : V → Led → Prop} (h : EV hb w prog n c ρ L value fun b L' => ItemP hb w prog n c ρ slice Q b L')
    (hs : SubOk slice := by intro _ _ _; with_unfolding_all rfl) : EV hb w prog n c ρ L (.Subscript value slice pos) Q := fun A s Qc E rm fo S K =>
  Subscript_C (h A s _ E rm fo S fun x b L' s₁ hq hx S₁ T₁ => by
    obtain ⟨L'', rfl, a, k, i, j, vs, v, rfl, hsl, hi, hlen, hv, hk, hq⟩ := hq
    cases hx
    exact hsl (fun b' L₂ => b' = .int k ∧ L₂ = L'') ⟨rfl, rfl⟩ A s₁ _ E rm (fo.to T₁) S₁ fun y b' L₂ s₂ hq' hy S₂ T₂ => by
      obtain ⟨L₃, rfl, rfl, rfl⟩ := hq'
      obtain ⟨u, rfl⟩ := hy
      obtain ⟨xs, hl, r⟩ := isList_at S₂ (At.tl (q := c.fr ρ) hi)
      obtain ⟨y, hy, hvy⟩ := r.arr hv
      have hsz : xs.size = vs.length := by rw [← Array.length_toList, ← r.length]
      have hj : j < vs.length := (List.getElem?_eq_some_iff.mp hv).1
      have fin := K y v _ s₂ ⟨_, rfl, hq⟩ hvy S₂ (T₁.trans T₂)
      rcases hk with rfl | rfl
      · exact anyC <| tail_any hl.typeIs slot_list_getitem.lookup (wpAny_getItem_list hl (by lia) (by lia) (by simpa using hy) fin) (hs _ _ _)
      · exact anyC <| tail_any hl.typeIs slot_list_getitem.lookup (wpAny_getItem_list_neg hl (by lia) (by lia) (by lia) (by rw [hsz, show ((j : Int) - vs.length + vs.length).toNat = j by lia]; exact hy) fin) (hs _ _ _))
inductive ItemT (hb : HB) (w : World) (prog : Program) (n : Nat) (c : FC) (ρ : List (Option V)) (slice : Expr) (Q : V → Led → Prop) (b : V) (L' : Led) : Prop
  | mk (a : Addr) (i j : Nat) (vs : List V) (v : V) (h0 : b = .ref a) (h1 : PV hb w prog n c ρ L' slice (.int j)) (h2 : At L' i (a, .tup vs)) (h3 : vs.length < 2 ^ 20) (h4 : vs[j]? = some v) (h5 : Q v L') : ItemT hb w prog n c ρ slice Q b L'
theorem EV.itemT {value slice : Expr} {pos : Pos} {Q : V → Led → Prop} (h : EV hb w prog n c ρ L value fun b L' => ItemT hb w prog n c ρ slice Q b L')
    (hs : SubOk slice := by intro _ _ _; with_unfolding_all rfl) : EV hb w prog n c ρ L (.Subscript value slice pos) Q := fun A s Qc E rm fo S K =>
  Subscript_C (h A s _ E rm fo S fun x b L' s₁ hq hx S₁ T₁ => by
    obtain ⟨L'', rfl, a, i, j, vs, v, rfl, hsl, hi, hlen, hv, hq⟩ := hq
    cases hx
    exact hsl (fun b' L₂ => b' = .int j ∧ L₂ = L'') ⟨rfl, rfl⟩ A s₁ _ E rm (fo.to T₁) S₁ fun y b' L₂ s₂ hq' hy S₂ T₂ => by
      obtain ⟨L₃, rfl, rfl, rfl⟩ := hq'
      obtain ⟨u, rfl⟩ := hy
      obtain ⟨xs, m, e, r⟩ := isTup_at S₂ (At.tl (q := c.fr ρ) hi)
      obtain ⟨y, hy, hvy⟩ := r.arr hv
      have hsz : xs.size = vs.length := by rw [← Array.length_toList, ← r.length]
      have hj : j < vs.length := (List.getElem?_eq_some_iff.mp hv).1
      have ht : IsTup s₂.heap a xs := ⟨_, e, rfl, m, rfl⟩
      refine anyC <| tail_any ht.typeIs slot_tuple_getitem.lookup (PyProof.Rows.getItem_tuple (j := j) ht (by lia) (by omega) ?_ hy (K y v _ s₂ ⟨_, rfl, hq⟩ hvy S₂ (T₁.trans T₂))) (hs _ _ _)
      unfold seqIndex?
      rw [hsz]
      simp only [show ¬ ((j : Int) < 0) by lia, if_false]
      first | (rw [if_pos (by omega)]; simp) | simp [hj])
noncomputable def PP (hb : HB) (w : World) (prog : Program) (n : Nat) (c : FC) (ρ : List (Option V)) (L : Led) (x : Option Expr) (o : Option Int) : Prop := match x, o with
  | none, none => True
  | some e, some i => PV hb w prog n c ρ L e (.int i)
  | _, _ => False
theorem PP.wp {x : Option Expr} {o : Option Int} (h : PP hb w prog n c ρ L x o) {A : Around} {s : Shared} {Qc : Value → Shared → Prop} {E : Value → Shared → Prop} (rm : Rm hb.top A n) (fo : Fo hb.h A (c.fr ρ :: L) s) (S : StB hb.h w (c.fr ρ :: L) s)
    (k : ∀ v s', IsPart v o → StB hb.h w (c.fr ρ :: L) s' → To (c.fr ρ :: L) s (c.fr ρ :: L) s' → Qc v s') : wpC (model prog w) A (evalPart x c.env) Qc E s := by
  cases x with
  | none => cases o with
    | none => exact wpC_evalPart_none (k _ _ .none S .refl)
    | some i => exact h.elim
  | some e => cases o with
    | none => exact h.elim
    | some i =>
      refine wpC_evalPart_some (PV.ev h (Q := fun b L' => b = .int i ∧ L' = L) ⟨rfl, rfl⟩ A s _ E rm fo S fun v b L' s' hq hv S' T' => ?_)
      obtain ⟨L'', rfl, rfl, rfl⟩ := hq
      obtain ⟨t, rfl⟩ := hv
      exact k _ _ (.int i t) S' T'
noncomputable def vpick (vs : List V) (lo hi : Option Int) : List V :=
  (sliceRange (sliceBounds lo hi none vs.length).1 (sliceBounds lo hi none vs.length).2.1 (sliceBounds lo hi none vs.length).2.2).filterMap (vs[·]?)
theorem vpick_is {vs : List V} {xs : Array Value} (h : AllIs vs xs.toList) (lo hi : Option Int) : AllIs (vpick vs lo hi) (slicePick xs lo hi none).toList := by
  unfold vpick slicePick
  rw [← Array.length_toList, ← h.length, List.toList_toArray]
  generalize sliceRange _ _ _ = l
  induction l with
  | nil => trivial
  | cons i l ih =>
    rw [List.filterMap_cons, List.filterMap_cons]
    cases q : vs[i]? with
    | none =>
      have : xs[i]? = none := by
        rw [← Array.getElem?_toList, List.getElem?_eq_none_iff, ← h.length]
        exact List.getElem?_eq_none_iff.mp q
      rw [this]; exact ih
    | some a =>
      obtain ⟨v, e, hv⟩ := h.arr q
      rw [e]; exact ⟨hv, ih⟩
inductive SliceP (hb : HB) (w : World) (prog : Program) (n : Nat) (c : FC) (ρ : List (Option V)) (lower upper : Option Expr) (Q : V → Led → Prop) (b : V) (L' : Led) : Prop
  | mk (a : Addr) (lo hi : Option Int) (i : Nat) (vs : List V) (h0 : b = .ref a) (h1 : PP hb w prog n c ρ L' lower lo) (h2 : PP hb w prog n c ρ L' upper hi) (h3 : At L' i (a, .list vs)) (h4 : vs.length < 2 ^ 20) (h5 : ∀ r, Q (.ref r) ((r, .list (vpick vs lo hi)) :: L')) : SliceP hb w prog n c ρ lower upper Q b L'
theorem EV.slice {value : Expr} {lower upper : Option Expr} {p pos : Pos} {Q : V → Led → Prop}
    (h : EV hb w prog n c ρ L value fun b L' => SliceP hb w prog n c ρ lower upper Q b L') : EV hb w prog n c ρ L (.Subscript value (.Slice lower upper none p) pos) Q := fun A s Qc E rm fo S K =>
  Subscript_C (h A s _ E rm fo S fun x b L' s₁ hq hx S₁ T₁ => by
    obtain ⟨L'', rfl, a, lo, hi, i, vs, rfl, hlo, hhi, hi', hlen, hq⟩ := hq
    cases hx
    refine wpC_Slice (hlo.wp rm (fo.to T₁) S₁ fun vl s₂ pl S₂ T₂ => hhi.wp rm (fo.to (T₁.trans T₂)) S₂ fun vu s₃ pu S₃ T₃ => wpC_evalPart_none ?_)
    obtain ⟨xs, hl, r⟩ := isList_at S₃ (At.tl (q := c.fr ρ) hi')
    have hsz : xs.size = vs.length := by rw [← Array.length_toList, ← r.length]
    have T := (T₁.trans T₂).trans T₃
    have k : ∀ x o, s₃.heap.get? x = some o → ((s₃.heap.push { cls := .type "slice", data := .fields #[vl, vu, .none] }).push { cls := .type "list", data := .seq (slicePick xs lo hi none) }).get? x = some o := fun x o e => Heap.get?_push_of_some _ (Heap.get?_push_of_some _ e)
    obtain ⟨S', T'⟩ := S₃.push (a := s₃.heap.objs.size + 1) (o := .list (vpick vs lo hi)) (tk := s₃.toks) k
      (fun b hb' => by simp only [feet, List.mem_singleton] at hb'; rw [hb']; exact Heap.get?_none_of_le (Nat.le_succ _)) (by simp [feet])
      ⟨_, 0, by have := Heap.get?_push_size (s₃.heap.push { cls := .type "slice", data := .fields #[vl, vu, .none] }) (o := { cls := .type "list", data := .seq (slicePick xs lo hi none) }) rfl; rw [Heap.size_push] at this; exact this, vpick_is r lo hi⟩
    refine anyC <| tail_any (ops := [.ref s₃.heap.objs.size, .ref a]) (Heap.IsList.typeIs (s := { s₃ with heap := s₃.heap.push { cls := .type "slice", data := .fields #[vl, vu, .none] } }) (hl.push _)) list_getitem_lookup
      (wpAny_getItem_list_slice (hl.push _) (Heap.IsSliceOf.new ..) pl pu .none (by simp) ?_ (by rw [hsz, sizeLine_eq]; lia)) (by with_unfolding_all rfl)
    have fin := K (.ref (s₃.heap.objs.size + 1)) (.ref _) _ _ ⟨_, rfl, hq (s₃.heap.objs.size + 1)⟩ rfl (S'.perm (.swap ..)) ((T.trans T').perm (.swap ..))
    show Qc (.ref (s₃.heap.push _).objs.size) _
    rw [Heap.size_push]
    exact fin)
theorem vpick_run {vs : List V} {a b : Nat} (h : a ≤ b) : vpick vs (some a) (some b) = (vs.drop a).take (b - a) := by
  unfold vpick
  have e : sliceBounds (some (a : Int)) (some (b : Int)) none vs.length = (((min a vs.length : Nat) : Int), ((min b vs.length : Nat) : Int), 1) := by
    simp only [sliceBounds, Option.getD_none]
    have h1 : ¬ ((a : Int) < 0) := by lia
    have h2 : ¬ ((b : Int) < 0) := by lia
    simp only [h1, h2, if_false, show (1 : Int) > 0 by decide, if_true]
    congr 1
    · omega
    · congr 1; omega
  rw [e]
  dsimp only
  rw [sliceRange_one]
  have := pick_run vs.toArray (min a vs.length) (min b vs.length - min a vs.length)
  simp only [List.getElem?_toArray] at this
  rw [this]
  by_cases q : a ≤ vs.length
  · rw [Nat.min_eq_left q]
    by_cases q2 : b ≤ vs.length
    · rw [Nat.min_eq_left q2]
    · rw [Nat.min_eq_right (by lia), List.take_of_length_le (by simp), List.take_of_length_le (by simp; lia)]
  · rw [Nat.min_eq_right (a := b) (by lia), Nat.min_eq_right (a := a) (by lia), List.drop_eq_nil_of_le (Nat.le_refl _), List.drop_eq_nil_of_le (by omega)]; simp
theorem vpick_upto {vs : List V} {b : Nat} : vpick vs none (some b) = vs.take b := by
  have : vpick vs none (some (b : Int)) = vpick vs (some (0 : Nat)) (some (b : Int)) := by
    unfold vpick
    congr 2
  rw [this, vpick_run (Nat.zero_le b)]; simp
theorem vpick_from {vs : List V} {a : Nat} : vpick vs (some a) none = vs.drop a := by
  by_cases q : a ≤ vs.length
  · have : vpick vs (some (a : Int)) none = vpick vs (some (a : Int)) (some (vs.length : Nat)) := by
      unfold vpick sliceBounds
      simp only [Option.getD_none, show (1 : Int) > 0 by decide, if_true]
      congr 2
      have h2 : ¬ ((vs.length : Int) < 0) := by lia
      simp only [h2, if_false]
      lia
    rw [this, vpick_run q, List.take_of_length_le (by simp)]
  · rw [List.drop_eq_nil_of_le (by lia)]
    unfold vpick
    have e : sliceBounds (some (a : Int)) none none vs.length = (((min a vs.length : Nat) : Int), ((vs.length : Nat) : Int), 1) := by
      simp only [sliceBounds, Option.getD_none]
      have h1 : ¬ ((a : Int) < 0) := by lia
      simp only [h1, if_false, show (1 : Int) > 0 by decide, if_true]
      congr 1; omega
    rw [e]
    dsimp only
    rw [sliceRange_one, show vs.length - min a vs.length = 0 by omega]; rfl
theorem vpick_all {vs : List V} : vpick vs none none = vs := by
  have : vpick vs none none = vpick vs (some (0 : Nat)) none := by
    unfold vpick
    congr 2
  rw [this, vpick_from]; rfl
theorem EX.addList {a b : Addr} {i j : Nat} {vs ws : List V} {x y : Value} {Q : V → Led → Prop} (hx : (V.ref a).Is x) (hy : (V.ref b).Is y) (hi : At L i (a, .list vs)) (hj : At L j (b, .list ws)) (hf : vs.length + ws.length < 2 ^ 20)
    (q : ∀ r, Q (.ref r) ((r, .list (vs ++ ws)) :: L)) : EX hb w prog n c ρ L (binaryOp .Add x y) Q := by
  cases hx; cases hy
  refine AC.shuffle (AC.fresh (o := .list (vs ++ ws)) (fun _ => rfl) (fun A s Qc E rm fo S k => ?_) fun r => ⟨_, .swap .., _, rfl, q r⟩)
  obtain ⟨xs, hl, r⟩ := isList_at S (At.tl (q := c.fr ρ) hi)
  obtain ⟨ys, hl', r'⟩ := isList_at S (At.tl (q := c.fr ρ) hj)
  have e := r.length
  have e' := r'.length
  obtain ⟨⟨cls, dd, data, sl⟩, ho, hc, n1, hd⟩ := id hl
  obtain ⟨⟨cls2, dd2, data2, sl2⟩, ho2, hc2, n2, hd2⟩ := id hl'
  simp only at hc hd hc2 hd2
  subst hc hd hc2 hd2
  refine concat_meets ⟨_, ho, rfl⟩ ⟨_, ho2, rfl⟩ noFill_list_add seq_list_add PySem.F.slot_list_add PySem.F.entry_list_add (PySem.F.args_list_add_2 _ _) (list_addW a b xs ys n1 n2 dd dd2 sl sl2 (by rw [sizeLine_eq, ← Array.length_toList, ← Array.length_toList]; lia)) ⟨ho, ho2, ?_⟩
  exact k _ _ _ (Heap.get?_none_of_le (Nat.le_refl _)) (fun x o e => Heap.get?_push_of_some _ e) ⟨_, 0, Heap.get?_push_size _ rfl, by rw [Array.toList_append]; exact r.append r'⟩
end
end
section
section
variable {hb : HB} {w : World} {prog : Program} {n : Nat} {c : FC} {ρ : List (Option V)} {L M : Led}
theorem Itr.range {it : Addr} {lo : Int} {len : Nat} : Itr hb w prog it len (fun i => .int (lo + i)) (fun _ => True) (fun i h => IsRangeIter h it (lo + i) ((len : Int) - i) 1) where
  frame := fun i h h' e k => k _ e
  live := fun i h e => ⟨_, e, fun ⟨es, ep, q⟩ => by cases q⟩
  item := fun i A s L E Qc hi hn S hf hh st k => by
    refine wpAny_pyNext_range_item st (by lia) fun h' st' sb => k _ h' (s.toks + 1) ⟨_, rfl⟩ ?_ fun b o hb' e => (sb.2 b hb').trans e
    have e1 : lo + (i : Int) + 1 = lo + ((i + 1 : Nat) : Int) := by lia
    have e2 : (len : Int) - i - 1 = (len : Int) - ((i + 1 : Nat) : Int) := by lia
    rw [← e1, ← e2]; exact st'
  done := fun A s L E Qc hn S hf hh st k => wpAny_pyNext_range_end hh st (by lia) fun h' eb => k h' s.toks fun b o hb' e => eb b o hb' e
noncomputable def rlen (lo hi : Int) : Nat := (hi - lo).toNat
theorem rangeSize_rlen (lo hi : Int) : Builtin.Range.rangeSize lo hi 1 = (rlen lo hi : Int) := by
  rw [rangeSize_one]; unfold rlen; split <;> lia
theorem range_small {lo hi : Int} (h1 : -(2 ^ 40) ≤ lo) (h2 : lo ≤ 2 ^ 40) (h3 : -(2 ^ 40) ≤ hi) (h4 : hi ≤ 2 ^ 40) : Builtin.Range.small lo hi 1 = true := by
  unfold Builtin.Range.small
  rw [rangeSize_rlen]
  have : (rlen lo hi : Int) ≤ 2 ^ 42 := by unfold rlen; lia
  simp only [Builtin.Range.rangeFitsLong, Bool.and_eq_true, decide_eq_true_eq, Bool.or_eq_true, show (1 : Int) > 0 by decide, if_true]
  omega
inductive ForR (hb : HB) (w : World) (prog : Program) (n : Nat) (c : FC) (ρ : List (Option V)) (ix : Nat) (body rest : List Stmt) (Q : FlowA → List (Option V) → Led → Prop) (b : V) (L₀ : Led) : Prop
  | mk (r : Addr) (j : Nat) (lo hi : Int) (I : Nat → List (Option V) → Led → Prop) (h0 : b = .ref r) (h1 : At L₀ j (r, .rng lo hi)) (h2 : (-(2 ^ 40) ≤ lo ∧ lo ≤ 2 ^ 40 ∧ -(2 ^ 40) ≤ hi ∧ hi ≤ 2 ^ 40)) (h3 : I 0 ρ L₀) (h4 : (∀ k ρ' L', k < rlen lo hi → I k ρ' L' → SV hb w prog n c (ρ'.set ix (some (.int (lo + k)))) L' body fun f ρ'' L'' => match f with
        | .nxt | .cnt => I (k + 1) ρ'' L''
        | .brk => SV hb w prog n c ρ'' L'' rest Q
        | .ret v => Q (.ret v) ρ'' L'')) (h5 : (∀ ρ' L', I (rlen lo hi) ρ' L' → SV hb w prog n c ρ' L' rest Q)) : ForR hb w prog n c ρ ix body rest Q b L₀
theorem SV.forRange {x : Str} {ix : Nat} {px pos : Pos} {iter : Expr} {body rest : List Stmt} {Q : FlowA → List (Option V) → Led → Prop} (ok : FOk c) (hx : c.nm.l[ix]? = some x)
    (h : EV hb w prog n c ρ L iter fun b L₀ => ForR hb w prog n c ρ ix body rest Q b L₀)
    (hs : ∀ x, foldedSetIterable iter c.env x = pure x := by intro _; rfl) : SV hb w prog n c ρ L (.For (.Name x px) iter body [] pos :: rest) Q :=
  SV.cons fun A s Qc E rm fo S K => wpC_For (h A s _ E rm fo S fun xv b L₁ s₁ hq hr S₁ T₁ => by
    obtain ⟨L₀, rfl, r, j, lo, hi, I, rfl, hj, ⟨b1, b2, b3, b4⟩, h0, turn, fin⟩ := hq
    cases hr
    obtain ⟨t, u, v, hr⟩ := S₁.rel _ (At.tl (q := c.fr ρ) hj).mem
    refine anyC (wpAny_pyIter_range hr (range_small b1 b2 b3 b4) ?_)
    have hit : s₁.heap.get? s₁.heap.objs.size = none := Heap.get?_none_of_le (Nat.le_refl _)
    have k : ∀ b o, b ≠ s₁.heap.objs.size → s₁.heap.get? b = some o → (s₁.heap.push { cls := .type "range_iterator", data := .fields #[rawInt lo, rawInt (Builtin.Range.rangeSize lo hi 1), rawInt 1] }).get? b = some o := fun b o _ e => Heap.get?_push_of_some _ e
    have hif : s₁.heap.objs.size ∉ foot (c.fr ρ :: L₀) := fun q => by obtain ⟨o, e⟩ := S₁.live q; rw [hit] at e; cases e
    refine forLoop_core (Itr.range (lo := lo) (len := rlen lo hi)) ok hx I h0 (fun _ _ _ _ => trivial) turn fin rm (fo.to T₁) S₁ hit (S₁.skip (tk := s₁.toks) (S₁.fresh hit) hif k) (To.refl.skip hit k) ?_
      fun a f L' s' hq hr S' T' => K a f L' s' hq hr S' (T₁.trans T')
    have := Heap.get?_push_size s₁.heap (o := { cls := .type "range_iterator", data := .fields #[rawInt lo, rawInt (Builtin.Range.rangeSize lo hi 1), rawInt 1] }) rfl
    rw [rangeSize_rlen] at this
    show IsRangeIter _ _ _ _ _
    simp only [Int.natCast_zero, Int.add_zero, Int.sub_zero] at *
    rw [rangeSize_rlen]
    exact this) hs
inductive AppP (a : Addr) (Q : V → Led → Prop) (b : V) (L' : Led) : Prop
  | mk (j : Nat) (ws : List V) (h0 : At L' j (a, .list ws)) (h1 : ws.length < 2 ^ 20) (h2 : Q .none (L'.set j (a, .list (ws ++ [b])))) : AppP a Q b L'
theorem EV.append {o e : Expr} {apos pos : Pos} {a : Addr} {i : Nat} {vs : List V} {pl : Sem Bool} {Q : V → Led → Prop} (ho : PV hb w prog n c ρ L o (.ref a)) (hi : At L i (a, .list vs))
    (h : EV hb w prog n c ρ L e fun b L' => AppP a Q b L')
    (hm : MethOk o "append" apos pos [e] c.env pl := by rfl) (he : starEach [e] c.env = (false, eval e c.env) :: starEach [] c.env := by rfl) :
    EV hb w prog n c ρ L (.Call (.Attribute o "append" apos) [e] [] pos) Q := by
  unfold EV
  intro A s Qc E rm fo S K
  refine methodCall_C (pl := pl) (ho (fun b L' => b = .ref a ∧ L' = L) ⟨rfl, rfl⟩ A s _ E rm fo S fun ov b L₁ s₁ hq hr S₁ T₁ => ?_) hm
  obtain ⟨L₂, rfl, rfl, rfl⟩ := hq
  cases hr
  obtain ⟨xs, m, hg, r⟩ := S₁.rel _ (At.tl (q := c.fr ρ) hi).mem
  refine anyC (Calls.getMethod_list_append hg rfl rfl ?_)
  rw [he]
  refine callWith_builtinC rfl (evalArgs_plainC ?_)
  have h := (AV.cons (pos := pos) (rest := []) (Q := fun vs L' => ∃ b, vs = [b] ∧ AppP a Q b L') (AC.mono h fun b L' ⟨L'', e, q⟩ => ⟨L'', e, AV.nil ⟨b, rfl, q⟩⟩) he) A s₁ (fun vs s' => wpC (model prog w) A (PySem.call (.builtin "list.append") ([.ref a] ++ vs) []) Qc E s') E rm (fo.to T₁) S₁
  rw [he] at h
  refine h fun xs bs L₃ s₂ hq hxs S₂ T₂ => ?_
  obtain ⟨L₄, rfl, b, rfl, j, ws, hj, hlen, hq⟩ := hq
  have T := T₁.trans T₂
  exact EX.cx (xs := .ref a :: xs) (vs := [.ref a, b]) ⟨rfl, hxs⟩ (CX.append (At.tl (q := c.fr ρ) hj) hlen ⟨L₄.set j (a, .list (ws ++ [b])), .refl _, hq⟩) A s₂ Qc E rm (fo.to T) S₂ fun a b L₃ s₃ q hr S₃ T₃ => K a b L₃ s₃ q hr S₃ (T.trans T₃)
end
end
section
noncomputable def csOk (sc : Scope) (nm : List Str) (gl : List (Str × V)) : Bool :=
  ndB nm && nm.all (fun x => sc.names.lookup x == some .local && !(x == ("__debug__" : Str))) &&
  gl.all (fun x => sc.names.lookup x.1 == some .globalImplicit && !(x.1 == ("__debug__" : Str))) &&
  (sc.kind == .function) && sc.names.all (fun x => !(x.2 == .cell) && (!(x.2 == .local) || sc.names.lookup x.1 == some .local))
structure CSOk (sc : Scope) (nm : List Str) (gl : List (Str × V)) : Prop where
  nd : nm.Nodup
  loc : ∀ x ∈ nm, sc.names.lookup x = some .local ∧ (x == ("__debug__" : Str)) = false
  glo : ∀ p ∈ gl, sc.names.lookup p.1 = some .globalImplicit ∧ (p.1 == ("__debug__" : Str)) = false
  kind : sc.kind = .function
  cell : ∀ x ∈ sc.names, x.2 ≠ .cell
  names : ∀ x ∈ sc.names, x.2 = .local → sc.names.lookup x.1 = some .local
theorem CSOk.of {sc : Scope} {nm : List Str} {gl : List (Str × V)} (h : csOk sc nm gl = true) : CSOk sc nm gl := by
  simp only [csOk, Bool.and_eq_true, Bool.not_eq_true', List.all_eq_true, beq_iff_eq, beq_eq_false_iff_ne, Bool.or_eq_true] at h
  obtain ⟨⟨⟨⟨h1, h2⟩, h3⟩, h4⟩, h5⟩ := h
  refine ⟨nd_of h1, fun x hx => ⟨(h2 x hx).1, ?_⟩, fun x hx => ⟨(h3 x hx).1, ?_⟩, h4, fun x hx => (h5 x hx).1, fun x hx q => ?_⟩
  · exact beq_eq_false_iff_ne.mpr (h2 x hx).2
  · exact beq_eq_false_iff_ne.mpr (h3 x hx).2
  · rcases (h5 x hx).2 with r | r
    · exact absurd q r
    · exact r
theorem relabel_keeps {env : Env} {k : NameKind} (hk : k ≠ .free) : ∀ {names : List (Str × NameKind)} {x : Str}, names.lookup x = some k →
    (names.map fun (n, k) => if (k == NameKind.free && env.scope.kind == .function && env.kindOf n == some .cell) then (n, NameKind.cell) else (n, k)).lookup x = some k
  | [], _, h => by simp at h
  | (n, j) :: r, x, h => by
    rw [List.map_cons]
    rw [List.lookup_cons] at h
    by_cases q : x == n
    · rw [q] at h
      obtain rfl : j = k := Option.some.inj h
      have : (j == NameKind.free) = false := by simpa using hk
      simp only [this, Bool.false_and, Bool.false_eq_true, if_false, List.lookup_cons, q]
    · have q' : (x == n) = false := by simpa using q
      rw [q'] at h
      have ih := relabel_keeps (env := env) hk h
      dsimp only
      split <;> (rw [List.lookup_cons]; simp only [q']; exact ih)
@[reducible] noncomputable def FC.comp (c : FC) (sc : Scope) (nm : List Str) (nd : nm.Nodup) (gl : List (Str × V)) (cl : List (Str × Addr)) (C : Addr) : FC := ⟨compEnvC sc cl C c.env, ⟨nm, nd⟩, gl⟩
theorem CSOk.fok {c : FC} {sc : Scope} {nm : List Str} {gl : List (Str × V)} (h : CSOk sc nm gl) (ok : FOk c) (gv : ∀ p ∈ gl, GV p.1 p.2) (cl : List (Str × Addr)) (C : Addr) : FOk (c.comp sc nm h.nd gl cl C) where
  kind := h.kind
  glo := ok.glo
  bui := ok.bui
  loc := fun x hx => ⟨relabel_keeps (by decide) (h.loc x hx).1, (h.loc x hx).2⟩
  glob := fun p hp => ⟨relabel_keeps (by decide) (h.glo p hp).1, (h.glo p hp).2, gv p hp⟩
section
variable {hb : HB} {w : World} {prog : Program} {n : Nat} {c : FC} {ρ : List (Option V)} {L M : Led}
noncomputable def CTurn (hb : HB) (w : World) (prog : Program) (n : Nat) (cc : FC) (ρc : List (Option V)) (Lx : Led) (ifs : List Expr) (elt : Expr) (Qe : V → Led → Prop) (Qs : Led → Prop) : Prop := match ifs with
  | [] => EV hb w prog n cc ρc Lx elt Qe
  | [t] => TV hb w prog n cc ρc Lx t fun b L'' => if b then EV hb w prog n cc ρc L'' elt Qe else Qs L''
  | _ => False
theorem compLoop_core {cc : FC} {it acc : Addr} {len : Nat} {item : Nat → V} {need : Led → Prop} {St : Nat → Heap → Prop} (W : Itr hb w prog it len item need St) (ok : FOk cc) {x : Str} {px : Pos} {ix : Nat} {elt iter : Expr} {ifs : List Expr} {sc : Scope} {pos : Pos}
    (hx : cc.nm.l[ix]? = some x) (hlen : len < 2 ^ 20) (I : Nat → List V → Led → Prop)
    (hI : ∀ k ws L', I k ws L' → ws.length ≤ k) (hneed : ∀ (k : Nat) (ws : List V) (L' : Led) (ρc : List (Option V)), I k ws L' → need (cc.fr ρc :: (acc, .list ws) :: L'))
    (turn : ∀ (k : Nat) (ws : List V) (L' : Led) (ρc : List (Option V)), ρc.length = cc.nm.l.length → k < len → I k ws L' → CTurn hb w prog n cc (ρc.set ix (some (item k))) ((acc, .list ws) :: L') ifs elt
      (fun b L'' => ∃ L₃, L''.Perm ((acc, .list ws) :: L₃) ∧ I (k + 1) (ws ++ [b]) L₃) (fun L'' => ∃ L₃, L''.Perm ((acc, .list ws) :: L₃) ∧ I (k + 1) ws L₃))
    {ρ₀ : List (Option V)} {ws₀ : List V} {L₀ : Led} (hρ : ρ₀.length = cc.nm.l.length) (h0 : I 0 ws₀ L₀)
    {A : Around} {s₁ : Shared} {L : Led} {s : Shared} {R : Result → Shared → Prop} (rm : Rm hb.top A n) (fo : Fo hb.h A L s) (hit : s.heap.get? it = none) (hitb : hb.h.get? it = none)
    (S₁ : StB hb.h w (cc.fr ρ₀ :: (acc, .list ws₀) :: L₀) s₁) (T₁ : To L s (cc.fr ρ₀ :: (acc, .list ws₀) :: L₀) s₁) (hif : it ∉ foot (cc.fr ρ₀ :: (acc, .list ws₀) :: L₀)) (st : St 0 s₁.heap)
    (K : ∀ ρ' ws' L' s', I len ws' L' → StB hb.h w (cc.fr ρ' :: (acc, .list ws') :: L') s' → To L s (cc.fr ρ' :: (acc, .list ws') :: L') s' → R (.ok .next) s') :
    codeC (model prog w) A (.compLoop (.ListComp elt [⟨.Name x px, iter, ifs, 0⟩] sc pos) 0 (.ref it) (.ref acc) cc.env) R s₁ := by
  refine codeC_compLoop (fun k s' => ∃ i ρ' ws L', ρ'.length = cc.nm.l.length ∧ k = len + 1 - i ∧ i ≤ len ∧ I i ws L' ∧ StB hb.h w (cc.fr ρ' :: (acc, .list ws) :: L') s' ∧ To L s (cc.fr ρ' :: (acc, .list ws) :: L') s' ∧ it ∉ foot (cc.fr ρ' :: (acc, .list ws) :: L') ∧ St i s'.heap)
    (fun k s' hI' => ?_) (len + 1) ⟨0, ρ₀, ws₀, L₀, hρ, rfl, Nat.zero_le _, h0, S₁, T₁, hif, st⟩
  obtain ⟨i, ρ', ws, L', hlρ, rfl, hi, hI', S', T', hf, st'⟩ := hI'
  have hn := hneed _ _ _ ρ' hI'
  by_cases q : i < len
  · refine anyC <| W.item i A s' _ _ _ q hn S' hf rm.hh st' fun v h' tk hv st₂ k => ?_
    have S₂ := S'.skip (tk := tk) hitb hf k
    have T₂ := T'.skip (tk := tk) hit k
    have tr := turn i ws L' ρ' hlρ q hI'
    refine wpC_assign_Name (anyC <| store_local ok S₂ hx hv fun s₃ S₃ T₃ => ?_)
    have T₃' := T₂.trans T₃
    have hif₃ : it ∉ foot (cc.fr (ρ'.set ix (some (item i))) :: (acc, .list ws) :: L') := hf
    have st₃ : St (i + 1) s₃.heap := W.frame _ _ _ st₂ fun o e => T₃.keepN hf e (W.nd st₂ e)
    have wl := hI _ _ _ hI'
    have keepIt : ∀ {Lb : Led} {s₄ : Shared}, To (cc.fr (ρ'.set ix (some (item i))) :: (acc, .list ws) :: L') s₃ Lb s₄ → it ∉ foot Lb ∧ St (i + 1) s₄.heap := fun {Lb s₄} T₄ => by
      refine ⟨fun q => ?_, W.frame _ _ _ st₃ fun o e => T₄.keepN hif₃ e (W.nd st₃ e)⟩
      rcases T₄.new it q with q | q
      · exact hif₃ q
      · obtain ⟨o, e, _⟩ := W.live _ _ st₃; rw [q] at e; cases e
    have skip : ∀ {L₄ : Led} {s₄ : Shared}, (∃ L₃, L₄.Perm ((acc, .list ws) :: L₃) ∧ I (i + 1) ws L₃) → StB hb.h w (cc.fr (ρ'.set ix (some (item i))) :: L₄) s₄ → To (cc.fr (ρ'.set ix (some (item i))) :: (acc, .list ws) :: L') s₃ (cc.fr (ρ'.set ix (some (item i))) :: L₄) s₄ →
        ∃ m, m < len + 1 - i ∧ ∃ i' ρ' ws L', ρ'.length = cc.nm.l.length ∧ m = len + 1 - i' ∧ i' ≤ len ∧ I i' ws L' ∧ StB hb.h w (cc.fr ρ' :: (acc, .list ws) :: L') s₄ ∧ To L s (cc.fr ρ' :: (acc, .list ws) :: L') s₄ ∧ it ∉ foot (cc.fr ρ' :: (acc, .list ws) :: L') ∧ St i' s₄.heap := by
      rintro L₄ s₄ ⟨L₃, p, hI₃⟩ S₄ T₄
      have p' := p.cons (cc.fr (ρ'.set ix (some (item i))))
      obtain ⟨a, b⟩ := keepIt (T₄.perm p')
      exact ⟨len + 1 - (i + 1), by lia, i + 1, _, ws, L₃, by rw [List.length_set]; exact hlρ, rfl, q, hI₃, S₄.perm p', T₃'.trans (T₄.perm p'), a, b⟩
    have take : ∀ {E : Value → Shared → Prop} {L₄ : Led} {s₄ : Shared} {y : Value} {b : V}, (∃ L₃, L₄.Perm ((acc, .list ws) :: L₃) ∧ I (i + 1) (ws ++ [b]) L₃) → b.Is y → StB hb.h w (cc.fr (ρ'.set ix (some (item i))) :: L₄) s₄ → To (cc.fr (ρ'.set ix (some (item i))) :: (acc, .list ws) :: L') s₃ (cc.fr (ρ'.set ix (some (item i))) :: L₄) s₄ →
        wpC (model prog w) A (PySem.call (.builtin "list.append") [.ref acc, y]) (fun _ s₅ => ∃ m, m < len + 1 - i ∧ ∃ i' ρ' ws L', ρ'.length = cc.nm.l.length ∧ m = len + 1 - i' ∧ i' ≤ len ∧ I i' ws L' ∧ StB hb.h w (cc.fr ρ' :: (acc, .list ws) :: L') s₅ ∧ To L s (cc.fr ρ' :: (acc, .list ws) :: L') s₅ ∧ it ∉ foot (cc.fr ρ' :: (acc, .list ws) :: L') ∧ St i' s₅.heap) E s₄ := by
      rintro E L₄ s₄ y b ⟨L₃, p, hI₃⟩ hy S₄ T₄
      have p' := p.cons (cc.fr (ρ'.set ix (some (item i))))
      have S₄' := S₄.perm p'
      have T₄' := T₄.perm p'
      refine CX.append (n := n) (i := 1) (a := acc) (vs := ws) (b := b) (Q := fun r M => r = .none ∧ M = cc.fr (ρ'.set ix (some (item i))) :: (acc, .list (ws ++ [b])) :: L₃) rfl (by lia) ⟨rfl, rfl⟩ [.ref acc, y] ⟨rfl, hy, trivial⟩ A s₄ _ E rm (fo.to (T₃'.trans T₄')) S₄' fun z r L₅ s₅ hq hz S₅ T₅ => ?_
      obtain ⟨rfl, rfl⟩ := hq
      obtain ⟨a, b'⟩ := keepIt (T₄'.trans T₅)
      exact ⟨len + 1 - (i + 1), by omega, i + 1, _, ws ++ [b], L₃, by rw [List.length_set]; exact hlρ, rfl, q, hI₃, S₅, T₃'.trans (T₄'.trans T₅), a, b'⟩
    match ifs, tr with
    | [], tr =>
      rw [List.forIn_nil]
      refine wpC_pure ?_
      rw [if_pos rfl]
      exact tr A s₃ _ _ rm (fo.to T₃') S₃ fun y b L₄ s₄ hq hy S₄ T₄ => by
        obtain ⟨L₅, rfl, hq⟩ := hq
        exact take hq hy S₄ T₄
    | [t], tr =>
      rw [List.forIn_cons, if_pos rfl]
      refine wpC_bind (wpC_bind (tr A s₃ _ _ rm (fo.to T₃') S₃ fun a b L₄ s₄ hq hy S₄ T₄ => ?_))
      obtain ⟨L₅, rfl, hq⟩ := hq
      cases hy
      refine wpC_pure ?_
      show wpC _ _ (forIn [] a _) _ _ _
      rw [List.forIn_nil]
      refine wpC_pure ?_
      cases a with
      | false => rw [if_neg (by decide)]; exact skip hq S₄ T₄
      | true =>
        rw [if_pos rfl]
        exact hq A s₄ _ _ rm (fo.to (T₃'.trans T₄)) S₄ fun y b L₆ s₅ hq hy S₅ T₅ => by
          obtain ⟨L₇, rfl, hq⟩ := hq
          exact take hq hy S₅ (T₄.trans T₅)
  · obtain rfl : i = len := by lia
    exact anyC <| W.done A s' _ _ _ hn S' hf rm.hh st' fun h' tk k => K ρ' ws L' _ hI' (S'.skip hitb hf k) (T'.skip hit k)
end
end
section
noncomputable def Src (hb : HB) (w : World) (prog : Program) (b : V) (L : Led) (len : Nat) (item : Nat → V) (need : Led → Prop) : Prop :=
  ∀ (xv : Value) (A : Around) (s : Shared) (E : Value → Shared → Prop) (Qc : Value → Shared → Prop), b.Is xv → StB hb.h w L s → A.handled = none →
    (∀ it St h', s.heap.get? it = none → (∀ x o, s.heap.get? x = some o → h'.get? x = some o) → Itr hb w prog it len item need St → St 0 h' →
      (∀ (s' : Shared) (E : Value → Shared → Prop) (Qc : Value → Shared → Prop), St 0 s'.heap → Qc (.ref it) s' → wpAny (model prog w) A (pyIter (.ref it)) Qc E s') → Qc (.ref it) { s with heap := h' }) →
    wpAny (model prog w) A (pyIter xv) Qc E s
section
variable {hb : HB} {w : World} {prog : Program} {n : Nat} {c : FC} {ρ : List (Option V)} {L M : Led}
theorem Src.list {i : Nat} {l : Addr} {vs : List V} (hi : At L i (l, .list vs)) : Src hb w prog (.ref l) L vs.length (fun i => vs.getD i .none) (fun L => ∃ j, At L j (l, .list vs)) := fun xv A s E Qc hx S hh k => by
  cases hx
  obtain ⟨xs, hl, _⟩ := isList_at S hi
  refine wpAny_pyIter_list hl (k _ (fun i h => h.IsListIter s.heap.objs.size l i) _ (Heap.get?_none_of_le (Nat.le_refl _)) (fun x o e => Heap.get?_push_of_some _ e) Itr.list ⟨_, Heap.get?_push_size _ rfl, rfl, rfl⟩ fun s' E Qc st q => wpAny_pyIter_listiter st q)
theorem Src.range {i : Nat} {r : Addr} {lo hi : Int} (hi' : At L i (r, .rng lo hi)) (hb' : -(2 ^ 40) ≤ lo ∧ lo ≤ 2 ^ 40 ∧ -(2 ^ 40) ≤ hi ∧ hi ≤ 2 ^ 40) : Src hb w prog (.ref r) L (rlen lo hi) (fun i => .int (lo + i)) (fun _ => True) := fun xv A s E Qc hx S hh k => by
  cases hx
  obtain ⟨t, u, v, hr⟩ := S.rel _ hi'.mem
  refine wpAny_pyIter_range hr (range_small hb'.1 hb'.2.1 hb'.2.2.1 hb'.2.2.2) (k _ (fun i h => IsRangeIter h s.heap.objs.size (lo + i) ((rlen lo hi : Int) - i) 1) _ (Heap.get?_none_of_le (Nat.le_refl _)) (fun x o e => Heap.get?_push_of_some _ e) Itr.range ?_ fun s' E Qc st q => wpAny_pyIter_rangeiter st q)
  have := Heap.get?_push_size s.heap (o := { cls := .type "range_iterator", data := .fields #[rawInt lo, rawInt (Builtin.Range.rangeSize lo hi 1), rawInt 1] }) rfl
  show IsRangeIter _ _ _ _ _
  simp only [Int.natCast_zero, Int.add_zero, Int.sub_zero] at *
  rw [rangeSize_rlen]
  rw [rangeSize_rlen] at this
  exact this
theorem Itr.tuple {it l : Addr} {vs : List V} : Itr hb w prog it vs.length (fun i => vs.getD i .none) (fun L => ∃ j, At L j (l, .tup vs)) (fun i h => h.IsTupleIter it l i) where
  frame := fun i h h' st k => st.at k
  live := fun i h ⟨o, e, _, hd⟩ => ⟨o, e, fun ⟨es, ep, q⟩ => by rw [hd] at q; cases q⟩
  item := fun i A s L E Qc hi hn S hf hh st k => by
    obtain ⟨j, hj⟩ := hn
    obtain ⟨xs, m, e, r⟩ := isTup_at S hj
    obtain ⟨v, e', hv⟩ := r.arr (i := i) (a := vs.getD i .none) (by rw [List.getD_eq_getElem?_getD, List.getElem?_eq_getElem hi]; rfl)
    exact wpAny_pyNext_tuple_item st ⟨_, e, rfl, m, rfl⟩ e' fun h' st' sb => k v h' s.toks hv st' fun b o hb' e => (sb.2 b hb').trans e
  done := fun A s L E Qc hn S hf hh st k => by
    obtain ⟨j, hj⟩ := hn
    obtain ⟨xs, m, e, r⟩ := isTup_at S hj
    exact wpAny_pyNext_tuple_end hh st ⟨_, e, rfl, m, rfl⟩ (by rw [Array.getElem?_eq_none]; rw [← Array.length_toList, ← r.length]; exact Nat.le_refl _) fun h' eb => k h' s.toks fun b o hb' e => eb b o hb' e
theorem Src.tuple {i : Nat} {l : Addr} {vs : List V} (hi : At L i (l, .tup vs)) : Src hb w prog (.ref l) L vs.length (fun i => vs.getD i .none) (fun L => ∃ j, At L j (l, .tup vs)) := fun xv A s E Qc hx S hh k => by
  cases hx
  obtain ⟨xs, m, e, r⟩ := isTup_at S hi
  refine wpAny_pyIter_tuple ⟨_, e, rfl, m, rfl⟩ (k _ (fun i h => h.IsTupleIter s.heap.objs.size l i) _ (Heap.get?_none_of_le (Nat.le_refl _)) (fun x o e => Heap.get?_push_of_some _ e) Itr.tuple ⟨_, Heap.get?_push_size _ rfl, rfl, rfl⟩ fun s' E Qc st q => wpAny_pyIter_tupleiter st q)
theorem comp_block {sc : Scope} {nm : List Str} {gl : List (Str × V)} (cs : CSOk sc nm gl) (cl : List (Str × Addr)) (ok : FOk c) (gv : ∀ p ∈ gl, GV p.1 p.2) {x : Str} {px : Pos} {ix : Nat} {elt iter : Expr} {ifs : List Expr} {pos : Pos} (hx : nm[ix]? = some x)
    {b : V} {len : Nat} {item : Nat → V} {need : Led → Prop} (src : Src hb w prog b (c.fr ρ :: L) len item need) (hlen : len < 2 ^ 20) (I : Nat → List V → Led → Prop) (h0 : I 0 [] L) (hI : ∀ k ws L', I k ws L' → ws.length ≤ k)
    (hneed : ∀ k ws L' C ρc acc, I k ws L' → need ((c.comp sc nm cs.nd gl cl C).fr ρc :: (acc, .list ws) :: c.fr ρ :: L'))
    (turn : ∀ (k : Nat) (ws : List V) (L' : Led) (ρc : List (Option V)) (C acc : Addr), ρc.length = nm.length → k < len → I k ws L' → CTurn hb w prog n (c.comp sc nm cs.nd gl cl C) (ρc.set ix (some (item k))) ((acc, .list ws) :: c.fr ρ :: L') ifs elt
      (fun b L'' => ∃ L₃, L''.Perm ((acc, .list ws) :: c.fr ρ :: L₃) ∧ I (k + 1) (ws ++ [b]) L₃) (fun L'' => ∃ L₃, L''.Perm ((acc, .list ws) :: c.fr ρ :: L₃) ∧ I (k + 1) ws L₃))
    {A : Around} {s : Shared} {E : Value → Shared → Prop} {xv : Value} {RR : Value → Env → Result → Shared → Prop} (hxv : b.Is xv) (rm : Rm hb.top A n) (fo : Fo hb.h A (c.fr ρ :: L) s) (S : StB hb.h w (c.fr ρ :: L) s)
    (K : ∀ acc C ws' L' s', I len ws' L' → s.heap.get? C = none → (∃ m, s'.heap.Ns C m) → C ∉ foot ((acc, .list ws') :: c.fr ρ :: L') → StB hb.h w ((acc, .list ws') :: c.fr ρ :: L') s' → To (c.fr ρ :: L) s ((acc, .list ws') :: c.fr ρ :: L') s' → RR (.ref acc) (compEnvC sc cl C c.env) (.ok .next) s') :
    wpC (model prog w) A (pyIter xv) (fun it s₂ => wpC (model prog w) A (newList []) (fun acc s₃ =>
      wpC (model prog w) A (newFunctionEnv sc c.env.globals cl [] c.env.qual none .none (some c.env)) (fun cenv s₄ =>
        codeC (model prog w) A (.compStart (.ListComp elt [⟨.Name x px, iter, ifs, 0⟩] sc pos) 0 it acc { cenv with scope := relabel sc c.env }) (RR acc { cenv with scope := relabel sc c.env }) s₄) E s₃) E s₂) E s := by
  refine anyC <| src xv A s _ _ hxv S rm.hh fun it St h' hit k₁ W st self => ?_
  refine anyC <| wpAny_newObj_type (anyC <| wpAny_newFunctionEnv cs.cell (by intro y hy; simp at hy) (fun h₁ hns₁ hsb₁ => ?_) cs.kind) (by size_fits)
  dsimp only at hns₁ hsb₁ ⊢
  generalize hH2 : h'.push { cls := .type "list", dict := none, data := .seq ([] : List Value).toArray } = H2 at hns₁ hsb₁ ⊢
  have hC : H2.objs.size = h'.objs.size + 1 := by rw [← hH2, Heap.size_push]
  have nI : ∀ x o, s.heap.get? x = some o → x < h'.objs.size := fun x o e => Heap.lt_size (k₁ x o e)
  obtain ⟨oit, eit, _⟩ := W.live _ _ st
  have hitlt : it < h'.objs.size := Heap.lt_size eit
  have old : ∀ b o, h'.get? b = some o → h₁.get? b = some o := fun b o e =>
    hsb₁.extBut b o (by rw [hC]; exact Nat.ne_of_lt (Nat.lt_succ_of_lt (Heap.lt_size e))) (Heap.get?_push_of_some _ (hH2 ▸ Heap.get?_push_of_some _ e))
  have hacc : h₁.get? h'.objs.size = some { cls := .type "list", data := .seq ([] : List Value).toArray } :=
    hsb₁.extBut _ _ (by rw [hC]; exact Nat.ne_of_lt (Nat.lt_succ_self _)) (Heap.get?_push_of_some _ (hH2 ▸ Heap.get?_push_size _ rfl))
  have sn : ∀ a, h'.objs.size ≤ a → s.heap.get? a = none := fun a ha => by
    cases e : s.heap.get? a with
    | none => rfl
    | some o => exact absurd (nI a o e) (Nat.not_lt_of_le ha)
  obtain ⟨S₁, T₁⟩ := S.push (a := h'.objs.size) (o := .list []) (h' := h₁) (tk := s.toks) (fun b x e => old b x (k₁ b x e)) (fun b hb' => by simp only [feet, List.mem_singleton] at hb'; rw [hb']; exact sn _ (Nat.le_refl _)) (by simp [feet]) ⟨_, 0, hacc, trivial⟩
  have hfr : ObjAt h₁ H2.objs.size (.frame ⟨nm, cs.nd⟩ (List.replicate nm.length none)) := ⟨_, hns₁, fun i x v _ hv => by rw [List.getElem?_replicate] at hv; split at hv <;> simp at hv⟩
  have S₂ : StB hb.h w ((c.comp sc nm cs.nd gl cl H2.objs.size).fr (List.replicate nm.length none) :: (h'.objs.size, .list []) :: c.fr ρ :: L) ⟨h₁, s.gens, s.drawn, s.toks, s.os⟩ := by
    refine ⟨S₁.gd, S₁.base, fun b hb' => ?_, fun p hp => ?_, ?_⟩
    · rw [foot_cons] at hb'
      rcases List.mem_append.mp hb' with q | q
      · have e : b = H2.objs.size := List.mem_singleton.mp q
        rw [e]
        exact S.fresh (sn _ (by lia))
      · exact S₁.off b q
    · rcases List.mem_cons.mp hp with rfl | hp
      · exact hfr
      · exact S₁.rel p hp
    · rw [foot_cons]
      refine List.nodup_append.mpr ⟨by simp [feet], S₁.nd, fun b hb' d hd q => ?_⟩
      have e : b = H2.objs.size := List.mem_singleton.mp hb'
      subst q
      rw [foot_cons] at hd
      rcases List.mem_append.mp hd with q | q
      · have e' : b = h'.objs.size := List.mem_singleton.mp q
        have := e.symm.trans e'
        rw [hC] at this
        exact Nat.succ_ne_self _ this
      · obtain ⟨o, e'⟩ := S.live q
        have := nI _ _ e'
        rw [e, hC] at this
        exact absurd this (Nat.not_lt_of_le (Nat.le_succ _))
  have T₂ : To (c.fr ρ :: L) s ((c.comp sc nm cs.nd gl cl H2.objs.size).fr (List.replicate nm.length none) :: (h'.objs.size, .list []) :: c.fr ρ :: L) ⟨h₁, s.gens, s.drawn, s.toks, s.os⟩ := by
    refine ⟨T₁.sh, T₁.keep, T₁.kind, fun b hb' => ?_, T₁.nf⟩
    rw [foot_cons] at hb'
    rcases List.mem_append.mp hb' with q | q
    · have e : b = H2.objs.size := List.mem_singleton.mp q
      exact .inr (by rw [e]; exact sn _ (by omega))
    · exact T₁.new b q
  have hif : it ∉ foot ((c.comp sc nm cs.nd gl cl H2.objs.size).fr (List.replicate nm.length none) :: (h'.objs.size, .list []) :: c.fr ρ :: L) := fun q => by
    rw [foot_cons, foot_cons] at q
    rcases List.mem_append.mp q with q | q
    · have e : it = H2.objs.size := List.mem_singleton.mp q
      rw [e, hC] at hitlt
      exact absurd hitlt (Nat.not_lt_of_le (Nat.le_succ _))
    · rcases List.mem_append.mp q with q | q
      · have e : it = h'.objs.size := List.mem_singleton.mp q
        rw [e] at hitlt
        exact absurd hitlt (Nat.lt_irrefl _)
      · obtain ⟨o, e'⟩ := S.live q
        rw [hit] at e'; cases e'
  have st₁ : St 0 h₁ := W.frame _ _ _ st fun o e => old it o e
  have loop : codeC (model prog w) A (.compLoop (.ListComp elt [⟨.Name x px, iter, ifs, 0⟩] sc pos) 0 (.ref it) (.ref h'.objs.size) (compEnvC sc cl H2.objs.size c.env)) (RR (.ref h'.objs.size) (compEnvC sc cl H2.objs.size c.env)) ⟨h₁, s.gens, s.drawn, s.toks, s.os⟩ := by
    refine compLoop_core (cc := c.comp sc nm cs.nd gl cl H2.objs.size) W (cs.fok ok gv cl _) hx hlen (fun k ws Lx => ∃ L', Lx = c.fr ρ :: L' ∧ I k ws L') (fun k ws Lx ⟨L', _, h⟩ => hI k ws L' h) (fun k ws Lx ρc ⟨L', e, h⟩ => e ▸ hneed k ws L' _ _ _ h)
      (fun k ws Lx ρc hlρ hk hIx => ?_) (List.length_replicate) ⟨L, rfl, h0⟩ rm fo hit (S.fresh hit) S₂ T₂ hif st₁ fun ρ' ws' Lx s' hIx S' T' => ?_
    · obtain ⟨L', rfl, h⟩ := hIx
      have tr := turn k ws L' ρc H2.objs.size h'.objs.size hlρ hk h
      match ifs, tr with
      | [], tr => exact AC.mono tr fun b Lx ⟨L'', e, L₃, p, h⟩ => ⟨L'', e, _, p, L₃, rfl, h⟩
      | [t], tr => exact AC.mono tr fun b Lx ⟨L'', e, q⟩ => ⟨L'', e, by
          cases b with
          | true => exact AC.mono q fun b Lx ⟨L'', e, L₃, p, h⟩ => ⟨L'', e, _, p, L₃, rfl, h⟩
          | false => obtain ⟨L₃, p, h⟩ := q; exact ⟨_, p, L₃, rfl, h⟩⟩
    · obtain ⟨L', rfl, h⟩ := hIx
      obtain ⟨m, hm, _⟩ := S'.rel _ (.head _)
      have nd := S'.nd
      rw [foot_cons] at nd
      refine K h'.objs.size H2.objs.size ws' L' s' h (sn _ (by omega)) ⟨m, hm⟩ (fun q => ?_) (S'.sub (List.sublist_cons_self _ _)) (T'.sub (List.sublist_cons_self _ _))
      exact (List.nodup_append.mp nd).2.2 H2.objs.size (List.mem_singleton.mpr rfl) H2.objs.size q rfl
  exact codeC_compStart_list loop (anyC <| self _ _ _ st₁ loop)
inductive CompP (hb : HB) (w : World) (prog : Program) (n : Nat) (c : FC) (ρ : List (Option V)) (ix : Nat) (elt : Expr) (ifs : List Expr) (sc : Scope) (nm : List Str) (gl : List (Str × V)) (cl : List (Str × Addr)) (nd : nm.Nodup) (Q : V → Led → Prop) (b : V) (L₀ : Led) : Prop
  | mk (len : Nat) (item : Nat → V) (need : Led → Prop) (I : Nat → List V → Led → Prop) (h0 : Src hb w prog b (c.fr ρ :: L₀) len item need) (h1 : len < 2 ^ 20) (h2 : I 0 [] L₀) (h3 : (∀ k ws L', I k ws L' → ws.length ≤ k)) (h4 : (∀ k ws L' C ρc acc, I k ws L' → need ((c.comp sc nm nd gl cl C).fr ρc :: (acc, .list ws) :: c.fr ρ :: L'))) (h5 : (∀ (k : Nat) (ws : List V) (L' : Led) (ρc : List (Option V)) (C acc : Addr), ρc.length = nm.length → k < len → I k ws L' → CTurn hb w prog n (c.comp sc nm nd gl cl C) (ρc.set ix (some (item k))) ((acc, .list ws) :: c.fr ρ :: L') ifs elt (fun b L'' => ∃ L₃, L''.Perm ((acc, .list ws) :: c.fr ρ :: L₃) ∧ I (k + 1) (ws ++ [b]) L₃) (fun L'' => ∃ L₃, L''.Perm ((acc, .list ws) :: c.fr ρ :: L₃) ∧ I (k + 1) ws L₃))) (h6 : (∀ ws L', I len ws L' → ∀ r, Q (.ref r) ((r, .list ws) :: L'))) : CompP hb w prog n c ρ ix elt ifs sc nm gl cl nd Q b L₀
theorem EV.comp {x : Str} {px : Pos} (ix : Nat) {elt iter : Expr} {ifs : List Expr} {sc : Scope} {pos : Pos} {Q : V → Led → Prop} (nm : List Str) (gl : List (Str × V)) (cl : List (Str × Addr)) (ok : FOk c) (cs : CSOk sc nm gl) (gv : ∀ p ∈ gl, GV p.1 p.2) (hx : nm[ix]? = some x)
    (h : EV hb w prog n c ρ L iter fun b L₀ => CompP hb w prog n c ρ ix elt ifs sc nm gl cl cs.nd Q b L₀)
    (hcl : closureFor sc c.env = pure cl) (hs : ∀ x, foldedSetIterable iter c.env x = pure x := by intro _; rfl) : EV hb w prog n c ρ L (.ListComp elt [⟨.Name x px, iter, ifs, 0⟩] sc pos) Q := fun A s Qc E rm fo S K => by
  rw [eval_ListComp]
  refine wpC_comp (use := none) (g := ⟨.Name x px, iter, ifs, 0⟩) (gs := []) rfl hs hcl cs.kind cs.names (h A s _ E rm fo S fun xv b L₁ s₁ hq hr S₁ T₁ => ?_)
  obtain ⟨L₀, rfl, len, item, need, I, src, hlen, h0, hI, hneed, turn, fin⟩ := hq
  exact comp_block (RR := fun acc cenv r s' => compPostC (model prog w) A E none Qc acc cenv r s') cs cl ok gv hx src hlen I h0 hI hneed turn hr rm (fo.to T₁) S₁ fun acc C ws' L' s' hI' hC ⟨m, hm⟩ hf S' T' => ⟨m, hm, fun h' sb => by
      have k : ∀ b o, b ≠ C → s'.heap.get? b = some o → h'.get? b = some o := fun b o hb' e => (sb.2 b hb').trans e
      exact K (.ref acc) (.ref acc) _ _ ⟨(acc, .list ws') :: L', rfl, fin ws' L' hI' acc⟩ rfl ((S'.skip (tk := s'.toks) (S₁.fresh hC) hf k).perm (.swap ..)) ((T₁.trans (T'.skip (tk := s'.toks) hC k)).perm (.swap ..))⟩
theorem SV.assignComp {y : Str} {iy : Nat} {py : Pos} {x : Str} {px : Pos} (ix : Nat) {elt iter : Expr} {ifs : List Expr} {sc : Scope} {pos spos : Pos} {rest : List Stmt} {Q : FlowA → List (Option V) → Led → Prop} (nm : List Str) (gl : List (Str × V)) (cl : List (Str × Addr)) (ok : FOk c) (hy : c.nm.l[iy]? = some y) (cs : CSOk sc nm gl) (gv : ∀ p ∈ gl, GV p.1 p.2) (hx : nm[ix]? = some x)
    (hsw : swapsWith (.ListComp elt [⟨.Name x px, iter, ifs, 0⟩] sc pos) (some (.Name y py)) spos.line c.env = pure true)
    (h : EV hb w prog n c ρ L iter fun b L₀ => ∃ (len : Nat) (item : Nat → V) (need : Led → Prop) (I : Nat → List V → Led → Prop), Src hb w prog b (c.fr ρ :: L₀) len item need ∧ len < 2 ^ 20 ∧ I 0 [] L₀ ∧ (∀ k ws L', I k ws L' → ws.length ≤ k) ∧
      (∀ k ws L' C ρc acc, I k ws L' → need ((c.comp sc nm cs.nd gl cl C).fr ρc :: (acc, .list ws) :: c.fr ρ :: L')) ∧
      (∀ (k : Nat) (ws : List V) (L' : Led) (ρc : List (Option V)) (C acc : Addr), ρc.length = nm.length → k < len → I k ws L' → CTurn hb w prog n (c.comp sc nm cs.nd gl cl C) (ρc.set ix (some (item k))) ((acc, .list ws) :: c.fr ρ :: L') ifs elt
        (fun b L'' => ∃ L₃, L''.Perm ((acc, .list ws) :: c.fr ρ :: L₃) ∧ I (k + 1) (ws ++ [b]) L₃) (fun L'' => ∃ L₃, L''.Perm ((acc, .list ws) :: c.fr ρ :: L₃) ∧ I (k + 1) ws L₃)) ∧
      (∀ ws L', I len ws L' → ∀ r, SV hb w prog n c (ρ.set iy (some (.ref r))) ((r, .list ws) :: L') rest Q))
    (hcl : closureFor sc c.env = pure cl) (hs : ∀ x, foldedSetIterable iter c.env x = pure x := by intro _; rfl) : SV hb w prog n c ρ L (.Assign [.Name y py] (.ListComp elt [⟨.Name x px, iter, ifs, 0⟩] sc pos) spos :: rest) Q := SV.cons fun A s Qc E rm fo S K => by
  rw [exec_Assign_Name_used _ _ _ _ hsw]
  refine atC (wpC_bind ?_)
  show wpC _ A (comprehension (.ListComp elt [⟨.Name x px, iter, ifs, 0⟩] sc pos) sc c.env _ (newList []) false (eval iter c.env) (some (PySem.assign (.Name y py) c.env)) >>= fun _ => pure ()) _ _ s
  refine wpC_then (wpC_comp (use := some (PySem.assign (.Name y py) c.env)) (g := ⟨.Name x px, iter, ifs, 0⟩) (gs := []) (Q := fun _ s' => Qc .next s') rfl hs hcl cs.kind cs.names (h A s _ E rm fo S fun xv b L₁ s₁ hq hr S₁ T₁ => ?_)) fun _ s' hq => wpC_pure (wpC_pure hq)
  obtain ⟨L₀, rfl, len, item, need, I, src, hlen, h0, hI, hneed, turn, fin⟩ := hq
  exact comp_block (RR := fun acc cenv r s' => compPostC (model prog w) A E (some (PySem.assign (.Name y py) c.env)) (fun _ s' => Qc .next s') acc cenv r s') cs cl ok gv hx src hlen I h0 hI hneed turn hr rm (fo.to T₁) S₁ fun acc C ws' L' s' hI' hC ⟨m, hm⟩ hf S' T' => by
      refine wpC_assign_Name (anyC <| store_local ok (S'.perm (.swap ..)) hy (b := .ref acc) rfl fun s₂ S₂ T₂ => ?_)
      have hf' : C ∉ foot (c.fr ρ :: (acc, .list ws') :: L') := fun q => hf ((List.Perm.flatMap_right feet (.swap ..)).mem_iff.mp q)
      have hm₂ : ∃ m, s₂.heap.Ns C m := by
        obtain ⟨o, es, ep, e, r⟩ := hm
        obtain ⟨o', e', q⟩ := T₂.keep C o hf' e
        rcases q with rfl | ⟨_, sl, rfl⟩
        · exact ⟨m, _, es, ep, e', r⟩
        · exact ⟨m, _, es, ep, e', r⟩
      obtain ⟨m₂, hm₂⟩ := hm₂
      refine ⟨m₂, hm₂, fun h' sb => ?_⟩
      have k : ∀ b o, b ≠ C → s₂.heap.get? b = some o → h'.get? b = some o := fun b o hb' e => (sb.2 b hb').trans e
      exact K .next .nxt _ _ ⟨_, (acc, .list ws') :: L', rfl, fin ws' L' hI' acc⟩ rfl (S₂.skip (tk := s₂.toks) (S₁.fresh hC) hf' k) (T₁.trans (((T'.perm (.swap ..)).trans T₂).skip (tk := s₂.toks) hC k))
end
end
section
theorem loc_hd {x : Str} {xs : List Str} {v : V} {ρ : List (Option V)} : (x :: xs)[0]? = some x ∧ (some v :: ρ)[0]? = some (some v) := ⟨rfl, rfl⟩
theorem ix_hd {α : Type} {x : α} {xs : List α} : (x :: xs)[0]? = some x := rfl
theorem at_set_eq {L : Led} {i : Nat} {p q : Addr × AO} (h : At L i p) : At (L.set i q) i q := by
  unfold At at *
  rw [List.getElem?_set_self (List.getElem?_eq_some_iff.mp h).1]
theorem at_set_ne {L : Led} {i j : Nat} {p q : Addr × AO} (h : At L i p) (hij : j ≠ i) : At (L.set j q) i p := by
  unfold At at *
  rw [List.getElem?_set_ne hij]; exact h
noncomputable def Sto (nm : List Str) (x : Str) (ρ : List (Option V)) (b : V) (ρ' : List (Option V)) : Prop := ∃ i, nm[i]? = some x ∧ ρ' = ρ.set i (some b)
theorem sto_hd {x : Str} {xs : List Str} {r : Option V} {ρ : List (Option V)} {b : V} : Sto (x :: xs) x (r :: ρ) b (some b :: ρ) := ⟨0, rfl, rfl⟩
theorem sto_tl {x y : Str} {xs : List Str} {r : Option V} {ρ ρ' : List (Option V)} {b : V} (h : Sto xs x ρ b ρ') : Sto (y :: xs) x (r :: ρ) b (r :: ρ') := let ⟨i, a, e⟩ := h; ⟨i + 1, a, by rw [e]; rfl⟩
noncomputable def PutN (l : List Str) (x : Str) (vs : List V) (b : V) (vs' : List V) : Prop := ∃ j, l[j]? = some x ∧ j ≤ vs.length ∧ vs' = putV vs j b
theorem pn_hd {x : Str} {xs : List Str} {v b : V} {vs : List V} : PutN (x :: xs) x (v :: vs) b (b :: vs) := ⟨0, rfl, Nat.zero_le _, rfl⟩
theorem pn_add {x : Str} {xs : List Str} {b : V} : PutN (x :: xs) x [] b [b] := ⟨0, rfl, Nat.zero_le _, rfl⟩
theorem pn_tl {x y : Str} {xs : List Str} {v b : V} {vs vs' : List V} (h : PutN xs x vs b vs') : PutN (y :: xs) x (v :: vs) b (v :: vs') := by
  obtain ⟨j, a, e, r⟩ := h
  refine ⟨j + 1, a, Nat.succ_le_succ e, ?_⟩
  rw [r]; unfold putV
  by_cases q : j < vs.length
  · rw [if_pos q, if_pos (by rw [List.length_cons]; lia)]; rfl
  · rw [if_neg q, if_neg (by rw [List.length_cons]; lia)]; rfl
noncomputable def LSet (L : Led) (i : Nat) (p : Addr × AO) (L' : Led) : Prop := L' = L.set i p
theorem ls_hd {p q : Addr × AO} {L : Led} : LSet (q :: L) 0 p (p :: L) := rfl
theorem ls_tl {p q : Addr × AO} {L L' : Led} {i : Nat} (h : LSet L i p L') : LSet (q :: L) (i + 1) p (q :: L') := by unfold LSet at *; rw [h]; rfl
section
variable {hb : HB} {w : World} {prog : Program} {n : Nat} {c : FC} {ρ : List (Option V)} {L M : Led}
theorem PV.loc' {i : Nat} {x : Str} {pos : Pos} {v : V} (ok : FOk c) (h : c.nm.l[i]? = some x ∧ ρ[i]? = some (some v)) : PV hb w prog n c ρ L (.Name x pos) v := PV.loc ok h.1 h.2
inductive Asg (hb : HB) (w : World) (prog : Program) (n : Nat) (c : FC) (ρ : List (Option V)) (x : Str) (rest : List Stmt) (Q : FlowA → List (Option V) → Led → Prop) (b : V) (L' : Led) : Prop
  | mk (ρ' : List (Option V)) (h0 : Sto c.nm.l x ρ b ρ') (h1 : SV hb w prog n c ρ' L' rest Q) : Asg hb w prog n c ρ x rest Q b L'
theorem SV.assign' {x : Str} {px pos : Pos} {value : Expr} {rest : List Stmt} {Q : FlowA → List (Option V) → Led → Prop} (ok : FOk c) (hs : swapsWith value (some (.Name x px)) pos.line c.env = pure false)
    (h : EV hb w prog n c ρ L value fun b L' => Asg hb w prog n c ρ x rest Q b L') : SV hb w prog n c ρ L (.Assign [.Name x px] value pos :: rest) Q :=
  SV.cons fun A s Qc E rm fo S K => wpC_Assign_Name (h A s _ E rm fo S fun v b L' s₁ hq hv S₁ T₁ => by
    obtain ⟨L'', rfl, ρ', ⟨i, hx, rfl⟩, hq⟩ := hq
    exact anyC <| store_local ok S₁ hx hv fun s' S' T' => K .next .nxt _ _ ⟨_, _, rfl, hq⟩ rfl S' (T₁.trans T')) hs
theorem SV.assignP {x : Str} {px pos : Pos} {value : Expr} {rest : List Stmt} {Q : FlowA → List (Option V) → Led → Prop} {b : V} {ρ' : List (Option V)} (ok : FOk c) (hv : PV hb w prog n c ρ L value b) (hs : swapsWith value (some (.Name x px)) pos.line c.env = pure false) (hr : Sto c.nm.l x ρ b ρ') (h : SV hb w prog n c ρ' L rest Q) : SV hb w prog n c ρ L (.Assign [.Name x px] value pos :: rest) Q :=
  SV.assign' ok hs (EV.of hv ⟨ρ', hr, h⟩)
theorem SV.augP {x : Str} {px pos : Pos} {op : Operator} {value : Expr} {rest : List Stmt} {Q : FlowA → List (Option V) → Led → Prop} {old b r : V} {ρ' : List (Option V)} {i : Nat} (ok : FOk c) (ho : c.nm.l[i]? = some x ∧ ρ[i]? = some (some old)) (hv : PV hb w prog n c ρ L value b)
    (hop : PO hb w prog n c ρ L (inplaceOp op) old b r) (hr : Sto c.nm.l x ρ r ρ') (h : SV hb w prog n c ρ' L rest Q) : SV hb w prog n c ρ L (.AugAssign (.Name x px) op value pos :: rest) Q := by
  obtain ⟨j, hj, rfl⟩ := hr
  exact SV.aug ok hj (by
    have : i = j := (List.getElem?_inj (List.getElem?_eq_some_iff.mp ho.1).1 c.nm.nd).mp (ho.1.trans hj.symm)
    rw [← this]; exact ho.2) (EV.of hv fun x y hx hy => hop.ex hx hy h)
theorem PO.iadd {a b : Int} : PO hb w prog n c ρ L (inplaceOp .Add) (.int a) (.int b) (.int (a + b)) := .leaf fun A s Qc E x y hx hy rm S k => by
  obtain ⟨t, rfl⟩ := hx; obtain ⟨u, rfl⟩ := hy; (with_reducible refine PySem.P.iadd_int ?_); exact k _ _ ⟨_, rfl⟩
theorem PO.irshift {a k : Int} (h : 0 ≤ k) : PO hb w prog n c ρ L (inplaceOp .RShift) (.int a) (.int k) (.int (a.fdiv (2 ^ k.toNat))) := .leaf fun A s Qc E x y hx hy rm S k => by
  obtain ⟨t, rfl⟩ := hx; obtain ⟨u, rfl⟩ := hy; (with_reducible refine PyProof.Rows.irshift_int h ?_); exact k _ _ ⟨_, rfl⟩
inductive SetA (hb : HB) (w : World) (prog : Program) (n : Nat) (c : FC) (ρ : List (Option V)) (o : Expr) (x : Str) (rest : List Stmt) (Q : FlowA → List (Option V) → Led → Prop) (b : V) (L' : Led) : Prop
  | mk (a : Addr) (i : Nat) (d : Addr) (k : CL) (vs vs' : List V) (L'' : Led) (h0 : PV hb w prog n c ρ L' o (.ref a)) (h1 : At L' i (a, .inst k d vs)) (h2 : PutN k.l x vs b vs') (h3 : LSet L' i (a, .inst k d vs') L'') (h4 : SV hb w prog n c ρ L'' rest Q) : SetA hb w prog n c ρ o x rest Q b L'
theorem SV.setattr' {o value : Expr} {x : Str} {px pos : Pos} {rest : List Stmt} {Q : FlowA → List (Option V) → Led → Prop} (hs : swapsWith value (some (.Attribute o x px)) pos.line c.env = pure false)
    (h : EV hb w prog n c ρ L value fun b L' => SetA hb w prog n c ρ o x rest Q b L') :
    SV hb w prog n c ρ L (.Assign [.Attribute o x px] value pos :: rest) Q :=
  SV.setattr (AC.mono h fun b L' hh => by
    obtain ⟨L₁, e, a, i, d, k, vs, vs', L'', ho, hi, ⟨j, hx, hj, hp⟩, hl, hq⟩ := hh
    exact ⟨L₁, e, a, i, d, k, vs, j, ho, hi, hx, hj, by rw [← hp, ← hl]; exact hq⟩) hs
theorem SV.setattrP {o value : Expr} {x : Str} {px pos : Pos} {rest : List Stmt} {Q : FlowA → List (Option V) → Led → Prop} {a d : Addr} {i : Nat} {k : CL} {vs vs' : List V} {b : V} {L'' : Led} (hv : PV hb w prog n c ρ L value b) (ho : PV hb w prog n c ρ L o (.ref a)) (hi : At L i (a, .inst k d vs))
    (hp : PutN k.l x vs b vs') (hl : LSet L i (a, .inst k d vs') L'') (hs : swapsWith value (some (.Attribute o x px)) pos.line c.env = pure false) (h : SV hb w prog n c ρ L'' rest Q) : SV hb w prog n c ρ L (.Assign [.Attribute o x px] value pos :: rest) Q :=
  SV.setattr' hs (EV.of hv ⟨a, i, d, k, vs, vs', L'', ho, hi, hp, hl, h⟩)
inductive PVL (hb : HB) (w : World) (prog : Program) (n : Nat) (c : FC) (ρ : List (Option V)) (L : Led) : List Expr → List V → Prop where
  | nil : PVL hb w prog n c ρ L [] []
  | cons {e : Expr} {es : List Expr} {v : V} {vs : List V} : PV hb w prog n c ρ L e v → PVL hb w prog n c ρ L es vs → starEach (e :: es) c.env = (false, eval e c.env) :: starEach es c.env → PVL hb w prog n c ρ L (e :: es) (v :: vs)
theorem PVL.av {pos : Pos} {es : List Expr} {vs : List V} {Q : List V → Led → Prop} (h : PVL hb w prog n c ρ L es vs) (q : Q vs L) : AV hb w prog n c ρ L pos es Q := by
  induction h generalizing Q with
  | nil => exact AV.nil q
  | cons hv _ he ih => exact AV.cons (EV.of hv (ih q)) he
theorem EV.callP {id : Str} {p pos : Pos} {e : Expr} {args : List Expr} {vs : List V} {f : Addr} {Q : V → Led → Prop} (hf : PV hb w prog n c ρ L (.Name id p) (.ref f)) (hk : ∀ P, keepIn (KF P) (.ref f) = true) (ha : PVL hb w prog n c ρ L (e :: args) vs)
    (he : starEach (e :: args) c.env = (false, eval e c.env) :: starEach args c.env) (hplain : (backTo pos (starEach args c.env)).any (·.1) = false)
    (h : CT hb w prog n f vs (c.fr ρ :: L) fun b => Bk (c.fr ρ) (Q b)) : EV hb w prog n c ρ L (.Call (.Name id p) (e :: args) [] pos) Q :=
  EV.call hf hk (ha.av h.cx) he hplain
theorem EV.callP0 {id : Str} {p pos : Pos} {f : Addr} {Q : V → Led → Prop} (hf : PV hb w prog n c ρ L (.Name id p) (.ref f)) (hk : ∀ P, keepIn (KF P) (.ref f) = true)
    (h : CT hb w prog n f [] (c.fr ρ :: L) fun b => Bk (c.fr ρ) (Q b)) : EV hb w prog n c ρ L (.Call (.Name id p) [] [] pos) Q := EV.call0 hf hk h.cx
theorem EV.callC {id : Str} {p pos : Pos} {e : Expr} {args : List Expr} {vs : List V} (k : CL) {Q : V → Led → Prop} (hf : PV hb w prog (n + 1) c ρ L (.Name id p) (.ref k.C)) (ha : PVL hb w prog (n + 1) c ρ L (e :: args) vs)
    (he : starEach (e :: args) c.env = (false, eval e c.env) :: starEach args c.env) (hplain : (backTo pos (starEach args c.env)).any (·.1) = false)
    (h : ∀ a d, CT hb w prog n k.fI (.ref a :: vs) ((a, .inst k d []) :: c.fr ρ :: L) fun b M' => b = .none ∧ Bk (c.fr ρ) (Q (.ref a)) M') : EV hb w prog (n + 1) c ρ L (.Call (.Name id p) (e :: args) [] pos) Q :=
  EV.call hf (fun P => (k.good P).keep) (ha.av (CX.cls h)) he hplain
theorem EV.callC0 {id : Str} {p pos : Pos} (k : CL) {Q : V → Led → Prop} (hf : PV hb w prog (n + 1) c ρ L (.Name id p) (.ref k.C))
    (h : ∀ a d, CT hb w prog n k.fI [.ref a] ((a, .inst k d []) :: c.fr ρ :: L) fun b M' => b = .none ∧ Bk (c.fr ρ) (Q (.ref a)) M') : EV hb w prog (n + 1) c ρ L (.Call (.Name id p) [] [] pos) Q :=
  EV.call0 hf (fun P => (k.good P).keep) (CX.cls h)
theorem EV.methP {o : Expr} {x : Str} {apos pos : Pos} {e : Expr} {args : List Expr} {vs' : List V} {a d f : Addr} {k : CL} {vs : List V} {i j : Nat} {pl : Sem Bool} {Q : V → Led → Prop} (ho : PV hb w prog n c ρ L o (.ref a)) (hi : At L i (a, .inst k d vs)) (hx : k.ms[j]? = some (x, f)) (ha : PVL hb w prog n c ρ L (e :: args) vs')
    (hm : MethOk o x apos pos (e :: args) c.env pl) (he : starEach (e :: args) c.env = (false, eval e c.env) :: starEach args c.env) (hplain : (backTo pos (starEach args c.env)).any (·.1) = false)
    (h : CT hb w prog n f (.ref a :: vs') (c.fr ρ :: L) fun b => Bk (c.fr ρ) (Q b)) :
    EV hb w prog n c ρ L (.Call (.Attribute o x apos) (e :: args) [] pos) Q := EV.meth ho hi hx (ha.av h.cx) hm he hplain
theorem EV.methP0 {o : Expr} {x : Str} {apos pos : Pos} {a d f : Addr} {k : CL} {vs : List V} {i j : Nat} {pl : Sem Bool} {Q : V → Led → Prop} (ho : PV hb w prog n c ρ L o (.ref a)) (hi : At L i (a, .inst k d vs)) (hx : k.ms[j]? = some (x, f))
    (hm : MethOk o x apos pos [] c.env pl)
    (h : CT hb w prog n f [.ref a] (c.fr ρ :: L) fun b => Bk (c.fr ρ) (Q b)) :
    EV hb w prog n c ρ L (.Call (.Attribute o x apos) [] [] pos) Q := EV.meth0 ho hi hx h.cx hm
theorem EV.callbP {id : Str} {p pos : Pos} {e : Expr} {args : List Expr} {vs : List V} {f : String} {Q : V → Led → Prop} (hf : PV hb w prog n c ρ L (.Name id p) (.lit (.builtin f))) (ha : PVL hb w prog n c ρ L (e :: args) vs)
    (he : starEach (e :: args) c.env = (false, eval e c.env) :: starEach args c.env) (hplain : (backTo pos (starEach args c.env)).any (·.1) = false)
    (h : CX hb w prog n (.builtin f) vs (c.fr ρ :: L) fun b => Bk (c.fr ρ) (Q b)) : EV hb w prog n c ρ L (.Call (.Name id p) (e :: args) [] pos) Q := EV.callb hf (ha.av h) he hplain
theorem EV.calltP {id : Str} {p pos : Pos} {e : Expr} {args : List Expr} {vs : List V} {f : String} {Q : V → Led → Prop} (hf : PV hb w prog n c ρ L (.Name id p) (.lit (.type f))) (ha : PVL hb w prog n c ρ L (e :: args) vs)
    (he : starEach (e :: args) c.env = (false, eval e c.env) :: starEach args c.env) (hplain : (backTo pos (starEach args c.env)).any (·.1) = false)
    (h : CX hb w prog n (.type f) vs (c.fr ρ :: L) fun b => Bk (c.fr ρ) (Q b)) : EV hb w prog n c ρ L (.Call (.Name id p) (e :: args) [] pos) Q := EV.callt hf (ha.av h) he hplain
theorem TX.list {a : Addr} {i : Nat} {vs : List V} {x : Value} {Q : Bool → Led → Prop} (hx : (V.ref a).Is x) (hi : At L i (a, .list vs)) (hf : vs.length < 2 ^ 40) (q : Q (!vs.isEmpty) L) : TX hb w prog n c ρ L (truthy x) Q := by
  cases hx
  refine AC.calm (b := !vs.isEmpty) (fun A s Qc E rm fo S k => ?_) ⟨L, rfl, q⟩
  obtain ⟨ys, hl, r⟩ := isList_at S (At.tl (q := c.fr ρ) hi)
  have e : ys.size = vs.length := by rw [← Array.length_toList, ← r.length]
  refine wpAny_truthy_list hl (by lia) (k _ s.heap (s.toks + 1 + 1) ?_ fun _ _ e => e)
  rw [← Array.isEmpty_toList]
  cases vs with
  | nil => cases q : ys.toList with
    | nil => rfl
    | cons _ _ => rw [q] at r; exact r.elim
  | cons _ _ => cases q : ys.toList with
    | nil => rw [q] at r; exact r.elim
    | cons _ _ => rfl
theorem PT.list {e : Expr} {a : Addr} {i : Nat} {vs : List V} (h : PV hb w prog n c ρ L e (.ref a)) (hi : At L i (a, .list vs)) (hf : vs.length < 2 ^ 40) (he : isTrue e c.env (eval e c.env) = (do let v ← eval e c.env; standAt e.pos; holding [v] (truthy v))) : PT hb w prog n c ρ L e (vs ≠ []) := fun Q q =>
  TV.val (h _ fun x hx => TX.list hx hi hf (q _ (by cases vs <;> simp))) he
theorem PT.notNoneT {l : Expr} {k : Nat} {p pos : Pos} {v : V} (h : PV hb w prog n c ρ L l v) (hp : v.plain = true) (hn : v.isNone = false) : PT hb w prog n c ρ L (.Compare l [.IsNot] [.Constant .none k p] pos) True := PT.cmp h PV.none (PO.isNotNone hp) (by rw [hn]; simp) rfl
theorem PT.notNoneF {l : Expr} {k : Nat} {p pos : Pos} (h : PV hb w prog n c ρ L l .none) : PT hb w prog n c ρ L (.Compare l [.IsNot] [.Constant .none k p] pos) False := PT.cmp h PV.none (PO.isNotNone rfl) (by simp [V.isNone]) rfl
theorem PT.isNoneF {l : Expr} {k : Nat} {p pos : Pos} {v : V} (h : PV hb w prog n c ρ L l v) (hp : v.plain = true) (hn : v.isNone = false) : PT hb w prog n c ρ L (.Compare l [.Is] [.Constant .none k p] pos) False := PT.cmp h PV.none (PO.isNone hp) (by rw [hn]; simp) rfl
theorem PV.callF {id : Str} {p pos : Pos} {e : Expr} {args : List Expr} {vs : List V} {f : Addr} {v : V} (hf : PV hb w prog n c ρ L (.Name id p) (.ref f)) (hk : ∀ P, keepIn (KF P) (.ref f) = true) (ha : PVL hb w prog n c ρ L (e :: args) vs)
    (he : starEach (e :: args) c.env = (false, eval e c.env) :: starEach args c.env) (hplain : (backTo pos (starEach args c.env)).any (·.1) = false)
    (h : ∀ Q : V → Led → Prop, Q v (c.fr ρ :: L) → CT hb w prog n f vs (c.fr ρ :: L) Q) : PV hb w prog n c ρ L (.Call (.Name id p) (e :: args) [] pos) v := fun Q q =>
  EV.callP hf hk ha he hplain (h _ ⟨L, .refl _, q⟩)
theorem PV.methF {o : Expr} {x : Str} {apos pos : Pos} {e : Expr} {args : List Expr} {vs' : List V} {a d f : Addr} {k : CL} {vs : List V} {i j : Nat} {pl : Sem Bool} {v : V} (ho : PV hb w prog n c ρ L o (.ref a)) (hi : At L i (a, .inst k d vs)) (hx : k.ms[j]? = some (x, f)) (ha : PVL hb w prog n c ρ L (e :: args) vs')
    (hm : MethOk o x apos pos (e :: args) c.env pl) (he : starEach (e :: args) c.env = (false, eval e c.env) :: starEach args c.env) (hplain : (backTo pos (starEach args c.env)).any (·.1) = false)
    (h : ∀ Q : V → Led → Prop, Q v (c.fr ρ :: L) → CT hb w prog n f (.ref a :: vs') (c.fr ρ :: L) Q) : PV hb w prog n c ρ L (.Call (.Attribute o x apos) (e :: args) [] pos) v := fun Q q =>
  EV.methP ho hi hx ha hm he hplain (h _ ⟨L, .refl _, q⟩)
theorem PV.methF0 {o : Expr} {x : Str} {apos pos : Pos} {a d f : Addr} {k : CL} {vs : List V} {i j : Nat} {pl : Sem Bool} {v : V} (ho : PV hb w prog n c ρ L o (.ref a)) (hi : At L i (a, .inst k d vs)) (hx : k.ms[j]? = some (x, f))
    (hm : MethOk o x apos pos [] c.env pl)
    (h : ∀ Q : V → Led → Prop, Q v (c.fr ρ :: L) → CT hb w prog n f [.ref a] (c.fr ρ :: L) Q) : PV hb w prog n c ρ L (.Call (.Attribute o x apos) [] [] pos) v := fun Q q =>
  EV.methP0 ho hi hx hm (h _ ⟨L, .refl _, q⟩)
theorem PV.itemL {value slice : Expr} {pos : Pos} {a : Addr} {k : Int} {i j : Nat} {vs : List V} {v : V} (h : PV hb w prog n c ρ L value (.ref a)) (hsl : PV hb w prog n c ρ L slice (.int k)) (hi : At L i (a, .list vs)) (hlen : vs.length < 2 ^ 20) (hv : vs[j]? = some v) (hk : k = (j : Int) ∨ k = (j : Int) - vs.length)
    (hs : SubOk slice) : PV hb w prog n c ρ L (.Subscript value slice pos) v := fun Q q => EV.item (EV.of h ⟨a, k, i, j, vs, v, rfl, hsl, hi, hlen, hv, hk, q⟩) hs
theorem PV.itemTu {value slice : Expr} {pos : Pos} {a : Addr} {i j : Nat} {vs : List V} {v : V} (h : PV hb w prog n c ρ L value (.ref a)) (hsl : PV hb w prog n c ρ L slice (.int j)) (hi : At L i (a, .tup vs)) (hlen : vs.length < 2 ^ 20) (hv : vs[j]? = some v)
    (hs : SubOk slice) : PV hb w prog n c ρ L (.Subscript value slice pos) v := fun Q q => EV.itemT (EV.of h ⟨a, i, j, vs, v, rfl, hsl, hi, hlen, hv, q⟩) hs
theorem PV.lenL {id : Str} {p pos : Pos} {e : Expr} {a : Addr} {i : Nat} {vs : List V} (hf : PV hb w prog n c ρ L (.Name id p) (.lit (.builtin "len"))) (ha : PV hb w prog n c ρ L e (.ref a)) (hi : At L i (a, .list vs)) (hb' : vs.length < 2 ^ 40)
    (he : starEach [e] c.env = (false, eval e c.env) :: starEach [] c.env) : PV hb w prog n c ρ L (.Call (.Name id p) [e] [] pos) (.int vs.length) := fun Q q =>
  EV.callbP hf (.cons ha .nil he) he rfl (CX.lenList (At.tl hi) hb' ⟨L, .refl _, q⟩)
theorem PV.lenB {id : Str} {p pos : Pos} {e : Expr} {b : Array UInt8} (hf : PV hb w prog n c ρ L (.Name id p) (.lit (.builtin "len"))) (ha : PV hb w prog n c ρ L e (.bytes b)) (hb' : b.size ≤ 1099511627776)
    (he : starEach [e] c.env = (false, eval e c.env) :: starEach [] c.env) : PV hb w prog n c ρ L (.Call (.Name id p) [e] [] pos) (.int b.size) := fun Q q =>
  EV.callbP hf (.cons ha .nil he) he rfl (CX.lenBytes hb' ⟨L, .refl _, q⟩)
theorem SV.ifT {test : Expr} {body orelse : List Stmt} {pos : Pos} {rest : List Stmt} {Q : FlowA → List (Option V) → Led → Prop} {p : Prop} (hp : p) (h : PT hb w prog n c ρ L test p) (ht : SV hb w prog n c ρ L body (Then hb w prog n c rest Q)) : SV hb w prog n c ρ L (.If test body orelse pos :: rest) Q := SV.ifp h (fun _ => ht) fun q => absurd hp q
theorem SV.ifF {test : Expr} {body : List Stmt} {pos : Pos} {rest : List Stmt} {Q : FlowA → List (Option V) → Led → Prop} {p : Prop} (hp : ¬p) (h : PT hb w prog n c ρ L test p) (hf : SV hb w prog n c ρ L rest Q) : SV hb w prog n c ρ L (.If test body [] pos :: rest) Q := SV.ifp h (fun q => absurd q hp) fun _ => SV.nil hf
theorem SV.done {rest : List Stmt} {Q : FlowA → List (Option V) → Led → Prop} (h : SV hb w prog n c ρ L rest Q) : SV hb w prog n c ρ L [] (Then hb w prog n c rest Q) := SV.nil h
theorem PV.attr' {e : Expr} {x : Str} {pos : Pos} {a d : Addr} {k : CL} {vs : List V} {i j : Nat} {v : V} (h : PV hb w prog n c ρ L e (.ref a)) (hi : At L i (a, .inst k d vs)) (hx : k.l[j]? = some x ∧ vs[j]? = some v) (hp : v.plain = true) (he : AttrOk e x c.env) :
    PV hb w prog n c ρ L (.Attribute e x pos) v := PV.attr h hi hx.1 hx.2 hp he
theorem PT.cmp' {l r : Expr} {op : CmpOp} {pos : Pos} {a b : V} {p : Prop} [Decidable p] (hl : PV hb w prog n c ρ L l a) (hr : PV hb w prog n c ρ L r b) (ho : PO hb w prog n c ρ L (compareOp op) a b (.bool (decide p))) (hm : behindInMarks op r = false) : PT hb w prog n c ρ L (.Compare l [op] [r] pos) p := PT.cmp hl hr ho decide_eq_true_iff hm
theorem PV.cmp' {l r : Expr} {op : CmpOp} {pos : Pos} {a b v : V} (hl : PV hb w prog n c ρ L l a) (hr : PV hb w prog n c ρ L r b) (ho : PO hb w prog n c ρ L (compareOp op) a b v) (hm : behindInMarks op r = false) : PV hb w prog n c ρ L (.Compare l [op] [r] pos) v := PV.cmp hl hr ho hm
theorem PT.and' {e₁ e₂ : Expr} {pos : Pos} {p₁ p₂ : Prop} (h₁ : PT hb w prog n c ρ L e₁ p₁) (h₂ : PT hb w prog n c ρ L e₂ p₂) : PT hb w prog n c ρ L (.BoolOp .And [e₁, e₂] pos) (p₁ ∧ p₂) := PT.and h₁ fun _ => h₂
theorem PT.or' {e₁ e₂ : Expr} {pos : Pos} {p₁ p₂ : Prop} (h₁ : PT hb w prog n c ρ L e₁ p₁) (h₂ : PT hb w prog n c ρ L e₂ p₂) : PT hb w prog n c ρ L (.BoolOp .Or [e₁, e₂] pos) (p₁ ∨ p₂) := PT.or h₁ fun _ => h₂
theorem at_hd2 {x : Str} {xs : List Str} {v : V} {vs : List V} : (x :: xs)[0]? = some x ∧ (v :: vs)[0]? = some v := ⟨rfl, rfl⟩
theorem at_1 {x y : Str} {xs : List Str} {v r : V} {vs : List V} : (y :: x :: xs)[1]? = some x ∧ (r :: v :: vs)[1]? = some v := ⟨rfl, rfl⟩
theorem at_2 {x y z : Str} {xs : List Str} {v r p : V} {vs : List V} : (y :: z :: x :: xs)[2]? = some x ∧ (r :: p :: v :: vs)[2]? = some v := ⟨rfl, rfl⟩
theorem at_3 {x y z u : Str} {xs : List Str} {v r p q : V} {vs : List V} : (y :: z :: u :: x :: xs)[3]? = some x ∧ (r :: p :: q :: v :: vs)[3]? = some v := ⟨rfl, rfl⟩
theorem at_4 {x y z u t : Str} {xs : List Str} {v r p q o : V} {vs : List V} {i : Nat} (h : xs[i]? = some x ∧ vs[i]? = some v) : (y :: z :: u :: t :: xs)[i + 4]? = some x ∧ (r :: p :: q :: o :: vs)[i + 4]? = some v := h
theorem pn_1 {x y : Str} {xs : List Str} {v b r : V} {vs : List V} : PutN (y :: x :: xs) x (r :: v :: vs) b (r :: b :: vs) := pn_tl (pn_hd)
theorem pn_2 {x y z : Str} {xs : List Str} {v b r p : V} {vs : List V} : PutN (y :: z :: x :: xs) x (r :: p :: v :: vs) b (r :: p :: b :: vs) := pn_tl (pn_tl (pn_hd))
theorem pn_3 {x y z u : Str} {xs : List Str} {v b r p q : V} {vs : List V} : PutN (y :: z :: u :: x :: xs) x (r :: p :: q :: v :: vs) b (r :: p :: q :: b :: vs) := pn_tl (pn_tl (pn_tl (pn_hd)))
theorem pn_4 {x y z u t : Str} {xs : List Str} {b r p q o : V} {vs vs' : List V} (h : PutN xs x vs b vs') : PutN (y :: z :: u :: t :: xs) x (r :: p :: q :: o :: vs) b (r :: p :: q :: o :: vs') := pn_tl (pn_tl (pn_tl (pn_tl h)))
theorem CT.fn' {F : FS} (hF : FSOk F) {vs : List V} {ρ : List (Option V)} {Q : V → Led → Prop} (hk : vs.length = F.k) (hρ : initρ F vs = ρ)
    (h : ∀ Lf, FOk (F.fc hF.parts.nd Lf) → SV ⟨hb.h, some (F.fc hF.parts.nd Lf).env⟩ w prog n (F.fc hF.parts.nd Lf) ρ M (sBody F.st) fun fl _ M' => Q (match fl with | .ret v => v | _ => .none) M') :
    CT hb w prog (n + 1) F.f vs M Q := CT.fn hF hk fun Lf => hρ ▸ h Lf (hF.fok Lf)
end
theorem loc_1 {x y : Str} {xs : List Str} {v : V} {r : Option V} {ρ : List (Option V)} : (y :: x :: xs)[1]? = some x ∧ (r :: some v :: ρ)[1]? = some (some v) := ⟨rfl, rfl⟩
theorem sto_1 {x y : Str} {xs : List Str} {r r₀ : Option V} {ρ : List (Option V)} {b : V} : Sto (y :: x :: xs) x (r :: r₀ :: ρ) b (r :: some b :: ρ) := ⟨1, rfl, rfl⟩
theorem ix_1 {α : Type} {x y : α} {xs : List α} : (y :: x :: xs)[1]? = some x := rfl
theorem loc_2 {x y z : Str} {xs : List Str} {v : V} {r p : Option V} {ρ : List (Option V)} : (y :: z :: x :: xs)[2]? = some x ∧ (r :: p :: some v :: ρ)[2]? = some (some v) := ⟨rfl, rfl⟩
theorem sto_2 {x y z : Str} {xs : List Str} {r p r₀ : Option V} {ρ : List (Option V)} {b : V} : Sto (y :: z :: x :: xs) x (r :: p :: r₀ :: ρ) b (r :: p :: some b :: ρ) := ⟨2, rfl, rfl⟩
theorem ix_2 {α : Type} {x y z : α} {xs : List α} : (y :: z :: x :: xs)[2]? = some x := rfl
theorem loc_3 {x y z u : Str} {xs : List Str} {v : V} {r p q : Option V} {ρ : List (Option V)} : (y :: z :: u :: x :: xs)[3]? = some x ∧ (r :: p :: q :: some v :: ρ)[3]? = some (some v) := ⟨rfl, rfl⟩
theorem sto_3 {x y z u : Str} {xs : List Str} {r p q r₀ : Option V} {ρ : List (Option V)} {b : V} : Sto (y :: z :: u :: x :: xs) x (r :: p :: q :: r₀ :: ρ) b (r :: p :: q :: some b :: ρ) := ⟨3, rfl, rfl⟩
theorem ix_3 {α : Type} {x y z u : α} {xs : List α} : (y :: z :: u :: x :: xs)[3]? = some x := rfl
theorem loc_4 {x y z u t : Str} {xs : List Str} {v : V} {r p q o : Option V} {ρ : List (Option V)} {i : Nat} (h : xs[i]? = some x ∧ ρ[i]? = some (some v)) : (y :: z :: u :: t :: xs)[i + 4]? = some x ∧ (r :: p :: q :: o :: ρ)[i + 4]? = some (some v) := h
theorem sto_4 {x y z u t : Str} {xs : List Str} {r p q o : Option V} {ρ ρ' : List (Option V)} {b : V} (h : Sto xs x ρ b ρ') : Sto (y :: z :: u :: t :: xs) x (r :: p :: q :: o :: ρ) b (r :: p :: q :: o :: ρ') := sto_tl (sto_tl (sto_tl (sto_tl h)))
theorem ix_4 {α : Type} {x y z u t : α} {xs : List α} {i : Nat} (h : xs[i]? = some x) : (y :: z :: u :: t :: xs)[i + 4]? = some x := h
noncomputable def Pk (L : Led) (p : Addr × AO) (R : Led) : Prop := L.Perm (p :: R)
noncomputable def Sg (L M R : Led) : Prop := L.Perm (M ++ R)
section
variable {p q : Addr × AO} {L M R A B T : Led}
theorem pk_hd : Pk (p :: L) p L := .refl _
theorem pk_tl (h : Pk L p R) : Pk (q :: L) p (q :: R) := (List.Perm.cons q h).trans (.swap ..)
theorem pk_al (h : Pk A p R) : Pk (A ++ B) p (R ++ B) := List.Perm.append_right B h
theorem pk_ar (h : Pk B p R) : Pk (A ++ B) p (A ++ R) := (List.Perm.append_left A h).trans List.perm_middle
theorem sg_id : Sg M M [] := by unfold Sg; rw [List.append_nil]
theorem sg_hd : Sg (M ++ B) M B := .refl _
theorem sg_tl (h : Sg L M R) : Sg (q :: L) M (q :: R) := (List.Perm.cons q h).trans List.perm_middle.symm
theorem sg_ar (h : Sg B M R) : Sg (A ++ B) M (A ++ R) := (List.Perm.append_left A h).trans (by rw [← List.append_assoc, ← List.append_assoc]; exact List.Perm.append_right R List.perm_append_comm)
theorem pm_cons (h : Pk L p R) (k : R.Perm T) : L.Perm (p :: T) := List.Perm.trans h (k.cons p)
theorem pm_consA (h : Pk L p R) (k : R.Perm (A ++ T)) : L.Perm ((p :: A) ++ T) := List.Perm.trans h (k.cons p)
theorem pm_assoc (h : L.Perm (A ++ (B ++ T))) : L.Perm ((A ++ B) ++ T) := by rw [List.append_assoc]; exact h
theorem pm_nilA (h : L.Perm T) : L.Perm ([] ++ T) := h
theorem pm_seg (h : Sg L M R) (k : R.Perm T) : L.Perm (M ++ T) := List.Perm.trans h (k.append_left M)
end
end
section
noncomputable abbrev gp (x : Str) (v : V) : Str × V := (x, v)
noncomputable abbrev mp (x : Str) (v : Addr) : Str × Addr := (x, v)
theorem lenS {n : Nat} {p : List Value → Prop} (h : ∀ a vs, vs.length = n → p (a :: vs)) : ∀ vs, vs.length = n + 1 → p vs := fun vs e => by
  cases vs with
  | nil => cases e
  | cons a vs => exact h a vs (Nat.succ.inj e)
theorem len0 {p : List Value → Prop} (h : p []) : ∀ vs, vs.length = 0 → p vs := fun vs e => List.length_eq_zero_iff.mp e ▸ h
theorem len1 {p : List Value → Prop} (h : ∀ a, p [a]) : ∀ vs, vs.length = 1 → p vs := lenS fun a => len0 (p := fun vs => p (a :: vs)) (h a)
theorem len2 {p : List Value → Prop} (h : ∀ a b, p [a, b]) : ∀ vs, vs.length = 2 → p vs := lenS fun a => len1 (p := fun vs => p (a :: vs)) (h a)
theorem len3 {p : List Value → Prop} (h : ∀ a b c, p [a, b, c]) : ∀ vs, vs.length = 3 → p vs := lenS fun a => len2 (p := fun vs => p (a :: vs)) (h a)
theorem len4 {p : List Value → Prop} (h : ∀ a b c d, p [a, b, c, d]) : ∀ vs, vs.length = 4 → p vs := lenS fun a => len3 (p := fun vs => p (a :: vs)) (h a)
theorem len5 {p : List Value → Prop} (h : ∀ a b c d e, p [a, b, c, d, e]) : ∀ vs, vs.length = 5 → p vs := lenS fun a => len4 (p := fun vs => p (a :: vs)) (h a)
theorem len6 {p : List Value → Prop} (h : ∀ a b c d e f, p [a, b, c, d, e, f]) : ∀ vs, vs.length = 6 → p vs := lenS fun a => len5 (p := fun vs => p (a :: vs)) (h a)
theorem gv_nil : ∀ p ∈ ([] : List (Str × V)), GV p.1 p.2 := fun p h => by cases h
theorem gv_cons {x : Str} {v : V} {r : List (Str × V)} (h : GV x v) (k : ∀ p ∈ r, GV p.1 p.2) : ∀ p ∈ gp x v :: r, GV p.1 p.2 := fun p hp => by
  rcases List.mem_cons.mp hp with rfl | hp
  · exact h
  · exact k p hp
theorem G_BadOption : GV "BadOption" (V.ref 56) := .of_ref fun P => by kernel_rfl
theorem G_bytearray : GV "bytearray" (V.lit (.type "bytearray")) := .of_builtin (fun P => by kernel_rfl) (by kernel_rfl) (by kernel_rfl)
theorem G_bytes : GV "bytes" (V.lit (.type "bytes")) := .of_builtin (fun P => by kernel_rfl) (by kernel_rfl) (by kernel_rfl)
theorem G_write_groups : GV "write_groups" (V.ref 149) := .of_ref fun P => by kernel_rfl
theorem G_MAX_64 : GV "MAX_64" (V.int 18446744073709551615) := .of_int (t := 364) fun P => by kernel_rfl
theorem G_MAX_32 : GV "MAX_32" (V.int 4294967295) := .of_int (t := 362) fun P => by kernel_rfl
theorem G_put_varint : GV "put_varint" (V.ref 156) := .of_ref fun P => by kernel_rfl
theorem G_put_varint32 : GV "put_varint32" (V.ref 163) := .of_ref fun P => by kernel_rfl
theorem G_len : GV "len" (V.lit (.builtin "len")) := .of_builtin (fun P => by kernel_rfl) (by kernel_rfl) (by kernel_rfl)
theorem G_sorted : GV "sorted" (V.lit (.builtin "sorted")) := .of_builtin (fun P => by kernel_rfl) (by kernel_rfl) (by kernel_rfl)
theorem G_Entry : GV "Entry" (V.ref 299) := .of_ref fun P => by kernel_rfl
theorem G_varint_length : GV "varint_length" (V.ref 170) := .of_ref fun P => by kernel_rfl
theorem G_Sink : GV "Sink" (V.ref 243) := .of_ref fun P => by kernel_rfl
theorem G_rising : GV "rising" (V.ref 254) := .of_ref fun P => by kernel_rfl
theorem G_tuple : GV "tuple" (V.lit (.type "tuple")) := .of_builtin (fun P => by kernel_rfl) (by kernel_rfl) (by kernel_rfl)
theorem G_ConfState : GV "ConfState" (V.ref 397) := .of_ref fun P => by kernel_rfl
theorem G_put_ids : GV "put_ids" (V.ref 408) := .of_ref fun P => by kernel_rfl
theorem G_Snapshot : GV "Snapshot" (V.ref 453) := .of_ref fun P => by kernel_rfl
theorem G_encode_conf : GV "encode_conf" (V.ref 415) := .of_ref fun P => by kernel_rfl
theorem G_Message : GV "Message" (V.ref 491) := .of_ref fun P => by kernel_rfl
theorem G_encode_entry : GV "encode_entry" (V.ref 310) := .of_ref fun P => by kernel_rfl
theorem G_encode_snapshot : GV "encode_snapshot" (V.ref 464) := .of_ref fun P => by kernel_rfl
theorem G_HardState : GV "HardState" (V.ref 362) := .of_ref fun P => by kernel_rfl
theorem G_Compacted : GV "Compacted" (V.ref 80) := .of_ref fun P => by kernel_rfl
theorem G_Unavailable : GV "Unavailable" (V.ref 92) := .of_ref fun P => by kernel_rfl
theorem G_limit_size : GV "limit_size" (V.ref 317) := .of_ref fun P => by kernel_rfl
theorem G_SnapNotReady : GV "SnapNotReady" (V.ref 116) := .of_ref fun P => by kernel_rfl
theorem G_range : GV "range" (V.lit (.type "range")) := .of_builtin (fun P => by kernel_rfl) (by kernel_rfl) (by kernel_rfl)
theorem G_LogGap : GV "LogGap" (V.ref 128) := .of_ref fun P => by kernel_rfl
theorem G_SnapOutOfDate : GV "SnapOutOfDate" (V.ref 104) := .of_ref fun P => by kernel_rfl
theorem G_LogPanic : GV "LogPanic" (V.ref 140) := .of_ref fun P => by kernel_rfl
theorem G_Unstable : GV "Unstable" (V.ref 687) := .of_ref fun P => by kernel_rfl
theorem G_max : GV "max" (V.lit (.builtin "max")) := .of_builtin (fun P => by kernel_rfl) (by kernel_rfl) (by kernel_rfl)
theorem G_NO_LIMIT : GV "NO_LIMIT" (V.int 18446744073709551615) := .of_int (t := 492) fun P => by kernel_rfl
theorem G_min : GV "min" (V.lit (.builtin "min")) := .of_builtin (fun P => by kernel_rfl) (by kernel_rfl) (by kernel_rfl)
theorem G_sum : GV "sum" (V.lit (.builtin "sum")) := .of_builtin (fun P => by kernel_rfl) (by kernel_rfl) (by kernel_rfl)
theorem G__law_width : GV "_law_width" (V.ref 943) := .of_ref fun P => by kernel_rfl
theorem G__law_rows : GV "_law_rows" (V.ref 970) := .of_ref fun P => by kernel_rfl
theorem G_encode_message : GV "encode_message" (V.ref 502) := .of_ref fun P => by kernel_rfl
theorem G__law_ends : GV "_law_ends" (V.ref 953) := .of_ref fun P => by kernel_rfl
theorem G__law_fewest : GV "_law_fewest" (V.ref 958) := .of_ref fun P => by kernel_rfl
theorem G__law_weight : GV "_law_weight" (V.ref 948) := .of_ref fun P => by kernel_rfl
@[reducible] noncomputable def C_Sink : CL := ⟨243, ["parts"], [mp "varint" 191, mp "lengthed" 212, mp "flag" 226, mp "done" 240], 184, fun P => by kernel_rfl⟩
@[reducible] noncomputable def C_Entry : CL := ⟨299, ["term", "index", "kind", "data"], [mp "row" 275, mp "copy" 282, mp "size" 296], 268, fun P => by kernel_rfl⟩
theorem C_Entry_keep (P : Params) : keepIn (KF P) (.ref 299) = true := (C_Entry.good P).keep
@[reducible] noncomputable def C_HardState : CL := ⟨362, ["term", "vote", "commit"], [], 331, fun P => by kernel_rfl⟩
@[reducible] noncomputable def C_ConfState : CL := ⟨397, ["voters", "learners", "outgoing", "learners_next", "auto_leave"], [mp "row" 387, mp "copy" 394], 380, fun P => by kernel_rfl⟩
theorem C_ConfState_keep (P : Params) : keepIn (KF P) (.ref 397) = true := (C_ConfState.good P).keep
@[reducible] noncomputable def C_Snapshot : CL := ⟨453, ["index", "term", "conf", "data"], [mp "row" 436, mp "empty" 443, mp "copy" 450], 429, fun P => by kernel_rfl⟩
theorem C_Snapshot_keep (P : Params) : keepIn (KF P) (.ref 453) = true := (C_Snapshot.good P).keep
@[reducible] noncomputable def C_Message : CL := ⟨491, ["kind", "to", "frm", "term", "log_term", "index", "entries", "commit", "snapshot", "reject", "reject_hint", "context"], [mp "row" 483, mp "copy" 488], 478, fun P => by kernel_rfl⟩
@[reducible] noncomputable def C_MemoryStorage : CL := ⟨603, ["hard", "conf", "snap", "base_index", "base_term", "entries"], [mp "first_index" 530, mp "last_index" 537, mp "entries_between" 544, mp "term_at" 551, mp "snapshot" 558, mp "append" 572, mp "apply_snapshot" 579], 516, fun P => by kernel_rfl⟩
theorem C_MemoryStorage_keep (P : Params) : keepIn (KF P) (.ref 603) = true := (C_MemoryStorage.good P).keep
@[reducible] noncomputable def C_Unstable : CL := ⟨687, ["snapshot", "entries", "offset"], [mp "maybe_first" 628, mp "maybe_last" 635, mp "maybe_term" 642, mp "stable_to" 649, mp "truncate_and_append" 670, mp "part" 677], 621, fun P => by kernel_rfl⟩
@[reducible] noncomputable def C_RaftLog : CL := ⟨897, ["storage", "max_committed", "unstable", "committed", "applied"], [mp "first_index" 712, mp "last_index" 719, mp "term" 733, mp "append" 768, mp "commit_to" 796, mp "applied_to" 810, mp "stable_to" 817, mp "unstable_entries" 831, mp "pending_snapshot" 838, mp "first_unapplied" 845, mp "has_next" 852, mp "next_committed" 859, mp "snapshot" 866, mp "entries" 873, mp "all_entries" 880, mp "slice" 887], 705, fun P => by kernel_rfl⟩
@[reducible] noncomputable def F_write_groups : FS := ⟨(stmtAt 15), 149, "write_groups", 148, "raftkeep.octets", 360, 2, ["n", "most", "out"], [gp "BadOption" (V.ref 56), gp "bytearray" (V.lit (.type "bytearray")), gp "bytes" (V.lit (.type "bytes"))]⟩
theorem F_write_groups_ok : FSOk F_write_groups where
  ok := by kernel_rfl
  le := by decide
  at_ := fun P => by kernel_rfl
  code := fun P => by kernel_rfl
  gv := gv_cons G_BadOption (gv_cons G_bytearray (gv_cons G_bytes (gv_nil)))
  bind := len2 fun a0 a1 => by kernel_rfl
  cell := by kernel_rfl
theorem F_write_groups_keep (P : Params) : keepIn (KF P) (.ref 149) = true := fnKeep (F_write_groups_ok.at_ P) rfl
@[reducible] noncomputable def F_put_varint : FS := ⟨(stmtAt 16), 156, "put_varint", 155, "raftkeep.octets", 360, 1, ["n"], [gp "bytes" (V.lit (.type "bytes")), gp "write_groups" (V.ref 149), gp "MAX_64" (V.int 18446744073709551615)]⟩
theorem F_put_varint_ok : FSOk F_put_varint where
  ok := by kernel_rfl
  le := by decide
  at_ := fun P => by kernel_rfl
  code := fun P => by kernel_rfl
  gv := gv_cons G_bytes (gv_cons G_write_groups (gv_cons G_MAX_64 (gv_nil)))
  bind := len1 fun a0 => by kernel_rfl
  cell := by kernel_rfl
theorem F_put_varint_keep (P : Params) : keepIn (KF P) (.ref 156) = true := fnKeep (F_put_varint_ok.at_ P) rfl
@[reducible] noncomputable def F_put_varint32 : FS := ⟨(stmtAt 17), 163, "put_varint32", 162, "raftkeep.octets", 360, 1, ["n"], [gp "bytes" (V.lit (.type "bytes")), gp "write_groups" (V.ref 149), gp "MAX_32" (V.int 4294967295)]⟩
theorem F_put_varint32_ok : FSOk F_put_varint32 where
  ok := by kernel_rfl
  le := by decide
  at_ := fun P => by kernel_rfl
  code := fun P => by kernel_rfl
  gv := gv_cons G_bytes (gv_cons G_write_groups (gv_cons G_MAX_32 (gv_nil)))
  bind := len1 fun a0 => by kernel_rfl
  cell := by kernel_rfl
theorem F_put_varint32_keep (P : Params) : keepIn (KF P) (.ref 163) = true := fnKeep (F_put_varint32_ok.at_ P) rfl
@[reducible] noncomputable def F_varint_length : FS := ⟨(stmtAt 18), 170, "varint_length", 169, "raftkeep.octets", 360, 1, ["n", "count"], [gp "MAX_64" (V.int 18446744073709551615), gp "BadOption" (V.ref 56)]⟩
theorem F_varint_length_ok : FSOk F_varint_length where
  ok := by kernel_rfl
  le := by decide
  at_ := fun P => by kernel_rfl
  code := fun P => by kernel_rfl
  gv := gv_cons G_MAX_64 (gv_cons G_BadOption (gv_nil))
  bind := len1 fun a0 => by kernel_rfl
  cell := by kernel_rfl
theorem F_varint_length_keep (P : Params) : keepIn (KF P) (.ref 170) = true := fnKeep (F_varint_length_ok.at_ P) rfl
@[reducible] noncomputable def F_Sink_init : FS := ⟨(methAt 19 0), 184, "Sink.__init__", 183, "raftkeep.octets", 360, 1, ["self"], [gp "bytearray" (V.lit (.type "bytearray"))]⟩
theorem F_Sink_init_ok : FSOk F_Sink_init where
  ok := by kernel_rfl
  le := by decide
  at_ := fun P => by kernel_rfl
  code := fun P => by kernel_rfl
  gv := gv_cons G_bytearray (gv_nil)
  bind := len1 fun a0 => by kernel_rfl
  cell := by kernel_rfl
@[reducible] noncomputable def F_Sink_varint : FS := ⟨(methAt 19 1), 191, "Sink.varint", 190, "raftkeep.octets", 360, 2, ["self", "n"], [gp "put_varint" (V.ref 156)]⟩
theorem F_Sink_varint_ok : FSOk F_Sink_varint where
  ok := by kernel_rfl
  le := by decide
  at_ := fun P => by kernel_rfl
  code := fun P => by kernel_rfl
  gv := gv_cons G_put_varint (gv_nil)
  bind := len2 fun a0 a1 => by kernel_rfl
  cell := by kernel_rfl
@[reducible] noncomputable def F_Sink_lengthed : FS := ⟨(methAt 19 4), 212, "Sink.lengthed", 211, "raftkeep.octets", 360, 2, ["self", "b"], [gp "put_varint32" (V.ref 163), gp "len" (V.lit (.builtin "len"))]⟩
theorem F_Sink_lengthed_ok : FSOk F_Sink_lengthed where
  ok := by kernel_rfl
  le := by decide
  at_ := fun P => by kernel_rfl
  code := fun P => by kernel_rfl
  gv := gv_cons G_put_varint32 (gv_cons G_len (gv_nil))
  bind := len2 fun a0 a1 => by kernel_rfl
  cell := by kernel_rfl
@[reducible] noncomputable def F_Sink_flag : FS := ⟨(methAt 19 6), 226, "Sink.flag", 225, "raftkeep.octets", 360, 2, ["self", "b"], []⟩
theorem F_Sink_flag_ok : FSOk F_Sink_flag where
  ok := by kernel_rfl
  le := by decide
  at_ := fun P => by kernel_rfl
  code := fun P => by kernel_rfl
  gv := gv_nil
  bind := len2 fun a0 a1 => by kernel_rfl
  cell := by kernel_rfl
@[reducible] noncomputable def F_Sink_done : FS := ⟨(methAt 19 8), 240, "Sink.done", 239, "raftkeep.octets", 360, 1, ["self"], [gp "bytes" (V.lit (.type "bytes"))]⟩
theorem F_Sink_done_ok : FSOk F_Sink_done where
  ok := by kernel_rfl
  le := by decide
  at_ := fun P => by kernel_rfl
  code := fun P => by kernel_rfl
  gv := gv_cons G_bytes (gv_nil)
  bind := len1 fun a0 => by kernel_rfl
  cell := by kernel_rfl
@[reducible] noncomputable def F_rising : FS := ⟨(stmtAt 23), 254, "rising", 253, "raftkeep.messages", 488, 1, ["ids", "out", "nid"], [gp "sorted" (V.lit (.builtin "sorted"))]⟩
theorem F_rising_ok : FSOk F_rising where
  ok := by kernel_rfl
  le := by decide
  at_ := fun P => by kernel_rfl
  code := fun P => by kernel_rfl
  gv := gv_cons G_sorted (gv_nil)
  bind := len1 fun a0 => by kernel_rfl
  cell := by kernel_rfl
theorem F_rising_keep (P : Params) : keepIn (KF P) (.ref 254) = true := fnKeep (F_rising_ok.at_ P) rfl
@[reducible] noncomputable def F_Entry_init : FS := ⟨(methAt 24 0), 268, "Entry.__init__", 267, "raftkeep.messages", 488, 5, ["self", "term", "index", "kind", "data"], []⟩
theorem F_Entry_init_ok : FSOk F_Entry_init where
  ok := by kernel_rfl
  le := by decide
  at_ := fun P => by kernel_rfl
  code := fun P => by kernel_rfl
  gv := gv_nil
  bind := len5 fun a0 a1 a2 a3 a4 => by kernel_rfl
  cell := by kernel_rfl
@[reducible] noncomputable def F_Entry_row : FS := ⟨(methAt 24 1), 275, "Entry.row", 274, "raftkeep.messages", 488, 1, ["self"], []⟩
theorem F_Entry_row_ok : FSOk F_Entry_row where
  ok := by kernel_rfl
  le := by decide
  at_ := fun P => by kernel_rfl
  code := fun P => by kernel_rfl
  gv := gv_nil
  bind := len1 fun a0 => by kernel_rfl
  cell := by kernel_rfl
@[reducible] noncomputable def F_Entry_copy : FS := ⟨(methAt 24 2), 282, "Entry.copy", 281, "raftkeep.messages", 488, 1, ["self"], [gp "Entry" (V.ref 299)]⟩
theorem F_Entry_copy_ok : FSOk F_Entry_copy where
  ok := by kernel_rfl
  le := by decide
  at_ := fun P => by kernel_rfl
  code := fun P => by kernel_rfl
  gv := gv_cons G_Entry (gv_nil)
  bind := len1 fun a0 => by kernel_rfl
  cell := by kernel_rfl
@[reducible] noncomputable def F_Entry_size : FS := ⟨(methAt 24 4), 296, "Entry.size", 295, "raftkeep.messages", 488, 1, ["self", "length", "head"], [gp "len" (V.lit (.builtin "len")), gp "varint_length" (V.ref 170)]⟩
theorem F_Entry_size_ok : FSOk F_Entry_size where
  ok := by kernel_rfl
  le := by decide
  at_ := fun P => by kernel_rfl
  code := fun P => by kernel_rfl
  gv := gv_cons G_len (gv_cons G_varint_length (gv_nil))
  bind := len1 fun a0 => by kernel_rfl
  cell := by kernel_rfl
@[reducible] noncomputable def F_encode_entry : FS := ⟨(stmtAt 25), 310, "encode_entry", 309, "raftkeep.messages", 488, 1, ["entry", "sink"], [gp "Sink" (V.ref 243)]⟩
theorem F_encode_entry_ok : FSOk F_encode_entry where
  ok := by kernel_rfl
  le := by decide
  at_ := fun P => by kernel_rfl
  code := fun P => by kernel_rfl
  gv := gv_cons G_Sink (gv_nil)
  bind := len1 fun a0 => by kernel_rfl
  cell := by kernel_rfl
theorem F_encode_entry_keep (P : Params) : keepIn (KF P) (.ref 310) = true := fnKeep (F_encode_entry_ok.at_ P) rfl
@[reducible] noncomputable def F_limit_size : FS := ⟨(stmtAt 26), 317, "limit_size", 316, "raftkeep.messages", 488, 2, ["entries", "n", "total", "kept", "entry"], []⟩
theorem F_limit_size_ok : FSOk F_limit_size where
  ok := by kernel_rfl
  le := by decide
  at_ := fun P => by kernel_rfl
  code := fun P => by kernel_rfl
  gv := gv_nil
  bind := len2 fun a0 a1 => by kernel_rfl
  cell := by kernel_rfl
theorem F_limit_size_keep (P : Params) : keepIn (KF P) (.ref 317) = true := fnKeep (F_limit_size_ok.at_ P) rfl
@[reducible] noncomputable def F_HardState_init : FS := ⟨(methAt 27 0), 331, "HardState.__init__", 330, "raftkeep.messages", 488, 4, ["self", "term", "vote", "commit"], []⟩
theorem F_HardState_init_ok : FSOk F_HardState_init where
  ok := by kernel_rfl
  le := by decide
  at_ := fun P => by kernel_rfl
  code := fun P => by kernel_rfl
  gv := gv_nil
  bind := len4 fun a0 a1 a2 a3 => by kernel_rfl
  cell := by kernel_rfl
@[reducible] noncomputable def F_ConfState_init : FS := ⟨(methAt 28 0), 380, "ConfState.__init__", 379, "raftkeep.messages", 488, 6, ["self", "voters", "learners", "outgoing", "learners_next", "auto_leave"], [gp "rising" (V.ref 254)]⟩
theorem F_ConfState_init_ok : FSOk F_ConfState_init where
  ok := by kernel_rfl
  le := by decide
  at_ := fun P => by kernel_rfl
  code := fun P => by kernel_rfl
  gv := gv_cons G_rising (gv_nil)
  bind := len6 fun a0 a1 a2 a3 a4 a5 => by kernel_rfl
  cell := by kernel_rfl
@[reducible] noncomputable def F_ConfState_row : FS := ⟨(methAt 28 1), 387, "ConfState.row", 386, "raftkeep.messages", 488, 1, ["self"], [gp "tuple" (V.lit (.type "tuple"))]⟩
theorem F_ConfState_row_ok : FSOk F_ConfState_row where
  ok := by kernel_rfl
  le := by decide
  at_ := fun P => by kernel_rfl
  code := fun P => by kernel_rfl
  gv := gv_cons G_tuple (gv_nil)
  bind := len1 fun a0 => by kernel_rfl
  cell := by kernel_rfl
@[reducible] noncomputable def F_ConfState_copy : FS := ⟨(methAt 28 2), 394, "ConfState.copy", 393, "raftkeep.messages", 488, 1, ["self"], [gp "ConfState" (V.ref 397)]⟩
theorem F_ConfState_copy_ok : FSOk F_ConfState_copy where
  ok := by kernel_rfl
  le := by decide
  at_ := fun P => by kernel_rfl
  code := fun P => by kernel_rfl
  gv := gv_cons G_ConfState (gv_nil)
  bind := len1 fun a0 => by kernel_rfl
  cell := by kernel_rfl
@[reducible] noncomputable def F_put_ids : FS := ⟨(stmtAt 29), 408, "put_ids", 407, "raftkeep.messages", 488, 2, ["sink", "ids", "nid"], [gp "len" (V.lit (.builtin "len"))]⟩
theorem F_put_ids_ok : FSOk F_put_ids where
  ok := by kernel_rfl
  le := by decide
  at_ := fun P => by kernel_rfl
  code := fun P => by kernel_rfl
  gv := gv_cons G_len (gv_nil)
  bind := len2 fun a0 a1 => by kernel_rfl
  cell := by kernel_rfl
theorem F_put_ids_keep (P : Params) : keepIn (KF P) (.ref 408) = true := fnKeep (F_put_ids_ok.at_ P) rfl
@[reducible] noncomputable def F_encode_conf : FS := ⟨(stmtAt 30), 415, "encode_conf", 414, "raftkeep.messages", 488, 1, ["conf", "sink"], [gp "Sink" (V.ref 243), gp "put_ids" (V.ref 408)]⟩
theorem F_encode_conf_ok : FSOk F_encode_conf where
  ok := by kernel_rfl
  le := by decide
  at_ := fun P => by kernel_rfl
  code := fun P => by kernel_rfl
  gv := gv_cons G_Sink (gv_cons G_put_ids (gv_nil))
  bind := len1 fun a0 => by kernel_rfl
  cell := by kernel_rfl
theorem F_encode_conf_keep (P : Params) : keepIn (KF P) (.ref 415) = true := fnKeep (F_encode_conf_ok.at_ P) rfl
@[reducible] noncomputable def F_Snapshot_init : FS := ⟨(methAt 31 0), 429, "Snapshot.__init__", 428, "raftkeep.messages", 488, 5, ["self", "index", "term", "conf", "data"], []⟩
theorem F_Snapshot_init_ok : FSOk F_Snapshot_init where
  ok := by kernel_rfl
  le := by decide
  at_ := fun P => by kernel_rfl
  code := fun P => by kernel_rfl
  gv := gv_nil
  bind := len5 fun a0 a1 a2 a3 a4 => by kernel_rfl
  cell := by kernel_rfl
@[reducible] noncomputable def F_Snapshot_row : FS := ⟨(methAt 31 1), 436, "Snapshot.row", 435, "raftkeep.messages", 488, 1, ["self"], []⟩
theorem F_Snapshot_row_ok : FSOk F_Snapshot_row where
  ok := by kernel_rfl
  le := by decide
  at_ := fun P => by kernel_rfl
  code := fun P => by kernel_rfl
  gv := gv_nil
  bind := len1 fun a0 => by kernel_rfl
  cell := by kernel_rfl
@[reducible] noncomputable def F_Snapshot_copy : FS := ⟨(methAt 31 3), 450, "Snapshot.copy", 449, "raftkeep.messages", 488, 1, ["self"], [gp "Snapshot" (V.ref 453)]⟩
theorem F_Snapshot_copy_ok : FSOk F_Snapshot_copy where
  ok := by kernel_rfl
  le := by decide
  at_ := fun P => by kernel_rfl
  code := fun P => by kernel_rfl
  gv := gv_cons G_Snapshot (gv_nil)
  bind := len1 fun a0 => by kernel_rfl
  cell := by kernel_rfl
@[reducible] noncomputable def F_encode_snapshot : FS := ⟨(stmtAt 32), 464, "encode_snapshot", 463, "raftkeep.messages", 488, 1, ["snapshot", "sink"], [gp "Sink" (V.ref 243), gp "encode_conf" (V.ref 415)]⟩
theorem F_encode_snapshot_ok : FSOk F_encode_snapshot where
  ok := by kernel_rfl
  le := by decide
  at_ := fun P => by kernel_rfl
  code := fun P => by kernel_rfl
  gv := gv_cons G_Sink (gv_cons G_encode_conf (gv_nil))
  bind := len1 fun a0 => by kernel_rfl
  cell := by kernel_rfl
theorem F_encode_snapshot_keep (P : Params) : keepIn (KF P) (.ref 464) = true := fnKeep (F_encode_snapshot_ok.at_ P) rfl
@[reducible] noncomputable def F_Message_init : FS := ⟨(methAt 33 0), 478, "Message.__init__", 477, "raftkeep.messages", 488, 5, ["self", "kind", "to", "frm", "term"], []⟩
theorem F_Message_init_ok : FSOk F_Message_init where
  ok := by kernel_rfl
  le := by decide
  at_ := fun P => by kernel_rfl
  code := fun P => by kernel_rfl
  gv := gv_nil
  bind := len5 fun a0 a1 a2 a3 a4 => by kernel_rfl
  cell := by kernel_rfl
@[reducible] noncomputable def F_Message_row : FS := ⟨(methAt 33 1), 483, "Message.row", 482, "raftkeep.messages", 488, 1, ["self", "entries", "snapshot"], [gp "tuple" (V.lit (.type "tuple"))]⟩
theorem F_Message_row_ok : FSOk F_Message_row where
  ok := by kernel_rfl
  le := by decide
  at_ := fun P => by kernel_rfl
  code := fun P => by kernel_rfl
  gv := gv_cons G_tuple (gv_nil)
  bind := len1 fun a0 => by kernel_rfl
  cell := by kernel_rfl
@[reducible] noncomputable def F_Message_copy : FS := ⟨(methAt 33 2), 488, "Message.copy", 487, "raftkeep.messages", 488, 1, ["self", "other"], [gp "Message" (V.ref 491)]⟩
theorem F_Message_copy_ok : FSOk F_Message_copy where
  ok := by kernel_rfl
  le := by decide
  at_ := fun P => by kernel_rfl
  code := fun P => by kernel_rfl
  gv := gv_cons G_Message (gv_nil)
  bind := len1 fun a0 => by kernel_rfl
  cell := by kernel_rfl
@[reducible] noncomputable def F_encode_message : FS := ⟨(stmtAt 34), 502, "encode_message", 501, "raftkeep.messages", 488, 1, ["message", "sink", "entry"], [gp "Sink" (V.ref 243), gp "len" (V.lit (.builtin "len")), gp "encode_entry" (V.ref 310), gp "encode_snapshot" (V.ref 464)]⟩
theorem F_encode_message_ok : FSOk F_encode_message where
  ok := by kernel_rfl
  le := by decide
  at_ := fun P => by kernel_rfl
  code := fun P => by kernel_rfl
  gv := gv_cons G_Sink (gv_cons G_len (gv_cons G_encode_entry (gv_cons G_encode_snapshot (gv_nil))))
  bind := len1 fun a0 => by kernel_rfl
  cell := by kernel_rfl
theorem F_encode_message_keep (P : Params) : keepIn (KF P) (.ref 502) = true := fnKeep (F_encode_message_ok.at_ P) rfl
@[reducible] noncomputable def F_MemoryStorage_init : FS := ⟨(methAt 36 0), 516, "MemoryStorage.__init__", 515, "raftkeep.raftlog", 845, 2, ["self", "conf", "begin"], [gp "len" (V.lit (.builtin "len")), gp "HardState" (V.ref 362), gp "Snapshot" (V.ref 453)]⟩
theorem F_MemoryStorage_init_ok : FSOk F_MemoryStorage_init where
  ok := by kernel_rfl
  le := by decide
  at_ := fun P => by kernel_rfl
  code := fun P => by kernel_rfl
  gv := gv_cons G_len (gv_cons G_HardState (gv_cons G_Snapshot (gv_nil)))
  bind := len2 fun a0 a1 => by kernel_rfl
  cell := by kernel_rfl
@[reducible] noncomputable def F_MemoryStorage_first_index : FS := ⟨(methAt 36 2), 530, "MemoryStorage.first_index", 529, "raftkeep.raftlog", 845, 1, ["self"], []⟩
theorem F_MemoryStorage_first_index_ok : FSOk F_MemoryStorage_first_index where
  ok := by kernel_rfl
  le := by decide
  at_ := fun P => by kernel_rfl
  code := fun P => by kernel_rfl
  gv := gv_nil
  bind := len1 fun a0 => by kernel_rfl
  cell := by kernel_rfl
@[reducible] noncomputable def F_MemoryStorage_last_index : FS := ⟨(methAt 36 3), 537, "MemoryStorage.last_index", 536, "raftkeep.raftlog", 845, 1, ["self"], [gp "len" (V.lit (.builtin "len"))]⟩
theorem F_MemoryStorage_last_index_ok : FSOk F_MemoryStorage_last_index where
  ok := by kernel_rfl
  le := by decide
  at_ := fun P => by kernel_rfl
  code := fun P => by kernel_rfl
  gv := gv_cons G_len (gv_nil)
  bind := len1 fun a0 => by kernel_rfl
  cell := by kernel_rfl
@[reducible] noncomputable def F_MemoryStorage_entries_between : FS := ⟨(methAt 36 4), 544, "MemoryStorage.entries_between", 543, "raftkeep.raftlog", 845, 4, ["self", "lo", "hi", "limit", "first"], [gp "Compacted" (V.ref 80), gp "Unavailable" (V.ref 92), gp "limit_size" (V.ref 317)]⟩
theorem F_MemoryStorage_entries_between_ok : FSOk F_MemoryStorage_entries_between where
  ok := by kernel_rfl
  le := by decide
  at_ := fun P => by kernel_rfl
  code := fun P => by kernel_rfl
  gv := gv_cons G_Compacted (gv_cons G_Unavailable (gv_cons G_limit_size (gv_nil)))
  bind := len4 fun a0 a1 a2 a3 => by kernel_rfl
  cell := by kernel_rfl
@[reducible] noncomputable def F_MemoryStorage_term_at : FS := ⟨(methAt 36 5), 551, "MemoryStorage.term_at", 550, "raftkeep.raftlog", 845, 2, ["self", "i"], [gp "Compacted" (V.ref 80), gp "Unavailable" (V.ref 92)]⟩
theorem F_MemoryStorage_term_at_ok : FSOk F_MemoryStorage_term_at where
  ok := by kernel_rfl
  le := by decide
  at_ := fun P => by kernel_rfl
  code := fun P => by kernel_rfl
  gv := gv_cons G_Compacted (gv_cons G_Unavailable (gv_nil))
  bind := len2 fun a0 a1 => by kernel_rfl
  cell := by kernel_rfl
@[reducible] noncomputable def F_MemoryStorage_snapshot : FS := ⟨(methAt 36 6), 558, "MemoryStorage.snapshot", 557, "raftkeep.raftlog", 845, 1, ["self"], [gp "SnapNotReady" (V.ref 116)]⟩
theorem F_MemoryStorage_snapshot_ok : FSOk F_MemoryStorage_snapshot where
  ok := by kernel_rfl
  le := by decide
  at_ := fun P => by kernel_rfl
  code := fun P => by kernel_rfl
  gv := gv_cons G_SnapNotReady (gv_nil)
  bind := len1 fun a0 => by kernel_rfl
  cell := by kernel_rfl
@[reducible] noncomputable def F_MemoryStorage_append : FS := ⟨(methAt 36 8), 572, "MemoryStorage.append", 571, "raftkeep.raftlog", 845, 2, ["self", "entries", "start", "k", "first"], [gp "len" (V.lit (.builtin "len")), gp "range" (V.lit (.type "range")), gp "LogGap" (V.ref 128)]⟩
theorem F_MemoryStorage_append_ok : FSOk F_MemoryStorage_append where
  ok := by kernel_rfl
  le := by decide
  at_ := fun P => by kernel_rfl
  code := fun P => by kernel_rfl
  gv := gv_cons G_len (gv_cons G_range (gv_cons G_LogGap (gv_nil)))
  bind := len2 fun a0 a1 => by kernel_rfl
  cell := by kernel_rfl
@[reducible] noncomputable def F_MemoryStorage_apply_snapshot : FS := ⟨(methAt 36 9), 579, "MemoryStorage.apply_snapshot", 578, "raftkeep.raftlog", 845, 2, ["self", "snapshot"], [gp "SnapOutOfDate" (V.ref 104)]⟩
theorem F_MemoryStorage_apply_snapshot_ok : FSOk F_MemoryStorage_apply_snapshot where
  ok := by kernel_rfl
  le := by decide
  at_ := fun P => by kernel_rfl
  code := fun P => by kernel_rfl
  gv := gv_cons G_SnapOutOfDate (gv_nil)
  bind := len2 fun a0 a1 => by kernel_rfl
  cell := by kernel_rfl
@[reducible] noncomputable def F_Unstable_init : FS := ⟨(methAt 37 0), 621, "Unstable.__init__", 620, "raftkeep.raftlog", 845, 2, ["self", "offset"], []⟩
theorem F_Unstable_init_ok : FSOk F_Unstable_init where
  ok := by kernel_rfl
  le := by decide
  at_ := fun P => by kernel_rfl
  code := fun P => by kernel_rfl
  gv := gv_nil
  bind := len2 fun a0 a1 => by kernel_rfl
  cell := by kernel_rfl
@[reducible] noncomputable def F_Unstable_maybe_first : FS := ⟨(methAt 37 1), 628, "Unstable.maybe_first", 627, "raftkeep.raftlog", 845, 1, ["self"], []⟩
theorem F_Unstable_maybe_first_ok : FSOk F_Unstable_maybe_first where
  ok := by kernel_rfl
  le := by decide
  at_ := fun P => by kernel_rfl
  code := fun P => by kernel_rfl
  gv := gv_nil
  bind := len1 fun a0 => by kernel_rfl
  cell := by kernel_rfl
@[reducible] noncomputable def F_Unstable_maybe_last : FS := ⟨(methAt 37 2), 635, "Unstable.maybe_last", 634, "raftkeep.raftlog", 845, 1, ["self"], [gp "len" (V.lit (.builtin "len"))]⟩
theorem F_Unstable_maybe_last_ok : FSOk F_Unstable_maybe_last where
  ok := by kernel_rfl
  le := by decide
  at_ := fun P => by kernel_rfl
  code := fun P => by kernel_rfl
  gv := gv_cons G_len (gv_nil)
  bind := len1 fun a0 => by kernel_rfl
  cell := by kernel_rfl
@[reducible] noncomputable def F_Unstable_maybe_term : FS := ⟨(methAt 37 3), 642, "Unstable.maybe_term", 641, "raftkeep.raftlog", 845, 2, ["self", "i"], [gp "len" (V.lit (.builtin "len"))]⟩
theorem F_Unstable_maybe_term_ok : FSOk F_Unstable_maybe_term where
  ok := by kernel_rfl
  le := by decide
  at_ := fun P => by kernel_rfl
  code := fun P => by kernel_rfl
  gv := gv_cons G_len (gv_nil)
  bind := len2 fun a0 a1 => by kernel_rfl
  cell := by kernel_rfl
@[reducible] noncomputable def F_Unstable_stable_to : FS := ⟨(methAt 37 4), 649, "Unstable.stable_to", 648, "raftkeep.raftlog", 845, 3, ["self", "i", "term", "found"], []⟩
theorem F_Unstable_stable_to_ok : FSOk F_Unstable_stable_to where
  ok := by kernel_rfl
  le := by decide
  at_ := fun P => by kernel_rfl
  code := fun P => by kernel_rfl
  gv := gv_nil
  bind := len3 fun a0 a1 a2 => by kernel_rfl
  cell := by kernel_rfl
@[reducible] noncomputable def F_Unstable_truncate_and_append : FS := ⟨(methAt 37 7), 670, "Unstable.truncate_and_append", 669, "raftkeep.raftlog", 845, 2, ["self", "entries", "after"], [gp "len" (V.lit (.builtin "len")), gp "LogPanic" (V.ref 140)]⟩
theorem F_Unstable_truncate_and_append_ok : FSOk F_Unstable_truncate_and_append where
  ok := by kernel_rfl
  le := by decide
  at_ := fun P => by kernel_rfl
  code := fun P => by kernel_rfl
  gv := gv_cons G_len (gv_cons G_LogPanic (gv_nil))
  bind := len2 fun a0 a1 => by kernel_rfl
  cell := by kernel_rfl
@[reducible] noncomputable def F_Unstable_part : FS := ⟨(methAt 37 8), 677, "Unstable.part", 676, "raftkeep.raftlog", 845, 3, ["self", "lo", "hi"], [gp "LogPanic" (V.ref 140), gp "len" (V.lit (.builtin "len"))]⟩
theorem F_Unstable_part_ok : FSOk F_Unstable_part where
  ok := by kernel_rfl
  le := by decide
  at_ := fun P => by kernel_rfl
  code := fun P => by kernel_rfl
  gv := gv_cons G_LogPanic (gv_cons G_len (gv_nil))
  bind := len3 fun a0 a1 a2 => by kernel_rfl
  cell := by kernel_rfl
@[reducible] noncomputable def F_RaftLog_init : FS := ⟨(methAt 38 0), 705, "RaftLog.__init__", 704, "raftkeep.raftlog", 845, 3, ["self", "storage", "max_committed", "first"], [gp "Unstable" (V.ref 687)]⟩
theorem F_RaftLog_init_ok : FSOk F_RaftLog_init where
  ok := by kernel_rfl
  le := by decide
  at_ := fun P => by kernel_rfl
  code := fun P => by kernel_rfl
  gv := gv_cons G_Unstable (gv_nil)
  bind := len3 fun a0 a1 a2 => by kernel_rfl
  cell := by kernel_rfl
@[reducible] noncomputable def F_RaftLog_first_index : FS := ⟨(methAt 38 1), 712, "RaftLog.first_index", 711, "raftkeep.raftlog", 845, 1, ["self", "i"], []⟩
theorem F_RaftLog_first_index_ok : FSOk F_RaftLog_first_index where
  ok := by kernel_rfl
  le := by decide
  at_ := fun P => by kernel_rfl
  code := fun P => by kernel_rfl
  gv := gv_nil
  bind := len1 fun a0 => by kernel_rfl
  cell := by kernel_rfl
@[reducible] noncomputable def F_RaftLog_last_index : FS := ⟨(methAt 38 2), 719, "RaftLog.last_index", 718, "raftkeep.raftlog", 845, 1, ["self", "i"], []⟩
theorem F_RaftLog_last_index_ok : FSOk F_RaftLog_last_index where
  ok := by kernel_rfl
  le := by decide
  at_ := fun P => by kernel_rfl
  code := fun P => by kernel_rfl
  gv := gv_nil
  bind := len1 fun a0 => by kernel_rfl
  cell := by kernel_rfl
@[reducible] noncomputable def F_RaftLog_term : FS := ⟨(methAt 38 4), 733, "RaftLog.term", 732, "raftkeep.raftlog", 845, 2, ["self", "i", "known"], [gp "Compacted" (V.ref 80), gp "Unavailable" (V.ref 92)]⟩
theorem F_RaftLog_term_ok : FSOk F_RaftLog_term where
  ok := by kernel_rfl
  le := by decide
  at_ := fun P => by kernel_rfl
  code := fun P => by kernel_rfl
  gv := gv_cons G_Compacted (gv_cons G_Unavailable (gv_nil))
  bind := len2 fun a0 a1 => by kernel_rfl
  cell := by kernel_rfl
@[reducible] noncomputable def F_RaftLog_append : FS := ⟨(methAt 38 9), 768, "RaftLog.append", 767, "raftkeep.raftlog", 845, 2, ["self", "entries", "before"], [gp "len" (V.lit (.builtin "len")), gp "LogPanic" (V.ref 140), gp "LogGap" (V.ref 128)]⟩
theorem F_RaftLog_append_ok : FSOk F_RaftLog_append where
  ok := by kernel_rfl
  le := by decide
  at_ := fun P => by kernel_rfl
  code := fun P => by kernel_rfl
  gv := gv_cons G_len (gv_cons G_LogPanic (gv_cons G_LogGap (gv_nil)))
  bind := len2 fun a0 a1 => by kernel_rfl
  cell := by kernel_rfl
@[reducible] noncomputable def F_RaftLog_commit_to : FS := ⟨(methAt 38 13), 796, "RaftLog.commit_to", 795, "raftkeep.raftlog", 845, 2, ["self", "i"], [gp "LogPanic" (V.ref 140)]⟩
theorem F_RaftLog_commit_to_ok : FSOk F_RaftLog_commit_to where
  ok := by kernel_rfl
  le := by decide
  at_ := fun P => by kernel_rfl
  code := fun P => by kernel_rfl
  gv := gv_cons G_LogPanic (gv_nil)
  bind := len2 fun a0 a1 => by kernel_rfl
  cell := by kernel_rfl
@[reducible] noncomputable def F_RaftLog_applied_to : FS := ⟨(methAt 38 15), 810, "RaftLog.applied_to", 809, "raftkeep.raftlog", 845, 2, ["self", "i"], [gp "LogPanic" (V.ref 140)]⟩
theorem F_RaftLog_applied_to_ok : FSOk F_RaftLog_applied_to where
  ok := by kernel_rfl
  le := by decide
  at_ := fun P => by kernel_rfl
  code := fun P => by kernel_rfl
  gv := gv_cons G_LogPanic (gv_nil)
  bind := len2 fun a0 a1 => by kernel_rfl
  cell := by kernel_rfl
@[reducible] noncomputable def F_RaftLog_stable_to : FS := ⟨(methAt 38 16), 817, "RaftLog.stable_to", 816, "raftkeep.raftlog", 845, 3, ["self", "i", "term"], []⟩
theorem F_RaftLog_stable_to_ok : FSOk F_RaftLog_stable_to where
  ok := by kernel_rfl
  le := by decide
  at_ := fun P => by kernel_rfl
  code := fun P => by kernel_rfl
  gv := gv_nil
  bind := len3 fun a0 a1 a2 => by kernel_rfl
  cell := by kernel_rfl
@[reducible] noncomputable def F_RaftLog_unstable_entries : FS := ⟨(methAt 38 18), 831, "RaftLog.unstable_entries", 830, "raftkeep.raftlog", 845, 1, ["self"], []⟩
theorem F_RaftLog_unstable_entries_ok : FSOk F_RaftLog_unstable_entries where
  ok := by kernel_rfl
  le := by decide
  at_ := fun P => by kernel_rfl
  code := fun P => by kernel_rfl
  gv := gv_nil
  bind := len1 fun a0 => by kernel_rfl
  cell := by kernel_rfl
@[reducible] noncomputable def F_RaftLog_pending_snapshot : FS := ⟨(methAt 38 19), 838, "RaftLog.pending_snapshot", 837, "raftkeep.raftlog", 845, 1, ["self"], []⟩
theorem F_RaftLog_pending_snapshot_ok : FSOk F_RaftLog_pending_snapshot where
  ok := by kernel_rfl
  le := by decide
  at_ := fun P => by kernel_rfl
  code := fun P => by kernel_rfl
  gv := gv_nil
  bind := len1 fun a0 => by kernel_rfl
  cell := by kernel_rfl
@[reducible] noncomputable def F_RaftLog_first_unapplied : FS := ⟨(methAt 38 20), 845, "RaftLog.first_unapplied", 844, "raftkeep.raftlog", 845, 1, ["self"], [gp "max" (V.lit (.builtin "max"))]⟩
theorem F_RaftLog_first_unapplied_ok : FSOk F_RaftLog_first_unapplied where
  ok := by kernel_rfl
  le := by decide
  at_ := fun P => by kernel_rfl
  code := fun P => by kernel_rfl
  gv := gv_cons G_max (gv_nil)
  bind := len1 fun a0 => by kernel_rfl
  cell := by kernel_rfl
@[reducible] noncomputable def F_RaftLog_has_next : FS := ⟨(methAt 38 21), 852, "RaftLog.has_next", 851, "raftkeep.raftlog", 845, 1, ["self"], []⟩
theorem F_RaftLog_has_next_ok : FSOk F_RaftLog_has_next where
  ok := by kernel_rfl
  le := by decide
  at_ := fun P => by kernel_rfl
  code := fun P => by kernel_rfl
  gv := gv_nil
  bind := len1 fun a0 => by kernel_rfl
  cell := by kernel_rfl
@[reducible] noncomputable def F_RaftLog_next_committed : FS := ⟨(methAt 38 22), 859, "RaftLog.next_committed", 858, "raftkeep.raftlog", 845, 1, ["self"], []⟩
theorem F_RaftLog_next_committed_ok : FSOk F_RaftLog_next_committed where
  ok := by kernel_rfl
  le := by decide
  at_ := fun P => by kernel_rfl
  code := fun P => by kernel_rfl
  gv := gv_nil
  bind := len1 fun a0 => by kernel_rfl
  cell := by kernel_rfl
@[reducible] noncomputable def F_RaftLog_snapshot : FS := ⟨(methAt 38 23), 866, "RaftLog.snapshot", 865, "raftkeep.raftlog", 845, 1, ["self"], []⟩
theorem F_RaftLog_snapshot_ok : FSOk F_RaftLog_snapshot where
  ok := by kernel_rfl
  le := by decide
  at_ := fun P => by kernel_rfl
  code := fun P => by kernel_rfl
  gv := gv_nil
  bind := len1 fun a0 => by kernel_rfl
  cell := by kernel_rfl
@[reducible] noncomputable def F_RaftLog_entries : FS := ⟨(methAt 38 24), 873, "RaftLog.entries", 872, "raftkeep.raftlog", 845, 3, ["self", "i", "limit"], []⟩
theorem F_RaftLog_entries_ok : FSOk F_RaftLog_entries where
  ok := by kernel_rfl
  le := by decide
  at_ := fun P => by kernel_rfl
  code := fun P => by kernel_rfl
  gv := gv_nil
  bind := len3 fun a0 a1 a2 => by kernel_rfl
  cell := by kernel_rfl
@[reducible] noncomputable def F_RaftLog_all_entries : FS := ⟨(methAt 38 25), 880, "RaftLog.all_entries", 879, "raftkeep.raftlog", 845, 1, ["self"], [gp "NO_LIMIT" (V.int 18446744073709551615)]⟩
theorem F_RaftLog_all_entries_ok : FSOk F_RaftLog_all_entries where
  ok := by kernel_rfl
  le := by decide
  at_ := fun P => by kernel_rfl
  code := fun P => by kernel_rfl
  gv := gv_cons G_NO_LIMIT (gv_nil)
  bind := len1 fun a0 => by kernel_rfl
  cell := by kernel_rfl
@[reducible] noncomputable def F_RaftLog_slice : FS := ⟨(methAt 38 26), 887, "RaftLog.slice", 886, "raftkeep.raftlog", 845, 4, ["self", "lo", "hi", "limit", "offset", "found", "end"], [gp "LogPanic" (V.ref 140), gp "Compacted" (V.ref 80), gp "min" (V.lit (.builtin "min")), gp "Unavailable" (V.ref 92), gp "len" (V.lit (.builtin "len")), gp "max" (V.lit (.builtin "max")), gp "limit_size" (V.ref 317)]⟩
theorem F_RaftLog_slice_ok : FSOk F_RaftLog_slice where
  ok := by kernel_rfl
  le := by decide
  at_ := fun P => by kernel_rfl
  code := fun P => by kernel_rfl
  gv := gv_cons G_LogPanic (gv_cons G_Compacted (gv_cons G_min (gv_cons G_Unavailable (gv_cons G_len (gv_cons G_max (gv_cons G_limit_size (gv_nil)))))))
  bind := len4 fun a0 a1 a2 a3 => by kernel_rfl
  cell := by kernel_rfl
@[reducible] noncomputable def F__law_folds : FS := ⟨(stmtAt 40), 908, "_law_folds", 907, "law_no0427_01", 1348, 0, [], []⟩
theorem F__law_folds_ok : FSOk F__law_folds where
  ok := by kernel_rfl
  le := by decide
  at_ := fun P => by kernel_rfl
  code := fun P => by kernel_rfl
  gv := gv_nil
  bind := len0 (by kernel_rfl)
  cell := by kernel_rfl
theorem F__law_folds_keep (P : Params) : keepIn (KF P) (.ref 908) = true := fnKeep (F__law_folds_ok.at_ P) rfl
@[reducible] noncomputable def F__law_terms : FS := ⟨(stmtAt 41), 915, "_law_terms", 914, "law_no0427_01", 1348, 0, [], []⟩
theorem F__law_terms_ok : FSOk F__law_terms where
  ok := by kernel_rfl
  le := by decide
  at_ := fun P => by kernel_rfl
  code := fun P => by kernel_rfl
  gv := gv_nil
  bind := len0 (by kernel_rfl)
  cell := by kernel_rfl
theorem F__law_terms_keep (P : Params) : keepIn (KF P) (.ref 915) = true := fnKeep (F__law_terms_ok.at_ P) rfl
@[reducible] noncomputable def F__law_lengths : FS := ⟨(stmtAt 42), 922, "_law_lengths", 921, "law_no0427_01", 1348, 0, [], []⟩
theorem F__law_lengths_ok : FSOk F__law_lengths where
  ok := by kernel_rfl
  le := by decide
  at_ := fun P => by kernel_rfl
  code := fun P => by kernel_rfl
  gv := gv_nil
  bind := len0 (by kernel_rfl)
  cell := by kernel_rfl
theorem F__law_lengths_keep (P : Params) : keepIn (KF P) (.ref 922) = true := fnKeep (F__law_lengths_ok.at_ P) rfl
@[reducible] noncomputable def F__law_limits : FS := ⟨(stmtAt 43), 929, "_law_limits", 928, "law_no0427_01", 1348, 0, [], []⟩
theorem F__law_limits_ok : FSOk F__law_limits where
  ok := by kernel_rfl
  le := by decide
  at_ := fun P => by kernel_rfl
  code := fun P => by kernel_rfl
  gv := gv_nil
  bind := len0 (by kernel_rfl)
  cell := by kernel_rfl
theorem F__law_limits_keep (P : Params) : keepIn (KF P) (.ref 929) = true := fnKeep (F__law_limits_ok.at_ P) rfl
@[reducible] noncomputable def F__law_draw : FS := ⟨(stmtAt 44), 936, "_law_draw", 935, "law_no0427_01", 1348, 2, ["nums", "i"], [gp "len" (V.lit (.builtin "len"))]⟩
theorem F__law_draw_ok : FSOk F__law_draw where
  ok := by kernel_rfl
  le := by decide
  at_ := fun P => by kernel_rfl
  code := fun P => by kernel_rfl
  gv := gv_cons G_len (gv_nil)
  bind := len2 fun a0 a1 => by kernel_rfl
  cell := by kernel_rfl
theorem F__law_draw_keep (P : Params) : keepIn (KF P) (.ref 936) = true := fnKeep (F__law_draw_ok.at_ P) rfl
@[reducible] noncomputable def F__law_width : FS := ⟨(stmtAt 45), 943, "_law_width", 942, "law_no0427_01", 1348, 1, ["n"], []⟩
theorem F__law_width_ok : FSOk F__law_width where
  ok := by kernel_rfl
  le := by decide
  at_ := fun P => by kernel_rfl
  code := fun P => by kernel_rfl
  gv := gv_nil
  bind := len1 fun a0 => by kernel_rfl
  cell := by kernel_rfl
theorem F__law_width_keep (P : Params) : keepIn (KF P) (.ref 943) = true := fnKeep (F__law_width_ok.at_ P) rfl
@[reducible] noncomputable def F__law_weight : FS := ⟨(stmtAt 46), 948, "_law_weight", 947, "law_no0427_01", 1348, 1, ["row", "size"], [gp "len" (V.lit (.builtin "len")), gp "sum" (V.lit (.builtin "sum")), gp "_law_width" (V.ref 943)]⟩
theorem F__law_weight_ok : FSOk F__law_weight where
  ok := by kernel_rfl
  le := by decide
  at_ := fun P => by kernel_rfl
  code := fun P => by kernel_rfl
  gv := gv_cons G_len (gv_cons G_sum (gv_cons G__law_width (gv_nil)))
  bind := len1 fun a0 => by kernel_rfl
  cell := by kernel_rfl
theorem F__law_weight_keep (P : Params) : keepIn (KF P) (.ref 948) = true := fnKeep (F__law_weight_ok.at_ P) rfl
@[reducible] noncomputable def F__law_no_size : FS := ⟨(stmtAt 49), 965, "_law_no_size", 964, "law_no0427_01", 1348, 3, ["term", "index", "kind"], [gp "Entry" (V.ref 299), gp "BadOption" (V.ref 56)]⟩
theorem F__law_no_size_ok : FSOk F__law_no_size where
  ok := by kernel_rfl
  le := by decide
  at_ := fun P => by kernel_rfl
  code := fun P => by kernel_rfl
  gv := gv_cons G_Entry (gv_cons G_BadOption (gv_nil))
  bind := len3 fun a0 a1 a2 => by kernel_rfl
  cell := by kernel_rfl
theorem F__law_no_size_keep (P : Params) : keepIn (KF P) (.ref 965) = true := fnKeep (F__law_no_size_ok.at_ P) rfl
@[reducible] noncomputable def F__law_rows : FS := ⟨(stmtAt 50), 970, "_law_rows", 969, "law_no0427_01", 1348, 1, ["entries"], []⟩
theorem F__law_rows_ok : FSOk F__law_rows where
  ok := by kernel_rfl
  le := by decide
  at_ := fun P => by kernel_rfl
  code := fun P => by kernel_rfl
  gv := gv_nil
  bind := len1 fun a0 => by kernel_rfl
  cell := by kernel_rfl
theorem F__law_rows_keep (P : Params) : keepIn (KF P) (.ref 970) = true := fnKeep (F__law_rows_ok.at_ P) rfl
@[reducible] noncomputable def F__law_letter : FS := ⟨(stmtAt 51), 975, "_law_letter", 974, "law_no0427_01", 1348, 5, ["log", "at", "page", "snapshot", "commit", "letter", "weights", "length", "own", "row", "twin", "entry"], [gp "Message" (V.ref 491), gp "_law_rows" (V.ref 970), gp "_law_width" (V.ref 943), gp "sum" (V.lit (.builtin "sum")), gp "len" (V.lit (.builtin "len")), gp "encode_message" (V.ref 502)]⟩
theorem F__law_letter_ok : FSOk F__law_letter where
  ok := by kernel_rfl
  le := by decide
  at_ := fun P => by kernel_rfl
  code := fun P => by kernel_rfl
  gv := gv_cons G_Message (gv_cons G__law_rows (gv_cons G__law_width (gv_cons G_sum (gv_cons G_len (gv_cons G_encode_message (gv_nil))))))
  bind := len5 fun a0 a1 a2 a3 a4 => by kernel_rfl
  cell := by kernel_rfl
theorem F__law_letter_keep (P : Params) : keepIn (KF P) (.ref 975) = true := fnKeep (F__law_letter_ok.at_ P) rfl
@[reducible] noncomputable def F__law_apply : FS := ⟨(stmtAt 52), 982, "_law_apply", 981, "law_no0427_01", 1348, 5, ["log", "rows", "fold", "weights", "limit", "done", "end", "page", "k"], [gp "_law_ends" (V.ref 953), gp "_law_rows" (V.ref 970)]⟩
theorem F__law_apply_ok : FSOk F__law_apply where
  ok := by kernel_rfl
  le := by decide
  at_ := fun P => by kernel_rfl
  code := fun P => by kernel_rfl
  gv := gv_cons G__law_ends (gv_cons G__law_rows (gv_nil))
  bind := len5 fun a0 a1 a2 a3 a4 => by kernel_rfl
  cell := by kernel_rfl
theorem F__law_apply_keep (P : Params) : keepIn (KF P) (.ref 982) = true := fnKeep (F__law_apply_ok.at_ P) rfl
end
section
theorem ba_slot_append : Slot "bytearray" "append" "bytearray.append" :=
  .of (owner := "bytearray") (n := "append") (by rw [typeLookup_type, builtinLookup_eq_fast]; kernel_rfl) (by decide +kernel) (by decide +kernel) (by decide +kernel)
    (by first | exact .inl (by decide +kernel) | exact .inr (by decide +kernel)) (by rw [isSubtype_type]; kernel_rfl)
theorem ba_slot_extend : Slot "bytearray" "extend" "bytearray.extend" :=
  .of (owner := "bytearray") (n := "extend") (by rw [typeLookup_type, builtinLookup_eq_fast]; kernel_rfl) (by decide +kernel) (by decide +kernel) (by decide +kernel)
    (by first | exact .inl (by decide +kernel) | exact .inr (by decide +kernel)) (by rw [isSubtype_type]; kernel_rfl)
theorem ba_slot_init : Slot "bytearray" "__init__" "bytearray.__init__" :=
  .of (owner := "bytearray") (n := "__init__") (by rw [typeLookup_type, builtinLookup_eq_fast]; kernel_rfl) (by decide +kernel) (by decide +kernel) (by decide +kernel)
    (by first | exact .inl (by decide +kernel) | exact .inr (by decide +kernel)) (by rw [isSubtype_type]; kernel_rfl)
theorem ba_entry_append : entryFor table "bytearray.append" = some Builtin.«bytearray.append» := by first | exact entryFor_of_fast (by kernel_rfl) | exact entryFor_of_tree (by kernel_rfl)
theorem ba_entry_extend : entryFor table "bytearray.extend" = some Builtin.«bytearray.extend» := by first | exact entryFor_of_fast (by kernel_rfl) | exact entryFor_of_tree (by kernel_rfl)
theorem ba_entry_init : entryFor table "bytearray.__init__" = some Builtin.«bytearray.__init__» := by first | exact entryFor_of_fast (by kernel_rfl) | exact entryFor_of_tree (by kernel_rfl)
theorem ba_args_append (a b : Value) : argsOk "bytearray.append" ⟨[a, b], []⟩ := by unfold argsOk; kernel_rfl
theorem ba_args_extend (a b : Value) : argsOk "bytearray.extend" ⟨[a, b], []⟩ := by unfold argsOk; kernel_rfl
theorem ba_args_init (a : Value) : argsOk "bytearray.__init__" ⟨[a], []⟩ := by unfold argsOk; kernel_rfl
theorem ba_getattribute : typeLookup (.type "bytearray") "__getattribute__" = pure (some (.builtin "bytearray.__getattribute__")) := by rw [typeLookup_type, builtinLookup_eq_fast]; kernel_rfl
theorem ba_canon : (Manifest.canonical "bytearray.__getattribute__" != "object.__getattribute__") = false := by decide +kernel
theorem ba_getattr : typeLookup (.type "bytearray") "__getattr__" = pure none := by rw [typeLookup_type, builtinLookup_eq_fast]; kernel_rfl
theorem ba_type_append : typeOf (.builtin "bytearray.append") = pure (.type "method_descriptor") := by show builtinType _ = _; rw [builtinType_eq_fast]; kernel_rfl
theorem ba_type_extend : typeOf (.builtin "bytearray.extend") = pure (.type "method_descriptor") := by show builtinType _ = _; rw [builtinType_eq_fast]; kernel_rfl
theorem ba_mro : mroOf (.type "bytearray") = pure [.type "bytearray", .type "object"] := by rw [mroOf_type]; kernel_rfl
theorem ba_lookup_new : typeLookup (.type "bytearray") "__new__" = pure (some (.builtin "bytearray.__new__")) := by rw [typeLookup_type, builtinLookup_eq_fast]; kernel_rfl
theorem ba_called : TypeCalled "bytearray" "bytearray.__new__" "bytearray.__init__" :=
  ⟨by decide +kernel, by decide +kernel, ⟨_, _, ba_mro⟩, madeBy_type ba_mro ba_lookup_new (by decide +kernel), by decide +kernel, by rw [isSubtype_type]; kernel_rfl, ba_slot_init⟩
theorem dec_sub : ∀ {id : String}, badIds.contains id = false → Builtin.Bytes.decodersThatHold.contains id = false := fun {id} h => by
  unfold badIds at h
  simp only [List.contains_eq_any_beq, List.any_append, Bool.or_eq_false_iff] at h ⊢
  exact h.1
theorem okId {id : String} {args : Args} (hc : okCode (.builtin id args) = true) : Builtin.Bytes.decodersThatHold.contains id = false := dec_sub (by
  have hc : (!badIds.contains id) = true := hc
  simpa using hc)
theorem notBad {id : String} {args : Args} (hc : okCode (.builtin id args) = true) (h : badIds.contains id = true) : False := by
  have hc : (!badIds.contains id) = true := hc
  rw [h] at hc; cases hc
theorem difN {p : Prop} [Decidable p] {α : Type} {t : p → α} {e : ¬p → α} {b : α} (hn : ¬p) (k : ∀ h, e h = b) : dite p t e = b := (dif_neg hn).trans (k hn)
section
variable {α : Type} {M : Model} {A : Around} {E : Value → Shared → Prop} {s : Shared}
theorem ifF {c : Bool} {a b : Sem α} {Q : α → Shared → Prop} (hc : c = false) (h : wpC M A b Q E s) : wpC M A (if c = true then a else b) Q E s := by subst hc; exact h
theorem ifT {c : Bool} {a b : Sem α} {Q : α → Shared → Prop} (hc : c = true) (h : wpC M A a Q E s) : wpC M A (if c = true then a else b) Q E s := by subst hc; exact h
theorem wpC_exported {self : Value} {Q : Bool → Shared → Prop} (h : Q false s) : wpC M A (Builtin.Bytes.exported self) Q E s := by
  unfold Builtin.Bytes.exported
  refine wpC_bind (wpC_stack fun st hst => wpC_pure ?_)
  have : ∀ (f : Code × Pos → Bool), (∀ x, okCode x.1 = true → f x = false) → st.any f = false := fun f hf => by
    rw [List.any_eq_false]
    intro x hx
    rw [hf x (hst x hx)]; decide
  rw [this]
  · exact h
  · rintro ⟨c, p⟩ hc
    cases c with
    | builtin id args =>
      have hc : okCode (.builtin id args) = true := hc
      obtain ⟨pos, kw⟩ := args
      have ne : ∀ x : String, badIds.contains x = true → ¬ id = x := fun x hx e => notBad hc (e ▸ hx)
      delta Builtin.Bytes.exported.match_1
      refine difN (ne _ (by decide +kernel)) fun _ => difN (ne _ (by decide +kernel)) fun _ => difN (ne _ (by decide +kernel)) fun _ => difN (ne _ (by decide +kernel)) fun _ => difN (ne _ (by decide +kernel)) fun _ => ?_
      cases pos with
      | nil => rfl
      | cons v r => exact (congrArg _ (okId hc)).trans (Bool.and_false _)
    | _ => rfl
end
section
variable {prog : Program} {w : World} {A : Around} {E : Value → Shared → Prop} {s : Shared}
theorem wpC_call_slot {T : String} {name : Str} {id : String} {b : Builtin} {self : Value} {rest : List Value} {Q : Value → Shared → Prop} (h : Slot T name id) (hT : s.TypeIs self T) (hb : entryFor table id = some b) (hk : badIds.contains id = false)
    (ha : argsOk id ⟨self :: rest, []⟩) (hc : wpC (model prog w) A.in1 (b ⟨self :: rest, []⟩) (fun fin s' => ∃ v, fin = .done (.ret v) ∧ Q v s') E s) : wpC (model prog w) A (call (.builtin id) (self :: rest)) Q E s := by
  refine wpC_call (codeC_call_builtin_at (okB hk) (plainId_quiet h.plain _) hb (anyC (h.check _ _ _ _ _ _ _ _ hT ha ?_)))
  rw [Around.under_plainId h.plain]
  refine wpC_mono hc fun fin s' q => ?_
  obtain ⟨v, rfl, hv⟩ := q
  exact hv
noncomputable abbrev baObj (b : Array UInt8) : Obj := { cls := .type "bytearray", data := .bytearray b 0 }
theorem typeIs_ba {a : Addr} {b : Array UInt8} (e : s.heap.get? a = some (baObj b)) : s.TypeIs (.ref a) "bytearray" := ⟨_, e, rfl⟩
theorem wpC_checkResize {a : Addr} {b : Array UInt8} {Q : Unit → Shared → Prop} (e : s.heap.get? a = some (baObj b)) (h : Q () s) : wpC (model prog w) A (Builtin.Bytes.checkResize (.ref a)) Q E s := by
  unfold Builtin.Bytes.checkResize
  refine wpC_bind (wpC_bind (wpC_exported ?_))
  show wpC _ _ ((Builtin.Bytes.exportsOf (.ref a) >>= fun n => pure (decide (n > 0)))) _ _ _
  refine wpC_bind (anyC ?_)
  show wpAny _ _ (load a >>= _) _ _ _
  exact wpAny_bind (wpAny_load e (wpAny_pure (wpC_pure (wpC_pure h))))
theorem wpAny_baWrite {M : Model} {a : Addr} {b : Array UInt8} {f : Array UInt8 → Array UInt8} {Q : Unit → Shared → Prop} (e : s.heap.get? a = some (baObj b)) (hz : (f b).size ≤ sizeLine)
    (h : ∀ h', h'.get? a = some (baObj (f b)) → Heap.SameBut a s.heap h' → Q () { s with heap := h' }) : wpAny M A (Builtin.Bytes.write (.ref a) f) Q E s := by
  show wpAny _ _ (updateBytearray a f) _ _ _
  unfold updateBytearray
  refine wpAny_bind (wpAny_load e ?_)
  show wpAny _ _ (update a (Obj.mapBytearray f) >>= fun _ => lookBehind a) _ _ _
  refine wpAny_bind (wpAny_update e ?_)
  have e' : (s.heap.update a (Obj.mapBytearray f)).get? a = some (baObj (f b)) := Heap.get?_update_self _ e rfl
  refine wpAny_lookBehind e' ?_ (h _ e' (Heap.SameBut.update ..))
  show (if (f b).size > sizeLine then some "bytearray:memory" else none) = none
  rw [if_neg (Nat.not_lt.mpr hz)]
theorem ba_append {a : Addr} {b : Array UInt8} {n : Int} {t : Tok} {Q : Value → Shared → Prop} (e : s.heap.get? a = some (baObj b)) (hn : 0 ≤ n ∧ n < 256) (hz : b.size < 2 ^ 20)
    (h : ∀ h', h'.get? a = some (baObj (b.push n.toNat.toUInt8)) → Heap.SameBut a s.heap h' → Q .none { s with heap := h' }) : wpC (model prog w) A (call (.builtin "bytearray.append") [.ref a, .int n t]) Q E s := by
  refine wpC_call_slot ba_slot_append (typeIs_ba e) ba_entry_append (by decide +kernel) (ba_args_append _ _) ?_
  unfold Builtin.«bytearray.append»
  refine wpC_bind (wpC_of_eq (t' := pure (Value.ref a, Value.int n t)) rfl (wpC_pure ?_))
  dsimp only
  refine wpC_bind ?_
  unfold Builtin.Bytes.byteValue
  refine wpC_bind (wpC_of_eq (rfl : asIndex (.int n t) = pure n) (wpC_pure ?_))
  refine ifF (by simp only [Bool.or_eq_false_iff, decide_eq_false_iff_not]; lia) ?_
  refine wpC_pure (wpC_bind (wpC_checkResize e (stepC (wpAny_baWrite e (by rw [Array.size_push, sizeLine_eq]; lia) fun h' e' sb => ?_))))
  exact wpC_pure ⟨_, rfl, h h' e' sb⟩
theorem takeBytes_eq {id : String} {b : Array UInt8} {t : Tok} : Builtin.Bytes.takeBufferQuiet? id (.bytes b t) 0 = pure (some (b, none)) := by
  unfold Builtin.Bytes.takeBufferQuiet? Builtin.Bytes.takeBuffer?
  rw [KBy.special_eq KBy.look_buffer, KBy.own_buffer]
  simp only [show ((0 : Int) == Builtin.Bytes.fullReadOnly) = false from by decide, KBy.buffer_eq]
  first | rfl | kernel_rfl
theorem ba_extend {a : Addr} {b x : Array UInt8} {t : Tok} {Q : Value → Shared → Prop} (e : s.heap.get? a = some (baObj b)) (hz : b.size + x.size < 2 ^ 20)
    (h : ∀ h', h'.get? a = some (baObj (b ++ x)) → Heap.SameBut a s.heap h' → Q .none { s with heap := h' }) : wpC (model prog w) A (call (.builtin "bytearray.extend") [.ref a, .bytes x t]) Q E s := by
  refine wpC_call_slot ba_slot_extend (typeIs_ba e) ba_entry_extend (by decide +kernel) (ba_args_extend _ _) ?_
  unfold Builtin.«bytearray.extend»
  refine wpC_bind (wpC_of_eq (t' := pure (Value.ref a, Value.bytes x t)) rfl (wpC_pure ?_))
  dsimp only
  refine wpC_bind (wpC_of_eq (KBy.special_eq KBy.look_buffer) (wpC_pure ?_))
  refine ifT rfl ?_
  refine stepC (wpAny_rule ?_)
  refine stepC ?_
  unfold Builtin.Bytes.payload Builtin.Bytes.payload?
  refine wpAny_bind (wpAny_bind (wpAny_load e (wpAny_pure ?_)))
  refine wpAny_pure ?_
  refine wpC_bind (wpC_of_eq takeBytes_eq (wpC_pure ?_))
  dsimp only
  refine ifT rfl ?_
  have fin : wpC (model prog w) A.in1 (Builtin.Bytes.write (.ref a) (· ++ x) >>= fun _ => ret .none) (fun fin s' => ∃ v, fin = .done (.ret v) ∧ Q v s') E s :=
    stepC (wpAny_baWrite e (by rw [Array.size_append, sizeLine_eq]; lia) fun h' e' sb => wpC_pure ⟨_, rfl, h h' e' sb⟩)
  show wpC _ _ (if (!x.isEmpty) = true then (Builtin.Bytes.checkResize (.ref a) >>= fun _ => _) else _) _ _ _
  split
  · exact wpC_bind (wpC_checkResize e fin)
  · exact fin
end
theorem ba_new_entry : entryFor table "bytearray.__new__" = some Builtin.«list.__new__» := entryFor_alias (id' := "list.__new__") (by kernel_rfl) rfl (by decide +kernel) (by kernel_rfl)
theorem ba_typeCall : checkTypeCall "bytearray" ⟨[], []⟩ = pure () := by kernel_rfl
theorem ba_newCall : checkBuiltinCall "bytearray.__new__" ⟨[.type "bytearray"], []⟩ = pure () := by kernel_rfl
theorem ba_plain_new : plainId "bytearray.__new__" = true := by decide +kernel
set_option maxRecDepth 1000000 in
set_option maxHeartbeats 4000000 in
theorem ba_owner : ("bytearray.__new__".splitOn ".__new__").headD "" = "bytearray" := by simp +decide [String.splitOn, String.splitOnAux]
theorem ba_sub : isSubtype (.type "bytearray") (.type "bytearray") = pure true := by rw [isSubtype_type]; kernel_rfl
theorem ba_noDict : typeHasDict (.type "bytearray") = false := by kernel_rfl
theorem ba_release : typeLookup (.type "bytearray") "__release_buffer__" = pure (some (.builtin "bytearray.__release_buffer__")) := by rw [typeLookup_type, builtinLookup_eq_fast]; kernel_rfl
section
variable {prog : Program} {w : World} {A : Around} {E : Value → Shared → Prop} {s : Shared}
theorem ba_code_new {Q₁ : Value → Shared → Prop} (h : Q₁ (.ref s.heap.objs.size) { s with heap := s.heap.push (baObj #[]) }) :
    codeAny (model prog w) A (.call (.builtin "bytearray.__new__") ⟨[.type "bytearray"], []⟩) (wants Q₁ E) s := by
  refine codeAny_of_tree ?_
  show wpAny _ A.in1 (do checkBuiltinCall "bytearray.__new__" ⟨[.type "bytearray"], []⟩; again (.builtin "bytearray.__new__" ⟨[.type "bytearray"], []⟩)) _ _ s
  refine wpAny_bind (wpAny_of_eq ba_newCall (wpAny_pure ⟨plainId_quiet ba_plain_new _, codeAny_builtin_stack ba_new_entry rfl fun p st => ?_⟩))
  rw [Around.under_plainId ba_plain_new _]
  simp only [ba_owner]
  refine wpAny_bind (wpAny_of_eq (a := true) rfl ?_)
  refine bm_if_false rfl ?_
  refine wpAny_bind (wpAny_of_eq ba_sub ?_)
  refine bm_if_false rfl ?_
  refine wpAny_bind (wpAny_pure ?_)
  refine bm_if_true (by rw [ba_noDict]; rfl) ?_
  exact wpAny_bind (wpAny_newObj_type (wpAny_pure h) (Nat.zero_le _))
theorem wpAny_baRelease {M : Model} {a : Addr} {b : Array UInt8} {Q : Bool → Shared → Prop} (e : s.heap.get? a = some (baObj b)) (h : Q false s) : wpAny M A (Builtin.Bytes.ownRelease (.ref a)) Q E s := by
  unfold Builtin.Bytes.ownRelease Builtin.Bytes.slotIsOwn
  refine wpAny_bind (wpAny_bind (wpAny_specialOf (typeIs_ba e) ba_release ?_))
  dsimp only
  refine bm_if_false (by decide +kernel) ?_
  have key : ∀ x : String, x = "bytearray" → wpAny M A (isInstance (.ref a) (.type x)) (fun r s' => wpAny M A (pure (!r)) Q E s') E s := fun x hx => by
    rw [hx]; exact wpAny_isInstance (typeIs_ba e) ba_sub (wpAny_pure h)
  exact key _ (by decide +kernel)
theorem ba_init {a : Addr} {Q : Value → Shared → Prop} (e : s.heap.get? a = some (baObj #[]))
    (h : ∀ h', h'.get? a = some (baObj #[]) → Heap.SameBut a s.heap h' → Q .none { s with heap := h' }) : wpC (model prog w) A (call (.builtin "bytearray.__init__") [.ref a]) Q E s := by
  refine wpC_call_slot ba_slot_init (typeIs_ba e) ba_entry_init (by decide +kernel) (ba_args_init _) ?_
  unfold Builtin.«bytearray.__init__»
  refine stepC (wpAny_baRelease e ?_)
  refine ifF rfl ?_
  refine wpC_bind (wpC_of_eq (t' := pure [none, none, none]) (by kernel_rfl) (wpC_pure ?_))
  dsimp only
  refine wpC_bind (wpC_of_eq (t' := pure ()) rfl (wpC_pure ?_))
  refine wpC_bind (wpC_of_eq (t' := pure ()) rfl (wpC_pure ?_))
  refine wpC_bind (wpC_bind (wpC_exported ?_))
  show wpC _ _ ((Builtin.Bytes.exportsOf (.ref a) >>= fun n => pure (decide (n > 0)))) _ _ _
  refine wpC_bind (anyC ?_)
  show wpAny _ _ (load a >>= _) _ _ _
  refine wpAny_bind (wpAny_load e (wpAny_pure (wpC_pure ?_)))
  refine ifF rfl ?_
  refine stepC (wpAny_baWrite e (Nat.zero_le _) fun h' e' sb => ?_)
  exact wpC_pure ⟨_, rfl, h h' e' sb⟩
theorem codeC_builtin {R : Result → Shared → Prop} {id : String} {args : Args} {b : Builtin} (hk : badIds.contains id = false) (hb : entryFor table id = some b)
    (h : wpC (model prog w) (A.under (.builtin id args)) (b args) (fun fin s' => match fin with | .done f => R (.ok f) s' | .again c' => c'.quiet = true ∧ codeC (model prog w) A c' R s') (fun e s' => R (.error e) s') s) : codeC (model prog w) A (.builtin id args) R s := by
  refine codeC_of_tree (okB hk) ?_
  show wpC _ _ (match entryFor table id with | some b => b args | none => unsupported ((withoutEnding? id "#data").getD id)) _ _ s
  rw [hb]; exact h
theorem ba_make {Q : Value → Shared → Prop} (h : ∀ h', h'.get? s.heap.objs.size = some (baObj #[]) → (∀ b o, s.heap.get? b = some o → h'.get? b = some o) → Q (.ref s.heap.objs.size) { s with heap := h' }) : wpC (model prog w) A (call (.type "bytearray") []) Q E s := by
  refine wpC_call (codeC_of_tree rfl ?_)
  show wpC _ _ (callAny (.type "bytearray") _) _ _ _
  refine wpC_pure (a := Fin.again (.builtin "type.__call__" ⟨[.type "bytearray"], []⟩)) ⟨Code.quiet_builtin _ (by decide +kernel), codeC_builtin (by decide +kernel) entry_typeCall ?_⟩
  unfold Builtin.«type.__call__»
  have hn : s.heap.get? s.heap.objs.size = none := Heap.get?_none_of_le (Nat.le_refl _)
  refine ifF (by decide) ?_
  refine ifF ba_called.canCreate ?_
  refine wpC_bind (wpC_of_eq ba_typeCall (wpC_pure ?_))
  refine wpC_bind (wpC_of_eq ba_mro (wpC_pure ?_))
  refine ifF rfl ?_
  refine wpC_bind (wpC_of_eq ba_called.made (wpC_pure ?_))
  dsimp only
  refine wpC_bind (wpC_pure (wpC_bind (wpC_holding (wpC_call (codeC_any (codeAny_of_in1 (ba_code_new (E := E) (Q₁ := fun v s₁ => _) ?_)))))))
  have e : ({ s with heap := s.heap.push (baObj #[]) } : Shared).heap.get? s.heap.objs.size = some (baObj #[]) := Heap.get?_push_size _ rfl
  refine stepC (wpAny_isInstance (typeIs_ba e) ba_sub ?_)
  refine ifF rfl ?_
  refine wpC_bind (wpC_holding ?_)
  unfold callSpecial?
  refine stepC (wpAny_specialOf (typeIs_ba e) ba_slot_init.lookup ?_)
  dsimp only
  refine wpC_holding (wpC_bind (wpC_of_eq (ba_slot_init.bind _) (wpC_pure ?_)))
  dsimp only
  refine wpC_bind (ba_init e fun h' e' sb => wpC_pure ?_)
  refine wpC_pure ?_
  exact h h' e' fun b o q => (sb.2 b (fun z => by rw [z, hn] at q; cases q)).trans (Heap.get?_push_of_some _ q)
end
section
variable {hb : HB} {w : World} {prog : Program} {n : Nat} {c : FC} {ρ : List (Option V)} {L M : Led}
theorem CX.baNew {Q : V → Led → Prop} (q : ∀ r, Q (.ref r) ((r, .ba #[]) :: M)) : CX hb w prog n (.type "bytearray") [] M Q := fun xs hxs A s Qc E rm fo S K => by
  cases xs with
  | cons _ _ => exact hxs.elim
  | nil =>
    refine ba_make fun h' e k => ?_
    obtain ⟨S', T'⟩ := S.push (a := s.heap.objs.size) (o := .ba #[]) (h' := h') (tk := s.toks) k (fun b hb' => by simp only [feet, List.mem_singleton] at hb'; rw [hb']; exact Heap.get?_none_of_le (Nat.le_refl _)) (by simp [feet]) e
    exact K _ (.ref _) _ _ (q _) rfl S' T'
theorem ba_at {s : Shared} {i : Nat} {a : Addr} {b : Array UInt8} (S : StB hb.h w M s) (hi : At M i (a, .ba b)) : s.heap.get? a = some (baObj b) := S.rel _ hi.mem
theorem CX.baAppend {i : Nat} {a : Addr} {b : Array UInt8} {x : Int} {Q : V → Led → Prop} (hi : At M i (a, .ba b)) (hx : 0 ≤ x ∧ x < 256) (hz : b.size < 2 ^ 20) (q : Q .none (M.set i (a, .ba (b.push x.toNat.toUInt8)))) : CX hb w prog n (.builtin "bytearray.append") [.ref a, .int x] M Q := fun xs hxs => by
  obtain ⟨y, z, rfl, rfl, t, rfl⟩ := two_is hxs
  intro A s Qc E rm fo S K
  refine ba_append (ba_at S hi) hx hz fun h' e sb => ?_
  obtain ⟨S', T'⟩ := S.change (o' := .ba (b.push x.toNat.toUInt8)) (tk := s.toks) (h' := h') hi rfl rfl (fun y o hy e => (sb.2 y (by simpa [feet] using hy)).trans e) e
  exact K _ .none _ _ q rfl S' T'
theorem CX.baExtend {i : Nat} {a : Addr} {b x : Array UInt8} {Q : V → Led → Prop} (hi : At M i (a, .ba b)) (hz : b.size + x.size < 2 ^ 20) (q : Q .none (M.set i (a, .ba (b ++ x)))) : CX hb w prog n (.builtin "bytearray.extend") [.ref a, .bytes x] M Q := fun xs hxs => by
  obtain ⟨y, z, rfl, rfl, t, rfl⟩ := two_is hxs
  intro A s Qc E rm fo S K
  refine ba_extend (ba_at S hi) hz fun h' e sb => ?_
  obtain ⟨S', T'⟩ := S.change (o' := .ba (b ++ x)) (tk := s.toks) (h' := h') hi rfl rfl (fun y o hy e => (sb.2 y (by simpa [feet] using hy)).trans e) e
  exact K _ .none _ _ q rfl S' T'
end
end
section
theorem ba_no_bytes : typeLookup (.type "bytearray") "__bytes__" = pure none := by rw [typeLookup_type, builtinLookup_eq_fast]; kernel_rfl
theorem ba_no_index : typeLookup (.type "bytearray") "__index__" = pure none := by rw [typeLookup_type, builtinLookup_eq_fast]; kernel_rfl
theorem ba_buffer : typeLookup (.type "bytearray") "__buffer__" = pure (some (.builtin "bytearray.__buffer__")) := by rw [typeLookup_type, builtinLookup_eq_fast]; kernel_rfl
section
variable {prog : Program} {w : World} {A : Around} {E : Value → Shared → Prop} {s : Shared}
theorem wpAny_baOwn {M : Model} {a : Addr} {b : Array UInt8} {Q : Bool → Shared → Prop} (e : s.heap.get? a = some (baObj b)) (h : Q true s) : wpAny M A (Builtin.Bytes.slotIsOwn (.ref a) "__buffer__") Q E s := by
  unfold Builtin.Bytes.slotIsOwn
  refine wpAny_bind (wpAny_specialOf (typeIs_ba e) ba_buffer ?_)
  dsimp only
  refine bm_if_false (by decide +kernel) ?_
  have key : ∀ x : String, x = "bytearray" → wpAny M A (isInstance (.ref a) (.type x)) Q E s := fun x hx => by
    rw [hx]; exact wpAny_isInstance (typeIs_ba e) ba_sub h
  exact key _ (by decide +kernel)
theorem wpAny_baBuffer {M : Model} {id : String} {full : Bool} {a : Addr} {b : Array UInt8} {Q : Option (Array UInt8) → Shared → Prop} (e : s.heap.get? a = some (baObj b)) (h : Q (some b) s) : wpAny M A (Builtin.Bytes.buffer? id (.ref a) full) Q E s := by
  unfold Builtin.Bytes.buffer?
  refine wpAny_bind (wpAny_specialOf (typeIs_ba e) ba_buffer ?_)
  dsimp only
  refine wpAny_bind (wpAny_baOwn e ?_)
  refine bm_if_false rfl ?_
  refine wpAny_bind (wpAny_specialOf (typeIs_ba e) ba_buffer ?_)
  refine wpAny_bind (wpAny_baRelease e ?_)
  refine bm_if_false rfl ?_
  refine wpAny_bind ?_
  unfold Builtin.Bytes.payload Builtin.Bytes.payload?
  exact wpAny_bind (wpAny_bind (wpAny_load e (wpAny_pure (wpAny_pure (wpAny_pure h)))))
theorem ba_code_bytes {a : Addr} {b : Array UInt8} {Q : Value → Shared → Prop} (e : s.heap.get? a = some (baObj b)) (hz : b.size ≤ sizeLine) (hQ : Q (.bytes b s.toks) { s with toks := s.toks + 1 }) :
    codeAny (model prog w) A (.call (.builtin "bytes.__new__") ⟨[.type "bytes", .ref a], []⟩) (wants Q E) s := by
  refine codeAny_of_tree ?_
  show wpAny _ A.in1 (do checkBuiltinCall "bytes.__new__" ⟨[.type "bytes", .ref a], []⟩; again (.builtin "bytes.__new__" ⟨[.type "bytes", .ref a], []⟩)) _ _ s
  refine wpAny_bind (wpAny_of_eq (F.bm_newCall _) (wpAny_pure ⟨plainId_quiet F.bm_plain _, codeAny_builtin F.bm_entry ?_⟩))
  rw [Around.under_plainId F.bm_plain _]
  unfold Builtin.«bytes.__new__»
  refine wpAny_bind (wpAny_of_eq (a := true) rfl ?_)
  refine bm_if_false rfl ?_
  refine wpAny_bind (wpAny_of_eq F.bm_sub ?_)
  refine bm_if_false rfl ?_
  refine wpAny_bind (wpAny_of_eq (F.bm_bind _) ?_)
  refine wpAny_bind (wpAny_of_eq (a := ()) rfl ?_)
  refine wpAny_bind (wpAny_of_eq (a := ()) rfl ?_)
  refine bm_if_false rfl ?_
  refine wpAny_bind (wpAny_specialOf (typeIs_ba e) ba_no_bytes ?_)
  refine wpAny_bind (wpAny_bind ?_)
  show wpAny _ _ (load a >>= _) _ _ _
  refine wpAny_bind (wpAny_load e ?_)
  refine wpAny_pure (wpAny_pure ?_)
  refine bm_if_false rfl ?_
  refine wpAny_bind (wpAny_specialOf (typeIs_ba e) ba_no_index ?_)
  refine bm_if_true rfl ?_
  refine wpAny_bind (wpAny_baBuffer e ?_)
  refine wpAny_bind (wpAny_rule (wpAny_bind (wpAny_mkBytes ?_ hz)))
  show wpAny _ _ (if (Value.type "bytes" == Value.type "bytes") = true then _ else _) _ _ _
  refine bm_if_true (by decide) ?_
  first
    | exact wpAny_pure hQ
    | exact wpAny_bind (wpAny_pure (wpAny_pure hQ))
theorem bytes_of_ba {a : Addr} {b : Array UInt8} {Q : Value → Shared → Prop} (e : s.heap.get? a = some (baObj b)) (hz : b.size ≤ sizeLine) (hQ : Q (.bytes b s.toks) { s with toks := s.toks + 1 }) : wpAny (model prog w) A (call (.type "bytes") [.ref a]) Q E s := by
  refine callType_codes (Q₁ := fun obj s₁ => s₁.TypeIs obj "bytes" ∧ Q obj s₁) F.bm_called (F.bm_typeCall _) F.entry_object_init (ba_code_bytes e hz ⟨PySem.W.typeIs_bytes _ _ _, hQ⟩) fun obj s₁ h₁ => ?_
  exact ⟨h₁.1, F.args_object_init_2 obj _, object_init_meets F.bm_called.init.lookup F.bm_called.made (by decide) prog w A.in1 _ s₁ ⟨h₁.1, rfl, h₁.2⟩⟩
theorem gives_mul1 {b : UInt8} {t u : Tok} : Gives (Builtin.«bytes.__mul__» ⟨[.bytes #[b] t, .int 1 u], []⟩) (.val (.bytes #[b] t)) := by
  refine .of_wp fun M A E s Q hq => ?_
  show wpAny M A (Builtin.Bytes.repeatArgs .bytes "__mul__" ⟨[.bytes #[b] t, .int 1 u], []⟩ >>= fun r => _) _ E s
  refine wpAny_bind (wpAny_of_eq (BMul.args_eq (by decide)) ?_)
  refine wpAny_bind (wpAny_of_eq (a := #[b]) rfl ?_)
  show wpAny M A (if (#[b] : Array UInt8).size * (1 : Int).toNat ≥ 2 ^ 63 then _ else _) _ E s
  rw [if_neg (by show ¬ (1 * 1 ≥ 2 ^ 63); lia)]
  refine bm_if_true rfl ?_
  refine wpAny_bind (wpAny_typeOf (PySem.W.typeIs_bytes s _ t) ?_)
  refine bm_if_true (by decide) ?_
  exact wpAny_bind (wpAny_rule (wpAny_pure ⟨_, rfl, hq⟩))
theorem repeated_one {b : UInt8} {n : Nat} : Builtin.Bytes.repeated #[b] n = Array.replicate n b := by
  have := BMul.repeated_list (b := [b]) (by simp) n
  rw [show ([b].toArray : Array UInt8) = #[b] from rfl] at this
  rw [this]
  apply Array.toList_inj.mp
  simp only [Array.toList_replicate]
  induction n with
  | zero => rfl
  | succ n ih =>
    rw [List.replicate_succ, List.flatten_cons, List.replicate_succ, ih (BMul.repeated_list (b := [b]) (by simp) n)]; rfl
theorem bytes_mul {b : UInt8} {n : Int} {t u : Tok} {Q : Value → Shared → Prop} (h0 : 0 ≤ n) (hn : n ≤ 1000) (h : ∀ t' k, Q (.bytes (Array.replicate n.toNat b) t') { s with toks := k }) :
    wpAny (model prog w) A (binaryOp .Mult (.bytes #[b] t) (.int n u)) Q E s := by
  have hf : Builtin.Bytes.fitsIndex n = true := by
    simp only [Builtin.Bytes.fitsIndex, Bool.and_eq_true, decide_eq_true_eq]
    lia
  by_cases q : n = 1
  · subst q
    refine wpAny_binaryOp_repeat (T := "bytes") (U := "int") (by decide) (fun s' => PySem.W.typeIs_bytes s' _ t) (fun s' => typeIs_int s' 1 u) BMul.noFill F.fills_int_mul F.slot_int_rmul BMul.repeats F.slot_int_index.lookup
      (call_gives F.slot_int_rmul (typeIs_int s 1 u) F.entry_int_rmul (F.args_int_rmul_2 _ _) (BMul.int_declines 1 u _ t)
        ⟨rfl, call_gives BMul.slot_mul (PySem.W.typeIs_bytes s _ t) BMul.entry_mul (BMul.args_mul _ _) gives_mul1 ?_⟩)
    exact h t s.toks
  · have hsz : (#[b] : Array UInt8).size * n.toNat = n.toNat := by simp
    refine wpAny_binaryOp_repeat (T := "bytes") (U := "int") (by decide) (fun s' => PySem.W.typeIs_bytes s' _ t) (fun s' => typeIs_int s' n u) BMul.noFill F.fills_int_mul F.slot_int_rmul BMul.repeats F.slot_int_index.lookup
      (call_gives F.slot_int_rmul (typeIs_int s n u) F.entry_int_rmul (F.args_int_rmul_2 _ _) (BMul.int_declines n u _ t)
        ⟨rfl, call_gives BMul.slot_mul (PySem.W.typeIs_bytes s _ t) BMul.entry_mul (BMul.args_mul _ _) (BMul.gives_mul hf (by rw [hsz]; lia) (by rw [hsz]; exact beq_false_of_ne (by show n.toNat ≠ 1; lia)) (by rw [hsz]; exact KBy.tooLong_not (by lia))) ?_⟩)
    rw [repeated_one]
    exact ⟨by rw [Array.size_replicate, sizeLine_eq]; omega, h _ _⟩
theorem getMethod_ba {M : Model} {a : Addr} {b : Array UInt8} {name : Str} {id : String} {pl : Sem Bool} {Q : Value × List Value → Shared → Prop} (e : s.heap.get? a = some (baObj b)) (hs : Slot "bytearray" name id) (ht : typeOf (.builtin id) = pure (.type "method_descriptor")) (h : Q (.builtin id, [.ref a]) s) :
    wpAny M A (getMethod (.ref a) name pl) Q E s := by
  have hT := typeIs_ba e
  unfold getMethod
  refine wpAny_bind (wpAny_specialOf hT ba_getattribute ?_)
  show wpAny M A (if (Manifest.canonical "bytearray.__getattribute__" != "object.__getattribute__") = true then _ else _) Q E s
  rw [ba_canon, if_neg Bool.false_ne_true]
  refine wpAny_bind (wpAny_specialOf hT ba_getattr ?_)
  refine wpAny_bind (wpAny_specialOf hT hs.lookup ?_)
  refine wpAny_bind (wpAny_of_eq ht ?_)
  refine wpAny_bind (wpAny_load e ?_)
  exact wpAny_bind (wpAny_rule (wpAny_pure h))
end
section
variable {hb : HB} {w : World} {prog : Program} {n : Nat} {c : FC} {ρ : List (Option V)} {L M : Led}
theorem CX.bytesBa {i : Nat} {a : Addr} {b : Array UInt8} {Q : V → Led → Prop} (hi : At M i (a, .ba b)) (hz : b.size ≤ 2 ^ 20) (q : Q (.bytes b) M) : CX hb w prog n (.type "bytes") [.ref a] M Q := fun xs hxs => by
  obtain ⟨y, rfl, rfl⟩ := one_is hxs
  exact AC.calm (b := .bytes b) (fun A s Qc E rm fo S k => bytes_of_ba (ba_at S hi) (by rw [sizeLine_eq]; lia) (k _ s.heap (s.toks + 1) ⟨_, rfl⟩ fun _ _ e => e)) q
theorem CX.bytesInts {i : Nat} {a : Addr} {ns : List Int} {Q : V → Led → Prop} (hi : At M i (a, .list (ns.map .int))) (hr : ∀ x ∈ ns, 0 ≤ x ∧ x < 256) (hz : ns.length < 2 ^ 20) (q : Q (.bytes (byteArr ns)) M) : CX hb w prog n (.type "bytes") [.ref a] M Q := fun xs hxs => by
  obtain ⟨y, rfl, rfl⟩ := one_is hxs
  refine AC.calm (b := .bytes (byteArr ns)) (fun A s Qc E rm fo S k => ?_) q
  obtain ⟨ys, hl, r⟩ := isList_at S hi
  have hlen := r.length
  have hI : ∀ {ns : List Int} {xs : List Value}, AllIs (ns.map .int) xs → IntsAre xs ns := by
    intro ns
    induction ns with
    | nil => intro xs h; cases xs with
      | nil => exact .nil
      | cons _ _ => exact h.elim
    | cons n ns ih => intro xs h; cases xs with
      | nil => exact h.elim
      | cons x xs => obtain ⟨⟨t, rfl⟩, h⟩ := h; exact .cons _ _ (ih h)
  exact call_bytes_ints (vs := ys.toList) (by simpa using hl) (hI r) hr (by rw [← hlen, List.length_map, sizeLine_eq]; lia) rm.hh fun h' t tk hk => k _ h' tk ⟨t, rfl⟩ hk
theorem EX.mulBytes {b : UInt8} {m : Int} {x y : Value} {Q : V → Led → Prop} (hx : (V.bytes #[b]).Is x) (hy : (V.int m).Is y) (h0 : 0 ≤ m) (h1 : m ≤ 1000) (q : Q (.bytes (Array.replicate m.toNat b)) L) : EX hb w prog n c ρ L (binaryOp .Mult x y) Q := by
  obtain ⟨t, rfl⟩ := hx; obtain ⟨u, rfl⟩ := hy
  exact AC.calm (R := V.Is) (b := V.bytes (Array.replicate m.toNat b)) (fun A s Qc E rm fo S k => bytes_mul h0 h1 fun t' tk => k _ s.heap tk ⟨t', rfl⟩ fun _ _ e => e) ⟨L, rfl, q⟩
theorem EV.baMeth {o e : Expr} {apos pos : Pos} {a : Addr} {i : Nat} {b : Array UInt8} {pl : Sem Bool} {x : Str} {id : String} {Q : V → Led → Prop} (hs : Slot "bytearray" x id) (ht : typeOf (.builtin id) = pure (.type "method_descriptor")) (ho : PV hb w prog n c ρ L o (.ref a)) (hi : At L i (a, .ba b))
    (h : EV hb w prog n c ρ L e fun v L' => CX hb w prog n (.builtin id) [.ref a, v] (c.fr ρ :: L') fun r => Bk (c.fr ρ) (Q r))
    (hm : MethOk o x apos pos [e] c.env pl := by rfl) (he : starEach [e] c.env = (false, eval e c.env) :: starEach [] c.env := by rfl) :
    EV hb w prog n c ρ L (.Call (.Attribute o x apos) [e] [] pos) Q := by
  unfold EV
  intro A s Qc E rm fo S K
  refine methodCall_C (pl := pl) (ho (fun b L' => b = .ref a ∧ L' = L) ⟨rfl, rfl⟩ A s _ E rm fo S fun ov b' L₁ s₁ hq hr S₁ T₁ => ?_) hm
  obtain ⟨L₂, rfl, rfl, rfl⟩ := hq
  cases hr
  refine anyC (getMethod_ba (ba_at S₁ (At.tl (q := c.fr ρ) hi)) hs ht ?_)
  rw [he]
  refine callWith_builtinC rfl (evalArgs_plainC ?_)
  have h := (AV.cons (pos := pos) (rest := []) (Q := fun vs L' => ∃ v, vs = [v] ∧ CX hb w prog n (.builtin id) [.ref a, v] (c.fr ρ :: L') fun r => Bk (c.fr ρ) (Q r)) (AC.mono h fun b L' ⟨L'', e, q⟩ => ⟨L'', e, AV.nil ⟨b, rfl, q⟩⟩) he) A s₁ (fun vs s' => wpC (model prog w) A (PySem.call (.builtin id) ([.ref a] ++ vs) []) Qc E s') E rm (fo.to T₁) S₁
  rw [he] at h
  refine h fun xs bs L₃ s₂ hq hxs S₂ T₂ => ?_
  obtain ⟨L₄, rfl, v, rfl, hq⟩ := hq
  have T := T₁.trans T₂
  exact EX.cx (xs := .ref a :: xs) (vs := [.ref a, v]) ⟨rfl, hxs⟩ hq A s₂ Qc E rm (fo.to T) S₂ fun a b L₃ s₃ q hr S₃ T₃ => K a b L₃ s₃ q hr S₃ (T.trans T₃)
theorem EV.baAppend {o e : Expr} {apos pos : Pos} {a : Addr} {i j : Nat} {b b' : Array UInt8} {x : Int} {pl : Sem Bool} {Q : V → Led → Prop} (ho : PV hb w prog n c ρ L o (.ref a)) (hi : At L i (a, .ba b))
    (h : EV hb w prog n c ρ L e fun v L' => v = .int x ∧ At L' j (a, .ba b') ∧ (0 ≤ x ∧ x < 256) ∧ b'.size < 2 ^ 20 ∧ Q .none (L'.set j (a, .ba (b'.push x.toNat.toUInt8))))
    (hm : MethOk o "append" apos pos [e] c.env pl := by rfl) (he : starEach [e] c.env = (false, eval e c.env) :: starEach [] c.env := by rfl) : EV hb w prog n c ρ L (.Call (.Attribute o "append" apos) [e] [] pos) Q :=
  EV.baMeth ba_slot_append ba_type_append ho hi (AC.mono h fun v L' ⟨L'', e, hv, hj, hx, hz, q⟩ => ⟨L'', e, by subst hv; exact CX.baAppend (At.tl (q := c.fr ρ) hj) hx hz ⟨L''.set j (a, .ba (b'.push x.toNat.toUInt8)), .refl _, q⟩⟩) hm he
end
end
section
section
variable {hb : HB} {w : World} {prog : Program} {n : Nat} {c : FC} {ρ : List (Option V)} {L M : Led}
noncomputable def TxtIs (k : Nat) (v : Value) : Prop := ∃ x t, v = .str x t ∧ x.length ≤ k
noncomputable def FP (hb : HB) (w : World) (prog : Program) (n : Nat) (c : FC) (ρ : List (Option V)) (L : Led) (e : Expr) : Prop := AC hb w prog n (fun (_ : Unit) v => TxtIs 2000 v) (eval e c.env) (c.fr ρ :: L) fun _ L' => L' = c.fr ρ :: L
theorem FP.const {x : Str} {k : Nat} {pos : Pos} (hx : x.length ≤ 2000) : FP hb w prog n c ρ L (.Constant (.str x) k pos) :=
  AC.leaf (b := ()) (fun A s Qc E rm S K => wpAny_Constant_str (K _ _ ⟨_, _, rfl, hx⟩)) rfl
theorem FP.int {e : Expr} {a : Int} {pos : Pos} (h : PV hb w prog n c ρ L e (.int a)) (ha : a.natAbs.log2 < 1920) : FP hb w prog n c ρ L (.FormattedValue e (-1) none pos) := fun A s Qc E rm fo S K => by
  show wpC _ A (eval e c.env >>= fun v => standAt pos >>= fun _ => holding [v] (converted (-1) v) >>= fun v' => formatted pos v' none) Qc E s
  refine wpC_then (h (fun b L' => b = .int a ∧ L' = L) ⟨rfl, rfl⟩ A s _ E rm fo S fun x b L' s' hq hx S' T' => ?_) fun x s' q => q
  obtain ⟨L'', rfl, rfl, rfl⟩ := hq
  obtain ⟨t, rfl⟩ := hx
  refine atC ?_
  show wpC _ _ (holding [Value.int a t] (pure (Value.int a t)) >>= fun v' => formatField v' Str.empty) Qc E s'
  refine stepC (wpAny_holding (wpAny_pure (anyC (wpAny_formatField_int ha ?_))))
  exact K _ () _ _ rfl ⟨_, _, rfl, by rw [PySem.ofString_length]; exact Nat.le_trans (int_text_length_le (k := 1920) (by decide) ha) (by decide)⟩ (S'.tok _) (T'.trans (.tok _))
theorem FP.join : ∀ (es : List Expr) (out : Str), (∀ e ∈ es, FP hb w prog n c ρ L e) → out.length + 2000 * es.length ≤ 100000 →
    AC hb w prog n (fun (_ : Unit) v => TxtIs 100000 v) (joinParts out (evalEach es c.env)) (c.fr ρ :: L) fun _ L' => L' = c.fr ρ :: L
  | [], out, _, ho => AC.leaf (b := ()) (fun A s Qc E rm S K => joinParts_nil (K _ _ ⟨_, _, rfl, by simp at ho; lia⟩) (by rw [sizeLine_eq]; simp at ho; lia)) rfl
  | e :: es, out, h, ho => by
    intro A s Qc E rm fo S K
    show wpC _ _ (joinParts out (eval e c.env :: evalEach es c.env)) _ _ _
    rw [joinParts]
    refine wpC_then (h e (.head _) A s _ E rm fo S fun x b L' s' hq hx S' T' => ?_) fun x s' q => q
    subst hq
    obtain ⟨y, t, rfl, hy⟩ := hx
    simp only [List.length_cons] at ho
    have hz' : ¬ (out.length + y.length > sizeLine) := by rw [sizeLine_eq]; lia
    refine pureC ?_
    show wpC _ _ (if out.length + y.length > sizeLine then _ else _) _ _ _
    rw [if_neg hz']
    have ih := FP.join es (out ++ y) (fun e he => h e (.tail _ he)) (by rw [strLen_append]; lia) A s' Qc E rm (fo.to T') S' fun a b L₂ s₂ hq hr S₂ T₂ => K a b L₂ s₂ hq hr S₂ (T'.trans T₂)
    first | exact ih | exact pureC ih
theorem FP.joined {e₁ e₂ : Expr} {es : List Expr} {pos : Pos} (h : ∀ e ∈ e₁ :: e₂ :: es, FP hb w prog n c ρ L e) (hn : es.length ≤ 20) :
    AC hb w prog n (fun (_ : Unit) v => TxtIs 100000 v) (eval (.JoinedStr (e₁ :: e₂ :: es) pos) c.env) (c.fr ρ :: L) fun _ L' => L' = c.fr ρ :: L :=
  FP.join (e₁ :: e₂ :: es) Str.empty h (by show 0 + _ ≤ _; simp only [List.length_cons]; lia)
theorem log2_fit {a : Int} (h : -(10 ^ 30) ≤ a) (h' : a ≤ 10 ^ 30) : a.natAbs.log2 < 1920 := by
  by_cases q : a.natAbs = 0
  · rw [q]; decide
  · refine (Nat.log2_lt q).mpr (Nat.lt_of_le_of_lt (m := 10 ^ 30) (by lia) ?_)
    exact Nat.lt_of_lt_of_le (by decide : 10 ^ 30 < 2 ^ 100) (Nat.pow_le_pow_right (by decide) (by decide))
end
section
variable {M : Model} {A : Around} {E : Value → Shared → Prop} {s : Shared} {env : Env}
theorem raiseStmt_eq (t : Sem Value) : raiseStmt env (some t) none = t >>= fun v => raiseStmt env (some (pure v)) none := by
  unfold raiseStmt
  rfl
end
set_option genInjectivity false in
structure EC where
  C : Addr
  x : Str
  ok : ∀ P, excIn (KF P) C [.type "Exception", .type "BaseException", .type "object"] "Exception.__new__" = true
  bound : ∀ P, nsIn (KF P) mainGlobals x = some (some (.ref C))
theorem own_use {x : Str} {C : Addr} {bmB : List Value} {newId : String} {mg : Str → Option Value} {h : Heap} {G : Prop} (O : OwnCls x C bmB newId mg h)
    (k : ∀ bm N nm q bs hdct sn sub ab col dd k0 k1 k2 k3 k5 mN, h.get? C = some (excClassObj nm q C N bs bm hdct sn sub ab col dd k0 k1 k2 k3 k5 newId) → h.Ns N mN → mN "__init__" = none → OwnTail h bmB bm → G) : G := by
  obtain ⟨_, _, _, _, _, _, _, _, _, _, _, _, _, _, _, _, _, a, b, c, d⟩ := O.obj
  exact k _ _ _ _ _ _ _ _ _ _ _ _ _ _ _ _ _ a b c d
theorem EC.own (k : EC) {w : World} {h : Heap} (G : Gd w h) : ∃ mg, OwnCls k.x k.C [.type "Exception", .type "BaseException", .type "object"] "Exception.__new__" mg h := by
  obtain ⟨mean, mg, mb, T⟩ := G.t
  exact ⟨mg, own_of_in G.x (topRead_of T) (k.bound _) (k.ok _)⟩
section
variable {hb : Heap} {w : World} {prog : Program} {n : Nat} {c : FC} {ρ : List (Option V)} {L M : Led}
noncomputable def Mk (hb : Heap) (w : World) (s : Shared) (L : Led) (C e : Addr) (L' : Led) (s' : Shared) : Prop :=
  ∃ s₀ h vs, StB hb w L' s₀ ∧ To L s L' s₀ ∧ Heap.MadeExcOf s₀.heap h e (.ref C) vs ∧ s' = { s₀ with heap := h }
noncomputable def frs (fs : List Env) : List Addr := fs.filterMap (·.frame)
structure Cov (hb : Heap) (w : World) (s : Shared) (L : Led) (fs : List Env) (L' : Led) (s' : Shared) (B : Heap) : Prop where
  base : hb.StaysIn B
  cov : ∀ b ∈ foot L', b ∉ frs fs → ∀ o, s'.heap.get? b = some o → B.get? b = some o
  old : ∀ b o, s.heap.get? b = some o → b ∉ foot L → b ∉ frs fs → ∃ o', B.get? b = some o' ∧ SlotEq o o'
  st : StB hb w L' s'
  to : To L s L' s'
noncomputable def Fly (hb : Heap) (w : World) (s : Shared) (L : Led) (fs : List Env) (C e : Addr) (L' : Led) (s' : Shared) : Prop :=
  ∃ B a0, Cov hb w s L fs L' s' B ∧ Heap.FlyingW B fs e (.ref C) a0 s'.heap
theorem Cov.from {s s₁ s' : Shared} {L L₁ L' : Led} {fs : List Env} {B : Heap} (T : To L s L₁ s₁) (x : Cov hb w s₁ L₁ fs L' s' B) : Cov hb w s L fs L' s' B where
  base := x.base
  cov := x.cov
  old := fun b o e hb' hf => by
    obtain ⟨o₁, e₁, q₁⟩ := T.keep b o hb' e
    obtain ⟨o₂, e₂, q₂⟩ := x.old b o₁ e₁ (fun q => by
      rcases T.new b q with q | q
      · exact hb' q
      · rw [q] at e; cases e) hf
    exact ⟨o₂, e₂, q₁.trans q₂⟩
  st := x.st
  to := T.trans x.to
structure FrsOk (hb : Heap) (L : Led) (s : Shared) (fs : List Env) : Prop where
  at_ : ∀ a ∈ frs fs, ∃ o, s.heap.get? a = some o ∧ IsD o ∧ hb.get? a = none ∧ a ∉ nfoot L
theorem FrsOk.of {A : Around} {s : Shared} {fs : List Env} (F : Fo hb A L s) (e : A.frames = some fs) : FrsOk hb L s fs := ⟨fun a ha => by
  obtain ⟨fs', e', h⟩ := F
  rw [e] at e'
  cases e'
  obtain ⟨env, he, hf⟩ := List.mem_filterMap.mp ha
  obtain ⟨⟨_, a', o, hf', hn, ho, hd⟩, hx⟩ := h env he
  rw [hf] at hf'
  cases hf'
  exact ⟨o, ho, hd, hn, hx _ hf⟩⟩
theorem Fo.fun {A : Around} {s : Shared} {fs : List Env} {B : Heap} (F : Fo hb A L s) (e : A.frames = some fs) (hB : ∀ a ∈ frs fs, B.get? a = none) : s.heap.FunFrames B fs := by
  obtain ⟨fs', e', h⟩ := F
  rw [e] at e'
  cases e'
  clear e
  induction fs with
  | nil => trivial
  | cons env r ih =>
    obtain ⟨⟨hk, a, o, hf, hn, ho, hd⟩, hx⟩ := h env (.head _)
    refine ⟨hk, ⟨a, o, hf, hB a (List.mem_filterMap.mpr ⟨env, .head _, hf⟩), ho, fun vs q => ?_⟩, ih (fun a ha => hB a ?_) fun x hx => h x (.tail _ hx)⟩
    · obtain ⟨es, ep, hd⟩ := hd; rw [hd] at q; cases q
    · obtain ⟨env', he', hf'⟩ := List.mem_filterMap.mp ha
      exact List.mem_filterMap.mpr ⟨env', .tail _ he', hf'⟩
theorem IsD.notF {o : Obj} (h : IsD o) : ∀ vs, o.data ≠ .fields vs := fun vs q => by obtain ⟨es, ep, hd⟩ := h; rw [hd] at q; cases q
theorem ObjAt.frame_slots {h h' : Heap} {a : Addr} {nm : KL} {ρ : List (Option V)} (u : h.UpToSlots h') (x : ObjAt h a (.frame nm ρ)) : ObjAt h' a (.frame nm ρ) := by
  obtain ⟨m, hn, r⟩ := x
  exact ⟨m, u.ns hn, r⟩
theorem Cov.step {s s' : Shared} {L' : Led} {fs : List Env} {B h' : Heap} (x : Cov hb w s L fs L' s' B) (F : FrsOk hb L' s' fs) (k : B.StaysIn h') (u : s'.heap.UpToSlots h') : Cov hb w s L fs L' { s' with heap := h' } B := by
  have nfr : ∀ p ∈ L', ∀ b ∈ nfeet p, b ∉ frs fs := fun p hp b hb' q => by
    obtain ⟨o, _, _, _, hx⟩ := F.at_ b q
    exact hx (List.mem_flatMap.mpr ⟨p, hp, hb'⟩)
  have kcov : ∀ b ∈ foot L', b ∉ frs fs → ∀ o, s'.heap.get? b = some o → h'.get? b = some o := fun b hb' hf o e => k b o (x.cov b hb' hf o e)
  refine ⟨x.base, fun b hb' hf o e => ?_, x.old, ⟨x.st.gd, fun b o e => k b o (x.base b o e), x.st.off, fun p hp => ?_, x.st.nd⟩, ?_⟩
  · obtain ⟨o', e'⟩ := x.st.live hb'
    have := kcov b hb' hf o' e'
    have e : h'.get? b = some o := e
    rw [this] at e
    cases e
    exact x.cov b hb' hf o e'
  · have r := x.st.rel p hp
    obtain ⟨a, o⟩ := p
    by_cases q : ∃ nm ρ, o = .frame nm ρ
    · obtain ⟨nm, ρ, rfl⟩ := q
      exact r.frame_slots u
    · refine r.keeps fun b o' hb' e => kcov b (List.mem_flatMap.mpr ⟨_, hp, hb'⟩) (nfr _ hp b ?_) o' e
      cases o <;> first | exact hb' | exact absurd ⟨_, _, rfl⟩ q
  · obtain ⟨h₁, tk, e₁⟩ := x.to.sh
    refine ⟨⟨h', tk, by rw [e₁]⟩, fun b o hb' e => ?_, fun b o e d => ?_, x.to.new, x.to.nf⟩
    · by_cases hf : b ∈ frs fs
      · obtain ⟨o₁, e₁, q₁⟩ := x.to.keep b o hb' e
        obtain ⟨o₂, e₂, d₂, _⟩ := F.at_ b hf
        rw [e₁] at e₂
        cases e₂
        obtain ⟨sl, e₃⟩ := u b _ e₁ d₂.notF
        exact ⟨_, e₃, q₁.trans (.inr ⟨d₂, sl, rfl⟩)⟩
      · obtain ⟨o₂, e₂, q₂⟩ := x.old b o e hb' hf
        exact ⟨o₂, k b o₂ e₂, q₂⟩
    · obtain ⟨o₁, e₁, d₁⟩ := x.to.kind b o e d
      obtain ⟨sl, e₃⟩ := u b _ e₁ d₁.notF
      obtain ⟨es, ep, hd⟩ := d₁
      exact ⟨_, e₃, es, ep, hd⟩
theorem Cov.made {s s₀ : Shared} {L' : Led} {fs : List Env} (S : StB hb w L' s₀) (T : To L s L' s₀) (F : FrsOk hb L' s₀ fs) : Cov hb w s L fs L' s₀ (hideAll s₀.heap (frs fs)) where
  base := fun b o e => hideAll_get _ (S.base b o e) fun q => by
    obtain ⟨_, _, _, hn, _⟩ := F.at_ b q
    rw [hn] at e; cases e
  cov := fun b _ hf o e => hideAll_get _ e hf
  old := fun b o e hb' hf => by
    obtain ⟨o', e', q⟩ := T.keep b o hb' e
    exact ⟨o', hideAll_get _ e' hf, q⟩
  st := S
  to := T
theorem FrsOk.to {s s' : Shared} {L' : Led} {fs : List Env} (F : FrsOk hb L s fs) (T : To L s L' s') : FrsOk hb L' s' fs := ⟨fun a ha => by
  obtain ⟨o, e, d, n, x⟩ := F.at_ a ha
  obtain ⟨o', e', d'⟩ := T.kind a o e d
  exact ⟨o', e', d', n, fun q => x (T.nf a o e d q)⟩⟩
noncomputable def Xc (hb : Heap) (w : World) (mk : Bool) (s : Shared) (L : Led) (fs : List Env) (C e : Addr) (L' : Led) (s' : Shared) : Prop := (mk = true ∧ Mk hb w s L C e L' s') ∨ Fly hb w s L fs C e L' s'
theorem Xc.from {mk : Bool} {s s₁ s' : Shared} {L L₁ L' : Led} {fs : List Env} {C e : Addr} (T : To L s L₁ s₁) (x : Xc hb w mk s₁ L₁ fs C e L' s') : Xc hb w mk s L fs C e L' s' := by
  rcases x with ⟨hm, s₀, h, vs, S, T₀, m, rfl⟩ | ⟨B, a0, c, f⟩
  · exact .inl ⟨hm, s₀, h, vs, S, T.trans T₀, m, rfl⟩
  · exact .inr ⟨B, a0, c.from T, f⟩
end
section
variable {hb : HB} {w : World} {prog : Program} {n : Nat} {c : FC} {ρ : List (Option V)} {L M : Led}
noncomputable def RX {α : Type} (hb : HB) (w : World) (prog : Program) (n : Nat) (mk : Bool) (t : Sem α) (L : Led) (C : Addr) (Q : Led → Prop) : Prop :=
  ∀ (A : Around) (s : Shared) (Qc : α → Shared → Prop) (E : Value → Shared → Prop) (fs : List Env), Rm hb.top A n → Fo hb.h A L s → A.frames = some fs → StB hb.h w L s →
    (∀ e L' s', Q L' → Xc hb.h w mk s L fs C e L' s' → E (.ref e) s') → wpC (model prog w) A t Qc E s
noncomputable def RT (hb : HB) (w : World) (prog : Program) (n : Nat) (f : Addr) (vs : List V) (M : Led) (C : Addr) (Q : Led → Prop) : Prop :=
  ∀ xs, AllIs vs xs → ∀ (A : Around) (s : Shared) (R : Result → Shared → Prop) (fs : List Env), Rm none A n → Fo hb.h A M s → A.frames = some fs → StB hb.h w M s →
    (∀ e M' s', Q M' → Fly hb.h w s M fs C e M' s' → R (.error (.ref e)) s') → codeC (model prog w) A (.call (.ref f) ⟨xs, []⟩) R s
variable {mk : Bool}
theorem RX.first {α β : Type} {t : Sem α} {f : α → Sem β} {C : Addr} {Q : Led → Prop} (h : RX hb w prog n mk t L C Q) : RX hb w prog n mk (t >>= f) L C Q :=
  fun A s Qc E fs rm fo hf S k => wpC_bind (h A s _ E fs rm fo hf S k)
theorem RX.hold {α : Type} {t : Sem α} {vs : List Value} {C : Addr} {Q : Led → Prop} (h : RX hb w prog n mk t L C Q) : RX hb w prog n mk (holding vs t) L C Q :=
  fun A s Qc E fs rm fo hf S k => wpC_holding (h A s _ E fs rm fo hf S k)
theorem RX.stand {β : Type} {pos : Pos} {f : Unit → Sem β} {C : Addr} {Q : Led → Prop} (h : RX hb w prog n mk (f ()) L C Q) : RX hb w prog n mk (standAt pos >>= f) L C Q :=
  fun A s Qc E fs rm fo hf S k => atC (h A s _ E fs rm fo hf S k)
theorem RX.then {α β δ : Type} {R : δ → α → Prop} {t : Sem α} {f : α → Sem β} {C : Addr} {Q : Led → Prop} (h : AC hb w prog n R t L fun b L' => ∀ a, R b a → RX hb w prog n mk (f a) L' C Q) : RX hb w prog n mk (t >>= f) L C Q :=
  fun A s Qc E fs rm fo hf S k => wpC_bind (h A s _ E rm fo S fun a b L₁ s₁ hq hr S₁ T₁ => hq a hr A s₁ Qc E fs rm (fo.to T₁) hf S₁ fun e L' s' q x => k e L' s' q (x.from T₁))
theorem RX.of_eq {α : Type} {t t' : Sem α} {C : Addr} {Q : Led → Prop} (e : t = t') (h : RX hb w prog n mk t' L C Q) : RX hb w prog n mk t L C Q := e ▸ h
theorem RX.call {f : Addr} {vs : List V} {C : Addr} {Q : Led → Prop} {xs : List Value} (hxs : AllIs vs xs) (h : RT hb w prog n f vs M C Q) : RX hb w prog n mk (PySem.call (.ref f) xs []) M C Q :=
  fun A s Qc E fs rm fo hf S k => wpC_call (h xs hxs A s _ fs rm.any fo hf S fun e M' s' q x => k e M' s' q (.inr x))
theorem RX.raise (k : EC) {i : Nat} {np cpos pos : Pos} {e₀ : Expr} (ok : FOk c) (hx : c.gl[i]? = some (k.x, .ref k.C)) {m : Nat} (h : AC hb w prog n (fun (_ : Unit) v => TxtIs m v) (eval e₀ c.env) (c.fr ρ :: L) fun _ L' => L' = c.fr ρ :: L)
    (he : starEach [e₀] c.env = (false, eval e₀ c.env) :: starEach [] c.env) {Q : Led → Prop} (q : Q (c.fr ρ :: L)) : RX hb w prog n true (exec (.Raise (some (.Call (.Name k.x np) [e₀] [] cpos)) none pos) c.env) (c.fr ρ :: L) k.C Q := fun A s Qc E fs rm fo hf S K => by
  rw [arm_exec_Raise]
  show wpC _ _ (standAt pos >>= fun _ => raiseStmt c.env (some (eval (.Call (.Name k.x np) [e₀] [] cpos) c.env >>= fun v => standAt pos >>= fun _ => pure v)) none) _ _ _
  refine atC ?_
  rw [raiseStmt_eq]
  refine wpC_bind (wpC_bind ?_)
  rw [arm_eval_Call_Name']
  refine wpC_then (PV.glob ok hx (fun b L' => b = .ref k.C ∧ L' = L) ⟨rfl, rfl⟩ A s _ E rm fo S fun v b L' s' hq hv S' T' => ?_) fun v s' q => q
  obtain ⟨L'', rfl, rfl, rfl⟩ := hq
  cases hv
  rw [he]
  unfold callWith
  refine wpC_bind (wpC_holding ?_)
  show wpC _ _ (evalArgs (.ref k.C) true [(false, eval e₀ c.env)] []) _ _ _
  refine evalArgs_plainC ?_
  show wpC _ _ (eval e₀ c.env >>= fun v => (pure [v] : Sem (List Value)) >>= fun here => holding here (pure []) >>= fun r => pure (here ++ r)) _ _ _
  refine wpC_then (h A s' _ E rm (fo.to T') S' fun v b L₂ s₂ hq hv S₂ T₂ => ?_) fun v s₂ q => q
  subst hq
  refine pureC (stepC (wpAny_holding (wpAny_pure (wpC_pure ?_))))
  show wpC _ _ (standAt cpos >>= _) _ _ _
  refine atC (anyC ?_)
  refine (k.own S₂.good).elim fun mg O => ?_
  refine own_use O fun tl N nm qn bs hdct sn sub ab col dd k0 k1 k2 k3 k5 mN hC hN hni T => ?_
  obtain ⟨hp, g, d, tk, os⟩ := s₂
  show wpAny _ _ (keeperOf (.ref k.C) >>= _) _ _ _
  refine wpAny_bind (wpAny_keeperOf_exc hC ?_)
  refine wpAny_bind (wpAny_call_exc_subT (hrest := by rw [sizeLine_eq]; show 1 ≤ _; lia) PySem.F.excBase_Exception T hC hN hni fun h' e hm => wpAny_bind (wpAny_holding (wpAny_point (wpAny_pure ?_))))
  obtain ⟨t, ht, _, _⟩ := hm.there
  refine atC (wpC_pure (anyC (wpAny_raiseStmt_made_sub (C := k.C) (T.hasType PySem.F.excBase_Exception.hasBase) rm.hh (wpAny_pure ⟨e, t, rfl, hm.keeps _ _ hC, ht, ?_⟩))))
  exact K e _ _ q (.inl ⟨rfl, _, h', _, S₂, T'.trans T₂, hm, rfl⟩)
end
end
section
section
variable {hb : HB} {w : World} {prog : Program} {n : Nat} {c : FC} {ρ : List (Option V)} {L M : Led} {mk : Bool}
theorem frs_cons {env : Env} {fs : List Env} {a : Addr} (h : env.frame = some a) : frs (env :: fs) = a :: frs fs := by
  unfold frs
  rw [List.filterMap_cons, h]
theorem Cov.leave {s s₁ s' : Shared} {M' : Led} {fs : List Env} {B : Heap} {p p' : Addr × AO} {env : Env} {a : Addr} (hp : feet p = [a]) (hp' : feet p' = [a]) (he : env.frame = some a) (T : To M s (p :: M) s₁) (fr : s.heap.get? a = none)
    (x : Cov hb.h w s₁ (p :: M) (env :: fs) (p' :: M') s' B) : Cov hb.h w s M fs M' s' B := by
  have nd := x.st.nd
  rw [foot_cons, hp'] at nd
  refine ⟨x.base, fun b hb' hf o e => x.cov b (by rw [foot_cons]; exact List.mem_append_right _ hb') ?_ o e, fun b o e hb' hf => ?_, x.st.sub (List.sublist_cons_self _ _), (T.trans x.to).sub (List.sublist_cons_self _ _)⟩
  · rw [frs_cons he]
    intro q
    rcases List.mem_cons.mp q with rfl | q
    · exact (List.nodup_append.mp nd).2.2 b (.head _) b hb' rfl
    · exact hf q
  · have ne : b ≠ a := fun q => by rw [q, fr] at e; cases e
    obtain ⟨o₁, e₁, q₁⟩ := T.keep b o hb' e
    obtain ⟨o₂, e₂, q₂⟩ := x.old b o₁ e₁ (fun q => by
      rw [foot_cons, hp] at q
      rcases List.mem_append.mp q with q | q
      · exact ne (List.mem_singleton.mp q)
      · exact hb' q) (by
      rw [frs_cons he]
      intro q
      rcases List.mem_cons.mp q with q | q
      · exact ne q
      · exact hf q)
    exact ⟨o₂, e₂, q₁.trans q₂⟩
theorem RT.fn {F : FS} (hF : FSOk F) {vs : List V} {ρ : List (Option V)} {C : Addr} {Q : Led → Prop} (hk : vs.length = F.k) (hρ : initρ F vs = ρ)
    (h : ∀ Lf, FOk (F.fc hF.parts.nd Lf) → RX ⟨hb.h, some (F.fc hF.parts.nd Lf).env⟩ w prog n mk (execs (sBody F.st) (F.fc hF.parts.nd Lf).env) ((F.fc hF.parts.nd Lf).fr ρ :: M) C fun L' => ∃ ρ' M', L' = (F.fc hF.parts.nd Lf).fr ρ' :: M' ∧ Q M') :
    RT hb w prog (n + 1) F.f vs M C Q := fun xs hxs A s R fs rm fo hf S K => by
  subst hρ
  have G := S.good
  have X := G.x
  have P := hF.parts
  obtain ⟨_, mg, mb, T⟩ := G.t
  have hlen : xs.length = F.k := by rw [← hxs.length, hk]
  refine codeC_call_def (fd := fnFd F.st F.qual F.cd F.pm F.t) (body := sBody F.st) (binds := (F.nm.take F.k).zip xs) rm.room (X _ _ (hF.at_ _)) rfl T.nolimit (codeRec_of X (hF.code _)) rfl
    (.of_eq (hF.bind xs hlen)) (fun x hx q => ?_) (fun x hx => ?_) (fun h₀ hns hk₀ => ?_) P.co P.gen P.kind
  · have := List.all_eq_true.mp hF.cell x hx
    rw [q] at this; cases this
  · exact (P.loc x.1 (List.mem_of_mem_take (List.of_mem_zip hx).1)).1
  · have hno : s.heap.get? s.heap.objs.size = none := Heap.get?_none_of_le (Nat.le_refl _)
    show wpC (model prog w) (A.deeper (F.fc P.nd s.heap.objs.size).env) (execs (sBody F.st) (F.fc P.nd s.heap.objs.size).env) _ _ _
    obtain ⟨S', T'⟩ := S.push (a := s.heap.objs.size) (o := .frame ⟨F.nm, P.nd⟩ (initρ F vs)) (h' := h₀) (tk := s.toks + ((F.nm.take F.k).zip xs).length) hk₀ (by intro b hb'; simp only [feet, List.mem_singleton] at hb'; rw [hb']; exact hno) (by simp [feet])
      ⟨_, hns, fun i x v hx hv => by
        have hi : i < F.k := by
          have h1 : (initρ F vs)[i]? = some (some v) := hv
          unfold initρ at h1
          rw [List.getElem?_append] at h1
          split at h1
          · rename_i q; rw [List.length_map, hk] at q; exact q
          · rw [List.getElem?_replicate] at h1
            split at h1 <;> cases h1
        have hv' : vs[i]? = some v := by
          have h1 : (initρ F vs)[i]? = some (some v) := hv
          unfold initρ at h1
          rw [List.getElem?_append_left (by rw [List.length_map, hk]; exact hi), List.getElem?_map] at h1
          obtain ⟨y, e1, e2⟩ := Option.map_eq_some_iff.mp h1
          cases e2; exact e1
        obtain ⟨v', e1, e2⟩ := hxs.get hv'
        exact ⟨v', lookup_rev (P.nd.sublist (List.take_sublist _ _)) (by rw [List.getElem?_take_of_lt hi]; exact hx) e1, e2⟩⟩
    generalize hs₁ : ({ s with heap := h₀, toks := s.toks + ((F.nm.take F.k).zip xs).length } : Shared) = s₁ at S' T' ⊢
    have fo' : Fo hb.h (A.deeper (F.fc P.nd s.heap.objs.size).env) ((F.fc P.nd s.heap.objs.size).fr (initρ F vs) :: M) s₁ := by
      obtain ⟨fs, e, hf⟩ := fo.to T'
      refine ⟨_, Around.frames_deeper e, ?_⟩
      intro env he
      rcases List.mem_cons.mp he with rfl | he
      · obtain ⟨o, es, ep, ho, hd, _⟩ := hns
        refine ⟨⟨by show (sScope F.st).kind ≠ .module; rw [P.kind]; decide, _, o, rfl, S.fresh hno, by rw [← hs₁]; exact ho, es, ep, hd⟩, fun a ha q => ?_⟩
        obtain ⟨o', e'⟩ := S.live (nfoot_foot (L := M) q)
        cases ha
        rw [hno] at e'; cases e'
      · exact hf env he
    have hfr : (A.deeper (F.fc P.nd s.heap.objs.size).env).frames = some ((F.fc P.nd s.heap.objs.size).env :: fs) := Around.frames_deeper hf
    refine h s.heap.objs.size (hF.fok _) _ _ _ _ _ (rm.deeper _ ⟨fs, hf⟩) fo' hfr S' fun e L' s' hq x => ?_
    obtain ⟨ρ', M', rfl, hq⟩ := hq
    have fin : ∀ {s₂ : Shared} {B : Heap} {a0 : Value}, Cov hb.h w s₁ ((F.fc P.nd s.heap.objs.size).fr (initρ F vs) :: M) ((F.fc P.nd s.heap.objs.size).env :: fs) ((F.fc P.nd s.heap.objs.size).fr ρ' :: M') s₂ B → Heap.FlyingW B fs e (.ref C) a0 s₂.heap → R (.error (.ref e)) s₂ :=
      fun {s₂ B a0} cv fl => K e M' _ hq ⟨B, a0, cv.leave (a := s.heap.objs.size) rfl rfl rfl T' hno, fl⟩
    rcases x with ⟨_, s₀, h, vs', S₀, T₀, m, rfl⟩ | ⟨B, a0, cv, fl⟩
    · have F₀ : FrsOk hb.h _ s₀ ((F.fc P.nd s.heap.objs.size).env :: fs) := (FrsOk.of fo' hfr).to T₀
      refine anyC (wpAny_leaves_madeW (base := hideAll s₀.heap (frs ((F.fc P.nd s.heap.objs.size).env :: fs))) (h := s₀.heap) hfr rfl (fun b o e => of_hideAll _ e) ((fo'.to T₀).fun hfr fun a ha => hideAll_none _ ha) m fun h' t fly tup tn u => ?_)
      exact fin ((Cov.made S₀ T₀ F₀).step F₀ fly.1 ((Heap.UpToSlots.of_keeps m.keeps).trans u)) fly
    · refine anyC (wpAny_leaves_onW hfr rfl fl fun h' fly u => ?_)
      exact fin (cv.step ((FrsOk.of fo' hfr).to cv.to) fly.1 u) fly
noncomputable def RS (hb : HB) (w : World) (prog : Program) (n : Nat) (mk : Bool) (c : FC) (ρ : List (Option V)) (L : Led) (ss : List Stmt) (C : Addr) (Q : Led → Prop) : Prop := RX hb w prog n mk (execs ss c.env) (c.fr ρ :: L) C fun L' => ∃ ρ' L'', L' = c.fr ρ' :: L'' ∧ Q L''
noncomputable def RE (hb : HB) (w : World) (prog : Program) (n : Nat) (mk : Bool) (c : FC) (ρ : List (Option V)) (L : Led) (e : Expr) (C : Addr) (Q : Led → Prop) : Prop := RX hb w prog n mk (eval e c.env) (c.fr ρ :: L) C fun L' => ∃ ρ' L'', L' = c.fr ρ' :: L'' ∧ Q L''
variable {C : Addr} {Q : Led → Prop}
theorem RS.cons {st : Stmt} {rest : List Stmt} (h : RX hb w prog n mk (exec st c.env) (c.fr ρ :: L) C fun L' => ∃ ρ' L'', L' = c.fr ρ' :: L'' ∧ Q L'') : RS hb w prog n mk c ρ L (st :: rest) C Q :=
  RX.of_eq (execs_cons c.env st rest) (RX.first h)
theorem RS.skip {st : Stmt} {rest : List Stmt} (h : S1 hb w prog n c ρ L st fun f ρ' L' => f = .nxt ∧ RS hb w prog n mk c ρ' L' rest C Q) : RS hb w prog n mk c ρ L (st :: rest) C Q :=
  RX.of_eq (execs_cons c.env st rest) (RX.then (AC.mono h fun f L' ⟨ρ', L'', e, hf, q⟩ a ha => by
    subst hf e
    cases ha
    exact q))
theorem RS.ifT {test : Expr} {body orelse : List Stmt} {pos : Pos} {rest : List Stmt} {p : Prop} (hp : p) (h : PT hb w prog n c ρ L test p) (hb' : RS hb w prog n mk c ρ L body C Q) : RS hb w prog n mk c ρ L (.If test body orelse pos :: rest) C Q :=
  RS.cons (RX.of_eq (exec_If c.env test body orelse pos) (RX.stand (RX.then (AC.mono (h (fun b L' => b = true ∧ L' = L) fun b hb => ⟨hb.mpr hp, rfl⟩) fun b L' ⟨L'', e, hq, hl⟩ a ha => by
    subst hq hl e
    cases ha
    exact hb'))))
theorem S1.ifF {test : Expr} {body : List Stmt} {pos : Pos} {Q : FlowA → List (Option V) → Led → Prop} {p : Prop} (hp : ¬p) (h : PT hb w prog n c ρ L test p) (q : Q .nxt ρ L) : S1 hb w prog n c ρ L (.If test body [] pos) Q := fun A s Qc E rm fo S K =>
  wpC_If (h (fun b L' => b = false ∧ L' = L) (fun b hb => ⟨by cases b with | false => rfl | true => exact absurd (hb.mp rfl) hp, rfl⟩) A s _ E rm fo S fun a b L' s₁ hq hr S₁ T₁ => by
    obtain ⟨L'', rfl, rfl, rfl⟩ := hq
    cases hr
    exact wpC_execs_nil (K .next .nxt _ _ ⟨_, _, rfl, q⟩ rfl S₁ T₁))
theorem RS.ifF {test : Expr} {body : List Stmt} {pos : Pos} {rest : List Stmt} {p : Prop} (hp : ¬p) (h : PT hb w prog n c ρ L test p) (hr : RS hb w prog n mk c ρ L rest C Q) : RS hb w prog n mk c ρ L (.If test body [] pos :: rest) C Q :=
  RS.skip (S1.ifF hp h ⟨rfl, hr⟩)
theorem S1.assign {x : Str} {px pos : Pos} {value : Expr} {Q : FlowA → List (Option V) → Led → Prop} (ok : FOk c) (hs : swapsWith value (some (.Name x px)) pos.line c.env = pure false)
    (h : EV hb w prog n c ρ L value fun b L' => ∃ ρ', Sto c.nm.l x ρ b ρ' ∧ Q .nxt ρ' L') : S1 hb w prog n c ρ L (.Assign [.Name x px] value pos) Q := fun A s Qc E rm fo S K =>
  wpC_Assign_Name (h A s _ E rm fo S fun v b L' s₁ hq hv S₁ T₁ => by
    obtain ⟨L'', rfl, ρ', ⟨i, hx, rfl⟩, hq⟩ := hq
    exact anyC <| store_local ok S₁ hx hv fun s' S' T' => K .next .nxt _ _ ⟨_, _, rfl, hq⟩ rfl S' (T₁.trans T')) hs
theorem RS.assignP {x : Str} {px pos : Pos} {value : Expr} {rest : List Stmt} {b : V} {ρ' : List (Option V)} (ok : FOk c) (hv : PV hb w prog n c ρ L value b) (hs : swapsWith value (some (.Name x px)) pos.line c.env = pure false) (hr : Sto c.nm.l x ρ b ρ') (h : RS hb w prog n mk c ρ' L rest C Q) :
    RS hb w prog n mk c ρ L (.Assign [.Name x px] value pos :: rest) C Q := RS.skip (S1.assign ok hs (EV.of hv ⟨ρ', hr, rfl, h⟩))
theorem RS.assign {x : Str} {px pos : Pos} {value : Expr} {rest : List Stmt} (hs : swapsWith value (some (.Name x px)) pos.line c.env = pure false) (h : RE hb w prog n mk c ρ L value C Q) : RS hb w prog n mk c ρ L (.Assign [.Name x px] value pos :: rest) C Q :=
  RS.cons (RX.of_eq (exec_Assign_Name c.env x px value pos hs) (RX.stand (RX.first h)))
theorem RS.expr {e : Expr} {pos : Pos} {rest : List Stmt} (hi : interactive c.env = false) (hs : swapsWith e none pos.line c.env = pure false) (h : RE hb w prog n mk c ρ L e C Q) : RS hb w prog n mk c ρ L (.Expr e pos :: rest) C Q :=
  RS.cons (RX.of_eq (exec_Expr c.env e pos hi hs) (RX.stand (RX.first h)))
theorem RS.ret {e : Expr} {pos : Pos} {rest : List Stmt} (h : RE hb w prog n mk c ρ L e C Q) : RS hb w prog n mk c ρ L (.Return (some e) pos :: rest) C Q :=
  RS.cons (RX.of_eq (exec_Return_some c.env e pos) (RX.stand (RX.first h)))
theorem RS.raise (k : EC) {i : Nat} {np cpos pos : Pos} {e₀ : Expr} {rest : List Stmt} (ok : FOk c) (hx : c.gl[i]? = some (k.x, .ref k.C)) {m : Nat} (h : AC hb w prog n (fun (_ : Unit) v => TxtIs m v) (eval e₀ c.env) (c.fr ρ :: L) fun _ L' => L' = c.fr ρ :: L)
    (he : starEach [e₀] c.env = (false, eval e₀ c.env) :: starEach [] c.env) (q : Q L) : RS hb w prog n true c ρ L (.Raise (some (.Call (.Name k.x np) [e₀] [] cpos)) none pos :: rest) k.C Q :=
  RS.cons (RX.raise k ok hx h he ⟨ρ, L, rfl, q⟩)
theorem RE.binL {l r : Expr} {op : Operator} {pos : Pos} (h : RE hb w prog n mk c ρ L l C Q) : RE hb w prog n mk c ρ L (.BinOp l op r pos) C Q :=
  RX.of_eq (eval_BinOp c.env l op r pos) (RX.first h)
theorem RE.binR {l r : Expr} {op : Operator} {pos : Pos} {v : V} (hl : PV hb w prog n c ρ L l v) (h : RE hb w prog n mk c ρ L r C Q) : RE hb w prog n mk c ρ L (.BinOp l op r pos) C Q :=
  RX.of_eq (eval_BinOp c.env l op r pos) (RX.then (AC.mono (hl (fun b L' => L' = L) rfl) fun b L' ⟨L'', e, hl⟩ a ha => by
    subst hl e
    exact RX.first (RX.hold h)))
theorem RE.callP {id : Str} {p pos : Pos} {e : Expr} {args : List Expr} {vs : List V} {f : Addr} (hf : PV hb w prog n c ρ L (.Name id p) (.ref f)) (hk : ∀ P, keepIn (KF P) (.ref f) = true) (ha : PVL hb w prog n c ρ L (e :: args) vs)
    (he : starEach (e :: args) c.env = (false, eval e c.env) :: starEach args c.env) (hplain : (backTo pos (starEach args c.env)).any (·.1) = false)
    (h : RT hb w prog n f vs (c.fr ρ :: L) C fun M' => ∃ ρ' L'', M' = c.fr ρ' :: L'' ∧ Q L'') : RE hb w prog n mk c ρ L (.Call (.Name id p) (e :: args) [] pos) C Q := by
  unfold RE
  rw [arm_eval_Call_Name']
  refine RX.then (AC.mono (hf (fun b L' => b = .ref f ∧ L' = L) ⟨rfl, rfl⟩) ?_)
  rintro b L' ⟨L'', rfl, rfl, rfl⟩ a hra
  cases hra
  intro A s Qc E fs rm fo hfr S K
  refine callWith_KC (K := KF w.params) (hk _) (ha.av (pos := pos) (Q := fun vs' L' => vs' = vs ∧ L' = L'') ⟨rfl, rfl⟩ A s _ E rm fo S fun xs bs L₁ s₁ hq hxs S₁ T₁ => ?_) he hplain
  obtain ⟨L₂, rfl, rfl, rfl⟩ := hq
  exact ⟨S₁.good.x, RX.call (mk := mk) hxs h A s₁ Qc E fs rm (fo.to T₁) hfr S₁ fun e L' s' q x => K e L' s' q (x.from T₁)⟩
theorem RE.methP {o : Expr} {x : Str} {apos pos : Pos} {e : Expr} {args : List Expr} {vs' : List V} {a d f : Addr} {k : CL} {vs : List V} {i j : Nat} {pl : Sem Bool} (ho : PV hb w prog n c ρ L o (.ref a)) (hi : At L i (a, .inst k d vs)) (hx : k.ms[j]? = some (x, f)) (ha : PVL hb w prog n c ρ L (e :: args) vs')
    (hm : MethOk o x apos pos (e :: args) c.env pl) (he : starEach (e :: args) c.env = (false, eval e c.env) :: starEach args c.env) (hplain : (backTo pos (starEach args c.env)).any (·.1) = false)
    (h : RT hb w prog n f (.ref a :: vs') (c.fr ρ :: L) C fun M' => ∃ ρ' L'', M' = c.fr ρ' :: L'' ∧ Q L'') : RE hb w prog n mk c ρ L (.Call (.Attribute o x apos) (e :: args) [] pos) C Q := fun A s Qc E fs rm fo hfr S K => by
  refine methodCall_C (pl := pl) (ho (fun b L' => b = .ref a ∧ L' = L) ⟨rfl, rfl⟩ A s _ E rm fo S fun ov b L₁ s₁ hq hr S₁ T₁ => ?_) hm
  obtain ⟨L₂, rfl, rfl, rfl⟩ := hq
  cases hr
  refine anyC <| getMethod_inst S₁ (At.tl hi) hx ?_
  refine callWith_KC (K := KF w.params) (methKeep hx _) (ha.av (pos := pos) (Q := fun vs'' L' => vs'' = vs' ∧ L' = L₂) ⟨rfl, rfl⟩ A s₁ _ E rm (fo.to T₁) S₁ fun xs bs L₂ s₂ hq hxs S₂ T₂ => ?_) he hplain
  obtain ⟨L₃, rfl, rfl, rfl⟩ := hq
  have T := T₁.trans T₂
  exact ⟨S₂.good.x, RX.call (mk := mk) (vs := .ref a :: bs) (xs := .ref a :: xs) ⟨rfl, hxs⟩ h A s₂ Qc E fs rm (fo.to T) hfr S₂ fun e L' s' q x => K e L' s' q (x.from T)⟩
theorem RE.meth0 {o : Expr} {x : Str} {apos pos : Pos} {pl : Sem Bool} (hm : MethOk o x apos pos [] c.env pl)
    (h : EV hb w prog n c ρ L o fun b L' => ∃ (a d f : Addr) (k : CL) (vs : List V) (i j : Nat), b = .ref a ∧ At L' i (a, .inst k d vs) ∧ k.ms[j]? = some (x, f) ∧ RT hb w prog n f [.ref a] (c.fr ρ :: L') C fun M' => ∃ ρ' L'', M' = c.fr ρ' :: L'' ∧ Q L'') :
    RE hb w prog n mk c ρ L (.Call (.Attribute o x apos) [] [] pos) C Q := fun A s Qc E fs rm fo hfr S K => by
  refine methodCall_C (pl := pl) (h A s _ E rm fo S fun ov b L₁ s₁ hq hr S₁ T₁ => ?_) hm
  obtain ⟨L₂, rfl, a, d, f, k, vs, i, j, rfl, hi, hx, h⟩ := hq
  cases hr
  refine anyC <| getMethod_inst S₁ (At.tl hi) hx ?_
  refine callWith_K0C (S₁.good.x) (methKeep hx _) ?_
  exact RX.call (mk := mk) (vs := [.ref a]) (xs := [.ref a]) ⟨rfl, trivial⟩ h A s₁ Qc E fs rm (fo.to T₁) hfr S₁ fun e L' s' q x => K e L' s' q (x.from T₁)
end
end
section
section
variable {M : Model} {A : Around} {E : Value → Shared → Prop} {s : Shared} {env : Env}
theorem wpC_Try {prog : Program} {w : World} {body orelse : List Stmt} {h₀ : ExceptHandler} {hs : List ExceptHandler} {pos : Pos} {Q : Flow → Shared → Prop}
    (h : wpC (model prog w) A (execs body env) (fun f s₁ => match f with | .next => wpC (model prog w) A (execs orelse env) Q E s₁ | f => Q f s₁)
      (fun e s₁ => wpC (model prog w) A (noteFrame e env) (fun _ s₂ => wpC (model prog w) A (setFlight e none) (fun _ s₃ => wpC (model prog w) A (handleBy e env (h₀ :: hs)) Q E s₃) E s₂) E s₁) s) :
    wpC (model prog w) A (exec (.Try body (h₀ :: hs) orelse [] pos) env) Q E s := by
  rw [arm_exec_Try]
  refine atC ?_
  unfold tryStmt
  simp only [List.isEmpty_nil, if_true, List.isEmpty_cons, Bool.false_and, Bool.false_eq_true, if_false]
  refine wpC_bind (wpC_attempt (wpC_monoE h (fun f s₁ h₁ => ?_) fun e s₁ h₁ => ?_))
  · cases f <;> first | exact h₁ | exact wpC_pure h₁
  · exact wpC_then h₁ fun _ _ h₂ => wpC_bind h₂
end
section
variable {hb : HB} {w : World} {prog : Program} {n : Nat} {c : FC} {ρ : List (Option V)} {L M : Led} {Q : FlowA → List (Option V) → Led → Prop}
theorem SV.tryOk {body : List Stmt} {h₀ : ExceptHandler} {hs : List ExceptHandler} {pos : Pos} {rest : List Stmt} (h : SV hb w prog n c ρ L body (Then hb w prog n c rest Q)) : SV hb w prog n c ρ L (.Try body (h₀ :: hs) [] [] pos :: rest) Q :=
  SV.cons fun A s Qc E rm fo S K => wpC_Try (h A s _ _ rm fo S fun a f L' s' hq hr S' T' => by
    cases f with
    | nxt => cases hr; exact wpC_execs_nil (K .next .nxt L' s' hq rfl S' T')
    | brk => cases hr; exact K .brk .brk L' s' hq rfl S' T'
    | cnt => cases hr; exact K .cont .cnt L' s' hq rfl S' T'
    | ret v => obtain ⟨v', rfl, hv⟩ := hr; exact K (.ret v') (.ret v) L' s' hq ⟨v', rfl, hv⟩ S' T')
noncomputable def SVA (hb : HB) (w : World) (prog : Program) (c : FC) (ρ : List (Option V)) (L : Led) (ss : List Stmt) (Q : FlowA → List (Option V) → Led → Prop) : Prop :=
  ∀ (A : Around) (s : Shared) (Qc : Flow → Shared → Prop) (E : Value → Shared → Prop), StB hb.h w (c.fr ρ :: L) s →
    (∀ a f L' s', Fr2 c (Q f) L' → f.Is a → StB hb.h w L' s' → To (c.fr ρ :: L) s L' s' → Qc a s') → wpAny (model prog w) A (execs ss c.env) Qc E s
theorem SVA.retTrue {k : Nat} {p pos : Pos} (q : Q (.ret (.bool true)) ρ L) : SVA hb w prog c ρ L [.Return (some (.Constant (.bool true) k p)) pos] Q := fun A s Qc E S K =>
  wpAny_execs_cons (wpAny_Return_some (wpAny_Constant_bool (K (.ret (.bool true)) (.ret (.bool true)) _ _ ⟨ρ, L, rfl, q⟩ ⟨_, rfl, rfl⟩ S .refl)))
theorem SVA.setNone {x : Str} {px p pos : Pos} {k : Nat} {ρ' : List (Option V)} (ok : FOk c) (hs : swapsWith (.Constant .none k p) (some (.Name x px)) pos.line c.env = pure false) (hr : Sto c.nm.l x ρ .none ρ') (q : Q .nxt ρ' L) :
    SVA hb w prog c ρ L [.Assign [.Name x px] (.Constant .none k p) pos] Q := fun A s Qc E S K => by
  obtain ⟨i, hx, rfl⟩ := hr
  exact wpAny_execs_cons (wpAny_Assign_Name (wpAny_Constant_none (store_local ok S hx (b := .none) rfl fun s' S' T' => wpAny_execs_nil (K .next .nxt _ _ ⟨_, L, rfl, q⟩ rfl S' T'))) hs)
theorem SV.tryX (k : EC) {body : List Stmt} {b₀ : Stmt} {suite : List Stmt} {np hp pos : Pos} {hs : List ExceptHandler} {rest : List Stmt} {i : Nat} (hx : c.gl[i]? = some (k.x, .ref k.C)) (ok : FOk c) (hf : c.env.frame = some c.env.locals) (ht : hb.top = some c.env)
    (h : RS hb w prog n false c ρ L body k.C fun L' => ∀ ρ', SVA hb w prog c ρ' L' (b₀ :: suite) (Then hb w prog n c rest Q)) :
    SV hb w prog n c ρ L (.Try body (.ExceptHandler (some (.Name k.x np)) none (b₀ :: suite) hp :: hs) [] [] pos :: rest) Q :=
  SV.cons fun A s Qc E rm fo S K => wpC_Try (by
    obtain ⟨fs, hfr⟩ := rm.top _ ht
    refine h A s _ _ (c.env :: fs) rm fo hfr S fun e L' s' hq x => ?_
    obtain ⟨ρ', L'', rfl, hq⟩ := hq
    obtain ⟨hm, _⟩ | ⟨B, a0, cv, fl⟩ := x
    · cases hm
    have F₀ : FrsOk hb.h _ s' (c.env :: fs) := (FrsOk.of fo hfr).to cv.to
    refine anyC (wpAny_looks_onW hfr hf fl fun h₄ held₄ u₄ => anyC (wpAny_landsW held₄ fun h₅ fl₅ u₅ => anyC ?_))
    have cv₅ := (cv.step F₀ fl₅.1 (u₄.trans u₅) : Cov _ _ _ _ _ _ { s' with heap := h₅ } _)
    refine (k.own cv₅.st.good).elim fun mg O => ?_
    refine own_use O fun tl N nm qn bs hdct sn sub ab col dd k0 k1 k2 k3 k5 mN hC hN hni T => ?_
    obtain ⟨ob, hob, hobc⟩ := fl₅.there
    have nm' : ∀ {A' : Around} {E' : Value → Shared → Prop} {Q' : Value → Shared → Prop}, Q' (.ref k.C) { s' with heap := h₅ } → wpAny (model prog w) A' (eval (.Name k.x np) c.env) Q' E' { s' with heap := h₅ } := by
      intro A' E' Q' q
      obtain ⟨h1, h2, h3⟩ := ok.glob _ (List.mem_of_getElem? hx)
      refine wpAny_Name ?_ h2
      have e : loadName c.env k.x = loadGlobal c.env k.x := by
        unfold loadName Env.blockKind
        rw [ok.kind, h1]
        rfl
      rw [e]
      rcases h3 w _ cv₅.st.good with ⟨m, v', hn, hm, hv⟩ | ⟨m, mb, v', hn, hm, hnb, hmb, hv⟩
      · cases hv; exact loadGlobal_global (ok.glo.symm ▸ hn) hm q
      · cases hv; exact loadGlobal_builtin (ok.glo.symm ▸ hn) hm (ok.bui.symm ▸ hnb) hmb q
    refine wpAny_handleBy_cons (codeAny_handlers_test (nm' ?_)) (by intro q; cases q)
    refine wpAny_excMatches_sub_self hC hob hobc (T.hasType PySem.F.excBase_Exception.hasBase) (codeAny_handlers_suite ?_)
    refine lands_againW fl₅ fun h₆ fl₆ u₆ => ?_
    have F₅ : FrsOk hb.h (c.fr ρ' :: L'') { s' with heap := h₅ } (c.env :: fs) := (FrsOk.of fo hfr).to cv₅.to
    have cv₆ := (cv₅.step F₅ fl₆.1 u₆ : Cov _ _ _ _ _ _ { s' with heap := h₆ } _)
    refine hq ρ' _ _ _ _ cv₆.st fun a f L₁ s₁ hq₁ hr S₁ T₁ => ?_
    have TT := cv₆.to.trans T₁
    exact K a f L₁ s₁ hq₁ hr S₁ TT)
end
end
section
structure CellV (c : FC) (x : Str) (a : Addr) : Prop where
  kind : c.env.kindOf x = some .cell
  cell : c.env.cells.lookup x = some a
  dbg : (x == ("__debug__" : Str)) = false
section
variable {hb : HB} {w : World} {prog : Program} {n : Nat} {c : FC} {ρ : List (Option V)} {L M : Led} {Q : FlowA → List (Option V) → Led → Prop}
theorem PV.cell {i : Nat} {x : Str} {pos : Pos} {a : Addr} {v : V} (ok : FOk c) (h : CellV c x a) (hi : At L i (a, .cell (some v))) : PV hb w prog n c ρ L (.Name x pos) v := fun Q q =>
  EX.leaf (fun A s Qc E rm S k => by
    obtain ⟨y, hc, hy⟩ := S.rel _ (At.tl (q := c.fr ρ) hi).mem
    cases y with
    | none => exact hy.elim
    | some y => exact wpAny_Name (wpAny_loadName_cell ok.kind h.kind h.cell hc (k y s.toks hy)) h.dbg) q
theorem store_cell {A : Around} {E : Value → Shared → Prop} (ok : FOk c) {s : Shared} {i : Nat} {x : Str} {a : Addr} {v₀ : Option V} {b : V} {v : Value} (h : CellV c x a) (S : StB hb.h w (c.fr ρ :: L) s) (hi : At L i (a, .cell v₀)) (hv : b.Is v) {Qc : Unit → Shared → Prop}
    (k : ∀ s', StB hb.h w (c.fr ρ :: L.set i (a, .cell (some b))) s' → To (c.fr ρ :: L) s (c.fr ρ :: L.set i (a, .cell (some b))) s' → Qc () s') : wpAny (model prog w) A (storeName c.env x v) Qc E s := by
  obtain ⟨y, hc, hy⟩ := S.rel _ (At.tl (q := c.fr ρ) hi).mem
  refine wpAny_storeName_cell ok.kind h.kind h.cell hc fun h' hc' sb => ?_
  obtain ⟨S', T'⟩ := S.change (i := i + 1) (o' := .cell (some b)) (tk := s.toks) (h' := h') (At.tl (q := c.fr ρ) hi) rfl rfl (fun z o hz e => (sb.2 z (by simpa [feet] using hz)).trans e) ⟨some v, hc', hv⟩
  exact k _ S' T'
theorem SV.assignCell {x : Str} {px pos : Pos} {value : Expr} {rest : List Stmt} {a : Addr} (ok : FOk c) (hx : CellV c x a) (hs : swapsWith value (some (.Name x px)) pos.line c.env = pure false)
    (h : EV hb w prog n c ρ L value fun b L' => ∃ i v₀, At L' i (a, .cell v₀) ∧ SV hb w prog n c ρ (L'.set i (a, .cell (some b))) rest Q) : SV hb w prog n c ρ L (.Assign [.Name x px] value pos :: rest) Q :=
  SV.cons fun A s Qc E rm fo S K => wpC_Assign_Name (h A s _ E rm fo S fun v b L' s₁ hq hv S₁ T₁ => by
    obtain ⟨L'', rfl, i, v₀, hi, hq⟩ := hq
    exact anyC <| store_cell ok hx S₁ hi hv fun s' S' T' => K .next .nxt _ _ ⟨_, _, rfl, hq⟩ rfl S' (T₁.trans T')) hs
inductive ForRC (hb : HB) (w : World) (prog : Program) (n : Nat) (c : FC) (ρ : List (Option V)) (a : Addr) (body rest : List Stmt) (Q : FlowA → List (Option V) → Led → Prop) (b : V) (L₀ : Led) : Prop
  | mk (r : Addr) (j : Nat) (lo hi : Int) (I : Nat → Led → Prop) (h0 : b = .ref r) (h1 : At L₀ j (r, .rng lo hi)) (h2 : (-(2 ^ 40) ≤ lo ∧ lo ≤ 2 ^ 40 ∧ -(2 ^ 40) ≤ hi ∧ hi ≤ 2 ^ 40)) (h3 : I 0 L₀) (h4 : (∀ k L', k < rlen lo hi → I k L' → ∃ i v₀, At L' i (a, .cell v₀) ∧ SV hb w prog n c ρ (L'.set i (a, .cell (some (.int (lo + k))))) body fun f ρ'' L'' => f = .nxt ∧ ρ'' = ρ ∧ I (k + 1) L'')) (h5 : (∀ L', I (rlen lo hi) L' → SV hb w prog n c ρ L' rest Q)) : ForRC hb w prog n c ρ a body rest Q b L₀
theorem SV.forRangeC {x : Str} {px pos : Pos} {iter : Expr} {body rest : List Stmt} {a : Addr} (ok : FOk c) (hx : CellV c x a)
    (h : EV hb w prog n c ρ L iter fun b L₀ => ForRC hb w prog n c ρ a body rest Q b L₀)
    (hs : ∀ x, foldedSetIterable iter c.env x = pure x := by intro _; rfl) : SV hb w prog n c ρ L (.For (.Name x px) iter body [] pos :: rest) Q :=
  SV.cons fun A s Qc E rm fo S K => wpC_For (h A s _ E rm fo S fun xv b L₁ s₁ hq hr S₁ T₁ => by
    obtain ⟨L₀, rfl, r, j, lo, hi, I, rfl, hj, ⟨b1, b2, b3, b4⟩, h0, turn, fin⟩ := hq
    cases hr
    obtain ⟨t, u, v, hr⟩ := S₁.rel _ (At.tl (q := c.fr ρ) hj).mem
    refine anyC (wpAny_pyIter_range hr (range_small b1 b2 b3 b4) ?_)
    generalize hIt : s₁.heap.objs.size = it
    have hit : s₁.heap.get? it = none := hIt ▸ Heap.get?_none_of_le (Nat.le_refl _)
    have kk : ∀ b o, b ≠ it → s₁.heap.get? b = some o → (s₁.heap.push { cls := .type "range_iterator", data := .fields #[rawInt lo, rawInt (Builtin.Range.rangeSize lo hi 1), rawInt 1] }).get? b = some o := fun b o _ e => Heap.get?_push_of_some _ e
    have hif : it ∉ foot (c.fr ρ :: L₀) := fun q => by obtain ⟨o, e⟩ := S₁.live q; rw [hit] at e; cases e
    have hitb : hb.h.get? it = none := S₁.fresh hit
    have W : Itr hb w prog it (rlen lo hi) (fun i => .int (lo + i)) (fun _ => True) (fun i h => IsRangeIter h it (lo + i) ((rlen lo hi : Int) - i) 1) := Itr.range
    have st0 : IsRangeIter (s₁.heap.push { cls := .type "range_iterator", data := .fields #[rawInt lo, rawInt (Builtin.Range.rangeSize lo hi 1), rawInt 1] }) it (lo + (0 : Nat)) ((rlen lo hi : Int) - (0 : Nat)) 1 := by
      have := Heap.get?_push_size s₁.heap (o := { cls := .type "range_iterator", data := .fields #[rawInt lo, rawInt (Builtin.Range.rangeSize lo hi 1), rawInt 1] }) rfl
      rw [hIt] at this
      rw [rangeSize_rlen] at this ⊢
      show IsRangeIter _ _ _ _ _
      simp only [Int.natCast_zero, Int.add_zero, Int.sub_zero] at *
      exact this
    have S₂ := S₁.skip (tk := s₁.toks) hitb hif kk
    have T₂ := (To.refl (L := c.fr ρ :: L₀) (s := s₁)).skip (tk := s₁.toks) hit kk
    refine codeC_forLoop (fun k s' => ∃ i L', k = rlen lo hi + 1 - i ∧ i ≤ rlen lo hi ∧ I i L' ∧ StB hb.h w (c.fr ρ :: L') s' ∧ To (c.fr ρ :: L₀) s₁ (c.fr ρ :: L') s' ∧ it ∉ foot (c.fr ρ :: L') ∧ IsRangeIter s'.heap it (lo + i) ((rlen lo hi : Int) - i) 1)
      (fun k s' hI => ?_) (rlen lo hi + 1) ⟨0, L₀, rfl, Nat.zero_le _, h0, S₂, T₂, hif, st0⟩
    obtain ⟨i, L', rfl, hi', hI, S', T', hf, st'⟩ := hI
    by_cases q : i < rlen lo hi
    · refine anyC <| W.item i A s' _ _ _ q trivial S' hf rm.hh st' fun v h' tk hv st₂ k => ?_
      have S₂ := S'.skip (tk := tk) hitb hf k
      have T₂ := T'.skip (tk := tk) hit k
      obtain ⟨ix, v₀, hcell, tr⟩ := turn i L' q hI
      show wpC _ _ (letOwnedTupleGo (.Name x px) (.ref it) v) _ _ _
      refine wpC_pure ?_
      refine wpC_assign_Name (anyC <| store_cell ok hx S₂ hcell hv fun s₃ S₃ T₃ => ?_)
      have T₃' := T₂.trans T₃
      have hif₃ : it ∉ foot (c.fr ρ :: L'.set ix (a, .cell (some (.int (lo + i))))) := fun q => by
        rcases T₃.new it q with q | q
        · exact hf q
        · obtain ⟨o, e, _⟩ := W.live _ _ st₂; rw [q] at e; cases e
      refine tr A s₃ _ _ rm ((fo.to T₁).to T₃') S₃ fun aa f L₄ s₄ hq hr S₄ T₄ => ?_
      obtain ⟨ρ₄, L₅, rfl, rfl, rfl, hq⟩ := hq
      cases hr
      have T₄' := T₃'.trans T₄
      have st₃ := W.frame _ _ _ st₂ fun o e => T₃.keepN hf e (W.nd st₂ e)
      have hif₄ : it ∉ foot (c.fr ρ₄ :: L₅) := fun q => by
        rcases T₄.new it q with q | q
        · exact hif₃ q
        · obtain ⟨o, e, _⟩ := W.live _ _ st₃; rw [q] at e; cases e
      have st₄ := W.frame _ _ _ st₃ fun o e => T₄.keepN hif₃ e (W.nd st₃ e)
      exact ⟨rlen lo hi + 1 - (i + 1), by lia, i + 1, L₅, rfl, q, hq, S₄, T₄', hif₄, st₄⟩
    · obtain rfl : i = rlen lo hi := by lia
      refine anyC <| W.done A s' _ _ _ trivial S' hf rm.hh st' fun h' tk k => ?_
      exact wpC_execs_nil (K .next .nxt _ _ ⟨ρ, L', rfl, fin _ hI⟩ rfl (S'.skip hitb hf k) (T₁.trans (T'.skip hit k)))) hs
theorem StB.pushAll {s : Shared} {es : Led} {h' : Heap} {tk : Tok} (S : StB hb.h w M s) (keep : ∀ b x, s.heap.get? b = some x → h'.get? b = some x)
    (hn : ∀ b ∈ foot es, s.heap.get? b = none) (hd : (foot es).Nodup) (hO : ∀ p ∈ es, ObjAt h' p.1 p.2) : StB hb.h w (es ++ M) { s with heap := h', toks := tk } ∧ To M s (es ++ M) { s with heap := h', toks := tk } := by
  have S' : StB hb.h w (es ++ M) { s with heap := h', toks := tk } := by
    refine ⟨S.gd, fun b x e => keep b x (S.base b x e), fun b hb' => ?_, fun p hp => ?_, ?_⟩
    · rw [foot_append] at hb'
      rcases List.mem_append.mp hb' with q | q
      · exact S.fresh (hn b q)
      · exact S.off b q
    · rcases List.mem_append.mp hp with hp | hp
      · exact hO p hp
      · exact (S.rel p hp).keeps fun b x _ e => keep b x e
    · rw [foot_append]
      exact List.nodup_append.mpr ⟨hd, S.nd, fun b hb' c hc q => by obtain ⟨o, e⟩ := S.live (q ▸ hc); rw [hn b hb'] at e; cases e⟩
  refine ⟨S', ⟨_, _, rfl⟩, fun b o _ e => ⟨o, keep b o e, .inl rfl⟩, fun b o e d => ⟨o, keep b o e, d⟩, fun b hb' => ?_, fun b o e d hb' => ?_⟩
  · rw [foot_append] at hb'
    rcases List.mem_append.mp hb' with q | q
    · exact .inr (hn b q)
    · exact .inl q
  · unfold nfoot at hb' ⊢
    rw [List.flatMap_append] at hb'
    rcases List.mem_append.mp hb' with q | q
    · have : b ∈ foot es := nfoot_foot (L := es) q
      rw [hn b this] at e; cases e
    · exact q
end
set_option genInjectivity false in
structure FSC where
  st : Stmt
  f : Addr
  qual : Str
  cd : Addr
  pm : Str
  t : Tok
  ps : List Str
  cs : List Str
  gl : List (Str × V)
noncomputable def fscOk (F : FSC) : Bool :=
  F.gl.all (fun x => (sScope F.st).names.lookup x.1 == some .globalImplicit && !(x.1 == ("__debug__" : Str))) &&
  ((sScope F.st).kind == .function) && !(sScope F.st).isCoroutine && !(sScope F.st).isGenerator &&
  F.cs.all (fun x => (sScope F.st).names.lookup x == some .cell && !(x == ("__debug__" : Str))) && ndB F.cs && F.ps.all (fun x => F.cs.contains x) && ndB F.ps
structure FSCOk (F : FSC) : Prop where
  ok : fscOk F = true
  at_ : ∀ P, (KF P).lookup F.f = some (fnObj F.st F.qual F.cd F.pm F.t)
  code : ∀ P, codeIn (KF P) (.ref F.cd) F.qual = true
  gv : ∀ p ∈ F.gl, GV p.1 p.2
  bind : ∀ vs : List Value, vs.length = F.ps.length → bindArgs (fnFd F.st F.qual F.cd F.pm F.t) ⟨vs, []⟩ = pure (F.ps.zip vs)
  cells : ∀ k, (cellsFrom k (sScope F.st).names []).map (·.1) = F.cs
@[reducible] noncomputable def FSC.fc (F : FSC) (L : Addr) : FC := ⟨callEnvC (fnFd F.st F.qual F.cd F.pm F.t) L F.f, ⟨[], List.nodup_nil⟩, F.gl⟩
structure FSCParts (F : FSC) : Prop where
  glo : ∀ p ∈ F.gl, (sScope F.st).names.lookup p.1 = some .globalImplicit ∧ (p.1 == ("__debug__" : Str)) = false
  kind : (sScope F.st).kind = .function
  co : (sScope F.st).isCoroutine = false
  gen : (sScope F.st).isGenerator = false
  cell : ∀ x ∈ F.cs, (sScope F.st).names.lookup x = some .cell ∧ (x == ("__debug__" : Str)) = false
  nd : F.cs.Nodup
  ps : ∀ x ∈ F.ps, x ∈ F.cs
  psnd : F.ps.Nodup
theorem FSCOk.parts {F : FSC} (h : FSCOk F) : FSCParts F := by
  have h := h.ok
  simp only [fscOk, Bool.and_eq_true, Bool.not_eq_true', List.all_eq_true, beq_iff_eq, List.contains_iff_mem] at h
  obtain ⟨⟨⟨⟨⟨⟨⟨h1, h2⟩, h3⟩, h4⟩, h5⟩, h6⟩, h7⟩, h8⟩ := h
  exact ⟨h1, h2, h3, h4, h5, nd_of h6, h7, nd_of h8⟩
theorem FSCOk.fok {F : FSC} (h : FSCOk F) (L : Addr) : FOk (F.fc L) where
  kind := h.parts.kind
  glo := rfl
  bui := rfl
  loc := fun x hx => by cases hx
  glob := fun p hp => ⟨(h.parts.glo p hp).1, (h.parts.glo p hp).2, h.gv p hp⟩
noncomputable def cellLed (cl : List (Str × Addr)) (bs : List (Str × V)) : Led := cl.map fun p => (p.2, .cell (bs.lookup p.1))
theorem bindC_lookup {kindOf : Str → Option NameKind} : ∀ {bs : List (Str × Value)} {m : Str → Option Value}, (∀ p ∈ bs, kindOf p.1 ≠ some .local) → (bs.map (·.1)).Nodup → ∀ x, bindC kindOf bs m x = (bs.lookup x).or (m x)
  | [], m, _, _, x => by rw [bindC]; rfl
  | (y, v) :: r, m, h, nd, x => by
    have hk := h (y, v) (.head _)
    rw [bindC, if_neg hk, bindC_lookup (fun p hp => h p (.tail _ hp)) (List.nodup_cons.mp nd).2, List.lookup_cons]
    by_cases q : x = y
    · subst q
      have : r.lookup x = none := by
        rw [List.lookup_eq_none_iff]
        intro p hp
        refine bne_iff_ne.mpr fun e => ?_
        exact (List.nodup_cons.mp nd).1 (List.mem_map.mpr ⟨p, hp, e.symm⟩)
      simp [this]
    · rw [if_neg q, beq_eq_false_iff_ne.mpr q]
theorem opt_is {bs : List Str} : ∀ {vs : List V} {xs : List Value} {x : Str}, AllIs vs xs → OptIs ((bs.zip vs).lookup x) ((bs.zip xs).lookup x) := by
  induction bs with
  | nil => intro vs xs x h; rw [List.zip_nil_left, List.zip_nil_left]; trivial
  | cons b bs ih =>
    intro vs xs x h
    cases vs with
    | nil => cases xs with
      | nil => rw [List.zip_nil_right, List.zip_nil_right]; trivial
      | cons _ _ => exact h.elim
    | cons v vs => cases xs with
      | nil => exact h.elim
      | cons y xs =>
        rw [List.zip_cons_cons, List.zip_cons_cons, List.lookup_cons, List.lookup_cons]
        cases x == b with
        | true => exact h.1
        | false => exact ih h.2
section
variable {hb : HB} {w : World} {prog : Program} {n : Nat} {M : Led}
theorem CT.fnC {F : FSC} (hF : FSCOk F) {vs : List V} {Q : V → Led → Prop} (hk : vs.length = F.ps.length)
    (h : ∀ Lf cl, cl = cellsFrom (Lf + 1) (sScope F.st).names [] → cl.map (·.1) = F.cs → FOk (F.fc Lf) → (∀ p ∈ cl, CellV (F.fc Lf) p.1 p.2) →
      SV ⟨hb.h, some (F.fc Lf).env⟩ w prog n (F.fc Lf) [] (cellLed cl (F.ps.zip vs) ++ M) (sBody F.st) fun fl _ M' => Q (match fl with | .ret v => v | _ => .none) M') :
    CT hb w prog (n + 1) F.f vs M Q := fun xs hxs A s R rm fo S K => by
  have G := S.good
  have X := G.x
  have P := hF.parts
  obtain ⟨_, mg, mb, T⟩ := G.t
  have hlen : xs.length = F.ps.length := by rw [← hxs.length, hk]
  have lookCell : ∀ k x, x ∈ F.cs → ∃ a, (cellsFrom k (sScope F.st).names []).lookup x = some a := fun k x hx => by
    cases e : (cellsFrom k (sScope F.st).names []).lookup x with
    | some a => exact ⟨a, rfl⟩
    | none =>
      rw [List.lookup_eq_none_iff] at e
      rw [← hF.cells k] at hx
      obtain ⟨p, hp, rfl⟩ := List.mem_map.mp hx
      exact absurd (e p hp) (by simp)
  have hbn : ∀ p ∈ F.ps.zip xs, p.1 ∈ F.ps := fun p hp => (List.of_mem_zip hp).1
  refine codeC_call_function (fd := fnFd F.st F.qual F.cd F.pm F.t) (body := sBody F.st) rm.room (X _ _ (hF.at_ _)) rfl P.co P.gen rfl (codeRec_of X (hF.code _)) ?_
  rw [hF.bind xs hlen]
  refine wpAny_pure (wpAny_newFunctionEnv_cells P.kind (fun x hx => ?_) fun env he s₁ ic => ?_)
  · obtain ⟨a, ha⟩ := lookCell (s.heap.objs.size + 1) x.1 (P.ps _ (hbn x hx))
    exact .inr ⟨(P.cell _ (P.ps _ (hbn x hx))).1, by show ((cellsFrom (s.heap.objs.size + 1) (sScope F.st).names []).lookup x.1).isSome = true; rw [ha]; rfl⟩
  have hEnv : env = (F.fc s.heap.objs.size).env := he
  subst hEnv
  clear he
  obtain ⟨⟨⟨h₁, tk, rfl⟩, ns, keep, fresh⟩, hcell, apart, above⟩ := ic
  refine ⟨T.nolimit.keeps keep, codeC_func ?_⟩
  generalize hcl : cellsFrom (s.heap.objs.size + 1) (sScope F.st).names [] = cl
  have hcl' : (F.fc s.heap.objs.size).env.cells = cl := hcl
  have names : cl.map (·.1) = F.cs := hcl ▸ hF.cells _
  have nd : cl.Pairwise fun x y => x.1 ≠ y.1 := List.pairwise_map.mp (by rw [names]; exact P.nd)
  have look : ∀ p ∈ cl, cl.lookup p.1 = some p.2 := fun p hp => by
    have : ∀ {l : List (Str × Addr)}, (l.Pairwise fun x y => x.1 ≠ y.1) → p ∈ l → l.lookup p.1 = some p.2 := by
      intro l
      induction l with
      | nil => intro _ hp; cases hp
      | cons q r ih =>
        intro nd hp
        obtain ⟨n1, n2⟩ := List.pairwise_cons.mp nd
        rw [List.lookup_cons]
        rcases List.mem_cons.mp hp with rfl | hp
        · simp
        · rw [beq_eq_false_iff_ne.mpr (Ne.symm (n1 p hp))]; exact ih n2 hp
    exact this nd hp
  have cellv : ∀ p ∈ cl, CellV (F.fc s.heap.objs.size) p.1 p.2 := fun p hp =>
    ⟨(P.cell p.1 (by rw [← names]; exact List.mem_map.mpr ⟨p, hp, rfl⟩)).1, by rw [hcl']; exact look p hp, (P.cell p.1 (by rw [← names]; exact List.mem_map.mpr ⟨p, hp, rfl⟩)).2⟩
  have foot_cl : foot (cellLed cl (F.ps.zip vs)) = cl.map (·.2) := by
    unfold foot cellLed
    rw [List.flatMap_map]
    have : ∀ l : List (Str × Addr), l.flatMap (fun a => feet ((fun p : Str × Addr => (p.2, AO.cell ((F.ps.zip vs).lookup p.1))) a)) = l.map (·.2) := by
      intro l
      induction l with
      | nil => rfl
      | cons p r ih => rw [List.flatMap_cons, ih]; rfl
    exact this cl
  obtain ⟨S', T'⟩ := S.pushAll (hb := hb) (es := ((F.fc s.heap.objs.size).fr []) :: cellLed cl (F.ps.zip vs)) (h' := h₁) (tk := tk) keep
    (fun b hb' => by
      rw [foot_cons, foot_cl] at hb'
      rcases List.mem_append.mp hb' with q | q
      · have e : b = s.heap.objs.size := List.mem_singleton.mp q
        rw [e]; exact Heap.get?_none_of_le (Nat.le_refl _)
      · obtain ⟨p, hp, rfl⟩ := List.mem_map.mp q
        refine Heap.get?_none_of_le (Nat.le_of_lt (above p.1 p.2 ?_))
        rw [hcl']; exact hp)
    (by
      rw [foot_cons, foot_cl]
      refine List.nodup_append.mpr ⟨by simp [feet], List.pairwise_map.mpr (hcl' ▸ apart), fun b hb' d hd q => ?_⟩
      have e : b = s.heap.objs.size := List.mem_singleton.mp hb'
      obtain ⟨p, hp, rfl⟩ := List.mem_map.mp hd
      have := above p.1 p.2 (by rw [hcl']; exact hp)
      rw [← q, e] at this
      exact absurd this (Nat.lt_irrefl _))
    (fun p hp => by
      rcases List.mem_cons.mp hp with rfl | hp
      · exact ⟨_, ns, fun i x v hx _ => by cases hx⟩
      · obtain ⟨q, hq, rfl⟩ := List.mem_map.mp hp
        have hc := hcell q.1 q.2 (by rw [hcl']; exact look q hq)
        refine ⟨_, hc, ?_⟩
        rw [bindC_lookup (fun p hp => by
            have := (P.cell p.1 (P.ps _ (hbn p hp))).1
            show (sScope F.st).names.lookup p.1 ≠ some .local
            rw [this]; decide) (by
            have : ((F.ps.zip xs).map (·.1)).Sublist F.ps := by
              rw [show ((fun x : Str × Value => x.1) : Str × Value → Str) = Prod.fst from rfl, List.map_fst_zip (Nat.le_of_eq hlen.symm)]; exact List.Sublist.refl _
            exact this.nodup P.psnd)]
        rw [Option.or_none]
        exact opt_is hxs)
  have fo' : Fo hb.h (A.deeper (F.fc s.heap.objs.size).env) (((F.fc s.heap.objs.size).fr [] :: cellLed cl (F.ps.zip vs)) ++ M) { s with heap := h₁, toks := tk } := by
    obtain ⟨fs, e, hf⟩ := fo.to T'
    refine ⟨_, Around.frames_deeper e, ?_⟩
    intro env he
    rcases List.mem_cons.mp he with rfl | he
    · obtain ⟨o, es, ep, ho, hd, _⟩ := ns
      refine ⟨⟨by show (sScope F.st).kind ≠ .module; rw [P.kind]; decide, _, o, rfl, S.fresh (Heap.get?_none_of_le (Nat.le_refl _)), ho, es, ep, hd⟩, fun a ha q => ?_⟩
      cases ha
      have q : s.heap.objs.size ∈ foot (cellLed cl (F.ps.zip vs) ++ M) := nfoot_foot (L := cellLed cl (F.ps.zip vs) ++ M) q
      have nd' := S'.nd
      rw [List.cons_append, foot_cons] at nd'
      exact (List.nodup_append.mp nd').2.2 s.heap.objs.size (List.mem_singleton.mpr rfl) _ q rfl
    · exact hf env he
  refine h s.heap.objs.size cl hcl.symm names (hF.fok _) cellv _ _ _ _ (rm.deeper _ (let ⟨fs, e, _⟩ := fo; ⟨fs, e⟩)) fo' S' fun fl a L' s' hq hr S₂ T₂ => ?_
  obtain ⟨ρ', M', rfl, hq⟩ := hq
  refine K _ _ M' s' hq ?_ (S₂.sub (List.sublist_cons_self _ _)) ((T'.trans T₂).sub (List.sublist_cons_self _ _))
  cases a with
  | nxt => cases hr; rfl
  | brk => cases hr; rfl
  | cnt => cases hr; rfl
  | ret b => obtain ⟨v, rfl, hv⟩ := hr; exact hv
end
end
section
open PySem.SeqAt
inductive All2 {α β : Type} (R : α → β → Prop) : List α → List β → Prop where
  | nil : All2 R [] []
  | cons {a : α} {b : β} {as : List α} {bs : List β} : R a b → All2 R as bs → All2 R (a :: as) (b :: bs)
theorem allT (n : Nat) : (List.range n).all (fun _ => true) = true := by rw [List.all_eq_true]; intro _ _; rfl
noncomputable def EqN (L : Led) : Nat → V → V → Prop
  | 0, u, v => u = v ∧ u.plain = true
  | k + 1, u, v => (u = v ∧ u.plain = true) ∨ ∃ a b vs ws, u = .ref a ∧ v = .ref b ∧ (((a, AO.tup vs) ∈ L ∧ (b, AO.tup ws) ∈ L) ∨ ((a, AO.list vs) ∈ L ∧ (b, AO.list ws) ∈ L)) ∧ vs.length = ws.length ∧
      ∀ (i : Nat) (x y : V), vs[i]? = some x → ws[i]? = some y → EqN L k x y
theorem EqN.same {L : Led} {v : V} (h : v.plain = true) : ∀ k, EqN L k v v
  | 0 => ⟨rfl, h⟩
  | _ + 1 => .inl ⟨rfl, h⟩
theorem EqN.items {L : Led} {k : Nat} {vs ws : List V} (h : All2 (EqN L k) vs ws) : vs.length = ws.length ∧ ∀ (i : Nat) (x y : V), vs[i]? = some x → ws[i]? = some y → EqN L k x y := by
  induction h with
  | nil => exact ⟨rfl, fun i x y h => by cases h⟩
  | cons h _ ih =>
    refine ⟨congrArg (· + 1) ih.1, fun i x y hx hy => ?_⟩
    cases i with
    | zero => exact Option.some.inj hx ▸ Option.some.inj hy ▸ h
    | succ i => exact ih.2 i x y hx hy
theorem EqN.tup {L : Led} {k : Nat} {a b : Addr} {vs ws : List V} (ha : (a, AO.tup vs) ∈ L) (hb : (b, AO.tup ws) ∈ L) (h : All2 (EqN L k) vs ws) : EqN L (k + 1) (.ref a) (.ref b) :=
  .inr ⟨a, b, vs, ws, rfl, rfl, .inl ⟨ha, hb⟩, (EqN.items h).1, (EqN.items h).2⟩
theorem eqs_same {L : Led} {k : Nat} : ∀ {vs : List V}, (∀ v ∈ vs, v.plain = true) → All2 (EqN L k) vs vs
  | [], _ => .nil
  | v :: vs, h => .cons (EqN.same (h v (.head _)) k) (eqs_same fun x hx => h x (.tail _ hx))
theorem RcAt.bytes_bytes {A : Around} {s : Shared} (a : Array UInt8) (t : Tok) (b : Array UInt8) (u : Tok) : RcAt A s (.bytes a t) (.bytes b u) (a.toList == b.toList) := fun prog w E Q h => by
  show wpAny _ _ (compareOp .Eq (.bytes a t) (.bytes b u)) _ _ _
  exact eq_bytes h
theorem EqAt.bytes_same {A : Around} {s : Shared} (a : Array UInt8) (t u : Tok) : EqAt A s (.bytes a t) (.bytes a u) true := fun prog w E Q h => by
  unfold eqBool
  refine wpAny_holding ?_
  refine wpAny_ite_split (fun hab => ?_) (fun _ => ?_)
  · exact wpAny_bind (wpAny_rule (wpAny_pure h))
  · exact wpAny_bind (RcAt.bytes_bytes a t a u prog w E _ (wpAny_truthy_bool (by simpa using h)))
section
variable {hb : Heap} {w : World} {L : Led}
theorem EqN.at {s : Shared} (S : StB hb w L s) : ∀ {k : Nat} {A : Around} {u v : V} {x y : Value}, EqN L k u v → u.Is x → v.Is y → A.units + k < cLine → EqAt A s x y true := by
  have scalar : ∀ {A : Around} {u : V} {x y : Value}, u.plain = true → u.Is x → u.Is y → EqAt A s x y true := by
    intro A u x y hp hx hy
    cases u with
    | none => cases hx; cases hy; exact EqAt.same _
    | bool b => cases hx; cases hy; exact EqAt.same _
    | int i => obtain ⟨t, rfl⟩ := hx; obtain ⟨u, rfl⟩ := hy; have := EqAt.int_int (A := A) (s := s) i t i u; rwa [beq_self_eq_true] at this
    | str i => obtain ⟨t, rfl⟩ := hx; obtain ⟨u, rfl⟩ := hy; have := EqAt.str_str (A := A) (s := s) i t i u; rwa [beq_self_eq_true] at this
    | bytes i => obtain ⟨t, rfl⟩ := hx; obtain ⟨u, rfl⟩ := hy; exact EqAt.bytes_same i t u
    | ref a => cases hx; cases hy; exact EqAt.same _
    | lit v => cases hp
  intro k
  induction k with
  | zero => intro A u v x y h hx hy hu; obtain ⟨rfl, hp⟩ := h; exact scalar hp hx hy
  | succ k ih =>
    intro A u v x y h hx hy hu
    rcases h with ⟨rfl, hp⟩ | ⟨a, b, vs, ws, rfl, rfl, hm, hl, h⟩
    · exact scalar hp hx hy
    · cases hx; cases hy
      by_cases q : a = b
      · subst q; exact EqAt.same _
      · have items : ∀ {xs ys : Array Value}, AllIs vs xs.toList → AllIs ws ys.toList → ∀ j (h1 : j < xs.size) (h2 : j < ys.size), EqAt A.in1 s xs[j] ys[j] true := fun {xs ys} hxs hys j h1 h2 => by
          obtain ⟨p, hp, ip⟩ := hxs.get' (i := j) (v := xs[j]) (by simp [h1])
          obtain ⟨r, hr, ir⟩ := hys.get' (i := j) (v := ys[j]) (by simp [h2])
          exact ih (h j p r hp hr) ip ir (by show A.units + 1 + k < _; lia)
        rcases hm with ⟨ha, hb'⟩ | ⟨ha, hb'⟩
        · obtain ⟨xs, m, ex, rx⟩ := S.rel _ ha
          obtain ⟨ys, m', ey, ry⟩ := S.rel _ hb'
          have sz : xs.size = ys.size := by rw [← Array.length_toList, ← rx.length, hl, ry.length, Array.length_toList]
          have := RcAt.tuples (A := A) (s := s) (e := fun _ => true) ⟨_, ex, rfl, m, rfl⟩ ⟨_, ey, rfl, m', rfl⟩ (by lia) (items rx ry)
          rw [sz] at this
          exact EqAt.of_refs q (by simpa [allT] using this)
        · obtain ⟨xs, m, ex, rx⟩ := S.rel _ ha
          obtain ⟨ys, m', ey, ry⟩ := S.rel _ hb'
          have sz : xs.size = ys.size := by rw [← Array.length_toList, ← rx.length, hl, ry.length, Array.length_toList]
          have := RcAt.lists (A := A) (s := s) (e := fun _ => true) ⟨_, ex, rfl, m, rfl⟩ ⟨_, ey, rfl, m', rfl⟩ sz (by omega) (items rx ry)
          exact EqAt.of_refs q (by simpa [allT] using this)
theorem EqN.top {s : Shared} (S : StB hb w L s) {k : Nat} {A : Around} {a b : Addr} {vs ws : List V} (hm : ((a, AO.tup vs) ∈ L ∧ (b, AO.tup ws) ∈ L) ∨ ((a, AO.list vs) ∈ L ∧ (b, AO.list ws) ∈ L)) (hl : vs.length = ws.length)
    (h : ∀ (i : Nat) (x y : V), vs[i]? = some x → ws[i]? = some y → EqN L k x y) (hu : A.units + k + 1 < cLine) : RcAt A s (.ref a) (.ref b) true ∧ RcNeAt A s (.ref a) (.ref b) false := by
  have items : ∀ {xs ys : Array Value}, AllIs vs xs.toList → AllIs ws ys.toList → ∀ j (h1 : j < xs.size) (h2 : j < ys.size), EqAt A.in1 s xs[j] ys[j] true := fun {xs ys} hxs hys j h1 h2 => by
    obtain ⟨p, hp, ip⟩ := hxs.get' (i := j) (v := xs[j]) (by simp [h1])
    obtain ⟨r, hr, ir⟩ := hys.get' (i := j) (v := ys[j]) (by simp [h2])
    exact EqN.at S (h j p r hp hr) ip ir (by show A.units + 1 + k < _; lia)
  rcases hm with ⟨ha, hb'⟩ | ⟨ha, hb'⟩
  · obtain ⟨xs, m, ex, rx⟩ := S.rel _ ha
    obtain ⟨ys, m', ey, ry⟩ := S.rel _ hb'
    have sz : xs.size = ys.size := by rw [← Array.length_toList, ← rx.length, hl, ry.length, Array.length_toList]
    have h1 := RcAt.tuples (A := A) (s := s) (e := fun _ => true) ⟨_, ex, rfl, m, rfl⟩ ⟨_, ey, rfl, m', rfl⟩ (by lia) (items rx ry)
    have h2 := RcNeAt.tuples (A := A) (s := s) (e := fun _ => true) ⟨_, ex, rfl, m, rfl⟩ ⟨_, ey, rfl, m', rfl⟩ (by omega) (items rx ry)
    rw [sz] at h1 h2
    exact ⟨by simpa [allT] using h1, by simpa [allT] using h2⟩
  · obtain ⟨xs, m, ex, rx⟩ := S.rel _ ha
    obtain ⟨ys, m', ey, ry⟩ := S.rel _ hb'
    have sz : xs.size = ys.size := by rw [← Array.length_toList, ← rx.length, hl, ry.length, Array.length_toList]
    have h1 := RcAt.lists (A := A) (s := s) (e := fun _ => true) ⟨_, ex, rfl, m, rfl⟩ ⟨_, ey, rfl, m', rfl⟩ sz (by omega) (items rx ry)
    have h2 := RcNeAt.lists (A := A) (s := s) (e := fun _ => true) ⟨_, ex, rfl, m, rfl⟩ ⟨_, ey, rfl, m', rfl⟩ sz (by omega) (items rx ry)
    exact ⟨by simpa [allT] using h1, by simpa [allT] using h2⟩
end
section
variable {hb : HB} {w : World} {prog : Program} {n : Nat} {c : FC} {ρ : List (Option V)} {L M : Led}
theorem EX.eqSeq {k : Nat} {a b : Addr} {vs ws : List V} {x y : Value} {Q : V → Led → Prop} (hx : (V.ref a).Is x) (hy : (V.ref b).Is y) (hm : ((a, AO.tup vs) ∈ L ∧ (b, AO.tup ws) ∈ L) ∨ ((a, AO.list vs) ∈ L ∧ (b, AO.list ws) ∈ L)) (h : All2 (EqN L k) vs ws) (hk : k < 100) (q : Q (.bool true) L) :
    EX hb w prog n c ρ L (compareOp .Eq x y) Q := by
  cases hx; cases hy
  refine AC.calm (R := V.Is) (b := .bool true) (fun A s Qc E rm fo S K => ?_) ⟨L, rfl, q⟩
  have S' := S.sub (List.sublist_cons_self _ _)
  have hu : A.units + k + 1 < cLine := by have := rm.u; lia
  obtain ⟨h1, h2⟩ := EqN.items h
  exact (EqN.top S' hm h1 h2 hu).1 prog w E Qc (K _ s.heap s.toks rfl fun _ _ e => e)
theorem EX.neSeq {k : Nat} {a b : Addr} {vs ws : List V} {x y : Value} {Q : V → Led → Prop} (hx : (V.ref a).Is x) (hy : (V.ref b).Is y) (hm : ((a, AO.tup vs) ∈ L ∧ (b, AO.tup ws) ∈ L) ∨ ((a, AO.list vs) ∈ L ∧ (b, AO.list ws) ∈ L)) (h : All2 (EqN L k) vs ws) (hk : k < 100) (q : Q (.bool false) L) :
    EX hb w prog n c ρ L (compareOp .NotEq x y) Q := by
  cases hx; cases hy
  refine AC.calm (R := V.Is) (b := .bool false) (fun A s Qc E rm fo S K => ?_) ⟨L, rfl, q⟩
  have S' := S.sub (List.sublist_cons_self _ _)
  have hu : A.units + k + 1 < cLine := by have := rm.u; omega
  obtain ⟨h1, h2⟩ := EqN.items h
  exact (EqN.top S' hm h1 h2 hu).2 prog w E Qc (K _ s.heap s.toks rfl fun _ _ e => e)
end
end
section
open PySem.SeqAt
section
variable {prog : Program} {w : World} {A : Around} {E : Value → Shared → Prop} {s : Shared}
theorem sliceApplied_upto {sl : Addr} {a n : Nat} {u : Tok} {Q : Int × Int × Nat → Shared → Prop} (hs : s.heap.IsSliceOf sl .none (.int a u) .none) (ha : a ≤ n) (h : Q (0, 1, a) s) :
    wpAny (model prog w) A (Builtin.Slice.sliceApplied (.ref sl) (pure (n : Int))) Q E s := by
  obtain ⟨os, hos, hcs, hds⟩ := id hs
  unfold Builtin.Slice.sliceApplied Builtin.Slice.sliceFields
  refine wpAny_bind (wpAny_bind (wpAny_field hos hds (x := .none) rfl (wpAny_bind (wpAny_field hos hds (x := .int a u) rfl (wpAny_bind (wpAny_field hos hds (x := .none) rfl (wpAny_pure ?_)))))))
  refine wpAny_bind (slicePart_none ?_)
  show wpAny _ _ (if ((1 : Int) == 0) = true then _ else _) _ _ s
  rw [if_neg (by decide)]
  refine wpAny_bind (slicePart_none (wpAny_bind (slicePart_int (wpAny_bind (wpAny_pure ?_)))))
  have e : Builtin.Slice.sliceAdjust none (some (a : Int)) 1 (n : Int) = ((0 : Int), (a : Int)) := by
    unfold Builtin.Slice.sliceAdjust
    have h2 : ¬ ((a : Int) < 0) := by lia
    simp only [show ¬ ((1 : Int) < 0) by decide, if_false, h2]
    congr 1
    lia
  show wpAny _ _ (match Builtin.Slice.sliceAdjust none (some (a : Int)) 1 (n : Int) with | (lo, hi) => pure (lo, (1 : Int), Builtin.Slice.slicePlaces lo hi 1)) _ _ s
  rw [e]
  have p : Builtin.Slice.slicePlaces (0 : Int) (a : Int) 1 = a := by
    unfold Builtin.Slice.slicePlaces
    simp only [show (1 : Int) > 0 by decide, if_true, Int.ediv_one]
    split <;> lia
  show wpAny _ _ (pure ((0 : Int), (1 : Int), Builtin.Slice.slicePlaces (0 : Int) (a : Int) 1)) _ _ s
  rw [p]
  exact wpAny_pure h
theorem getItem_tuple_upto {t sl : Addr} {items : Array Value} {a : Nat} {u : Tok} {Q : Value → Shared → Prop} (ht : IsTup s.heap t items) (hs : s.heap.IsSliceOf sl .none (.int a u) .none) (ha : a < items.size)
    (h : Q (.ref s.heap.objs.size) { s with heap := s.heap.push { cls := .type "tuple", data := .seq (items.toList.take a).toArray } }) (hsz : items.size ≤ sizeLine) : wpAny (model prog w) A (getItem (.ref t) (.ref sl)) Q E s := by
  have hdrop : sizeOk (.seq (items.toList.take a).toArray) := by
    show (items.toList.take a).toArray.size ≤ sizeLine
    rw [List.size_toArray, List.length_take, Array.length_toList]
    lia
  obtain ⟨os, hos, hcs, hds⟩ := id hs
  have hTs : s.TypeIs (.ref sl) "slice" := ⟨os, hos, hcs⟩
  unfold getItem
  try with_reducible refine wpAny_holding ?_
  first | refine wpAny_bind (wpAny_pure ?_) | skip
  refine wpAny_bind (wpAny_sequenceKey ht.typeIs (by decide) ?_)
  refine wpAny_bind (wpAny_callSpecial?_slot (name := Str.ofString "__getitem__") ht.typeIs slot_tuple_getitem
    (wpAny_call_entry slot_tuple_getitem ht.typeIs entry_tuple_getitem ?_ (args_tuple_getitem _ _)))
  show wpAny _ _ (Builtin.Tuple.tupleItemsOf (.ref t) >>= _) _ _ s
  refine wpAny_bind (tupleItemsOf_ ht ?_)
  refine wpAny_bind (wpAny_typeOf hTs ?_)
  rw [if_pos (by decide)]
  refine wpAny_bind (sliceApplied_upto hs (Nat.le_of_lt ha) ?_)
  have hno : ¬ (((0 : Int) == 0 && (1 : Int) == 1 && a == items.size) = true) := by
    have : (a == items.size) = false := by rw [beq_eq_false_iff_ne]; lia
    rw [this]; simp
  show wpAny _ _ (if ((0 : Int) == 0 && (1 : Int) == 1 && a == items.size) = true then _ else _) _ _ s
  have pk : ((List.range a).filterMap fun (k : Nat) => items[((0 : Int) + (k : Int) * 1).toNat]?).toArray = (items.toList.take a).toArray := by
    have e : (fun (k : Nat) => items[((0 : Int) + (k : Int) * 1).toNat]?) = fun k => items[0 + k]? := by
      funext k
      have : ((0 : Int) + (k : Int) * 1).toNat = 0 + k := by lia
      rw [this]
    rw [e]
    have := pick_run items 0 a
    rw [List.filterMap_map] at this
    have e2 : ((fun x => items[x]?) ∘ fun x => 0 + x) = fun k => items[0 + k]? := rfl
    rw [e2] at this
    rw [this]; simp
  rw [if_neg hno, pk]
  first
    | exact wpAny_bind (m := Builtin.Tuple.tupleExact _) (wpAny_newObj_type (wpAny_pure ⟨_, rfl, wpAny_pure h⟩) hdrop)
    | exact wpAny_bind (m := Builtin.Tuple.tupleExact _) (wpAny_newObj_type (wpAny_bind (wpAny_pure (wpAny_pure ⟨_, rfl, wpAny_pure h⟩))) hdrop)
    | exact wpAny_bind (wpAny_bind (m := Builtin.Tuple.tupleExact _) (wpAny_newObj_type (wpAny_pure (wpAny_pure ⟨_, rfl, wpAny_pure h⟩)) hdrop))
    | exact wpAny_bind (wpAny_bind (m := Builtin.Tuple.tupleExact _) (wpAny_newObj_type (wpAny_pure ⟨_, rfl, wpAny_pure h⟩) hdrop))
end
section
variable {hb : HB} {w : World} {prog : Program} {n : Nat} {c : FC} {ρ : List (Option V)} {L M : Led}
inductive TupP (hb : HB) (w : World) (prog : Program) (n : Nat) (c : FC) (ρ : List (Option V)) (e : Expr) (Q : V → Led → Prop) (b : V) (L' : Led) : Prop
  | mk (t : Addr) (i a : Nat) (vs : List V) (h0 : b = .ref t) (h1 : PV hb w prog n c ρ L' e (.int a)) (h2 : At L' i (t, .tup vs)) (h3 : a < vs.length) (h4 : vs.length < 2 ^ 20) (h5 : ∀ r, Q (.ref r) ((r, .tup (vs.take a)) :: L')) : TupP hb w prog n c ρ e Q b L'
theorem EV.tupUpto {value e : Expr} {p pos : Pos} {Q : V → Led → Prop}
    (h : EV hb w prog n c ρ L value fun b L' => TupP hb w prog n c ρ e Q b L') : EV hb w prog n c ρ L (.Subscript value (.Slice none (some e) none p) pos) Q := fun A s Qc E rm fo S K =>
  Subscript_C (h A s _ E rm fo S fun x b L' s₁ hq hx S₁ T₁ => by
    obtain ⟨L'', rfl, t, i, a, vs, rfl, he, hi, hlt, hlen, hq⟩ := hq
    cases hx
    refine wpC_Slice (wpC_evalPart_none (wpC_evalPart_some (he (fun b L' => b = .int a ∧ L' = L'') ⟨rfl, rfl⟩ A s₁ _ E rm (fo.to T₁) S₁ fun y b L₂ s₂ hq' hy S₂ T₂ => wpC_evalPart_none ?_)))
    obtain ⟨L₃, rfl, rfl, rfl⟩ := hq'
    obtain ⟨u, rfl⟩ := hy
    obtain ⟨xs, m, e₀, r⟩ := S₂.rel _ (At.tl (q := c.fr ρ) hi).mem
    have hsz : xs.size = vs.length := by rw [← Array.length_toList, ← r.length]
    have ht : IsTup s₂.heap t xs := ⟨_, e₀, rfl, m, rfl⟩
    have ht' : IsTup (s₂.heap.push { cls := .type "slice", data := .fields #[.none, .int a u, .none] }) t xs := ht.keeps fun _ _ e => Heap.get?_push_of_some _ e
    have k : ∀ x o, s₂.heap.get? x = some o → ((s₂.heap.push { cls := .type "slice", data := .fields #[.none, .int a u, .none] }).push { cls := .type "tuple", data := .seq (xs.toList.take a).toArray }).get? x = some o := fun x o e => Heap.get?_push_of_some _ (Heap.get?_push_of_some _ e)
    obtain ⟨S', T'⟩ := S₂.push (a := s₂.heap.objs.size + 1) (o := .tup (vs.take a)) (tk := s₂.toks) k
      (fun b hb' => by simp only [feet, List.mem_singleton] at hb'; rw [hb']; exact Heap.get?_none_of_le (Nat.le_succ _)) (by simp [feet])
      ⟨_, 0, by have := Heap.get?_push_size (s₂.heap.push { cls := .type "slice", data := .fields #[.none, .int a u, .none] }) (o := { cls := .type "tuple", data := .seq (xs.toList.take a).toArray }) rfl; rw [Heap.size_push] at this; exact this, by simpa using r.take a⟩
    refine anyC <| tail_any (ops := [.ref s₂.heap.objs.size, .ref t]) (IsTup.typeIs (s := { s₂ with heap := s₂.heap.push { cls := .type "slice", data := .fields #[.none, .int a u, .none] } }) ht') slot_tuple_getitem.lookup
      (getItem_tuple_upto ht' (Heap.IsSliceOf.new ..) (by lia) ?_ (by rw [hsz, sizeLine_eq]; lia)) (by with_unfolding_all rfl)
    have fin := K (.ref (s₂.heap.objs.size + 1)) (.ref _) _ _ ⟨_, rfl, hq (s₂.heap.objs.size + 1)⟩ rfl (S'.perm (.swap ..)) (((T₁.trans T₂).trans T').perm (.swap ..))
    show Qc (.ref (s₂.heap.push _).objs.size) _
    rw [Heap.size_push]
    exact fin)
theorem CX.sorted {i : Nat} {a : Addr} {ns : List Int} {Q : V → Led → Prop} (hi : At M i (a, .list (ns.map .int))) (hz : ns.length < 64) (q : ∀ (r : Addr) (ns' : List Int), ns'.Perm ns → ns'.Pairwise (· ≤ ·) → Q (.ref r) ((r, .list (ns'.map .int)) :: M)) : CX hb w prog n (.builtin "sorted") [.ref a] M Q := fun xs hxs => by
  obtain ⟨y, rfl, rfl⟩ := one_is hxs
  intro A s Qc E rm fo S K
  obtain ⟨ys, hl, r⟩ := isList_at S hi
  have toI : ∀ {ns : List Int} {xs : List Value}, AllIs (ns.map .int) xs → IntsAre xs ns := by
    intro ns
    induction ns with
    | nil => intro xs h; cases xs with
      | nil => exact .nil
      | cons _ _ => exact h.elim
    | cons n ns ih => intro xs h; cases xs with
      | nil => exact h.elim
      | cons x xs => obtain ⟨⟨t, rfl⟩, h⟩ := h; exact .cons _ _ (ih h)
  have ofI : ∀ {ns : List Int} {xs : List Value}, IntsAre xs ns → AllIs (ns.map .int) xs := by
    intro ns xs h
    induction h with
    | nil => trivial
    | cons n t _ ih => exact ⟨⟨t, rfl⟩, ih⟩
  refine anyC <| sorted_ints (vs := ys.toList) (by simpa using hl) (toI r) (by rw [← r.length, List.length_map]; exact hz) fun out ns' a1 a2 a3 => ?_
  obtain ⟨e, he⟩ := sortedAll_at s.heap ys.toList out
  have he' : (sortedAll s.heap ys.toList out).get? (s.heap.objs.size + 1) = some { cls := .type "list", data := .seq out e } := he
  obtain ⟨S', T'⟩ := S.push (a := s.heap.objs.size + 1) (o := .list (ns'.map .int)) (h' := sortedAll s.heap ys.toList out) (tk := s.toks) (fun b o q => sortedAll_old q)
    (fun b hb' => by simp only [feet, List.mem_singleton] at hb'; rw [hb']; exact Heap.get?_none_of_le (Nat.le_succ _)) (by simp [feet]) ⟨out, e, he', ofI a1⟩
  exact K _ (.ref _) _ _ (q _ ns' a2 a3) rfl S' T'
theorem list_pop_type : typeOf (.builtin "list.pop") = pure (.type "method_descriptor") := PySem.F.type_list_pop
theorem getMethod_list {M : Model} {A : Around} {E : Value → Shared → Prop} {s : Shared} {l : Addr} {o : Obj} {name : Str} {id : String} {pl : Sem Bool} {Q : Value × List Value → Shared → Prop} (ho : s.heap.get? l = some o) (hc : o.cls = .type "list") (hd : o.dict = none)
    (hs : Slot "list" name id) (ht : typeOf (.builtin id) = pure (.type "method_descriptor")) (h : Q (.builtin id, [.ref l]) s) : wpAny M A (getMethod (.ref l) name pl) Q E s := by
  have hT : s.TypeIs (.ref l) "list" := ⟨o, ho, hc⟩
  unfold getMethod
  refine wpAny_bind (wpAny_specialOf hT list_getattribute ?_)
  show wpAny M A (if (Manifest.canonical "list.__getattribute__" != "object.__getattribute__") = true then _ else _) Q E s
  rw [canon_list_getattribute, if_neg Bool.false_ne_true]
  refine wpAny_bind (wpAny_specialOf hT list_getattr_none ?_)
  refine wpAny_bind (wpAny_specialOf hT hs.lookup ?_)
  refine wpAny_bind (wpAny_of_eq ht ?_)
  refine wpAny_bind (wpAny_load ho ?_)
  rw [hd]
  exact wpAny_bind (wpAny_rule (wpAny_pure h))
theorem EV.pop {o : Expr} {apos pos : Pos} {a : Addr} {i : Nat} {vs : List V} {v : V} {pl : Sem Bool} {Q : V → Led → Prop} (ho : PV hb w prog n c ρ L o (.ref a)) (hi : At L i (a, .list (vs ++ [v]))) (hz : vs.length < 2 ^ 20) (q : Q v (L.set i (a, .list vs)))
    (hm : MethOk o "pop" apos pos [] c.env pl := by rfl) : EV hb w prog n c ρ L (.Call (.Attribute o "pop" apos) [] [] pos) Q := by
  unfold EV
  intro A s Qc E rm fo S K
  refine methodCall_C (pl := pl) (ho (fun b L' => b = .ref a ∧ L' = L) ⟨rfl, rfl⟩ A s _ E rm fo S fun ov b L₁ s₁ hq hr S₁ T₁ => ?_) hm
  obtain ⟨L₂, rfl, rfl, rfl⟩ := hq
  cases hr
  obtain ⟨xs, m, hg, r⟩ := S₁.rel _ (At.tl (q := c.fr ρ) hi).mem
  have hsz : xs.size = vs.length + 1 := by rw [← Array.length_toList, ← r.length]; simp
  obtain ⟨y, hy, hvy⟩ := r.arr (i := vs.length) (a := v) (by simp)
  have e1 : xs.size - 1 = vs.length := by lia
  refine anyC <| getMethod_list hg rfl rfl PySem.F.slot_list_pop list_pop_type ?_
  refine anyC <| PySem.P.pop_list (n := m) hg (by rw [e1]; exact hy) ?_ (by rw [hsz, sizeLine_eq]; lia)
  have hu := Heap.get?_update_self (Obj.mapSeq fun xs' : Array Value => xs'.eraseIdxIfInBounds (xs.size - 1)) hg rfl
  obtain ⟨S', T'⟩ := S₁.change (i := i + 1) (o' := .list vs) (tk := s₁.toks) (h' := s₁.heap.update a (Obj.mapSeq fun xs' => xs'.eraseIdxIfInBounds (xs.size - 1))) (At.tl (q := c.fr ρ) hi) rfl rfl
    (fun y o hy e => by rw [Heap.get?_update_other _ _ (fun q => hy (by simp [feet, q]))]; exact e) ⟨_, _, hu, by
      have e2 : (xs.eraseIdxIfInBounds (xs.size - 1)).toList = xs.toList.take vs.length := by
        rw [e1]
        have : vs.length < xs.size := by lia
        rw [Array.eraseIdxIfInBounds, dif_pos this, Array.toList_eraseIdx]
        rw [List.eraseIdx_eq_take_drop_succ, List.drop_eq_nil_of_le (by rw [Array.length_toList]; lia), List.append_nil]
      rw [e2]
      have := r.take vs.length
      rwa [List.take_left'] at this
      rfl⟩
  exact K y v _ _ ⟨L₂.set i (a, .list vs), rfl, q⟩ hvy S' (T₁.trans T')
end
end
section
theorem ints_is {ns : List Int} : ∀ {xs : List Value}, AllIs (ns.map .int) xs → IntsAre xs ns := by
  induction ns with
  | nil => intro xs h; cases xs with
    | nil => exact .nil
    | cons _ _ => exact h.elim
  | cons n ns ih => intro xs h; cases xs with
    | nil => exact h.elim
    | cons x xs => obtain ⟨⟨t, rfl⟩, h⟩ := h; exact .cons _ _ (ih h)
section
variable {hb : HB} {w : World} {prog : Program} {n : Nat} {c : FC} {ρ : List (Option V)} {L M : Led}
theorem EX.inInts {k : Int} {a : Addr} {i : Nat} {ns : List Int} {x y : Value} {Q : V → Led → Prop} (hx : (V.int k).Is x) (hy : (V.ref a).Is y) (hi : At L i (a, .list (ns.map .int))) (q : Q (.bool (ns.any (· == k))) L) : EX hb w prog n c ρ L (compareOp .In x y) Q := by
  obtain ⟨t, rfl⟩ := hx
  cases hy
  refine AC.calm (R := V.Is) (b := .bool (ns.any (· == k))) (fun A s Qc E rm fo S K => ?_) ⟨L, rfl, q⟩
  obtain ⟨ys, hl, r⟩ := isList_at S (At.tl (q := c.fr ρ) hi)
  exact in_list_ints (vs := ys.toList) (by simpa using hl) (ints_is r) (K _ s.heap s.toks rfl fun _ _ e => e)
noncomputable def AndE (hb : HB) (w : World) (prog : Program) (n : Nat) (c : FC) (ρ : List (Option V)) (L : Led) (pos : Pos) (es : List Expr) (Q : V → Led → Prop) : Prop := EX hb w prog n c ρ L (boolOp pos .And (evalEach es c.env)) Q
theorem EV.and {es : List Expr} {pos : Pos} {Q : V → Led → Prop} (h : AndE hb w prog n c ρ L pos es Q) : EV hb w prog n c ρ L (.BoolOp .And es pos) Q := h
theorem AndE.one {e : Expr} {pos : Pos} {Q : V → Led → Prop} (h : EV hb w prog n c ρ L e Q) : AndE hb w prog n c ρ L pos [e] Q := h
theorem AndE.cons {e e₂ : Expr} {rest : List Expr} {pos : Pos} {Q : V → Led → Prop} (h : EV hb w prog n c ρ L e fun b L' => ∃ t, b = .bool t ∧ if t then AndE hb w prog n c ρ L' pos (e₂ :: rest) Q else Q (.bool false) L') : AndE hb w prog n c ρ L pos (e :: e₂ :: rest) Q := fun A s Qc E rm fo S K => by
  show wpC _ _ (eval e c.env >>= fun v => standAt pos >>= fun _ => holding [v] (truthy v) >>= fun t => match BoolOp.And, t with | .And, false | .Or, true => pure v | _, _ => boolOp pos .And (evalEach (e₂ :: rest) c.env)) _ _ _
  refine wpC_then (h A s _ E rm fo S fun x b L' s' hq hx S' T' => ?_) fun _ _ q => q
  obtain ⟨L'', rfl, t, rfl, hq⟩ := hq
  cases hx
  refine atC (stepC (wpAny_holding (wpAny_truthy_bool ?_)))
  cases t with
  | false => exact wpC_pure (K _ (.bool false) _ _ ⟨L'', rfl, hq⟩ rfl S' T')
  | true => exact hq A s' Qc E rm (fo.to T') S' fun a b L₂ s₂ hq hr S₂ T₂ => K a b L₂ s₂ hq hr S₂ (T'.trans T₂)
theorem EV.not {e : Expr} {pos : Pos} {Q : V → Led → Prop} (h : EV hb w prog n c ρ L e fun b L' => ∃ t, b = .bool t ∧ Q (.bool (!t)) L') : EV hb w prog n c ρ L (.UnaryOp .Not e pos) Q := fun A s Qc E rm fo S K =>
  wpC_UnaryOp (h A s _ E rm fo S fun x b L' s' hq hx S' T' => by
    obtain ⟨L'', rfl, t, rfl, hq⟩ := hq
    cases hx
    exact anyC (not_value (wpAny_truthy_bool (K _ (.bool (!t)) _ _ ⟨L'', rfl, hq⟩ rfl S' T'))))
theorem PV.notB {e : Expr} {pos : Pos} {t : Bool} (h : PV hb w prog n c ρ L e (.bool t)) : PV hb w prog n c ρ L (.UnaryOp .Not e pos) (.bool (!t)) := fun Q q => EV.not (EV.of h ⟨t, rfl, q⟩)
theorem PT.valB {e : Expr} {t : Bool} (h : PV hb w prog n c ρ L e (.bool t)) (he : isTrue e c.env (eval e c.env) = (do let v ← eval e c.env; standAt e.pos; holding [v] (truthy v))) : PT hb w prog n c ρ L e (t = true) := PT.val h Iff.rfl he
theorem TV.valB {e : Expr} {Q : Bool → Led → Prop} (h : EV hb w prog n c ρ L e fun b L' => ∃ t, b = .bool t ∧ Q t L') (he : isTrue e c.env (eval e c.env) = (do let v ← eval e c.env; standAt e.pos; holding [v] (truthy v))) : TV hb w prog n c ρ L e Q :=
  TV.val (AC.mono h fun b L' ⟨L'', e, t, hb', q⟩ => ⟨L'', e, fun x hx => by subst hb'; exact TX.bool hx q⟩) he
end
end
local macro_rules | `(tactic| walk_at "lo") => `(tactic| focus (repeat (with_reducible (first | exact loc_hd | exact loc_1 | exact loc_2 | exact loc_3 | apply loc_4 | apply loc_tl))))
local macro_rules | `(tactic| walk_at "at2") => `(tactic| focus (repeat (with_reducible (first | exact at_hd2 | exact at_1 | exact at_2 | exact at_3 | apply at_4 | apply at_tl2))))
local macro_rules | `(tactic| walk_at "ix") => `(tactic| focus (repeat (with_reducible (first | exact ix_hd | exact ix_1 | exact ix_2 | exact ix_3 | apply ix_4 | apply ix_tl))))
local macro_rules | `(tactic| walk_at "at") => `(tactic| focus (repeat (with_reducible (first | assumption | exact At.hd | apply At.tl))))
local macro_rules | `(tactic| walk_at "sto") => `(tactic| focus (repeat (with_reducible (first | exact sto_hd | exact sto_1 | exact sto_2 | exact sto_3 | apply sto_4 | apply sto_tl))))
local macro_rules | `(tactic| walk_at "ls") => `(tactic| focus (repeat (with_reducible (first | exact ls_hd | apply ls_tl | exact ls_any))))
local macro_rules | `(tactic| walk_at "pn") => `(tactic| focus (repeat (with_reducible (first | exact pn_hd | exact pn_add | exact pn_1 | exact pn_2 | exact pn_3 | apply pn_4 | apply pn_tl))))
local macro_rules | `(tactic| walk_at "op") => `(tactic| with_reducible (first | exact PO.add | exact PO.sub | exact PO.lt | exact PO.gt | exact PO.le | exact PO.ge | exact PO.eq | exact PO.ne | exact PO.isNone rfl | exact PO.isNotNone rfl | exact PO.band | exact PO.bor | exact PO.iadd))
local macro_rules | `(tactic| walk_at "pt") => `(tactic| focus (first | with_reducible assumption | ((with_reducible apply PT.cmp'); walk_at "pv"; walk_at "pv"; walk_at "op"; rfl) | ((with_reducible (first | apply PT.not | apply PT.or' | apply PT.and')); (all_goals walk_at "pt"); done)))
local macro_rules | `(tactic| walk_at "aug") => `(tactic| (apply SV.augP; (with_reducible assumption); walk_at "lo"; walk_at "pv"; walk_at "op"; walk_at "sto"))
local macro_rules | `(tactic| walk_at "pvl") => `(tactic| focus (repeat (first | with_reducible exact PVL.nil | ((with_reducible apply PVL.cons); walk_at "pv"; rotate_left; rfl))))
local macro_rules | `(tactic| walk_at "g") => `(tactic| (first | (show FOk ..; with_reducible assumption) | (show PV ..; walk_at "pv") | (show PO ..; walk_at "op") | (show Sto ..; walk_at "sto"; done) | (show PutN ..; walk_at "pn"; done) | (show LSet ..; walk_at "ls"; done) | (show At ..; walk_at "at"; done) | (show _ ∧ _; walk_at "at2"; done) | (show _ < _; with_reducible assumption) | (show _ = _; with_unfolding_all rfl)))
local macro_rules | `(tactic| walk_at "pv") => `(tactic| focus (first | (show PV ..; with_reducible assumption) | with_reducible (first | exact PV.int | exact PV.none | exact PV.bool | exact PV.bytes) | ((with_reducible refine' PV.loc' ?_ ?_); (any_goals (first | (show FOk ..; with_reducible assumption) | walk_at "lo")); done) | ((with_reducible refine' PV.glob ?_ ?_); (any_goals (first | (show FOk ..; with_reducible assumption) | walk_at "ix")); done) | ((with_reducible (first | refine' PV.attr' ?_ ?_ ?_ ?_ ?_ | refine' PV.lenL ?_ ?_ ?_ ?_ ?_ | refine' PV.bin ?_ ?_ ?_ | refine' PV.cmp' ?_ ?_ ?_ ?_ | refine' PV.neg ?_)); (any_goals walk_at "g"); done)))
local macro_rules | `(tactic| walk_at "set") => `(tactic| ((first | with_reducible refine' SV.assignP ?_ ?_ ?_ ?_ ?_ | refine' SV.assignP ?_ ?_ ?_ ?_ ?_); (any_goals walk_at "g")))
local macro_rules | `(tactic| walk_at "seta") => `(tactic| ((first | with_reducible refine' SV.setattrP ?_ ?_ ?_ ?_ ?_ ?_ ?_ | refine' SV.setattrP ?_ ?_ ?_ ?_ ?_ ?_ ?_); (any_goals walk_at "g")))
local macro_rules | `(tactic| walk_at "pk") => `(tactic| focus (with_reducible (first | exact pk_hd | (apply pk_tl; walk_at "pk"; done) | (apply pk_al; walk_at "pk"; done) | (apply pk_ar; walk_at "pk"; done))))
local macro_rules | `(tactic| walk_at "sg") => `(tactic| focus (with_reducible (first | exact sg_id | exact sg_hd | (apply sg_tl; walk_at "sg"; done) | (apply sg_al; walk_at "sg"; done) | (apply sg_ar; walk_at "sg"; done))))
local macro_rules | `(tactic| walk_at "perm") => `(tactic| focus (with_reducible (first | exact List.Perm.refl _ | (apply pm_consA; walk_at "pk"; walk_at "perm"; done) | (apply pm_assoc; walk_at "perm"; done) | (apply pm_nilA; walk_at "perm"; done) | (apply pm_cons; walk_at "pk"; walk_at "perm"; done) | (apply pm_seg; walk_at "sg"; walk_at "perm"; done) | (apply pm_nilB; walk_at "perm"; done) | (apply pm_segE; walk_at "sg"; done))))
local macro_rules | `(tactic| walk_at "lia") => `(tactic| ((repeat (rename At _ _ _ => h; clear h)); lia))
section
section
variable {hb : HB} {w : World} {prog : Program} {n : Nat} {M : Led} {Q : V → Led → Prop}
noncomputable def vlF : Nat → Int → Int
  | 0, _ => 1
  | k + 1, x => if x < 128 then 1 else vlF k (x / 128) + 1
noncomputable def vl (x : Int) : Int := vlF 9 x
theorem fdiv128 (x : Int) : x.fdiv (2 ^ (7 : Int).toNat) = x / 128 := by
  rw [show (2 : Int) ^ (7 : Int).toNat = 128 by decide, Int.fdiv_eq_ediv_of_nonneg _ (by decide)]
theorem ct_varint_length {x : Int} (h0 : 0 ≤ x) (h1 : x < 18446744073709551616) (q : Q (.int (vl x)) M) : CT hb w prog (n + 1) 170 [.int x] M Q := by
  refine CT.fn' (F := F_varint_length) (ρ := [some (.int x), none]) F_varint_length_ok rfl rfl fun Lf ok => ?_
  refine SV.ifp (p := x < 0 ∨ 18446744073709551615 < x) (by walk_at "pt") ?_ ?_
  · intro h; exact absurd h (by lia)
  intro _
  refine SV.done ?_
  walk_at "set"
  refine SV.while_ (fun m ρ L => ∃ (k : Nat) (y c : Int), m = k ∧ 0 ≤ y ∧ y < 128 * 128 ^ k ∧ c + vlF k y = 1 + vl x ∧ ρ = [some (.int y), some (.int c)] ∧ L = M) 9 ⟨9, x, 1, rfl, h0, ?_, ?_, rfl, rfl⟩ ?_
  · rw [show (128 : Int) * 128 ^ 9 = 1180591620717411303424 by decide]; lia
  · rfl
  · rintro m ρ L ⟨k, y, c, rfl, hy0, hy, hc, rfl, rfl⟩
    refine PT.tv (p := 128 ≤ y) (by walk_at "pt") fun b hb' => ?_
    cases b with
    | false =>
      have : y < 128 := by
        have : ¬ 128 ≤ y := fun h => by cases hb'.mpr h
        lia
      refine SV.ret (EV.of (by walk_at "pv") ?_)
      have e : vlF m y = 1 := by cases m with | zero => rfl | succ k => unfold vlF; rw [if_pos this]
      rw [e] at hc
      rw [show c = vl x by lia]; exact q
    | true =>
      have ge : 128 ≤ y := hb'.mp rfl
      cases m with
      | zero => rw [Int.pow_zero] at hy; omega
      | succ m =>
        apply SV.augP; (with_reducible assumption); walk_at "lo"; walk_at "pv"; exact PO.irshift (by decide); walk_at "sto"
        walk_at "aug"
        refine SV.nil ⟨m, Nat.lt_succ_self _, m, y / 128, c + 1, rfl, by lia, ?_, ?_, ?_, rfl⟩
        · rw [Int.pow_succ] at hy
          lia
        · unfold vlF at hc
          rw [if_neg (by lia)] at hc
          lia
        · rw [fdiv128]
end
end
section
section
variable {hb : HB} {w : World} {prog : Program} {n : Nat} {M : Led} {Q : V → Led → Prop}
theorem ct_Entry_init {a d : Addr} {t i k b : V} (q : Q .none ((a, .inst C_Entry d [t, i, k, b]) :: M)) : CT hb w prog (n + 1) 268 [.ref a, t, i, k, b] ((a, .inst C_Entry d []) :: M) Q := by
  refine CT.fn' (F := F_Entry_init) (ρ := [some (.ref a), some t, some i, some k, some b]) F_Entry_init_ok rfl rfl fun Lf ok => ?_
  walk_at "seta"
  walk_at "seta"
  walk_at "seta"
  walk_at "seta"
  exact SV.nil q
theorem ct_Entry_row {j : Nat} {a d : Addr} {t i k : Int} {b : Array UInt8} (hi : At M j (a, .inst C_Entry d [.int t, .int i, .int k, .bytes b])) (q : ∀ r, Q (.ref r) ((r, .tup [.int t, .int i, .int k, .bytes b]) :: M)) : CT hb w prog (n + 1) 275 [.ref a] M Q := by
  refine CT.fn' (F := F_Entry_row) (ρ := [some (.ref a)]) F_Entry_row_ok rfl rfl fun Lf ok => ?_
  refine SV.ret (EV.tuple (PVL.av (vs := [.int t, .int i, .int k, .bytes b]) (by walk_at "pvl") ⟨by simp, fun r => q r⟩))
theorem ct_Entry_copy {j : Nat} {a d : Addr} {t i k : Int} {b : Array UInt8} (hi : At M j (a, .inst C_Entry d [.int t, .int i, .int k, .bytes b])) (q : ∀ a' d', Q (.ref a') ((a', .inst C_Entry d' [.int t, .int i, .int k, .bytes b]) :: M)) : CT hb w prog (n + 3) 282 [.ref a] M Q := by
  refine CT.fn' (F := F_Entry_copy) (ρ := [some (.ref a)]) F_Entry_copy_ok rfl rfl fun Lf ok => ?_
  refine SV.ret (EV.callC (vs := [.int t, .int i, .int k, .bytes b]) C_Entry (by walk_at "pv") (by walk_at "pvl") rfl rfl fun a' d' => ct_Entry_init ⟨rfl, back1 (q a' d')⟩)
noncomputable abbrev esz (t i k : Int) (b : Array UInt8) : Int := vl t + vl i + vl k + vl b.size + b.size
theorem ct_Entry_size {j : Nat} {a d : Addr} {t i k : Int} {b : Array UInt8} (hi : At M j (a, .inst C_Entry d [.int t, .int i, .int k, .bytes b]))
    (ht : 0 ≤ t ∧ t < 18446744073709551616) (hx : 0 ≤ i ∧ i < 18446744073709551616) (hk : 0 ≤ k ∧ k < 18446744073709551616) (hbs : b.size < 1099511627776) (q : Q (.int (esz t i k b)) M) : CT hb w prog (n + 2) 296 [.ref a] M Q := by
  refine CT.fn' (F := F_Entry_size) (ρ := [some (.ref a), none, none]) F_Entry_size_ok rfl rfl fun Lf ok => ?_
  refine SV.assignP ok (PV.lenB (b := b) (by walk_at "pv") (by walk_at "pv") (by lia) rfl) rfl (by walk_at "sto") ?_
  refine SV.assignP (b := .int (vl t + vl i + vl k)) ok (PV.bin (PV.bin (PV.callF (vs := [.int t]) (by walk_at "pv") F_varint_length_keep (by walk_at "pvl") rfl rfl fun Q q => ct_varint_length ht.1 ht.2 q) (PV.callF (vs := [.int i]) (by walk_at "pv") F_varint_length_keep (by walk_at "pvl") rfl rfl fun Q q => ct_varint_length hx.1 hx.2 q) (by walk_at "op")) (PV.callF (vs := [.int k]) (by walk_at "pv") F_varint_length_keep (by walk_at "pvl") rfl rfl fun Q q => ct_varint_length hk.1 hk.2 q) (by walk_at "op")) rfl (by walk_at "sto") ?_
  exact SV.ret (EV.of (PV.bin (PV.bin (by walk_at "pv") (PV.callF (vs := [.int b.size]) (by walk_at "pv") F_varint_length_keep (by walk_at "pvl") rfl rfl fun Q q => ct_varint_length (by lia) (by lia) q) (by walk_at "op")) (by walk_at "pv") (by walk_at "op")) q)
end
end
section
set_option genInjectivity false in
structure ER where
  a : Addr
  d : Addr
  t : Int
  i : Int
  k : Int
  b : Array UInt8
@[reducible] noncomputable def ER.ao (e : ER) : Addr × AO := (e.a, .inst C_Entry e.d [.int e.t, .int e.i, .int e.k, .bytes e.b])
structure ER.Ok (e : ER) : Prop where
  t : 0 ≤ e.t ∧ e.t < 18446744073709551616
  i : 0 ≤ e.i ∧ e.i < 18446744073709551616
  k : 0 ≤ e.k ∧ e.k < 18446744073709551616
  b : e.b.size < 1000
@[reducible] noncomputable def ER.sz (e : ER) : Int := esz e.t e.i e.k e.b
@[reducible] noncomputable def ers (es : List ER) : List V := es.map fun e => .ref e.a
noncomputable def Has (M : Led) (es : List ER) : Prop := ∀ e ∈ es, e.Ok ∧ e.ao ∈ M
theorem Has.at {M : Led} {es : List ER} (h : Has M es) {e : ER} (he : e ∈ es) : ∃ i, At M i e.ao := List.mem_iff_getElem?.mp (h e he).2
theorem Has.cons {M : Led} {es : List ER} (h : Has M es) (p : Addr × AO) : Has (p :: M) es := fun e he => ⟨(h e he).1, .tail _ (h e he).2⟩
theorem Has.sub {M : Led} {es fs : List ER} (h : Has M es) (hs : ∀ e ∈ fs, e ∈ es) : Has M fs := fun e he => h e (hs e he)
noncomputable def limGo (n : Int) : Int → Nat → List ER → Nat
  | _, kp, [] => kp
  | tot, kp, e :: r => if kp ≠ 0 ∧ n < tot + e.sz then kp else limGo n (tot + e.sz) (kp + 1) r
noncomputable def lim (n : Int) (es : List ER) : Nat := limGo n 0 0 es
noncomputable def szs (es : List ER) : Int := (es.map ER.sz).sum
section
variable {hb : HB} {w : World} {prog : Program} {n : Nat} {M : Led} {Q : V → Led → Prop}
theorem ct_limit_size {j : Nat} {l : Addr} {es : List ER} {m : Int} (hl : At M j (l, .list (ers es))) (hs : Has M es) (hlen : es.length < 1000) (q : ∀ r, Q (.ref r) ((r, .list (ers (es.take (lim m es)))) :: M)) : CT hb w prog (n + 3) 317 [.ref l, .int m] M Q := by
  refine CT.fn' (F := F_limit_size) (ρ := [some (.ref l), some (.int m), none, none, none]) F_limit_size_ok rfl rfl fun Lf ok => ?_
  walk_at "set"
  refine SV.assign' ok rfl (EV.list (AV.nil ⟨by decide, fun kp => ⟨_, by walk_at "sto", ?_⟩⟩))
  refine SV.forList (ix := 4) ok rfl (EV.of (v := .ref l) (by walk_at "pv") ⟨l, ers es, fun k ρ' L' => k ≤ es.length ∧ lim m es = limGo m (szs (es.take k)) k (es.drop k) ∧ (∃ o, ρ' = [some (.ref l), some (.int m), some (.int (szs (es.take k))), some (.ref kp), o]) ∧ L' = (kp, .list (ers (es.take k))) :: M, rfl, ?_, ?_, ?_, ?_⟩)
  · exact ⟨Nat.zero_le _, rfl, ⟨none, rfl⟩, rfl⟩
  · rintro k ρ' L' ⟨_, _, _, rfl⟩
    exact ⟨j + 1, hl⟩
  · rintro k v ρ' L' hv ⟨hk, hlim, ⟨o, rfl⟩, rfl⟩
    rw [List.getElem?_map] at hv
    obtain ⟨e, he, rfl⟩ := Option.map_eq_some_iff.mp hv
    have hk' : k < es.length := (List.getElem?_eq_some_iff.mp he).1
    have hmem := List.mem_of_getElem? he
    obtain ⟨i, hi⟩ := hs.at hmem
    have eo := (hs e hmem).1
    have hdrop : es.drop k = e :: es.drop (k + 1) := by
      rw [List.drop_eq_getElem_cons hk']; congr 1; exact (List.getElem?_eq_some_iff.mp he).2
    have htake : es.take (k + 1) = es.take k ++ [e] := by rw [List.take_add_one, he]; rfl
    have hsz : szs (es.take (k + 1)) = szs (es.take k) + e.sz := by unfold szs; rw [htake]; simp
    show SV _ w prog (n + 2) _ [some (.ref l), some (.int m), some (.int (szs (es.take k))), some (.ref kp), some (.ref e.a)] _ _ _
    have hi' : At ((kp, AO.list (ers (es.take k))) :: M) (i + 1) e.ao := hi
    apply SV.augP; (with_reducible assumption); walk_at "lo"
    exact PV.methF0 (j := 2) (by walk_at "pv") hi' rfl rfl fun Q q => ct_Entry_size (At.tl hi') eo.t eo.i eo.k (by have := eo.b; lia) q
    walk_at "op"; walk_at "sto"
    have hkl : (ers (es.take k)).length < 2 ^ 40 := by simp; lia
    refine SV.ifp (p := (ers (es.take k) ≠ [] ∧ m < szs (es.take k) + e.sz)) (PT.and' (PT.list (i := 0) (by walk_at "pv") rfl hkl rfl) (by walk_at "pt")) ?_ ?_
    · rintro ⟨h1, h2⟩
      refine SV.brk ?_
      refine SV.ret (EV.of (v := .ref kp) (by walk_at "pv") ?_)
      have : lim m es = k := by
        rw [hlim, hdrop]
        unfold limGo
        rw [if_pos ⟨fun q => h1 (by rw [q]; rfl), h2⟩]
      have := q kp
      rw [‹lim m es = k›] at this
      exact this
    · intro hn
      refine SV.done ?_
      refine SV.expr (EV.append (i := 0) (by walk_at "pv") rfl (EV.of (v := .ref e.a) (by walk_at "pv") ⟨0, _, rfl, by simp; lia, ?_⟩)) rfl rfl
      refine SV.nil ⟨hk', ?_, ⟨some (.ref e.a), ?_⟩, ?_⟩
      · rw [hlim, hdrop, hsz]
        conv => lhs; unfold limGo
        have hne : ¬ (k ≠ 0 ∧ m < szs (es.take k) + e.sz) := fun ⟨a, b⟩ => hn ⟨fun q => by
          have := congrArg List.length q
          simp only [ers, List.length_map, List.length_take, List.length_nil] at this
          lia, b⟩
        rw [if_neg hne]
      · rw [hsz]
      · rw [htake]
        show _ :: _ = _
        simp [ers]
  · rintro ρ' L' ⟨_, hlim, ⟨o, rfl⟩, rfl⟩
    refine SV.ret (EV.of (v := .ref kp) (by walk_at "pv") ?_)
    have e : lim m es = es.length := by
      rw [hlim, List.length_map, List.drop_length]; rfl
    have := q kp
    rw [e] at this
    rw [List.length_map]
    exact this
end
end
section
section
variable {hb : HB} {w : World} {prog : Program} {n : Nat} {M : Led} {Q : V → Led → Prop}
@[reducible] noncomputable def msO (d : Addr) (hd cf sn : V) (bi bt : Int) (el : Addr) : AO := .inst C_MemoryStorage d [hd, cf, sn, .int bi, .int bt, .ref el]
@[reducible] noncomputable def unO (d ul : Addr) (off : Int) : AO := .inst C_Unstable d [.none, .ref ul, .int off]
theorem ers_len {es : List ER} (h : es.length < 1000) : (ers es).length < 2 ^ 40 := by rw [List.length_map]; lia
theorem ct_ms_first {a d el : Addr} {hd cf sn : V} {bi bt : Int} {i : Nat} (hi : At M i (a, msO d hd cf sn bi bt el)) (q : Q (.int (bi + 1)) M) : CT hb w prog (n + 1) 530 [.ref a] M Q := by
  refine CT.fn' (F := F_MemoryStorage_first_index) (ρ := [some (.ref a)]) F_MemoryStorage_first_index_ok rfl rfl fun Lf ok => ?_
  exact SV.ret (EV.of (by walk_at "pv") q)
theorem ct_ms_last {a d el : Addr} {hd cf sn : V} {bi bt : Int} {es : List ER} {i j : Nat} (hi : At M i (a, msO d hd cf sn bi bt el)) (hl : At M j (el, .list (ers es))) (hlen : es.length < 1000) (q : Q (.int (bi + es.length)) M) : CT hb w prog (n + 1) 537 [.ref a] M Q := by
  refine CT.fn' (F := F_MemoryStorage_last_index) (ρ := [some (.ref a)]) F_MemoryStorage_last_index_ok rfl rfl fun Lf ok => ?_
  have hl' := ers_len hlen
  refine SV.ret (EV.of (v := .int (bi + (ers es).length)) (by walk_at "pv") (by rw [List.length_map]; exact q))
theorem ct_un_maybe_first {a d ul : Addr} {off : Int} {i : Nat} (hi : At M i (a, unO d ul off)) (q : Q .none M) : CT hb w prog (n + 1) 628 [.ref a] M Q := by
  refine CT.fn' (F := F_Unstable_maybe_first) (ρ := [some (.ref a)]) F_Unstable_maybe_first_ok rfl rfl fun Lf ok => ?_
  refine SV.ifF id (PT.notNoneF (by walk_at "pv")) ?_
  exact SV.ret (EV.of (by walk_at "pv") q)
noncomputable def ulast (off : Int) (us : List ER) : V := if us = [] then .none else .int (off + us.length - 1)
theorem ct_un_maybe_last {a d ul : Addr} {off : Int} {us : List ER} {i j : Nat} (hi : At M i (a, unO d ul off)) (hl : At M j (ul, .list (ers us))) (hlen : us.length < 1000) (q : Q (ulast off us) M) : CT hb w prog (n + 1) 635 [.ref a] M Q := by
  refine CT.fn' (F := F_Unstable_maybe_last) (ρ := [some (.ref a)]) F_Unstable_maybe_last_ok rfl rfl fun Lf ok => ?_
  have hl' := ers_len hlen
  unfold ulast at q
  refine SV.ifp (p := (0 : Int) < (ers us).length) (by walk_at "pt") (fun h => ?_) fun h => ?_
  · refine SV.ret (EV.of (v := .int (off + (ers us).length - 1)) (by walk_at "pv") ?_)
    rw [List.length_map] at h ⊢
    rw [if_neg (by rintro rfl; simp at h)] at q
    exact q
  · refine SV.done (SV.ifF id (PT.notNoneF (by walk_at "pv")) (SV.ret (EV.of (v := .none) (by walk_at "pv") ?_)))
    rw [List.length_map] at h
    rw [if_pos (List.eq_nil_of_length_eq_zero (by lia))] at q
    exact q
noncomputable def uterm (off : Int) (us : List ER) (i : Int) : V := if off ≤ i then (match us[(i - off).toNat]? with | some e => .int e.t | none => .none) else .none
theorem ct_un_maybe_term {a d ul : Addr} {off x : Int} {us : List ER} {i j : Nat} (hi : At M i (a, unO d ul off)) (hl : At M j (ul, .list (ers us))) (hs : Has M us) (hlen : us.length < 1000) (q : Q (uterm off us x) M) : CT hb w prog (n + 1) 642 [.ref a, .int x] M Q := by
  refine CT.fn' (F := F_Unstable_maybe_term) (ρ := [some (.ref a), some (.int x)]) F_Unstable_maybe_term_ok rfl rfl fun Lf ok => ?_
  have hl' := ers_len hlen
  unfold uterm at q
  refine SV.ifp (p := x < off) (by walk_at "pt") (fun h => ?_) fun h => ?_
  · rw [if_neg (by lia)] at q
    refine SV.ifF (p := False ∧ False) (by simp) (PT.and (PT.notNoneF (by walk_at "pv")) fun f => f.elim) (SV.ret (EV.of (v := .none) (by walk_at "pv") q))
  · rw [if_pos (by lia)] at q
    refine SV.done (SV.ifp (p := off + (ers us).length ≤ x) (by walk_at "pt") (fun h2 => ?_) fun h2 => ?_)
    · rw [List.length_map] at h2
      rw [List.getElem?_eq_none (by lia)] at q
      exact SV.ret (EV.of (v := .none) (by walk_at "pv") q)
    · rw [List.length_map] at h2
      obtain ⟨k, hk⟩ : ∃ k : Nat, x - off = k := ⟨(x - off).toNat, by lia⟩
      have hk' : k < us.length := by lia
      rw [show (x - off).toNat = k by lia, List.getElem?_eq_getElem hk'] at q
      obtain ⟨i', hi'⟩ := hs.at (List.getElem_mem hk')
      refine SV.done (SV.ret ?_)
      exact EV.of (PV.attr' (PV.itemL (k := x - off) (j := k) (by walk_at "pv") (by walk_at "pv") hl (by simp; walk_at "lia") (by simp [hk']) (.inl hk) (by intro _ _ _; with_unfolding_all rfl)) hi' (by walk_at "at2") rfl rfl) q
end
end
section
theorem nsub {a b : Int} (h : b ≤ a) : ∃ k : Nat, a - b = k := ⟨(a - b).toNat, (Int.toNat_of_nonneg (Int.sub_nonneg_of_le h)).symm⟩
theorem tn_of {a b : Int} {k : Nat} (h : a - b = k) : (a - b).toNat = k := by rw [h]; rfl
theorem tn_dif {a b c : Int} {k k2 : Nat} (h : a - c = k) (h2 : b - c = k2) : (b - a).toNat = k2 - k := by lia
theorem tn_le {a b c : Int} {k k2 : Nat} (h : a - c = k) (h2 : b - c = k2) (h3 : a ≤ b) : k ≤ k2 := by lia
theorem cut_lt {α : Type} {l : List α} {a b n : Nat} (h : l.length < n) : ((l.drop a).take b).length < n := by
  rw [List.length_take, List.length_drop]; lia
section
variable {hb : HB} {w : World} {prog : Program} {n : Nat} {M : Led} {Q : V → Led → Prop}
noncomputable def sterm (bi bt : Int) (es : List ER) (i : Int) : Int := if i = bi then bt else (match es[(i - (bi + 1)).toNat]? with | some e => e.t | none => 0)
theorem ct_ms_term_at {a d el : Addr} {hd cf sn : V} {bi bt x : Int} {es : List ER} {i j : Nat} (hi : At M i (a, msO d hd cf sn bi bt el)) (hl : At M j (el, .list (ers es))) (hs : Has M es) (hlen : es.length < 1000) (h0 : bi ≤ x) (h1 : x ≤ bi + es.length) (q : Q (.int (sterm bi bt es x)) M) : CT hb w prog (n + 2) 551 [.ref a, .int x] M Q := by
  refine CT.fn' (F := F_MemoryStorage_term_at) (ρ := [some (.ref a), some (.int x)]) F_MemoryStorage_term_at_ok rfl rfl fun Lf ok => ?_
  refine SV.ifF (p := x < bi) (by lia) (by walk_at "pt") ?_
  refine SV.ifF (p := bi + es.length < x) (by lia) (PT.cmp' (by walk_at "pv") (PV.methF0 (j := 1) (by walk_at "pv") hi rfl rfl fun Q q => ct_ms_last (At.tl hi) (At.tl hl) hlen q) (by walk_at "op") rfl) ?_
  unfold sterm at q
  refine SV.ifp (p := x = bi) (by walk_at "pt") (fun h => ?_) fun h => ?_
  · rw [if_pos h] at q
    exact SV.ret (EV.of (by walk_at "pv") q)
  · rw [if_neg h] at q
    obtain ⟨k, hk⟩ : ∃ k : Nat, x - (bi + 1) = k := ⟨(x - (bi + 1)).toNat, by lia⟩
    have hk' : k < es.length := by omega
    rw [show (x - (bi + 1)).toNat = k by omega, List.getElem?_eq_getElem hk'] at q
    obtain ⟨i', hi'⟩ := hs.at (List.getElem_mem hk')
    refine SV.done (SV.ret (EV.of (PV.attr' (PV.itemL (k := x - (bi + 1)) (j := k) (by walk_at "pv") (PV.bin (by walk_at "pv") (PV.methF0 (j := 0) (by walk_at "pv") hi rfl rfl fun Q q => ct_ms_first (At.tl hi) q) (by walk_at "op")) hl (by simp; walk_at "lia") (by simp [hk']) (.inl hk) (by intro _ _ _; with_unfolding_all rfl)) hi' (by walk_at "at2") rfl rfl) q))
theorem ers_slice {es : List ER} {a b : Nat} : ((ers es).drop a).take b = ers ((es.drop a).take b) := by simp [ers, List.map_take, List.map_drop]
noncomputable def sbet (bi : Int) (es : List ER) (lo hi : Int) : List ER := (es.drop (lo - (bi + 1)).toNat).take (hi - lo).toNat
theorem ct_ms_between {a d el : Addr} {hd cf sn : V} {bi bt lo hi m : Int} {es : List ER} {i j : Nat} (hi' : At M i (a, msO d hd cf sn bi bt el)) (hl : At M j (el, .list (ers es))) (hs : Has M es) (hlen : es.length < 1000) (h0 : bi < lo) (h1 : lo < hi) (h2 : hi ≤ bi + es.length + 1)
    (q : ∀ r, Q (.ref r) ((r, .list (ers ((sbet bi es lo hi).take (lim m (sbet bi es lo hi))))) :: M)) : CT hb w prog (n + 4) 544 [.ref a, .int lo, .int hi, .int m] M Q := by
  refine CT.fn' (F := F_MemoryStorage_entries_between) (ρ := [some (.ref a), some (.int lo), some (.int hi), some (.int m), none]) F_MemoryStorage_entries_between_ok rfl rfl fun Lf ok => ?_
  refine SV.ifF (p := lo ≤ bi) (by lia) (by walk_at "pt") ?_
  refine SV.ifF (p := bi + es.length + 1 < hi) (by lia) (PT.cmp' (by walk_at "pv") (PV.bin (PV.methF0 (j := 1) (by walk_at "pv") hi' rfl rfl fun Q q => ct_ms_last (At.tl hi') (At.tl hl) hlen q) (by walk_at "pv") (by walk_at "op")) (by walk_at "op") rfl) ?_
  refine SV.ifF (p := hi ≤ lo) (by lia) (by walk_at "pt") ?_
  refine SV.assignP (b := .int (bi + 1)) ok (PV.methF0 (j := 0) (by walk_at "pv") hi' rfl rfl fun Q q => ct_ms_first (At.tl hi') q) rfl (by walk_at "sto") ?_
  refine (nsub (show bi + 1 ≤ lo from h0)).elim fun k hk => ?_
  refine (nsub (show bi + 1 ≤ hi from Int.le_trans h0 (Int.le_of_lt h1))).elim fun k2 hk2 => ?_
  refine SV.ret (EV.call (f := 317) (by walk_at "pv") F_limit_size_keep (AV.cons (EV.slice (EV.of (v := .ref el) (by walk_at "pv") ⟨el, some (lo - (bi + 1)), some (hi - (bi + 1)), j, ers es, rfl, (show PV _ _ _ _ _ _ _ _ _ by walk_at "pv"), (show PV _ _ _ _ _ _ _ _ _ by walk_at "pv"), hl, by rw [List.length_map]; exact Nat.lt_trans hlen (by decide), fun s => AV.cons (EV.of (v := .int m) (by walk_at "pv") (AV.nil ?_))⟩))))
  rw [hk, hk2, vpick_run (tn_le hk hk2 (Int.le_of_lt h1)), ers_slice]
  have e : (es.drop k).take (k2 - k) = sbet bi es lo hi := by unfold sbet; rw [tn_of hk, tn_dif hk hk2]
  rw [e]
  have hsub : ∀ e ∈ sbet bi es lo hi, e ∈ es := fun e he => List.mem_of_mem_drop (List.mem_of_mem_take he)
  refine (CT.drop (ct_limit_size (j := 1) (At.tl At.hd) ((((hs.cons _).cons _).sub hsub)) (cut_lt hlen) fun r => ⟨(r, .list (ers ((sbet bi es lo hi).take (lim m (sbet bi es lo hi))))) :: _ :: M, ?_, back1 (q r)⟩)).cx
  exact ((List.sublist_cons_self _ M).cons_cons _).cons_cons _
theorem ct_un_part {a d ul : Addr} {off lo hi : Int} {us : List ER} {i j : Nat} (hi' : At M i (a, unO d ul off)) (hl : At M j (ul, .list (ers us))) (hlen : us.length < 1000) (h0 : off ≤ lo) (h1 : lo ≤ hi) (h2 : hi ≤ off + us.length)
    (q : ∀ r, Q (.ref r) ((r, .list (ers ((us.drop (lo - off).toNat).take (hi - lo).toNat))) :: M)) : CT hb w prog (n + 1) 677 [.ref a, .int lo, .int hi] M Q := by
  refine CT.fn' (F := F_Unstable_part) (ρ := [some (.ref a), some (.int lo), some (.int hi)]) F_Unstable_part_ok rfl rfl fun Lf ok => ?_
  have hl' := ers_len hlen
  refine SV.ifF (p := hi < lo) (by lia) (by walk_at "pt") ?_
  refine SV.ifF (p := lo < off ∨ off + (ers us).length < hi) (by simp; lia) (by walk_at "pt") ?_
  refine (nsub h0).elim fun k hk => ?_
  refine (nsub (Int.le_trans h0 h1)).elim fun k2 hk2 => ?_
  refine SV.ret (EV.slice (EV.of (v := .ref ul) (by walk_at "pv") ⟨ul, some (lo - off), some (hi - off), j, ers us, rfl, (show PV _ _ _ _ _ _ _ _ _ by walk_at "pv"), (show PV _ _ _ _ _ _ _ _ _ by walk_at "pv"), hl, by rw [List.length_map]; exact Nat.lt_trans hlen (by decide), fun s => ?_⟩))
  rw [hk, hk2, vpick_run (tn_le hk hk2 h1), ers_slice]
  have := q s
  rw [tn_of hk, tn_dif hk hk2] at this
  exact this
end
end
section
theorem G_MemoryStorage : GV "MemoryStorage" (V.ref 603) := .of_ref fun P => by kernel_rfl
theorem G_RaftLog : GV "RaftLog" (V.ref 897) := .of_ref fun P => by kernel_rfl
theorem G__law_apply : GV "_law_apply" (V.ref 982) := .of_ref fun P => by kernel_rfl
theorem G__law_draw : GV "_law_draw" (V.ref 936) := .of_ref fun P => by kernel_rfl
theorem G__law_folds : GV "_law_folds" (V.ref 908) := .of_ref fun P => by kernel_rfl
theorem G__law_lengths : GV "_law_lengths" (V.ref 922) := .of_ref fun P => by kernel_rfl
theorem G__law_letter : GV "_law_letter" (V.ref 975) := .of_ref fun P => by kernel_rfl
theorem G__law_limits : GV "_law_limits" (V.ref 929) := .of_ref fun P => by kernel_rfl
theorem G__law_no_size : GV "_law_no_size" (V.ref 965) := .of_ref fun P => by kernel_rfl
theorem G__law_terms : GV "_law_terms" (V.ref 915) := .of_ref fun P => by kernel_rfl
@[reducible] noncomputable def F_law : FS := ⟨(stmtAt 53), 987, "law", 986, "law_no0427_01", 1348, 1, ["script", "nums", "x", "y", "count", "fold", "limit", "most", "entries", "k", "z", "data", "rows", "weights", "over", "row", "storage", "conf", "snapshot", "kept", "log", "done", "pages", "page"], [gp "len" (V.lit (.builtin "len")), gp "_law_draw" (V.ref 936), gp "_law_folds" (V.ref 908), gp "_law_limits" (V.ref 929), gp "range" (V.lit (.type "range")), gp "bytes" (V.lit (.type "bytes")), gp "_law_lengths" (V.ref 922), gp "Entry" (V.ref 299), gp "_law_terms" (V.ref 915), gp "_law_rows" (V.ref 970), gp "NO_LIMIT" (V.int 18446744073709551615), gp "_law_no_size" (V.ref 965), gp "MemoryStorage" (V.ref 603), gp "ConfState" (V.ref 397), gp "Snapshot" (V.ref 453), gp "RaftLog" (V.ref 897), gp "_law_ends" (V.ref 953), gp "_law_letter" (V.ref 975), gp "_law_fewest" (V.ref 958), gp "Compacted" (V.ref 80), gp "_law_apply" (V.ref 982)]⟩
theorem F_law_ok : FSOk F_law where
  ok := by kernel_rfl
  le := by decide
  at_ := fun P => by kernel_rfl
  code := fun P => by kernel_rfl
  gv := gv_cons G_len (gv_cons G__law_draw (gv_cons G__law_folds (gv_cons G__law_limits (gv_cons G_range (gv_cons G_bytes (gv_cons G__law_lengths (gv_cons G_Entry (gv_cons G__law_terms (gv_cons G__law_rows (gv_cons G_NO_LIMIT (gv_cons G__law_no_size (gv_cons G_MemoryStorage (gv_cons G_ConfState (gv_cons G_Snapshot (gv_cons G_RaftLog (gv_cons G__law_ends (gv_cons G__law_letter (gv_cons G__law_fewest (gv_cons G_Compacted (gv_cons G__law_apply (gv_nil)))))))))))))))))))))
  bind := len1 fun a0 => by kernel_rfl
  cell := by kernel_rfl
theorem fscOk_of {F : FSC} (h1 : (F.gl.all (fun x => (sScope F.st).names.lookup x.1 == some .globalImplicit && !(x.1 == ("__debug__" : Str)))) = true) (h2 : ((sScope F.st).kind == .function) = true) (h3 : (!(sScope F.st).isCoroutine) = true) (h4 : (!(sScope F.st).isGenerator) = true) (h5 : F.cs.all (fun x => (sScope F.st).names.lookup x == some .cell && !(x == ("__debug__" : Str))) = true) (h6 : ndB F.cs = true) (h7 : F.ps.all (fun x => F.cs.contains x) = true) (h8 : ndB F.ps = true) : fscOk F = true := by
  unfold fscOk; rw [h1, h2, h3, h4, h5, h6, h7, h8]; rfl
@[reducible] noncomputable def F__law_ends : FSC := ⟨(stmtAt 47), 953, "_law_ends", 952, "law_no0427_01", 1348, ["weights", "lo", "limit"], ["limit", "lo", "weights"], [gp "len" (V.lit (.builtin "len")), gp "range" (V.lit (.type "range"))]⟩
theorem F__law_ends_o : fscOk F__law_ends = true := fscOk_of (by kernel_rfl) (by kernel_rfl) (by kernel_rfl) (by kernel_rfl) (by kernel_rfl) (by kernel_rfl) (by kernel_rfl) (by kernel_rfl)
theorem F__law_ends_a : ∀ P, (KF P).lookup F__law_ends.f = some (fnObj F__law_ends.st F__law_ends.qual F__law_ends.cd F__law_ends.pm F__law_ends.t) := fun P => by kernel_rfl
theorem F__law_ends_c : ∀ P, codeIn (KF P) (.ref F__law_ends.cd) F__law_ends.qual = true := fun P => by kernel_rfl
theorem F__law_ends_g : ∀ p ∈ F__law_ends.gl, GV p.1 p.2 := gv_cons G_len (gv_cons G_range gv_nil)
theorem F__law_ends_b : ∀ vs : List Value, vs.length = F__law_ends.ps.length → bindArgs (fnFd F__law_ends.st F__law_ends.qual F__law_ends.cd F__law_ends.pm F__law_ends.t) ⟨vs, []⟩ = pure (F__law_ends.ps.zip vs) := len3 fun a0 a1 a2 => by kernel_rfl
theorem F__law_ends_e : ∀ k, (cellsFrom k (sScope F__law_ends.st).names []).map (·.1) = F__law_ends.cs := fun k => by kernel_rfl
theorem F__law_ends_ok : FSCOk F__law_ends := ⟨F__law_ends_o, F__law_ends_a, F__law_ends_c, F__law_ends_g, F__law_ends_b, F__law_ends_e⟩
@[reducible] noncomputable def F__law_fewest : FSC := ⟨(stmtAt 48), 958, "_law_fewest", 957, "law_no0427_01", 1348, ["weights", "limit"], ["k", "best", "limit", "weights"], [gp "len" (V.lit (.builtin "len")), gp "min" (V.lit (.builtin "min")), gp "range" (V.lit (.type "range"))]⟩
theorem F__law_fewest_o : fscOk F__law_fewest = true := fscOk_of (by kernel_rfl) (by kernel_rfl) (by kernel_rfl) (by kernel_rfl) (by kernel_rfl) (by kernel_rfl) (by kernel_rfl) (by kernel_rfl)
theorem F__law_fewest_a : ∀ P, (KF P).lookup F__law_fewest.f = some (fnObj F__law_fewest.st F__law_fewest.qual F__law_fewest.cd F__law_fewest.pm F__law_fewest.t) := fun P => by kernel_rfl
theorem F__law_fewest_c : ∀ P, codeIn (KF P) (.ref F__law_fewest.cd) F__law_fewest.qual = true := fun P => by kernel_rfl
theorem F__law_fewest_g : ∀ p ∈ F__law_fewest.gl, GV p.1 p.2 := gv_cons G_len (gv_cons G_min (gv_cons G_range gv_nil))
theorem F__law_fewest_b : ∀ vs : List Value, vs.length = F__law_fewest.ps.length → bindArgs (fnFd F__law_fewest.st F__law_fewest.qual F__law_fewest.cd F__law_fewest.pm F__law_fewest.t) ⟨vs, []⟩ = pure (F__law_fewest.ps.zip vs) := len2 fun a0 a1 => by kernel_rfl
theorem F__law_fewest_e : ∀ k, (cellsFrom k (sScope F__law_fewest.st).names []).map (·.1) = F__law_fewest.cs := fun k => by kernel_rfl
theorem F__law_fewest_ok : FSCOk F__law_fewest := ⟨F__law_fewest_o, F__law_fewest_a, F__law_fewest_c, F__law_fewest_g, F__law_fewest_b, F__law_fewest_e⟩
theorem F__law_ends_keep (P : Params) : keepIn (KF P) (.ref 953) = true := fnKeep (F__law_ends_ok.at_ P) rfl
theorem F__law_fewest_keep (P : Params) : keepIn (KF P) (.ref 958) = true := fnKeep (F__law_fewest_ok.at_ P) rfl
noncomputable def E_BadOption : EC := ⟨56, "BadOption", fun P => by kernel_rfl, fun P => by kernel_rfl⟩
noncomputable def E_Compacted : EC := ⟨80, "Compacted", fun P => by kernel_rfl, fun P => by kernel_rfl⟩
end
section
theorem bor128 {y : Int} (h0 : 0 ≤ y) (h1 : y < 128) : 0 ≤ Builtin.bitOr y 128 ∧ Builtin.bitOr y 128 < 256 := by
  obtain ⟨k, rfl⟩ := Int.eq_ofNat_of_zero_le h0
  have : ∀ k : Fin 128, 0 ≤ Builtin.bitOr (k.val : Int) 128 ∧ Builtin.bitOr (k.val : Int) 128 < 256 := by decide +kernel
  exact this ⟨k, by lia⟩
theorem byteArr_one {x : Int} : (byteArr [x]).size = 1 := rfl
theorem vl_small {x : Int} (h : x < 128) : vl x = 1 := by unfold vl vlF; rw [if_pos h]
section
variable {hb : HB} {w : World} {prog : Program} {n : Nat} {M : Led} {Q : V → Led → Prop}
theorem ct_write_groups {x m : Int} (h0 : 0 ≤ x) (h1 : x < 18446744073709551616) (hm : x ≤ m) (q : ∀ b : Array UInt8, (b.size : Int) = vl x → b.size ≤ 10 → Q (.bytes b) M) : CT hb w prog (n + 1) 149 [.int x, .int m] M Q := by
  refine CT.drop (CT.fn' (F := F_write_groups) (ρ := [some (.int x), some (.int m), none]) F_write_groups_ok rfl rfl fun Lf ok => ?_)
  refine SV.ifp (p := x < 0 ∨ m < x) (by walk_at "pt") ?_ ?_
  · intro h; exact absurd h (by lia)
  intro _
  refine SV.done ?_
  refine SV.assign' ok rfl (EV.callt0 (by walk_at "pv") (CX.baNew fun r => ⟨_, .swap .., ⟨_, by walk_at "sto", ?_⟩⟩))
  refine SV.while_ (fun k ρ L => ∃ (y : Int) (b : Array UInt8), k ≤ 9 ∧ 0 ≤ y ∧ y < 128 * 128 ^ k ∧ (b.size : Int) + vlF k y = vl x ∧ b.size + k = 9 ∧ ρ = [some (.int y), some (.int m), some (.ref r)] ∧ L = (r, .ba b) :: M) 9 ⟨x, #[], Nat.le_refl _, h0, ?_, ?_, rfl, rfl, rfl⟩ ?_
  · rw [show (128 : Int) * 128 ^ 9 = 1180591620717411303424 by decide]; lia
  · show (0 : Int) + _ = _; unfold vl; lia
  · rintro k ρ L ⟨y, b, hk, hy0, hy, hc, hs, rfl, rfl⟩
    refine PT.tv (p := 128 ≤ y) (by walk_at "pt") fun t ht => ?_
    cases t with
    | false =>
      have hlt : y < 128 := by
        have : ¬ 128 ≤ y := fun h => by cases ht.mpr h
        lia
      have e : vlF k y = 1 := by cases k with | zero => rfl | succ k => unfold vlF; rw [if_pos hlt]
      rw [e] at hc
      refine SV.expr (EV.baAppend (j := 0) (i := 0) (b := b) (b' := b) (by walk_at "pv") rfl (EV.of (v := .int y) (by walk_at "pv") ⟨rfl, rfl, ⟨hy0, by lia⟩, by lia, ?_⟩)) rfl rfl
      refine SV.ret (EV.callt (f := "bytes") (by walk_at "pv") (AV.cons (EV.of (v := .ref r) (by walk_at "pv") (AV.nil (CX.bytesBa (i := 1) rfl ?_ ⟨_, .refl _, ?_⟩)))))
      · rw [Array.size_push]; lia
      · exact ⟨_, List.sublist_cons_self _ _, q _ (by rw [Array.size_push]; lia) (by rw [Array.size_push]; lia)⟩
    | true =>
      have ge : 128 ≤ y := ht.mp rfl
      cases k with
      | zero => rw [Int.pow_zero] at hy; omega
      | succ k =>
        have hb : Builtin.bitAnd y 127 = y % 128 := bitAnd_m7 y
        have hr := bor128 (y := y % 128) (by lia) (by lia)
        rw [← hb] at hr
        refine SV.expr (EV.baAppend (j := 0) (i := 0) (b := b) (b' := b) (by walk_at "pv") rfl (EV.of (v := .int (Builtin.bitOr (Builtin.bitAnd y 127) 128)) (by walk_at "pv") ⟨rfl, rfl, hr, by lia, ?_⟩)) rfl rfl
        apply SV.augP; (with_reducible assumption); walk_at "lo"; walk_at "pv"; exact PO.irshift (by decide); walk_at "sto"
        refine SV.nil ⟨k, Nat.lt_succ_self _, y / 128, _, by lia, by lia, ?_, ?_, ?_, ?_, rfl⟩
        · rw [Int.pow_succ] at hy
          lia
        · unfold vlF at hc
          rw [if_neg (by lia)] at hc
          rw [Array.size_push]
          lia
        · rw [Array.size_push]; lia
        · rw [fdiv128]
theorem ct_put_varint {x : Int} (h0 : 0 ≤ x) (h1 : x < 18446744073709551616) (q : ∀ b : Array UInt8, (b.size : Int) = vl x → b.size ≤ 10 → Q (.bytes b) M) : CT hb w prog (n + 2) 156 [.int x] M Q := by
  refine CT.drop (CT.fn' (F := F_put_varint) (ρ := [some (.int x)]) F_put_varint_ok rfl rfl fun Lf ok => ?_)
  refine SV.ifp (p := 0 ≤ x ∧ x < 128) (by walk_at "pt") (fun h => ?_) fun h => SV.done ?_
  · refine SV.ret (EV.callt (f := "bytes") (by walk_at "pv") (AV.cons (EV.list (AV.cons (EV.of (v := .int x) (by walk_at "pv") (AV.nil ⟨by simp, fun r => AV.nil (CX.bytesInts (i := 1) (ns := [x]) rfl ?_ (by simp) ⟨_, .refl _, ?_⟩)⟩))))))
    · intro z hz; rw [List.mem_singleton.mp hz]; lia
    · exact ⟨_, List.sublist_cons_self _ _, q _ (by rw [byteArr_one, vl_small h.2]; rfl) (by rw [byteArr_one]; decide)⟩
  · refine SV.ret (EV.callP (vs := [.int x, .int 18446744073709551615]) (by walk_at "pv") F_write_groups_keep (by walk_at "pvl") rfl rfl (ct_write_groups h0 h1 (by lia) fun b e le => ⟨_, .refl _, ⟨_, .refl _, q b e le⟩⟩))
theorem ct_put_varint32 {x : Int} (h0 : 0 ≤ x) (h1 : x < 4294967296) (q : ∀ b : Array UInt8, (b.size : Int) = vl x → b.size ≤ 10 → Q (.bytes b) M) : CT hb w prog (n + 2) 163 [.int x] M Q := by
  refine CT.drop (CT.fn' (F := F_put_varint32) (ρ := [some (.int x)]) F_put_varint32_ok rfl rfl fun Lf ok => ?_)
  refine SV.ifp (p := 0 ≤ x ∧ x < 128) (by walk_at "pt") (fun h => ?_) fun h => SV.done ?_
  · refine SV.ret (EV.callt (f := "bytes") (by walk_at "pv") (AV.cons (EV.list (AV.cons (EV.of (v := .int x) (by walk_at "pv") (AV.nil ⟨by simp, fun r => AV.nil (CX.bytesInts (i := 1) (ns := [x]) rfl ?_ (by simp) ⟨_, .refl _, ?_⟩)⟩))))))
    · intro z hz; rw [List.mem_singleton.mp hz]; lia
    · exact ⟨_, List.sublist_cons_self _ _, q _ (by rw [byteArr_one, vl_small h.2]; rfl) (by rw [byteArr_one]; decide)⟩
  · refine SV.ret (EV.callP (vs := [.int x, .int 4294967295]) (by walk_at "pv") F_write_groups_keep (by walk_at "pvl") rfl rfl (ct_write_groups h0 (by lia) (by lia) fun b e le => ⟨_, .refl _, ⟨_, .refl _, q b e le⟩⟩))
@[reducible] noncomputable def siO (a d r : Addr) (b : Array UInt8) : Led := [(a, .inst C_Sink d [.ref r]), (r, .ba b)]
theorem ct_Sink_init {a d : Addr} (q : ∀ r, Q .none (siO a d r #[] ++ M)) : CT hb w prog (n + 1) C_Sink.fI [.ref a] ((a, .inst C_Sink d []) :: M) Q := by
  refine CT.shuffle (CT.fn' (F := F_Sink_init) (ρ := [some (.ref a)]) F_Sink_init_ok rfl rfl fun Lf ok => ?_)
  refine SV.setattr' rfl (EV.callt0 (by walk_at "pv") (CX.baNew fun r => ⟨_, .swap .., ?_⟩))
  exact ⟨a, 1, d, C_Sink, [], _, _, by walk_at "pv", rfl, pn_add, rfl, SV.nil ⟨_, .swap .., q r⟩⟩
theorem ct_Sink_varint {a d r : Addr} {b : Array UInt8} {i j : Nat} {x : Int} (hi : At M i (a, .inst C_Sink d [.ref r])) (hj : At M j (r, .ba b)) (h0 : 0 ≤ x) (h1 : x < 18446744073709551616) (hz : b.size < 1000000)
    (q : ∀ b' : Array UInt8, (b'.size : Int) = b.size + vl x → Q .none (M.set j (r, .ba b'))) : CT hb w prog (n + 3) 191 [.ref a, .int x] M Q := by
  refine CT.fn' (F := F_Sink_varint) (ρ := [some (.ref a), some (.int x)]) F_Sink_varint_ok rfl rfl fun Lf ok => ?_
  refine SV.ifp (p := 0 ≤ x ∧ x < 128) (by walk_at "pt") (fun h => ?_) fun h => ?_
  · refine SV.expr (EV.baAppend (j := j) (i := j) (b := b) (b' := b) (by walk_at "pv") hj (EV.of (v := .int x) (by walk_at "pv") ⟨rfl, hj, by lia, by lia, ?_⟩)) rfl rfl
    exact SV.nil (SV.nil (q _ (by rw [Array.size_push, vl_small h.2]; lia)))
  · refine SV.expr ?_ rfl rfl
    refine EV.baMeth ba_slot_extend ba_type_extend (by walk_at "pv") hj ?_
    refine EV.callP (vs := [.int x]) (by walk_at "pv") F_put_varint_keep (by walk_at "pvl") rfl rfl (ct_put_varint h0 h1 fun b₁ e le => ⟨_, .refl _, ?_⟩)
    exact CX.baExtend (At.tl hj) (by lia) ⟨_, .refl _, SV.nil (SV.nil (q _ (by rw [Array.size_append]; lia)))⟩
theorem ct_Sink_lengthed {a d r : Addr} {b x : Array UInt8} {i j : Nat} (hi : At M i (a, .inst C_Sink d [.ref r])) (hj : At M j (r, .ba b)) (hx : x.size < 30000) (hz : b.size < 100000)
    (q : ∀ b' : Array UInt8, (b'.size : Int) = b.size + vl x.size + x.size → Q .none (M.set j (r, .ba b'))) : CT hb w prog (n + 3) 212 [.ref a, .bytes x] M Q := by
  refine CT.fn' (F := F_Sink_lengthed) (ρ := [some (.ref a), some (.bytes x)]) F_Sink_lengthed_ok rfl rfl fun Lf ok => ?_
  refine SV.expr ?_ rfl rfl
  refine EV.baMeth ba_slot_extend ba_type_extend (by walk_at "pv") hj ?_
  refine EV.callP (vs := [.int x.size]) (by walk_at "pv") F_put_varint32_keep (.cons (PV.lenB (b := x) (by walk_at "pv") (by walk_at "pv") (by lia) rfl) .nil rfl) rfl rfl (ct_put_varint32 (by lia) (by lia) fun b₁ e le => ⟨_, .refl _, ?_⟩)
  refine CX.baExtend (At.tl hj) (by lia) ⟨_, .refl _, ?_⟩
  refine SV.expr ?_ rfl rfl
  refine EV.baMeth (i := j) (b := b ++ b₁) (a := r) ba_slot_extend ba_type_extend (PV.attr' (k := C_Sink) (a := a) (d := d) (vs := [.ref r]) (j := 0) (i := i) (by walk_at "pv") ?_ ⟨rfl, rfl⟩ rfl rfl) (at_set_eq hj) ?_
  · exact at_set_ne hi fun e => by subst e; cases hi.symm.trans hj
  refine EV.of (v := .bytes x) (by walk_at "pv") ?_
  refine CX.baExtend (At.tl (at_set_eq hj)) (by rw [Array.size_append]; lia) ⟨_, .refl _, SV.nil ?_⟩
  rw [List.set_set]
  exact q _ (by rw [Array.size_append, Array.size_append]; lia)
theorem ct_Sink_flag {a d r : Addr} {b : Array UInt8} {i j : Nat} {t : Bool} (hi : At M i (a, .inst C_Sink d [.ref r])) (hj : At M j (r, .ba b)) (hz : b.size < 100000)
    (q : ∀ b' : Array UInt8, (b'.size : Int) = b.size + 1 → Q .none (M.set j (r, .ba b'))) : CT hb w prog (n + 1) 226 [.ref a, .bool t] M Q := by
  refine CT.fn' (F := F_Sink_flag) (ρ := [some (.ref a), some (.bool t)]) F_Sink_flag_ok rfl rfl fun Lf ok => ?_
  refine SV.ifp (p := t = true) (PT.valB (by walk_at "pv") rfl) (fun h => ?_) fun h => ?_
  · refine SV.expr (EV.baAppend (j := j) (i := j) (b := b) (b' := b) (x := 1) (by walk_at "pv") hj (EV.of (v := .int 1) (by walk_at "pv") ⟨rfl, hj, by decide, by lia, ?_⟩)) rfl rfl
    exact SV.nil (SV.nil (q _ (by rw [Array.size_push]; lia)))
  · refine SV.expr (EV.baAppend (j := j) (i := j) (b := b) (b' := b) (x := 0) (by walk_at "pv") hj (EV.of (v := .int 0) (by walk_at "pv") ⟨rfl, hj, by decide, by omega, ?_⟩)) rfl rfl
    exact SV.nil (SV.nil (q _ (by rw [Array.size_push]; omega)))
theorem ct_Sink_done {a d r : Addr} {b : Array UInt8} {i j : Nat} (hi : At M i (a, .inst C_Sink d [.ref r])) (hj : At M j (r, .ba b)) (hz : b.size < 1000000)
    (q : Q (.bytes b) M) : CT hb w prog (n + 1) 240 [.ref a] M Q := by
  refine CT.fn' (F := F_Sink_done) (ρ := [some (.ref a)]) F_Sink_done_ok rfl rfl fun Lf ok => ?_
  exact SV.ret (EV.callt (f := "bytes") (by walk_at "pv") (AV.cons (EV.of (v := .ref r) (by walk_at "pv") (AV.nil (CX.bytesBa (At.tl hj) (by lia) ⟨_, .refl _, q⟩)))))
end
end
section
noncomputable abbrev Ris (ns : List Int) : Prop := ns.Pairwise (· < ·) ∧ ns.length < 64
theorem Ris.sorted {ns ns' : List Int} (h : Ris ns) (p : ns'.Perm ns) (s : ns'.Pairwise (· ≤ ·)) : ns' = ns :=
  List.Perm.eq_of_pairwise (le := fun a b => a ≤ b) (fun a b _ _ h1 h2 => Int.le_antisymm h1 h2) s (h.1.imp fun h => Int.le_of_lt h) p
@[reducible] noncomputable def ivs (ns : List Int) : List V := ns.map .int
section
variable {hb : HB} {w : World} {prog : Program} {n : Nat} {M : Led} {Q : V → Led → Prop} {c : FC} {ρ : List (Option V)}
theorem SV.from {L L₀ : Led} {ss : List Stmt} {Q : FlowA → List (Option V) → Led → Prop} (p : L.Perm L₀) (h : SV hb w prog n c ρ L₀ ss Q) : SV hb w prog n c ρ L ss Q := AC.from (p.cons _) h
theorem PO.ne' {L : Led} {a b : Int} (h : a ≠ b) : PO hb w prog n c ρ L (compareOp .NotEq) (.int a) (.int b) (.bool true) := by
  have := PO.ne (hb := hb) (w := w) (prog := prog) (n := n) (c := c) (ρ := ρ) (L := L) (a := a) (b := b)
  rwa [decide_eq_true h] at this
theorem ct_rising {i : Nat} {l : Addr} {ns : List Int} (hl : At M i (l, .list (ivs ns))) (h : Ris ns) (q : ∀ r, Q (.ref r) ((r, .list (ivs ns)) :: M)) : CT hb w prog (n + 1) 254 [.ref l] M Q := by
  refine CT.drop (CT.fn' (F := F_rising) (ρ := [some (.ref l), none, none]) F_rising_ok rfl rfl fun Lf ok => ?_)
  refine SV.assign' ok rfl (EV.list (AV.nil ⟨by decide, fun kp => ⟨_, by walk_at "sto", ?_⟩⟩))
  refine SV.forList (ix := 2) ok rfl ?_
  refine EV.callb (f := "sorted") (by walk_at "pv") (AV.cons (EV.of (v := .ref l) (by walk_at "pv") (AV.nil (CX.sorted (i := i + 2) hl h.2 fun r ns' p s => ?_))))
  have e := h.sorted p s
  subst e
  refine ⟨(r, .list (ivs ns')) :: (kp, .list []) :: M, .swap .., r, ivs ns', fun k ρ' L' => k ≤ ns'.length ∧ (∃ o, ρ' = [some (.ref l), some (.ref kp), o]) ∧ L' = (r, .list (ivs ns')) :: (kp, .list (ivs (ns'.take k))) :: M, rfl, ?_, ?_, ?_, ?_⟩
  · exact ⟨Nat.zero_le _, ⟨none, rfl⟩, rfl⟩
  · rintro k ρ' L' ⟨_, _, rfl⟩
    exact ⟨0, rfl⟩
  · rintro k v ρ' L' hv ⟨hk, ⟨o, rfl⟩, rfl⟩
    rw [List.getElem?_map] at hv
    obtain ⟨e, he, rfl⟩ := Option.map_eq_some_iff.mp hv
    have hk' : k < ns'.length := (List.getElem?_eq_some_iff.mp he).1
    have htake : ns'.take (k + 1) = ns'.take k ++ [e] := by rw [List.take_add_one, he]; rfl
    have hlt : (ns'.take k).length = k := by rw [List.length_take]; lia
    have := h.2
    show SV _ w prog n _ [some (.ref l), some (.ref kp), some (.int e)] _ _ _
    refine SV.ifT (p := ¬(ivs (ns'.take k) ≠ []) ∨ k ≠ 0) ?_ ?_ ?_
    · cases k with
      | zero => left; simp
      | succ k => right; simp
    · refine PT.or (PT.not (PT.list (i := 1) (by walk_at "pv") rfl (by simp; lia) rfl)) fun hne => ?_
      cases k with
      | zero => exact absurd (fun h => h rfl) hne
      | succ k =>
        have hprev : ns'[k]? = some ns'[k] := List.getElem?_eq_getElem (by lia)
        have lt : ns'[k] < e := by
          have := List.pairwise_iff_getElem.mp h.1 k (k + 1) (by omega) hk' (by lia)
          rw [(List.getElem?_eq_some_iff.mp he).2] at this; exact this
        refine PT.cmp (a := .int ns'[k]) (t := true) (PV.itemL (i := 1) (j := k) (k := -1) (by walk_at "pv") (by walk_at "pv") rfl (by simp; lia) ?_ (.inr ?_) (by intro _ _ _; with_unfolding_all rfl)) (by walk_at "pv") (PO.ne' (by lia)) (by simp) rfl
        · show (ivs (ns'.take (k + 1)))[k]? = _
          rw [List.getElem?_map, List.getElem?_take, if_pos (by lia), hprev]; rfl
        · rw [List.length_map, hlt]; lia
    · refine SV.expr (EV.append (i := 1) (by walk_at "pv") rfl (EV.of (v := .int e) (by walk_at "pv") ⟨1, _, rfl, by simp; lia, ?_⟩)) rfl rfl
      refine SV.nil (SV.nil ⟨hk', ⟨some (.int e), rfl⟩, ?_⟩)
      rw [htake]
      show _ :: _ :: _ = _
      simp [ivs]
  · rintro ρ' L' ⟨_, ⟨o, rfl⟩, rfl⟩
    refine SV.ret (EV.of (v := .ref kp) (by walk_at "pv") ?_)
    rw [List.length_map, List.take_length]
    exact ⟨_, List.sublist_cons_self _ _, q kp⟩
end
end
section
set_option genInjectivity false in
structure CR where
  a : Addr
  d : Addr
  v : Addr
  l : Addr
  o : Addr
  n : Addr
  vs : List Int
  ls : List Int
  os : List Int
  ns : List Int
  t : Bool
@[reducible] noncomputable def CR.ao (c : CR) : Addr × AO := (c.a, .inst C_ConfState c.d [.ref c.v, .ref c.l, .ref c.o, .ref c.n, .bool c.t])
@[reducible] noncomputable def CR.led (c : CR) : Led := [(c.n, .list (ivs c.ns)), (c.o, .list (ivs c.os)), (c.l, .list (ivs c.ls)), (c.v, .list (ivs c.vs)), c.ao]
structure CR.Ok (c : CR) : Prop where
  vs : Ris c.vs
  ls : Ris c.ls
  os : Ris c.os
  ns : Ris c.ns
noncomputable def CR.In (c : CR) (M : Led) : Prop := ∀ p ∈ c.led, p ∈ M
theorem CR.In.cons {c : CR} {M : Led} (h : c.In M) (p : Addr × AO) : c.In (p :: M) := fun q hq => .tail _ (h q hq)
theorem CR.In.sub {c : CR} {M M' : Led} (h : c.In M) (s : ∀ p ∈ M, p ∈ M') : c.In M' := fun q hq => s q (h q hq)
theorem At.of {M : Led} {p : Addr × AO} (h : p ∈ M) : ∃ i, At M i p := List.mem_iff_getElem?.mp h
theorem mid {p : Addr × AO} {A L : Led} : (A ++ p :: L).Perm (p :: (A ++ L)) := List.perm_middle
section
variable {hb : HB} {w : World} {prog : Program} {n : Nat} {M : Led} {Q : V → Led → Prop} {c : FC} {ρ : List (Option V)}
theorem backA {L A : Led} {b : V} (q : Q b (A ++ L)) : Bk (c.fr ρ) (Q b) (A ++ c.fr ρ :: L) := ⟨_, mid, q⟩
theorem ct_ConfState_init {a d l1 l2 l3 l4 : Addr} {v1 v2 v3 v4 : List Int} {t : Bool} (h1 : (l1, AO.list (ivs v1)) ∈ M) (h2 : (l2, AO.list (ivs v2)) ∈ M) (h3 : (l3, AO.list (ivs v3)) ∈ M) (h4 : (l4, AO.list (ivs v4)) ∈ M)
    (o1 : Ris v1) (o2 : Ris v2) (o3 : Ris v3) (o4 : Ris v4) (q : ∀ r1 r2 r3 r4, Q .none ((⟨a, d, r1, r2, r3, r4, v1, v2, v3, v4, t⟩ : CR).led ++ M)) : CT hb w prog (n + 2) C_ConfState.fI [.ref a, .ref l1, .ref l2, .ref l3, .ref l4, .bool t] ((a, .inst C_ConfState d []) :: M) Q := by
  refine (At.of h1).elim fun i1 h1 => ?_
  refine (At.of h2).elim fun i2 h2 => ?_
  refine (At.of h3).elim fun i3 h3 => ?_
  refine (At.of h4).elim fun i4 h4 => ?_
  refine CT.fn' (F := F_ConfState_init) (ρ := [some (.ref a), some (.ref l1), some (.ref l2), some (.ref l3), some (.ref l4), some (.bool t)]) F_ConfState_init_ok rfl rfl fun Lf ok => ?_
  refine SV.setattr' rfl (EV.callP (vs := [.ref l1]) (by walk_at "pv") F_rising_keep (by walk_at "pvl") rfl rfl (ct_rising (i := i1 + 2) h1 o1 fun r1 => ⟨_, .swap .., a, 1, d, C_ConfState, _, _, _, by walk_at "pv", rfl, pn_add, rfl, ?_⟩))
  refine SV.setattr' rfl (EV.callP (vs := [.ref l2]) (by walk_at "pv") F_rising_keep (by walk_at "pvl") rfl rfl (ct_rising (i := i2 + 3) h2 o2 fun r2 => ⟨_, .swap .., a, 2, d, C_ConfState, _, _, _, by walk_at "pv", rfl, pn_tl pn_add, rfl, ?_⟩))
  refine SV.setattr' rfl (EV.callP (vs := [.ref l3]) (by walk_at "pv") F_rising_keep (by walk_at "pvl") rfl rfl (ct_rising (i := i3 + 4) h3 o3 fun r3 => ⟨_, .swap .., a, 3, d, C_ConfState, _, _, _, by walk_at "pv", rfl, pn_tl (pn_tl pn_add), rfl, ?_⟩))
  refine SV.setattr' rfl (EV.callP (vs := [.ref l4]) (by walk_at "pv") F_rising_keep (by walk_at "pvl") rfl rfl (ct_rising (i := i4 + 5) h4 o4 fun r4 => ⟨_, .swap .., a, 4, d, C_ConfState, _, _, _, by walk_at "pv", rfl, pn_tl (pn_tl (pn_tl pn_add)), rfl, ?_⟩))
  refine SV.setattr' rfl (EV.of (v := .bool t) (by walk_at "pv") ⟨a, 4, d, C_ConfState, _, _, _, by walk_at "pv", rfl, pn_tl (pn_tl (pn_tl (pn_tl pn_add))), rfl, ?_⟩)
  exact SV.nil (q r1 r2 r3 r4)
theorem CR.In.ats {c : CR} {M : Led} (h : c.In M) : ∃ i0 i1 i2 i3 i4, At M i0 c.ao ∧ At M i1 (c.v, .list (ivs c.vs)) ∧ At M i2 (c.l, .list (ivs c.ls)) ∧ At M i3 (c.o, .list (ivs c.os)) ∧ At M i4 (c.n, .list (ivs c.ns)) := by
  refine (At.of (h c.ao (by simp [CR.led]))).elim fun i0 h0 => ?_
  refine (At.of (h (c.v, .list (ivs c.vs)) (by simp [CR.led]))).elim fun i1 h1 => ?_
  refine (At.of (h (c.l, .list (ivs c.ls)) (by simp [CR.led]))).elim fun i2 h2 => ?_
  refine (At.of (h (c.o, .list (ivs c.os)) (by simp [CR.led]))).elim fun i3 h3 => ?_
  refine (At.of (h (c.n, .list (ivs c.ns)) (by simp [CR.led]))).elim fun i4 h4 => ?_
  exact ⟨_, _, _, _, _, h0, h1, h2, h3, h4⟩
theorem ct_ConfState_copy {k : CR} (h : k.In M) (ko : k.Ok) (q : ∀ k' : CR, k'.vs = k.vs → k'.ls = k.ls → k'.os = k.os → k'.ns = k.ns → k'.t = k.t → Q (.ref k'.a) (k'.led ++ M)) : CT hb w prog (n + 4) 394 [.ref k.a] M Q := by
  have hh := h
  obtain ⟨i0, i1, i2, i3, i4, h0, h1, h2, h3, h4⟩ := h.ats
  refine CT.fn' (F := F_ConfState_copy) (ρ := [some (.ref k.a)]) F_ConfState_copy_ok rfl rfl fun Lf ok => ?_
  refine SV.ret (EV.callC (vs := [.ref k.v, .ref k.l, .ref k.o, .ref k.n, .bool k.t]) C_ConfState (by walk_at "pv") (by walk_at "pvl") rfl rfl fun a' d' => ?_)
  refine ct_ConfState_init (.tail _ h1.mem) (.tail _ h2.mem) (.tail _ h3.mem) (.tail _ h4.mem) ko.vs ko.ls ko.os ko.ns fun r1 r2 r3 r4 => ⟨rfl, backA (A := (⟨a', d', r1, r2, r3, r4, k.vs, k.ls, k.os, k.ns, k.t⟩ : CR).led) (q ⟨a', d', r1, r2, r3, r4, k.vs, k.ls, k.os, k.ns, k.t⟩ rfl rfl rfl rfl rfl)⟩
inductive Tr where
  | v (x : V)
  | t (xs : List Tr)
noncomputable def Tr.In (L : Led) : Nat → Tr → V → Prop
  | _, .v x, u => u = x ∧ x.plain = true
  | 0, .t _, _ => False
  | k + 1, .t xs, u => ∃ a vs, u = .ref a ∧ (a, AO.tup vs) ∈ L ∧ All2 (Tr.In L k) xs vs
theorem All2.mono {α β : Type} {R S : α → β → Prop} {xs : List α} {ys : List β} (h : All2 R xs ys) (k : ∀ x y, R x y → S x y) : All2 S xs ys := by
  induction h with
  | nil => exact .nil
  | cons h _ ih => exact .cons (k _ _ h) ih
theorem Tr.In.sub {L L' : Led} (hs : ∀ p ∈ L, p ∈ L') : ∀ {k : Nat} {x : Tr} {u : V}, Tr.In L k x u → Tr.In L' k x u
  | 0, .v _, _, h => h
  | 0, .t _, _, h => h.elim
  | _ + 1, .v _, _, h => h
  | _ + 1, .t _, _, ⟨a, vs, e, hm, h⟩ => ⟨a, vs, e, hs _ hm, h.mono fun _ _ h => h.sub hs⟩
theorem All2.joined {α β : Type} {R : α → β → Prop} {S : β → β → Prop} (hRS : ∀ x y z, R x y → R x z → S y z) {xs : List α} : ∀ {ys zs : List β}, All2 R xs ys → All2 R xs zs → All2 S ys zs := by
  induction xs with
  | nil => intro ys zs h h'; cases h; cases h'; exact .nil
  | cons x xs ih => intro ys zs h h'; cases h with | cons a b => cases h' with | cons a' b' => exact .cons (hRS _ _ _ a a') (ih b b')
theorem Tr.In.eq {L : Led} : ∀ {k : Nat} {x : Tr} {u v : V}, Tr.In L k x u → Tr.In L k x v → EqN L k u v
  | 0, .v _, _, _, ⟨e, p⟩, ⟨e', _⟩ => by subst e; subst e'; exact EqN.same p _
  | 0, .t _, _, _, h, _ => h.elim
  | _ + 1, .v _, _, _, ⟨e, p⟩, ⟨e', _⟩ => by subst e; subst e'; exact EqN.same p _
  | _ + 1, .t _, _, _, ⟨a, vs, e, hm, h⟩, ⟨b, ws, e', hm', h'⟩ => by subst e; subst e'; exact EqN.tup hm hm' (h.joined (fun _ _ _ x y => x.eq y) h')
@[reducible] noncomputable def Tr.li (ns : List Int) : Tr := .t (ns.map fun x => .v (.int x))
@[reducible] noncomputable def CR.tr (c : CR) : Tr := .t [.li c.vs, .li c.ls, .li c.os, .li c.ns, .v (.bool c.t)]
theorem All2.ivs {L : Led} {k : Nat} : ∀ ns : List Int, All2 (Tr.In L k) (ns.map fun x => .v (.int x)) (Mine.ivs ns)
  | [] => .nil
  | n :: ns => .cons (by cases k <;> exact ⟨rfl, rfl⟩) (All2.ivs ns)
theorem ct_ConfState_row {k : CR} (h : k.In M) (ko : k.Ok) (q : ∀ (A : Led) (r : Addr), Tr.In (A ++ M) 2 k.tr (.ref r) → Q (.ref r) (A ++ M)) : CT hb w prog (n + 1) 387 [.ref k.a] M Q := by
  obtain ⟨i0, i1, i2, i3, i4, h0, h1, h2, h3, h4⟩ := h.ats
  refine CT.fn' (F := F_ConfState_row) (ρ := [some (.ref k.a)]) F_ConfState_row_ok rfl rfl fun Lf ok => ?_
  have := ko.vs.2; have := ko.ls.2; have := ko.os.2; have := ko.ns.2
  refine SV.ret (EV.tuple ?_)
  refine AV.cons (EV.callt (f := "tuple") (by walk_at "pv") (AV.cons (EV.of (v := .ref k.v) (by walk_at "pv") (AV.nil (CX.tupleList (i := i1 + 1) h1 (by simp; lia) fun t1 => ⟨_, .swap .., ?_⟩)))))
  refine AV.cons (EV.callt (f := "tuple") (by walk_at "pv") (AV.cons (EV.of (v := .ref k.l) (by walk_at "pv") (AV.nil (CX.tupleList (i := i2 + 2) h2 (by simp; lia) fun t2 => ⟨_, .swap .., ?_⟩)))))
  refine AV.cons (EV.callt (f := "tuple") (by walk_at "pv") (AV.cons (EV.of (v := .ref k.o) (by walk_at "pv") (AV.nil (CX.tupleList (i := i3 + 3) h3 (by simp; lia) fun t3 => ⟨_, .swap .., ?_⟩)))))
  refine AV.cons (EV.callt (f := "tuple") (by walk_at "pv") (AV.cons (EV.of (v := .ref k.n) (by walk_at "pv") (AV.nil (CX.tupleList (i := i4 + 4) h4 (by simp; lia) fun t4 => ⟨_, .swap .., ?_⟩)))))
  refine AV.cons (EV.of (v := .bool k.t) (by walk_at "pv") (AV.nil ⟨by simp, fun r => ?_⟩))
  refine q [(r, .tup [.ref t1, .ref t2, .ref t3, .ref t4, .bool k.t]), (t4, .tup (ivs k.ns)), (t3, .tup (ivs k.os)), (t2, .tup (ivs k.ls)), (t1, .tup (ivs k.vs))] r ?_
  exact ⟨r, _, rfl, by simp, .cons ⟨t1, _, rfl, by simp, All2.ivs _⟩ (.cons ⟨t2, _, rfl, by simp, All2.ivs _⟩ (.cons ⟨t3, _, rfl, by simp, All2.ivs _⟩ (.cons ⟨t4, _, rfl, by simp, All2.ivs _⟩ (.cons ⟨rfl, rfl⟩ .nil))))⟩
end
end
section
theorem vlF_bounds : ∀ (k : Nat) (x : Int), 1 ≤ vlF k x ∧ vlF k x ≤ k + 1
  | 0, x => by unfold vlF; lia
  | k + 1, x => by
    have := vlF_bounds k (x / 128)
    unfold vlF; split <;> lia
theorem vl_bounds (x : Int) : 1 ≤ vl x ∧ vl x ≤ 10 := vlF_bounds 9 x
noncomputable def vls (ns : List Int) : Int := (ns.map vl).sum
theorem vls_bounds : ∀ ns : List Int, 0 ≤ vls ns ∧ vls ns ≤ 10 * ns.length
  | [] => by simp [vls]
  | x :: ns => by
    have := vls_bounds ns
    have := vl_bounds x
    simp only [vls, List.map_cons, List.sum_cons, List.length_cons] at *
    lia
theorem Tr.In.subT {L L' : Led} (hs : ∀ a vs, (a, AO.tup vs) ∈ L → (a, AO.tup vs) ∈ L') : ∀ {k : Nat} {x : Tr} {u : V}, Tr.In L k x u → Tr.In L' k x u
  | 0, .v _, _, h => h
  | 0, .t _, _, h => h.elim
  | _ + 1, .v _, _, h => h
  | _ + 1, .t _, _, ⟨a, vs, e, hm, h⟩ => ⟨a, vs, e, hs _ _ hm, h.mono fun _ _ h => h.subT hs⟩
theorem Tr.In.fr {A M : Led} {c : FC} {ρ : List (Option V)} {k : Nat} {x : Tr} {u : V} (h : Tr.In (A ++ c.fr ρ :: M) k x u) : Tr.In (A ++ M) k x u := h.subT fun a vs hm => by
  rcases List.mem_append.mp hm with h | h
  · exact List.mem_append_left _ h
  · rcases List.mem_cons.mp h with h | h
    · cases h
    · exact List.mem_append_right _ h
theorem Tr.In.up {L : Led} : ∀ {k : Nat} {x : Tr} {u : V}, Tr.In L k x u → Tr.In L (k + 1) x u
  | 0, .v _, _, h => h
  | 0, .t _, _, h => h.elim
  | _ + 1, .v _, _, h => h
  | k + 1, .t _, _, ⟨a, vs, e, hm, h⟩ => ⟨a, vs, e, hm, h.mono fun _ _ h => h.up⟩
theorem At.app {A M : Led} {i : Nat} {p : Addr × AO} (h : At M i p) : At (A ++ M) (A.length + i) p := by
  show (A ++ M)[A.length + i]? = _; rw [List.getElem?_append_right (by lia)]; simpa using h
set_option genInjectivity false in
structure SR where
  a : Addr
  d : Addr
  i : Int
  t : Int
  c : CR
  b : Array UInt8
@[reducible] noncomputable def SR.ao (s : SR) : Addr × AO := (s.a, .inst C_Snapshot s.d [.int s.i, .int s.t, .ref s.c.a, .bytes s.b])
@[reducible] noncomputable def SR.led (s : SR) : Led := s.ao :: s.c.led
structure SR.In (s : SR) (M : Led) : Prop where
  ao : s.ao ∈ M
  c : s.c.In M
theorem SR.In.sub {c : SR} {M M' : Led} (h : c.In M) (s : ∀ p ∈ M, p ∈ M') : c.In M' := ⟨s _ h.ao, h.c.sub s⟩
theorem SR.In.cons {c : SR} {M : Led} (h : c.In M) (p : Addr × AO) : c.In (p :: M) := h.sub fun q hq => .tail _ hq
@[reducible] noncomputable def SR.tr (s : SR) : Tr := .t [.v (.int s.i), .v (.int s.t), s.c.tr, .v (.bytes s.b)]
section
variable {hb : HB} {w : World} {prog : Program} {n : Nat} {M : Led} {Q : V → Led → Prop} {c : FC} {ρ : List (Option V)}
theorem ct_HardState_init {a d : Addr} {t v k : V} (q : Q .none ((a, .inst C_HardState d [t, v, k]) :: M)) : CT hb w prog (n + 1) C_HardState.fI [.ref a, t, v, k] ((a, .inst C_HardState d []) :: M) Q := by
  refine CT.fn' (F := F_HardState_init) (ρ := [some (.ref a), some t, some v, some k]) F_HardState_init_ok rfl rfl fun Lf ok => ?_
  walk_at "seta"
  walk_at "seta"
  walk_at "seta"
  exact SV.nil q
theorem ct_Snapshot_init {a d : Addr} {t i k b : V} (q : Q .none ((a, .inst C_Snapshot d [t, i, k, b]) :: M)) : CT hb w prog (n + 1) C_Snapshot.fI [.ref a, t, i, k, b] ((a, .inst C_Snapshot d []) :: M) Q := by
  refine CT.fn' (F := F_Snapshot_init) (ρ := [some (.ref a), some t, some i, some k, some b]) F_Snapshot_init_ok rfl rfl fun Lf ok => ?_
  walk_at "seta"
  walk_at "seta"
  walk_at "seta"
  walk_at "seta"
  exact SV.nil q
theorem ct_Snapshot_row {k : SR} (h : k.In M) (ko : k.c.Ok) (q : ∀ (A : Led) (r : Addr), Tr.In (A ++ M) 3 k.tr (.ref r) → Q (.ref r) (A ++ M)) : CT hb w prog (n + 2) 436 [.ref k.a] M Q := by
  refine (At.of h.ao).elim fun i h0 => ?_
  refine (At.of (h.c k.c.ao (by simp [CR.led]))).elim fun ic hc0 => ?_
  refine CT.fn' (F := F_Snapshot_row) (ρ := [some (.ref k.a)]) F_Snapshot_row_ok rfl rfl fun Lf ok => ?_
  refine SV.ret (EV.tuple ?_)
  refine AV.cons (EV.of (v := .int k.i) (by walk_at "pv") (AV.cons (EV.of (v := .int k.t) (by walk_at "pv") (AV.cons ?_))))
  refine EV.methP0 (j := 0) (by walk_at "pv") hc0 rfl rfl ?_
  refine ct_ConfState_row (k := k.c) (h.c.cons _) ko fun A r hr => ⟨A ++ M, mid, ?_⟩
  have hm : At (A ++ M) (A.length + i) k.ao := by show (A ++ M)[A.length + i]? = _; rw [List.getElem?_append_right (by walk_at "lia")]; simpa using h0
  refine AV.cons (EV.of (v := .bytes k.b) (by walk_at "pv") (AV.nil ⟨by simp, fun r' => ?_⟩))
  refine q ((r', .tup [.int k.i, .int k.t, .ref r, .bytes k.b]) :: A) r' ?_
  refine ⟨r', _, rfl, .head _, .cons ⟨rfl, rfl⟩ (.cons ⟨rfl, rfl⟩ (.cons ?_ (.cons ⟨rfl, rfl⟩ .nil)))⟩
  exact hr.fr.sub fun p hp => .tail _ hp
end
end
section
section
variable {hb : HB} {w : World} {prog : Program} {n : Nat} {M : Led} {Q : V → Led → Prop} {c : FC} {ρ : List (Option V)}
theorem ct_Snapshot_copy {k : SR} (h : k.In M) (ko : k.c.Ok) (q : ∀ k' : SR, k'.i = k.i → k'.t = k.t → k'.b = k.b → k'.c.vs = k.c.vs → k'.c.ls = k.c.ls → k'.c.os = k.c.os → k'.c.ns = k.c.ns → k'.c.t = k.c.t → Q (.ref k'.a) (k'.led ++ M)) : CT hb w prog (n + 5) 450 [.ref k.a] M Q := by
  refine (At.of h.ao).elim fun i h0 => ?_
  refine (At.of (h.c k.c.ao (by simp [CR.led]))).elim fun ic hc0 => ?_
  refine CT.fn' (F := F_Snapshot_copy) (ρ := [some (.ref k.a)]) F_Snapshot_copy_ok rfl rfl fun Lf ok => ?_
  refine SV.ret (EV.call (by walk_at "pv") C_Snapshot_keep ?_)
  refine AV.cons (EV.of (v := .int k.i) (by walk_at "pv") (AV.cons (EV.of (v := .int k.t) (by walk_at "pv") (AV.cons ?_))))
  refine EV.methP0 (j := 1) (by walk_at "pv") hc0 rfl rfl ?_
  refine ct_ConfState_copy (k := k.c) (h.c.cons _) ko fun k' e1 e2 e3 e4 e5 => ⟨k'.led ++ M, mid, ?_⟩
  have hm : At (k'.led ++ M) (k'.led.length + i) k.ao := h0.app
  refine AV.cons (EV.of (v := .bytes k.b) (by walk_at "pv") (AV.nil (CX.cls (k := C_Snapshot) fun a d => ct_Snapshot_init ⟨rfl, ?_⟩)))
  exact ⟨_, .swap .., q ⟨a, d, k.i, k.t, k', k.b⟩ rfl rfl rfl e1 e2 e3 e4 e5⟩
theorem ct_put_ids {a d r l : Addr} {b : Array UInt8} {i j : Nat} {ns : List Int} (hi : At M i (a, .inst C_Sink d [.ref r])) (hj : At M j (r, .ba b)) (hl : (l, AO.list (ivs ns)) ∈ M) (ho : ∀ x ∈ ns, 0 ≤ x ∧ x < 18446744073709551616) (hlen : ns.length < 1000) (hz : b.size < 200000)
    (q : ∀ b' : Array UInt8, (b'.size : Int) = b.size + vl ns.length + vls ns → Q .none (M.set j (r, .ba b'))) : CT hb w prog (n + 4) 408 [.ref a, .ref l] M Q := by
  refine (At.of hl).elim fun m hl => ?_
  have hij : j ≠ i := fun e => by subst e; cases hi.symm.trans hj
  have hjm : j ≠ m := fun e => by subst e; cases hl.symm.trans hj
  have hvl := vl_bounds ns.length
  refine CT.fn' (F := F_put_ids) (ρ := [some (.ref a), some (.ref l), none]) F_put_ids_ok rfl rfl fun Lf ok => ?_
  have hl' : (ivs ns).length < 2 ^ 40 := by simp; lia
  refine SV.expr (EV.methP (vs' := [.int ns.length]) (j := 0) (i := i) (k := C_Sink) (d := d) (vs := [.ref r]) (by walk_at "pv") hi rfl ?_ rfl rfl rfl (ct_Sink_varint (i := i + 1) (j := j + 1) hi hj (by lia) (by lia) (by lia) fun b₁ e₁ => ⟨_, .refl _, ?_⟩)) rfl rfl
  · refine PVL.cons ?_ .nil rfl
    have e : (V.int ns.length) = .int (ivs ns).length := by rw [List.length_map]
    rw [e]
    exact PV.lenL (by walk_at "pv") (by walk_at "pv") hl hl' rfl
  refine SV.forList (ix := 2) ok rfl (EV.of (v := .ref l) (by walk_at "pv") ⟨l, ivs ns, fun k ρ' L' => k ≤ ns.length ∧ (∃ o, ρ' = [some (.ref a), some (.ref l), o]) ∧ ∃ b', L' = M.set j (r, .ba b') ∧ (b'.size : Int) = b.size + vl ns.length + vls (ns.take k), rfl, ?_, ?_, ?_, ?_⟩)
  · exact ⟨Nat.zero_le _, ⟨none, rfl⟩, b₁, rfl, by simp only [List.take_zero, vls, List.map_nil, List.sum_nil]; lia⟩
  · rintro k ρ' L' ⟨_, _, b', rfl, _⟩
    exact ⟨m, at_set_ne hl hjm⟩
  · rintro k v ρ' L' hv ⟨hk, ⟨o, rfl⟩, b', rfl, hb'⟩
    rw [List.getElem?_map] at hv
    obtain ⟨e, he, rfl⟩ := Option.map_eq_some_iff.mp hv
    have hk' : k < ns.length := (List.getElem?_eq_some_iff.mp he).1
    have htake : ns.take (k + 1) = ns.take k ++ [e] := by rw [List.take_add_one, he]; rfl
    have hb2 := vls_bounds (ns.take k)
    have hlt : (ns.take k).length ≤ 1000 := by rw [List.length_take]; lia
    show SV _ w prog (n + 3) _ [some (.ref a), some (.ref l), some (.int e)] _ _ _
    have heo := ho e (List.mem_of_getElem? he)
    refine SV.expr (EV.methP (vs' := [.int e]) (j := 0) (i := i) (k := C_Sink) (d := d) (vs := [.ref r]) (by walk_at "pv") (at_set_ne hi hij) rfl (by walk_at "pvl") rfl rfl rfl (ct_Sink_varint (i := i + 1) (j := j + 1) (at_set_ne (L := M) hi hij) (at_set_eq (L := M) hj) heo.1 heo.2 (by lia) fun b₂ e₂ => ⟨_, .refl _, ?_⟩)) rfl rfl
    refine SV.nil ⟨hk', ⟨some (.int e), rfl⟩, b₂, by rw [List.set_set], ?_⟩
    rw [e₂, hb', htake]
    simp only [vls, List.map_append, List.sum_append, List.map_cons, List.map_nil, List.sum_cons, List.sum_nil]
    lia
  · rintro ρ' L' ⟨_, ⟨o, rfl⟩, b', rfl, hb'⟩
    rw [List.length_map, List.take_length] at hb'
    exact SV.nil (q b' hb')
end
end
section
noncomputable def Fit (ns : List Int) : Prop := ∀ x ∈ ns, 0 ≤ x ∧ x < 18446744073709551616
structure CR.Num (c : CR) : Prop extends CR.Ok c where
  fv : Fit c.vs
  fl : Fit c.ls
  fo : Fit c.os
  fn : Fit c.ns
noncomputable def idz (ns : List Int) : Int := vl ns.length + vls ns
theorem idz_bounds {ns : List Int} (h : Ris ns) : 0 ≤ idz ns ∧ idz ns ≤ 650 := by
  have := vl_bounds ns.length
  have := vls_bounds ns
  have := h.2
  unfold idz; lia
noncomputable def CR.z (c : CR) : Int := idz c.vs + idz c.ls + idz c.os + idz c.ns + 1
structure Sz (b : Array UInt8) (S B : Int) : Prop where
  e : (b.size : Int) = S
  l : S ≤ B
theorem Sz.nil : Sz #[] 0 0 := ⟨rfl, Int.le_refl 0⟩
theorem Sz.lt {b : Array UInt8} {S B : Int} {N : Nat} (h : Sz b S B) (k : B < N) : b.size < N := by have := h.e; have := h.l; lia
theorem Sz.add {b b' : Array UInt8} {S B x K : Int} (h : Sz b S B) (e : (b'.size : Int) = b.size + x) (k : x ≤ K) : Sz b' (S + x) (B + K) := ⟨by rw [e, h.e], Int.add_le_add h.l k⟩
theorem Sz.add2 {b b' : Array UInt8} {S B x y K : Int} (h : Sz b S B) (e : (b'.size : Int) = b.size + x + y) (k : x + y ≤ K) : Sz b' (S + (x + y)) (B + K) := h.add (e.trans (Int.add_assoc ..)) k
section
variable {hb : HB} {w : World} {prog : Program} {n : Nat} {M : Led} {c : FC} {ρ : List (Option V)} {b : Array UInt8} {S B : Int} {o : Expr} {ap pos sp : Pos} {e : Expr} {pl : Sem Bool} {rest : List Stmt} {sa sd r : Addr}
@[reducible] noncomputable def sk (sa sd r : Addr) (b : Array UInt8) (M : Led) : Led := (sa, .inst C_Sink sd [.ref r]) :: (r, .ba b) :: M
theorem SV.sinkV {x : Int} {Q : FlowA → List (Option V) → Led → Prop} (sz : Sz b S B) (ho : PV hb w prog (n + 3) c ρ (sk sa sd r b M) o (.ref sa)) (he : PV hb w prog (n + 3) c ρ (sk sa sd r b M) e (.int x)) (h : 0 ≤ x ∧ x < 18446744073709551616)
    (hm : MethOk o "varint" ap pos [e] c.env pl) (hs : starEach [e] c.env = (false, eval e c.env) :: starEach [] c.env) (hp : (backTo pos (starEach [] c.env)).any (·.1) = false)
    (hi : interactive c.env = false) (hw : swapsWith (.Call (.Attribute o "varint" ap) [e] [] pos) none sp.line c.env = pure false) (hB : B < 1000000)
    (q : ∀ b', Sz b' (S + vl x) (B + 10) → SV hb w prog (n + 3) c ρ (sk sa sd r b' M) rest Q) : SV hb w prog (n + 3) c ρ (sk sa sd r b M) (.Expr (.Call (.Attribute o "varint" ap) [e] [] pos) sp :: rest) Q :=
  SV.expr (EV.methP (vs' := [.int x]) (j := 0) (i := 0) (k := C_Sink) (d := sd) (vs := [.ref r]) ho rfl rfl (.cons he .nil hs) hm hs hp (ct_Sink_varint (i := 1) (j := 2) (b := b) rfl rfl h.1 h.2 (sz.lt hB) fun b' e' => ⟨sk sa sd r b' M, .refl _, q b' (sz.add e' (vl_bounds x).2)⟩)) hi hw
theorem SV.sinkI {e1 e2 : Expr} {ns : List Int} {l : Addr} {Q : FlowA → List (Option V) → Led → Prop} {id : Str} {p : Pos} (sz : Sz b S B) (hf : PV hb w prog (n + 4) c ρ (sk sa sd r b M) (.Name id p) (.ref 408)) (ha : PV hb w prog (n + 4) c ρ (sk sa sd r b M) e1 (.ref sa)) (he : PV hb w prog (n + 4) c ρ (sk sa sd r b M) e2 (.ref l))
    (hl : (l, AO.list (ivs ns)) ∈ c.fr ρ :: sk sa sd r b M) (hr : Ris ns) (hn : Fit ns)
    (hs : starEach [e1, e2] c.env = (false, eval e1 c.env) :: starEach [e2] c.env) (hs2 : starEach [e2] c.env = (false, eval e2 c.env) :: starEach [] c.env) (hp : (backTo pos (starEach [e2] c.env)).any (·.1) = false)
    (hi : interactive c.env = false) (hw : swapsWith (.Call (.Name id p) [e1, e2] [] pos) none sp.line c.env = pure false) (hB : B < 200000)
    (q : ∀ b', Sz b' (S + idz ns) (B + 650) → SV hb w prog (n + 4) c ρ (sk sa sd r b' M) rest Q) : SV hb w prog (n + 4) c ρ (sk sa sd r b M) (.Expr (.Call (.Name id p) [e1, e2] [] pos) sp :: rest) Q :=
  SV.expr (EV.callP (vs := [.ref sa, .ref l]) hf F_put_ids_keep (.cons ha (.cons he .nil hs2) hs) hs hp (ct_put_ids (i := 1) (j := 2) (a := sa) (d := sd) (r := r) (b := b) rfl rfl hl hn (Nat.lt_trans hr.2 (by decide)) (sz.lt hB) fun b' e' => ⟨sk sa sd r b' M, .refl _, q b' (sz.add2 e' (idz_bounds hr).2)⟩)) hi hw
theorem SV.sinkF {t : Bool} {Q : FlowA → List (Option V) → Led → Prop} (sz : Sz b S B) (ho : PV hb w prog (n + 1) c ρ (sk sa sd r b M) o (.ref sa)) (he : PV hb w prog (n + 1) c ρ (sk sa sd r b M) e (.bool t))
    (hm : MethOk o "flag" ap pos [e] c.env pl) (hs : starEach [e] c.env = (false, eval e c.env) :: starEach [] c.env) (hp : (backTo pos (starEach [] c.env)).any (·.1) = false)
    (hi : interactive c.env = false) (hw : swapsWith (.Call (.Attribute o "flag" ap) [e] [] pos) none sp.line c.env = pure false) (hB : B < 100000)
    (q : ∀ b', Sz b' (S + 1) (B + 1) → SV hb w prog (n + 1) c ρ (sk sa sd r b' M) rest Q) : SV hb w prog (n + 1) c ρ (sk sa sd r b M) (.Expr (.Call (.Attribute o "flag" ap) [e] [] pos) sp :: rest) Q :=
  SV.expr (EV.methP (vs' := [.bool t]) (j := 2) (i := 0) (k := C_Sink) (d := sd) (vs := [.ref r]) ho rfl rfl (.cons he .nil hs) hm hs hp (ct_Sink_flag (i := 1) (j := 2) (b := b) rfl rfl (sz.lt hB) fun b' e' => ⟨sk sa sd r b' M, .refl _, q b' (sz.add e' (Int.le_refl 1))⟩)) hi hw
theorem SV.sinkX {X K : Int} {Q : FlowA → List (Option V) → Led → Prop} (sz : Sz b S B) (ho : PV hb w prog (n + 3) c ρ (sk sa sd r b M) o (.ref sa))
    (he : ∀ {F : V → Led → Prop}, (∀ x : Array UInt8, Sz x X K → F (.bytes x) (sk sa sd r b M)) → EV hb w prog (n + 3) c ρ (sk sa sd r b M) e F)
    (hm : MethOk o "lengthed" ap pos [e] c.env pl) (hs : starEach [e] c.env = (false, eval e c.env) :: starEach [] c.env) (hp : (backTo pos (starEach [] c.env)).any (·.1) = false)
    (hi : interactive c.env = false) (hw : swapsWith (.Call (.Attribute o "lengthed" ap) [e] [] pos) none sp.line c.env = pure false) (hB : B < 100000) (hK : K < 30000)
    (q : ∀ b', Sz b' (S + (vl X + X)) (B + (10 + K)) → SV hb w prog (n + 3) c ρ (sk sa sd r b' M) rest Q) : SV hb w prog (n + 3) c ρ (sk sa sd r b M) (.Expr (.Call (.Attribute o "lengthed" ap) [e] [] pos) sp :: rest) Q :=
  SV.expr (EV.meth (j := 1) (i := 0) (k := C_Sink) (d := sd) (vs := [.ref r]) ho rfl rfl (AV.cons (he fun x hx => AV.nil (CT.cx (ct_Sink_lengthed (i := 1) (j := 2) (b := b) rfl rfl (hx.lt hK) (sz.lt hB) fun b' e' => ⟨sk sa sd r b' M, .refl _, q b' (by
    rw [hx.e] at e'
    exact sz.add2 e' (Int.add_le_add (vl_bounds X).2 hx.l))⟩))) hs) hm hs hp) hi hw
theorem SV.sinkB {x : Array UInt8} {Q : FlowA → List (Option V) → Led → Prop} (sz : Sz b S B) (ho : PV hb w prog (n + 3) c ρ (sk sa sd r b M) o (.ref sa)) (he : PV hb w prog (n + 3) c ρ (sk sa sd r b M) e (.bytes x)) (hx : x.size < 1000)
    (hm : MethOk o "lengthed" ap pos [e] c.env pl) (hs : starEach [e] c.env = (false, eval e c.env) :: starEach [] c.env) (hp : (backTo pos (starEach [] c.env)).any (·.1) = false)
    (hi : interactive c.env = false) (hw : swapsWith (.Call (.Attribute o "lengthed" ap) [e] [] pos) none sp.line c.env = pure false) (hB : B < 100000)
    (q : ∀ b', Sz b' (S + (vl x.size + x.size)) (B + (10 + 1000)) → SV hb w prog (n + 3) c ρ (sk sa sd r b' M) rest Q) : SV hb w prog (n + 3) c ρ (sk sa sd r b M) (.Expr (.Call (.Attribute o "lengthed" ap) [e] [] pos) sp :: rest) Q :=
  SV.sinkX (K := 1000) sz ho (fun f => EV.of he (f x ⟨rfl, Int.le_of_lt (Int.ofNat_lt.mpr hx)⟩)) hm hs hp hi hw hB (by decide) q
theorem SV.sinkR {Q : FlowA → List (Option V) → Led → Prop} (sz : Sz b S B) (ho : PV hb w prog (n + 1) c ρ (sk sa sd r b M) o (.ref sa)) (hm : MethOk o "done" ap pos [] c.env pl) (hB : B < 1000000)
    (q : Q (.ret (.bytes b)) ρ (sk sa sd r b M)) : SV hb w prog (n + 1) c ρ (sk sa sd r b M) (.Return (some (.Call (.Attribute o "done" ap) [] [] pos)) sp :: rest) Q :=
  SV.ret (EV.methP0 (j := 3) (i := 0) (k := C_Sink) (d := sd) (vs := [.ref r]) ho rfl rfl hm (ct_Sink_done (i := 1) (j := 2) (b := b) rfl rfl (sz.lt hB) ⟨sk sa sd r b M, .refl _, q⟩))
theorem sk_sub {sa sd r : Addr} {b : Array UInt8} : M.Sublist (sk sa sd r b M) := (List.sublist_cons_self _ _).trans (List.sublist_cons_self _ _)
end
noncomputable def SR.z (s : SR) : Int := vl s.i + vl s.t + (vl s.c.z + s.c.z) + (vl s.b.size + s.b.size)
structure SR.Num (s : SR) : Prop where
  c : s.c.Num
  i : 0 ≤ s.i ∧ s.i < 18446744073709551616
  t : 0 ≤ s.t ∧ s.t < 18446744073709551616
  b : s.b.size < 1000
theorem CR.z_bounds {c : CR} (h : c.Num) : 0 ≤ c.z ∧ c.z ≤ 2601 := by
  have := idz_bounds h.vs
  have := idz_bounds h.ls
  have := idz_bounds h.os
  have := idz_bounds h.ns
  unfold CR.z; lia
section
variable {hb : HB} {w : World} {prog : Program} {n : Nat} {M : Led} {Q : V → Led → Prop} {c : FC} {ρ : List (Option V)}
theorem ct_encode_conf {k : CR} (h : k.In M) (ko : k.Num) (q : ∀ b : Array UInt8, (b.size : Int) = k.z → Q (.bytes b) M) : CT hb w prog (n + 5) 415 [.ref k.a] M Q := by
  obtain ⟨i0, i1, i2, i3, i4, h0, h1, h2, h3, h4⟩ := h.ats
  refine CT.drop (CT.fn' (F := F_encode_conf) (ρ := [some (.ref k.a), none]) F_encode_conf_ok rfl rfl fun Lf ok => ?_)
  refine SV.assign' ok rfl (EV.callC0 C_Sink (by walk_at "pv") fun sa sd => ct_Sink_init fun r => ⟨rfl, ⟨sk sa sd r #[] M, mid (A := siO sa sd r #[]), _, by walk_at "sto", ?_⟩⟩)
  refine SV.sinkI (ns := k.vs) .nil (by walk_at "pv") (by walk_at "pv") (by walk_at "pv") (.tail _ (.tail _ (.tail _ h1.mem))) ko.vs ko.fv rfl rfl rfl rfl rfl (by decide) fun b1 e1 => ?_
  refine SV.sinkI (ns := k.ls) e1 (by walk_at "pv") (by walk_at "pv") (by walk_at "pv") (.tail _ (.tail _ (.tail _ h2.mem))) ko.ls ko.fl rfl rfl rfl rfl rfl (by decide) fun b2 e2 => ?_
  refine SV.sinkI (ns := k.os) e2 (by walk_at "pv") (by walk_at "pv") (by walk_at "pv") (.tail _ (.tail _ (.tail _ h3.mem))) ko.os ko.fo rfl rfl rfl rfl rfl (by decide) fun b3 e3 => ?_
  refine SV.sinkI (ns := k.ns) e3 (by walk_at "pv") (by walk_at "pv") (by walk_at "pv") (.tail _ (.tail _ (.tail _ h4.mem))) ko.ns ko.fn rfl rfl rfl rfl rfl (by decide) fun b4 e4 => ?_
  refine SV.sinkF e4 (by walk_at "pv") (by walk_at "pv") rfl rfl rfl rfl rfl (by decide) fun b5 e5 => ?_
  exact SV.sinkR e5 (by walk_at "pv") rfl (by decide) ⟨M, sk_sub, q b5 (by rw [e5.e, Int.zero_add]; rfl)⟩
theorem ct_encode_entry {e : ER} (h : e.ao ∈ M) (eo : e.Ok) (q : ∀ b : Array UInt8, (b.size : Int) = e.sz → Q (.bytes b) M) : CT hb w prog (n + 4) 310 [.ref e.a] M Q := by
  refine (At.of h).elim fun i0 h0 => ?_
  refine CT.drop (CT.fn' (F := F_encode_entry) (ρ := [some (.ref e.a), none]) F_encode_entry_ok rfl rfl fun Lf ok => ?_)
  refine SV.assign' ok rfl (EV.callC0 C_Sink (by walk_at "pv") fun sa sd => ct_Sink_init fun r => ⟨rfl, ⟨sk sa sd r #[] M, mid (A := siO sa sd r #[]), _, by walk_at "sto", ?_⟩⟩)
  refine SV.sinkV .nil (by walk_at "pv") (by walk_at "pv") eo.t rfl rfl rfl rfl rfl (by decide) fun b1 e1 => ?_
  refine SV.sinkV e1 (by walk_at "pv") (by walk_at "pv") eo.i rfl rfl rfl rfl rfl (by decide) fun b2 e2 => ?_
  refine SV.sinkV e2 (by walk_at "pv") (by walk_at "pv") eo.k rfl rfl rfl rfl rfl (by decide) fun b3 e3 => ?_
  refine SV.sinkB e3 (by walk_at "pv") (by walk_at "pv") eo.b rfl rfl rfl rfl rfl (by decide) fun b4 e4 => ?_
  exact SV.sinkR e4 (by walk_at "pv") rfl (by decide) ⟨M, sk_sub, q b4 (by rw [e4.e, Int.zero_add]; show _ = esz _ _ _ _; unfold esz; lia)⟩
theorem ct_encode_snapshot {k : SR} (h : k.In M) (ko : k.Num) (q : ∀ b : Array UInt8, (b.size : Int) = k.z → Q (.bytes b) M) : CT hb w prog (n + 6) 464 [.ref k.a] M Q := by
  refine (At.of h.ao).elim fun i0 h0 => ?_
  refine CT.drop (CT.fn' (F := F_encode_snapshot) (ρ := [some (.ref k.a), none]) F_encode_snapshot_ok rfl rfl fun Lf ok => ?_)
  refine SV.assign' ok rfl (EV.callC0 C_Sink (by walk_at "pv") fun sa sd => ct_Sink_init fun r => ⟨rfl, ⟨sk sa sd r #[] M, mid (A := siO sa sd r #[]), _, by walk_at "sto", ?_⟩⟩)
  refine SV.sinkV .nil (by walk_at "pv") (by walk_at "pv") ko.i rfl rfl rfl rfl rfl (by decide) fun b1 e1 => ?_
  refine SV.sinkV e1 (by walk_at "pv") (by walk_at "pv") ko.t rfl rfl rfl rfl rfl (by decide) fun b2 e2 => ?_
  refine SV.sinkX e2 (by walk_at "pv") (fun f => EV.callP (vs := [.ref k.c.a]) (by walk_at "pv") F_encode_conf_keep (by walk_at "pvl") rfl rfl (ct_encode_conf (h.c.sub fun p hp => .tail _ (.tail _ (.tail _ hp))) ko.c fun b e => ⟨sk sa sd r b2 M, .refl _, f b ⟨e, (CR.z_bounds ko.c).2⟩⟩)) rfl rfl rfl rfl rfl (by decide) (by decide) fun b3 e3 => ?_
  refine SV.sinkB e3 (by walk_at "pv") (by walk_at "pv") ko.b rfl rfl rfl rfl rfl (by decide) fun b4 e4 => ?_
  exact SV.sinkR e4 (by walk_at "pv") rfl (by decide) ⟨M, sk_sub, q b4 (by rw [e4.e, Int.zero_add]; rfl)⟩
end
end
section
inductive Seq (L : Led) : V → List V → Prop where
  | list {l : Addr} {vs : List V} : (l, AO.list vs) ∈ L → Seq L (.ref l) vs
  | tup {l : Addr} {vs : List V} : (l, AO.tup vs) ∈ L → Seq L (.ref l) vs
section
variable {hb : HB} {w : World} {prog : Program} {n : Nat} {M : Led} {c : FC} {ρ : List (Option V)} {L : Led}
theorem Seq.src {b : V} {vs : List V} {p : Addr × AO} (h : Seq L b vs) : ∃ need : Led → Prop, Src hb w prog b (p :: L) vs.length (fun i => vs.getD i .none) need ∧ ∀ L', (∀ p ∈ L, p ∈ L') → need L' := by
  cases h with
  | list hm =>
    refine (At.of hm).elim fun i hi => ?_
    exact ⟨_, Src.list (At.tl hi), fun L' h => At.of (h _ hm)⟩
  | tup hm =>
    refine (At.of hm).elim fun i hi => ?_
    exact ⟨_, Src.tuple (At.tl hi), fun L' h => At.of (h _ hm)⟩
theorem getD_of {vs : List V} {k : Nat} (hk : k < vs.length) : vs[k]? = some (vs.getD k .none) := by
  rw [List.getD_eq_getElem?_getD, List.getElem?_eq_getElem hk]; rfl
theorem one_set {ρc : List (Option V)} (h : ρc.length = 1) (v : V) : ρc.set 0 (some v) = [some v] := by
  obtain ⟨a, rfl⟩ := List.length_eq_one_iff.mp h
  rfl
theorem mid2 {p q : Addr × AO} {B A L : Led} : (B ++ (p :: q :: (A ++ L))).Perm (p :: q :: ((B ++ A) ++ L)) := by
  refine mid.trans (.cons _ (mid.trans (.cons _ ?_)))
  rw [List.append_assoc]
inductive MapOk (hb : HB) (w : World) (prog : Program) (n : Nat) (c : FC) (ρ : List (Option V)) (sc : Scope) (x : Str) (gl : List (Str × V)) (nd : [x].Nodup) (elt : Expr) (b : V) (L₀ : Led) (F : List V → Led → Prop) : Prop
  | mk (vs : List V) (P : Nat → List V → Led → Prop) (h0 : Seq L₀ b vs) (h1 : vs.length < 2 ^ 20) (h2 : P 0 [] []) (h3 : (∀ (k : Nat) (v : V) (ws : List V) (A : Led) (C acc : Addr), FOk (c.comp sc [x] nd gl [] C) → vs[k]? = some v → ws.length = k → P k ws A → EV hb w prog n (c.comp sc [x] nd gl [] C) [some v] ((acc, .list ws) :: c.fr ρ :: (A ++ L₀)) elt fun b L'' => ∃ B, L'' = B ++ ((acc, .list ws) :: c.fr ρ :: (A ++ L₀)) ∧ P (k + 1) (ws ++ [b]) (B ++ A))) (h4 : (∀ ws A, ws.length = vs.length → P vs.length ws A → F ws (A ++ L₀))) : MapOk hb w prog n c ρ sc x gl nd elt b L₀ F
theorem EV.map {x : Str} {px : Pos} {elt iter : Expr} {sc : Scope} {pos : Pos} {Q : V → Led → Prop} (gl : List (Str × V)) (ok : FOk c) (cs : CSOk sc [x] gl) (gv : ∀ p ∈ gl, GV p.1 p.2)
    (h : EV hb w prog n c ρ L iter fun b L₀ => MapOk hb w prog n c ρ sc x gl cs.nd elt b L₀ fun ws L' => ∀ r, Q (.ref r) ((r, .list ws) :: L'))
    (hcl : closureFor sc c.env = pure []) (hs : ∀ x, foldedSetIterable iter c.env x = pure x := by intro _; rfl) : EV hb w prog n c ρ L (.ListComp elt [⟨.Name x px, iter, [], 0⟩] sc pos) Q :=
  EV.comp 0 [x] gl [] ok cs gv rfl (AC.mono h fun b L' hh => by
    obtain ⟨L₀, e, vs, P, hseq, hlen, h0, turn, fin⟩ := hh
    obtain ⟨need, hsrc, hneed⟩ := hseq.src (hb := hb) (w := w) (prog := prog) (p := c.fr ρ)
    refine ⟨L₀, e, vs.length, _, need, fun k ws L' => ∃ A, L' = A ++ L₀ ∧ ws.length = k ∧ P k ws A, hsrc, hlen, ⟨[], rfl, rfl, h0⟩, ?_, ?_, ?_, ?_⟩
    · rintro k ws L' ⟨A, _, h, _⟩; lia
    · rintro k ws L' C ρc acc ⟨A, rfl, _, _⟩
      exact hneed _ fun p hp => .tail _ (.tail _ (.tail _ (List.mem_append_right _ hp)))
    · rintro k ws L' ρc C acc hρ hk ⟨A, rfl, hl, hP⟩
      rw [one_set hρ]
      exact AC.mono (turn k _ ws A C acc (cs.fok ok gv [] C) (getD_of hk) hl hP) fun b L' ⟨L'', e, B, eB, hB⟩ => ⟨L'', e, (B ++ A) ++ L₀, by rw [eB]; exact mid2, B ++ A, rfl, by rw [List.length_append, hl]; rfl, hB⟩
    · rintro ws L' ⟨A, rfl, hl, hP⟩
      exact fin ws A hl hP) hcl hs
theorem SV.map {y : Str} {iy : Nat} {py : Pos} {x : Str} {px : Pos} {elt iter : Expr} {sc : Scope} {pos spos : Pos} {rest : List Stmt} {Q : FlowA → List (Option V) → Led → Prop} (gl : List (Str × V)) (ok : FOk c) (hy : c.nm.l[iy]? = some y) (cs : CSOk sc [x] gl) (gv : ∀ p ∈ gl, GV p.1 p.2)
    (hsw : swapsWith (.ListComp elt [⟨.Name x px, iter, [], 0⟩] sc pos) (some (.Name y py)) spos.line c.env = pure true)
    (h : EV hb w prog n c ρ L iter fun b L₀ => MapOk hb w prog n c ρ sc x gl cs.nd elt b L₀ fun ws L' => ∀ r, SV hb w prog n c (ρ.set iy (some (.ref r))) ((r, .list ws) :: L') rest Q)
    (hcl : closureFor sc c.env = pure []) (hs : ∀ x, foldedSetIterable iter c.env x = pure x := by intro _; rfl) : SV hb w prog n c ρ L (.Assign [.Name y py] (.ListComp elt [⟨.Name x px, iter, [], 0⟩] sc pos) spos :: rest) Q :=
  SV.assignComp 0 [x] gl [] ok hy cs gv rfl hsw (AC.mono h fun b L' hh => by
    obtain ⟨L₀, e, vs, P, hseq, hlen, h0, turn, fin⟩ := hh
    obtain ⟨need, hsrc, hneed⟩ := hseq.src (hb := hb) (w := w) (prog := prog) (p := c.fr ρ)
    refine ⟨L₀, e, vs.length, _, need, fun k ws L' => ∃ A, L' = A ++ L₀ ∧ ws.length = k ∧ P k ws A, hsrc, hlen, ⟨[], rfl, rfl, h0⟩, ?_, ?_, ?_, ?_⟩
    · rintro k ws L' ⟨A, _, h, _⟩; omega
    · rintro k ws L' C ρc acc ⟨A, rfl, _, _⟩
      exact hneed _ fun p hp => .tail _ (.tail _ (.tail _ (List.mem_append_right _ hp)))
    · rintro k ws L' ρc C acc hρ hk ⟨A, rfl, hl, hP⟩
      rw [one_set hρ]
      exact AC.mono (turn k _ ws A C acc (cs.fok ok gv [] C) (getD_of hk) hl hP) fun b L' ⟨L'', e, B, eB, hB⟩ => ⟨L'', e, (B ++ A) ++ L₀, by rw [eB]; exact mid2, B ++ A, rfl, by rw [List.length_append, hl]; rfl, hB⟩
    · rintro ws L' ⟨A, rfl, hl, hP⟩
      exact fin ws A hl hP) hcl hs
end
set_option genInjectivity false in
structure MR where
  a : Addr
  d : Addr
  el : Addr
  kind : Int
  to : Int
  frm : Int
  term : Int
  log : Int
  index : Int
  es : List ER
  commit : Int
  sn : Option SR
  rej : Bool
  hint : Int
  ctx : Array UInt8
@[reducible] noncomputable def snV : Option SR → V
  | none => .none
  | some s => .ref s.a
theorem snV_plain : ∀ s : Option SR, (snV s).plain = true
  | none => rfl
  | some _ => rfl
@[reducible] noncomputable def MR.ao (m : MR) : Addr × AO := (m.a, .inst C_Message m.d [.int m.kind, .int m.to, .int m.frm, .int m.term, .int m.log, .int m.index, .ref m.el, .int m.commit, snV m.sn, .bool m.rej, .int m.hint, .bytes m.ctx])
structure MR.In (m : MR) (M : Led) : Prop where
  ao : m.ao ∈ M
  el : (m.el, AO.list (ers m.es)) ∈ M
  es : Has M m.es
  sn : ∀ s, m.sn = some s → s.In M
  len : m.es.length < 100
noncomputable def snTr : Option SR → Tr
  | none => .v .none
  | some s => s.tr
@[reducible] noncomputable def ER.tr (e : ER) : Tr := .t [.v (.int e.t), .v (.int e.i), .v (.int e.k), .v (.bytes e.b)]
@[reducible] noncomputable def MR.tr (m : MR) : Tr := .t [.v (.int m.kind), .v (.int m.to), .v (.int m.frm), .v (.int m.term), .v (.int m.log), .v (.int m.index), .t (m.es.map ER.tr), .v (.int m.commit), snTr m.sn, .v (.bool m.rej), .v (.int m.hint), .v (.bytes m.ctx)]
section
variable {hb : HB} {w : World} {prog : Program} {n : Nat} {M : Led} {Q : V → Led → Prop} {c : FC} {ρ : List (Option V)}
theorem ct_Message_init {a d : Addr} {k t f m : V} (q : ∀ el, Q .none ((el, .list []) :: (a, .inst C_Message d [k, t, f, m, .int 0, .int 0, .ref el, .int 0, .none, .bool false, .int 0, .bytes #[]]) :: M)) : CT hb w prog (n + 1) C_Message.fI [.ref a, k, t, f, m] ((a, .inst C_Message d []) :: M) Q := by
  refine CT.fn' (F := F_Message_init) (ρ := [some (.ref a), some k, some t, some f, some m]) F_Message_init_ok rfl rfl fun Lf ok => ?_
  walk_at "seta"
  walk_at "seta"
  walk_at "seta"
  walk_at "seta"
  walk_at "seta"
  walk_at "seta"
  refine SV.setattr' rfl (EV.list (AV.nil ⟨by decide, fun el => ⟨a, 1, d, C_Message, _, _, _, by walk_at "pv", rfl, by walk_at "pn", rfl, ?_⟩⟩))
  refine SV.from (L₀ := (el, .list []) :: (a, .inst C_Message d [k, t, f, m, .int 0, .int 0, .ref el]) :: M) (.refl _) ?_
  walk_at "seta"
  walk_at "seta"
  walk_at "seta"
  walk_at "seta"
  walk_at "seta"
  exact SV.nil (q el)
end
end
section
theorem Tr.In.lf {L : Led} {k : Nat} {x : V} (h : x.plain = true) : Tr.In L k (.v x) x := by cases k <;> exact ⟨rfl, h⟩
theorem All2.snoc {α β : Type} {R : α → β → Prop} {xs : List α} {ys : List β} {x : α} {y : β} (h : All2 R xs ys) (hx : R x y) : All2 R (xs ++ [x]) (ys ++ [y]) := by
  induction h with
  | nil => exact .cons hx .nil
  | cons h _ ih => exact .cons h ih
theorem ER.trIn {L : Led} {k : Nat} {e : ER} {r : Addr} (h : (r, AO.tup [.int e.t, .int e.i, .int e.k, .bytes e.b]) ∈ L) : Tr.In L (k + 1) e.tr (.ref r) :=
  ⟨r, _, rfl, h, .cons (.lf rfl) (.cons (.lf rfl) (.cons (.lf rfl) (.cons (.lf rfl) .nil)))⟩
theorem All2.len {α β : Type} {R : α → β → Prop} {xs : List α} {ys : List β} (h : All2 R xs ys) : xs.length = ys.length := by
  induction h with
  | nil => rfl
  | cons _ _ ih => simp [ih]
section
variable {hb : HB} {w : World} {prog : Program} {n : Nat} {M : Led} {Q : V → Led → Prop} {c : FC} {ρ : List (Option V)}
theorem Has.app {M : Led} {es : List ER} (h : Has M es) (A : Led) : Has (A ++ M) es := fun e he => ⟨(h e he).1, List.mem_append_right _ (h e he).2⟩
theorem Has.to {M M' : Led} {es : List ER} (h : Has M es) (s : ∀ p ∈ M, p ∈ M') : Has M' es := fun e he => ⟨(h e he).1, s _ (h e he).2⟩
theorem rowsMap {sc : Scope} {L₀ : Led} {l : Addr} {es : List ER} {nd : [("entry" : Str)].Nodup} {F : List V → Led → Prop} {p1 p2 p3 : Pos} (hl : (l, AO.list (ers es)) ∈ L₀) (hs : Has L₀ es) (hlen : es.length < 1000) {pl : Addr → Sem Bool} (hm : ∀ C, MethOk (.Name "entry" p1) "row" p2 p3 [] (c.comp sc ["entry"] nd [] [] C).env (pl C))
    (f : ∀ ws A, All2 (Tr.In (A ++ L₀) 1) (es.map ER.tr) ws → F ws (A ++ L₀)) : MapOk hb w prog (n + 1) c ρ sc "entry" [] nd (.Call (.Attribute (.Name "entry" p1) "row" p2) [] [] p3) (.ref l) L₀ F := by
  refine ⟨ers es, fun k ws A => All2 (Tr.In (A ++ L₀) 1) ((es.take k).map ER.tr) ws, .list hl, by simp; lia, .nil, ?_, ?_⟩
  · intro k v ws A C acc ok hv hk hP
    rw [List.getElem?_map] at hv
    obtain ⟨e, he, rfl⟩ := Option.map_eq_some_iff.mp hv
    have htake : es.take (k + 1) = es.take k ++ [e] := by rw [List.take_add_one, he]; rfl
    obtain ⟨i, hi⟩ := hs.at (List.mem_of_getElem? he)
    have hi' : At ((acc, AO.list ws) :: c.fr ρ :: (A ++ L₀)) (A.length + i + 1 + 1) e.ao := At.tl (At.tl hi.app)
    refine EV.methP0 (j := 0) (by walk_at "pv") hi' rfl (hm C) (ct_Entry_row (At.tl hi') fun r => ⟨(r, .tup [.int e.t, .int e.i, .int e.k, .bytes e.b]) :: (acc, .list ws) :: c.fr ρ :: (A ++ L₀), .swap .., [(r, .tup [.int e.t, .int e.i, .int e.k, .bytes e.b])], rfl, ?_⟩)
    show All2 _ ((es.take (k + 1)).map ER.tr) _
    rw [htake, List.map_append]
    exact (hP.mono fun x y h => h.sub fun p hp => .tail _ hp).snoc (ER.trIn (.head _))
  · intro ws A _ hP
    have hP : All2 _ ((es.take (ers es).length).map ER.tr) _ := hP
    rw [List.length_map, List.take_length] at hP
    exact f ws A hP
theorem ct_Message_row {m : MR} (h : m.In M) (so : ∀ s, m.sn = some s → s.c.Ok) (q : ∀ (A : Led) (r : Addr), Tr.In (A ++ M) 4 m.tr (.ref r) → Q (.ref r) (A ++ M)) : CT hb w prog (n + 3) 483 [.ref m.a] M Q := by
  obtain ⟨a, d, el, kind, to, frm, term, log, index, es, commit, sn, rej, hint, ctx⟩ := m
  obtain ⟨hao, hel, hes, hsn, hlen⟩ := h
  refine (At.of hao).elim fun i0 h0 => ?_
  refine CT.fn' (F := F_Message_row) (ρ := [some (.ref a), none, none]) F_Message_row_ok rfl rfl fun Lf ok => ?_
  refine SV.assign' ok rfl (EV.callt (f := "tuple") (by walk_at "pv") (AV.cons (EV.map [] ok (CSOk.of (by kernel_rfl)) gv_nil (EV.of (v := .ref el) (by walk_at "pv") (rowsMap hel hes (by lia) (fun C => rfl) fun ws A hws r => AV.nil (CX.tupleList (i := 1) rfl ?_ fun t => ⟨(t, .tup ws) :: (r, .list ws) :: (A ++ M), .swap .., _, by walk_at "sto", ?_⟩))) rfl)))
  · have := hws.len; rw [List.length_map] at this; rw [← this]; exact Nat.lt_trans hlen (by decide)
  refine SV.from (L₀ := ((t, .tup ws) :: (r, .list ws) :: A) ++ M) (.refl _) ?_
  have hent : ∀ B : Led, Tr.In (B ++ (((t, .tup ws) :: (r, .list ws) :: A) ++ M)) 3 (.t (es.map ER.tr)) (.ref t) := fun B =>
    ⟨t, ws, rfl, List.mem_append_right _ (.head _), (hws.mono fun x y h => h.up.sub fun p hp => List.mem_append_right _ (.tail _ (.tail _ hp)))⟩
  generalize (t, AO.tup ws) :: (r, AO.list ws) :: A = A₁ at hent ⊢
  have hm : At (A₁ ++ M) (A₁.length + i0) _ := h0.app
  walk_at "set"
  cases sn with
  | none =>
    refine SV.ifF id (PT.notNoneF (by walk_at "pv")) ?_
    refine SV.ret (EV.tuple (PVL.av (vs := [.int kind, .int to, .int frm, .int term, .int log, .int index, .ref t, .int commit, .none, .bool rej, .int hint, .bytes ctx]) (by walk_at "pvl") ⟨by simp, fun r' => ?_⟩))
    refine q ((r', _) :: A₁) r' ⟨r', _, rfl, .head _, ?_⟩
    exact .cons (.lf rfl) (.cons (.lf rfl) (.cons (.lf rfl) (.cons (.lf rfl) (.cons (.lf rfl) (.cons (.lf rfl) (.cons (hent [_]) (.cons (.lf rfl) (.cons (.lf rfl) (.cons (.lf rfl) (.cons (.lf rfl) (.cons (.lf rfl) .nil)))))))))))
  | some s =>
    have hs := hsn s rfl
    refine (At.of hs.ao).elim fun is his => ?_
    have his' : At (A₁ ++ M) (A₁.length + is) s.ao := his.app
    refine SV.ifT trivial (PT.notNoneT (v := .ref s.a) (by walk_at "pv") rfl rfl) ?_
    refine SV.assign' ok rfl (EV.methP0 (i := A₁.length + is) (j := 0) (a := s.a) (d := s.d) (k := C_Snapshot) (by walk_at "pv") his' rfl rfl (ct_Snapshot_row (k := s) (hs.sub fun p hp => .tail _ (List.mem_append_right _ hp)) (so s rfl) fun B r₂ hr₂ => ⟨B ++ (A₁ ++ M), mid, _, by walk_at "sto", SV.nil ?_⟩))
    have hm₂ : At (B ++ (A₁ ++ M)) (B.length + (A₁.length + i0)) _ := hm.app
    have hr₃ := hr₂.fr
    refine SV.ret (EV.tuple (PVL.av (vs := [.int kind, .int to, .int frm, .int term, .int log, .int index, .ref t, .int commit, .ref r₂, .bool rej, .int hint, .bytes ctx]) (by walk_at "pvl") ⟨by simp, fun r' => ?_⟩))
    have e : ∀ p : Addr × AO, p :: (B ++ (A₁ ++ M)) = (p :: (B ++ A₁)) ++ M := fun p => by simp
    rw [e]
    refine q ((r', _) :: (B ++ A₁)) r' ⟨r', _, rfl, .head _, ?_⟩
    rw [← e]
    exact .cons (.lf rfl) (.cons (.lf rfl) (.cons (.lf rfl) (.cons (.lf rfl) (.cons (.lf rfl) (.cons (.lf rfl) (.cons (hent (_ :: B)) (.cons (.lf rfl) (.cons (hr₃.sub fun p hp => .tail _ hp) (.cons (.lf rfl) (.cons (.lf rfl) (.cons (.lf rfl) .nil)))))))))))
end
end
section
theorem ls_app {B L L' : Led} {i : Nat} {p : Addr × AO} (h : LSet L i p L') : LSet (B ++ L) (B.length + i) p (B ++ L') := by
  unfold LSet at *; subst h
  rw [List.set_append_right _ _ (by lia)]; congr 2; lia
section
variable {hb : HB} {w : World} {prog : Program} {n : Nat} {M : Led} {Q : V → Led → Prop} {c : FC} {ρ : List (Option V)}
theorem copiesMap {sc : Scope} {L₀ : Led} {l : Addr} {es : List ER} {nd : [("entry" : Str)].Nodup} {F : List V → Led → Prop} {p1 p2 p3 : Pos} (hl : (l, AO.list (ers es)) ∈ L₀) (hs : Has L₀ es) (hlen : es.length < 1000)
    {pl : Addr → Sem Bool} (hm : ∀ C, MethOk (.Name "entry" p1) "copy" p2 p3 [] (c.comp sc ["entry"] nd [] [] C).env (pl C))
    (f : ∀ es' A, Has A es' → es'.map ER.tr = es.map ER.tr → F (ers es') (A ++ L₀)) : MapOk hb w prog (n + 3) c ρ sc "entry" [] nd (.Call (.Attribute (.Name "entry" p1) "copy" p2) [] [] p3) (.ref l) L₀ F := by
  refine ⟨ers es, fun k ws A => ∃ es', ws = ers es' ∧ Has A es' ∧ es'.map ER.tr = (es.take k).map ER.tr, .list hl, by simp; lia, ⟨[], rfl, (fun _ h => nomatch h), rfl⟩, ?_, ?_⟩
  · rintro k v ws A C acc ok hv hk ⟨es', rfl, hes', htr⟩
    rw [List.getElem?_map] at hv
    obtain ⟨e, he, rfl⟩ := Option.map_eq_some_iff.mp hv
    have htake : es.take (k + 1) = es.take k ++ [e] := by rw [List.take_add_one, he]; rfl
    obtain ⟨i, hi⟩ := hs.at (List.mem_of_getElem? he)
    have hi' : At ((acc, AO.list (ers es')) :: c.fr ρ :: (A ++ L₀)) (A.length + i + 1 + 1) e.ao := At.tl (At.tl hi.app)
    have eo := (hs e (List.mem_of_getElem? he)).1
    refine EV.methP0 (j := 1) (by walk_at "pv") hi' rfl (hm C) (ct_Entry_copy (At.tl hi') fun a' d' => ⟨(a', .inst C_Entry d' [.int e.t, .int e.i, .int e.k, .bytes e.b]) :: (acc, .list (ers es')) :: c.fr ρ :: (A ++ L₀), .swap .., [(a', .inst C_Entry d' [.int e.t, .int e.i, .int e.k, .bytes e.b])], rfl, es' ++ [⟨a', d', e.t, e.i, e.k, e.b⟩], by simp [ers], ?_, ?_⟩)
    · intro e' he'
      rcases List.mem_append.mp he' with h | h
      · exact ⟨(hes' e' h).1, .tail _ (hes' e' h).2⟩
      · rw [List.mem_singleton.mp h]; exact ⟨⟨eo.t, eo.i, eo.k, eo.b⟩, .head _⟩
    · rw [htake, List.map_append, List.map_append, htr]; rfl
  · rintro ws A _ ⟨es', rfl, hes', htr⟩
    rw [List.length_map, List.take_length] at htr
    exact f es' A hes' htr
theorem ct_Message_copy {m : MR} (h : m.In M) (so : ∀ s, m.sn = some s → s.c.Ok) (q : ∀ (A : Led) (m' : MR), m'.In A → m'.tr = m.tr → m'.sn.isSome = m.sn.isSome → (∀ s, m'.sn = some s → s.c.Ok) → m'.es.map ER.tr = m.es.map ER.tr → Q (.ref m'.a) (A ++ M)) : CT hb w prog (n + 7) 488 [.ref m.a] M Q := by
  obtain ⟨a, d, el, kind, to, frm, term, log, index, es, commit, sn, rej, hint, ctx⟩ := m
  obtain ⟨hao, hel, hes, hsn, hlen⟩ := h
  refine (At.of hao).elim fun i0 h0 => ?_
  refine CT.fn' (F := F_Message_copy) (ρ := [some (.ref a), none]) F_Message_copy_ok rfl rfl fun Lf ok => ?_
  refine SV.assign' ok rfl (EV.callC (vs := [.int kind, .int to, .int frm, .int term]) C_Message (by walk_at "pv") (by walk_at "pvl") rfl rfl fun a' d' => ct_Message_init fun el₀ => ⟨rfl, _, mid (A := [(el₀, .list []), (a', .inst C_Message d' [.int kind, .int to, .int frm, .int term, .int 0, .int 0, .ref el₀, .int 0, .none, .bool false, .int 0, .bytes #[]])]), _, by walk_at "sto", ?_⟩)
  refine SV.from (L₀ := (a', .inst C_Message d' [.int kind, .int to, .int frm, .int term, .int 0, .int 0, .ref el₀, .int 0, .none, .bool false, .int 0, .bytes #[]]) :: (el₀, .list []) :: M) (.swap ..) ?_
  walk_at "seta"
  walk_at "seta"
  refine SV.setattr' rfl (EV.map [] ok (CSOk.of (by kernel_rfl)) gv_nil (EV.of (v := .ref el) (by walk_at "pv") (copiesMap (.tail _ (.tail _ hel)) ((hes.cons _).cons _) (by lia) (fun C => rfl) fun es' B hes' htr r => ⟨a', _, d', C_Message, _, _, _, by walk_at "pv", At.tl (At.app At.hd), by walk_at "pn", ls_tl (ls_app ls_hd), ?_⟩)) rfl)
  have hlen' : es'.length = es.length := by have := congrArg List.length htr; simpa using this
  refine SV.from (L₀ := (a', .inst C_Message d' [.int kind, .int to, .int frm, .int term, .int log, .int index, .ref r, .int 0, .none, .bool false, .int 0, .bytes #[]]) :: (((r, .list (ers es')) :: (el₀, .list []) :: B) ++ M)) (by dsimp only; walk_at "perm") ?_
  have hr : (r, AO.list (ers es')) ∈ (r, AO.list (ers es')) :: (el₀, .list []) :: B := .head _
  have hes₁ : Has ((r, AO.list (ers es')) :: (el₀, .list []) :: B) es' := (hes'.cons _).cons _
  generalize (r, AO.list (ers es')) :: (el₀, .list []) :: B = B₁ at hr hes₁ ⊢
  have hm : At (B₁ ++ M) (B₁.length + i0) _ := h0.app
  walk_at "seta"
  cases sn with
  | none =>
    refine SV.ifF id (PT.notNoneF (by walk_at "pv")) ?_
    walk_at "seta"
    walk_at "seta"
    walk_at "seta"
    refine SV.ret (EV.of (v := .ref a') (by walk_at "pv") ?_)
    refine q ((a', _) :: B₁) ⟨a', d', r, kind, to, frm, term, log, index, es', commit, none, rej, hint, ctx⟩ ⟨.head _, .tail _ hr, hes₁.cons _, (fun s h => nomatch h), by show es'.length < 100; rw [hlen']; exact hlen⟩ ?_ rfl (fun s h => nomatch h) htr
    simp only [MR.tr, htr]
  | some s =>
    have hs := hsn s rfl
    refine (At.of hs.ao).elim fun is his => ?_
    have his' : At (B₁ ++ M) (B₁.length + is) s.ao := his.app
    refine SV.ifT trivial (PT.notNoneT (v := .ref s.a) (by walk_at "pv") rfl rfl) ?_
    refine SV.setattr' rfl (EV.methP0 (i := B₁.length + is + 1) (j := 2) (a := s.a) (d := s.d) (k := C_Snapshot) (by walk_at "pv") his' rfl rfl (ct_Snapshot_copy (k := s) (hs.sub fun p hp => .tail _ (.tail _ (List.mem_append_right _ hp))) (so s rfl) fun k' e1 e2 e3 e4 e5 e6 e7 e8 => ⟨k'.led ++ (_ :: (B₁ ++ M)), mid, a', _, d', C_Message, _, _, _, by walk_at "pv", At.app At.hd, by walk_at "pn", ls_app ls_hd, SV.nil ?_⟩))
    refine SV.from (L₀ := (a', .inst C_Message d' [.int kind, .int to, .int frm, .int term, .int log, .int index, .ref r, .int commit, .ref k'.a, .bool false, .int 0, .bytes #[]]) :: ((k'.led ++ B₁) ++ M)) (by dsimp only; walk_at "perm") ?_
    have hk : k'.In (k'.led ++ B₁) := ⟨List.mem_append_left _ (.head _), fun p hp => List.mem_append_left _ (.tail _ hp)⟩
    have hr₂ : (r, AO.list (ers es')) ∈ k'.led ++ B₁ := List.mem_append_right _ hr
    have hes₂ := hes₁.app k'.led
    have hko : k'.c.Ok := ⟨e4 ▸ (so s rfl).vs, e5 ▸ (so s rfl).ls, e6 ▸ (so s rfl).os, e7 ▸ (so s rfl).ns⟩
    have hktr : k'.tr = s.tr := by simp only [SR.tr, CR.tr, e1, e2, e3, e4, e5, e6, e7, e8]
    generalize k'.led ++ B₁ = B₂ at hk hr₂ hes₂ ⊢
    have hm₂ : At (B₂ ++ M) (B₂.length + i0) _ := h0.app
    walk_at "seta"
    walk_at "seta"
    walk_at "seta"
    refine SV.ret (EV.of (v := .ref a') (by walk_at "pv") ?_)
    refine q ((a', _) :: B₂) ⟨a', d', r, kind, to, frm, term, log, index, es', commit, some k', rej, hint, ctx⟩ ⟨.head _, .tail _ hr₂, hes₂.cons _, (fun s h => by cases h; exact hk.cons _), by show es'.length < 100; rw [hlen']; exact hlen⟩ ?_ rfl (fun s h => by cases h; exact hko) htr
    simp only [MR.tr, htr, snTr, hktr]
end
end
section
noncomputable def szE (e : ER) : Int := vl e.sz + e.sz
noncomputable def sumz (es : List ER) : Int := (es.map szE).sum
theorem ER.sz_bounds {e : ER} (h : e.b.size < 1000) : 0 ≤ e.sz ∧ e.sz ≤ 1040 := by
  have := vl_bounds e.t; have := vl_bounds e.i; have := vl_bounds e.k; have := vl_bounds e.b.size
  show 0 ≤ esz _ _ _ _ ∧ esz _ _ _ _ ≤ _
  unfold esz; omega
theorem sumz_bounds : ∀ {es : List ER}, (∀ e ∈ es, e.Ok) → 0 ≤ sumz es ∧ sumz es ≤ 1050 * es.length
  | [], _ => by simp [sumz]
  | e :: es, h => by
    have := sumz_bounds (es := es) fun e he => h e (.tail _ he)
    have := ER.sz_bounds (h e (.head _)).b
    have := vl_bounds e.sz
    unfold sumz szE at *
    simp only [List.map_cons, List.sum_cons, List.length_cons]
    omega
noncomputable def snz : Option SR → Int
  | none => 0
  | some s => vl s.z + s.z
noncomputable def MR.z (m : MR) : Int := vl m.kind + vl m.to + vl m.frm + vl m.term + vl m.log + vl m.index + vl m.commit + vl m.hint + 1 + vl m.es.length + sumz m.es + 1 + snz m.sn + (vl m.ctx.size + m.ctx.size)
noncomputable abbrev N64 (x : Int) : Prop := 0 ≤ x ∧ x < 18446744073709551616
structure MR.Num (m : MR) : Prop where
  kind : N64 m.kind
  to : N64 m.to
  frm : N64 m.frm
  term : N64 m.term
  log : N64 m.log
  index : N64 m.index
  commit : N64 m.commit
  hint : N64 m.hint
  sn : ∀ s, m.sn = some s → s.Num
  ctx : m.ctx.size < 1000
  len : m.es.length < 50
theorem SR.z_bounds {s : SR} (h : s.Num) : 0 ≤ s.z ∧ s.z ≤ 3700 := by
  have := CR.z_bounds h.c
  have := vl_bounds s.i; have := vl_bounds s.t; have := vl_bounds s.c.z; have := vl_bounds s.b.size
  have := h.b
  unfold SR.z; omega
section
variable {hb : HB} {w : World} {prog : Program} {n : Nat} {M : Led} {Q : V → Led → Prop} {c : FC} {ρ : List (Option V)}
theorem ct_encode_message {m : MR} (h : m.In M) (mo : m.Num) (q : ∀ b : Array UInt8, (b.size : Int) = m.z → Q (.bytes b) M) : CT hb w prog (n + 8) 502 [.ref m.a] M Q := by
  obtain ⟨a, d, el, kind, to, frm, term, log, index, es, commit, sn, rej, hint, ctx⟩ := m
  obtain ⟨hao, hel, hes, hsn, hlen⟩ := h
  obtain ⟨k1, k2, k3, k4, k5, k6, k7, k8, k9, k10, k11⟩ := mo
  refine (At.of hao).elim fun i0 h0 => ?_
  refine (At.of hel).elim fun i1 h1 => ?_
  refine CT.drop (CT.fn' (F := F_encode_message) (ρ := [some (.ref a), none, none]) F_encode_message_ok rfl rfl fun Lf ok => ?_)
  have sb := sumz_bounds (es := es) fun e he => (hes e he).1
  refine SV.assign' ok rfl (EV.callC0 C_Sink (by walk_at "pv") fun sa sd => ct_Sink_init fun r => ⟨rfl, ⟨sk sa sd r #[] M, mid (A := siO sa sd r #[]), _, by walk_at "sto", ?_⟩⟩)
  refine SV.sinkV (n := n + 4) .nil (by walk_at "pv") (by walk_at "pv") k1 rfl rfl rfl rfl rfl (by decide) fun b1 e1 => ?_
  refine SV.sinkV (n := n + 4) e1 (by walk_at "pv") (by walk_at "pv") k2 rfl rfl rfl rfl rfl (by decide) fun b2 e2 => ?_
  refine SV.sinkV (n := n + 4) e2 (by walk_at "pv") (by walk_at "pv") k3 rfl rfl rfl rfl rfl (by decide) fun b3 e3 => ?_
  refine SV.sinkV (n := n + 4) e3 (by walk_at "pv") (by walk_at "pv") k4 rfl rfl rfl rfl rfl (by decide) fun b4 e4 => ?_
  refine SV.sinkV (n := n + 4) e4 (by walk_at "pv") (by walk_at "pv") k5 rfl rfl rfl rfl rfl (by decide) fun b5 e5 => ?_
  refine SV.sinkV (n := n + 4) e5 (by walk_at "pv") (by walk_at "pv") k6 rfl rfl rfl rfl rfl (by decide) fun b6 e6 => ?_
  refine SV.sinkV (n := n + 4) e6 (by walk_at "pv") (by walk_at "pv") k7 rfl rfl rfl rfl rfl (by decide) fun b7 e7 => ?_
  refine SV.sinkV (n := n + 4) e7 (by walk_at "pv") (by walk_at "pv") k8 rfl rfl rfl rfl rfl (by decide) fun b8 e8 => ?_
  refine SV.sinkF (n := n + 6) e8 (by walk_at "pv") (by walk_at "pv") rfl rfl rfl rfl rfl (by decide) fun b9 e9 => ?_
  have hl : (ers es).length < 2 ^ 40 := by simp only [List.length_map]; exact Nat.lt_trans hlen (by decide)
  have hl2 : (ers es).length = es.length := List.length_map ..
  refine SV.sinkV (n := n + 4) e9 (by walk_at "pv") (by walk_at "pv") ⟨Int.natCast_nonneg _, Int.ofNat_lt.mpr (hl2 ▸ Nat.lt_trans k11 (by decide))⟩ rfl rfl rfl rfl rfl (by decide) fun b10 e10 => ?_
  rw [hl2] at e10
  refine SV.forList (ix := 2) ok rfl (EV.of (v := .ref el) (by walk_at "pv") ⟨el, ers es, fun k ρ' L' => k ≤ es.length ∧ (∃ o, ρ' = [some (.ref a), some (.ref sa), o]) ∧ ∃ b' : Array UInt8, L' = sk sa sd r b' M ∧ (b'.size : Int) = b10.size + sumz (es.take k), rfl, ?_, ?_, ?_, ?_⟩)
  · exact ⟨Nat.zero_le _, ⟨none, rfl⟩, b10, rfl, by simp [sumz]⟩
  · rintro k ρ' L' ⟨_, _, b', rfl, _⟩
    exact ⟨i1 + 2, h1⟩
  · rintro k v ρ' L' hv ⟨hk, ⟨o, rfl⟩, b', rfl, hb'⟩
    rw [List.getElem?_map] at hv
    obtain ⟨e, he, rfl⟩ := Option.map_eq_some_iff.mp hv
    have hk' : k < es.length := (List.getElem?_eq_some_iff.mp he).1
    have htake : es.take (k + 1) = es.take k ++ [e] := by rw [List.take_add_one, he]; rfl
    have hb2 := sumz_bounds (es := es.take k) fun e he => (hes e (List.mem_of_mem_take he)).1
    have hlt : (es.take k).length ≤ 50 := by rw [List.length_take]; exact Nat.le_trans (Nat.min_le_right ..) (Nat.le_of_lt k11)
    have hmem := List.mem_of_getElem? he
    show SV _ w prog (n + 7) _ [some (.ref a), some (.ref sa), some (.ref e.a)] _ _ _
    have hz : Sz b' (b10.size + sumz (es.take k)) 60000 := ⟨hb', by have := e10.e; have := e10.l; clear hb' e10 sb; lia⟩
    refine SV.sinkX (n := n + 4) hz (by walk_at "pv") (fun f => EV.callP (vs := [.ref e.a]) (by walk_at "pv") F_encode_entry_keep (by walk_at "pvl") rfl rfl (ct_encode_entry (e := e) (.tail _ (.tail _ (.tail _ (hes e hmem).2))) (hes e hmem).1 fun b eb => ⟨sk sa sd r b' M, .refl _, f b ⟨eb, (ER.sz_bounds (hes e hmem).1.b).2⟩⟩)) rfl rfl rfl rfl rfl (by decide) (by decide) fun b'' e'' => ?_
    refine SV.nil ⟨hk', ⟨some (.ref e.a), rfl⟩, b'', rfl, ?_⟩
    rw [e''.e, Int.add_assoc, htake]
    simp [sumz, szE]
  rintro ρ' L' ⟨_, ⟨o, rfl⟩, b11, rfl, e11⟩
  rw [List.length_map, List.take_length] at e11
  have e11 : Sz b11 _ _ := e10.add (K := 52500) e11 (by have : es.length < 50 := k11; clear e11 e10; lia)
  clear e10 e9 e8 e7 e6 e5 e4 e3 e2 e1
  cases sn with
  | none =>
    refine SV.sinkF (n := n + 6) e11 (by walk_at "pv") (PV.cmp' (a := .none) (v := .bool false) (by walk_at "pv") PV.none (PO.isNotNone (a := .none) rfl) rfl) rfl rfl rfl rfl rfl (by decide) fun b12 e12 => ?_
    refine SV.ifF id (PT.notNoneF (by walk_at "pv")) ?_
    refine SV.sinkB (n := n + 4) e12 (by walk_at "pv") (by walk_at "pv") k10 rfl rfl rfl rfl rfl (by decide) fun b13 e13 => ?_
    exact SV.sinkR (n := n + 6) e13 (by walk_at "pv") rfl (by decide) ⟨M, sk_sub, q b13 (by rw [e13.e, Int.zero_add]; show _ + _ = _ + (0 : Int) + _; rw [Int.add_zero])⟩
  | some s =>
    have hs := hsn s rfl
    have ko := k9 s rfl
    refine (At.of hs.ao).elim fun is his => ?_
    refine SV.sinkF (n := n + 6) e11 (by walk_at "pv") (PV.cmp' (a := .ref s.a) (by walk_at "pv") PV.none (PO.isNotNone rfl) rfl) rfl rfl rfl rfl rfl (by decide) fun b12 e12 => ?_
    refine SV.ifT trivial (PT.notNoneT (v := .ref s.a) (by walk_at "pv") rfl rfl) ?_
    refine SV.sinkX (n := n + 4) e12 (by walk_at "pv") (fun f => EV.callP (vs := [.ref s.a]) (by walk_at "pv") F_encode_snapshot_keep (by walk_at "pvl") rfl rfl (ct_encode_snapshot (hs.sub fun p hp => .tail _ (.tail _ (.tail _ hp))) ko fun b e => ⟨sk sa sd r b12 M, .refl _, f b ⟨e, (SR.z_bounds ko).2⟩⟩)) rfl rfl rfl rfl rfl (by decide) (by decide) fun b13 e13 => SV.nil ?_
    refine SV.sinkB (n := n + 4) e13 (by walk_at "pv") (by walk_at "pv") k10 rfl rfl rfl rfl rfl (by decide) fun b14 e14 => ?_
    exact SV.sinkR (n := n + 6) e14 (by walk_at "pv") rfl (by decide) ⟨M, sk_sub, q b14 (by rw [e14.e, Int.zero_add]; rfl)⟩
end
end
section
set_option genInjectivity false in
structure LG where
  la : Addr
  ld : Addr
  ua : Addr
  ud : Addr
  ul : Addr
  sa : Addr
  sd : Addr
  el : Addr
  mx : Int
  cm : Int
  ap : Int
  fold : Int
  bt : Int
  hd : V
  cf : V
  sn : SR
  es : List ER
  junk : List ER
  κ : Nat
@[reducible] noncomputable def LG.us (g : LG) : List ER := g.es.drop g.κ
@[reducible] noncomputable def LG.ss (g : LG) : List ER := g.es.take g.κ ++ g.junk
@[reducible] noncomputable def LG.off (g : LG) : Int := g.fold + g.κ + 1
@[reducible] noncomputable def LG.lao (g : LG) : Addr × AO := (g.la, .inst C_RaftLog g.ld [.ref g.sa, .int g.mx, .ref g.ua, .int g.cm, .int g.ap])
@[reducible] noncomputable def LG.uao (g : LG) : Addr × AO := (g.ua, unO g.ud g.ul g.off)
@[reducible] noncomputable def LG.ull (g : LG) : Addr × AO := (g.ul, .list (ers g.us))
@[reducible] noncomputable def LG.sao (g : LG) : Addr × AO := (g.sa, msO g.sd g.hd g.cf (.ref g.sn.a) g.fold g.bt g.el)
@[reducible] noncomputable def LG.ell (g : LG) : Addr × AO := (g.el, .list (ers g.ss))
structure LG.Ok (g : LG) : Prop where
  κ : g.κ ≤ g.es.length
  j : g.κ = g.es.length → g.junk = []
  len : g.es.length < 50
  jl : g.junk.length < 50
  fold : 1 ≤ g.fold ∧ g.fold < 1000000
  si : g.sn.i = g.fold
structure LG.In (g : LG) (M : Led) : Prop extends LG.Ok g where
  lao : g.lao ∈ M
  uao : g.uao ∈ M
  ull : g.ull ∈ M
  sao : g.sao ∈ M
  ell : g.ell ∈ M
  es : Has M g.es
  jk : Has M g.junk
  sn : g.sn.In M
theorem LG.In.sub {g : LG} {M M' : Led} (h : g.In M) (s : ∀ p ∈ M, p ∈ M') : g.In M' := ⟨h.toOk, s _ h.lao, s _ h.uao, s _ h.ull, s _ h.sao, s _ h.ell, h.es.to s, h.jk.to s, h.sn.sub s⟩
theorem LG.In.cons {g : LG} {M : Led} (h : g.In M) (p : Addr × AO) : g.In (p :: M) := h.sub fun _ hq => .tail _ hq
theorem LG.Ok.usl {g : LG} (h : g.Ok) : g.us.length < 1000 := by have := h.len; simp; omega
theorem LG.Ok.ssl {g : LG} (h : g.Ok) : g.ss.length < 1000 := by have := h.len; have := h.jl; simp; lia
theorem LG.In.hus {g : LG} {M : Led} (h : g.In M) : Has M g.us := h.es.sub fun e he => List.mem_of_mem_drop he
theorem LG.In.hss {g : LG} {M : Led} (h : g.In M) : Has M g.ss := fun e he => by
  rcases List.mem_append.mp he with q | q
  · exact h.es e (List.mem_of_mem_take q)
  · exact h.jk e q
structure LG.Ats (g : LG) (M : Led) (i0 i1 i2 i3 i4 : Nat) : Prop where
  lao : At M i0 g.lao
  uao : At M i1 g.uao
  ull : At M i2 g.ull
  sao : At M i3 g.sao
  ell : At M i4 g.ell
theorem LG.In.ats {g : LG} {M : Led} (h : g.In M) : ∃ i0 i1 i2 i3 i4, g.Ats M i0 i1 i2 i3 i4 := by
  refine (At.of h.lao).elim fun i0 h0 => ?_
  refine (At.of h.uao).elim fun i1 h1 => ?_
  refine (At.of h.ull).elim fun i2 h2 => ?_
  refine (At.of h.sao).elim fun i3 h3 => ?_
  refine (At.of h.ell).elim fun i4 h4 => ?_
  exact ⟨i0, i1, i2, i3, i4, h0, h1, h2, h3, h4⟩
section
variable {hb : HB} {w : World} {prog : Program} {n : Nat} {M : Led} {Q : V → Led → Prop} {c : FC} {ρ : List (Option V)}
theorem ct_rl_first {g : LG} (h : g.In M) (q : Q (.int (g.fold + 1)) M) : CT hb w prog (n + 2) 712 [.ref g.la] M Q := by
  obtain ⟨i0, i1, i2, i3, i4, ⟨h0, h1, h2, h3, h4⟩⟩ := h.ats
  refine CT.fn' (F := F_RaftLog_first_index) (ρ := [some (.ref g.la), none]) F_RaftLog_first_index_ok rfl rfl fun Lf ok => ?_
  refine SV.assignP (b := .none) ok (PV.methF0 (j := 0) (by walk_at "pv") h1 rfl rfl fun Q q => ct_un_maybe_first (At.tl h1) q) rfl (by walk_at "sto") ?_
  refine SV.ifF id (PT.notNoneF (by walk_at "pv")) ?_
  exact SV.ret (EV.of (PV.methF0 (j := 0) (by walk_at "pv") h3 rfl rfl fun Q q => ct_ms_first (At.tl h3) q) q)
theorem ct_rl_last {g : LG} (h : g.In M) (q : Q (.int (g.fold + g.es.length)) M) : CT hb w prog (n + 2) 719 [.ref g.la] M Q := by
  obtain ⟨i0, i1, i2, i3, i4, ⟨h0, h1, h2, h3, h4⟩⟩ := h.ats
  have hk := h.κ
  refine CT.fn' (F := F_RaftLog_last_index) (ρ := [some (.ref g.la), none]) F_RaftLog_last_index_ok rfl rfl fun Lf ok => ?_
  refine SV.assignP (b := ulast g.off g.us) ok (PV.methF0 (j := 1) (by walk_at "pv") h1 rfl rfl fun Q q => ct_un_maybe_last (At.tl h1) (At.tl h2) h.usl q) rfl (by walk_at "sto") ?_
  unfold ulast
  by_cases he : g.us = []
  · rw [if_pos he]
    have hk' : g.κ = g.es.length := by have := congrArg List.length he; simp at this; walk_at "lia"
    refine SV.ifF id (PT.notNoneF (by walk_at "pv")) ?_
    refine SV.ret (EV.of (PV.methF0 (j := 1) (by walk_at "pv") h3 rfl rfl fun Q q => ct_ms_last (At.tl h3) (At.tl h4) h.ssl q) ?_)
    have e : g.ss.length = g.es.length := by simp [LG.ss, h.j hk', hk']
    rw [e]; exact q
  · rw [if_neg he]
    have e : g.off + (g.us.length : Int) - 1 = g.fold + g.es.length := by simp only [LG.off, LG.us, List.length_drop]; walk_at "lia"
    rw [e]
    refine SV.ifT trivial (PT.notNoneT (v := .int (g.fold + g.es.length)) (by walk_at "pv") rfl rfl) ?_
    exact SV.ret (EV.of (by walk_at "pv") q)
theorem ct_rl_term {g : LG} (h : g.In M) (q : Q (.int g.bt) M) : CT hb w prog (n + 4) 733 [.ref g.la, .int g.fold] M Q := by
  obtain ⟨i0, i1, i2, i3, i4, ⟨h0, h1, h2, h3, h4⟩⟩ := h.ats
  refine CT.fn' (F := F_RaftLog_term) (ρ := [some (.ref g.la), some (.int g.fold), none]) F_RaftLog_term_ok rfl rfl fun Lf ok => ?_
  have eu : uterm g.off g.us g.fold = .none := by unfold uterm; rw [if_neg (by simp only [LG.off]; walk_at "lia")]
  refine SV.assignP (b := .none) ok (PV.methF (j := 2) (vs' := [.int g.fold]) (by walk_at "pv") h1 rfl (by walk_at "pvl") rfl rfl rfl fun Q q => ct_un_maybe_term (At.tl h1) (At.tl h2) (h.hus.cons _) h.usl (by rw [eu]; exact q)) rfl (by walk_at "sto") ?_
  refine SV.ifF id (PT.notNoneF (by walk_at "pv")) ?_
  refine SV.ifF (p := g.fold + 1 < g.fold + 1) (by walk_at "lia") (PT.cmp' (by walk_at "pv") (PV.methF0 (j := 0) (by walk_at "pv") h0 rfl rfl fun Q q => ct_rl_first (h.cons _) q) (by walk_at "op") rfl) ?_
  refine SV.ifF (p := g.fold + g.es.length < g.fold) (by walk_at "lia") (PT.cmp' (by walk_at "pv") (PV.methF0 (j := 1) (by walk_at "pv") h0 rfl rfl fun Q q => ct_rl_last (h.cons _) q) (by walk_at "op") rfl) ?_
  refine SV.ret (EV.of (PV.methF (j := 3) (vs' := [.int g.fold]) (by walk_at "pv") h3 rfl (by walk_at "pvl") rfl rfl rfl fun Q q => ct_ms_term_at (At.tl h3) (At.tl h4) (h.hss.cons _) h.ssl (Int.le_refl _) (by walk_at "lia") (by unfold sterm; rw [if_pos rfl]; exact q)) q)
theorem ct_rl_pending {g : LG} (h : g.In M) (q : Q (.bool false) M) : CT hb w prog (n + 1) 838 [.ref g.la] M Q := by
  obtain ⟨i0, i1, i2, i3, i4, ⟨h0, h1, h2, h3, h4⟩⟩ := h.ats
  refine CT.fn' (F := F_RaftLog_pending_snapshot) (ρ := [some (.ref g.la)]) F_RaftLog_pending_snapshot_ok rfl rfl fun Lf ok => ?_
  exact SV.ret (EV.and (AndE.cons (EV.of (v := .bool false) (PV.cmp' (a := .none) (v := .bool false) (by walk_at "pv") PV.none (PO.isNotNone (a := .none) rfl) rfl) ⟨false, rfl, by simpa using q⟩)))
theorem ct_rl_first_unapplied {g : LG} (h : g.In M) (q : Q (.int (max (g.ap + 1) (g.fold + 1))) M) : CT hb w prog (n + 3) 845 [.ref g.la] M Q := by
  obtain ⟨i0, i1, i2, i3, i4, ⟨h0, h1, h2, h3, h4⟩⟩ := h.ats
  refine CT.fn' (F := F_RaftLog_first_unapplied) (ρ := [some (.ref g.la)]) F_RaftLog_first_unapplied_ok rfl rfl fun Lf ok => ?_
  refine SV.ret (EV.callbP (f := "max") (vs := [.int (g.ap + 1), .int (g.fold + 1)]) (by walk_at "pv") (.cons (by walk_at "pv") (.cons (PV.methF0 (j := 0) (by walk_at "pv") h0 rfl rfl fun Q q => ct_rl_first (h.cons _) q) .nil rfl) rfl) rfl rfl (CX.max2 ⟨_, .refl _, q⟩))
theorem ct_rl_has_next {g : LG} (h : g.In M) (q : Q (.bool (decide (max (g.ap + 1) (g.fold + 1) < g.cm + 1))) M) : CT hb w prog (n + 4) 852 [.ref g.la] M Q := by
  obtain ⟨i0, i1, i2, i3, i4, ⟨h0, h1, h2, h3, h4⟩⟩ := h.ats
  refine CT.fn' (F := F_RaftLog_has_next) (ρ := [some (.ref g.la)]) F_RaftLog_has_next_ok rfl rfl fun Lf ok => ?_
  refine SV.ifF (p := false = true) (by decide) (PT.valB (PV.methF0 (j := 8) (by walk_at "pv") h0 rfl rfl fun Q q => ct_rl_pending (h.cons _) q) rfl) ?_
  exact SV.ret (EV.of (PV.cmp' (by walk_at "pv") (PV.methF0 (j := 9) (by walk_at "pv") h0 rfl rfl fun Q q => ct_rl_first_unapplied (h.cons _) q) (by walk_at "op") rfl) q)
theorem ct_ms_snapshot {g : LG} (h : g.In M) (q : Q (.ref g.sn.a) M) : CT hb w prog (n + 1) 558 [.ref g.sa] M Q := by
  obtain ⟨i0, i1, i2, i3, i4, ⟨h0, h1, h2, h3, h4⟩⟩ := h.ats
  refine (At.of h.sn.ao).elim fun is hs => ?_
  refine CT.fn' (F := F_MemoryStorage_snapshot) (ρ := [some (.ref g.sa)]) F_MemoryStorage_snapshot_ok rfl rfl fun Lf ok => ?_
  refine SV.ifF (p := g.sn.i < g.fold) (by rw [h.si]; walk_at "lia") (by walk_at "pt") ?_
  exact SV.ret (EV.of (by walk_at "pv") q)
theorem ct_rl_snapshot {g : LG} (h : g.In M) (q : Q (.ref g.sn.a) M) : CT hb w prog (n + 2) 866 [.ref g.la] M Q := by
  obtain ⟨i0, i1, i2, i3, i4, ⟨h0, h1, h2, h3, h4⟩⟩ := h.ats
  refine CT.fn' (F := F_RaftLog_snapshot) (ρ := [some (.ref g.la)]) F_RaftLog_snapshot_ok rfl rfl fun Lf ok => ?_
  refine SV.ifF id (PT.notNoneF (by walk_at "pv")) ?_
  exact SV.ret (EV.of (PV.methF0 (j := 4) (by walk_at "pv") h3 rfl rfl fun Q q => ct_ms_snapshot (h.cons _) q) q)
theorem ct_rl_unstable_entries {g : LG} (h : g.In M) (q : ∀ r, Q (.ref r) ((r, .list (ers g.us)) :: M)) : CT hb w prog (n + 1) 831 [.ref g.la] M Q := by
  obtain ⟨i0, i1, i2, i3, i4, ⟨h0, h1, h2, h3, h4⟩⟩ := h.ats
  have := h.usl
  refine CT.fn' (F := F_RaftLog_unstable_entries) (ρ := [some (.ref g.la)]) F_RaftLog_unstable_entries_ok rfl rfl fun Lf ok => ?_
  refine SV.ret (EV.slice (EV.of (v := .ref g.ul) (by walk_at "pv") ⟨g.ul, none, none, i2, ers g.us, rfl, trivial, trivial, h2, by rw [List.length_map]; walk_at "lia", fun s => ?_⟩))
  rw [vpick_all]
  exact q s
end
end
section
theorem limGo_ge (n : Int) : ∀ (es : List ER) (tot : Int) (kp : Nat), kp ≤ limGo n tot kp es
  | [], _, kp => Nat.le_refl _
  | e :: r, tot, kp => by
    unfold limGo
    split
    · exact Nat.le_refl _
    · exact Nat.le_trans (Nat.le_succ _) (limGo_ge n r _ _)
theorem limGo_le (n : Int) : ∀ (es : List ER) (tot : Int) (kp : Nat), limGo n tot kp es ≤ kp + es.length
  | [], _, kp => Nat.le_refl _
  | e :: r, tot, kp => by
    unfold limGo
    split
    · lia
    · have := limGo_le n r (tot + e.sz) (kp + 1); rw [List.length_cons]; omega
theorem lim_le (n : Int) (es : List ER) : lim n es ≤ es.length := by have := limGo_le n es 0 0; unfold lim; lia
theorem limGo_app (n : Int) (Z : List ER) : ∀ (es : List ER) (tot : Int) (kp : Nat), limGo n tot kp es < kp + es.length → limGo n tot kp (es ++ Z) = limGo n tot kp es
  | [], tot, kp, h => absurd h (by unfold limGo; simp)
  | e :: r, tot, kp, h => by
    rw [List.cons_append]
    unfold limGo at h ⊢
    by_cases q : kp ≠ 0 ∧ n < tot + e.sz
    · rw [if_pos q, if_pos q]
    · rw [if_neg q] at h ⊢
      rw [if_neg q]
      exact limGo_app n Z r _ _ (by rw [List.length_cons] at h; omega)
theorem lim_app {n : Int} {Y Z : List ER} (h : lim n Y < Y.length) : lim n (Y ++ Z) = lim n Y := limGo_app n Z Y 0 0 (by unfold lim at h; lia)
noncomputable def LG.cut (g : LG) (lo hi : Int) : List ER := (g.es.drop (lo - (g.fold + 1)).toNat).take (hi - lo).toNat
theorem nat_of {a b : Int} (h : a ≤ b) : ∃ n : Nat, b = a + n := ⟨(b - a).toNat, by rw [Int.toNat_of_nonneg (Int.sub_nonneg_of_le h), Int.add_comm, Int.sub_add_cancel]⟩
theorem tn0 (x y : Int) : x + y - x = y := by rw [Int.add_comm, Int.add_sub_cancel]
theorem tn1 (x : Int) (n : Nat) : (x + n - x).toNat = n := by rw [tn0]; rfl
theorem tn2 (x : Int) (n m : Nat) : (x + n + m - x).toNat = n + m := by rw [Int.add_assoc, tn0]; rfl
theorem LG.cut_sbet {g : LG} (k : g.Ok) {lo hi : Int} (h0 : g.fold < lo) (h1 : lo ≤ hi) (h2 : hi ≤ g.off) : sbet g.fold g.ss lo hi = g.cut lo hi := by
  obtain ⟨p, rfl⟩ := nat_of (show g.fold + 1 ≤ lo from h0)
  obtain ⟨r, rfl⟩ := nat_of h1
  have hpr : p + r ≤ g.κ := by
    have h2 : g.fold + 1 + p + r ≤ g.fold + g.κ + 1 := h2
    clear h0 h1 k
    omega
  have hrk : r ≤ g.κ - p := Nat.le_sub_of_add_le' hpr
  unfold sbet LG.cut LG.ss
  have hl : (List.take (g.κ - p) (List.drop p g.es)).length = g.κ - p := by rw [List.length_take, List.length_drop, Nat.min_eq_left (Nat.sub_le_sub_right k.κ p)]
  rw [tn1, tn1, List.drop_append, List.take_append, List.drop_take, hl, List.take_take, Nat.sub_eq_zero_of_le hrk, List.take_zero, List.append_nil, Nat.min_eq_left hrk]
theorem LG.cut_app {g : LG} (k : g.Ok) {lo mid hi : Int} (h0 : g.fold < lo) (h1 : lo ≤ mid) (h2 : mid ≤ hi) : g.cut lo mid ++ g.cut mid hi = g.cut lo hi := by
  obtain ⟨p, rfl⟩ := nat_of (show g.fold + 1 ≤ lo from h0)
  obtain ⟨a, rfl⟩ := nat_of h1
  obtain ⟨b, rfl⟩ := nat_of h2
  unfold LG.cut
  rw [tn1, tn2, tn2, tn1, tn1, List.take_add, List.drop_drop]
theorem LG.cut_part {g : LG} {lo hi : Int} (h0 : g.off ≤ lo) : (g.us.drop (lo - g.off).toNat).take (hi - lo).toNat = g.cut lo hi := by
  simp only [LG.us, LG.off, LG.cut, List.drop_drop] at *
  congr 2
  lia
theorem LG.cut_len {g : LG} {lo hi : Int} (h0 : g.fold < lo) (h1 : lo ≤ hi) (h2 : hi ≤ g.fold + g.es.length + 1) : ((g.cut lo hi).length : Int) = hi - lo := by
  obtain ⟨p, rfl⟩ := nat_of (show g.fold + 1 ≤ lo from h0)
  obtain ⟨r, rfl⟩ := nat_of h1
  have hpr : p + r ≤ g.es.length := by clear h0 h1; omega
  unfold LG.cut
  rw [tn1, tn1, List.length_take, List.length_drop, Nat.min_eq_left (Nat.le_sub_of_add_le' hpr), tn0]
theorem LG.cut_mem {g : LG} {lo hi : Int} {e : ER} (h : e ∈ g.cut lo hi) : e ∈ g.es := List.mem_of_mem_drop (List.mem_of_mem_take h)
section
variable {hb : HB} {w : World} {prog : Program} {n : Nat} {M : Led} {Q : V → Led → Prop} {c : FC} {ρ : List (Option V)}
theorem ct_slice {g : LG} {lo hi m : Int} (h : g.In M) (k0 : g.fold < lo) (k1 : lo ≤ hi) (k2 : hi ≤ g.fold + g.es.length + 1)
    (q : ∀ r, Q (.ref r) ((r, .list (ers ((g.cut lo hi).take (lim m (g.cut lo hi))))) :: M)) : CT hb w prog (n + 5) 887 [.ref g.la, .int lo, .int hi, .int m] M Q := by
  obtain ⟨i0, i1, i2, i3, i4, ⟨h0, h1, h2, h3, h4⟩⟩ := h.ats
  have hκ := h.κ
  have hlen := h.len
  have hcl := LG.cut_len k0 k1 k2
  refine CT.drop (CT.fn' (F := F_RaftLog_slice) (ρ := [some (.ref g.la), some (.int lo), some (.int hi), some (.int m), none, none, none]) F_RaftLog_slice_ok rfl rfl fun Lf ok => ?_)
  refine SV.ifF (p := hi < lo) (Int.not_lt.mpr k1) (by walk_at "pt") ?_
  refine SV.ifF (p := lo < g.fold + 1) (Int.not_lt.mpr k0) (PT.cmp' (by walk_at "pv") (PV.methF0 (j := 0) (by walk_at "pv") h0 rfl rfl fun Q q => ct_rl_first (h.cons _) q) (by walk_at "op") rfl) ?_
  refine SV.ifF (p := g.fold + g.es.length + 1 < hi) (Int.not_lt.mpr k2) (PT.cmp' (by walk_at "pv") (PV.bin (PV.methF0 (j := 1) (by walk_at "pv") h0 rfl rfl fun Q q => ct_rl_last (h.cons _) q) (by walk_at "pv") (by walk_at "op")) (by walk_at "op") rfl) ?_
  refine SV.ifp (p := lo = hi) (by walk_at "pt") (fun he => ?_) fun hne => SV.done ?_
  · refine SV.ret (EV.list (AV.nil ⟨by decide, fun r => ⟨_, .refl _, ?_⟩⟩))
    have := q r
    have e : g.cut lo hi = [] := List.eq_nil_of_length_eq_zero (Int.ofNat.inj (hcl.trans (by rw [he, Int.sub_self]; rfl)))
    rw [e] at this; exact this
  walk_at "set"
  refine SV.assign' ok rfl (EV.list (AV.nil ⟨by decide, fun fl => ⟨_, by walk_at "sto", ?_⟩⟩))
  refine SV.ifp (p := lo < g.off) (by walk_at "pt") (fun hlo => ?_) fun hlo => SV.done ?_
  · refine SV.assign' ok rfl (EV.callbP (f := "min") (vs := [.int hi, .int g.off]) (by walk_at "pv") (by walk_at "pvl") rfl rfl (CX.min2 ⟨_, .refl _, _, by walk_at "sto", ?_⟩))
    have hmin : min hi g.off ≤ g.off := Int.min_le_right _ _
    have hmin1 : min hi g.off ≤ hi := Int.min_le_left _ _
    have hmin2 : lo < min hi g.off := Int.lt_min.mpr ⟨Int.lt_iff_le_and_ne.mpr ⟨k1, hne⟩, hlo⟩
    have hmin3 : min hi g.off = hi ∨ min hi g.off = g.off := by
      rw [Int.min_def]; split
      · exact .inl rfl
      · exact .inr rfl
    generalize min hi g.off = en at hmin hmin1 hmin2 hmin3 ⊢
    have hY := LG.cut_sbet h.toOk k0 (Int.le_of_lt hmin2) hmin
    have hYl := LG.cut_len (g := g) k0 (Int.le_of_lt hmin2) (Int.le_trans hmin1 k2)
    refine SV.tryOk (SV.assign' ok rfl (EV.methP (vs' := [.int lo, .int en, .int m]) (j := 2) (by walk_at "pv") (At.tl h3) rfl (by walk_at "pvl") rfl rfl rfl (ct_ms_between (At.tl (At.tl h3)) (At.tl (At.tl h4)) ((h.hss.cons _).cons _) h.ssl k0 hmin2 (by have := LG.In.toOk h; simp only [LG.ss, LG.off, List.length_append, List.length_take] at *; walk_at "lia") fun r => ⟨_, .swap .., _, by walk_at "sto", SV.nil ?_⟩)))
    rw [hY]
    have hll := lim_le m (g.cut lo en)
    have htl : (ers ((g.cut lo en).take (lim m (g.cut lo en)))).length = lim m (g.cut lo en) := by rw [List.length_map, List.length_take, Nat.min_eq_left hll]
    have htl' : (ers ((g.cut lo en).take (lim m (g.cut lo en)))).length < 2 ^ 40 := by rw [htl]; exact Nat.lt_of_le_of_lt hll (cut_lt (Nat.lt_trans h.len (by decide)))
    have happ := LG.cut_app h.toOk k0 (Int.le_of_lt hmin2) hmin1
    refine SV.ifp (p := ((ers ((g.cut lo en).take (lim m (g.cut lo en)))).length : Int) < en - lo) (by walk_at "pt") (fun hlt => ?_) fun hge => SV.done (SV.done ?_)
    · refine SV.ret (EV.of (v := .ref r) (by walk_at "pv") ⟨_, (List.sublist_cons_self _ M).cons_cons _, ?_⟩)
      have := q r
      rw [← happ, lim_app (by walk_at "lia"), List.take_append_of_le_length (by walk_at "lia")] at this
      exact this
    · rw [htl] at hge
      have hfull : lim m (g.cut lo en) = (g.cut lo en).length := by walk_at "lia"
      rw [hfull, List.take_length]
      refine SV.ifp (p := g.off < hi) (by walk_at "pt") (fun hoff => ?_) fun hoff => SV.done ?_
      · have een : en = g.off := hmin3.resolve_left fun e => absurd hmin (Int.not_le.mpr (e ▸ hoff))
        subst een
        have hmax : max lo g.off = g.off := Int.max_eq_right (Int.le_of_lt hlo)
        refine SV.assign' ok rfl (EV.bin (EV.of (v := .ref r) (by walk_at "pv") ?_))
        refine EV.meth (j := 5) (i := i1 + 2) (by walk_at "pv") h1 rfl (AV.cons (EV.callbP (f := "max") (vs := [.int lo, .int g.off]) (by walk_at "pv") (by walk_at "pvl") rfl rfl (CX.max2 ⟨_, .refl _, ?_⟩))) rfl rfl rfl
        rw [hmax]
        refine AV.cons (EV.of (v := .int hi) (by walk_at "pv") (AV.nil (CT.cx (ct_un_part (i := i1 + 3) (j := i2 + 3) h1 h2 h.usl (Int.le_refl _) (by walk_at "lia") (by simp only [LG.us, LG.off, List.length_drop] at *; walk_at "lia") fun r₂ => ⟨_, .swap .., fun x y hx hy => ?_⟩))))
        rw [LG.cut_part (Int.le_refl _)]
        have hl2 := LG.cut_len (g := g) (lo := g.off) (hi := hi) (by simp only [LG.off]; walk_at "lia") (by walk_at "lia") k2
        refine EX.addList hx hy (i := 1) (j := 0) rfl rfl (by simp only [List.length_map]; walk_at "lia") fun r₃ => ⟨_, by walk_at "sto", SV.nil ?_⟩
        rw [show ers (g.cut lo g.off) ++ ers (g.cut g.off hi) = ers (g.cut lo hi) by rw [← happ]; simp [ers]]
        refine SV.ret (EV.callP (vs := [.ref r₃, .int m]) (by walk_at "pv") F_limit_size_keep (by walk_at "pvl") rfl rfl (ct_limit_size (j := 1) rfl ?_ (cut_lt (Nat.lt_trans h.len (by decide))) fun r₄ => ⟨_, .swap .., _, ?_, q r₄⟩))
        · exact (h.es.sub fun e he => LG.cut_mem he).to fun p hp => .tail _ (.tail _ (.tail _ (.tail _ (.tail _ hp))))
        · exact .cons_cons _ (.cons _ (.cons _ (.cons _ (.cons _ (.refl _)))))
      · have een : en = hi := hmin3.elim id fun e => Int.le_antisymm hmin1 (e ▸ Int.not_lt.mp hoff)
        subst een
        refine SV.ret (EV.callP (vs := [.ref r, .int m]) (by walk_at "pv") F_limit_size_keep (by walk_at "pvl") rfl rfl (ct_limit_size (j := 1) rfl ?_ (cut_lt (Nat.lt_trans h.len (by decide))) fun r₄ => ⟨_, .swap .., _, ?_, q r₄⟩))
        · exact (h.es.sub fun e he => LG.cut_mem he).to fun p hp => .tail _ (.tail _ (.tail _ hp))
        · exact .cons_cons _ (.cons _ (.cons _ (.refl _)))
  · have hlo' : g.off ≤ lo := Int.not_lt.mp hlo
    refine SV.ifT (p := g.off < hi) (Int.lt_of_le_of_lt hlo' (Int.lt_iff_le_and_ne.mpr ⟨k1, hne⟩)) (by walk_at "pt") ?_
    have hmax : max lo g.off = lo := Int.max_eq_left hlo'
    refine SV.assign' ok rfl (EV.bin (EV.of (v := .ref fl) (by walk_at "pv") ?_))
    refine EV.meth (j := 5) (i := i1 + 1) (by walk_at "pv") h1 rfl (AV.cons (EV.callbP (f := "max") (vs := [.int lo, .int g.off]) (by walk_at "pv") (by walk_at "pvl") rfl rfl (CX.max2 ⟨_, .refl _, ?_⟩))) rfl rfl rfl
    rw [hmax]
    refine AV.cons (EV.of (v := .int hi) (by walk_at "pv") (AV.nil (CT.cx (ct_un_part (i := i1 + 2) (j := i2 + 2) h1 h2 h.usl hlo' (by walk_at "lia") (by simp only [LG.us, LG.off, List.length_drop] at *; omega) fun r₂ => ⟨_, .swap .., fun x y hx hy => ?_⟩))))
    rw [LG.cut_part hlo']
    refine EX.addList hx hy (i := 1) (j := 0) rfl rfl (by simp only [List.length_map, List.length_nil]; walk_at "lia") fun r₃ => ⟨_, by walk_at "sto", SV.nil ?_⟩
    rw [List.nil_append]
    refine SV.ret (EV.callP (vs := [.ref r₃, .int m]) (by walk_at "pv") F_limit_size_keep (by walk_at "pvl") rfl rfl (ct_limit_size (j := 1) rfl ?_ (cut_lt (Nat.lt_trans h.len (by decide))) fun r₄ => ⟨_, .swap .., _, ?_, q r₄⟩))
    · exact (h.es.sub fun e he => LG.cut_mem he).to fun p hp => .tail _ (.tail _ (.tail _ (.tail _ hp)))
    · exact .cons_cons _ (.cons _ (.cons _ (.cons _ (.refl _))))
end
end
section
theorem LG.cut_nil {g : LG} {lo hi : Int} (h : hi ≤ lo) : g.cut lo hi = [] := by unfold LG.cut; rw [show (hi - lo).toNat = 0 by lia, List.take_zero]
@[reducible] noncomputable def LG.page (g : LG) (m lo hi : Int) : List ER := (g.cut lo hi).take (lim m (g.cut lo hi))
section
variable {hb : HB} {w : World} {prog : Program} {n : Nat} {M : Led} {Q : V → Led → Prop} {c : FC} {ρ : List (Option V)}
theorem ct_rl_entries {g : LG} {i m : Int} (h : g.In M) (k0 : g.fold < i) (q : ∀ r, Q (.ref r) ((r, .list (ers (g.page m i (g.fold + g.es.length + 1)))) :: M)) : CT hb w prog (n + 6) 873 [.ref g.la, .int i, .int m] M Q := by
  obtain ⟨i0, i1, i2, i3, i4, ⟨h0, h1, h2, h3, h4⟩⟩ := h.ats
  refine CT.fn' (F := F_RaftLog_entries) (ρ := [some (.ref g.la), some (.int i), some (.int m)]) F_RaftLog_entries_ok rfl rfl fun Lf ok => ?_
  refine SV.ifp (p := g.fold + g.es.length < i) (PT.cmp' (by walk_at "pv") (PV.methF0 (j := 1) (by walk_at "pv") h0 rfl rfl fun Q q => ct_rl_last (h.cons _) q) (by walk_at "op") rfl) (fun hl => ?_) fun hl => SV.done ?_
  · refine SV.ret (EV.list (AV.nil ⟨by decide, fun r => ?_⟩))
    have := q r
    rw [LG.page, LG.cut_nil (by walk_at "lia")] at this
    exact this
  · refine SV.ret (EV.methP (j := 15) (vs' := [.int i, .int (g.fold + g.es.length + 1), .int m]) (by walk_at "pv") h0 rfl (.cons (by walk_at "pv") (.cons (PV.bin (PV.methF0 (j := 1) (by walk_at "pv") h0 rfl rfl fun Q q => ct_rl_last (h.cons _) q) (by walk_at "pv") (by walk_at "op")) (.cons (by walk_at "pv") .nil rfl) rfl) rfl) rfl rfl rfl (ct_slice (h.cons _) k0 (by walk_at "lia") (Int.le_refl _) fun r => ⟨_, .swap .., q r⟩))
theorem ct_rl_all_entries {g : LG} (h : g.In M) (q : ∀ r, Q (.ref r) ((r, .list (ers (g.page 18446744073709551615 (g.fold + 1) (g.fold + g.es.length + 1)))) :: M)) : CT hb w prog (n + 7) 880 [.ref g.la] M Q := by
  obtain ⟨i0, i1, i2, i3, i4, ⟨h0, h1, h2, h3, h4⟩⟩ := h.ats
  refine CT.fn' (F := F_RaftLog_all_entries) (ρ := [some (.ref g.la)]) F_RaftLog_all_entries_ok rfl rfl fun Lf ok => ?_
  refine SV.ret (EV.methP (j := 13) (vs' := [.int (g.fold + 1), .int 18446744073709551615]) (by walk_at "pv") h0 rfl (.cons (PV.methF0 (j := 0) (by walk_at "pv") h0 rfl rfl fun Q q => ct_rl_first (h.cons _) q) (.cons (by walk_at "pv") .nil rfl) rfl) rfl rfl rfl (ct_rl_entries (h.cons _) (by walk_at "lia") fun r => ⟨_, .swap .., q r⟩))
theorem ct_rl_next_committed {g : LG} (h : g.In M) (k0 : g.fold ≤ g.ap) (k1 : g.ap ≤ g.cm) (k2 : g.cm ≤ g.fold + g.es.length) (q : ∀ r, Q (.ref r) ((r, .list (ers (g.page g.mx (g.ap + 1) (g.cm + 1)))) :: M)) : CT hb w prog (n + 6) 859 [.ref g.la] M Q := by
  obtain ⟨i0, i1, i2, i3, i4, ⟨h0, h1, h2, h3, h4⟩⟩ := h.ats
  have hmax : max (g.ap + 1) (g.fold + 1) = g.ap + 1 := by walk_at "lia"
  refine CT.fn' (F := F_RaftLog_next_committed) (ρ := [some (.ref g.la)]) F_RaftLog_next_committed_ok rfl rfl fun Lf ok => ?_
  refine SV.ifp (p := ¬ (decide (max (g.ap + 1) (g.fold + 1) < g.cm + 1) = true)) (PT.not (PT.valB (PV.methF0 (j := 10) (by walk_at "pv") h0 rfl rfl fun Q q => ct_rl_has_next (h.cons _) q) rfl)) (fun hl => ?_) fun hl => SV.done ?_
  · rw [decide_eq_true_iff, hmax] at hl
    refine SV.ret (EV.list (AV.nil ⟨by decide, fun r => ?_⟩))
    have := q r
    rw [LG.page, LG.cut_nil (by walk_at "lia")] at this
    exact this
  · refine SV.ret (EV.methP (j := 15) (vs' := [.int (max (g.ap + 1) (g.fold + 1)), .int (g.cm + 1), .int g.mx]) (by walk_at "pv") h0 rfl (.cons (PV.methF0 (j := 9) (by walk_at "pv") h0 rfl rfl fun Q q => ct_rl_first_unapplied (h.cons _) q) (.cons (by walk_at "pv") (.cons (by walk_at "pv") .nil rfl) rfl) rfl) rfl rfl rfl (ct_slice (h.cons _) (by walk_at "lia") (by walk_at "lia") (by walk_at "lia") fun r => ⟨_, .swap .., ?_⟩))
    rw [hmax]; exact q r
theorem ct_rl_commit_to {g : LG} {i0 : Nat} {i : Int} (h : g.In M) (h0 : At M i0 g.lao) (k1 : g.cm ≤ i) (k2 : i ≤ g.fold + g.es.length) (q : Q .none (M.set i0 { g with cm := i }.lao)) : CT hb w prog (n + 3) 796 [.ref g.la, .int i] M Q := by
  refine CT.fn' (F := F_RaftLog_commit_to) (ρ := [some (.ref g.la), some (.int i)]) F_RaftLog_commit_to_ok rfl rfl fun Lf ok => ?_
  refine SV.ifp (p := i ≤ g.cm) (by walk_at "pt") (fun hl => SV.ret0 ?_) fun hl => SV.done ?_
  · have e : i = g.cm := by lia
    subst e
    have e : M.set i0 g.lao = M := by
      rw [← (List.getElem?_eq_some_iff.mp h0).2]; exact List.set_getElem_self _
    exact e ▸ q
  refine SV.ifF (p := g.fold + g.es.length < i) (by lia) (PT.cmp' (by walk_at "pv") (PV.methF0 (j := 1) (by walk_at "pv") h0 rfl rfl fun Q q => ct_rl_last (h.cons _) q) (by walk_at "op") rfl) ?_
  refine SV.setattr' rfl (EV.of (v := .int i) (by walk_at "pv") ⟨g.la, i0, g.ld, C_RaftLog, _, _, _, by walk_at "pv", h0, by walk_at "pn", rfl, SV.nil q⟩)
theorem ct_rl_applied_to {g : LG} {i0 : Nat} {i : Int} (h0 : At M i0 g.lao) (k0 : i ≠ 0) (k1 : g.ap ≤ i) (k2 : i ≤ g.cm) (q : Q .none (M.set i0 { g with ap := i }.lao)) : CT hb w prog (n + 1) 810 [.ref g.la, .int i] M Q := by
  refine CT.fn' (F := F_RaftLog_applied_to) (ρ := [some (.ref g.la), some (.int i)]) F_RaftLog_applied_to_ok rfl rfl fun Lf ok => ?_
  refine SV.ifF (p := i = 0) k0 (by walk_at "pt") ?_
  refine SV.ifF (p := g.cm < i ∨ i < g.ap) (by lia) (by walk_at "pt") ?_
  refine SV.setattr' rfl (EV.of (v := .int i) (by walk_at "pv") ⟨g.la, i0, g.ld, C_RaftLog, _, _, _, by walk_at "pv", h0, by walk_at "pn", rfl, SV.nil q⟩)
theorem ct_Unstable_init {a d : Addr} {off : Int} (q : ∀ ul, Q .none ((ul, .list []) :: (a, unO d ul off) :: M)) : CT hb w prog (n + 1) C_Unstable.fI [.ref a, .int off] ((a, .inst C_Unstable d []) :: M) Q := by
  refine CT.fn' (F := F_Unstable_init) (ρ := [some (.ref a), some (.int off)]) F_Unstable_init_ok rfl rfl fun Lf ok => ?_
  walk_at "seta"
  refine SV.setattr' rfl (EV.list (AV.nil ⟨by decide, fun ul => ⟨a, 1, d, C_Unstable, _, _, _, by walk_at "pv", rfl, by walk_at "pn", rfl, ?_⟩⟩))
  refine SV.from (L₀ := (ul, .list []) :: (a, .inst C_Unstable d [.none, .ref ul]) :: M) (.refl _) ?_
  walk_at "seta"
  exact SV.nil (q ul)
theorem ct_RaftLog_init {a d sa sd el : Addr} {mx bi bt : Int} {hd cf sn : V} {es : List ER} {i j : Nat} (hs : At M i (sa, msO sd hd cf sn bi bt el)) (hl : At M j (el, .list (ers es))) (hlen : es.length < 1000)
    (q : ∀ ua ud ul, Q .none ((ul, .list []) :: (ua, unO ud ul (bi + es.length + 1)) :: (a, .inst C_RaftLog d [.ref sa, .int mx, .ref ua, .int bi, .int bi]) :: M)) : CT hb w prog (n + 3) C_RaftLog.fI [.ref a, .ref sa, .int mx] ((a, .inst C_RaftLog d []) :: M) Q := by
  refine CT.fn' (F := F_RaftLog_init) (ρ := [some (.ref a), some (.ref sa), some (.int mx), none]) F_RaftLog_init_ok rfl rfl fun Lf ok => ?_
  walk_at "seta"
  walk_at "seta"
  refine SV.assignP (b := .int (bi + 1)) ok (PV.methF0 (j := 0) (by walk_at "pv") (At.tl hs) rfl rfl fun Q q => ct_ms_first (At.tl (At.tl hs)) q) rfl (by walk_at "sto") ?_
  refine SV.setattr' rfl (EV.callC (vs := [.int (bi + es.length + 1)]) C_Unstable (by walk_at "pv") (.cons (PV.bin (PV.methF0 (j := 1) (by walk_at "pv") (At.tl hs) rfl rfl fun Q q => ct_ms_last (At.tl (At.tl hs)) (At.tl (At.tl hl)) hlen q) (by walk_at "pv") (by walk_at "op")) .nil rfl) rfl rfl fun ua ud => ct_Unstable_init fun ul => ⟨rfl, _, mid (A := [(ul, .list []), (ua, unO ud ul (bi + es.length + 1))]), a, 2, d, C_RaftLog, _, _, _, by walk_at "pv", rfl, by walk_at "pn", rfl, ?_⟩)
  refine SV.from (L₀ := (ul, .list []) :: (ua, unO ud ul (bi + es.length + 1)) :: (a, .inst C_RaftLog d [.ref sa, .int mx, .ref ua]) :: M) (.refl _) ?_
  walk_at "seta"
  walk_at "seta"
  rw [show bi + 1 - 1 = bi by walk_at "lia"]
  exact SV.nil (q ua ud ul)
end
end
section
theorem mem_set_ne {M : Led} {i : Nat} {p old new : Addr × AO} (h : p ∈ M) (hi : At M i old) (hn : p ≠ old) : p ∈ M.set i new := by
  refine (At.of h).elim fun j hj => ?_
  by_cases q : i = j
  · subst q; exact absurd (Option.some.inj (hj.symm.trans hi)) hn
  · exact (at_set_ne hj q).mem
noncomputable def aoC : AO → Nat
  | .inst k _ _ => k.C
  | .list _ => 1
  | .tup _ => 2
  | .ba _ => 3
  | _ => 4
theorem ne_of_C {p q : Addr × AO} (h : aoC p.2 ≠ aoC q.2) : p ≠ q := fun e => h (by rw [e])
theorem Has.set_ne {M : Led} {i : Nat} {es : List ER} {old new : Addr × AO} (h : Has M es) (hi : At M i old) (hn : aoC old.2 ≠ 299) : Has (M.set i new) es := fun e he => ⟨(h e he).1, mem_set_ne (h e he).2 hi (ne_of_C fun q => hn (q.symm.trans rfl))⟩
theorem CR.In.set_ne {M : Led} {i : Nat} {c : CR} {old new : Addr × AO} (h : c.In M) (hi : At M i old) (hn : aoC old.2 ≠ 397) (hn' : aoC old.2 ≠ 1) : c.In (M.set i new) := fun p hp => mem_set_ne (h p hp) hi (ne_of_C fun q => by
  simp only [CR.led, List.mem_cons, List.not_mem_nil, or_false] at hp
  rcases hp with rfl | rfl | rfl | rfl | rfl
  · exact hn' q.symm
  · exact hn' q.symm
  · exact hn' q.symm
  · exact hn' q.symm
  · exact hn q.symm)
theorem SR.In.set_ne {M : Led} {i : Nat} {s : SR} {old new : Addr × AO} (h : s.In M) (hi : At M i old) (hn : aoC old.2 ≠ 397) (hn' : aoC old.2 ≠ 1) (hn2 : aoC old.2 ≠ 453) : s.In (M.set i new) := ⟨mem_set_ne h.ao hi (ne_of_C fun q => hn2 q.symm), h.c.set_ne hi hn hn'⟩
noncomputable def Row (x : Int) (es : List ER) : Prop := ∀ (k : Nat) (e : ER), es[k]? = some e → e.i = x + k
theorem Row.drop {x : Int} {es : List ER} (h : Row x es) (p : Nat) : Row (x + p) (es.drop p) := fun k e he => by
  rw [List.getElem?_drop] at he
  have := h _ _ he
  lia
theorem Row.take {x : Int} {es : List ER} (h : Row x es) (p : Nat) : Row x (es.take p) := fun k e he => by
  rw [List.getElem?_take] at he
  split at he
  · exact h _ _ he
  · cases he
section
variable {hb : HB} {w : World} {prog : Program} {n : Nat} {M : Led} {Q : V → Led → Prop} {c : FC} {ρ : List (Option V)}
theorem ct_ms_init {a d : Addr} {k : CR} (h : k.In M) (he : k.vs = []) (q : ∀ h hd s sd el, Q .none ((el, .list []) :: (s, .inst C_Snapshot sd [.int 0, .int 0, .ref k.a, .bytes #[]]) :: (h, .inst C_HardState hd [.int 0, .int 0, .int 0]) :: (a, msO d (.ref h) (.ref k.a) (.ref s) 0 0 el) :: M)) : CT hb w prog (n + 3) C_MemoryStorage.fI [.ref a, .ref k.a] ((a, .inst C_MemoryStorage d []) :: M) Q := by
  obtain ⟨i0, i1, i2, i3, i4, h0, h1, h2, h3, h4⟩ := h.ats
  refine CT.fn' (F := F_MemoryStorage_init) (ρ := [some (.ref a), some (.ref k.a), none]) F_MemoryStorage_init_ok rfl rfl fun Lf ok => ?_
  walk_at "set"
  rw [he] at h1
  have hz : (ivs []).length < 2 ^ 40 := by decide
  refine SV.ifF (p := (0 : Int) < (ivs []).length) (by decide) (by walk_at "pt") ?_
  refine SV.setattr' rfl (EV.callC (vs := [.int 0, .int 0, .int 0]) C_HardState (by walk_at "pv") (by walk_at "pvl") rfl rfl fun hd hdd => ct_HardState_init ⟨rfl, _, .swap .., a, 1, d, C_MemoryStorage, _, _, _, by walk_at "pv", rfl, by walk_at "pn", rfl, ?_⟩)
  refine SV.from (L₀ := (hd, .inst C_HardState hdd [.int 0, .int 0, .int 0]) :: (a, .inst C_MemoryStorage d [.ref hd]) :: M) (.refl _) ?_
  walk_at "seta"
  refine SV.setattr' rfl (EV.callC (vs := [.int 0, .int 0, .ref k.a, .bytes #[]]) C_Snapshot (by walk_at "pv") (by walk_at "pvl") rfl rfl fun s sd => ct_Snapshot_init ⟨rfl, _, .swap .., a, 2, d, C_MemoryStorage, _, _, _, by walk_at "pv", rfl, by walk_at "pn", rfl, ?_⟩)
  refine SV.from (L₀ := (s, .inst C_Snapshot sd [.int 0, .int 0, .ref k.a, .bytes #[]]) :: (hd, .inst C_HardState hdd [.int 0, .int 0, .int 0]) :: (a, .inst C_MemoryStorage d [.ref hd, .ref k.a, .ref s]) :: M) (.refl _) ?_
  walk_at "seta"
  walk_at "seta"
  refine SV.setattr' rfl (EV.list (AV.nil ⟨by decide, fun el => ⟨a, 3, d, C_MemoryStorage, _, _, _, by walk_at "pv", rfl, by walk_at "pn", rfl, SV.nil (q hd hdd s sd el)⟩⟩))
theorem ct_ms_apply {a d el s0 sd0 c0 : Addr} {hd cf : V} {b0 : Array UInt8} {i j : Nat} {s : SR} (hi : At M i (a, msO d hd cf (.ref s0) 0 0 el)) (hj : At M j (s0, .inst C_Snapshot sd0 [.int 0, .int 0, .ref c0, .bytes b0])) (hs : s.In M) (hp : 0 < s.i)
    (q : ∀ el', Q .none ((el', .list []) :: M.set i (a, msO d hd (.ref s.c.a) (.ref s.a) s.i s.t el'))) : CT hb w prog (n + 1) 579 [.ref a, .ref s.a] M Q := by
  refine (At.of hs.ao).elim fun k hk => ?_
  refine CT.fn' (F := F_MemoryStorage_apply_snapshot) (ρ := [some (.ref a), some (.ref s.a)]) F_MemoryStorage_apply_snapshot_ok rfl rfl fun Lf ok => ?_
  refine SV.ifF (p := s.i ≤ 0 ∨ s.i < 0) (by walk_at "lia") (PT.or' (PT.cmp' (by walk_at "pv") (PV.attr' (PV.attr' (j := 2) (by walk_at "pv") hi ⟨rfl, rfl⟩ rfl rfl) hj (by walk_at "at2") rfl rfl) (by walk_at "op") rfl) (by walk_at "pt")) ?_
  have hki : i ≠ k := fun e => by subst e; cases hi.symm.trans hk
  refine SV.setattrP (by walk_at "pv") (by walk_at "pv") hi (by walk_at "pn") rfl rfl ?_
  refine SV.setattrP (PV.attr' (by walk_at "pv") (at_set_ne hk hki) (by walk_at "at2") rfl rfl) (by walk_at "pv") (at_set_eq hi) (by walk_at "pn") (by rw [LSet, List.set_set]) rfl ?_
  refine SV.setattrP (PV.attr' (by walk_at "pv") (at_set_ne hk hki) (by walk_at "at2") rfl rfl) (by walk_at "pv") (at_set_eq hi) (by walk_at "pn") (by rw [LSet, List.set_set]) rfl ?_
  refine SV.setattrP (PV.attr' (by walk_at "pv") (at_set_ne hk hki) (by walk_at "at2") rfl rfl) (by walk_at "pv") (at_set_eq hi) (by walk_at "pn") (by rw [LSet, List.set_set]) rfl ?_
  refine SV.setattr' rfl (EV.list (AV.nil ⟨by decide, fun el' => ⟨a, i + 1, d, C_MemoryStorage, _, _, _, by walk_at "pv", At.tl (at_set_eq hi), by walk_at "pn", ls_tl (by rw [LSet, List.set_set]), SV.nil (q el')⟩⟩))
theorem ct_ms_append_nil {a l : Addr} {i : Nat} (hl : At M i (l, .list [])) (q : Q .none M) : CT hb w prog (n + 2) 572 [.ref a, .ref l] M Q := by
  refine CT.fn' (F := F_MemoryStorage_append) (ρ := [some (.ref a), some (.ref l), none, none, none]) F_MemoryStorage_append_ok rfl rfl fun Lf ok => ?_
  have hz : (([] : List V)).length < 2 ^ 40 := by decide
  exact SV.ifT (p := ((([] : List V)).length : Int) = 0) rfl (by walk_at "pt") (SV.ret0 q)
theorem ct_ms_append {a d el l : Addr} {hd cf sn : V} {bi bt : Int} {ss ns : List ER} {i j k p : Nat} (hi : At M i (a, msO d hd cf sn bi bt el)) (hj : At M j (el, .list (ers ss))) (hk : At M k (l, .list (ers ns))) (hne : ns ≠ []) (hl1 : ss.length < 1000) (hl2 : ns.length < 1000) (hn : Has M ns) (hp : p ≤ ss.length) (hr : Row (bi + 1 + p) ns)
    (q : ∀ el', Q .none ((el', .list (ers (ss.take p ++ ns))) :: M.set i (a, msO d hd cf sn bi bt el'))) : CT hb w prog (n + 2) 572 [.ref a, .ref l] M Q := by
  refine CT.drop (CT.fn' (F := F_MemoryStorage_append) (ρ := [some (.ref a), some (.ref l), none, none, none]) F_MemoryStorage_append_ok rfl rfl fun Lf ok => ?_)
  have hz : (ers ns).length < 2 ^ 40 := by rw [List.length_map]; lia
  have hnl : 0 < ns.length := List.length_pos_iff.mpr hne
  have hz0 : ((ers ns).length : Int) = ns.length := by rw [List.length_map]
  refine SV.ifF (p := ((ers ns).length : Int) = 0) (by lia) (by walk_at "pt") ?_
  obtain ⟨e0, he0⟩ : ∃ e, ns[0]? = some e := ⟨_, List.getElem?_eq_getElem hnl⟩
  have hx0 : e0.i = bi + 1 + p := by have := hr 0 e0 he0; lia
  obtain ⟨ie, hie⟩ := hn.at (List.mem_of_getElem? he0)
  refine SV.assignP (b := .int (bi + 1 + p)) ok (hx0 ▸ PV.attr' (PV.itemL (k := 0) (j := 0) (by walk_at "pv") (by walk_at "pv") hk (by walk_at "lia") (by rw [List.getElem?_map, he0]; rfl) (.inl rfl) (by intro _ _ _; with_unfolding_all rfl)) hie (by walk_at "at2") rfl rfl) rfl (by walk_at "sto") ?_
  have hzs : (ers ss).length < 2 ^ 40 := by rw [List.length_map]; walk_at "lia"
  refine SV.forRange (ix := 3) ok rfl ?_
  refine EV.calltP (f := "range") (vs := [.int (ers ns).length]) (by walk_at "pv") (.cons (by walk_at "pv") .nil rfl) rfl rfl (CX.range1 fun r => ⟨_, .swap .., ?_⟩)
  refine ⟨r, 0, 0, (ers ns).length, fun t ρ' L' => (∃ o, ρ' = [some (.ref a), some (.ref l), some (.int (bi + 1 + p)), o, none]) ∧ L' = (r, .rng 0 (ers ns).length) :: M, rfl, rfl, by walk_at "lia", ⟨⟨none, rfl⟩, rfl⟩, ?_, ?_⟩
  · rintro t ρ' L' ht ⟨⟨o, rfl⟩, rfl⟩
    have ht' : t < ns.length := by unfold rlen at ht; walk_at "lia"
    obtain ⟨e, he⟩ : ∃ e, ns[t]? = some e := ⟨_, List.getElem?_eq_getElem ht'⟩
    obtain ⟨ie', hie'⟩ := hn.at (List.mem_of_getElem? he)
    have hx := hr t e he
    rw [show (0 : Int) + (t : Int) = t by walk_at "lia"]
    show SV _ w prog (n + 1) _ [some (.ref a), some (.ref l), some (.int (bi + 1 + p)), some (.int t), none] _ _ _
    refine SV.ifF (p := e.i ≠ bi + 1 + p + t) (by walk_at "lia") (PT.cmp' (PV.attr' (PV.itemL (k := t) (j := t) (by walk_at "pv") (by walk_at "pv") (At.tl hk) (by walk_at "lia") (by rw [List.getElem?_map, he]; rfl) (.inl rfl) (by intro _ _ _; with_unfolding_all rfl)) (At.tl hie') (by walk_at "at2") rfl rfl) (by walk_at "pv") (by walk_at "op") rfl) ?_
    exact SV.nil ⟨⟨some (.int t), rfl⟩, rfl⟩
  rintro ρ' L' ⟨⟨o, rfl⟩, rfl⟩
  have hi' : At ((r, AO.rng 0 (ers ns).length) :: M) (i + 1) (a, msO d hd cf sn bi bt el) := hi
  refine SV.assignP (b := .int (bi + 1)) ok (PV.methF0 (j := 0) (by walk_at "pv") hi' rfl rfl fun Q q => ct_ms_first (At.tl hi') q) rfl (by walk_at "sto") ?_
  refine SV.ifF (p := bi + 1 + p + (ers ns).length - 1 < bi + 1) (by walk_at "lia") (by walk_at "pt") ?_
  refine SV.ifF (p := bi + ss.length + 1 < bi + 1 + p) (by walk_at "lia") (PT.cmp' (by walk_at "pv") (PV.bin (PV.methF0 (j := 1) (by walk_at "pv") hi' rfl rfl fun Q q => ct_ms_last (At.tl hi') (At.tl (At.tl hj)) hl1 q) (by walk_at "pv") (by walk_at "op")) (by walk_at "op") rfl) ?_
  refine SV.ifF (p := bi + 1 + p < bi + 1) (by walk_at "lia") (by walk_at "pt") ?_
  refine SV.setattr' rfl (EV.bin (EV.slice (EV.of (v := .ref el) (by walk_at "pv") ⟨el, none, some (bi + 1 + p - (bi + 1)), j + 1, ers ss, rfl, trivial, (show PV _ _ _ _ _ _ _ _ _ by walk_at "pv"), hj, by rw [List.length_map]; walk_at "lia", fun s => EV.of (v := .ref l) (by walk_at "pv") fun x y hx hy => ?_⟩)))
  rw [show bi + 1 + p - (bi + 1) = (p : Int) by walk_at "lia", vpick_upto]
  refine EX.addList hx hy (i := 0) (j := k + 2) rfl hk (by simp only [List.length_take, List.length_map]; walk_at "lia") fun el' => ⟨a, i + 3, d, C_MemoryStorage, _, _, _, by walk_at "pv", hi, by walk_at "pn", ls_tl (ls_tl (ls_tl rfl)), SV.nil ⟨_, .cons_cons _ (.cons _ (.cons _ (.refl _))), ?_⟩⟩
  have := q el'
  rw [show ers (ss.take p ++ ns) = (ers ss).take p ++ ers ns by simp [ers, List.map_take]] at this
  exact this
end
end
section
local macro_rules | `(tactic| walk_at "lia") => `(tactic| ((repeat (rename At _ _ _ => h; clear h)); (repeat (rename LG.In _ _ => h; clear h)); (repeat (rename Has _ _ => h; clear h)); (repeat (rename _ ∈ _ => h; clear h)); lia))
section
variable {hb : HB} {w : World} {prog : Program} {n : Nat} {M : Led} {Q : V → Led → Prop} {c : FC} {ρ : List (Option V)}
theorem ct_un_trunc {a d ul l : Addr} {off x : Int} {us ns : List ER} {i j k : Nat} (hi : At M i (a, unO d ul off)) (hj : At M j (ul, .list (ers us))) (hk : At M k (l, .list (ers ns))) (hne : ns ≠ []) (hl1 : us.length < 1000) (hl2 : ns.length < 1000) (hn : Has M ns) (hr : Row x ns) (hx : x < off)
    (q : ∀ ul', Q .none ((ul', .list (ers ns)) :: M.set i (a, unO d ul' x))) : CT hb w prog (n + 1) 670 [.ref a, .ref l] M Q := by
  refine CT.fn' (F := F_Unstable_truncate_and_append) (ρ := [some (.ref a), some (.ref l), none]) F_Unstable_truncate_and_append_ok rfl rfl fun Lf ok => ?_
  have hz : (ers ns).length < 2 ^ 40 := by rw [List.length_map]; lia
  have hz2 : (ers us).length < 2 ^ 40 := by rw [List.length_map]; lia
  have hnl : 0 < ns.length := List.length_pos_iff.mpr hne
  have hz0 : ((ers ns).length : Int) = ns.length := by rw [List.length_map]
  refine SV.ifF (p := ((ers ns).length : Int) = 0) (by lia) (by walk_at "pt") ?_
  obtain ⟨e0, he0⟩ : ∃ e, ns[0]? = some e := ⟨_, List.getElem?_eq_getElem hnl⟩
  have hx0 : e0.i = x := by have := hr 0 e0 he0; lia
  obtain ⟨ie, hie⟩ := hn.at (List.mem_of_getElem? he0)
  refine SV.assignP (b := .int x) ok (hx0 ▸ PV.attr' (PV.itemL (k := 0) (j := 0) (by walk_at "pv") (by walk_at "pv") hk (by walk_at "lia") (by rw [List.getElem?_map, he0]; rfl) (.inl rfl) (by intro _ _ _; with_unfolding_all rfl)) hie (by walk_at "at2") rfl rfl) rfl (by walk_at "sto") ?_
  refine SV.ifp (p := x = off + (ers us).length) (by walk_at "pt") (fun h => absurd h (by walk_at "lia")) fun _ => ?_
  refine SV.ifp (p := x ≤ off) (by walk_at "pt") (fun _ => ?_) fun h => absurd (Int.le_of_lt hx) h
  refine SV.setattrP (by walk_at "pv") (by walk_at "pv") hi (by walk_at "pn") rfl rfl ?_
  have hik : i ≠ k := fun e => by subst e; cases hi.symm.trans hk
  refine SV.setattr' rfl (EV.slice (EV.of (v := .ref l) (by walk_at "pv") ⟨l, none, none, k, ers ns, rfl, trivial, trivial, at_set_ne hk hik, by walk_at "lia", fun ul' => ⟨a, i + 1, d, C_Unstable, _, _, _, by walk_at "pv", at_set_eq (L := M) hi, by walk_at "pn", ls_tl (by rw [LSet, List.set_set]), SV.nil (SV.nil (SV.nil ?_))⟩⟩))
  rw [vpick_all]
  exact q ul'
theorem ct_un_stable {a d ul : Addr} {off t : Int} {us : List ER} {i j k : Nat} (hi : At M i (a, unO d ul off)) (hj : At M j (ul, .list (ers us))) (hl : us.length < 1000) (hn : Has M us) (hk : us.length = k + 1) (ht : ∀ e, us[k]? = some e → e.t = t)
    (q : ∀ ul', Q .none ((ul', .list []) :: M.set i (a, unO d ul' (off + k + 1)))) : CT hb w prog (n + 2) 649 [.ref a, .int (off + k), .int t] M Q := by
  refine CT.fn' (F := F_Unstable_stable_to) (ρ := [some (.ref a), some (.int (off + k)), some (.int t), none]) F_Unstable_stable_to_ok rfl rfl fun Lf ok => ?_
  refine SV.ifF (p := off + k < off) (by lia) (by walk_at "pt") ?_
  obtain ⟨e, he⟩ : ∃ e, us[k]? = some e := ⟨_, List.getElem?_eq_getElem (by lia)⟩
  have eu : uterm off us (off + k) = .int t := by
    unfold uterm; rw [if_pos (by lia), show (off + (k : Int) - off).toNat = k by lia, he]
    show V.int e.t = _; rw [ht e he]
  refine SV.assignP (b := .int t) ok (PV.methF (j := 2) (vs' := [.int (off + k)]) (by walk_at "pv") hi rfl (by walk_at "pvl") rfl rfl rfl fun Q q => ct_un_maybe_term (At.tl hi) (At.tl hj) (hn.cons _) hl (by rw [eu]; exact q)) rfl (by walk_at "sto") ?_
  refine SV.ifF (p := False ∨ t ≠ t) (by simp) (PT.or' (PT.isNoneF (v := .int t) (by walk_at "pv") rfl rfl) (by walk_at "pt")) ?_
  refine SV.setattr' rfl (EV.slice (EV.of (v := .ref ul) (by walk_at "pv") ⟨ul, some (off + k + 1 - off), none, j, ers us, rfl, (show PV _ _ _ _ _ _ _ _ _ by walk_at "pv"), trivial, hj, by rw [List.length_map]; lia, fun ul' => ⟨a, i + 1, d, C_Unstable, _, _, _, by walk_at "pv", hi, by walk_at "pn", ls_tl rfl, ?_⟩⟩))
  rw [show off + (k : Int) + 1 - off = ((k + 1 : Nat) : Int) by lia, vpick_from, List.drop_eq_nil_of_le (by rw [List.length_map]; lia)]
  refine SV.setattrP (by walk_at "pv") (by walk_at "pv") (i := i + 1) (at_set_eq (L := M) hi) (by walk_at "pn") (ls_tl (by rw [LSet, List.set_set])) rfl ?_
  exact SV.nil (q ul')
@[reducible] noncomputable def LG.upd (g : LG) (ul : Addr) (p : Nat) (ns : List ER) : LG := { g with ul := ul, es := g.es.take p ++ ns, junk := g.es.drop p, κ := p }
theorem LG.In.set_ua {g : LG} {M : Led} {i : Nat} {new : Addr × AO} (h : g.In M) (hi : At M i g.uao) : g.lao ∈ M.set i new ∧ g.sao ∈ M.set i new ∧ g.ell ∈ M.set i new ∧ Has (M.set i new) g.es ∧ Has (M.set i new) g.junk ∧ g.sn.In (M.set i new) :=
  ⟨mem_set_ne h.lao hi (ne_of_C (by simp [aoC])), mem_set_ne h.sao hi (ne_of_C (by simp [aoC])), mem_set_ne h.ell hi (ne_of_C (by simp [aoC])), h.es.set_ne hi (by simp [aoC]), h.jk.set_ne hi (by simp [aoC]), h.sn.set_ne hi (by simp [aoC]) (by simp [aoC]) (by simp [aoC])⟩
theorem ct_rl_append_nil {g : LG} {l : Addr} {k : Nat} (h : g.In M) (hk : At M k (l, .list [])) (q : ∀ v, Q v M) : CT hb w prog (n + 3) 768 [.ref g.la, .ref l] M Q := by
  obtain ⟨i0, i1, i2, i3, i4, ⟨h0, h1, h2, h3, h4⟩⟩ := h.ats
  refine CT.fn' (F := F_RaftLog_append) (ρ := [some (.ref g.la), some (.ref l), none]) F_RaftLog_append_ok rfl rfl fun Lf ok => ?_
  have hz : (([] : List V)).length < 2 ^ 40 := by decide
  refine SV.ifT (p := ((([] : List V)).length : Int) = 0) rfl (by walk_at "pt") ?_
  exact SV.ret (EV.of (PV.methF0 (j := 1) (by walk_at "pv") h0 rfl rfl fun Q q => ct_rl_last (h.cons _) q) (q _))
theorem ct_rl_append {g : LG} {l : Addr} {i1 k p : Nat} {ns : List ER} (h : g.In M) (h1 : At M i1 g.uao) (hk : At M k (l, .list (ers ns))) (hne : ns ≠ []) (hn : Has M ns) (hr : Row (g.fold + p + 1) ns) (hκ : g.κ = g.es.length) (hp : p < g.es.length) (hc : g.cm ≤ g.fold + p) (hl2 : ns.length < 20) (hl3 : g.es.length < 20)
    (q : ∀ ul', (g.upd ul' p ns).In ((ul', .list (ers ns)) :: M.set i1 (g.upd ul' p ns).uao) → ∀ v, Q v ((ul', .list (ers ns)) :: M.set i1 (g.upd ul' p ns).uao)) : CT hb w prog (n + 3) 768 [.ref g.la, .ref l] M Q := by
  obtain ⟨i0, _, i2, i3, i4, ⟨h0, _, h2, h3, h4⟩⟩ := h.ats
  have hz : (ers ns).length < 2 ^ 40 := by rw [List.length_map]; walk_at "lia"
  have hnl : 0 < ns.length := List.length_pos_iff.mpr hne
  have hz0 : ((ers ns).length : Int) = ns.length := by rw [List.length_map]
  refine CT.fn' (F := F_RaftLog_append) (ρ := [some (.ref g.la), some (.ref l), none]) F_RaftLog_append_ok rfl rfl fun Lf ok => ?_
  refine SV.ifF (p := ((ers ns).length : Int) = 0) (by walk_at "lia") (by walk_at "pt") ?_
  obtain ⟨e0, he0⟩ : ∃ e, ns[0]? = some e := ⟨_, List.getElem?_eq_getElem hnl⟩
  have hx0 : e0.i = g.fold + p + 1 := by have := hr 0 e0 he0; walk_at "lia"
  obtain ⟨ie, hie⟩ := hn.at (List.mem_of_getElem? he0)
  refine SV.assignP (b := .int (g.fold + p + 1 - 1)) ok (hx0 ▸ PV.bin (PV.attr' (PV.itemL (k := 0) (j := 0) (by walk_at "pv") (by walk_at "pv") hk (by walk_at "lia") (by rw [List.getElem?_map, he0]; rfl) (.inl rfl) (by intro _ _ _; with_unfolding_all rfl)) hie (by walk_at "at2") rfl rfl) (by walk_at "pv") (by walk_at "op")) rfl (by walk_at "sto") ?_
  refine SV.ifF (p := g.fold + p + 1 - 1 < g.cm) (by walk_at "lia") (by walk_at "pt") ?_
  refine SV.ifF (p := g.fold + g.es.length < g.fold + p + 1 - 1) (by walk_at "lia") (PT.cmp' (by walk_at "pv") (PV.methF0 (j := 1) (by walk_at "pv") h0 rfl rfl fun Q q => ct_rl_last (h.cons _) q) (by walk_at "op") rfl) ?_
  refine SV.expr (EV.methP (j := 4) (vs' := [.ref l]) (by walk_at "pv") h1 rfl (by walk_at "pvl") rfl rfl rfl (ct_un_trunc (At.tl h1) (At.tl h2) (At.tl hk) hne h.usl (by walk_at "lia") (hn.cons _) hr (by simp only [LG.off]; walk_at "lia") fun ul' => ⟨_, .swap .., ?_⟩)) rfl rfl
  have e : g.fold + (p : Int) + 1 = (g.upd ul' p ns).off := rfl
  rw [e]
  obtain ⟨s0, s3, s4, ses, sjk, ssn⟩ := h.set_ua (new := (g.upd ul' p ns).uao) h1
  have hin : (g.upd ul' p ns).In ((ul', .list (ers ns)) :: M.set i1 (g.upd ul' p ns).uao) := by
    have hl1 := h.len
    have ed : (g.upd ul' p ns).us = ns := by show (g.es.take p ++ ns).drop p = ns; rw [List.drop_left' (by rw [List.length_take]; walk_at "lia")]
    have et : (g.upd ul' p ns).ss = g.ss := by
      show (g.es.take p ++ ns).take p ++ g.es.drop p = g.es.take g.κ ++ g.junk
      rw [List.take_left' (by rw [List.length_take]; walk_at "lia"), List.take_append_drop, h.j hκ, hκ, List.take_length, List.append_nil]
    refine ⟨⟨?_, ?_, ?_, ?_, h.fold, h.si⟩, .tail _ s0, .tail _ (at_set_eq h1).mem, ?_, .tail _ s3, ?_, ?_, ?_, ssn.cons _⟩
    · show p ≤ (g.es.take p ++ ns).length; rw [List.length_append, List.length_take]; walk_at "lia"
    · intro he
      have he : p = (g.es.take p ++ ns).length := he
      rw [List.length_append, List.length_take] at he; walk_at "lia"
    · show (g.es.take p ++ ns).length < 50; rw [List.length_append, List.length_take]; walk_at "lia"
    · show (g.es.drop p).length < 50; rw [List.length_drop]; walk_at "lia"
    · rw [LG.ull, ed]; exact .head _
    · rw [LG.ell, et]; exact .tail _ s4
    · intro e he
      rcases List.mem_append.mp he with q | q
      · exact (ses.cons _) e (List.mem_of_mem_take q)
      · exact (((hn.set_ne h1 (by simp [aoC])).cons _)) e q
    · exact (ses.cons _).sub fun e he => List.mem_of_mem_drop he
  refine (At.of hin.lao).elim fun i0' hi0' => ?_
  exact SV.ret (EV.of (PV.methF0 (j := 1) (by walk_at "pv") hi0' rfl rfl fun Q q => ct_rl_last (hin.cons _) q) (q ul' hin _))
@[reducible] noncomputable def LG.stored (g : LG) (ul : Addr) : LG := { g with ul := ul, junk := [], κ := g.es.length }
theorem ct_rl_stable {g : LG} {i1 : Nat} {t : Int} (h : g.In M) (h1 : At M i1 g.uao) (hj : g.junk = g.es.drop g.κ) (hk : g.κ < g.es.length) (ht : ∀ e, g.es.getLast? = some e → e.t = t)
    (q : ∀ ul', (g.stored ul').In ((ul', .list []) :: M.set i1 (g.stored ul').uao) → Q .none ((ul', .list []) :: M.set i1 (g.stored ul').uao)) : CT hb w prog (n + 3) 817 [.ref g.la, .int (g.fold + g.es.length), .int t] M Q := by
  obtain ⟨i0, _, i2, i3, i4, ⟨h0, _, h2, h3, h4⟩⟩ := h.ats
  refine CT.fn' (F := F_RaftLog_stable_to) (ρ := [some (.ref g.la), some (.int (g.fold + g.es.length)), some (.int t)]) F_RaftLog_stable_to_ok rfl rfl fun Lf ok => ?_
  obtain ⟨k, hkk⟩ : ∃ k, g.es.length = g.κ + k + 1 := ⟨g.es.length - g.κ - 1, by walk_at "lia"⟩
  have eoff : g.fold + (g.es.length : Int) = g.off + k := by simp only [LG.off]; walk_at "lia"
  refine SV.expr (EV.methP (j := 3) (vs' := [.int (g.fold + g.es.length), .int t]) (by walk_at "pv") h1 rfl (by walk_at "pvl") rfl rfl rfl ?_) rfl rfl
  rw [eoff]
  refine ct_un_stable (At.tl h1) (At.tl h2) h.usl (h.hus.cons _) (k := k) (by simp only [LG.us, List.length_drop]; walk_at "lia") (fun e he => ht e ?_) fun ul' => ⟨_, .swap .., SV.nil ?_⟩
  · rw [LG.us, List.getElem?_drop] at he
    rw [List.getLast?_eq_getElem?, show g.es.length - 1 = g.κ + k by walk_at "lia"]; exact he
  obtain ⟨s0, s3, s4, ses, sjk, ssn⟩ := h.set_ua (new := (g.stored ul').uao) h1
  have e : (g.ua, unO g.ud ul' (g.off + k + 1)) = (g.stored ul').uao := by simp only [LG.off, LG.stored, LG.uao]; rw [show g.fold + (g.κ : Int) + 1 + k + 1 = g.fold + (g.es.length : Int) + 1 by walk_at "lia"]
  show Q .none ((ul', .list []) :: M.set i1 (g.ua, unO g.ud ul' (g.off + k + 1)))
  rw [e]
  have ed : (g.stored ul').us = [] := List.drop_length
  have et : (g.stored ul').ss = g.ss := by
    show g.es.take g.es.length ++ [] = g.es.take g.κ ++ g.junk
    rw [hj, List.take_append_drop, List.take_length, List.append_nil]
  refine q ul' ⟨⟨Nat.le_refl _, fun _ => rfl, h.len, by show 0 < 50; decide, h.fold, h.si⟩, .tail _ s0, .tail _ (at_set_eq h1).mem, ?_, .tail _ s3, ?_, ses.cons _, fun e he => (by cases he), ssn.cons _⟩
  · rw [LG.ull, ed]; exact .head _
  · rw [LG.ell, et]; exact .tail _ s4
@[reducible] noncomputable def LG.put (g : LG) (el : Addr) : LG := { g with el := el, junk := g.es.drop g.κ }
theorem ct_lg_store {g : LG} {l : Addr} {i3 k : Nat} (h : g.In M) (h3 : At M i3 g.sao) (hl : At M k (l, .list (ers g.us))) (hk : g.κ < g.es.length) (hr : Row (g.fold + 1) g.es)
    (q : ∀ el', (g.put el').In ((el', .list (ers (g.put el').ss)) :: M.set i3 (g.put el').sao) → Q .none ((el', .list (ers (g.put el').ss)) :: M.set i3 (g.put el').sao)) : CT hb w prog (n + 2) 572 [.ref g.sa, .ref l] M Q := by
  obtain ⟨i0, i1, i2, _, i4, ⟨h0, h1, h2, _, h4⟩⟩ := h.ats
  have hκ := h.κ
  refine ct_ms_append (p := g.κ) h3 h4 hl ?_ h.ssl h.usl h.hus (by simp only [LG.ss, List.length_append, List.length_take]; walk_at "lia") ?_ fun el' => ?_
  · intro e; have := congrArg List.length e; simp only [LG.us, List.length_drop, List.length_nil] at this; walk_at "lia"
  · exact hr.drop g.κ
  have e : g.ss.take g.κ ++ g.us = (g.put el').ss := by
    show (g.es.take g.κ ++ g.junk).take g.κ ++ g.es.drop g.κ = g.es.take g.κ ++ g.es.drop g.κ
    rw [List.take_left' (by rw [List.length_take]; omega)]
  rw [e]
  have hs : (g.put el').sao = (g.sa, msO g.sd g.hd g.cf (.ref g.sn.a) g.fold g.bt el') := rfl
  rw [← hs]
  refine q el' ⟨⟨hκ, fun e => absurd e (by show ¬ g.κ = g.es.length; walk_at "lia"), h.len, by show (g.es.drop g.κ).length < 50; rw [List.length_drop]; have := h.len; walk_at "lia", h.fold, h.si⟩, .tail _ (mem_set_ne h.lao h3 (ne_of_C (by simp [aoC]))), .tail _ (mem_set_ne h.uao h3 (ne_of_C (by simp [aoC]))), .tail _ (mem_set_ne h.ull h3 (ne_of_C (by simp [aoC]))), .tail _ (at_set_eq h3).mem, .head _, (h.es.set_ne h3 (by simp [aoC])).cons _, ((h.es.set_ne h3 (by simp [aoC])).cons _).sub fun e he => List.mem_of_mem_drop he, (h.sn.set_ne h3 (by simp [aoC]) (by simp [aoC]) (by simp [aoC])).cons _⟩
end
end
section
section
variable {hb : HB} {w : World} {prog : Program} {n : Nat} {M : Led} {c : FC} {ρ : List (Option V)} {L : Led}
theorem fp_nil : ∀ e ∈ ([] : List Expr), FP hb w prog n c ρ L e := fun e h => by cases h
theorem fp_cons {e : Expr} {es : List Expr} (h : FP hb w prog n c ρ L e) (k : ∀ e ∈ es, FP hb w prog n c ρ L e) : ∀ e' ∈ e :: es, FP hb w prog n c ρ L e' := fun e' he => by
  rcases List.mem_cons.mp he with rfl | he
  · exact h
  · exact k e' he
noncomputable abbrev Big (x : Int) : Prop := -1000000000000000000000000000000 ≤ x ∧ x ≤ 1000000000000000000000000000000
theorem big_fit {x : Int} (h : Big x) : x.natAbs.log2 < 1920 := log2_fit (by rw [show -(10 ^ 30 : Int) = -1000000000000000000000000000000 by decide]; exact h.1) (by rw [show (10 ^ 30 : Int) = 1000000000000000000000000000000 by decide]; exact h.2)
variable {Q : Led → Prop}
theorem rt_varint_length {x : Int} (hx : x < 0 ∨ 18446744073709551615 < x) (hbig : Big x) (q : Q M) : RT hb w prog (n + 1) 170 [.int x] M 56 Q := by
  refine RT.fn (mk := true) (F := F_varint_length) (ρ := [some (.int x), none]) F_varint_length_ok rfl rfl fun Lf ok => ?_
  refine RS.ifT (p := x < 0 ∨ 18446744073709551615 < x) hx (by walk_at "pt") ?_
  exact RS.raise E_BadOption (i := 1) ok rfl (FP.joined (fp_cons (FP.int (by walk_at "pv") (big_fit hbig)) (fp_cons (FP.const (by decide)) (fp_cons (FP.int (by walk_at "pv") (big_fit (by decide))) fp_nil))) (by decide)) rfl q
theorem rt_Entry_size {i : Nat} {a d : Addr} {t x k : Int} {b : Array UInt8} (hi : At M i (a, .inst C_Entry d [.int t, .int x, .int k, .bytes b])) (hbs : b.size < 1000)
    (h : ((t < 0 ∨ 18446744073709551615 < t) ∧ Big t) ∨ (N64 t ∧ (x < 0 ∨ 18446744073709551615 < x) ∧ Big x) ∨ (N64 t ∧ N64 x ∧ (k < 0 ∨ 18446744073709551615 < k) ∧ Big k)) (q : Q M) : RT hb w prog (n + 2) 296 [.ref a] M 56 Q := by
  refine RT.fn (mk := true) (F := F_Entry_size) (ρ := [some (.ref a), none, none]) F_Entry_size_ok rfl rfl fun Lf ok => ?_
  refine RS.assignP ok (PV.lenB (b := b) (by walk_at "pv") (by walk_at "pv") (by lia) rfl) rfl (by walk_at "sto") ?_
  refine RS.assign rfl ?_
  rcases h with ⟨ht, hB⟩ | ⟨ht, hx, hB⟩ | ⟨ht, hx, hk, hB⟩
  · exact RE.binL (RE.binL (RE.callP (vs := [.int t]) (by walk_at "pv") F_varint_length_keep (by walk_at "pvl") rfl rfl (rt_varint_length ht hB ⟨_, _, rfl, q⟩)))
  · exact RE.binL (RE.binR (PV.callF (vs := [.int t]) (by walk_at "pv") F_varint_length_keep (by walk_at "pvl") rfl rfl fun Q q => ct_varint_length ht.1 ht.2 q) (RE.callP (vs := [.int x]) (by walk_at "pv") F_varint_length_keep (by walk_at "pvl") rfl rfl (rt_varint_length hx hB ⟨_, _, rfl, q⟩)))
  · exact RE.binR (PV.bin (PV.callF (vs := [.int t]) (by walk_at "pv") F_varint_length_keep (by walk_at "pvl") rfl rfl fun Q q => ct_varint_length ht.1 ht.2 q) (PV.callF (vs := [.int x]) (by walk_at "pv") F_varint_length_keep (by walk_at "pvl") rfl rfl fun Q q => ct_varint_length hx.1 hx.2 q) (by walk_at "op")) (RE.callP (vs := [.int k]) (by walk_at "pv") F_varint_length_keep (by walk_at "pvl") rfl rfl (rt_varint_length hk hB ⟨_, _, rfl, q⟩))
theorem ct_law_no_size {t x k : Int} {Q : V → Led → Prop} (h : ((t < 0 ∨ 18446744073709551615 < t) ∧ Big t) ∨ (N64 t ∧ (x < 0 ∨ 18446744073709551615 < x) ∧ Big x) ∨ (N64 t ∧ N64 x ∧ (k < 0 ∨ 18446744073709551615 < k) ∧ Big k)) (q : Q (.bool true) M) : CT hb w prog (n + 4) 965 [.int t, .int x, .int k] M Q := by
  refine CT.drop (CT.fn' (F := F__law_no_size) (ρ := [some (.int t), some (.int x), some (.int k)]) F__law_no_size_ok rfl rfl fun Lf ok => ?_)
  refine SV.tryX E_BadOption (i := 1) rfl ok rfl rfl ?_
  refine RS.expr rfl rfl (RE.meth0 rfl ?_)
  refine EV.callC (vs := [.int t, .int x, .int k, .bytes #[]]) C_Entry (by walk_at "pv") (by walk_at "pvl") rfl rfl fun a d => ct_Entry_init ⟨rfl, _, .swap .., a, d, 296, C_Entry, [.int t, .int x, .int k, .bytes #[]], 0, 2, rfl, rfl, rfl, ?_⟩
  refine rt_Entry_size (i := 1) rfl (by decide) h ⟨_, _, rfl, fun ρ' => SVA.retTrue ?_⟩
  exact ⟨_, List.sublist_cons_self _ _, q⟩
theorem rt_slice {g : LG} {hi m : Int} (h : g.In M) (hh : g.fold ≤ hi) (q : Q M) : RT hb w prog (n + 4) 887 [.ref g.la, .int g.fold, .int hi, .int m] M 80 Q := by
  obtain ⟨i0, i1, i2, i3, i4, ⟨h0, h1, h2, h3, h4⟩⟩ := h.ats
  have hf := h.fold
  refine RT.fn (mk := true) (F := F_RaftLog_slice) (ρ := [some (.ref g.la), some (.int g.fold), some (.int hi), some (.int m), none, none, none]) F_RaftLog_slice_ok rfl rfl fun Lf ok => ?_
  refine RS.ifF (p := hi < g.fold) (by walk_at "lia") (by walk_at "pt") ?_
  refine RS.ifT (p := g.fold < g.fold + 1) (by walk_at "lia") (PT.cmp' (by walk_at "pv") (PV.methF0 (j := 0) (by walk_at "pv") h0 rfl rfl fun Q q => ct_rl_first (h.cons _) q) (by walk_at "op") rfl) ?_
  exact RS.raise E_Compacted (i := 1) ok rfl (FP.joined (fp_cons (FP.const (by decide)) (fp_cons (FP.int (by walk_at "pv") (big_fit (by walk_at "lia"))) (fp_cons (FP.const (by decide)) (fp_cons (FP.int (PV.methF0 (j := 0) (by walk_at "pv") h0 rfl rfl fun Q q => ct_rl_first (h.cons _) q) (big_fit (by walk_at "lia"))) fp_nil)))) (by decide)) rfl q
theorem rt_entries {g : LG} {m : Int} (h : g.In M) (q : Q M) : RT hb w prog (n + 6) 873 [.ref g.la, .int g.fold, .int m] M 80 Q := by
  obtain ⟨i0, i1, i2, i3, i4, ⟨h0, h1, h2, h3, h4⟩⟩ := h.ats
  refine RT.fn (mk := true) (F := F_RaftLog_entries) (ρ := [some (.ref g.la), some (.int g.fold), some (.int m)]) F_RaftLog_entries_ok rfl rfl fun Lf ok => ?_
  refine RS.ifF (p := g.fold + g.es.length < g.fold) (by walk_at "lia") (PT.cmp' (by walk_at "pv") (PV.methF0 (j := 1) (by walk_at "pv") h0 rfl rfl fun Q q => ct_rl_last (h.cons _) q) (by walk_at "op") rfl) ?_
  exact RS.ret (RE.methP (j := 15) (vs' := [.int g.fold, .int (g.fold + g.es.length + 1), .int m]) (by walk_at "pv") h0 rfl (.cons (by walk_at "pv") (.cons (PV.bin (PV.methF0 (j := 1) (by walk_at "pv") h0 rfl rfl fun Q q => ct_rl_last (h.cons _) q) (by walk_at "pv") (by walk_at "op")) (.cons (by walk_at "pv") .nil rfl) rfl) rfl) rfl rfl rfl (rt_slice (h.cons _) (by walk_at "lia") ⟨_, _, rfl, q⟩))
end
end
section
theorem pylong_no {x y : Int} (h : y.natAbs < 1073741824) : Builtin.divisionGoesByPylong x y = false := by
  have h2 : y.natAbs.log2 / 30 = 0 := by
    apply Nat.div_eq_of_lt
    by_cases q : y.natAbs = 0
    · rw [q]; decide
    · exact (Nat.log2_lt q).mpr (by rw [show (2 : Nat) ^ 30 = 1073741824 by decide]; exact h)
  have : decide ((if y == 0 then 0 else y.natAbs.log2 / 30 + 1) > 300) = false := by rw [h2]; apply decide_eq_false; split <;> lia
  unfold Builtin.divisionGoesByPylong
  show (decide ((if y == 0 then 0 else y.natAbs.log2 / 30 + 1) > 300) && _) = false
  rw [this]; rfl
noncomputable def wd (x : Int) : Int := if x < 128 then 1 else if x < 16384 then 2 else 3
noncomputable def wt (e : ER) : Int := wd e.t + wd e.i + wd e.k + wd e.b.size + e.b.size
section
variable {hb : HB} {w : World} {prog : Program} {n : Nat} {M : Led} {Q : V → Led → Prop} {c : FC} {ρ : List (Option V)} {L : Led}
theorem PO.fdiv' {a b : Int} (h : 0 < b) (h2 : b < 1000000000) : PO hb w prog n c ρ L (binaryOp .FloorDiv) (.int a) (.int b) (.int (a / b)) := by
  have := PO.fdiv (hb := hb) (w := w) (prog := prog) (n := n) (c := c) (ρ := ρ) (L := L) (a := a) (b := b) (by lia) (pylong_no (by omega))
  rwa [Int.fdiv_eq_ediv_of_nonneg _ (by lia)] at this
theorem PO.fmod' {a b : Int} (h : 0 < b) (h2 : b < 1000000000) : PO hb w prog n c ρ L (binaryOp .Mod) (.int a) (.int b) (.int (a % b)) := by
  have := PO.fmod (hb := hb) (w := w) (prog := prog) (n := n) (c := c) (ρ := ρ) (L := L) (a := a) (b := b) (by omega) (pylong_no (by omega))
  rwa [Int.fmod_eq_emod_of_nonneg _ (by omega)] at this
theorem ct_law_folds (q : ∀ r, Q (.ref r) ((r, .list (ivs [1, 126, 16380, 125, 7])) :: M)) : CT hb w prog (n + 1) 908 [] M Q := by
  refine CT.fn' (F := F__law_folds) (ρ := []) F__law_folds_ok rfl rfl fun Lf ok => ?_
  exact SV.ret (EV.list (PVL.av (vs := [.int 1, .int 126, .int 16380, .int 125, .int 7]) (by walk_at "pvl") ⟨by decide, q⟩))
theorem ct_law_terms (q : ∀ r, Q (.ref r) ((r, .list (ivs [1, 127, 128, 16383, 16384, 3])) :: M)) : CT hb w prog (n + 1) 915 [] M Q := by
  refine CT.fn' (F := F__law_terms) (ρ := []) F__law_terms_ok rfl rfl fun Lf ok => ?_
  exact SV.ret (EV.list (PVL.av (vs := [.int 1, .int 127, .int 128, .int 16383, .int 16384, .int 3]) (by walk_at "pvl") ⟨by decide, q⟩))
theorem ct_law_lengths (q : ∀ r, Q (.ref r) ((r, .list (ivs [0, 1, 127, 3, 126, 128, 2])) :: M)) : CT hb w prog (n + 1) 922 [] M Q := by
  refine CT.fn' (F := F__law_lengths) (ρ := []) F__law_lengths_ok rfl rfl fun Lf ok => ?_
  exact SV.ret (EV.list (PVL.av (vs := [.int 0, .int 1, .int 127, .int 3, .int 126, .int 128, .int 2]) (by walk_at "pvl") ⟨by decide, q⟩))
theorem ct_law_limits (q : ∀ r, Q (.ref r) ((r, .list (ivs [0, 9, 20, 140, 11, 270, 136, 700])) :: M)) : CT hb w prog (n + 1) 929 [] M Q := by
  refine CT.fn' (F := F__law_limits) (ρ := []) F__law_limits_ok rfl rfl fun Lf ok => ?_
  exact SV.ret (EV.list (PVL.av (vs := [.int 0, .int 9, .int 20, .int 140, .int 11, .int 270, .int 136, .int 700]) (by walk_at "pvl") ⟨by decide, q⟩))
noncomputable def draw (ns : List Int) (i : Nat) : Int := ns.getD (i % ns.length) 0 + 7919 * ((i / ns.length : Nat) : Int)
theorem ct_law_draw {ns : List Int} {l : Addr} {i j : Nat} (hl : At M j (l, .list (ivs ns))) (h0 : 0 < ns.length) (h1 : ns.length < 100) (hi : i < 100) (q : Q (.int (draw ns i)) M) : CT hb w prog (n + 1) 936 [.ref l, .int i] M Q := by
  unfold draw at q
  refine CT.fn' (F := F__law_draw) (ρ := [some (.ref l), some (.int i)]) F__law_draw_ok rfl rfl fun Lf ok => ?_
  have hz : (ivs ns).length < 2 ^ 40 := by rw [List.length_map]; lia
  have hz0 : ((ivs ns).length : Int) = (ns.length : Int) := by rw [List.length_map]
  have hm : i % ns.length < ns.length := Nat.mod_lt _ h0
  have hdl : i / ns.length < 100 := Nat.lt_of_le_of_lt (Nat.div_le_self _ _) hi
  refine SV.ret (EV.of (PV.bin (a := .int (ns.getD (i % ns.length) 0)) (b := .int (7919 * ((i / ns.length : Nat) : Int))) (PV.itemL (k := (i : Int) % (ivs ns).length) (j := i % ns.length) (by walk_at "pv") (PV.bin (by walk_at "pv") (by walk_at "pv") (PO.fmod' (by lia) (by lia))) hl (by lia) ?_ (.inl ?_) (by intro _ _ _; with_unfolding_all rfl)) (PV.bin (b := .int ((i / ns.length : Nat) : Int)) PV.int ?_ (PO.mul (IntMulOk.of_left (by decide)))) (by walk_at "op")) q)
  · rw [List.getElem?_map, List.getElem?_eq_getElem hm, List.getD_eq_getElem?_getD, List.getElem?_eq_getElem hm]; rfl
  · rw [hz0]; exact (Int.natCast_emod _ _).symm
  · rw [show (((i / ns.length : Nat) : Int)) = (i : Int) / (ivs ns).length by rw [hz0]; exact Int.natCast_ediv _ _]
    exact PV.bin (by walk_at "pv") (by walk_at "pv") (PO.fdiv' (by omega) (by omega))
theorem ct_law_width {x : Int} (q : Q (.int (wd x)) M) : CT hb w prog (n + 1) 943 [.int x] M Q := by
  refine CT.fn' (F := F__law_width) (ρ := [some (.int x)]) F__law_width_ok rfl rfl fun Lf ok => ?_
  unfold wd at q
  refine SV.ifp (p := x < 128) (by walk_at "pt") (fun h => ?_) fun h => SV.done ?_
  · rw [if_pos h] at q; exact SV.ret (EV.of (by walk_at "pv") q)
  rw [if_neg h] at q
  refine SV.ifp (p := x < 16384) (by walk_at "pt") (fun h => ?_) fun h => SV.done ?_
  · rw [if_pos h] at q; exact SV.ret (EV.of (by walk_at "pv") q)
  rw [if_neg h] at q; exact SV.ret (EV.of (by walk_at "pv") q)
theorem ct_law_weight {e : ER} {r : Addr} {j : Nat} (hr : At M j (r, .tup [.int e.t, .int e.i, .int e.k, .bytes e.b])) (hbs : e.b.size < 1000) (q : Q (.int (wt e)) M) : CT hb w prog (n + 2) 948 [.ref r] M Q := by
  refine CT.drop (CT.fn' (F := F__law_weight) (ρ := [some (.ref r), none]) F__law_weight_ok rfl rfl fun Lf ok => ?_)
  have h3 : [V.int e.t, .int e.i, .int e.k, .bytes e.b][3]? = some (.bytes e.b) := rfl
  refine SV.assignP (b := .int e.b.size) ok (PV.lenB (b := e.b) (by walk_at "pv") (PV.itemTu (j := 3) (by walk_at "pv") PV.int hr (by simp) h3 (by intro _ _ _; with_unfolding_all rfl)) (by lia) rfl) rfl (by walk_at "sto") ?_
  refine SV.ret (EV.bin (EV.bin ?_))
  refine EV.callb (f := "sum") (by walk_at "pv") (AV.cons (EV.map [gp "_law_width" (V.ref 943)] ok (CSOk.of (by kernel_rfl)) (gv_cons G__law_width gv_nil) ?_ rfl))
  refine EV.tupUpto (EV.of (v := .ref r) (by walk_at "pv") ⟨r, j, 3, _, rfl, PV.int, hr, by simp, by simp, fun t => ?_⟩)
  refine ⟨[.int e.t, .int e.i, .int e.k], fun k ws A => A = [] ∧ ws = ivs ((([e.t, e.i, e.k]).map wd).take k), .tup (.head _), by simp, ⟨rfl, rfl⟩, ?_, ?_⟩
  · rintro k v ws A C acc okc hv hk ⟨rfl, hws⟩
    have hx : ∃ x, [e.t, e.i, e.k][k]? = some x ∧ v = .int x := by
      match k, hv with
      | 0, hv => exact ⟨_, rfl, (Option.some.inj hv).symm⟩
      | 1, hv => exact ⟨_, rfl, (Option.some.inj hv).symm⟩
      | 2, hv => exact ⟨_, rfl, (Option.some.inj hv).symm⟩
      | k + 3, hv => simp at hv
    obtain ⟨x, hx, rfl⟩ := hx
    refine EV.callP (vs := [.int x]) (by walk_at "pv") F__law_width_keep (by walk_at "pvl") rfl rfl (ct_law_width ⟨_, .refl _, [], rfl, rfl, ?_⟩)
    rw [hws, List.take_add_one, List.getElem?_map, hx]
    simp [ivs]
  · rintro ws A hl ⟨rfl, rfl⟩ rs
    refine AV.nil (CX.sum (i := 1) (ns := ([e.t, e.i, e.k]).map wd) rfl ⟨_, .refl _, ?_⟩)
    refine EV.callP (vs := [.int e.b.size]) (by walk_at "pv") F__law_width_keep (by walk_at "pvl") rfl rfl (ct_law_width ⟨_, .refl _, fun x y hx hy => PO.add.ex hx hy ?_⟩)
    refine EV.of (v := .int e.b.size) (by walk_at "pv") fun x y hx hy => PO.add.ex hx hy ⟨_, .cons _ (.cons _ (.refl _)), ?_⟩
    have : ([e.t, e.i, e.k].map wd).sum + wd e.b.size + e.b.size = wt e := by unfold wt; simp; lia
    rw [this]; exact q
end
end
section
noncomputable def endsL (W : List Int) (lo : Nat) (m : Int) : List Nat := (List.range' (lo + 1) (W.length - lo)).filter fun k => decide (k = lo + 1 ∨ ((W.drop lo).take (k - lo)).sum ≤ m)
@[reducible] noncomputable def nvs (ns : List Nat) : List V := ns.map fun (k : Nat) => .int (k : Int)
local macro_rules | `(tactic| walk_at "pv") => `(tactic| focus ((with_reducible apply PV.cell); (with_reducible assumption); (with_reducible assumption); walk_at "at"; done))
theorem endsL_snoc {W : List Int} {lo k : Nat} {m : Int} : (List.range' (lo + 1) (k + 1)).filter (fun k => decide (k = lo + 1 ∨ ((W.drop lo).take (k - lo)).sum ≤ m)) = (List.range' (lo + 1) k).filter (fun k => decide (k = lo + 1 ∨ ((W.drop lo).take (k - lo)).sum ≤ m)) ++ (if lo + 1 + k = lo + 1 ∨ ((W.drop lo).take (k + 1)).sum ≤ m then [lo + 1 + k] else []) := by
  rw [List.range'_1_concat, List.filter_append]
  congr 1
  rw [show k + 1 = lo + 1 + k - lo by lia]
  by_cases h : lo + 1 + k = lo + 1 ∨ ((W.drop lo).take (lo + 1 + k - lo)).sum ≤ m
  · rw [if_pos h, List.filter_cons_of_pos (by simpa using h)]; rfl
  · rw [if_neg h, List.filter_cons_of_neg (by simpa using h)]; rfl
section
variable {hb : HB} {w : World} {prog : Program} {n : Nat} {M : Led} {Q : V → Led → Prop} {c : FC} {ρ : List (Option V)} {L : Led}
inductive CompF (hb : HB) (w : World) (prog : Program) (n : Nat) (c : FC) (ρ : List (Option V)) (x : Str) (elt : Expr) (ifs : List Expr) (sc : Scope) (gl : List (Str × V)) (cl : List (Str × Addr)) (nd : [x].Nodup) (Q : V → Led → Prop) (b : V) (L₀ : Led) : Prop
  | mk (len : Nat) (item : Nat → V) (need : Led → Prop) (I : Nat → List V → Led → Prop) (h0 : Src hb w prog b (c.fr ρ :: L₀) len item need) (h1 : len < 2 ^ 20) (h2 : I 0 [] L₀) (h3 : (∀ k ws L', I k ws L' → ws.length ≤ k)) (h4 : (∀ L', need L')) (h5 : (∀ (k : Nat) (ws : List V) (L' : Led) (acc C : Addr) (cc : FC), cc = c.comp sc [x] nd gl cl C → FOk cc → k < len → I k ws L' → CTurn hb w prog n cc [some (item k)] ((acc, .list ws) :: c.fr ρ :: L') ifs elt (fun b L'' => ∃ L₃, L''.Perm ((acc, .list ws) :: c.fr ρ :: L₃) ∧ I (k + 1) (ws ++ [b]) L₃) (fun L'' => ∃ L₃, L''.Perm ((acc, .list ws) :: c.fr ρ :: L₃) ∧ I (k + 1) ws L₃))) (h6 : (∀ ws L', I len ws L' → ∀ r, Q (.ref r) ((r, .list ws) :: L'))) : CompF hb w prog n c ρ x elt ifs sc gl cl nd Q b L₀
theorem EV.compF {x : Str} {px : Pos} {elt iter : Expr} {ifs : List Expr} {sc : Scope} {pos : Pos} {Q : V → Led → Prop} (gl : List (Str × V)) (cl : List (Str × Addr)) (ok : FOk c) (cs : CSOk sc [x] gl) (gv : ∀ p ∈ gl, GV p.1 p.2)
    (h : EV hb w prog n c ρ L iter fun b L₀ => CompF hb w prog n c ρ x elt ifs sc gl cl cs.nd Q b L₀)
    (hcl : closureFor sc c.env = pure cl) (hs : ∀ x, foldedSetIterable iter c.env x = pure x := by intro _; rfl) : EV hb w prog n c ρ L (.ListComp elt [⟨.Name x px, iter, ifs, 0⟩] sc pos) Q :=
  EV.comp 0 [x] gl cl ok cs gv rfl (AC.mono h fun b L' hh => by
    obtain ⟨L₀, e, len, item, need, I, h1, h2, h3, h4, h5, turn, fin⟩ := hh
    exact ⟨L₀, e, len, item, need, I, h1, h2, h3, h4, fun _ _ L' _ _ _ _ => h5 _, fun k ws L' ρc C acc hρ hk hI => by
    rw [one_set hρ]
    exact turn k ws L' acc C _ rfl (cs.fok ok gv cl C) hk hI, fin⟩) hcl hs
theorem three {α : Type} {xs : List α} {f : α → Str} {a b c : Str} (h : xs.map f = [a, b, c]) : ∃ x y z, xs = [x, y, z] ∧ f x = a ∧ f y = b ∧ f z = c := by
  obtain ⟨x, l, rfl, hx, h⟩ := List.map_eq_cons_iff.mp h
  obtain ⟨y, l, rfl, hy, h⟩ := List.map_eq_cons_iff.mp h
  obtain ⟨z, l, rfl, hz, h⟩ := List.map_eq_cons_iff.mp h
  obtain rfl := List.map_eq_nil_iff.mp h
  exact ⟨x, y, z, rfl, hx, hy, hz⟩
theorem ct_law_ends {l : Addr} {W : List Int} {lo j : Nat} {m : Int} (hl : At M j (l, .list (ivs W))) (hlo : lo ≤ W.length) (hlen : W.length < 1000) (q : ∀ r, Q (.ref r) ((r, .list (nvs (endsL W lo m))) :: M)) : CT hb w prog (n + 1) 953 [.ref l, .int lo, .int m] M Q := by
  refine CT.drop (CT.fnC (F := F__law_ends) F__law_ends_ok rfl fun Lf cl hcl hnm ok hc => ?_)
  obtain ⟨⟨x1, aL⟩, ⟨x2, aO⟩, ⟨x3, aW⟩, rfl, rfl, rfl, rfl⟩ := three hnm
  have hL : CellV (F__law_ends.fc Lf) "limit" aL := hc _ (.head _)
  have hO : CellV (F__law_ends.fc Lf) "lo" aO := hc _ (.tail _ (.head _))
  have hW : CellV (F__law_ends.fc Lf) "weights" aW := hc _ (.tail _ (.tail _ (.head _)))
  have ecl : cellsFrom (Lf + 1) (sScope F__law_ends.st).names [] = [(Str.ofString "limit", Lf + 1 + 1 + 1), (Str.ofString "lo", Lf + 1 + 1), (Str.ofString "weights", Lf + 1)] := by kernel_rfl
  have haddr : aL = Lf + 1 + 1 + 1 ∧ aO = Lf + 1 + 1 ∧ aW = Lf + 1 := by
    rw [ecl] at hcl
    simp only [List.cons.injEq, Prod.mk.injEq, and_true, true_and] at hcl
    exact hcl
  clear hc hnm hcl ecl
  refine SV.from (L₀ := (aL, .cell (some (.int m))) :: (aO, .cell (some (.int lo))) :: (aW, .cell (some (.ref l))) :: M) (.refl _) ?_
  have hz : (ivs W).length < 2 ^ 40 := by rw [List.length_map]; lia
  refine SV.ret (EV.compF [gp "sum" (V.lit (.builtin "sum"))] [("weights", aW), ("lo", aO), ("limit", aL)] ok (CSOk.of (by kernel_rfl)) (gv_cons G_sum gv_nil) ?_ (by obtain ⟨rfl, rfl, rfl⟩ := haddr; with_unfolding_all rfl))
  refine EV.calltP (f := "range") (vs := [.int (lo + 1), .int ((ivs W).length + 1)]) (by walk_at "pv") (.cons (by walk_at "pv") (.cons (by walk_at "pv") .nil rfl) rfl) rfl rfl (CX.range2 fun r => ⟨_, .swap .., ?_⟩)
  have hrl : rlen ((lo : Int) + 1) ((ivs W).length + 1) = W.length - lo := by unfold rlen; rw [List.length_map]; lia
  generalize hL₀ : (r, AO.rng ((lo : Int) + 1) ((ivs W).length + 1)) :: (aL, AO.cell (some (.int m))) :: (aO, .cell (some (.int lo))) :: (aW, .cell (some (.ref l))) :: M = L₀
  have a0 : At L₀ 0 (r, AO.rng ((lo : Int) + 1) ((ivs W).length + 1)) := hL₀ ▸ rfl
  have a1 : At L₀ 1 (aL, AO.cell (some (.int m))) := hL₀ ▸ rfl
  have a2 : At L₀ 2 (aO, AO.cell (some (.int lo))) := hL₀ ▸ rfl
  have a3 : At L₀ 3 (aW, AO.cell (some (.ref l))) := hL₀ ▸ rfl
  have a4 : At L₀ (j + 4) (l, AO.list (ivs W)) := hL₀ ▸ hl
  refine ⟨_, _, _, fun k ws L' => ∃ A, L' = A ++ L₀ ∧ ws = nvs ((List.range' (lo + 1) k).filter fun k => decide (k = lo + 1 ∨ ((W.drop lo).take (k - lo)).sum ≤ m)), Src.range (i := 1) a0 (by rw [List.length_map]; lia), by rw [hrl]; omega, ⟨[], rfl, rfl⟩, ?_, fun _ => trivial, ?_, ?_⟩
  · rintro k ws L' ⟨A, rfl, rfl⟩
    rw [List.length_map]
    exact Nat.le_trans (List.length_filter_le _ _) (by rw [List.length_range']; exact Nat.le_refl _)
  · rintro k ws L' acc C cc hcc okc hk ⟨A, rfl, rfl⟩
    rw [hrl] at hk
    clear hL₀
    have b1 := a1.app (A := A)
    have b2 := a2.app (A := A)
    have b3 := a3.app (A := A)
    have b4 := a4.app (A := A)
    have cL : CellV cc "limit" aL := by subst hcc; exact ⟨by kernel_rfl, rfl, rfl⟩
    have cO : CellV cc "lo" aO := by subst hcc; exact ⟨by kernel_rfl, rfl, rfl⟩
    have cW : CellV cc "weights" aW := by subst hcc; exact ⟨by kernel_rfl, rfl, rfl⟩
    have hx1 : cc.nm.l = [Str.ofString "k"] := by subst hcc; rfl
    have hx2 : cc.gl = [gp "sum" (V.lit (.builtin "sum"))] := by subst hcc; rfl
    have pk : ∀ L' pos, PV ⟨hb.h, some (F__law_ends.fc Lf).env⟩ w prog n cc [some (.int ((lo : Int) + 1 + k))] L' (.Name "k" pos) (.int ((lo : Int) + 1 + k)) := fun L' pos => PV.loc okc (i := 0) (by rw [hx1]; rfl) rfl
    have ps : ∀ L' pos, PV ⟨hb.h, some (F__law_ends.fc Lf).env⟩ w prog n cc [some (.int ((lo : Int) + 1 + k))] L' (.Name "sum" pos) (.lit (.builtin "sum")) := fun L' pos => PV.glob okc (i := 0) (by rw [hx2]; rfl)
    have hk0 : lo + k < W.length := by omega
    clear hcc hx1 hx2
    have es := endsL_snoc (W := W) (lo := lo) (k := k) (m := m)
    have yes : ∀ (B : Led) (pos : Pos), (lo + 1 + k = lo + 1 ∨ ((W.drop lo).take (k + 1)).sum ≤ m) → EV ⟨hb.h, some (F__law_ends.fc Lf).env⟩ w prog n cc [some (.int ((lo : Int) + 1 + k))] (B ++ ((acc, .list (nvs ((List.range' (lo + 1) k).filter fun k => decide (k = lo + 1 ∨ ((W.drop lo).take (k - lo)).sum ≤ m)))) :: (F__law_ends.fc Lf).fr [] :: (A ++ L₀))) (.Name "k" pos) fun b L'' => ∃ L₃, L''.Perm ((acc, .list (nvs ((List.range' (lo + 1) k).filter fun k => decide (k = lo + 1 ∨ ((W.drop lo).take (k - lo)).sum ≤ m)))) :: (F__law_ends.fc Lf).fr [] :: L₃) ∧ ∃ A, L₃ = A ++ L₀ ∧ nvs ((List.range' (lo + 1) k).filter fun k => decide (k = lo + 1 ∨ ((W.drop lo).take (k - lo)).sum ≤ m)) ++ [b] = nvs ((List.range' (lo + 1) (k + 1)).filter fun k => decide (k = lo + 1 ∨ ((W.drop lo).take (k - lo)).sum ≤ m)) := fun B pos hy => by
      refine EV.of (pk _ _) ⟨(B ++ A) ++ L₀, mid2, B ++ A, rfl, ?_⟩
      rw [es, if_pos hy]
      simp only [nvs, List.map_append, List.map_cons, List.map_nil]
      congr 2
    have no : ∀ B : Led, ¬(lo + 1 + k = lo + 1 ∨ ((W.drop lo).take (k + 1)).sum ≤ m) → ∃ L₃, (B ++ ((acc, AO.list (nvs ((List.range' (lo + 1) k).filter fun k => decide (k = lo + 1 ∨ ((W.drop lo).take (k - lo)).sum ≤ m)))) :: (F__law_ends.fc Lf).fr [] :: (A ++ L₀))).Perm ((acc, .list (nvs ((List.range' (lo + 1) k).filter fun k => decide (k = lo + 1 ∨ ((W.drop lo).take (k - lo)).sum ≤ m)))) :: (F__law_ends.fc Lf).fr [] :: L₃) ∧ ∃ A, L₃ = A ++ L₀ ∧ nvs ((List.range' (lo + 1) k).filter fun k => decide (k = lo + 1 ∨ ((W.drop lo).take (k - lo)).sum ≤ m)) = nvs ((List.range' (lo + 1) (k + 1)).filter fun k => decide (k = lo + 1 ∨ ((W.drop lo).take (k - lo)).sum ≤ m)) := fun B hy => by
      refine ⟨(B ++ A) ++ L₀, mid2, B ++ A, rfl, ?_⟩
      rw [es, if_neg hy, List.append_nil]
    generalize hws : nvs ((List.range' (lo + 1) k).filter fun k => decide (k = lo + 1 ∨ ((W.drop lo).take (k - lo)).sum ≤ m)) = ws at yes no ⊢
    refine TV.boolop (AllT.consO (PT.tv (p := (lo : Int) + 1 + k = lo + 1) (PT.cmp' (pk _ _) (by walk_at "pv") (by walk_at "op") rfl) fun t ht => ?_))
    cases t with
    | true => exact yes [] _ (.inl (by have := ht.mp rfl; lia))
    | false =>
      have hk1 : ¬ (lo : Int) + 1 + k = lo + 1 := fun h => by cases ht.mpr h
      refine AllT.consO (TV.cmp (EV.callb (f := "sum") (ps _ _) (AV.cons (EV.slice (EV.of (v := .ref l) (by walk_at "pv") ⟨l, some lo, some ((lo : Int) + 1 + k), _, ivs W, rfl, (show PV _ _ _ _ _ _ _ _ _ by walk_at "pv"), pk _ _, At.tl (At.tl b4), by rw [List.length_map]; lia, fun s => AV.nil ?_⟩)))) rfl)
      rw [show vpick (ivs W) (some (lo : Int)) (some ((lo : Int) + 1 + k)) = ivs ((W.drop lo).take (k + 1)) by rw [show (lo : Int) + 1 + k = ((lo + (k + 1) : Nat) : Int) by lia, vpick_run (by lia)]; simp [ivs, List.map_take, List.map_drop]]
      refine CX.sum (i := 1) rfl ⟨_, .refl _, EV.of (v := .int m) (by walk_at "pv") fun x y hx hy => PO.le.ex hx hy ⟨decide (((W.drop lo).take (k + 1)).sum ≤ m), rfl, ?_⟩⟩
      by_cases hs : ((W.drop lo).take (k + 1)).sum ≤ m
      · rw [decide_eq_true hs, if_pos rfl]
        exact yes [_] _ (.inr hs)
      · rw [decide_eq_false hs]
        exact AllT.nilO (no [_] fun h => h.elim (fun h => hk1 (by lia)) hs)
  · rintro ws L' ⟨A, rfl, rfl⟩ r'
    rw [hrl]
    refine ⟨(r', _) :: M, ?_, q r'⟩
    subst hL₀
    exact .cons_cons _ ((List.Sublist.cons _ (.cons _ (.cons _ (.cons _ (.refl _))))).trans (List.sublist_append_right A _))
end
end
section
local macro_rules | `(tactic| walk_at "pv") => `(tactic| focus ((with_reducible apply PV.cell); (with_reducible assumption); (with_reducible assumption); walk_at "at"; done))
structure Tab (W : List Int) (m : Int) (best : List Int) : Prop where
  zero : best[0]? = some 0
  some_ : ∀ k, 0 < k → k < best.length → ∃ (i : Nat) (x : Int), i < k ∧ k ∈ endsL W i m ∧ best[i]? = some x ∧ best[k]? = some (1 + x)
  le : ∀ (k i : Nat) (x y : Int), i < k → k ∈ endsL W i m → best[i]? = some x → best[k]? = some y → y ≤ 1 + x
theorem mem_ends_succ {W : List Int} {k : Nat} {m : Int} (h : k < W.length) : k + 1 ∈ endsL W k m := by
  unfold endsL
  rw [List.mem_filter]
  exact ⟨by rw [List.mem_range'_1]; lia, by simp⟩
theorem four {α : Type} {xs : List α} {f : α → Str} {a b c d : Str} (h : xs.map f = [a, b, c, d]) : ∃ x y z u, xs = [x, y, z, u] ∧ f x = a ∧ f y = b ∧ f z = c ∧ f u = d := by
  obtain ⟨x, l, rfl, hx, h⟩ := List.map_eq_cons_iff.mp h
  obtain ⟨y, z, u, rfl, r⟩ := three h
  exact ⟨x, y, z, u, rfl, hx, r⟩
theorem set_of_perm {L R : Led} {i : Nat} {p q : Addr × AO} (h : At L i p) (e : L.Perm (p :: R)) : (L.set i q).Perm (q :: R) := by
  obtain ⟨a, b⟩ := set_perm (y := q) h
  exact a.trans ((b.symm.trans e).cons_inv.cons _)
section
variable {hb : HB} {w : World} {prog : Program} {n : Nat} {M : Led} {Q : V → Led → Prop} {c : FC} {ρ : List (Option V)} {L : Led}
theorem ct_law_fewest {l : Addr} {W : List Int} {j : Nat} {m : Int} (hl : At M j (l, .list (ivs W))) (hlen : W.length < 1000) (q : ∀ best x, Tab W m best → best.length = W.length + 1 → best[W.length]? = some x → Q (.int x) M) : CT hb w prog (n + 2) 958 [.ref l, .int m] M Q := by
  refine CT.drop (CT.fnC (F := F__law_fewest) F__law_fewest_ok rfl fun Lf cl hcl hnm ok hc => ?_)
  obtain ⟨⟨x1, aK⟩, ⟨x2, aB⟩, ⟨x3, aL⟩, ⟨x4, aW⟩, rfl, rfl, rfl, rfl, rfl⟩ := four hnm
  have hK : CellV (F__law_fewest.fc Lf) "k" aK := hc _ (.head _)
  have hB : CellV (F__law_fewest.fc Lf) "best" aB := hc _ (.tail _ (.head _))
  have hL : CellV (F__law_fewest.fc Lf) "limit" aL := hc _ (.tail _ (.tail _ (.head _)))
  have hW : CellV (F__law_fewest.fc Lf) "weights" aW := hc _ (.tail _ (.tail _ (.tail _ (.head _))))
  have ecl : cellsFrom (Lf + 1) (sScope F__law_fewest.st).names [] = [(Str.ofString "k", Lf + 1 + 1 + 1 + 1), (Str.ofString "best", Lf + 1 + 1 + 1), (Str.ofString "limit", Lf + 1 + 1), (Str.ofString "weights", Lf + 1)] := by kernel_rfl
  have haddr : aK = Lf + 1 + 1 + 1 + 1 ∧ aB = Lf + 1 + 1 + 1 ∧ aL = Lf + 1 + 1 ∧ aW = Lf + 1 := by
    rw [ecl] at hcl
    simp only [List.cons.injEq, Prod.mk.injEq, and_true, true_and] at hcl
    exact hcl
  clear hc hnm hcl ecl
  refine SV.from (L₀ := (aK, .cell none) :: (aB, .cell none) :: (aL, .cell (some (.int m))) :: (aW, .cell (some (.ref l))) :: M) (.refl _) ?_
  have hz : (ivs W).length < 2 ^ 40 := by rw [List.length_map]; lia
  refine SV.assignCell ok hB rfl (EV.list (PVL.av (vs := [.int 0]) (by walk_at "pvl") ⟨by decide, fun bl => ⟨2, _, rfl, ?_⟩⟩))
  refine SV.from (L₀ := (aK, .cell none) :: (aB, .cell (some (.ref bl))) :: (aL, .cell (some (.int m))) :: (aW, .cell (some (.ref l))) :: (bl, .list (ivs [0])) :: M) (by show List.Perm ((bl, .list (ivs [0])) :: (aK, .cell none) :: (aB, .cell (some (.ref bl))) :: (aL, .cell (some (.int m))) :: (aW, .cell (some (.ref l))) :: M) _; walk_at "perm") ?_
  refine SV.forRangeC ok hK ?_
  refine EV.calltP (f := "range") (vs := [.int 1, .int ((ivs W).length + 1)]) (by walk_at "pv") (.cons (by walk_at "pv") (.cons (by walk_at "pv") .nil rfl) rfl) rfl rfl (CX.range2 fun r => ⟨_, .swap .., ?_⟩)
  have hrl : rlen 1 ((ivs W).length + 1) = W.length := by unfold rlen; rw [List.length_map]; lia
  refine ⟨r, 0, 1, (ivs W).length + 1, fun k L' => ∃ A best vk, L'.Perm ((aK, .cell vk) :: (aB, .cell (some (.ref bl))) :: (aL, .cell (some (.int m))) :: (aW, .cell (some (.ref l))) :: (bl, .list (ivs best)) :: (A ++ M)) ∧ best.length = k + 1 ∧ Tab W m best, rfl, rfl, by rw [List.length_map]; lia, ?_, ?_, ?_⟩
  · refine ⟨[(r, .rng 1 ((ivs W).length + 1))], [0], none, by walk_at "perm", rfl, rfl, ?_, ?_⟩
    · intro k h0 h1; simp at h1; lia
    · intro k i x y h0 _ _ h1
      match k, h1 with
      | 0, _ => lia
  · rintro k L' hk ⟨A, best, vk, hp, hbl, tab⟩
    rw [hrl] at hk
    refine (At.of (hp.mem_iff.mpr (.head _))).elim fun i hi => ?_
    refine ⟨i, vk, hi, SV.from (set_of_perm hi hp) ?_⟩
    clear hp hi
    rw [show (1 : Int) + (k : Int) = ((k + 1 : Nat) : Int) by lia]
    refine SV.expr (EV.append (i := 4) (by walk_at "pv") rfl (EV.bin (EV.of (v := .int 1) (by walk_at "pv") (EV.callb (f := "min") (by walk_at "pv") (AV.cons (EV.compF [gp "_law_ends" (V.ref 953)] [("weights", aW), ("limit", aL), ("k", aK), ("best", aB)] ok (CSOk.of (by kernel_rfl)) (gv_cons G__law_ends gv_nil) ?_ (by obtain ⟨rfl, rfl, rfl, rfl⟩ := haddr; with_unfolding_all rfl))))))) rfl rfl
    refine EV.calltP (f := "range") (vs := [.int ((k + 1 : Nat) : Int)]) (by walk_at "pv") (.cons (by walk_at "pv") .nil rfl) rfl rfl (CX.range1 fun r₂ => ⟨_, .swap .., ?_⟩)
    have hrl2 : rlen 0 ((k + 1 : Nat) : Int) = k + 1 := by unfold rlen; lia
    generalize hT : (r₂, AO.rng 0 ((k + 1 : Nat) : Int)) :: (aK, AO.cell (some (.int ((k + 1 : Nat) : Int)))) :: (aB, AO.cell (some (.ref bl))) :: (aL, AO.cell (some (.int m))) :: (aW, AO.cell (some (.ref l))) :: (bl, AO.list (ivs best)) :: (A ++ M) = T
    have a0 : At T 0 (r₂, AO.rng 0 ((k + 1 : Nat) : Int)) := hT ▸ rfl
    have a1 : At T 1 (aK, AO.cell (some (.int ((k + 1 : Nat) : Int)))) := hT ▸ rfl
    have a2 : At T 2 (aB, AO.cell (some (.ref bl))) := hT ▸ rfl
    have a3 : At T 3 (aL, AO.cell (some (.int m))) := hT ▸ rfl
    have a4 : At T 4 (aW, AO.cell (some (.ref l))) := hT ▸ rfl
    have a5 : At T 5 (bl, AO.list (ivs best)) := hT ▸ rfl
    have a6 : At T (A.length + j + 6) (l, AO.list (ivs W)) := by rw [← hT]; exact At.app (A := A) hl
    refine ⟨_, _, _, fun i ws L' => ∃ A', L' = A' ++ T ∧ ws = ivs (((List.range i).filter fun i => decide (k + 1 ∈ endsL W i m)).map fun i => best.getD i 0), Src.range (i := 1) a0 (by lia), by rw [hrl2]; lia, ⟨[], rfl, rfl⟩, ?_, fun _ => trivial, ?_, ?_⟩
    · rintro i ws L' ⟨A', rfl, rfl⟩
      rw [List.length_map, List.length_map]
      exact Nat.le_trans (List.length_filter_le _ _) (by rw [List.length_range]; exact Nat.le_refl _)
    · rintro i ws L' acc C cc hcc okc hi ⟨A', rfl, rfl⟩
      rw [hrl2] at hi
      have b1 := a1.app (A := A')
      have b2 := a2.app (A := A')
      have b3 := a3.app (A := A')
      have b4 := a4.app (A := A')
      have b5 := a5.app (A := A')
      have b6 := a6.app (A := A')
      have cK : CellV cc "k" aK := by subst hcc; exact ⟨by kernel_rfl, rfl, rfl⟩
      have cB : CellV cc "best" aB := by subst hcc; exact ⟨by kernel_rfl, rfl, rfl⟩
      have cL : CellV cc "limit" aL := by subst hcc; exact ⟨by kernel_rfl, rfl, rfl⟩
      have cW : CellV cc "weights" aW := by subst hcc; exact ⟨by kernel_rfl, rfl, rfl⟩
      have hx1 : cc.nm.l = [Str.ofString "i"] := by subst hcc; rfl
      have hx2 : cc.gl = [gp "_law_ends" (V.ref 953)] := by subst hcc; rfl
      have pk : ∀ L' pos, PV ⟨hb.h, some (F__law_fewest.fc Lf).env⟩ w prog (n + 1) cc [some (.int (0 + (i : Int)))] L' (.Name "i" pos) (.int i) := fun L' pos => by
        have := PV.loc (hb := ⟨hb.h, some (F__law_fewest.fc Lf).env⟩) (w := w) (prog := prog) (n := n + 1) (c := cc) (ρ := [some (.int (0 + (i : Int)))]) (L := L') (x := "i") (pos := pos) okc (i := 0) (by rw [hx1]; rfl) rfl
        rwa [Int.zero_add] at this ⊢
      have ps : ∀ L' pos, PV ⟨hb.h, some (F__law_fewest.fc Lf).env⟩ w prog (n + 1) cc [some (.int (0 + (i : Int)))] L' (.Name "_law_ends" pos) (.ref 953) := fun L' pos => PV.glob okc (i := 0) (by rw [hx2]; rfl)
      have pK : ∀ L' pos j', At L' j' (aK, AO.cell (some (.int ((k + 1 : Nat) : Int)))) → PV ⟨hb.h, some (F__law_fewest.fc Lf).env⟩ w prog (n + 1) cc [some (.int (0 + (i : Int)))] L' (.Name "k" pos) (.int ((k + 1 : Nat) : Int)) := fun L' pos j' h => PV.cell okc cK h
      clear hcc hx1 hx2
      generalize hws : ivs (((List.range i).filter fun i => decide (k + 1 ∈ endsL W i m)).map fun i => best.getD i 0) = ws
      refine TV.cmp (EV.of (pK _ _ _ (At.tl (At.tl b1))) (EV.callP (vs := [.ref l, .int i, .int m]) (ps _ _) F__law_ends_keep (.cons (by walk_at "pv") (.cons (pk _ _) (.cons (by walk_at "pv") .nil rfl) rfl) rfl) rfl rfl (ct_law_ends (j := A'.length + (A.length + j + 6) + 1 + 1 + 1) b6 (by lia) hlen fun e => ⟨_, .swap .., fun x y hx hy => ?_⟩))) rfl
      refine EX.inInts (i := 0) (ns := (endsL W i m).map fun (k : Nat) => (k : Int)) hx hy (by show some _ = some _; simp only [nvs, List.map_map]; rfl) ⟨_, rfl, ?_⟩
      have eany : ((endsL W i m).map fun (k : Nat) => (k : Int)).any (· == ((k + 1 : Nat) : Int)) = decide (k + 1 ∈ endsL W i m) := by
        rw [Bool.eq_iff_iff, List.any_eq_true, decide_eq_true_iff]
        constructor
        · rintro ⟨x, hx, he⟩
          obtain ⟨y, hy, rfl⟩ := List.mem_map.mp hx
          have : y = k + 1 := by have := eq_of_beq he; lia
          exact this ▸ hy
        · intro h
          exact ⟨_, List.mem_map.mpr ⟨_, h, rfl⟩, by simp⟩
      rw [eany]
      by_cases hin : k + 1 ∈ endsL W i m
      · rw [decide_eq_true hin]
        have hbi : best[i]? = some (best.getD i 0) := by rw [List.getD_eq_getElem?_getD, List.getElem?_eq_getElem (by lia)]; rfl
        refine EV.of (v := .int (best.getD i 0)) (PV.itemL (k := i) (i := A'.length + 5 + 3) (j := i) (by walk_at "pv") (pk _ _) b5 (by rw [List.length_map]; lia) (by rw [List.getElem?_map, hbi]; rfl) (.inl rfl) (by intro _ _ _; with_unfolding_all rfl)) ⟨([_] ++ A') ++ T, mid2 (B := [_]), _, rfl, ?_⟩
        rw [← hws, List.range_succ, List.filter_append, List.filter_cons_of_pos (by simpa using hin)]
        simp [ivs]
      · rw [decide_eq_false hin]
        refine ⟨([_] ++ A') ++ T, mid2 (B := [_]), _, rfl, ?_⟩
        rw [← hws, List.range_succ, List.filter_append, List.filter_cons_of_neg (by simpa using hin)]
        simp [ivs]
    · rintro ws L' ⟨A', rfl, rfl⟩ r'
      rw [hrl2]
      refine AV.nil (CX.minList (i := 1) (ns := ((List.range (k + 1)).filter fun i => decide (k + 1 ∈ endsL W i m)).map fun i => best.getD i 0) rfl ?_ fun mm hmm hle => ⟨_, .refl _, fun x y hx hy => PO.add.ex hx hy ?_⟩)
      · intro e
        have := List.map_eq_nil_iff.mp e
        have hm : k ∈ (List.range (k + 1)).filter fun i => decide (k + 1 ∈ endsL W i m) := List.mem_filter.mpr ⟨List.mem_range.mpr (by lia), by simpa using mem_ends_succ hk⟩
        rw [this] at hm; cases hm
      · have hbm : At ((r', AO.list (ivs (((List.range (k + 1)).filter fun i => decide (k + 1 ∈ endsL W i m)).map fun i => best.getD i 0))) :: (A' ++ T)) (A'.length + 5 + 1) (bl, AO.list (ivs best)) := At.tl a5.app
        refine ⟨_, _, hbm, by rw [List.length_map]; lia, SV.nil ⟨rfl, rfl, (r', AO.list (ivs (((List.range (k + 1)).filter fun i => decide (k + 1 ∈ endsL W i m)).map fun i => best.getD i 0))) :: (r₂, AO.rng 0 ((k + 1 : Nat) : Int)) :: (A' ++ A), best ++ [1 + mm], some (.int ((k + 1 : Nat) : Int)), (set_of_perm hbm (R := (r', AO.list (ivs (((List.range (k + 1)).filter fun i => decide (k + 1 ∈ endsL W i m)).map fun i => best.getD i 0))) :: (r₂, AO.rng 0 ((k + 1 : Nat) : Int)) :: (aK, AO.cell (some (.int ((k + 1 : Nat) : Int)))) :: (aB, AO.cell (some (.ref bl))) :: (aL, AO.cell (some (.int m))) :: (aW, AO.cell (some (.ref l))) :: (A' ++ A ++ M)) (by rw [← hT]; walk_at "perm")).trans ?_, by rw [List.length_append, hbl]; rfl, ?_⟩⟩
        · rw [show ivs best ++ [V.int (1 + mm)] = ivs (best ++ [1 + mm]) by simp [ivs]]; walk_at "perm"
        · have get : ∀ i, i < k + 1 → (best ++ [1 + mm])[i]? = best[i]? := fun i hi => List.getElem?_append_left (by omega)
          have lastE : (best ++ [1 + mm])[k + 1]? = some (1 + mm) := by rw [← hbl]; simp
          refine ⟨by rw [get 0 (by lia)]; exact tab.zero, ?_, ?_⟩
          · intro k' h0 h1
            rw [List.length_append, List.length_singleton, hbl] at h1
            by_cases q : k' = k + 1
            · subst q
              obtain ⟨i, hi, rfl⟩ := List.mem_map.mp hmm
              obtain ⟨hi1, hi2⟩ := List.mem_filter.mp hi
              have hi1 := List.mem_range.mp hi1
              refine ⟨i, _, hi1, by simpa using hi2, ?_, lastE⟩
              rw [get i hi1, List.getD_eq_getElem?_getD, List.getElem?_eq_getElem (by omega)]; rfl
            · obtain ⟨i, x, e1, e2, e3, e4⟩ := tab.some_ k' h0 (by lia)
              exact ⟨i, x, e1, e2, by rw [get i (by lia)]; exact e3, by rw [get k' (by lia)]; exact e4⟩
          · intro k' i x y hi hin hx hy
            have hk' : k' < (best ++ [1 + mm]).length := (List.getElem?_eq_some_iff.mp hy).1
            rw [List.length_append, List.length_singleton, hbl] at hk'
            by_cases q : k' = k + 1
            · subst q
              rw [lastE] at hy
              obtain rfl := Option.some.inj hy
              rw [get i hi] at hx
              have : mm ≤ x := hle x (List.mem_map.mpr ⟨i, List.mem_filter.mpr ⟨List.mem_range.mpr hi, by simpa using hin⟩, by rw [List.getD_eq_getElem?_getD, hx]; rfl⟩)
              lia
            · rw [get k' (by lia)] at hy
              rw [get i (by lia)] at hx
              exact tab.le k' i x y hi hin hx hy
  · rintro L' ⟨A, best, vk, hp, hbl, tab⟩
    rw [hrl] at hbl
    refine SV.from hp ?_
    have hx : best[W.length]? = some (best.getD W.length 0) := by rw [List.getD_eq_getElem?_getD, List.getElem?_eq_getElem (by lia)]; rfl
    refine SV.ret (EV.of (v := .int (best.getD W.length 0)) (PV.itemL (k := -1) (i := 4) (j := W.length) (by walk_at "pv") (by walk_at "pv") rfl (by rw [List.length_map]; lia) (by rw [List.getElem?_map, hx]; rfl) (.inr (by rw [List.length_map]; lia)) (by intro _ _ _; with_unfolding_all rfl)) ?_)
    refine ⟨M, ?_, q best _ tab hbl hx⟩
    exact .cons _ (.cons _ (.cons _ (.cons _ (.cons _ (List.sublist_append_right A M)))))
end
end
section
noncomputable abbrev RowsIn (L : Led) (es : List ER) (ws : List V) : Prop := All2 (Tr.In L 1) (es.map ER.tr) ws
theorem ER.ofTr {L : Led} {k : Nat} {e : ER} {v : V} (h : Tr.In L (k + 1) e.tr v) : ∃ r, v = .ref r ∧ (r, AO.tup [.int e.t, .int e.i, .int e.k, .bytes e.b]) ∈ L := by
  obtain ⟨a, vs, rfl, hm, h⟩ := h
  refine ⟨a, rfl, ?_⟩
  cases h with | cons h1 h => cases h with | cons h2 h => cases h with | cons h3 h => cases h with | cons h4 h =>
  cases h
  have lf : ∀ {k : Nat} {x u : V}, Tr.In L k (.v x) u → u = x := fun {k x u} h => by cases k <;> exact h.1
  rw [lf h1, lf h2, lf h3, lf h4] at hm
  exact hm
theorem All2.at {α β : Type} {R : α → β → Prop} {xs : List α} {ys : List β} (h : All2 R xs ys) : ∀ {k : Nat} {y : β}, ys[k]? = some y → ∃ x, xs[k]? = some x ∧ R x y := by
  induction h with
  | nil => intro k y e; simp at e
  | cons h _ ih =>
    intro k y e
    cases k with
    | zero => exact ⟨_, rfl, Option.some.inj e ▸ h⟩
    | succ k => exact ih e
theorem All2.drop {α β : Type} {R : α → β → Prop} {xs : List α} {ys : List β} (h : All2 R xs ys) : ∀ n, All2 R (xs.drop n) (ys.drop n) := by
  induction h with
  | nil => intro n; rw [List.drop_nil, List.drop_nil]; exact .nil
  | cons a h ih => intro n; cases n with
    | zero => exact .cons a h
    | succ n => exact ih n
theorem All2.take {α β : Type} {R : α → β → Prop} {xs : List α} {ys : List β} (h : All2 R xs ys) : ∀ n, All2 R (xs.take n) (ys.take n) := by
  induction h with
  | nil => intro n; rw [List.take_nil, List.take_nil]; exact .nil
  | cons a h ih => intro n; cases n with
    | zero => exact .nil
    | succ n => exact .cons a (ih n)
noncomputable abbrev Sm (x : Int) : Prop := 0 ≤ x ∧ x < 2097152
theorem vl_wd {x : Int} (h : Sm x) : vl x = wd x := by
  unfold vl wd vlF
  by_cases h1 : x < 128
  · rw [if_pos h1, if_pos h1]
  rw [if_neg h1, if_neg h1]
  unfold vlF
  by_cases h2 : x < 16384
  · rw [if_pos h2, if_pos (by lia)]; rfl
  rw [if_neg h2, if_neg (by lia)]
  unfold vlF
  rw [if_pos (by lia)]; rfl
theorem Sm.n64 {x : Int} (h : Sm x) : N64 x := ⟨h.1, by have := h.2; lia⟩
structure ER.Sml (e : ER) : Prop where
  t : Sm e.t
  i : Sm e.i
  k : Sm e.k
  b : e.b.size < 1000
theorem ER.Sml.ok {e : ER} (h : e.Sml) : e.Ok := ⟨h.t.n64, h.i.n64, h.k.n64, h.b⟩
theorem ER.Sml.wt {e : ER} (h : e.Sml) : e.sz = wt e := by
  show esz _ _ _ _ = _
  unfold esz Mine.wt
  rw [vl_wd h.t, vl_wd h.i, vl_wd h.k, vl_wd ⟨by lia, by have := h.b; lia⟩]
theorem wd_bounds (x : Int) : 1 ≤ wd x ∧ wd x ≤ 3 := by
  unfold wd
  split
  · lia
  · split <;> lia
theorem wt_bounds {e : ER} (h : e.b.size < 1000) : 4 ≤ wt e ∧ wt e ≤ 1012 := by
  have := wd_bounds e.t; have := wd_bounds e.i; have := wd_bounds e.k; have := wd_bounds e.b.size
  unfold wt; omega
section
variable {hb : HB} {w : World} {prog : Program} {n : Nat} {M : Led} {Q : V → Led → Prop} {c : FC} {ρ : List (Option V)} {L : Led}
theorem ct_law_rows {es : List ER} {l : Addr} (hl : (l, AO.list (ers es)) ∈ M) (hs : Has M es) (hlen : es.length < 1000) (q : ∀ ws A r, RowsIn (A ++ M) es ws → Q (.ref r) ((r, .list ws) :: (A ++ M))) : CT hb w prog (n + 2) 970 [.ref l] M Q := by
  refine CT.fn' (F := F__law_rows) (ρ := [some (.ref l)]) F__law_rows_ok rfl rfl fun Lf ok => ?_
  exact SV.ret (EV.map [] ok (CSOk.of (by kernel_rfl)) gv_nil (EV.of (v := .ref l) (by walk_at "pv") (rowsMap hl hs hlen (fun C => rfl) fun ws A hws r => q ws A r hws)) rfl)
theorem weightsMap {sc : Scope} {L₀ : Led} {b : V} {es : List ER} {ws : List V} {nd : [("row" : Str)].Nodup} {F : List V → Led → Prop} {p1 p2 p3 : Pos} (hl : Seq L₀ b ws) (hr : RowsIn L₀ es ws) (hlen : es.length < 1000) (hbs : ∀ e ∈ es, e.b.size < 1000)
    (f : F (ivs (es.map wt)) L₀) (he : ∀ C, starEach [.Name "row" p2] (c.comp sc ["row"] nd [gp "_law_weight" (V.ref 948)] [] C).env = (false, eval (.Name "row" p2) (c.comp sc ["row"] nd [gp "_law_weight" (V.ref 948)] [] C).env) :: starEach [] (c.comp sc ["row"] nd [gp "_law_weight" (V.ref 948)] [] C).env := by intro _; rfl) : MapOk hb w prog (n + 2) c ρ sc "row" [gp "_law_weight" (V.ref 948)] nd (.Call (.Name "_law_weight" p1) [.Name "row" p2] [] p3) b L₀ F := by
  have hlw : es.length = ws.length := by have := hr.len; rwa [List.length_map] at this
  refine ⟨ws, fun k us A => A = [] ∧ us = ivs ((es.take k).map wt), hl, by lia, ⟨rfl, rfl⟩, ?_, ?_⟩
  · rintro k v us A C acc okc hv hk ⟨rfl, hus⟩
    obtain ⟨x, hx, hR⟩ := hr.at hv
    rw [List.getElem?_map] at hx
    obtain ⟨e, he', rfl⟩ := Option.map_eq_some_iff.mp hx
    have htake : es.take (k + 1) = es.take k ++ [e] := by rw [List.take_add_one, he']; rfl
    obtain ⟨r, rfl, hm⟩ := ER.ofTr hR
    refine (At.of hm).elim fun i hi => ?_
    refine EV.callP (vs := [.ref r]) (by walk_at "pv") F__law_weight_keep (by walk_at "pvl") rfl rfl (ct_law_weight (At.tl (At.tl (At.tl (q := c.fr ρ) hi))) (hbs e (List.mem_of_getElem? he')) ⟨_, .refl _, [], rfl, rfl, ?_⟩)
    rw [htake, hus]; simp [ivs]
  · rintro us A _ ⟨rfl, rfl⟩
    rw [← hlw, List.take_length]; exact f
end
end
section
theorem PV.lawWidth {hb : HB} {w : World} {prog : Program} {n : Nat} {c : FC} {ρ : List (Option V)} {L : Led} {id : Str} {p pos : Pos} {e : Expr} {x : Int} (hf : PV hb w prog (n + 1) c ρ L (.Name id p) (.ref 943)) (hx : PV hb w prog (n + 1) c ρ L e (.int x)) (he : starEach [e] c.env = (false, eval e c.env) :: starEach [] c.env) : PV hb w prog (n + 1) c ρ L (.Call (.Name id p) [e] [] pos) (.int (wd x)) :=
  PV.callF (vs := [.int x]) hf F__law_width_keep (.cons hx .nil he) he rfl fun Q q => ct_law_width q
local macro_rules | `(tactic| walk_at "pv") => `(tactic| focus ((with_reducible apply PV.lawWidth); walk_at "pv"; walk_at "pv"; rfl))
section
variable {hb : HB} {w : World} {prog : Program} {n : Nat} {M : Led} {c : FC} {ρ : List (Option V)} {L : Led}
theorem AC.sub {α β : Type} {R : β → α → Prop} {t : Sem α} {L L₀ : Led} {Q : β → Led → Prop} (p : L₀.Sublist L) (h : AC hb w prog n R t L₀ Q) : AC hb w prog n R t L Q := fun A s Qc E rm fo S K =>
  have fl : ∀ b, b ∈ foot L₀ → b ∈ foot L := fun b hb => (foot_sub p).subset hb
  have nl : ∀ b, b ∈ nfoot L₀ → b ∈ nfoot L := fun b hb => by
    obtain ⟨q, hq, hb⟩ := List.mem_flatMap.mp hb
    exact List.mem_flatMap.mpr ⟨q, p.subset hq, hb⟩
  have fo' : Fo hb.h A L₀ s := by
    obtain ⟨fs, e, hf⟩ := fo
    exact ⟨fs, e, fun env he => ⟨(hf env he).1, fun a ha q => (hf env he).2 a ha (nl _ q)⟩⟩
  h A s Qc E rm fo' (S.sub p) fun a b L' s' hq hr S' T' => K a b L' s' hq hr S'
    ⟨T'.sh, fun b o hb e => T'.keep b o (fun q => hb (fl _ q)) e, T'.kind, fun b hb => (T'.new b hb).imp (fl _) id, fun b o e d hb => nl _ (T'.nf b o e d hb)⟩
theorem SV.lose {L L₀ R : Led} {ss : List Stmt} {Q : FlowA → List (Option V) → Led → Prop} (p : L.Perm (L₀ ++ R)) (h : SV hb w prog n c ρ L₀ ss Q) : SV hb w prog n c ρ L ss Q :=
  SV.from p (AC.sub ((List.sublist_append_left L₀ R).cons_cons _) h)
theorem SV.ifI {test : Expr} {body orelse : List Stmt} {pos : Pos} {rest : List Stmt} {p : Prop} {Q : FlowA → List (Option V) → Led → Prop} (I : List (Option V) → Led → Prop) (h : PT hb w prog n c ρ L test p) (ht : p → SV hb w prog n c ρ L body fun f ρ' L' => f = .nxt ∧ I ρ' L') (hf : ¬p → SV hb w prog n c ρ L orelse fun f ρ' L' => f = .nxt ∧ I ρ' L')
    (k : ∀ ρ' L', I ρ' L' → SV hb w prog n c ρ' L' rest Q) : SV hb w prog n c ρ L (.If test body orelse pos :: rest) Q :=
  SV.ifp h (fun hp => (ht hp).mono fun f ρ' L' ⟨e, i⟩ => by subst e; exact k _ _ i) fun hp => (hf hp).mono fun f ρ' L' ⟨e, i⟩ => by subst e; exact k _ _ i
theorem PV.ifNone {e b o : Expr} {k : Nat} {p pos pos' : Pos} {v x y : V} (h : PV hb w prog n c ρ L e v) (hp : v.plain = true) (hx : PV hb w prog n c ρ L b x) (hy : PV hb w prog n c ρ L o y) : PV hb w prog n c ρ L (.IfExp (.Compare e [.Is] [.Constant .none k p] pos) b o pos') (if v.isNone then x else y) := fun Q q =>
  EV.ifexp (PT.tv (PT.cmp h PV.none (PO.isNone hp) (Iff.rfl) rfl) fun t ht => by
    cases hv : v.isNone with
    | true => rw [hv] at ht q; rw [ht.mpr rfl]; exact hx _ q
    | false =>
      rw [hv] at ht q
      cases t with
      | true => cases ht.mp rfl
      | false => exact hy _ q)
theorem At.left {T R : Led} {i : Nat} {p : Addr × AO} (h : At T i p) : At (T ++ R) i p := by
  show (T ++ R)[i]? = _; rw [List.getElem?_append_left (List.getElem?_eq_some_iff.mp h).1]; exact h
theorem ls_left {T R : Led} {i : Nat} {p q : Addr × AO} (h : At T i p) : (T ++ R).set i q = T.set i q ++ R := List.set_append_left i q (List.getElem?_eq_some_iff.mp h).1
theorem widthsMap {sc : Scope} {L₀ : Led} {W : List Int} {l : Addr} {nd : [("n" : Str)].Nodup} {F : List V → Led → Prop} {p1 p2 p3 p4 p5 : Pos} (hl : (l, AO.list (ivs W)) ∈ L₀) (hlen : W.length < 1000)
    (f : F (ivs (W.map fun x => wd x + x)) L₀) (he : ∀ C, starEach [.Name "n" p2] (c.comp sc ["n"] nd [gp "_law_width" (V.ref 943)] [] C).env = (false, eval (.Name "n" p2) (c.comp sc ["n"] nd [gp "_law_width" (V.ref 943)] [] C).env) :: starEach [] (c.comp sc ["n"] nd [gp "_law_width" (V.ref 943)] [] C).env := by intro _; rfl) : MapOk hb w prog (n + 1) c ρ sc "n" [gp "_law_width" (V.ref 943)] nd (.BinOp (.Call (.Name "_law_width" p1) [.Name "n" p2] [] p3) .Add (.Name "n" p4) p5) (.ref l) L₀ F := by
  refine ⟨ivs W, fun k us A => A = [] ∧ us = ivs ((W.take k).map fun x => wd x + x), .list hl, by rw [List.length_map]; lia, ⟨rfl, rfl⟩, ?_, ?_⟩
  · rintro k v us A C acc okc hv hk ⟨rfl, hus⟩
    rw [List.getElem?_map] at hv
    obtain ⟨e, he', rfl⟩ := Option.map_eq_some_iff.mp hv
    have htake : W.take (k + 1) = W.take k ++ [e] := by rw [List.take_add_one, he']; rfl
    refine EV.bin (EV.callP (vs := [.int e]) (by walk_at "pv") F__law_width_keep (by walk_at "pvl") rfl rfl (ct_law_width ⟨_, .refl _, EV.of (v := .int e) (by walk_at "pv") fun x y hx hy => PO.add.ex hx hy ⟨[], rfl, rfl, ?_⟩⟩))
    rw [htake, hus]; simp [ivs]
  · rintro us A _ ⟨rfl, rfl⟩
    rw [List.length_map, List.take_length]; exact f
structure TW (m : MR) (T : Led) : Prop where
  ao : m.ao ∈ T
  el : (m.el, AO.list (ers m.es)) ∈ T
  es : ∀ e ∈ m.es, ∃ t : Int, (e.a, AO.inst C_Entry e.d [.int t, .int e.i, .int e.k, .bytes e.b]) ∈ T
  sn : ∀ s, m.sn = some s → s.In T
theorem TW.entry {m : MR} {T : Led} (h : TW m T) {e : ER} {i : Nat} {t : Int} (hi : At T i (e.a, AO.inst C_Entry e.d [.int t, .int e.i, .int e.k, .bytes e.b])) (t' : Int) : TW m (T.set i (e.a, .inst C_Entry e.d [.int t', .int e.i, .int e.k, .bytes e.b])) := by
  refine ⟨mem_set_ne h.ao hi (ne_of_C (by simp [aoC])), mem_set_ne h.el hi (ne_of_C (by simp [aoC])), fun e' he' => ?_, fun s hs => (h.sn s hs).set_ne hi (by simp [aoC]) (by simp [aoC]) (by simp [aoC])⟩
  obtain ⟨t₂, ht₂⟩ := h.es e' he'
  by_cases q : (e'.a, AO.inst C_Entry e'.d [.int t₂, .int e'.i, .int e'.k, .bytes e'.b]) = (e.a, AO.inst C_Entry e.d [.int t, .int e.i, .int e.k, .bytes e.b])
  · simp only [Prod.mk.injEq, AO.inst.injEq, true_and, List.cons.injEq, V.int.injEq, V.bytes.injEq, and_true] at q
    obtain ⟨q1, q2, q3, q4, q5, q6⟩ := q
    exact ⟨t', by rw [q1, q2, q4, q5, q6]; exact (at_set_eq hi).mem⟩
  · exact ⟨t₂, mem_set_ne ht₂ hi q⟩
end
end
local macro_rules | `(tactic| walk_at "pv") => `(tactic| focus ((with_reducible refine' PV.lawWidth ?_ ?_ ?_); (any_goals walk_at "g"); done))
section
noncomputable def kd : Option SR → Int
  | none => 3
  | some _ => 7
theorem kd_eq (s : Option SR) : (if (snV s).isNone then V.int 3 else V.int 7) = .int (kd s) := by cases s <;> rfl
noncomputable def own : Option SR → Int
  | none => 0
  | some s => 1 + 1 + (wd s.i + wd s.t + 1 + 8 + 1 + s.b.size)
structure LetOk (sn : Option SR) (M : Led) : Prop where
  sn : ∀ s, sn = some s → s.In M ∧ s.Num ∧ Sm s.i ∧ Sm s.t ∧ s.c.z = 8 ∧ s.b.size = 3
@[reducible] noncomputable def letM (a d pl : Addr) (pg : List ER) (g : LG) (sn : Option SR) (cm : Int) : MR := ⟨a, d, pl, kd sn, 2, 300, 5, g.bt, g.fold, pg, cm, sn, sn.isSome, if sn.isSome then 128 else 0, #[97, 98]⟩
theorem sum_map_szE {pg : List ER} (h : ∀ e ∈ pg, e.Sml) : sumz pg = ((pg.map wt).map fun x => wd x + x).sum := by
  unfold sumz
  rw [List.map_map]
  congr 1
  refine List.map_congr_left fun e he => ?_
  have hw := (h e he).wt
  have hb := wt_bounds (h e he).b
  show szE e = wd (wt e) + wt e
  unfold szE
  rw [hw, vl_wd ⟨by lia, by lia⟩]
theorem letM_z {a d pl : Addr} {pg : List ER} {g : LG} {sn : Option SR} {cm : Int} {M : Led} (hsm : ∀ e ∈ pg, e.Sml) (hlen : pg.length < 20) (ho : LetOk sn M) (hc : Sm cm) (hf : Sm g.fold) (ht : Sm g.bt) :
    (letM a d pl pg g sn cm).z = 5 + wd g.bt + wd g.fold + wd cm + 1 + 1 + 1 + 1 + 3 + ((pg.map wt).map fun x => wd x + x).sum + own sn := by
  unfold MR.z
  show vl (kd sn) + vl 2 + vl 300 + vl 5 + vl g.bt + vl g.fold + vl cm + vl (if sn.isSome then 128 else 0) + 1 + vl pg.length + sumz pg + 1 + snz sn + (vl 2 + 2) = _
  have e2 : vl 2 = 1 := by decide
  have e300 : vl 300 = 2 := by decide
  have e5 : vl 5 = 1 := by decide
  have el : vl pg.length = 1 := vl_small (by lia)
  rw [e2, e300, e5, el, vl_wd ht, vl_wd hf, vl_wd hc, sum_map_szE hsm]
  cases sn with
  | none =>
    have e3 : vl (kd none) = 1 := by decide
    have e0 : vl (if (none : Option SR).isSome = true then 128 else 0) = 1 := by decide
    rw [e3, e0]
    simp only [snz, own]
    lia
  | some s =>
    obtain ⟨_, _, hi, ht', hz, hb⟩ := ho.sn s rfl
    have e7 : vl (kd (some s)) = 1 := by show vl 7 = 1; decide
    have e128 : vl (if (some s).isSome = true then 128 else 0) = 2 := by show vl 128 = 2; decide
    have e8 : vl 8 = 1 := by decide
    have e3 : vl ((3 : Nat) : Int) = 1 := by decide
    rw [e7, e128]
    simp only [snz, own]
    have hsz : s.z = wd s.i + wd s.t + (1 + 8) + (1 + 3) := by
      unfold SR.z; rw [vl_wd hi, vl_wd ht', hz, hb, e8, e3]; rfl
    have b1 := wd_bounds s.i; have b2 := wd_bounds s.t
    rw [hsz, vl_small (by lia), hb]
    lia
theorem MR.In.sub {m : MR} {M M' : Led} (h : m.In M) (s : ∀ p ∈ M, p ∈ M') : m.In M' := ⟨s _ h.ao, s _ h.el, h.es.to s, fun x hx => (h.sn x hx).sub s, h.len⟩
theorem Tr.In.topEq {L : Led} {k : Nat} {xs : List Tr} {a b : Addr} (h : Tr.In L (k + 1) (.t xs) (.ref a)) (h' : Tr.In L (k + 1) (.t xs) (.ref b)) : ∃ vs ws, (a, AO.tup vs) ∈ L ∧ (b, AO.tup ws) ∈ L ∧ All2 (EqN L k) vs ws := by
  obtain ⟨a', vs, e, hm, h⟩ := h
  obtain ⟨b', ws, e', hm', h'⟩ := h'
  cases e; cases e'
  exact ⟨vs, ws, hm, hm', h.joined (fun _ _ _ x y => x.eq y) h'⟩
noncomputable def Bd (x K : Int) : Prop := 0 ≤ x ∧ x ≤ K
theorem Bd.add {a b A B : Int} (h : Bd a A) (k : Bd b B) : Bd (a + b) (A + B) := ⟨Int.add_nonneg h.1 k.1, Int.add_le_add h.2 k.2⟩
theorem Bd.vl (x : Int) : Bd (vl x) 10 := ⟨Int.le_trans (by decide) (vl_bounds x).1, (vl_bounds x).2⟩
theorem Bd.one : Bd 1 1 := by unfold Bd; decide
theorem Bd.size {b : Array UInt8} (h : b.size < 1000) : Bd b.size 1000 := ⟨Int.natCast_nonneg _, Int.le_of_lt (Int.ofNat_lt.mpr h)⟩
theorem MR.z_bounds {m : MR} {M : Led} (h : m.In M) (mo : m.Num) : 0 ≤ m.z ∧ m.z ≤ 100000 := by
  have sb : Bd (sumz m.es) 52500 := by
    have sb := sumz_bounds (es := m.es) fun e he => (h.es e he).1
    have := mo.len
    exact ⟨sb.1, by clear mo h; omega⟩
  have h3 : Bd (snz m.sn) 3710 := by
    cases hs : m.sn with
    | none => unfold Bd snz; decide
    | some s => exact (Bd.vl s.z).add (B := 3700) (SR.z_bounds (mo.sn s hs))
  have r := ((((((((((((((Bd.vl m.kind).add (.vl m.to)).add (.vl m.frm)).add (.vl m.term)).add (.vl m.log)).add (.vl m.index)).add (.vl m.commit)).add (.vl m.hint)).add .one).add (.vl m.es.length)).add sb).add .one).add h3).add ((Bd.vl m.ctx.size).add (.size mo.ctx)))
  exact ⟨r.1, Int.le_trans r.2 (by decide)⟩
theorem ivs_snoc_ref {ns : List Int} {vs : List V} {a : Addr} : ivs ns ≠ vs ++ [.ref a] := fun e => by
  have : V.ref a ∈ ivs ns := by rw [e]; simp
  obtain ⟨x, _, hx⟩ := List.mem_map.mp this
  cases hx
theorem SR.In.set_refs {M : Led} {i : Nat} {s : SR} {l a : Addr} {vs : List V} {new : Addr × AO} (h : s.In M) (hi : At M i (l, .list (vs ++ [.ref a]))) : s.In (M.set i new) := by
  refine ⟨mem_set_ne h.ao hi (ne_of_C (by simp [aoC])), fun p hp => mem_set_ne (h.c p hp) hi ?_⟩
  have hne : ∀ (x : Addr) (ns : List Int), (x, AO.list (ivs ns)) ≠ (l, AO.list (vs ++ [.ref a])) := fun x ns e => by
    simp only [Prod.mk.injEq, AO.list.injEq] at e
    exact ivs_snoc_ref e.2
  simp only [CR.led, List.mem_cons, List.not_mem_nil, or_false] at hp
  rcases hp with rfl | rfl | rfl | rfl | rfl
  · exact hne _ _
  · exact hne _ _
  · exact hne _ _
  · exact hne _ _
  · exact ne_of_C (by simp [aoC])
section
variable {hb : HB} {w : World} {prog : Program} {n : Nat} {M : Led} {c : FC} {ρ : List (Option V)} {L : Led} {Q : V → Led → Prop}
theorem ct_law_letter {g : LG} {pl : Addr} {pg : List ER} {sn : Option SR} {cm : Int} (h : g.In M) (hp : (pl, AO.list (ers pg)) ∈ M) (hs : Has M pg) (hsm : ∀ e ∈ pg, e.Sml) (hlen : pg.length < 20) (ho : LetOk sn M) (hc : Sm cm) (hf : Sm g.fold) (ht : Sm g.bt) (q : Q (.bool true) M) : CT hb w prog (n + 10) 975 [.ref g.la, .int g.fold, .ref pl, snV sn, .int cm] M Q := by
  have hpl : (snV sn).plain = true := snV_plain sn
  refine (At.of h.lao).elim fun i0 h0 => ?_
  refine (At.of hp).elim fun ip hip => ?_
  refine CT.drop (CT.fn' (F := F__law_letter) (ρ := [some (.ref g.la), some (.int g.fold), some (.ref pl), some (snV sn), some (.int cm), none, none, none, none, none, none, none]) F__law_letter_ok rfl rfl fun Lf ok => ?_)
  refine SV.assign' ok rfl (EV.callC (vs := [.int (kd sn), .int 2, .int 300, .int 5]) C_Message (by walk_at "pv") (.cons (kd_eq sn ▸ PV.ifNone (by walk_at "pv") hpl PV.int PV.int) (by walk_at "pvl") rfl) rfl rfl fun a d => ct_Message_init fun el₀ => ⟨rfl, _, mid (A := [(el₀, .list []), (a, .inst C_Message d [.int (kd sn), .int 2, .int 300, .int 5, .int 0, .int 0, .ref el₀, .int 0, .none, .bool false, .int 0, .bytes #[]])]), _, by walk_at "sto", ?_⟩)
  with_reducible refine SV.lose (L₀ := (a, .inst C_Message d [.int (kd sn), .int 2, .int 300, .int 5, .int 0, .int 0, .ref el₀, .int 0, .none, .bool false, .int 0, .bytes #[]]) :: M) (by walk_at "perm") ?_
  walk_at "seta"
  refine SV.setattrP (PV.methF (j := 2) (vs' := [.int g.fold]) (by walk_at "pv") (At.tl h0) rfl (by walk_at "pvl") rfl rfl rfl fun Q q => ct_rl_term ((h.cons _).cons _) q) (by walk_at "pv") (by walk_at "at") (by walk_at "pn") (by walk_at "ls") rfl ?_
  walk_at "seta"
  walk_at "seta"
  walk_at "seta"
  refine SV.map (iy := 6) [gp "_law_weight" (V.ref 948)] ok rfl (CSOk.of (by kernel_rfl)) (gv_cons G__law_weight gv_nil) rfl ?_ rfl
  refine EV.callP (vs := [.ref pl]) (by walk_at "pv") F__law_rows_keep (by walk_at "pvl") rfl rfl (ct_law_rows (es := pg) (.tail _ (.tail _ hp)) ((hs.cons _).cons _) (by lia) fun ws A r hws => ⟨_, mid (A := (r, .list ws) :: A), ?_⟩)
  have hR : RowsIn (((r, .list ws) :: A) ++ (a, .inst C_Message d [.int (kd sn), .int 2, .int 300, .int 5, .int g.bt, .int g.fold, .ref pl, .int cm, .none, .bool false, .int 0, .bytes #[97, 98]]) :: M) pg ws := All2.mono hws fun x y hxy => (hxy.fr).sub fun p hp => .tail _ hp
  refine weightsMap (es := pg) (ws := ws) (.list (.head _)) hR (by walk_at "lia") (fun e he => (hsm e he).b) (fun wl => ?_) (fun C => rfl)
  with_reducible refine SV.lose (L₀ := (wl, .list (ivs (pg.map wt))) :: (a, .inst C_Message d [.int (kd sn), .int 2, .int 300, .int 5, .int g.bt, .int g.fold, .ref pl, .int cm, .none, .bool false, .int 0, .bytes #[97, 98]]) :: M) (by walk_at "perm") ?_
  show SV _ w prog (n + 9) _ [some (.ref g.la), some (.int g.fold), some (.ref pl), some (snV sn), some (.int cm), some (.ref a), some (.ref wl), none, none, none, none, none] _ _ _
  walk_at "set"
  refine SV.aug (i := 7) ok rfl rfl (EV.callb (f := "sum") (by walk_at "pv") (AV.cons (EV.map [gp "_law_width" (V.ref 943)] ok (CSOk.of (by kernel_rfl)) (gv_cons G__law_width gv_nil) (EV.of (v := .ref wl) (by walk_at "pv") ?_) rfl)))
  refine widthsMap (W := pg.map wt) (.head _) (by rw [List.length_map]; walk_at "lia") (fun r₂ => ?_) (fun C => rfl)
  refine AV.nil (CX.sum (i := 1) rfl ⟨_, .refl _, fun x y hx hy => PO.iadd.ex hx hy ?_⟩)
  with_reducible refine SV.lose (L₀ := (a, .inst C_Message d [.int (kd sn), .int 2, .int 300, .int 5, .int g.bt, .int g.fold, .ref pl, .int cm, .none, .bool false, .int 0, .bytes #[97, 98]]) :: M) (by walk_at "perm") ?_
  show SV _ w prog (n + 9) _ [some (.ref g.la), some (.int g.fold), some (.ref pl), some (snV sn), some (.int cm), some (.ref a), some (.ref wl), some (.int _), none, none, none, none] _ _ _
  have hz := letM_z (a := a) (d := d) (pl := pl) (g := g) hsm hlen ho hc hf ht
  generalize 5 + wd g.bt + wd g.fold + wd cm + 1 + 1 + 1 + 1 + 3 + ((pg.map wt).map fun x => wd x + x).sum = len₀ at hz ⊢
  refine SV.ifI (p := sn ≠ none) (fun ρ' L' => (∃ o, ρ' = [some (.ref g.la), some (.int g.fold), some (.ref pl), some (snV sn), some (.int cm), some (.ref a), some (.ref wl), some (.int (letM a d pl pg g sn cm).z), o, none, none, none]) ∧ L' = (letM a d pl pg g sn cm).ao :: M) ?_ ?_ ?_ ?_
  · cases sn with
    | none => exact fun Q q => PT.notNoneF (by walk_at "pv") Q fun b hb' => q b (by rw [hb']; simp)
    | some s => exact fun Q q => PT.notNoneT (v := .ref s.a) (by walk_at "pv") rfl rfl Q fun b hb' => q b (by rw [hb']; simp)
  · intro hne
    obtain ⟨s, rfl⟩ := Option.ne_none_iff_exists'.mp hne
    obtain ⟨hsi, hsn, hsi', hst, hsz, hsb⟩ := ho.sn s rfl
    refine (At.of hsi.ao).elim fun is his => ?_
    walk_at "seta"
    walk_at "seta"
    walk_at "seta"
    refine SV.assignP ok (PV.bin (PV.bin (PV.bin (PV.bin (PV.bin (PV.lawWidth (by walk_at "pv") (by walk_at "pv") rfl) (PV.lawWidth (by walk_at "pv") (by walk_at "pv") rfl) PO.add) PV.int PO.add) PV.int PO.add) PV.int PO.add) (PV.lenB (b := s.b) (by walk_at "pv") (by walk_at "pv") (by walk_at "lia") rfl) PO.add) rfl (by walk_at "sto") ?_
    refine SV.augP ok (i := 7) ⟨rfl, rfl⟩ (by walk_at "pv") PO.iadd (by walk_at "sto") (SV.nil ⟨rfl, ⟨some (.int (wd s.i + wd s.t + 1 + 8 + 1 + s.b.size)), ?_⟩, rfl⟩)
    rw [hz]; rfl
  · intro hne
    have hne : sn = none := Classical.not_not.mp hne
    subst hne
    refine SV.nil ⟨rfl, ⟨none, ?_⟩, rfl⟩
    rw [hz, show len₀ + own none = len₀ from Int.add_zero _]
  clear hz
  rintro ρ' L' ⟨⟨o, rfl⟩, rfl⟩
  have hIn : (letM a d pl pg g sn cm).In ((letM a d pl pg g sn cm).ao :: M) := ⟨.head _, .tail _ hp, hs.cons _, fun s hs => (ho.sn s hs).1.cons _, by show pg.length < 100; walk_at "lia"⟩
  have hNum : (letM a d pl pg g sn cm).Num := ⟨by cases sn; exact (by decide : N64 3); exact (by decide : N64 7), by show N64 2; decide, by show N64 300; decide, by show N64 5; decide, ht.n64, hf.n64, hc.n64, by cases sn; exact (by decide : N64 0); exact (by decide : N64 128), fun s hs => (ho.sn s hs).2.1, by show 2 < 1000; decide, by show pg.length < 50; walk_at "lia"⟩
  have so : ∀ s, (letM a d pl pg g sn cm).sn = some s → s.c.Ok := fun s hs => (ho.sn s hs).2.1.c.toOk
  have hzb := MR.z_bounds hIn hNum
  have hao : At ((letM a d pl pg g sn cm).ao :: M) 0 (letM a d pl pg g sn cm).ao := rfl
  generalize hm : letM a d pl pg g sn cm = m at hIn hNum so hzb hao ⊢
  have em : m.a = a := by rw [← hm]
  have esn : m.sn = sn := by rw [← hm]
  have ees : m.es = pg := by rw [← hm]
  clear hm
  subst em
  have pe : ∀ p1 p2 p3 p4 p5, PV ⟨hb.h, some (F__law_letter.fc F__law_letter_ok.parts.nd Lf).env⟩ w prog (n + 9) (F__law_letter.fc F__law_letter_ok.parts.nd Lf) [some (.ref g.la), some (.int g.fold), some (.ref pl), some (snV sn), some (.int cm), some (.ref m.a), some (.ref wl), some (.int m.z), o, none, none, none] (m.ao :: M) (.Call (.Name "len" p1) [.Call (.Name "encode_message" p2) [.Name "letter" p3] [] p4] [] p5) (.int m.z) := fun p1 p2 p3 p4 p5 Q q =>
    EV.callb (f := "len") (by walk_at "pv") (AV.cons (EV.callP (vs := [.ref m.a]) (by walk_at "pv") F_encode_message_keep (.cons (by walk_at "pv") .nil rfl) rfl rfl (ct_encode_message (m := m) (hIn.sub fun p hp => .tail _ hp) hNum fun b e => ⟨_, .refl _, AV.nil (CX.lenBytes (by walk_at "lia") ⟨_, .refl _, by rw [e]; exact q⟩)⟩)))
  refine SV.ifF (p := m.z ≠ m.z) (by simp) (PT.cmp' (pe _ _ _ _ _) (by walk_at "pv") PO.ne rfl) ?_
  clear pe
  refine SV.assign' ok rfl (EV.methP0 (i := 0) (j := 0) (a := m.a) (k := C_Message) (by walk_at "pv") hao rfl rfl (ct_Message_row (m := m) (hIn.sub fun p hp => .tail _ hp) so fun A rw_ hr => ⟨A ++ (m.ao :: M), mid, _, by walk_at "sto", ?_⟩))
  have hr := hr.fr
  have haoA : At (A ++ (m.ao :: M)) (A.length + 0) m.ao := hao.app
  have hInA : m.In (A ++ (m.ao :: M)) := hIn.sub fun p hp => List.mem_append_right _ hp
  have hipA : At (A ++ (m.ao :: M)) (A.length + (ip + 1)) (pl, .list (ers pg)) := At.app (At.tl hip)
  refine SV.assign' ok rfl (EV.methP0 (i := A.length + 0) (j := 1) (a := m.a) (k := C_Message) (by walk_at "pv") haoA rfl rfl (ct_Message_copy (m := m) (hInA.sub fun p hp => .tail _ hp) so fun B m' hB htr hso so' hes' => ⟨B ++ (A ++ (m.ao :: M)), mid, _, by walk_at "sto", ?_⟩))
  generalize hL₁ : A ++ (m.ao :: M) = L₁ at hr haoA hInA hipA ⊢
  refine (At.of hB.ao).elim fun ib hib => ?_
  have hibL : At (B ++ L₁) ib m'.ao := hib.left
  refine SV.if_ (TV.cmp (EV.methP0 (i := ib) (j := 0) (a := m'.a) (k := C_Message) (by walk_at "pv") hibL rfl rfl (ct_Message_row (m := m') (hB.sub fun p hp => .tail _ (List.mem_append_left _ hp)) so' fun C r' hr' => ⟨C ++ (B ++ L₁), mid, ?_⟩)))
  refine EV.of (v := .ref rw_) (by walk_at "pv") fun x y hx hy => ?_
  obtain ⟨vs, us, hv1, hv2, hv3⟩ := Tr.In.topEq (k := 3) (htr ▸ hr'.fr) ((hr.sub fun p hp => List.mem_append_right _ (List.mem_append_right _ hp)) : Tr.In (C ++ (B ++ L₁)) 4 m.tr (.ref rw_))
  refine EX.neSeq hx hy (.inl ⟨hv1, hv2⟩) hv3 (by decide) ⟨false, rfl, SV.done ?_⟩
  with_reducible refine SV.lose (L₀ := B ++ L₁) (by walk_at "perm") ?_
  clear hx hy hv1 hv2 hv3
  refine SV.forList (ix := 11) ok rfl (EV.of (v := .ref m'.el) (by walk_at "pv") ⟨m'.el, ers m'.es, fun k ρ' L' => (∃ e, ρ' = [some (.ref g.la), some (.int g.fold), some (.ref pl), some (snV sn), some (.int cm), some (.ref m.a), some (.ref wl), some (.int m.z), o, some (.ref rw_), some (.ref m'.a), e]) ∧ ∃ T, L' = T ++ L₁ ∧ TW m' T, rfl, ⟨⟨none, rfl⟩, B, rfl, hB.ao, hB.el, fun e he => ⟨e.t, (hB.es e he).2⟩, hB.sn⟩, ?_, ?_, ?_⟩)
  · rintro k ρ' L' ⟨_, T, rfl, tw⟩
    refine (At.of tw.el).elim fun j hj => ?_
    exact ⟨j, hj.left⟩
  · rintro k v ρ' L' hv ⟨⟨e₀, rfl⟩, T, rfl, tw⟩
    rw [List.getElem?_map] at hv
    obtain ⟨e, he, rfl⟩ := Option.map_eq_some_iff.mp hv
    obtain ⟨t, ht'⟩ := tw.es e (List.mem_of_getElem? he)
    refine (At.of ht').elim fun j hj => ?_
    have hj' : At (T ++ L₁) j (e.a, AO.inst C_Entry e.d [.int t, .int e.i, .int e.k, .bytes e.b]) := hj.left
    show SV _ w prog (n + 9) _ [some (.ref g.la), some (.int g.fold), some (.ref pl), some (snV sn), some (.int cm), some (.ref m.a), some (.ref wl), some (.int m.z), o, some (.ref rw_), some (.ref m'.a), some (.ref e.a)] _ _ _
    refine SV.augattr (j := 0) (by walk_at "pv") hj' rfl rfl rfl (EV.of PV.int fun p q hp hq => PO.iadd.ex hp hq ⟨j, e.d, _, hj', by simp, SV.nil ⟨⟨_, rfl⟩, _, ls_left hj, tw.entry hj _⟩⟩)
  rintro ρ' L' ⟨⟨e₀, rfl⟩, T, rfl, tw⟩
  have hipT : At (T ++ L₁) (T.length + (A.length + (ip + 1))) (pl, .list (ers pg)) := hipA.app
  have hel : m'.es.length = pg.length := by have := congrArg List.length hes'; simpa [ees] using this
  refine (At.of tw.ao).elim fun ja hja => ?_
  have hjaL : At (T ++ L₁) ja m'.ao := hja.left
  have hzp : (ers pg).length < 2 ^ 40 := by rw [List.length_map]; walk_at "lia"
  refine SV.ifI (p := (0 : Int) < (ers pg).length) (fun ρ' L' => ρ' = [some (.ref g.la), some (.int g.fold), some (.ref pl), some (snV sn), some (.int cm), some (.ref m.a), some (.ref wl), some (.int m.z), o, some (.ref rw_), some (.ref m'.a), e₀] ∧ ∃ T, L' = T ++ L₁ ∧ m'.ao ∈ T ∧ ∀ s, m'.sn = some s → s.In T) (PT.cmp' (by walk_at "pv") (by walk_at "pv") (by walk_at "op") rfl) ?_ ?_ ?_
  · intro hpos
    have hne : m'.es ≠ [] := fun e => by rw [List.length_map] at hpos; rw [e] at hel; simp at hel; walk_at "lia"
    refine (At.of tw.el).elim fun jl hjl => ?_
    have esplit : ers m'.es = ers m'.es.dropLast ++ [.ref (m'.es.getLast hne).a] := by
      conv => lhs; rw [← List.dropLast_concat_getLast hne]
      simp [ers]
    rw [esplit] at hjl
    have hlen' := hB.len
    refine SV.expr (EV.pop (i := jl) (a := m'.el) (vs := ers m'.es.dropLast) (by walk_at "pv") hjl.left (by simp; walk_at "lia") (SV.nil ⟨rfl, rfl, _, ls_left hjl, mem_set_ne tw.ao hjl (ne_of_C (by simp [aoC])), fun s hs => (tw.sn s hs).set_refs hjl⟩)) rfl rfl
  · intro _
    exact SV.nil ⟨rfl, rfl, T, rfl, tw.ao, tw.sn⟩
  clear hjaL hja hipT tw
  rintro ρ' L' ⟨rfl, T, rfl, tao, tsn⟩
  refine SV.ifI (p := sn ≠ none) (fun ρ' L' => ρ' = [some (.ref g.la), some (.int g.fold), some (.ref pl), some (snV sn), some (.int cm), some (.ref m.a), some (.ref wl), some (.int m.z), o, some (.ref rw_), some (.ref m'.a), e₀] ∧ ∃ T, L' = T ++ L₁) ?_ ?_ ?_ ?_
  · cases sn with
    | none => exact fun Q q => PT.notNoneF (by walk_at "pv") Q fun b hb' => q b (by rw [hb']; simp)
    | some s => exact fun Q q => PT.notNoneT (v := .ref s.a) (by walk_at "pv") rfl rfl Q fun b hb' => q b (by rw [hb']; simp)
  · intro hne
    have hs' : ∃ s', m'.sn = some s' := by
      rw [esn] at hso
      cases h' : m'.sn with
      | some s' => exact ⟨s', rfl⟩
      | none => rw [h'] at hso; cases sn with
        | none => exact absurd rfl hne
        | some _ => cases hso
    obtain ⟨s', hs'⟩ := hs'
    have hsT := tsn s' hs'
    have hvr := (so' s' hs').vs.2
    obtain ⟨m'a, m'd, m'el, m'k, m'to, m'f, m't, m'l, m'i, m'es, m'c, m'sn, m'r, m'h, m'x⟩ := m'
    have hs'' : m'sn = some s' := hs'
    subst hs''
    refine (At.of tao).elim fun ja hja => ?_
    have hjaL := hja.left (R := L₁)
    refine (At.of hsT.ao).elim fun js hjs => ?_
    have hjsL := hjs.left (R := L₁)
    obtain ⟨jc, _, _, _, _, hjc, _, _, _, _⟩ := hsT.c.ats
    have hjcL := hjc.left (R := L₁)
    refine (At.of (hsT.c (s'.c.v, .list (ivs s'.c.vs)) (by simp [CR.led]))).elim fun jv hjv => ?_
    have hjvL := hjv.left (R := L₁)
    refine SV.expr (EV.append (i := jv) (by walk_at "pv") hjvL (EV.of (v := .int 9) PV.int ⟨jv, ivs s'.c.vs, hjvL, by rw [List.length_map]; walk_at "lia", ?_⟩)) rfl rfl
    rw [ls_left hjv]
    have hT2 : (MR.mk m'a m'd m'el m'k m'to m'f m't m'l m'i m'es m'c (some s') m'r m'h m'x).ao ∈ T.set jv (s'.c.v, .list (ivs s'.c.vs ++ [.int 9])) := mem_set_ne tao hjv (ne_of_C (by simp [aoC]))
    have hT3 : s'.ao ∈ T.set jv (s'.c.v, .list (ivs s'.c.vs ++ [.int 9])) := mem_set_ne hsT.ao hjv (ne_of_C (by simp [aoC]))
    clear hja hjaL hjs hjsL hjc hjcL hjv hjvL
    generalize T.set jv (s'.c.v, .list (ivs s'.c.vs ++ [.int 9])) = T₂ at hT2 hT3 ⊢
    refine (At.of hT2).elim fun ja hja => ?_
    have hjaL := hja.left (R := L₁)
    refine (At.of hT3).elim fun js hjs => ?_
    have hjsL := hjs.left (R := L₁)
    refine SV.augattr (j := 0) (by walk_at "pv") hjsL rfl rfl rfl (EV.of PV.int fun p q hp hq => PO.iadd.ex hp hq ⟨js, s'.d, _, hjsL, by simp, SV.nil ⟨rfl, rfl, _, ls_left hjs⟩⟩)
  · intro _
    exact SV.nil ⟨rfl, rfl, T, rfl⟩
  clear tao tsn T
  rintro ρ' L' ⟨rfl, T, rfl⟩
  have haoT : At (T ++ L₁) (T.length + (A.length + 0)) m.ao := haoA.app
  refine SV.ret (EV.cmp (EV.methP0 (i := T.length + (A.length + 0)) (j := 0) (a := m.a) (k := C_Message) (by walk_at "pv") haoT rfl rfl (ct_Message_row (m := m) (hInA.sub fun p hp => .tail _ (List.mem_append_right _ hp)) so fun C r' hr' => ⟨C ++ (T ++ L₁), mid, ?_⟩)))
  refine EV.of (v := .ref rw_) (by walk_at "pv") fun x y hx hy => ?_
  obtain ⟨vs, us, hv1, hv2, hv3⟩ := Tr.In.topEq (k := 3) hr'.fr ((hr.sub fun p hp => List.mem_append_right _ (List.mem_append_right _ hp)) : Tr.In (C ++ (T ++ L₁)) 4 m.tr (.ref rw_))
  refine EX.eqSeq hx hy (.inl ⟨hv1, hv2⟩) hv3 (by decide) ⟨M, ?_, q⟩
  rw [← hL₁]
  exact ((List.sublist_cons_self _ _).trans (List.sublist_append_right A _)).trans ((List.sublist_append_right T _).trans (List.sublist_append_right C _))
end
end
section
theorem szs_nil : szs [] = 0 := rfl
theorem szs_cons (e : ER) (r : List ER) : szs (e :: r) = e.sz + szs r := by simp [szs]
theorem szs_nonneg : ∀ {es : List ER}, (∀ e ∈ es, 0 ≤ e.sz) → 0 ≤ szs es
  | [], _ => by simp [szs]
  | e :: r, h => by
    have := szs_nonneg (es := r) fun x hx => h x (.tail _ hx)
    have := h e (.head _)
    rw [szs_cons]; omega
theorem limGo_spec (n : Int) : ∀ (es : List ER) (tot : Int) (kp : Nat), (∀ e ∈ es, 0 ≤ e.sz) →
    (∀ j, limGo n tot kp es < kp + j → j ≤ es.length → n < tot + szs (es.take j)) ∧
    (limGo n tot kp es = kp ∨ (limGo n tot kp es = kp + 1 ∧ kp = 0) ∨ tot + szs (es.take (limGo n tot kp es - kp)) ≤ n)
  | [], tot, kp, _ => ⟨fun j h1 h2 => by unfold limGo at h1; simp at h2; lia, .inl rfl⟩
  | e :: r, tot, kp, h => by
    have hr := fun x hx => h x (.tail _ hx)
    have he := h e (.head _)
    by_cases q : kp ≠ 0 ∧ n < tot + e.sz
    · have e1 : limGo n tot kp (e :: r) = kp := by conv => lhs; unfold limGo; rw [if_pos q]
      rw [e1]
      refine ⟨fun j h1 h2 => ?_, .inl rfl⟩
      match j with
      | 0 => lia
      | j + 1 =>
        rw [List.take_succ_cons, szs_cons]
        have := szs_nonneg (es := r.take j) fun x hx => hr x (List.mem_of_mem_take hx)
        omega
    · have e1 : limGo n tot kp (e :: r) = limGo n (tot + e.sz) (kp + 1) r := by conv => lhs; unfold limGo; rw [if_neg q]
      rw [e1]
      obtain ⟨i1, i2⟩ := limGo_spec n r (tot + e.sz) (kp + 1) hr
      have ge := limGo_ge n r (tot + e.sz) (kp + 1)
      generalize hg : limGo n (tot + e.sz) (kp + 1) r = res at i1 i2 ge
      refine ⟨fun j h1 h2 => ?_, ?_⟩
      · match j with
        | 0 => lia
        | j + 1 =>
          rw [List.length_cons] at h2
          have := i1 j (by lia) (by lia)
          rw [List.take_succ_cons, szs_cons]
          omega
      · rcases i2 with i2 | ⟨_, i3⟩ | i2
        · by_cases k0 : kp = 0
          · exact .inr (.inl ⟨i2, k0⟩)
          · right; right
            rw [i2, show kp + 1 - kp = 0 + 1 by lia, List.take_succ_cons, szs_cons, List.take_zero, szs_nil]
            have : ¬ n < tot + e.sz := fun h => q ⟨k0, h⟩
            omega
        · lia
        · right; right
          rw [show res - kp = (res - (kp + 1)) + 1 by lia, List.take_succ_cons, szs_cons]
          lia
theorem lim_spec {n : Int} {es : List ER} (h : ∀ e ∈ es, 0 ≤ e.sz) (hne : es ≠ []) : 1 ≤ lim n es ∧ (lim n es = 1 ∨ szs (es.take (lim n es)) ≤ n) ∧ ∀ j, lim n es < j → j ≤ es.length → n < szs (es.take j) := by
  obtain ⟨a, b⟩ := limGo_spec n es 0 0 h
  have pos : 1 ≤ lim n es := by
    cases es with
    | nil => exact absurd rfl hne
    | cons e r =>
      unfold lim limGo
      rw [if_neg (fun h => h.1 rfl)]
      exact limGo_ge n r _ 1
  refine ⟨pos, ?_, fun j h1 h2 => ?_⟩
  · rcases b with b | ⟨b, _⟩ | b
    · have b : lim n es = 0 := b; lia
    · exact .inl b
    · right; simpa [lim] using b
  · have := a j (by unfold lim at h1; lia) h2
    lia
theorem sum_drop_take (es : List ER) (lo k : Nat) : (((es.map ER.sz).drop lo).take k).sum = szs ((es.drop lo).take k) := by
  rw [← List.map_drop, ← List.map_take]; rfl
theorem ends_last {es : List ER} {lo : Nat} {m : Int} (h : ∀ e ∈ es, 0 ≤ e.sz) (hlo : lo < es.length) : ∃ pre, endsL (es.map ER.sz) lo m = pre ++ [lo + lim m (es.drop lo)] := by
  have hd : ∀ e ∈ es.drop lo, 0 ≤ e.sz := fun e he => h e (List.mem_of_mem_drop he)
  have hne : es.drop lo ≠ [] := fun e => by have := congrArg List.length e; simp at this; lia
  obtain ⟨a, b, c⟩ := lim_spec (n := m) hd hne
  have le := lim_le m (es.drop lo)
  rw [List.length_drop] at le
  generalize lim m (es.drop lo) = j at a b c le
  obtain ⟨j, rfl⟩ : ∃ i, j = i + 1 := ⟨j - 1, (Nat.sub_add_cancel a).symm⟩
  obtain ⟨r, hr⟩ := Nat.exists_eq_add_of_le le
  clear a le hd hne
  have hr : es.length - lo = j + (1 + r) := by rw [hr, Nat.add_assoc]
  unfold endsL
  have e : (es.map ER.sz).length - lo = j + (1 + r) := by rw [List.length_map, hr]
  have e0 : lo + 1 + j = lo + (j + 1) := Nat.add_right_comm lo 1 j
  rw [e, ← List.range'_append_1, ← List.range'_append_1, List.filter_append, List.filter_append, e0]
  have e1 : List.filter (fun k => decide (k = lo + 1 ∨ (((es.map ER.sz).drop lo).take (k - lo)).sum ≤ m)) (List.range' (lo + (j + 1)) 1) = [lo + (j + 1)] := by
    show List.filter _ [lo + (j + 1)] = _
    rw [List.filter_cons_of_pos]; rfl
    rw [decide_eq_true_iff, sum_drop_take, Nat.add_sub_cancel_left]
    exact b.imp (fun b => by rw [b]) id
  have e2 : List.filter (fun k => decide (k = lo + 1 ∨ (((es.map ER.sz).drop lo).take (k - lo)).sum ≤ m)) (List.range' (lo + (j + 1) + 1) r) = [] := by
    rw [List.filter_eq_nil_iff]
    intro k hk
    rw [List.mem_range'_1] at hk
    obtain ⟨t, rfl⟩ := Nat.exists_eq_add_of_le hk.1
    have ht : t < r := Nat.lt_of_add_lt_add_left hk.2
    have ek : lo + (j + 1) + 1 + t - lo = j + 1 + 1 + t := by rw [Nat.add_assoc, Nat.add_assoc, Nat.add_sub_cancel_left, ← Nat.add_assoc]
    rw [decide_eq_true_iff, sum_drop_take, ek]
    clear hk e e0 e1 b h hlo
    rintro (h | h)
    · omega
    · have := c (j + 1 + 1 + t) (by omega) (by rw [List.length_drop, hr]; omega)
      exact absurd (Int.lt_of_lt_of_le this h) (Int.lt_irrefl _)
  rw [e1, e2, List.append_nil]
  exact ⟨_, rfl⟩
theorem ends_max {es : List ER} {lo k : Nat} {m : Int} (h : ∀ e ∈ es, 0 ≤ e.sz) (hlo : lo < es.length) (hk : k ∈ endsL (es.map ER.sz) lo m) : k ≤ lo + lim m (es.drop lo) := by
  have hd : ∀ e ∈ es.drop lo, 0 ≤ e.sz := fun e he => h e (List.mem_of_mem_drop he)
  have hne : es.drop lo ≠ [] := fun e => by have := congrArg List.length e; simp at this; omega
  obtain ⟨a, b, c⟩ := lim_spec (n := m) hd hne
  unfold endsL at hk
  obtain ⟨h1, h2⟩ := List.mem_filter.mp hk
  rw [List.mem_range'_1, List.length_map] at h1
  rw [decide_eq_true_iff, sum_drop_take] at h2
  rcases h2 with h2 | h2
  · lia
  · apply Nat.le_of_not_lt
    intro hlt
    have := c (k - lo) (by lia) (by rw [List.length_drop]; omega)
    lia
structure Greedy (es : List ER) (m : Int) (best : List Int) (d p : Nat) : Prop where
  at_ : best[d]? = some (p : Int)
  more : ∀ (k : Nat) (y : Int), d < k → best[k]? = some y → (p : Int) + 1 ≤ y
theorem Tab.nonneg {W : List Int} {m : Int} {best : List Int} (t : Tab W m best) : ∀ (k : Nat) (y : Int), best[k]? = some y → 0 ≤ y := by
  intro k
  induction k using Nat.strongRecOn with
  | ind k ih =>
    intro y hy
    by_cases hk : k = 0
    · subst hk; rw [t.zero] at hy; cases hy; decide
    · obtain ⟨i, x, h1, _, h3, h4⟩ := t.some_ k (by lia) (List.getElem?_eq_some_iff.mp hy).1
      rw [h4] at hy; cases hy
      have := ih i h1 x h3
      lia
theorem Greedy.start {es : List ER} {m : Int} {best : List Int} (t : Tab (es.map ER.sz) m best) : Greedy es m best 0 0 where
  at_ := t.zero
  more := fun k y hk hy => by
    obtain ⟨i, x, _, _, h3, h4⟩ := t.some_ k hk (List.getElem?_eq_some_iff.mp hy).1
    rw [h4] at hy; cases hy
    have := t.nonneg i x h3
    lia
theorem Greedy.step {es : List ER} {m : Int} {best : List Int} {d p : Nat} (t : Tab (es.map ER.sz) m best) (hl : best.length = es.length + 1) (h : ∀ e ∈ es, 0 ≤ e.sz) (g : Greedy es m best d p) (hd : d < es.length) : Greedy es m best (d + lim m (es.drop d)) (p + 1) := by
  have hdr : ∀ e ∈ es.drop d, 0 ≤ e.sz := fun e he => h e (List.mem_of_mem_drop he)
  have hne : es.drop d ≠ [] := fun e => by have := congrArg List.length e; simp at this; lia
  have pos := (lim_spec (n := m) hdr hne).1
  have le := lim_le m (es.drop d)
  rw [List.length_drop] at le
  obtain ⟨pre, hpre⟩ := ends_last (m := m) h hd
  have hin : d + lim m (es.drop d) ∈ endsL (es.map ER.sz) d m := by rw [hpre]; simp
  have emax := fun k hk => ends_max (k := k) (m := m) h hd hk
  generalize lim m (es.drop d) = j at pos le hin emax
  obtain ⟨y, hy⟩ : ∃ y, best[d + j]? = some y := ⟨_, List.getElem?_eq_getElem (by lia)⟩
  have h1 := t.le (d + j) d p y (by lia) hin g.at_ hy
  have h2 := g.more (d + j) y (by lia) hy
  refine ⟨by rw [hy]; congr 1; lia, fun k z hk hz => ?_⟩
  obtain ⟨i, x, hi, hmem, h3, h4⟩ := t.some_ k (by lia) (List.getElem?_eq_some_iff.mp hz).1
  rw [h4] at hz; cases hz
  by_cases hid : d < i
  · have := g.more i x hid h3
    lia
  · exfalso
    have : k ∈ endsL (es.map ER.sz) d m := by
      unfold endsL at hmem ⊢
      obtain ⟨m1, m2⟩ := List.mem_filter.mp hmem
      rw [List.mem_range'_1, List.length_map] at m1
      rw [decide_eq_true_iff, sum_drop_take] at m2
      refine List.mem_filter.mpr ⟨by rw [List.mem_range'_1, List.length_map]; lia, ?_⟩
      rw [decide_eq_true_iff, sum_drop_take]
      right
      rcases m2 with m2 | m2
      · lia
      · have e : (es.drop i).take (k - i) = (es.drop i).take (d - i) ++ (es.drop d).take (k - d) := by
          rw [show k - i = (d - i) + (k - d) by lia, List.take_add, List.drop_drop, show i + (d - i) = d by lia]
        rw [e] at m2
        have e2 : szs ((es.drop i).take (d - i) ++ (es.drop d).take (k - d)) = szs ((es.drop i).take (d - i)) + szs ((es.drop d).take (k - d)) := by simp [szs]
        have := szs_nonneg (es := (es.drop i).take (d - i)) fun e he => h e (List.mem_of_mem_drop (List.mem_of_mem_take he))
        lia
    have := emax k this
    lia
end
section
@[reducible] noncomputable def LG.at_ (g : LG) (cm ap : Int) : LG := { g with cm := cm, ap := ap }
theorem LG.In.set_la {g : LG} {M : Led} {i : Nat} (h : g.In M) (hi : At M i g.lao) (cm ap : Int) : (g.at_ cm ap).In (M.set i (g.at_ cm ap).lao) :=
  ⟨⟨h.κ, h.j, h.len, h.jl, h.fold, h.si⟩, (at_set_eq hi).mem, mem_set_ne h.uao hi (ne_of_C (by simp [aoC])), mem_set_ne h.ull hi (ne_of_C (by simp [aoC])), mem_set_ne h.sao hi (ne_of_C (by simp [aoC])), mem_set_ne h.ell hi (ne_of_C (by simp [aoC])), h.es.set_ne hi (by simp [aoC]), h.jk.set_ne hi (by simp [aoC]), h.sn.set_ne hi (by simp [aoC]) (by simp [aoC]) (by simp [aoC])⟩
theorem Tr.In.set_ne {M : Led} {i k : Nat} {x : Tr} {u : V} {old new : Addr × AO} (h : Tr.In M k x u) (hi : At M i old) (hn : aoC old.2 ≠ 2) : Tr.In (M.set i new) k x u := h.subT fun a vs hm => mem_set_ne hm hi (ne_of_C fun q => hn q.symm)
theorem RowsIn.set_ne {M : Led} {i : Nat} {es : List ER} {ws : List V} {old new : Addr × AO} (h : RowsIn M es ws) (hi : At M i old) (hn : aoC old.2 ≠ 2) : RowsIn (M.set i new) es ws := All2.mono h fun _ _ h => h.set_ne hi hn
theorem RowsIn.sub {L L' : Led} {es : List ER} {ws : List V} (h : RowsIn L es ws) (s : ∀ p ∈ L, p ∈ L') : RowsIn L' es ws := All2.mono h fun _ _ h => h.sub s
theorem RowsIn.eqs {L : Led} {es : List ER} {us ws : List V} (h : RowsIn L es us) (h' : RowsIn L es ws) : All2 (EqN L 1) us ws := All2.joined (fun _ _ _ x y => x.eq y) h h'
theorem wts_eq {es : List ER} (h : ∀ e ∈ es, e.Sml) : es.map wt = es.map ER.sz := List.map_congr_left fun e he => (h e he).wt.symm
theorem sz_nonneg {es : List ER} (h : ∀ e ∈ es, e.Sml) : ∀ e ∈ es, 0 ≤ e.sz := fun e he => (ER.sz_bounds (h e he).b).1
section
variable {hb : HB} {w : World} {prog : Program} {n : Nat} {M : Led} {c : FC} {ρ : List (Option V)} {L : Led} {Q : V → Led → Prop}
theorem cut_eq {g : LG} {D E : Nat} : g.cut (g.fold + D + 1) (g.fold + E + 1) = (g.es.take E).drop D := by
  unfold LG.cut
  rw [show (g.fold + (D : Int) + 1 - (g.fold + 1)).toNat = D by lia, show (g.fold + (E : Int) + 1 - (g.fold + (D : Int) + 1)).toNat = E - D by lia, List.drop_take]
theorem ct_law_apply {g : LG} {i0 : Nat} {rl wl : Addr} {ws : List V} {D₀ E : Nat} (h : g.In M) (h0 : At M i0 g.lao) (hsm : ∀ e ∈ g.es, e.Sml) (hrl : (rl, AO.list ws) ∈ M) (hws : RowsIn M g.es ws) (hwl : (wl, AO.list (ivs (g.es.map wt))) ∈ M) (hap : g.ap = g.fold + D₀) (hcm : g.cm = g.fold + E) (hDE : D₀ ≤ E) (hE : E ≤ g.es.length)
    (q : Q (.bool true) (M.set i0 (g.at_ (g.fold + E) (g.fold + E)).lao)) : CT hb w prog (n + 8) 982 [.ref g.la, .ref rl, .int g.fold, .ref wl, .int g.mx] M Q := by
  refine CT.drop (CT.fn' (F := F__law_apply) (ρ := [some (.ref g.la), some (.ref rl), some (.int g.fold), some (.ref wl), some (.int g.mx), none, none, none, none]) F__law_apply_ok rfl rfl fun Lf ok => ?_)
  have hlen := h.len
  have hf := h.fold
  have hwlen : g.es.length = ws.length := by have := hws.len; rwa [List.length_map] at this
  walk_at "set"
  walk_at "set"
  rw [hap, hcm, show g.fold + (D₀ : Int) - g.fold = D₀ by lia, show g.fold + (E : Int) - g.fold = E by lia]
  refine SV.while_ (fun m ρ L => ∃ (D : Nat) (o1 o2 : Option V), m = E - D ∧ D ≤ E ∧ ρ = [some (.ref g.la), some (.ref rl), some (.int g.fold), some (.ref wl), some (.int g.mx), some (.int D), some (.int E), o1, o2] ∧ L = M.set i0 (g.at_ (g.fold + E) (g.fold + D)).lao) (E - D₀) ⟨D₀, none, none, rfl, hDE, rfl, ?_⟩ ?_
  · have e : g.lao = (g.at_ (g.fold + E) (g.fold + D₀)).lao := by unfold LG.lao LG.at_; rw [hap, hcm]
    rw [← e, ← (List.getElem?_eq_some_iff.mp h0).2]; exact (List.set_getElem_self _).symm
  rintro m ρ L ⟨D, o1, o2, rfl, hD, rfl, rfl⟩
  have hg := h.set_la h0 (g.fold + E) (g.fold + D)
  have hg0 : At (M.set i0 (g.at_ (g.fold + E) (g.fold + D)).lao) i0 (g.at_ (g.fold + E) (g.fold + D)).lao := at_set_eq h0
  have hrl' : (rl, AO.list ws) ∈ M.set i0 (g.at_ (g.fold + E) (g.fold + D)).lao := mem_set_ne hrl h0 (ne_of_C (by simp [aoC]))
  have hwl' : (wl, AO.list (ivs (g.es.map wt))) ∈ M.set i0 (g.at_ (g.fold + E) (g.fold + D)).lao := mem_set_ne hwl h0 (ne_of_C (by simp [aoC]))
  have hws' : RowsIn (M.set i0 (g.at_ (g.fold + E) (g.fold + D)).lao) g.es ws := hws.set_ne h0 (by simp [aoC])
  have hset : ∀ x, (M.set i0 (g.at_ (g.fold + E) (g.fold + D)).lao).set i0 x = M.set i0 x := fun x => List.set_set ..
  generalize hM : M.set i0 (g.at_ (g.fold + E) (g.fold + D)).lao = M₁ at hg hg0 hrl' hwl' hws' hset ⊢
  refine (At.of hrl').elim fun ir hir => ?_
  refine (At.of hwl').elim fun iw hiw => ?_
  have hmax : max (g.fold + (D : Int) + 1) (g.fold + 1) = g.fold + D + 1 := by lia
  refine PT.tv (p := (D : Int) < E) (by walk_at "pt") fun b hb' => ?_
  cases b with
  | false =>
    have : ¬ (D : Int) < E := fun h => by cases hb'.mpr h
    have hDE' : D = E := by lia
    have hfalse : decide (max (g.fold + (D : Int) + 1) (g.fold + 1) < g.fold + E + 1) = false := decide_eq_false (by lia)
    refine SV.ret (EV.and (AndE.cons (EV.of (PV.notB (PV.methF0 (j := 10) (by walk_at "pv") hg0 rfl rfl fun Q q => ct_rl_has_next (g := g.at_ (g.fold + E) (g.fold + D)) (hg.cons _) q)) ⟨true, by rw [hfalse]; rfl, AndE.one ?_⟩)))
    refine EV.cmp (EV.methP0 (j := 11) (PV.loc ok (i := 0) rfl rfl) hg0 rfl rfl (ct_rl_next_committed (g := g.at_ (g.fold + E) (g.fold + D)) (hg.cons _) (by show g.fold ≤ g.fold + D; lia) (by show g.fold + (D : Int) ≤ g.fold + E; lia) (by show g.fold + (E : Int) ≤ g.fold + g.es.length; lia) fun r => ⟨_, .swap .., EV.list (AV.nil ⟨by decide, fun r₂ x y hx hy => ?_⟩)⟩))
    have hnil : (g.at_ (g.fold + E) (g.fold + D)).page g.mx (g.fold + D + 1) (g.fold + E + 1) = [] := by rw [LG.page, LG.cut_nil (by lia)]; rfl
    refine EX.eqSeq hx hy (k := 0) (vs := []) (ws := []) (.inr ⟨?_, .head _⟩) .nil (by decide) ⟨M₁, .cons _ (.cons _ (.refl _)), ?_⟩
    · refine .tail _ ?_
      have : (r, AO.list (ers ((g.at_ (g.fold + E) (g.fold + D)).page g.mx (g.fold + D + 1) (g.fold + E + 1)))) ∈ (r, AO.list (ers ((g.at_ (g.fold + E) (g.fold + D)).page g.mx (g.fold + D + 1) (g.fold + E + 1)))) :: M₁ := .head _
      rw [hnil] at this ⊢
      exact this
    · rw [← hM, hDE']; exact q
  | true =>
    have hlt : D < E := by have := hb'.mp rfl; lia
    have htrue : decide (max (g.fold + (D : Int) + 1) (g.fold + 1) < g.fold + E + 1) = true := decide_eq_true (by lia)
    refine SV.assign' ok rfl (EV.methP0 (j := 11) (by walk_at "pv") hg0 rfl rfl (ct_rl_next_committed (g := g.at_ (g.fold + E) (g.fold + D)) (hg.cons _) (by show g.fold ≤ g.fold + D; omega) (by show g.fold + (D : Int) ≤ g.fold + E; lia) (by show g.fold + (E : Int) ≤ g.fold + g.es.length; lia) fun r => ⟨_, .swap .., _, by walk_at "sto", ?_⟩))
    have hpage : (g.at_ (g.fold + E) (g.fold + D)).page g.mx (g.fold + D + 1) (g.fold + E + 1) = ((g.es.take E).drop D).take (lim g.mx ((g.es.take E).drop D)) := by unfold LG.page; rw [show (g.at_ (g.fold + E) (g.fold + D)).cut = g.cut from rfl, cut_eq]
    have hcf : (g.at_ (g.fold + E) (g.fold + D)).page g.mx ((g.at_ (g.fold + E) (g.fold + D)).ap + 1) ((g.at_ (g.fold + E) (g.fold + D)).cm + 1) = ((g.es.take E).drop D).take (lim g.mx ((g.es.take E).drop D)) := hpage
    show SV _ w prog (n + 7) _ _ ((r, .list (ers ((g.at_ (g.fold + E) (g.fold + D)).page g.mx ((g.at_ (g.fold + E) (g.fold + D)).ap + 1) ((g.at_ (g.fold + E) (g.fold + D)).cm + 1)))) :: M₁) _ _
    rw [hcf]
    clear hcf hpage
    have hsmE : ∀ e ∈ g.es.take E, e.Sml := fun e he => hsm e (List.mem_of_mem_take he)
    have hEl : (g.es.take E).length = E := by rw [List.length_take]; lia
    have hll := lim_le g.mx ((g.es.take E).drop D)
    have hne : (g.es.take E).drop D ≠ [] := fun e => by have := congrArg List.length e; rw [List.length_drop, hEl] at this; simp at this; lia
    have hpos := (lim_spec (n := g.mx) (es := (g.es.take E).drop D) (fun e he => sz_nonneg hsmE e (List.mem_of_mem_drop he)) hne).1
    rw [List.length_drop, hEl] at hll
    obtain ⟨pre, hpre⟩ := ends_last (m := g.mx) (sz_nonneg hsmE) (lo := D) (by rw [hEl]; exact hlt)
    have hpg : ∀ j, j ≤ E - D → ((g.es.take E).drop D).take j = (g.es.drop D).take j := fun j hj => by rw [List.drop_take, List.take_take, Nat.min_eq_left hj]
    rw [hpg _ hll]
    generalize lim g.mx ((g.es.take E).drop D) = j at hll hpos hpre ⊢
    refine SV.assign' ok rfl (EV.item ?_ (by intro _ _ _; with_unfolding_all rfl))
    refine EV.call (by walk_at "pv") F__law_ends_keep (AV.cons (EV.slice (EV.of (v := .ref wl) (by walk_at "pv") ⟨wl, none, some (E : Int), iw + 1, ivs (g.es.map wt), rfl, trivial, (show PV _ _ _ _ _ _ _ _ _ by walk_at "pv"), hiw, by rw [List.length_map, List.length_map]; lia, fun s => ?_⟩)))
    rw [vpick_upto, show (ivs (g.es.map wt)).take E = ivs ((g.es.take E).map ER.sz) by rw [← wts_eq hsmE]; simp [ivs, List.map_take]]
    refine AV.cons (EV.of (v := .int D) (by walk_at "pv") (AV.cons (EV.of (v := .int g.mx) (by walk_at "pv") (AV.nil (CT.cx (ct_law_ends (j := 1) rfl (by rw [List.length_map, hEl]; lia) (by rw [List.length_map, hEl]; lia) fun e => ⟨_, .swap .., ?_⟩))))))
    rw [hpre]
    refine ⟨e, -1, 0, pre.length, nvs (pre ++ [D + j]), .int ((D + j : Nat) : Int), rfl, PV.neg PV.int, rfl, ?_, by simp [nvs], .inr (by simp [nvs]; lia), _, by walk_at "sto", ?_⟩
    · have hle : (pre ++ [D + j]).length ≤ 50 := by
        rw [← hpre]; unfold endsL
        exact Nat.le_trans (List.length_filter_le _ _) (by rw [List.length_range', List.length_map, hEl]; lia)
      simp only [nvs, List.length_map]; lia
    with_reducible refine SV.lose (L₀ := (r, .list (ers ((g.es.drop D).take j))) :: M₁) (by walk_at "perm") ?_
    have hpgs : ∀ e ∈ (g.es.drop D).take j, e ∈ g.es := fun e he => List.mem_of_mem_drop (List.mem_of_mem_take he)
    have hgr := hg.cons (r, .list (ers ((g.es.drop D).take j)))
    have hg0r : At ((r, .list (ers ((g.es.drop D).take j))) :: M₁) (i0 + 1) (g.at_ (g.fold + E) (g.fold + D)).lao := hg0
    have hirr : At ((r, .list (ers ((g.es.drop D).take j))) :: M₁) (ir + 1) (rl, .list ws) := hir
    refine SV.if_ (TV.boolop (AllT.consO (PT.tv (PT.not (PT.valB (PV.methF0 (j := 10) (i := i0 + 1) (by walk_at "pv") hg0r rfl rfl fun Q q => ct_rl_has_next (g := g.at_ (g.fold + E) (g.fold + D)) (hgr.cons _) q) rfl)) fun t ht => ?_)))
    have ht' : t = false := by
      cases t with
      | false => rfl
      | true => exact absurd htrue (ht.mp rfl)
    subst ht'
    refine AllT.consO (TV.cmp (EV.callP (vs := [.ref r]) (by walk_at "pv") F__law_rows_keep (.cons (by walk_at "pv") .nil rfl) rfl rfl (ct_law_rows (es := (g.es.drop D).take j) (.tail _ (.head _)) ((hg.es.sub hpgs).to fun p hp => .tail _ (.tail _ hp)) (by rw [List.length_take, List.length_drop]; omega) fun ws' A r' hws₂ => ⟨_, mid (A := (r', .list ws') :: A), ?_⟩)) rfl)
    have hirA : At (((r', AO.list ws') :: A) ++ ((r, .list (ers ((g.es.drop D).take j))) :: M₁)) (A.length + 1 + (ir + 1)) (rl, .list ws) := hirr.app (A := (r', AO.list ws') :: A)
    refine EV.slice (EV.of (v := .ref rl) (by walk_at "pv") ⟨rl, some (D : Int), some ((D + j : Nat) : Int), _, ws, rfl, (show PV _ _ _ _ _ _ _ _ _ by walk_at "pv"), (show PV _ _ _ _ _ _ _ _ _ by walk_at "pv"), hirA, by lia, fun s' x y hx hy => ?_⟩)
    rw [vpick_run (by lia)] at *
    have hR1 : RowsIn ((s', AO.list ((ws.drop D).take (D + j - D))) :: (((r', AO.list ws') :: A) ++ ((r, .list (ers ((g.es.drop D).take j))) :: M₁))) ((g.es.drop D).take j) ws' := All2.mono hws₂ fun x y hxy => (hxy.fr).sub fun p hp => .tail _ (.tail _ hp)
    have hR2 : RowsIn ((s', AO.list ((ws.drop D).take (D + j - D))) :: (((r', AO.list ws') :: A) ++ ((r, .list (ers ((g.es.drop D).take j))) :: M₁))) ((g.es.drop D).take j) ((ws.drop D).take (D + j - D)) := by
      rw [show D + j - D = j by lia]
      have := ((hws'.sub fun p hp => (.tail _ (.tail _ (List.mem_append_right A (.tail _ hp))) : p ∈ (s', AO.list ((ws.drop D).take (D + j - D))) :: (((r', AO.list ws') :: A) ++ ((r, .list (ers ((g.es.drop D).take j))) :: M₁)))).drop D).take j
      rw [← List.map_drop, ← List.map_take, show D + j - D = j by omega] at this
      exact this
    refine EX.neSeq hx hy (.inr ⟨.tail _ (.head _), .head _⟩) (hR1.eqs hR2) (by decide) ⟨false, rfl, AllT.nilO (SV.done ?_)⟩
    clear hR1 hR2 hx hy
    with_reducible refine SV.lose (L₀ := M₁) (by walk_at "perm") ?_
    refine SV.expr (EV.methP (j := 5) (vs' := [.int (g.fold + ((D + j : Nat) : Int))]) (by walk_at "pv") hg0 rfl (.cons (by walk_at "pv") .nil rfl) rfl rfl rfl (ct_rl_applied_to (g := g.at_ (g.fold + E) (g.fold + D)) (i0 := i0 + 1) hg0 (by lia) (by show g.fold + (D : Int) ≤ _; lia) (by show _ ≤ g.fold + (E : Int); lia) ⟨_, .refl _, ?_⟩)) rfl rfl
    walk_at "set"
    exact SV.nil ⟨E - (D + j), by lia, D + j, _, _, rfl, by lia, rfl, hset _⟩
end
end
section
structure Base (R : Led) (es : List ER) (rows : List V) (el rl wl : Addr) : Prop where
  bel : (el, AO.list (ers es)) ∈ R
  bes : Has R es
  sml : ∀ e ∈ es, e.Sml
  brl : (rl, AO.list rows) ∈ R
  brows : RowsIn R es rows
  bwl : (wl, AO.list (ivs (es.map wt))) ∈ R
theorem Base.sub {R R' : Led} {es : List ER} {rows : List V} {el rl wl : Addr} (h : Base R es rows el rl wl) (s : ∀ p ∈ R, p ∈ R') : Base R' es rows el rl wl := ⟨s _ h.bel, h.bes.to s, h.sml, s _ h.brl, h.brows.sub s, s _ h.bwl⟩
theorem Base.set_ne {R : Led} {i : Nat} {old new : Addr × AO} {es : List ER} {rows : List V} {el rl wl : Addr} (h : Base R es rows el rl wl) (hi : At R i old) (h1 : aoC old.2 ≠ 299) (h2 : aoC old.2 ≠ 2) (h3 : aoC old.2 ≠ 1) : Base (R.set i new) es rows el rl wl :=
  ⟨mem_set_ne h.bel hi (ne_of_C fun q => h3 q.symm), h.bes.set_ne hi h1, h.sml, mem_set_ne h.brl hi (ne_of_C fun q => h3 q.symm), h.brows.set_ne hi h2, mem_set_ne h.bwl hi (ne_of_C fun q => h3 q.symm)⟩
theorem lim_all {m : Int} {es : List ER} (h : ∀ e ∈ es, 0 ≤ e.sz) (hs : szs es ≤ m) : lim m es = es.length := by
  cases es with
  | nil => rfl
  | cons e r =>
    have le := lim_le m (e :: r)
    obtain ⟨_, _, c⟩ := lim_spec (n := m) h (by simp)
    apply Nat.le_antisymm le
    apply Nat.le_of_not_lt
    intro hlt
    have := c _ hlt (Nat.le_refl _)
    rw [List.take_length] at this
    lia
theorem szs_le : ∀ {es : List ER}, (∀ e ∈ es, e.Sml) → szs es ≤ 1040 * es.length
  | [], _ => by simp [szs]
  | e :: r, h => by
    have := szs_le (es := r) fun x hx => h x (.tail _ hx)
    have := (ER.sz_bounds (h e (.head _)).b).2
    rw [szs_cons, List.length_cons]; lia
theorem page_all {g : LG} (h : ∀ e ∈ g.es, e.Sml) (hl : g.es.length < 50) : g.page 18446744073709551615 (g.fold + 1) (g.fold + g.es.length + 1) = g.es := by
  have e : g.cut (g.fold + 1) (g.fold + g.es.length + 1) = g.es := by
    unfold LG.cut
    rw [show (g.fold + 1 - (g.fold + 1)).toNat = 0 by lia, List.drop_zero, show (g.fold + (g.es.length : Int) + 1 - (g.fold + 1)).toNat = g.es.length by lia, List.take_length]
  have := szs_le h
  unfold LG.page
  rw [e, lim_all (sz_nonneg h) (by lia), List.take_length]
section
variable {hb : HB} {w : World} {prog : Program} {n : Nat} {M : Led} {c : FC} {ρ : List (Option V)} {L : Led} {Q : V → Led → Prop}
theorem law_last {g : LG} {rows : List V} {el rl wl : Addr} {Lf : Addr} {a0 a1 a2 a3 a4 a6 a7 a8 a9 a10 a11 a14 a15 a16 a19 a21 a22 a23 : Option V} (ok : FOk (F_law.fc F_law_ok.parts.nd Lf)) (h : g.In L) (hB : Base L g.es rows el rl wl) (hap : g.ap = g.fold + g.es.length) (ht : g.sn.t = 2) (hsb : g.sn.b = [120, 121, 122].toArray) (hco : g.sn.c.Ok) (h4 : a4 = some (.int g.es.length))
    (q : ∀ L', Q (.bool true) L') :
    SV ⟨hb.h, some (F_law.fc F_law_ok.parts.nd Lf).env⟩ w prog (n + 12) (F_law.fc F_law_ok.parts.nd Lf) [a0, a1, a2, a3, a4, some (.int g.fold), a6, a7, a8, a9, a10, a11, some (.ref rl), some (.ref wl), a14, a15, a16, some (.ref g.sn.c.a), some (.ref g.sn.a), a19, some (.ref g.la), a21, a22, a23] L ((sBody F_law.st).drop 39) fun fl _ M' => Q (match fl with | .ret v => v | _ => .none) M' := by
  subst h4
  refine (At.of h.lao).elim fun i0 h0 => ?_
  refine (At.of h.sn.ao).elim fun is hs => ?_
  refine (At.of (h.sn.c g.sn.c.ao (by simp [CR.led]))).elim fun ic hc => ?_
  have hlen := h.len
  refine SV.ret (EV.and (AndE.cons (EV.of (PV.cmp' (v := .bool (decide (g.ap = g.fold + g.es.length))) (by walk_at "pv") (by walk_at "pv") PO.eq rfl) ⟨true, by rw [decide_eq_true hap], ?_⟩)))
  refine AndE.cons (EV.cmp (EV.call (by walk_at "pv") F__law_rows_keep (AV.cons (EV.methP0 (j := 14) (by walk_at "pv") h0 rfl rfl (ct_rl_all_entries (h.cons _) fun r => ⟨_, .swap .., AV.nil (CT.cx ?_)⟩)))))
  have hp := page_all hB.sml hlen
  rw [hp]
  refine ct_law_rows (es := g.es) (.tail _ (.head _)) ((hB.bes.cons _).cons _) (by lia) fun ws A r' hws => ⟨_, mid (A := (r', .list ws) :: A), EV.of (v := .ref rl) (by walk_at "pv") fun x y hx hy => ?_⟩
  have hR1 : RowsIn (((r', AO.list ws) :: A) ++ ((r, .list (ers g.es)) :: L)) g.es ws := All2.mono hws fun x y hxy => (hxy.fr).sub fun p hp => .tail _ hp
  have hR2 : RowsIn (((r', AO.list ws) :: A) ++ ((r, .list (ers g.es)) :: L)) g.es rows := hB.brows.sub fun p hp => List.mem_append_right _ (.tail _ hp)
  refine EX.eqSeq hx hy (.inr ⟨.head _, List.mem_append_right _ (.tail _ hB.brl)⟩) (hR1.eqs hR2) (by decide) ⟨true, rfl, ?_⟩
  generalize (r', AO.list ws) :: A = A₁
  clear hR1 hR2 hx hy hws
  refine AndE.one (EV.cmp (EV.methP0 (i := A₁.length + (is + 1)) (j := 0) (a := g.sn.a) (k := C_Snapshot) (by walk_at "pv") (At.app (At.tl hs)) rfl rfl (ct_Snapshot_row (k := g.sn) (h.sn.sub fun p hp => .tail _ (List.mem_append_right _ (.tail _ hp))) hco fun B r₂ hr₂ => ⟨B ++ (A₁ ++ ((r, .list (ers g.es)) :: L)), mid, EV.tuple ?_⟩)))
  refine AV.cons (EV.of (v := .int g.fold) (by walk_at "pv") (AV.cons (EV.of (v := .int 2) PV.int (AV.cons ?_))))
  refine EV.methP0 (i := B.length + (A₁.length + (ic + 1))) (j := 0) (a := g.sn.c.a) (k := C_ConfState) (by walk_at "pv") (At.app (At.app (At.tl hc))) rfl rfl (ct_ConfState_row (k := g.sn.c) (h.sn.c.sub fun p hp => .tail _ (List.mem_append_right _ (List.mem_append_right _ (.tail _ hp)))) hco fun C r₃ hr₃ => ⟨C ++ (B ++ (A₁ ++ ((r, .list (ers g.es)) :: L))), mid, ?_⟩)
  refine AV.cons (EV.of PV.bytes (AV.nil ⟨by simp, fun r₄ x y hx hy => ?_⟩))
  have ht2 : Tr.In ((r₄, AO.tup [.int g.fold, .int 2, .ref r₃, .bytes [120, 121, 122].toArray]) :: (C ++ (B ++ (A₁ ++ ((r, .list (ers g.es)) :: L))))) 3 g.sn.tr (.ref r₄) := by
    refine ⟨r₄, _, rfl, .head _, .cons ⟨by rw [h.si], rfl⟩ (.cons ⟨by rw [ht], rfl⟩ (.cons (hr₃.fr.sub fun p hp => .tail _ hp) (.cons ⟨by rw [hsb], rfl⟩ .nil)))⟩
  obtain ⟨vs, us, hv1, hv2, hv3⟩ := Tr.In.topEq (k := 2) (hr₂.fr.sub fun p hp => (.tail _ (List.mem_append_right _ hp) : p ∈ (r₄, AO.tup [.int g.fold, .int 2, .ref r₃, .bytes [120, 121, 122].toArray]) :: (C ++ (B ++ (A₁ ++ ((r, .list (ers g.es)) :: L)))))) ht2
  exact EX.eqSeq hx hy (.inl ⟨hv1, hv2⟩) hv3 (by decide) (q _)
end
end
section
theorem mem_fr {A M : Led} {c : FC} {ρ : List (Option V)} {p : Addr × AO} (h : p ∈ A ++ c.fr ρ :: M) (hn : aoC p.2 ≠ 4) : p ∈ A ++ M := by
  rcases List.mem_append.mp h with h | h
  · exact List.mem_append_left _ h
  · rcases List.mem_cons.mp h with h | h
    · rw [h] at hn; exact absurd rfl hn
    · exact List.mem_append_right _ h
theorem Has.fr {A M : Led} {c : FC} {ρ : List (Option V)} {es : List ER} (h : Has (A ++ c.fr ρ :: M) es) : Has (A ++ M) es := fun e he => ⟨(h e he).1, mem_fr (h e he).2 (by simp [aoC])⟩
theorem SR.In.fr {A M : Led} {c : FC} {ρ : List (Option V)} {s : SR} (h : s.In (A ++ c.fr ρ :: M)) : s.In (A ++ M) := ⟨mem_fr h.ao (by simp [aoC]), fun p hp => mem_fr (h.c p hp) (by
  simp only [CR.led, List.mem_cons, List.not_mem_nil, or_false] at hp
  rcases hp with rfl | rfl | rfl | rfl | rfl <;> simp [aoC])⟩
theorem LG.In.fr {A M : Led} {c : FC} {ρ : List (Option V)} {g : LG} (h : g.In (A ++ c.fr ρ :: M)) : g.In (A ++ M) :=
  ⟨h.toOk, mem_fr h.lao (by simp [aoC]), mem_fr h.uao (by simp [aoC]), mem_fr h.ull (by simp [aoC]), mem_fr h.sao (by simp [aoC]), mem_fr h.ell (by simp [aoC]), Has.fr h.es, Has.fr h.jk, SR.In.fr h.sn⟩
section
variable {hb : HB} {w : World} {prog : Program} {n : Nat} {M : Led} {c : FC} {ρ : List (Option V)} {L : Led} {Q : V → Led → Prop}
theorem law_z {g : LG} {rows : List V} {el rl wl : Addr} {Lf : Addr} {y : Int} {a0 a1 a2 a6 a8 a9 a10 a11 a14 a15 a21 a22 a23 : Option V} (ok : FOk (F_law.fc F_law_ok.parts.nd Lf)) (h : g.In L) (hB : Base L g.es rows el rl wl) (hrow : Row (g.fold + 1) g.es) (hap : g.ap = g.fold) (hcm : g.cm = g.fold) (hpos : 0 < g.es.length) (ht : g.sn.t = 2) (hsb : g.sn.b = [120, 121, 122].toArray) (hco : g.sn.c.Ok) (hy : 0 ≤ y)
    (q : ∀ L', Q (.bool true) L') :
    SV ⟨hb.h, some (F_law.fc F_law_ok.parts.nd Lf).env⟩ w prog (n + 12) (F_law.fc F_law_ok.parts.nd Lf) [a0, a1, a2, some (.int y), some (.int g.es.length), some (.int g.fold), a6, some (.int g.mx), a8, a9, a10, a11, some (.ref rl), some (.ref wl), a14, a15, some (.ref g.sa), some (.ref g.sn.c.a), some (.ref g.sn.a), some (.int g.κ), some (.ref g.la), a21, a22, a23] L ((sBody F_law.st).drop 34) fun fl _ M' => Q (match fl with | .ret v => v | _ => .none) M' := by
  have hlen := h.len
  have hf := h.fold
  refine (At.of h.lao).elim fun i0 h0 => ?_
  obtain ⟨C, hC⟩ : ∃ C : Nat, y / 48 % (g.es.length + 1) = C := ⟨(y / 48 % (g.es.length + 1)).toNat, by have := Int.emod_nonneg (y / 48) (show ((g.es.length : Int) + 1) ≠ 0 by lia); lia⟩
  have hCl : C ≤ g.es.length := by have := Int.emod_lt_of_pos (y / 48) (show (0 : Int) < (g.es.length : Int) + 1 by lia); lia
  refine SV.expr (EV.methP (j := 4) (vs' := [.int (g.fold + C)]) (by walk_at "pv") h0 rfl (.cons (PV.bin (by walk_at "pv") (hC ▸ PV.bin (PV.bin (by walk_at "pv") PV.int (PO.fdiv' (by decide) (by decide))) (by walk_at "pv") (PO.fmod' (by omega) (by lia))) PO.add) .nil rfl) rfl rfl rfl (ct_rl_commit_to (g := g) (i0 := i0 + 1) (h.cons _) h0 (by lia) (by lia) ⟨_, .refl _, ?_⟩)) rfl rfl
  have h1 : (g.at_ (g.fold + C) g.ap).In (L.set i0 (g.at_ (g.fold + C) g.ap).lao) := h.set_la h0 _ _
  have hB1 : Base (L.set i0 (g.at_ (g.fold + C) g.ap).lao) g.es rows el rl wl := hB.set_ne h0 (by simp [aoC]) (by simp [aoC]) (by simp [aoC])
  have h01 : At (L.set i0 (g.at_ (g.fold + C) g.ap).lao) i0 (g.at_ (g.fold + C) g.ap).lao := at_set_eq h0
  show SV _ w prog (n + 12) _ _ (L.set i0 (g.at_ (g.fold + C) g.ap).lao) _ _
  generalize L.set i0 (g.at_ (g.fold + C) g.ap).lao = L₁ at h1 hB1 h01 ⊢
  refine SV.if_ (TV.not (TV.valB (EV.callP (vs := [.ref g.la, .ref rl, .int g.fold, .ref wl, .int g.mx]) (by walk_at "pv") (fun P => F__law_apply_keep P) (by walk_at "pvl") rfl rfl (ct_law_apply (g := g.at_ (g.fold + C) g.ap) (i0 := i0 + 1) (D₀ := 0) (E := C) (h1.cons _) h01 hB1.sml (.tail _ hB1.brl) (hB1.brows.sub fun p hp => .tail _ hp) (.tail _ hB1.bwl) (by show g.ap = g.fold + ((0 : Nat) : Int); lia) rfl (Nat.zero_le _) hCl ⟨_, .refl _, true, rfl, ?_⟩)) rfl))
  refine SV.done ?_
  have h2 : (g.at_ (g.fold + C) (g.fold + C)).In (L₁.set i0 (g.at_ (g.fold + C) (g.fold + C)).lao) := h1.set_la h01 (g.fold + C) (g.fold + C)
  have hB2 : Base (L₁.set i0 (g.at_ (g.fold + C) (g.fold + C)).lao) g.es rows el rl wl := hB1.set_ne h01 (by simp [aoC]) (by simp [aoC]) (by simp [aoC])
  show SV _ w prog (n + 12) _ _ (L₁.set i0 (g.at_ (g.fold + C) (g.fold + C)).lao) _ _
  generalize L₁.set i0 (g.at_ (g.fold + C) (g.fold + C)).lao = L₂ at h2 hB2 ⊢
  clear h1 hB1 h01 h0
  refine SV.ifI (p := y / 240 % 2 = 0 ∧ (g.κ : Int) < g.es.length) (fun ρ' L' => ρ' = [a0, a1, a2, some (.int y), some (.int g.es.length), some (.int g.fold), a6, some (.int g.mx), a8, a9, a10, a11, some (.ref rl), some (.ref wl), a14, a15, some (.ref g.sa), some (.ref g.sn.c.a), some (.ref g.sn.a), some (.int g.κ), some (.ref g.la), a21, a22, a23] ∧ ∃ g' : LG, g'.la = g.la ∧ g'.es = g.es ∧ g'.fold = g.fold ∧ g'.mx = g.mx ∧ g'.sn = g.sn ∧ g'.cm = g.fold + C ∧ g'.ap = g.fold + C ∧ g'.In L' ∧ Base L' g.es rows el rl wl) (PT.and' (PT.cmp' (PV.bin (PV.bin (by walk_at "pv") PV.int (PO.fdiv' (by decide) (by decide))) PV.int (PO.fmod' (by decide) (by decide))) PV.int PO.eq rfl) (PT.cmp' (by walk_at "pv") (by walk_at "pv") PO.lt rfl)) ?_ ?_ ?_
  · rintro ⟨_, hκ⟩
    refine (At.of h2.lao).elim fun i0 h0 => ?_
    refine (At.of h2.sao).elim fun i3 h3 => ?_
    refine SV.expr (EV.meth (j := 5) (i := i3) (a := g.sa) (k := C_MemoryStorage) (by walk_at "pv") h3 rfl (AV.cons (EV.methP0 (j := 7) (i := i0) (by walk_at "pv") h0 rfl rfl (ct_rl_unstable_entries (g := g.at_ (g.fold + C) (g.fold + C)) (h2.cons _) fun r => ⟨_, .swap .., AV.nil (CT.cx (ct_lg_store (g := g.at_ (g.fold + C) (g.fold + C)) (i3 := i3 + 2) ((h2.cons _).cons _) h3 (At.tl At.hd) (by show g.κ < g.es.length; lia) hrow fun el' hin => ⟨_, .swap .., ?_⟩))⟩))) rfl rfl rfl) rfl rfl
    have h3in := LG.In.fr (A := [_]) hin
    have hB3 : Base ((el', AO.list (ers ((g.at_ (g.fold + C) (g.fold + C)).put el').ss)) :: (r, AO.list (ers (g.at_ (g.fold + C) (g.fold + C)).us)) :: L₂.set i3 ((g.at_ (g.fold + C) (g.fold + C)).put el').sao) g.es rows el rl wl := (hB2.set_ne h3 (by simp [aoC]) (by simp [aoC]) (by simp [aoC])).sub fun p hp => .tail _ (.tail _ hp)
    show SV _ w prog (n + 12) _ _ ((el', AO.list (ers ((g.at_ (g.fold + C) (g.fold + C)).put el').ss)) :: (r, AO.list (ers (g.at_ (g.fold + C) (g.fold + C)).us)) :: L₂.set i3 ((g.at_ (g.fold + C) (g.fold + C)).put el').sao) _ _
    have h3in' : ((g.at_ (g.fold + C) (g.fold + C)).put el').In ((el', AO.list (ers ((g.at_ (g.fold + C) (g.fold + C)).put el').ss)) :: (r, AO.list (ers (g.at_ (g.fold + C) (g.fold + C)).us)) :: L₂.set i3 ((g.at_ (g.fold + C) (g.fold + C)).put el').sao) := h3in
    clear h3in hin h0 h3
    generalize (el', AO.list (ers ((g.at_ (g.fold + C) (g.fold + C)).put el').ss)) :: (r, AO.list (ers (g.at_ (g.fold + C) (g.fold + C)).us)) :: L₂.set i3 ((g.at_ (g.fold + C) (g.fold + C)).put el').sao = L₃ at h3in' hB3 ⊢
    refine (At.of h3in'.lao).elim fun i0 h0 => ?_
    refine (At.of h3in'.uao).elim fun i1 h1 => ?_
    refine (At.of hB3.brl).elim fun ir hir => ?_
    have hrl : rows.length = g.es.length := by have := hB3.brows.len; rw [List.length_map] at this; lia
    obtain ⟨v, hv⟩ : ∃ v, rows[g.es.length - 1]? = some v := ⟨_, List.getElem?_eq_getElem (by lia)⟩
    obtain ⟨x, hx, hvT⟩ := hB3.brows.at hv
    rw [List.getElem?_map] at hx
    obtain ⟨e, he, rfl⟩ := Option.map_eq_some_iff.mp hx
    obtain ⟨r₅, rfl, hm⟩ := ER.ofTr hvT
    refine (At.of hm).elim fun i5 h5 => ?_
    have h50 : [V.int e.t, .int e.i, .int e.k, .bytes e.b][0]? = some (.int e.t) := rfl
    refine SV.expr (EV.methP (j := 6) (vs' := [.int (g.fold + g.es.length), .int e.t]) (by walk_at "pv") h0 rfl (.cons (by walk_at "pv") (.cons (PV.itemTu (a := r₅) (i := i5) (j := 0) (PV.itemL (a := rl) (i := ir) (k := -1) (j := g.es.length - 1) (by walk_at "pv") (PV.neg PV.int) hir (by lia) hv (.inr (by lia)) (by intro _ _ _; with_unfolding_all rfl)) PV.int h5 (by simp) h50 (by intro _ _ _; with_unfolding_all rfl)) .nil rfl) rfl) rfl rfl rfl (ct_rl_stable (g := (g.at_ (g.fold + C) (g.fold + C)).put el') (i1 := i1 + 1) (h3in'.cons _) h1 rfl (by show g.κ < g.es.length; lia) (fun e' he' => by
      have he' : g.es.getLast? = some e' := he'
      rw [List.getLast?_eq_getElem?, he] at he'; cases he'; rfl) fun ul' hin => ⟨_, .swap .., ?_⟩)) rfl rfl
    have h4in := LG.In.fr (A := [_]) hin
    have hB4 : Base ((ul', AO.list []) :: L₃.set i1 (((g.at_ (g.fold + C) (g.fold + C)).put el').stored ul').uao) g.es rows el rl wl := (hB3.set_ne h1 (by simp [aoC]) (by simp [aoC]) (by simp [aoC])).sub fun p hp => .tail _ hp
    have h4in' : (((g.at_ (g.fold + C) (g.fold + C)).put el').stored ul').In ((ul', AO.list []) :: L₃.set i1 (((g.at_ (g.fold + C) (g.fold + C)).put el').stored ul').uao) := h4in
    show SV _ w prog (n + 12) _ _ ((ul', AO.list []) :: L₃.set i1 (((g.at_ (g.fold + C) (g.fold + C)).put el').stored ul').uao) _ _
    clear h4in hin h0 h1 h5 hm hvT hir
    generalize (ul', AO.list []) :: L₃.set i1 (((g.at_ (g.fold + C) (g.fold + C)).put el').stored ul').uao = L₄ at h4in' hB4 ⊢
    refine (At.of h4in'.lao).elim fun i0 h0 => ?_
    refine SV.if_ (TV.cmp (EV.methP0 (j := 7) (i := i0) (by walk_at "pv") h0 rfl rfl (ct_rl_unstable_entries (g := ((g.at_ (g.fold + C) (g.fold + C)).put el').stored ul') (h4in'.cons _) fun r₆ => ⟨_, .swap .., EV.list (AV.nil ⟨by decide, fun r₇ x y hx hy => ?_⟩)⟩)))
    have hnil : (((g.at_ (g.fold + C) (g.fold + C)).put el').stored ul').us = [] := List.drop_length
    rw [hnil]
    refine EX.neSeq hx hy (k := 0) (vs := []) (ws := []) (.inr ⟨.tail _ (.head _), .head _⟩) .nil (by decide) ⟨false, rfl, SV.done ?_⟩
    exact SV.nil ⟨rfl, rfl, ((g.at_ (g.fold + C) (g.fold + C)).put el').stored ul', rfl, rfl, rfl, rfl, rfl, rfl, rfl, (h4in'.cons _).cons _, hB4.sub fun p hp => .tail _ (.tail _ hp)⟩
  · intro _
    exact SV.nil ⟨rfl, rfl, g.at_ (g.fold + C) (g.fold + C), rfl, rfl, rfl, rfl, rfl, rfl, rfl, h2, hB2⟩
  clear h2 hB2
  rintro ρ' L' ⟨rfl, g', e1, e2, e3, e4, e5, e6, e7, h3, hB3⟩
  rw [← e1, ← e2, ← e3, ← e4, ← e5]
  rw [← e2] at hB3 hCl
  rw [← e3] at e6 e7
  rw [← e5] at ht hsb hco
  have hf' := h3.fold
  have hlen' := h3.len
  generalize V.ref g.sa = sav
  generalize V.int g.κ = kav
  clear h hB hrow hap hcm hpos hlen hf hC e1 e2 e3 e4 e5
  refine (At.of h3.lao).elim fun i0 h0 => ?_
  refine SV.expr (EV.methP (j := 4) (vs' := [.int (g'.fold + g'.es.length)]) (by walk_at "pv") h0 rfl (.cons (by walk_at "pv") .nil rfl) rfl rfl rfl (ct_rl_commit_to (g := g') (i0 := i0 + 1) (h3.cons _) h0 (by lia) (by lia) ⟨_, .refl _, ?_⟩)) rfl rfl
  have h1 : (g'.at_ (g'.fold + g'.es.length) g'.ap).In (L'.set i0 (g'.at_ (g'.fold + g'.es.length) g'.ap).lao) := h3.set_la h0 _ _
  have hB1 : Base (L'.set i0 (g'.at_ (g'.fold + g'.es.length) g'.ap).lao) g'.es rows el rl wl := hB3.set_ne h0 (by simp [aoC]) (by simp [aoC]) (by simp [aoC])
  have h01 : At (L'.set i0 (g'.at_ (g'.fold + g'.es.length) g'.ap).lao) i0 (g'.at_ (g'.fold + g'.es.length) g'.ap).lao := at_set_eq h0
  show SV _ w prog (n + 12) _ _ (L'.set i0 (g'.at_ (g'.fold + g'.es.length) g'.ap).lao) _ _
  generalize L'.set i0 (g'.at_ (g'.fold + g'.es.length) g'.ap).lao = L₁ at h1 hB1 h01 ⊢
  refine SV.if_ (TV.not (TV.valB (EV.callP (vs := [.ref g'.la, .ref rl, .int g'.fold, .ref wl, .int g'.mx]) (by walk_at "pv") (fun P => F__law_apply_keep P) (by walk_at "pvl") rfl rfl (ct_law_apply (g := g'.at_ (g'.fold + g'.es.length) g'.ap) (i0 := i0 + 1) (D₀ := C) (E := g'.es.length) (h1.cons _) h01 hB1.sml (.tail _ hB1.brl) (hB1.brows.sub fun p hp => .tail _ hp) (.tail _ hB1.bwl) e7 rfl hCl (Nat.le_refl _) ⟨_, .refl _, true, rfl, ?_⟩)) rfl))
  refine SV.done ?_
  have h2 : (g'.at_ (g'.fold + g'.es.length) (g'.fold + g'.es.length)).In (L₁.set i0 (g'.at_ (g'.fold + g'.es.length) (g'.fold + g'.es.length)).lao) := h1.set_la h01 _ _
  have hB2 : Base (L₁.set i0 (g'.at_ (g'.fold + g'.es.length) (g'.fold + g'.es.length)).lao) g'.es rows el rl wl := hB1.set_ne h01 (by simp [aoC]) (by simp [aoC]) (by simp [aoC])
  exact law_last (g := g'.at_ (g'.fold + g'.es.length) (g'.fold + g'.es.length)) ok h2 hB2 rfl ht hsb hco rfl q
end
end
section
section
variable {hb : HB} {w : World} {prog : Program} {n : Nat} {c : FC} {ρ : List (Option V)} {L : Led} {Q : FlowA → List (Option V) → Led → Prop}
theorem SV.tryR (k : EC) {body : List Stmt} {b₀ : Stmt} {suite : List Stmt} {np hp pos : Pos} {hs : List ExceptHandler} {rest : List Stmt} {i : Nat} (hx : c.gl[i]? = some (k.x, .ref k.C)) (ok : FOk c) (hf : c.env.frame = some c.env.locals) (ht : hb.top = some c.env)
    (h : RX hb w prog n false (execs body c.env) (c.fr ρ :: L) k.C fun L' => ∃ ρ' L'', L' = c.fr ρ' :: L'' ∧ SVA hb w prog c ρ' L'' (b₀ :: suite) (Then hb w prog n c rest Q)) :
    SV hb w prog n c ρ L (.Try body (.ExceptHandler (some (.Name k.x np)) none (b₀ :: suite) hp :: hs) [] [] pos :: rest) Q :=
  SV.cons fun A s Qc E rm fo S K => wpC_Try (by
    obtain ⟨fs, hfr⟩ := rm.top _ ht
    refine h A s _ _ (c.env :: fs) rm fo hfr S fun e L' s' hq x => ?_
    obtain ⟨ρ', L'', rfl, hq⟩ := hq
    obtain ⟨hm, _⟩ | ⟨B, a0, cv, fl⟩ := x
    · cases hm
    have F₀ : FrsOk hb.h _ s' (c.env :: fs) := (FrsOk.of fo hfr).to cv.to
    refine anyC (wpAny_looks_onW hfr hf fl fun h₄ held₄ u₄ => anyC (wpAny_landsW held₄ fun h₅ fl₅ u₅ => anyC ?_))
    have cv₅ := (cv.step F₀ fl₅.1 (u₄.trans u₅) : Cov _ _ _ _ _ _ { s' with heap := h₅ } _)
    refine (k.own cv₅.st.good).elim fun mg O => ?_
    refine own_use O fun tl N nm qn bs hdct sn sub ab col dd k0 k1 k2 k3 k5 mN hC hN hni T => ?_
    obtain ⟨ob, hob, hobc⟩ := fl₅.there
    have nm' : ∀ {A' : Around} {E' : Value → Shared → Prop} {Q' : Value → Shared → Prop}, Q' (.ref k.C) { s' with heap := h₅ } → wpAny (model prog w) A' (eval (.Name k.x np) c.env) Q' E' { s' with heap := h₅ } := by
      intro A' E' Q' q
      obtain ⟨h1, h2, h3⟩ := ok.glob _ (List.mem_of_getElem? hx)
      refine wpAny_Name ?_ h2
      have e : loadName c.env k.x = loadGlobal c.env k.x := by
        unfold loadName Env.blockKind
        rw [ok.kind, h1]
        rfl
      rw [e]
      rcases h3 w _ cv₅.st.good with ⟨m, v', hn, hm, hv⟩ | ⟨m, mb, v', hn, hm, hnb, hmb, hv⟩
      · cases hv; exact loadGlobal_global (ok.glo.symm ▸ hn) hm q
      · cases hv; exact loadGlobal_builtin (ok.glo.symm ▸ hn) hm (ok.bui.symm ▸ hnb) hmb q
    refine wpAny_handleBy_cons (codeAny_handlers_test (nm' ?_)) (by intro q; cases q)
    refine wpAny_excMatches_sub_self hC hob hobc (T.hasType PySem.F.excBase_Exception.hasBase) (codeAny_handlers_suite ?_)
    refine lands_againW fl₅ fun h₆ fl₆ u₆ => ?_
    have F₅ : FrsOk hb.h (c.fr ρ' :: L'') { s' with heap := h₅ } (c.env :: fs) := (FrsOk.of fo hfr).to cv₅.to
    have cv₆ := (cv₅.step F₅ fl₆.1 u₆ : Cov _ _ _ _ _ _ { s' with heap := h₆ } _)
    refine hq _ _ _ _ cv₆.st fun a f L₁ s₁ hq₁ hr S₁ T₁ => ?_
    have TT := cv₆.to.trans T₁
    exact K a f L₁ s₁ hq₁ hr S₁ TT)
end
section
variable {hb : HB} {w : World} {prog : Program} {n : Nat} {c : FC} {ρ : List (Option V)} {L : Led} {mk : Bool} {C : Addr} {P : Led → Prop}
theorem RX.methP {o : Expr} {x : Str} {apos pos : Pos} {e : Expr} {args : List Expr} {vs' : List V} {a d f : Addr} {k : CL} {vs : List V} {i j : Nat} {pl : Sem Bool} (ho : PV hb w prog n c ρ L o (.ref a)) (hi : At L i (a, .inst k d vs)) (hx : k.ms[j]? = some (x, f)) (ha : PVL hb w prog n c ρ L (e :: args) vs')
    (hm : MethOk o x apos pos (e :: args) c.env pl) (he : starEach (e :: args) c.env = (false, eval e c.env) :: starEach args c.env) (hplain : (backTo pos (starEach args c.env)).any (·.1) = false)
    (h : RT hb w prog n f (.ref a :: vs') (c.fr ρ :: L) C P) : RX hb w prog n mk (eval (.Call (.Attribute o x apos) (e :: args) [] pos) c.env) (c.fr ρ :: L) C P := fun A s Qc E fs rm fo hfr S K => by
  refine methodCall_C (pl := pl) (ho (fun b L' => b = .ref a ∧ L' = L) ⟨rfl, rfl⟩ A s _ E rm fo S fun ov b L₁ s₁ hq hr S₁ T₁ => ?_) hm
  obtain ⟨L₂, rfl, rfl, rfl⟩ := hq
  cases hr
  refine anyC <| getMethod_inst S₁ (At.tl hi) hx ?_
  refine callWith_KC (K := KF w.params) (methKeep hx _) (ha.av (pos := pos) (Q := fun vs'' L' => vs'' = vs' ∧ L' = L₂) ⟨rfl, rfl⟩ A s₁ _ E rm (fo.to T₁) S₁ fun xs bs L₂ s₂ hq hxs S₂ T₂ => ?_) he hplain
  obtain ⟨L₃, rfl, rfl, rfl⟩ := hq
  have T := T₁.trans T₂
  exact ⟨S₂.good.x, RX.call (mk := mk) (vs := .ref a :: bs) (xs := .ref a :: xs) ⟨rfl, hxs⟩ h A s₂ Qc E fs rm (fo.to T) hfr S₂ fun e L' s' q x => K e L' s' q (x.from T)⟩
theorem RX.assign {x : Str} {px pos : Pos} {value : Expr} {rest : List Stmt} (hs : swapsWith value (some (.Name x px)) pos.line c.env = pure false) (h : RX hb w prog n mk (eval value c.env) (c.fr ρ :: L) C P) : RX hb w prog n mk (execs (.Assign [.Name x px] value pos :: rest) c.env) (c.fr ρ :: L) C P :=
  RX.of_eq (execs_cons c.env _ rest) (RX.first (RX.of_eq (exec_Assign_Name c.env x px value pos hs) (RX.stand (RX.first h))))
end
end
section
theorem cut_from {g : LG} {D : Nat} : g.cut (g.fold + 1 + D) (g.fold + g.es.length + 1) = g.es.drop D := by
  unfold LG.cut
  rw [show (g.fold + 1 + (D : Int) - (g.fold + 1)).toNat = D by lia, List.take_of_length_le]
  rw [List.length_drop]; omega
section
variable {hb : HB} {w : World} {prog : Program} {n : Nat} {M : Led} {c : FC} {ρ : List (Option V)} {L : Led} {Q : V → Led → Prop}
theorem law_y {g : LG} {rows : List V} {el rl wl : Addr} {Lf : Addr} {y m : Int} {a0 a1 a2 a9 a10 a11 a14 a15 a21 a22 a23 : Option V} (ok : FOk (F_law.fc F_law_ok.parts.nd Lf)) (h : g.In L) (hB : Base L g.es rows el rl wl) (hrow : Row (g.fold + 1) g.es) (hap : g.ap = g.fold) (hcm : g.cm = g.fold) (hpos : 0 < g.es.length) (hl4 : g.es.length < 10) (hbt : g.bt = 2) (ht : g.sn.t = 2) (hsb : g.sn.b = [120, 121, 122].toArray) (hco : g.sn.c.Num) (hcz : g.sn.c.z = 8) (hy0 : 0 ≤ y)
    (q : ∀ L', Q (.bool true) L') :
    SV ⟨hb.h, some (F_law.fc F_law_ok.parts.nd Lf).env⟩ w prog (n + 12) (F_law.fc F_law_ok.parts.nd Lf) [a0, a1, a2, some (.int y), some (.int g.es.length), some (.int g.fold), some (.int m), some (.int g.mx), some (.ref el), a9, a10, a11, some (.ref rl), some (.ref wl), a14, a15, some (.ref g.sa), some (.ref g.sn.c.a), some (.ref g.sn.a), some (.int g.κ), some (.ref g.la), a21, a22, a23] L ((sBody F_law.st).drop 26) fun fl _ M' => Q (match fl with | .ret v => v | _ => .none) M' := by
  have hlen := h.len
  have hf := h.fold
  have hfs : Sm g.fold := by lia
  have hbs : Sm g.bt := by rw [hbt]; decide
  have hlet : LetOk (some g.sn) L := ⟨fun s hs => by
    cases hs
    exact ⟨h.sn, ⟨hco, by rw [h.si]; exact hfs.n64, by rw [ht]; decide, by rw [hsb]; decide⟩, by rw [h.si]; exact hfs, by rw [ht]; decide, hcz, by rw [hsb]; rfl⟩⟩
  have hwl : g.es.map wt = g.es.map ER.sz := wts_eq hB.sml
  have hz := sz_nonneg hB.sml
  refine (At.of h.lao).elim fun i0 h0 => ?_
  refine (At.of hB.brl).elim fun ir hir => ?_
  refine (At.of hB.bwl).elim fun iw hiw => ?_
  have hrl : rows.length = g.es.length := by have := hB.brows.len; rw [List.length_map] at this; lia
  walk_at "set"
  walk_at "set"
  refine SV.while_ (fun m' ρ L' => ∃ (D p : Nat) (o1 o2 : Option V), m' = g.es.length - D ∧ D ≤ g.es.length ∧ (∀ best, Tab (g.es.map ER.sz) m best → best.length = g.es.length + 1 → Greedy g.es m best D p) ∧ ρ = [a0, a1, a2, some (.int y), some (.int g.es.length), some (.int g.fold), some (.int m), some (.int g.mx), some (.ref el), o1, a10, a11, some (.ref rl), some (.ref wl), a14, a15, some (.ref g.sa), some (.ref g.sn.c.a), some (.ref g.sn.a), some (.int g.κ), some (.ref g.la), some (.int D), some (.int p), o2] ∧ L' = L) g.es.length ⟨0, 0, a9, a23, rfl, Nat.zero_le _, fun best t _ => Greedy.start t, rfl, rfl⟩ ?_
  rintro m' ρ L' ⟨D, p, o1, o2, rfl, hD, hgr, rfl, rfl⟩
  refine PT.tv (p := (D : Int) < g.es.length) (by walk_at "pt") fun b hb' => ?_
  cases b with
  | false =>
    have : ¬ (D : Int) < g.es.length := fun h => by cases hb'.mpr h
    have hDE : D = g.es.length := by lia
    subst hDE
    have pF : ∀ p1 p2 p3 p4, PV ⟨hb.h, some (F_law.fc F_law_ok.parts.nd Lf).env⟩ w prog (n + 12) (F_law.fc F_law_ok.parts.nd Lf) [a0, a1, a2, some (.int y), some (.int g.es.length), some (.int g.fold), some (.int m), some (.int g.mx), some (.ref el), o1, a10, a11, some (.ref rl), some (.ref wl), a14, a15, some (.ref g.sa), some (.ref g.sn.c.a), some (.ref g.sn.a), some (.int g.κ), some (.ref g.la), some (.int g.es.length), some (.int p), o2] L' (.Call (.Name "_law_fewest" p1) [.Name "weights" p2, .Name "limit" p3] [] p4) (.int p) := fun p1 p2 p3 p4 Q q =>
      EV.callP (vs := [.ref wl, .int m]) (by walk_at "pv") (fun P => F__law_fewest_keep P) (.cons (by walk_at "pv") (.cons (by walk_at "pv") .nil rfl) rfl) rfl rfl (ct_law_fewest (W := g.es.map wt) (At.tl hiw) (by rw [List.length_map]; lia) fun best x t hl hx => ⟨_, .refl _, by
        rw [hwl] at t
        rw [List.length_map] at hl hx
        have := (hgr best t hl).at_
        rw [this] at hx
        cases hx; exact q⟩)
    refine SV.if_ (TV.boolop (AllT.consO (PT.tv (p := (p : Int) ≠ p) (PT.cmp' (by walk_at "pv") (pF _ _ _ _) PO.ne rfl) fun t ht' => ?_)))
    have ht'' : t = false := by
      cases t with
      | false => rfl
      | true => exact absurd rfl (ht'.mp rfl)
    subst ht''
    clear pF
    refine AllT.consO (TV.cmp (EV.methP (j := 13) (vs' := [.int (g.fold + g.es.length + 1), .int m]) (by walk_at "pv") h0 rfl (.cons (by walk_at "pv") (.cons (by walk_at "pv") .nil rfl) rfl) rfl rfl rfl (ct_rl_entries (g := g) (h.cons _) (by lia) fun r => ⟨_, .swap .., EV.list (AV.nil ⟨by decide, fun r₂ x y hx hy => ?_⟩)⟩)) rfl)
    have hnil : g.page m (g.fold + g.es.length + 1) (g.fold + g.es.length + 1) = [] := by rw [LG.page, LG.cut_nil (by lia)]; rfl
    rw [hnil]
    refine EX.neSeq hx hy (k := 0) (vs := []) (ws := []) (.inr ⟨.tail _ (.head _), .head _⟩) .nil (by decide) ⟨false, rfl, AllT.nilO (SV.done ?_)⟩
    with_reducible refine SV.lose (L₀ := L') (by walk_at "perm") ?_
    clear hx hy hnil hgr hb' this
    refine SV.tryR E_Compacted (i := 19) rfl ok rfl rfl (RX.assign rfl (RX.methP (j := 13) (vs' := [.int g.fold, .int m]) (by walk_at "pv") h0 rfl (.cons (by walk_at "pv") (.cons (by walk_at "pv") .nil rfl) rfl) rfl rfl rfl (rt_entries (g := g) (h.cons _) ⟨_, _, rfl, SVA.setNone ok rfl (by walk_at "sto") ?_⟩)))
    refine SV.ifF id (PT.notNoneF (by walk_at "pv")) ?_
    refine SV.if_ (TV.not (TV.valB (EV.call (by walk_at "pv") (fun P => F__law_letter_keep P) ?_) rfl))
    refine AV.cons (EV.of (v := .ref g.la) (by walk_at "pv") ?_)
    refine AV.cons (EV.of (v := .int g.fold) (by walk_at "pv") ?_)
    refine AV.cons (EV.list (AV.nil ⟨by decide, fun r => ?_⟩))
    refine AV.cons (EV.methP0 (j := 12) (i := i0 + 1) (by walk_at "pv") h0 rfl rfl (ct_rl_snapshot (g := g) ((h.cons _).cons _) ⟨(r, .list []) :: L', .refl _, ?_⟩))
    refine AV.cons (EV.of (v := .int (g.fold + g.es.length)) (by walk_at "pv") (AV.nil (CT.cx ?_)))
    refine ct_law_letter (g := g) (pl := r) (pg := []) (sn := some g.sn) ((h.cons _).cons _) (.tail _ (.head _)) (fun e he => nomatch he) (fun e he => nomatch he) (by decide) ⟨fun s hs => ⟨((hlet.sn s hs).1.cons _).cons _, (hlet.sn s hs).2⟩⟩ (by lia) hfs hbs ⟨_, .refl _, true, rfl, SV.done ?_⟩
    with_reducible refine SV.lose (L₀ := L') (by walk_at "perm") ?_
    refine SV.if_ (TV.boolop (AllT.consO (PT.tv (PT.valB (PV.methF0 (j := 10) (by walk_at "pv") h0 rfl rfl fun Q q => ct_rl_has_next (g := g) (h.cons _) q) rfl) fun t ht' => ?_)))
    have ht'' : t = false := by
      cases t with
      | false => rfl
      | true => have := of_decide_eq_true (ht'.mp rfl); lia
    subst ht''
    refine AllT.consO (TV.cmp (EV.methP0 (j := 11) (by walk_at "pv") h0 rfl rfl (ct_rl_next_committed (g := g) (h.cons _) (by lia) (by lia) (by lia) fun r => ⟨_, .swap .., EV.list (AV.nil ⟨by decide, fun r₂ x y hx hy => ?_⟩)⟩)) rfl)
    have hnil : g.page g.mx (g.ap + 1) (g.cm + 1) = [] := by rw [LG.page, LG.cut_nil (by lia)]; rfl
    rw [hnil]
    refine EX.neSeq hx hy (k := 0) (vs := []) (ws := []) (.inr ⟨.tail _ (.head _), .head _⟩) .nil (by decide) ⟨false, rfl, AllT.nilO (SV.done ?_)⟩
    with_reducible refine SV.lose (L₀ := L') (by walk_at "perm") ?_
    exact law_z (g := g) ok h hB hrow hap hcm hpos ht hsb hco.toOk hy0 q
  | true =>
    have hlt : D < g.es.length := by have := hb'.mp rfl; lia
    refine SV.assign' ok rfl (EV.methP (j := 13) (vs' := [.int (g.fold + 1 + D), .int m]) (by walk_at "pv") h0 rfl (.cons (by walk_at "pv") (.cons (by walk_at "pv") .nil rfl) rfl) rfl rfl rfl (ct_rl_entries (g := g) (h.cons _) (by lia) fun r => ⟨_, .swap .., _, by walk_at "sto", ?_⟩))
    rw [show g.page m (g.fold + 1 + D) (g.fold + g.es.length + 1) = (g.es.drop D).take (lim m (g.es.drop D)) by unfold LG.page; rw [cut_from]]
    have hll := lim_le m (g.es.drop D)
    have hne : g.es.drop D ≠ [] := fun e => by have := congrArg List.length e; rw [List.length_drop] at this; simp at this; lia
    have hp1 := (lim_spec (n := m) (es := g.es.drop D) (fun e he => hz e (List.mem_of_mem_drop he)) hne).1
    rw [List.length_drop] at hll
    obtain ⟨pre, hpre⟩ := ends_last (m := m) hz hlt
    have hgr' : ∀ best, Tab (g.es.map ER.sz) m best → best.length = g.es.length + 1 → Greedy g.es m best (D + lim m (g.es.drop D)) (p + 1) := fun best t hl => (hgr best t hl).step t hl hz hlt
    generalize lim m (g.es.drop D) = j at hll hp1 hpre hgr' ⊢
    refine SV.assign' ok rfl (EV.item ?_ (by intro _ _ _; with_unfolding_all rfl))
    refine EV.callP (vs := [.ref wl, .int D, .int m]) (by walk_at "pv") (fun P => F__law_ends_keep P) (.cons (by walk_at "pv") (.cons (by walk_at "pv") (.cons (by walk_at "pv") .nil rfl) rfl) rfl) rfl rfl (ct_law_ends (W := g.es.map wt) (j := iw + 2) hiw (by rw [List.length_map]; lia) (by rw [List.length_map]; lia) fun e => ⟨_, .swap .., ?_⟩)
    rw [hwl, hpre]
    refine ⟨e, -1, 0, pre.length, nvs (pre ++ [D + j]), .int ((D + j : Nat) : Int), rfl, PV.neg PV.int, rfl, ?_, by simp [nvs], .inr (by simp [nvs]; lia), _, by walk_at "sto", ?_⟩
    · have hle : (pre ++ [D + j]).length ≤ 50 := by
        rw [← hpre]; unfold endsL
        exact Nat.le_trans (List.length_filter_le _ _) (by rw [List.length_range', List.length_map]; lia)
      simp only [nvs, List.length_map]; lia
    with_reducible refine SV.lose (L₀ := (r, .list (ers ((g.es.drop D).take j))) :: L') (by walk_at "perm") ?_
    have hpgs : ∀ e ∈ (g.es.drop D).take j, e ∈ g.es := fun e he => List.mem_of_mem_drop (List.mem_of_mem_take he)
    have hgr2 := h.cons (r, .list (ers ((g.es.drop D).take j)))
    have hg0r : At ((r, .list (ers ((g.es.drop D).take j))) :: L') (i0 + 1) g.lao := h0
    have hirr : At ((r, .list (ers ((g.es.drop D).take j))) :: L') (ir + 1) (rl, .list rows) := hir
    refine SV.if_ (TV.cmp (EV.callP (vs := [.ref r]) (by walk_at "pv") F__law_rows_keep (.cons (by walk_at "pv") .nil rfl) rfl rfl (ct_law_rows (es := (g.es.drop D).take j) (.tail _ (.head _)) ((hB.bes.sub hpgs).to fun p hp => .tail _ (.tail _ hp)) (by rw [List.length_take, List.length_drop]; lia) fun ws' A r' hws₂ => ⟨_, mid (A := (r', .list ws') :: A), ?_⟩)) rfl)
    have hirA : At (((r', AO.list ws') :: A) ++ ((r, .list (ers ((g.es.drop D).take j))) :: L')) (A.length + 1 + (ir + 1)) (rl, .list rows) := hirr.app (A := (r', AO.list ws') :: A)
    refine EV.slice (EV.of (v := .ref rl) (by walk_at "pv") ⟨rl, some (D : Int), some ((D + j : Nat) : Int), _, rows, rfl, (show PV _ _ _ _ _ _ _ _ _ by walk_at "pv"), (show PV _ _ _ _ _ _ _ _ _ by walk_at "pv"), hirA, by lia, fun s' x y hx hy => ?_⟩)
    rw [vpick_run (by lia)] at *
    have hR1 : RowsIn ((s', AO.list ((rows.drop D).take (D + j - D))) :: (((r', AO.list ws') :: A) ++ ((r, .list (ers ((g.es.drop D).take j))) :: L'))) ((g.es.drop D).take j) ws' := All2.mono hws₂ fun x y hxy => (hxy.fr).sub fun p hp => .tail _ (.tail _ hp)
    have hR2 : RowsIn ((s', AO.list ((rows.drop D).take (D + j - D))) :: (((r', AO.list ws') :: A) ++ ((r, .list (ers ((g.es.drop D).take j))) :: L'))) ((g.es.drop D).take j) ((rows.drop D).take (D + j - D)) := by
      rw [show D + j - D = j by lia]
      have := ((hB.brows.sub fun p hp => (.tail _ (.tail _ (List.mem_append_right A (.tail _ hp))) : p ∈ (s', AO.list ((rows.drop D).take (D + j - D))) :: (((r', AO.list ws') :: A) ++ ((r, .list (ers ((g.es.drop D).take j))) :: L')))).drop D).take j
      rw [← List.map_drop, ← List.map_take, show D + j - D = j by omega] at this
      exact this
    refine EX.neSeq hx hy (.inr ⟨.tail _ (.head _), .head _⟩) (hR1.eqs hR2) (by decide) ⟨false, rfl, SV.done ?_⟩
    clear hR1 hR2 hx hy
    with_reducible refine SV.lose (L₀ := (r, .list (ers ((g.es.drop D).take j))) :: L') (by walk_at "perm") ?_
    refine SV.ifF (p := (D : Int) = 0 ∧ ¬ (true = true)) (by simp) (PT.and' (PT.cmp' (by walk_at "pv") PV.int PO.eq rfl) (PT.not (PT.valB (PV.callF (vs := [.ref g.la, .int g.fold, .ref r, .none, .int g.fold]) (by walk_at "pv") (fun P => F__law_letter_keep P) (.cons (by walk_at "pv") (.cons (by walk_at "pv") (.cons (by walk_at "pv") (.cons PV.none (.cons (by walk_at "pv") .nil rfl) rfl) rfl) rfl) rfl) rfl rfl fun Q q => ct_law_letter (g := g) (pl := r) (pg := (g.es.drop D).take j) (sn := none) ((h.cons _).cons _) (.tail _ (.head _)) ((hB.bes.sub hpgs).to fun p hp => .tail _ (.tail _ hp)) (fun e he => hB.sml e (hpgs e he)) (by rw [List.length_take, List.length_drop]; lia) ⟨fun s hs => nomatch hs⟩ hfs hfs hbs q) rfl))) ?_
    walk_at "set"
    refine SV.augP ok (i := 22) ⟨rfl, rfl⟩ PV.int PO.iadd (by walk_at "sto") ?_
    with_reducible refine SV.lose (L₀ := L') (by walk_at "perm") ?_
    exact SV.nil ⟨g.es.length - (D + j), by lia, D + j, p + 1, _, _, rfl, by lia, hgr', rfl, rfl⟩
end
end
section
section
variable {hb : HB} {w : World} {prog : Program} {n : Nat} {M : Led} {c : FC} {ρ : List (Option V)} {L : Led} {Q : V → Led → Prop}
theorem law_v {g : LG} {es : List ER} {rows : List V} {el rl wl sa sna la : Addr} {Lf : Addr} {y m fold mx : Int} {cav : V} {κ : Nat} {a0 a1 a2 a9 a10 a11 a14 a15 a21 a22 a23 : Option V} (ok : FOk (F_law.fc F_law_ok.parts.nd Lf)) (h : g.In L) (hB : Base L es rows el rl wl) (hge : g.es = es) (hgκ : g.κ = κ) (hgs : g.sa = sa) (hgl : g.la = la) (hgf : g.fold = fold) (hgm : g.mx = mx) (hgc : V.ref g.sn.c.a = cav) (hgn : g.sn.a = sna) (hrow : Row (fold + 1) es) (hap : g.ap = fold) (hcm : g.cm = fold) (hpos : 0 < es.length) (hl4 : es.length < 10) (hbt : g.bt = 2) (ht : g.sn.t = 2) (hsb : g.sn.b = [120, 121, 122].toArray) (hco : g.sn.c.Num) (hcz : g.sn.c.z = 8) (hy0 : 0 ≤ y)
    (q : ∀ L', Q (.bool true) L') :
    SV ⟨hb.h, some (F_law.fc F_law_ok.parts.nd Lf).env⟩ w prog (n + 12) (F_law.fc F_law_ok.parts.nd Lf) [a0, a1, a2, some (.int y), some (.int es.length), some (.int fold), some (.int m), some (.int mx), some (.ref el), a9, a10, a11, some (.ref rl), some (.ref wl), a14, a15, some (.ref sa), some cav, some (.ref sna), some (.int κ), some (.ref la), a21, a22, a23] L ((sBody F_law.st).drop 26) fun fl _ M' => Q (match fl with | .ret v => v | _ => .none) M' := by
  subst hge hgκ hgs hgl hgf hgm hgc hgn
  exact law_y ok h hB hrow hap hcm hpos hl4 hbt ht hsb hco hcz hy0 q
theorem law_w {es : List ER} {s : SR} {rows : List V} {el rl wl sa sd elK : Addr} {hd cf : V} {Lf : Addr} {y m mx : Int} {κ : Nat} {a0 a1 a2 a9 a10 a11 a14 a15 a20 a21 a22 a23 : Option V} (ok : FOk (F_law.fc F_law_ok.parts.nd Lf)) (hs : s.In L) (hB : Base L es rows el rl wl) (hrow : Row (s.i + 1) es) (hκ : κ ≤ es.length) (hpos : 0 < es.length) (hl4 : es.length < 10) (hsi : 1 ≤ s.i ∧ s.i < 1000000) (ht : s.t = 2) (hsb : s.b = [120, 121, 122].toArray) (hco : s.c.Num) (hcz : s.c.z = 8) (hy0 : 0 ≤ y)
    (q : ∀ L', Q (.bool true) L') :
    SV ⟨hb.h, some (F_law.fc F_law_ok.parts.nd Lf).env⟩ w prog (n + 12) (F_law.fc F_law_ok.parts.nd Lf) [a0, a1, a2, some (.int y), some (.int es.length), some (.int s.i), some (.int m), some (.int mx), some (.ref el), a9, a10, a11, some (.ref rl), some (.ref wl), a14, a15, some (.ref sa), some (.ref s.c.a), some (.ref s.a), some (.int κ), a20, a21, a22, a23] ((sa, msO sd hd cf (.ref s.a) s.i s.t elK) :: (elK, .list (ers (es.take κ))) :: L) ((sBody F_law.st).drop 23) fun fl _ M' => Q (match fl with | .ret v => v | _ => .none) M' := by
  have htk : (es.take κ).length = κ := by rw [List.length_take]; lia
  refine SV.ifI (p := (κ : Int) < es.length) (fun ρ' L' => ρ' = [a0, a1, a2, some (.int y), some (.int es.length), some (.int s.i), some (.int m), some (.int mx), some (.ref el), a9, a10, a11, some (.ref rl), some (.ref wl), a14, a15, some (.ref sa), some (.ref s.c.a), some (.ref s.a), some (.int κ), a20, a21, a22, a23] ∧ ∃ elJ junk B, L' = (sa, msO sd hd cf (.ref s.a) s.i s.t elJ) :: (elJ, .list (ers (es.take κ ++ junk))) :: B ∧ Has B junk ∧ s.In B ∧ Base B es rows el rl wl ∧ ((κ < es.length ∧ junk.length = 2) ∨ (κ = es.length ∧ junk = []))) (PT.cmp' (by walk_at "pv") (by walk_at "pv") PO.lt rfl) ?_ ?_ ?_
  · intro hlt
    refine SV.expr (EV.meth (j := 5) (i := 0) (a := sa) (k := C_MemoryStorage) (by walk_at "pv") rfl rfl ?_ rfl rfl rfl) rfl rfl
    refine AV.cons (EV.list (AV.cons ?_))
    refine EV.callC (vs := [.int 2, .int (s.i + κ + 1), .int 0, .bytes #[]]) C_Entry (by walk_at "pv") (.cons PV.int (.cons (by walk_at "pv") (.cons PV.int (.cons PV.bytes .nil rfl) rfl) rfl) rfl) rfl rfl fun e1 d1 => ct_Entry_init ⟨rfl, _, .swap .., AV.cons ?_⟩
    refine EV.callC (vs := [.int 2, .int (s.i + κ + 2), .int 0, .bytes #[]]) C_Entry (by walk_at "pv") (.cons PV.int (.cons (by walk_at "pv") (.cons PV.int (.cons PV.bytes .nil rfl) rfl) rfl) rfl) rfl rfl fun e2 d2 => ct_Entry_init ⟨rfl, _, .swap .., AV.nil ⟨by simp, fun l => AV.nil (CT.cx ?_)⟩⟩
    have ho : ∀ (a d : Addr) (x : Int), 0 ≤ x → x < 18446744073709551616 → (⟨a, d, 2, x, 0, #[]⟩ : ER).Ok := fun a d x h0 h1 => ⟨(by decide : N64 2), ⟨h0, h1⟩, (by decide : N64 0), (by decide : (#[] : Array UInt8).size < 1000)⟩
    refine ct_ms_append (i := 4) (j := 5) (k := 1) (p := κ) (ss := es.take κ) (ns := [(⟨e1, d1, 2, s.i + κ + 1, 0, #[]⟩ : ER), (⟨e2, d2, 2, s.i + κ + 2, 0, #[]⟩ : ER)]) rfl rfl rfl (by simp) (by lia) (by simp) ?_ (by lia) ?_ fun elJ => ⟨(elJ, .list (ers ((es.take κ).take κ ++ [(⟨e1, d1, 2, s.i + κ + 1, 0, #[]⟩ : ER), (⟨e2, d2, 2, s.i + κ + 2, 0, #[]⟩ : ER)]))) :: (l, .list (ers [(⟨e1, d1, 2, s.i + κ + 1, 0, #[]⟩ : ER), (⟨e2, d2, 2, s.i + κ + 2, 0, #[]⟩ : ER)])) :: (⟨e2, d2, 2, s.i + κ + 2, 0, #[]⟩ : ER).ao :: (⟨e1, d1, 2, s.i + κ + 1, 0, #[]⟩ : ER).ao :: (sa, msO sd hd cf (.ref s.a) s.i s.t elJ) :: (elK, .list (ers (es.take κ))) :: L, .swap .., ?_⟩
    · intro e he
      rcases List.mem_cons.mp he with rfl | he
      · exact ⟨ho _ _ _ (by lia) (by lia), .tail _ (.tail _ (.tail _ (.head _)))⟩
      · rw [List.mem_singleton.mp he]
        exact ⟨ho _ _ _ (by lia) (by lia), .tail _ (.tail _ (.head _))⟩
    · intro k e he
      match k, he with
      | 0, he => cases he; show s.i + κ + 1 = s.i + 1 + κ + ((0 : Nat) : Int); lia
      | 1, he => cases he; show s.i + κ + 2 = s.i + 1 + κ + ((1 : Nat) : Int); lia
      | k + 2, he => simp at he
    rw [List.take_take, Nat.min_self]
    refine SV.from (L₀ := (sa, msO sd hd cf (.ref s.a) s.i s.t elJ) :: (elJ, .list (ers (es.take κ ++ [(⟨e1, d1, 2, s.i + κ + 1, 0, #[]⟩ : ER), (⟨e2, d2, 2, s.i + κ + 2, 0, #[]⟩ : ER)]))) :: (l, .list (ers [(⟨e1, d1, 2, s.i + κ + 1, 0, #[]⟩ : ER), (⟨e2, d2, 2, s.i + κ + 2, 0, #[]⟩ : ER)])) :: (⟨e2, d2, 2, s.i + κ + 2, 0, #[]⟩ : ER).ao :: (⟨e1, d1, 2, s.i + κ + 1, 0, #[]⟩ : ER).ao :: (elK, .list (ers (es.take κ))) :: L) (by walk_at "perm") (SV.nil ⟨rfl, rfl, elJ, [(⟨e1, d1, 2, s.i + κ + 1, 0, #[]⟩ : ER), (⟨e2, d2, 2, s.i + κ + 2, 0, #[]⟩ : ER)], _, rfl, ?_, hs.sub fun p hp => .tail _ (.tail _ (.tail _ (.tail _ hp))), hB.sub fun p hp => .tail _ (.tail _ (.tail _ (.tail _ hp))), .inl ⟨by lia, rfl⟩⟩)
    intro e he
    rcases List.mem_cons.mp he with rfl | he
    · exact ⟨ho _ _ _ (by omega) (by omega), .tail _ (.tail _ (.head _))⟩
    · rw [List.mem_singleton.mp he]
      exact ⟨ho _ _ _ (by omega) (by omega), .tail _ (.head _)⟩
  · intro hlt
    refine SV.nil ⟨rfl, rfl, elK, [], L, by rw [List.append_nil], (fun e he => nomatch he), hs, hB, .inr ⟨by lia, rfl⟩⟩
  rintro ρ' L' ⟨rfl, elJ, junk, B, rfl, hj, hs', hB', hcase⟩
  clear hs hB
  have hjl : junk.length ≤ 2 := by
    rcases hcase with ⟨_, h⟩ | ⟨_, h⟩
    · lia
    · rw [h]; simp
  have hssl : (es.take κ ++ junk).length < 1000 := by rw [List.length_append]; lia
  have hss : Has B (es.take κ ++ junk) := fun e he => by
    rcases List.mem_append.mp he with h | h
    · exact hB'.bes e (List.mem_of_mem_take h)
    · exact hj e h
  refine SV.assign' ok rfl (EV.callC (vs := [.ref sa, .int mx]) C_RaftLog (by walk_at "pv") (by walk_at "pvl") rfl rfl fun la ld => ct_RaftLog_init (i := 1) (j := 2) rfl rfl hssl fun ua ud ul => ⟨rfl, (ul, .list []) :: (ua, unO ud ul (s.i + (es.take κ ++ junk).length + 1)) :: (la, .inst C_RaftLog ld [.ref sa, .int mx, .ref ua, .int s.i, .int s.i]) :: (sa, msO sd hd cf (.ref s.a) s.i s.t elJ) :: (elJ, .list (ers (es.take κ ++ junk))) :: B, mid (A := [_, _, _]), _, by walk_at "sto", ?_⟩)
  generalize hg₀ : (⟨la, ld, ua, ud, ul, sa, sd, elJ, mx, s.i, s.i, s.i, s.t, hd, cf, s, es.take κ ++ junk, [], (es.take κ ++ junk).length⟩ : LG) = g₀
  have hin : g₀.In ((ul, .list []) :: (ua, unO ud ul (s.i + (es.take κ ++ junk).length + 1)) :: (la, .inst C_RaftLog ld [.ref sa, .int mx, .ref ua, .int s.i, .int s.i]) :: (sa, msO sd hd cf (.ref s.a) s.i s.t elJ) :: (elJ, .list (ers (es.take κ ++ junk))) :: B) := by
    rw [← hg₀]
    refine ⟨⟨Nat.le_refl _, fun _ => rfl, by show (es.take κ ++ junk).length < 50; rw [List.length_append]; lia, by show 0 < 50; decide, hsi, rfl⟩, .tail _ (.tail _ (.head _)), .tail _ (.head _), ?_, .tail _ (.tail _ (.tail _ (.head _))), ?_, hss.to fun p hp => .tail _ (.tail _ (.tail _ (.tail _ (.tail _ hp)))), (fun e he => nomatch he), hs'.sub fun p hp => .tail _ (.tail _ (.tail _ (.tail _ (.tail _ hp))))⟩
    · show (ul, AO.list (ers ((es.take κ ++ junk).drop (es.take κ ++ junk).length))) ∈ _
      rw [List.drop_length]; exact .head _
    · show (elJ, AO.list (ers ((es.take κ ++ junk).take (es.take κ ++ junk).length ++ []))) ∈ _
      rw [List.take_length, List.append_nil]; exact .tail _ (.tail _ (.tail _ (.tail _ (.head _))))
  have hBL : Base ((ul, .list []) :: (ua, unO ud ul (s.i + (es.take κ ++ junk).length + 1)) :: (la, .inst C_RaftLog ld [.ref sa, .int mx, .ref ua, .int s.i, .int s.i]) :: (sa, msO sd hd cf (.ref s.a) s.i s.t elJ) :: (elJ, .list (ers (es.take κ ++ junk))) :: B) es rows el rl wl := hB'.sub fun p hp => .tail _ (.tail _ (.tail _ (.tail _ (.tail _ hp))))
  have hua : At ((ul, .list []) :: (ua, unO ud ul (s.i + (es.take κ ++ junk).length + 1)) :: (la, .inst C_RaftLog ld [.ref sa, .int mx, .ref ua, .int s.i, .int s.i]) :: (sa, msO sd hd cf (.ref s.a) s.i s.t elJ) :: (elJ, .list (ers (es.take κ ++ junk))) :: B) 1 g₀.uao := by rw [← hg₀]; rfl
  have hla : At ((ul, .list []) :: (ua, unO ud ul (s.i + (es.take κ ++ junk).length + 1)) :: (la, .inst C_RaftLog ld [.ref sa, .int mx, .ref ua, .int s.i, .int s.i]) :: (sa, msO sd hd cf (.ref s.a) s.i s.t elJ) :: (elJ, .list (ers (es.take κ ++ junk))) :: B) 2 g₀.lao := by rw [← hg₀]; rfl
  generalize (ul, AO.list []) :: (ua, unO ud ul (s.i + (es.take κ ++ junk).length + 1)) :: (la, AO.inst C_RaftLog ld [.ref sa, .int mx, .ref ua, .int s.i, .int s.i]) :: (sa, msO sd hd cf (.ref s.a) s.i s.t elJ) :: (elJ, AO.list (ers (es.take κ ++ junk))) :: B = L₁ at hin hBL hua hla ⊢
  refine (At.of hBL.bel).elim fun ie hie => ?_
  have ela : g₀.la = la := by rw [← hg₀]
  subst ela
  refine SV.expr (EV.meth (j := 3) (i := 2) (a := g₀.la) (k := C_RaftLog) (by walk_at "pv") hla rfl (AV.cons (EV.slice (EV.of (v := .ref el) (by walk_at "pv") ⟨el, some (κ : Int), none, ie, ers es, rfl, (show PV _ _ _ _ _ _ _ _ _ by walk_at "pv"), trivial, hie, by rw [List.length_map]; lia, fun s2 => AV.nil (CT.cx ?_)⟩))) rfl rfl rfl) rfl rfl
  rw [vpick_from, show (ers es).drop κ = ers (es.drop κ) by simp [ers, List.map_drop]]
  rcases hcase with ⟨hlt, hj2⟩ | ⟨heq, hj0⟩
  · have hne : es.drop κ ≠ [] := fun e => by have := congrArg List.length e; rw [List.length_drop] at this; simp at this; lia
    have hl0 : g₀.es.length = κ + 2 := by rw [← hg₀]; show (es.take κ ++ junk).length = _; rw [List.length_append]; lia
    have hrow' : Row (g₀.fold + κ + 1) (es.drop κ) := by
      have := hrow.drop κ
      rw [show g₀.fold = s.i by rw [← hg₀], show s.i + (κ : Int) + 1 = s.i + 1 + κ by lia]; exact this
    refine ct_rl_append (g := g₀) (i1 := 3) (k := 1) (p := κ) (ns := es.drop κ) ((hin.cons _).cons _) hua rfl hne ((hBL.bes.sub fun e he => List.mem_of_mem_drop he).to fun p hp => .tail _ (.tail _ hp)) hrow' (by rw [← hg₀]) (by lia) (by rw [← hg₀]; show s.i ≤ s.i + (κ : Int); lia) (by rw [List.length_drop]; lia) (by lia) fun ul' hin' v => ?_
    have hin2 := LG.In.fr (A := [_]) hin'
    refine ⟨_, .swap .., ?_⟩
    have hBL2 : Base ((ul', AO.list (ers (es.drop κ))) :: (s2, AO.list (ers (es.drop κ))) :: L₁.set 1 (g₀.upd ul' κ (es.drop κ)).uao) es rows el rl wl := (hBL.set_ne hua (by simp [aoC]) (by simp [aoC]) (by simp [aoC])).sub fun p hp => .tail _ (.tail _ hp)
    have hes : (g₀.upd ul' κ (es.drop κ)).es = es := by
      rw [← hg₀]
      show (es.take κ ++ junk).take κ ++ es.drop κ = es
      rw [List.take_left' htk, List.take_append_drop]
    refine law_v (g := g₀.upd ul' κ (es.drop κ)) ok hin2 hBL2 hes rfl ?_ rfl ?_ ?_ ?_ ?_ hrow ?_ ?_ hpos hl4 ?_ ?_ ?_ ?_ ?_ hy0 q
    all_goals (rw [← hg₀]; try first | exact ht | exact hsb | exact hco | exact hcz)
  · have hnil : es.drop κ = [] := by rw [heq]; exact List.drop_length
    rw [hnil]
    refine ct_rl_append_nil (g := g₀) (k := 1) ((hin.cons _).cons _) rfl fun v => ⟨_, .refl _, ?_⟩
    have hes : g₀.es = es := by rw [← hg₀]; show es.take κ ++ junk = es; rw [hj0, heq, List.take_length, List.append_nil]
    refine law_v (g := g₀) ok (hin.cons _) (hBL.sub fun p hp => .tail _ hp) hes ?_ ?_ rfl ?_ ?_ ?_ ?_ hrow ?_ ?_ hpos hl4 ?_ ?_ ?_ ?_ ?_ hy0 q
    · rw [← hg₀]; show (es.take κ ++ junk).length = κ; rw [hj0, List.append_nil, htk]
    all_goals (rw [← hg₀]; try first | exact ht | exact hsb | exact hco | exact hcz)
end
end
section
section
variable {hb : HB} {w : World} {prog : Program} {n : Nat} {M : Led} {c : FC} {ρ : List (Option V)} {L : Led} {Q : V → Led → Prop}
theorem ris_nil : Ris [] := ⟨.nil, by decide⟩
theorem ris_12 : Ris [1, 2] := ⟨by decide, by decide⟩
theorem ris_3 : Ris [3] := ⟨by decide, by decide⟩
theorem fit_nil : Fit [] := by unfold Fit; decide
theorem fit_12 : Fit [1, 2] := by unfold Fit; decide
theorem fit_3 : Fit [3] := by unfold Fit; decide
theorem z_conf : idz [1, 2] + idz [3] + idz [] + idz [] + 1 = 8 := by decide
theorem law_x {es : List ER} {rows : List V} {el rl wl : Addr} {Lf : Addr} {y m mx fold : Int} {a0 a1 a2 a9 a10 a11 a14 a15 a16 a17 a18 a19 a20 a21 a22 a23 : Option V} (ok : FOk (F_law.fc F_law_ok.parts.nd Lf)) (hB : Base L es rows el rl wl) (hrow : Row (fold + 1) es) (hpos : 0 < es.length) (hl4 : es.length < 10) (hsi : 1 ≤ fold ∧ fold < 1000000) (hy0 : 0 ≤ y)
    (q : ∀ L', Q (.bool true) L') :
    SV ⟨hb.h, some (F_law.fc F_law_ok.parts.nd Lf).env⟩ w prog (n + 12) (F_law.fc F_law_ok.parts.nd Lf) [a0, a1, a2, some (.int y), some (.int es.length), some (.int fold), some (.int m), some (.int mx), some (.ref el), a9, a10, a11, some (.ref rl), some (.ref wl), a14, a15, a16, a17, a18, a19, a20, a21, a22, a23] L ((sBody F_law.st).drop 17) fun fl _ M' => Q (match fl with | .ret v => v | _ => .none) M' := by
  refine SV.assign' ok rfl (EV.call (by walk_at "pv") C_MemoryStorage_keep (AV.cons (EV.call (by walk_at "pv") C_ConfState_keep ?_)))
  refine AV.cons (EV.list (AV.nil ⟨by decide, fun l1 => ?_⟩))
  refine AV.cons (EV.list (AV.nil ⟨by decide, fun l2 => ?_⟩))
  refine AV.cons (EV.list (AV.nil ⟨by decide, fun l3 => ?_⟩))
  refine AV.cons (EV.list (AV.nil ⟨by decide, fun l4 => ?_⟩))
  refine AV.cons (EV.of (v := .bool false) PV.bool (AV.nil (CX.cls (k := C_ConfState) fun ka kd => ?_)))
  refine ct_ConfState_init (v1 := []) (v2 := []) (v3 := []) (v4 := []) (.tail _ (.tail _ (.tail _ (.tail _ (.head _))))) (.tail _ (.tail _ (.tail _ (.head _)))) (.tail _ (.tail _ (.head _))) (.tail _ (.head _)) ris_nil ris_nil ris_nil ris_nil fun r1 r2 r3 r4 => ⟨rfl, _, mid, ?_⟩
  generalize hk : (⟨ka, kd, r1, r2, r3, r4, [], [], [], [], false⟩ : CR) = k
  have hkv : k.vs = [] := by rw [← hk]
  have hka : k.a = ka := by rw [← hk]
  subst hka
  clear hk
  refine AV.nil (CX.cls (k := C_MemoryStorage) fun sa sd => ct_ms_init (k := k) (fun p hp => .tail _ (List.mem_append_left _ hp)) hkv fun hh hd s0 sd0 el0 => ⟨rfl, _, mid (A := [(el0, .list []), (s0, .inst C_Snapshot sd0 [.int 0, .int 0, .ref k.a, .bytes #[]]), (hh, .inst C_HardState hd [.int 0, .int 0, .int 0]), (sa, msO sd (.ref hh) (.ref k.a) (.ref s0) 0 0 el0)]), _, by walk_at "sto", ?_⟩)
  with_reducible refine SV.lose (L₀ := (sa, msO sd (.ref hh) (.ref k.a) (.ref s0) 0 0 el0) :: (s0, .inst C_Snapshot sd0 [.int 0, .int 0, .ref k.a, .bytes #[]]) :: L) (by walk_at "perm") ?_
  generalize k.a = k0
  generalize V.ref hh = hv
  clear hkv k
  refine SV.assign' ok rfl (EV.call (by walk_at "pv") C_ConfState_keep ?_)
  refine AV.cons (EV.list (AV.cons (EV.of (v := .int 1) PV.int (AV.cons (EV.of (v := .int 2) PV.int (AV.nil ⟨by decide, fun l1 => ?_⟩))))))
  refine AV.cons (EV.list (AV.cons (EV.of (v := .int 3) PV.int (AV.nil ⟨by decide, fun l2 => ?_⟩))))
  refine AV.cons (EV.list (AV.nil ⟨by decide, fun l3 => ?_⟩))
  refine AV.cons (EV.list (AV.nil ⟨by decide, fun l4 => ?_⟩))
  refine AV.cons (EV.of (v := .bool false) PV.bool (AV.nil (CX.cls (k := C_ConfState) fun ka kd => ?_)))
  refine ct_ConfState_init (v1 := [1, 2]) (v2 := [3]) (v3 := []) (v4 := []) (.tail _ (.tail _ (.tail _ (.tail _ (.head _))))) (.tail _ (.tail _ (.tail _ (.head _)))) (.tail _ (.tail _ (.head _))) (.tail _ (.head _)) ris_12 ris_3 ris_nil ris_nil fun r1 r2 r3 r4 => ⟨rfl, _, mid, _, by walk_at "sto", ?_⟩
  generalize hk : (⟨ka, kd, r1, r2, r3, r4, [1, 2], [3], [], [], false⟩ : CR) = k
  have hkz : k.z = 8 := by rw [← hk]; exact z_conf
  have hko : k.Num := by
    rw [← hk]
    exact ⟨⟨ris_12, ris_3, ris_nil, ris_nil⟩, fit_12, fit_3, fit_nil, fit_nil⟩
  have hka : k.a = ka := by rw [← hk]
  subst hka
  clear hk
  refine SV.lose (L₀ := k.led ++ (sa, msO sd hv (.ref k0) (.ref s0) 0 0 el0) :: (s0, .inst C_Snapshot sd0 [.int 0, .int 0, .ref k0, .bytes #[]]) :: L) (by walk_at "perm") ?_
  refine SV.assign' ok rfl (EV.callC (vs := [.int fold, .int 2, .ref k.a, .bytes [120, 121, 122].toArray]) C_Snapshot (by walk_at "pv") (.cons (by walk_at "pv") (.cons PV.int (.cons (by walk_at "pv") (.cons PV.bytes .nil rfl) rfl) rfl) rfl) rfl rfl fun na nd => ct_Snapshot_init ⟨rfl, _, .swap .., _, by walk_at "sto", ?_⟩)
  generalize hs : (⟨na, nd, fold, 2, k, [120, 121, 122].toArray⟩ : SR) = s
  have e1 : s.i = fold := by rw [← hs]
  have e2 : s.t = 2 := by rw [← hs]
  have e3 : s.b = [120, 121, 122].toArray := by rw [← hs]
  have e4 : s.c = k := by rw [← hs]
  have e5 : s.a = na := by rw [← hs]
  have e6 : (na, AO.inst C_Snapshot nd [.int fold, .int 2, .ref k.a, .bytes [120, 121, 122].toArray]) = s.ao := by rw [← hs]
  rw [e6]
  clear hs
  subst e1 e4 e5
  have hsIn : s.In (s.ao :: (s.c.led ++ (sa, msO sd hv (.ref k0) (.ref s0) 0 0 el0) :: (s0, .inst C_Snapshot sd0 [.int 0, .int 0, .ref k0, .bytes #[]]) :: L)) := ⟨.head _, fun p hp => .tail _ (List.mem_append_left _ hp)⟩
  with_reducible refine SV.from (L₀ := (sa, msO sd hv (.ref k0) (.ref s0) 0 0 el0) :: (s0, .inst C_Snapshot sd0 [.int 0, .int 0, .ref k0, .bytes #[]]) :: (s.ao :: (s.c.led ++ L))) (by walk_at "perm") ?_
  clear hsIn e6
  have hsB : s.In (s.ao :: (s.c.led ++ L)) := ⟨.head _, fun p hp => .tail _ (List.mem_append_left _ hp)⟩
  have hBB : Base (s.ao :: (s.c.led ++ L)) es rows el rl wl := hB.sub fun p hp => .tail _ (List.mem_append_right _ hp)
  generalize s.ao :: (s.c.led ++ L) = B at hsB hBB ⊢
  refine SV.expr (EV.methP (j := 6) (i := 0) (a := sa) (k := C_MemoryStorage) (vs' := [.ref s.a]) (by walk_at "pv") rfl rfl (.cons (by walk_at "pv") .nil rfl) rfl rfl rfl (ct_ms_apply (i := 1) (j := 2) (s := s) rfl rfl (hsB.sub fun p hp => .tail _ (.tail _ (.tail _ hp))) (by lia) fun el' => ⟨(el', .list []) :: (sa, msO sd hv (.ref s.c.a) (.ref s.a) s.i s.t el') :: (s0, .inst C_Snapshot sd0 [.int 0, .int 0, .ref k0, .bytes #[]]) :: B, .swap .., ?_⟩)) rfl rfl
  with_reducible refine SV.lose (L₀ := (sa, msO sd hv (.ref s.c.a) (.ref s.a) s.i s.t el') :: (el', .list []) :: B) (by walk_at "perm") ?_
  obtain ⟨κ, hκ⟩ : ∃ κ : Nat, (1 + y / 8) % (es.length + 1) = κ := ⟨((1 + y / 8) % (es.length + 1)).toNat, by have := Int.emod_nonneg (1 + y / 8) (show ((es.length : Int) + 1) ≠ 0 by lia); lia⟩
  have hκl : κ ≤ es.length := by have := Int.emod_lt_of_pos (1 + y / 8) (show (0 : Int) < (es.length : Int) + 1 by lia); lia
  refine SV.assignP (b := .int κ) ok (hκ ▸ PV.bin (PV.bin PV.int (PV.bin (by walk_at "pv") PV.int (PO.fdiv' (by decide) (by decide))) PO.add) (by walk_at "pv") (PO.fmod' (by omega) (by lia))) rfl (by walk_at "sto") ?_
  refine (At.of hBB.bel).elim fun ie hie => ?_
  refine SV.expr (EV.meth (j := 5) (i := 0) (a := sa) (k := C_MemoryStorage) (by walk_at "pv") rfl rfl (AV.cons (EV.slice (EV.of (v := .ref el) (by walk_at "pv") ⟨el, none, some (κ : Int), ie + 2, ers es, rfl, trivial, (show PV _ _ _ _ _ _ _ _ _ by walk_at "pv"), hie, by rw [List.length_map]; lia, fun s2 => AV.nil (CT.cx ?_)⟩))) rfl rfl rfl) rfl rfl
  rw [vpick_upto, show (ers es).take κ = ers (es.take κ) by simp [ers, List.map_take]]
  by_cases h0 : κ = 0
  · subst h0
    refine ct_ms_append_nil (i := 1) rfl ⟨_, .refl _, ?_⟩
    refine SV.from (L₀ := (sa, msO sd hv (.ref s.c.a) (.ref s.a) s.i s.t el') :: (el', .list (ers (es.take 0))) :: (s2, .list (ers (es.take 0))) :: B) (by show List.Perm ((s2, AO.list (ers (es.take 0))) :: (sa, msO sd hv (.ref s.c.a) (.ref s.a) s.i s.t el') :: (el', .list (ers (es.take 0))) :: B) _; walk_at "perm") ?_
    exact law_w ok (hsB.cons _) (hBB.sub fun p hp => .tail _ hp) hrow hκl hpos hl4 hsi e2 e3 hko hkz hy0 q
  · have hne : es.take κ ≠ [] := fun e => by have := congrArg List.length e; rw [List.length_take] at this; have h9 : min κ es.length = 0 := this; lia
    refine ct_ms_append (i := 2) (j := 3) (k := 1) (p := 0) (ss := []) (ns := es.take κ) rfl rfl rfl hne (by decide) (by rw [List.length_take]; lia) ((hBB.bes.sub fun e he => List.mem_of_mem_take he).to fun p hp => .tail _ (.tail _ (.tail _ (.tail _ hp)))) (Nat.zero_le _) (by rw [show s.i + 1 + ((0 : Nat) : Int) = s.i + 1 by lia]; exact hrow.take κ) fun elK => ⟨(elK, .list (ers ([].take 0 ++ es.take κ))) :: (s2, .list (ers (es.take κ))) :: (sa, msO sd hv (.ref s.c.a) (.ref s.a) s.i s.t elK) :: (el', .list []) :: B, .swap .., ?_⟩
    rw [List.take_nil, List.nil_append]
    refine SV.from (L₀ := (sa, msO sd hv (.ref s.c.a) (.ref s.a) s.i s.t elK) :: (elK, .list (ers (es.take κ))) :: (s2, .list (ers (es.take κ))) :: (el', .list []) :: B) (by walk_at "perm") ?_
    exact law_w ok ((hsB.cons _).cons _) (hBB.sub fun p hp => .tail _ (.tail _ hp)) hrow hκl hpos hl4 hsi e2 e3 hko hkz hy0 q
end
end
section
section
variable {hb : HB} {w : World} {prog : Program} {n : Nat} {M : Led} {c : FC} {ρ : List (Option V)} {L : Led} {Q : V → Led → Prop}
inductive MethE (hb : HB) (w : World) (prog : Program) (n : Nat) (c : FC) (ρ : List (Option V)) (x : Str) (Q : V → Led → Prop) (b : V) (L' : Led) : Prop
  | mk (a d f : Addr) (k : CL) (vs : List V) (i j : Nat) (h0 : b = .ref a) (h1 : At L' i (a, .inst k d vs)) (h2 : k.ms[j]? = some (x, f)) (h3 : CT hb w prog n f [.ref a] (c.fr ρ :: L') fun b => Bk (c.fr ρ) (Q b)) : MethE hb w prog n c ρ x Q b L'
theorem EV.methE0 {o : Expr} {x : Str} {apos pos : Pos} {pl : Sem Bool} (hm : MethOk o x apos pos [] c.env pl)
    (h : EV hb w prog n c ρ L o fun b L' => MethE hb w prog n c ρ x Q b L') :
    EV hb w prog n c ρ L (.Call (.Attribute o x apos) [] [] pos) Q := fun A s Qc E rm fo S K => by
  refine methodCall_C (pl := pl) (h A s _ E rm fo S fun ov b L₁ s₁ hq hr S₁ T₁ => ?_) hm
  obtain ⟨L₂, rfl, a, d, f, k, vs, i, j, rfl, hi, hx, h⟩ := hq
  cases hr
  refine anyC <| getMethod_inst S₁ (At.tl hi) hx ?_
  refine callWith_K0C (S₁.good.x) (methKeep hx _) ?_
  exact EX.cx (vs := [.ref a]) (xs := [.ref a]) ⟨rfl, trivial⟩ h.cx A s₁ Qc E rm (fo.to T₁) S₁ fun a b L₃ s₃ q hr S₃ T₃ => K a b L₃ s₃ q hr S₃ (T₁.trans T₃)
theorem sz_max : esz 18446744073709551615 18446744073709551615 0 #[] = 22 := by decide
theorem law_r {es : List ER} {rows : List V} {el rl wl : Addr} {Lf : Addr} {y m mx fold : Int} {a0 a1 a2 a9 a10 a11 a14 a15 a16 a17 a18 a19 a20 a21 a22 a23 : Option V} (ok : FOk (F_law.fc F_law_ok.parts.nd Lf)) (hB : Base L es rows el rl wl) (hrow : Row (fold + 1) es) (hpos : 0 < es.length) (hl4 : es.length < 10) (hsi : 1 ≤ fold ∧ fold < 1000000) (hy0 : 0 ≤ y) (hy1 : y < 2000000)
    (q : ∀ L', Q (.bool true) L') :
    SV ⟨hb.h, some (F_law.fc F_law_ok.parts.nd Lf).env⟩ w prog (n + 12) (F_law.fc F_law_ok.parts.nd Lf) [a0, a1, a2, some (.int y), some (.int es.length), some (.int fold), some (.int m), some (.int mx), some (.ref el), a9, a10, a11, some (.ref rl), some (.ref wl), a14, a15, a16, a17, a18, a19, a20, a21, a22, a23] L ((sBody F_law.st).drop 14) fun fl _ M' => Q (match fl with | .ret v => v | _ => .none) M' := by
  walk_at "set"
  refine SV.forList (ix := 15) ok rfl (EV.list ?_)
  refine AV.cons (EV.tuple (PVL.av (vs := [.int (-1 - y), .int 1, .int 0]) (.cons (PV.bin (PV.neg PV.int) (by walk_at "pv") PO.sub) (.cons PV.int (.cons PV.int .nil rfl) rfl) rfl) ⟨by simp, fun t1 => ?_⟩))
  refine AV.cons (EV.tuple (PVL.av (vs := [.int (18446744073709551615 + 1 + y), .int 1, .int 0]) (.cons (by walk_at "pv") (.cons PV.int (.cons PV.int .nil rfl) rfl) rfl) ⟨by simp, fun t2 => ?_⟩))
  refine AV.cons (EV.tuple (PVL.av (vs := [.int 1, .int (18446744073709551615 + 1 + y), .int 0]) (.cons PV.int (.cons (by walk_at "pv") (.cons PV.int .nil rfl) rfl) rfl) ⟨by simp, fun t3 => ?_⟩))
  refine AV.cons (EV.tuple (PVL.av (vs := [.int 1, .int 1, .int (-1 - y)]) (.cons PV.int (.cons PV.int (.cons (PV.bin (PV.neg PV.int) (by walk_at "pv") PO.sub) .nil rfl) rfl) rfl) ⟨by simp, fun t4 => AV.nil ⟨by simp, fun l => ?_⟩⟩))
  generalize hL₁ : (l, AO.list [.ref t1, .ref t2, .ref t3, .ref t4]) :: (t4, AO.tup [.int 1, .int 1, .int (-1 - y)]) :: (t3, AO.tup [.int 1, .int (18446744073709551615 + 1 + y), .int 0]) :: (t2, AO.tup [.int (18446744073709551615 + 1 + y), .int 1, .int 0]) :: (t1, AO.tup [.int (-1 - y), .int 1, .int 0]) :: L = L₁
  have hB1 : Base L₁ es rows el rl wl := hB.sub fun p hp => by rw [← hL₁]; exact .tail _ (.tail _ (.tail _ (.tail _ (.tail _ hp))))
  have hl : At L₁ 0 (l, AO.list [.ref t1, .ref t2, .ref t3, .ref t4]) := hL₁ ▸ rfl
  have hall : ∀ (k : Nat) (v : V), [V.ref t1, .ref t2, .ref t3, .ref t4][k]? = some v → ∃ (t : Addr) (p q r : Int), v = .ref t ∧ (t, AO.tup [.int p, .int q, .int r]) ∈ L₁ ∧ (((p < 0 ∨ 18446744073709551615 < p) ∧ Big p) ∨ (N64 p ∧ (q < 0 ∨ 18446744073709551615 < q) ∧ Big q) ∨ (N64 p ∧ N64 q ∧ (r < 0 ∨ 18446744073709551615 < r) ∧ Big r)) := by
    intro k v hv
    rw [← hL₁]
    match k, hv with
    | 0, hv => cases hv; exact ⟨t1, _, _, _, rfl, .tail _ (.tail _ (.tail _ (.tail _ (.head _)))), .inl ⟨.inl (by lia), by lia⟩⟩
    | 1, hv => cases hv; exact ⟨t2, _, _, _, rfl, .tail _ (.tail _ (.tail _ (.head _))), .inl ⟨.inr (by lia), by lia⟩⟩
    | 2, hv => cases hv; exact ⟨t3, _, _, _, rfl, .tail _ (.tail _ (.head _)), .inr (.inl ⟨by decide, .inr (by omega), by omega⟩)⟩
    | 3, hv => cases hv; exact ⟨t4, _, _, _, rfl, .tail _ (.head _), .inr (.inr ⟨by decide, by decide, .inl (by omega), by omega⟩)⟩
    | k + 4, hv => simp at hv
  clear hL₁ hB
  refine ⟨l, [.ref t1, .ref t2, .ref t3, .ref t4], fun k ρ' L' => (∃ o, ρ' = [a0, a1, a2, some (.int y), some (.int es.length), some (.int fold), some (.int m), some (.int mx), some (.ref el), a9, a10, a11, some (.ref rl), some (.ref wl), some (.int (18446744073709551615 + 1 + y)), o, a16, a17, a18, a19, a20, a21, a22, a23]) ∧ L' = L₁, rfl, ⟨⟨a15, rfl⟩, rfl⟩, ?_, ?_, ?_⟩
  · rintro k ρ' L' ⟨_, rfl⟩
    exact ⟨0, hl⟩
  · rintro k v ρ' L' hv ⟨⟨o, rfl⟩, rfl⟩
    obtain ⟨t, p, q', r, rfl, hm, hc⟩ := hall k v hv
    refine (At.of hm).elim fun i hi => ?_
    show SV _ w prog (n + 12) _ [a0, a1, a2, some (.int y), some (.int es.length), some (.int fold), some (.int m), some (.int mx), some (.ref el), a9, a10, a11, some (.ref rl), some (.ref wl), some (.int (18446744073709551615 + 1 + y)), some (.ref t), a16, a17, a18, a19, a20, a21, a22, a23] _ _ _
    have g0 : [V.int p, .int q', .int r][0]? = some (.int p) := rfl
    have g1 : [V.int p, .int q', .int r][1]? = some (.int q') := rfl
    have g2 : [V.int p, .int q', .int r][2]? = some (.int r) := rfl
    refine SV.ifF (p := ¬ (true = true)) (by simp) (PT.not (PT.valB (PV.callF (vs := [.int p, .int q', .int r]) (by walk_at "pv") (fun P => F__law_no_size_keep P) (.cons (PV.itemTu (a := t) (i := i) (j := 0) (by walk_at "pv") PV.int hi (by simp) g0 (by intro _ _ _; with_unfolding_all rfl)) (.cons (PV.itemTu (a := t) (i := i) (j := 1) (by walk_at "pv") PV.int hi (by simp) g1 (by intro _ _ _; with_unfolding_all rfl)) (.cons (PV.itemTu (a := t) (i := i) (j := 2) (by walk_at "pv") PV.int hi (by simp) g2 (by intro _ _ _; with_unfolding_all rfl)) .nil rfl) rfl) rfl) rfl rfl fun Q q => ct_law_no_size hc q) rfl)) ?_
    exact SV.nil ⟨⟨_, rfl⟩, rfl⟩
  rintro ρ' L' ⟨⟨o, rfl⟩, rfl⟩
  refine SV.if_ (TV.cmp (EV.methE0 rfl (EV.callC (vs := [.int 18446744073709551615, .int 18446744073709551615, .int 0, .bytes #[]]) C_Entry (by walk_at "pv") (.cons (by walk_at "pv") (.cons (by walk_at "pv") (.cons PV.int (.cons PV.bytes .nil rfl) rfl) rfl) rfl) rfl rfl fun ea ed => ct_Entry_init ⟨rfl, _, .swap .., ea, ed, 296, C_Entry, _, 0, 2, rfl, rfl, rfl, ct_Entry_size (j := 1) (d := ed) (t := 18446744073709551615) (i := 18446744073709551615) (k := 0) (b := #[]) rfl (by decide) (by decide) (by decide) (by decide) ⟨_, .refl _, EV.of (v := .int 22) PV.int fun x y hx hy => ?_⟩⟩)))
  rw [sz_max] at hx
  refine PO.ne.ex hx hy ⟨false, rfl, SV.done ?_⟩
  exact law_x ok (hB1.sub fun p hp => .tail _ hp) hrow hpos hl4 hsi hy0 q
end
end
section
structure DrawOk (ns : List Int) : Prop where
  pos : 0 < ns.length
  le : ns.length ≤ 7
  x : ∀ x ∈ ns, 0 ≤ x ∧ x < 999983
theorem draw_bounds {ns : List Int} (h : DrawOk ns) {i : Nat} (hi : i ≤ 6) : 0 ≤ draw ns i ∧ draw ns i < 1048576 := by
  have hm : i % ns.length < ns.length := Nat.mod_lt _ h.pos
  have hd : i / ns.length ≤ i := Nat.div_le_self _ _
  have hx := h.x (ns.getD (i % ns.length) 0) (by rw [List.getD_eq_getElem?_getD, List.getElem?_eq_getElem hm]; exact List.getElem_mem hm)
  unfold draw
  generalize i / ns.length = d at hd ⊢
  lia
theorem getL {l : List Int} {j : Nat} (h : j < l.length) : (ivs l)[j]? = some (.int (l.getD j 0)) ∧ l.getD j 0 ∈ l := by
  rw [List.getElem?_map, List.getElem?_eq_getElem h, List.getD_eq_getElem?_getD, List.getElem?_eq_getElem h]
  exact ⟨rfl, List.getElem_mem h⟩
theorem terms_sm : ∀ x ∈ [(1 : Int), 127, 128, 16383, 16384, 3], Sm x := by decide
theorem lens_ok : ∀ x ∈ [(0 : Int), 1, 127, 3, 126, 128, 2], 0 ≤ x ∧ x ≤ 128 := by decide
theorem ivs_ne_ers {ns : List Int} {es : List ER} (h : 0 < ns.length) : ivs ns ≠ ers es := by
  match ns, es, h with
  | n :: ns, [], _ => simp
  | n :: ns, e :: es, _ => simp
section
variable {hb : HB} {w : World} {prog : Program} {n : Nat} {M : Led} {c : FC} {ρ : List (Option V)} {L : Led} {Q : V → Led → Prop}
theorem sizesMap {sc : Scope} {L₀ : Led} {l : Addr} {es : List ER} {nd : [("entry" : Str)].Nodup} {F : List V → Led → Prop} {p1 p2 p3 : Pos} (hl : (l, AO.list (ers es)) ∈ L₀) (hs : Has L₀ es) (hlen : es.length < 1000) {pl : Addr → Sem Bool} (hm : ∀ C, MethOk (.Name "entry" p1) "size" p2 p3 [] (c.comp sc ["entry"] nd [] [] C).env (pl C))
    (f : F (ivs (es.map ER.sz)) L₀) : MapOk hb w prog (n + 2) c ρ sc "entry" [] nd (.Call (.Attribute (.Name "entry" p1) "size" p2) [] [] p3) (.ref l) L₀ F := by
  refine ⟨ers es, fun k ws A => A = [] ∧ ws = ivs ((es.take k).map ER.sz), .list hl, by rw [List.length_map]; lia, ⟨rfl, rfl⟩, ?_, ?_⟩
  · rintro k v ws A C acc ok hv hk ⟨rfl, hws⟩
    rw [List.getElem?_map] at hv
    obtain ⟨e, he, rfl⟩ := Option.map_eq_some_iff.mp hv
    have htake : es.take (k + 1) = es.take k ++ [e] := by rw [List.take_add_one, he]; rfl
    obtain ⟨i, hi⟩ := hs.at (List.mem_of_getElem? he)
    have eo := (hs e (List.mem_of_getElem? he)).1
    have hi' : At ((acc, AO.list ws) :: c.fr ρ :: ([] ++ L₀)) (i + 1 + 1) e.ao := At.tl (At.tl hi)
    refine EV.methP0 (j := 2) (by walk_at "pv") hi' rfl (hm C) (ct_Entry_size (At.tl hi') eo.t eo.i eo.k (by have := eo.b; lia) ⟨_, .refl _, [], rfl, rfl, ?_⟩)
    rw [htake, hws]; simp [ivs]
  · rintro ws A _ ⟨rfl, rfl⟩
    rw [List.length_map, List.take_length]; exact f
theorem lensMap {sc : Scope} {L₀ : Led} {l : Addr} {es : List ER} {nd : [("entry" : Str)].Nodup} {F : List V → Led → Prop} {p1 p2 p3 p4 p5 : Pos} (hl : (l, AO.list (ers es)) ∈ L₀) (hs : Has L₀ es) (hlen : es.length < 1000)
    (he1 : ∀ C, starEach [.Name "entry" p3] (c.comp sc ["entry"] nd [gp "len" (V.lit (.builtin "len")), gp "encode_entry" (V.ref 310)] [] C).env = (false, eval (.Name "entry" p3) (c.comp sc ["entry"] nd [gp "len" (V.lit (.builtin "len")), gp "encode_entry" (V.ref 310)] [] C).env) :: starEach [] (c.comp sc ["entry"] nd [gp "len" (V.lit (.builtin "len")), gp "encode_entry" (V.ref 310)] [] C).env)
    (he2 : ∀ C, starEach [.Call (.Name "encode_entry" p2) [.Name "entry" p3] [] p4] (c.comp sc ["entry"] nd [gp "len" (V.lit (.builtin "len")), gp "encode_entry" (V.ref 310)] [] C).env = (false, eval (.Call (.Name "encode_entry" p2) [.Name "entry" p3] [] p4) (c.comp sc ["entry"] nd [gp "len" (V.lit (.builtin "len")), gp "encode_entry" (V.ref 310)] [] C).env) :: starEach [] (c.comp sc ["entry"] nd [gp "len" (V.lit (.builtin "len")), gp "encode_entry" (V.ref 310)] [] C).env)
    (f : F (ivs (es.map ER.sz)) L₀) : MapOk hb w prog (n + 4) c ρ sc "entry" [gp "len" (V.lit (.builtin "len")), gp "encode_entry" (V.ref 310)] nd (.Call (.Name "len" p1) [.Call (.Name "encode_entry" p2) [.Name "entry" p3] [] p4] [] p5) (.ref l) L₀ F := by
  refine ⟨ers es, fun k ws A => A = [] ∧ ws = ivs ((es.take k).map ER.sz), .list hl, by rw [List.length_map]; omega, ⟨rfl, rfl⟩, ?_, ?_⟩
  · rintro k v ws A C acc ok hv hk ⟨rfl, hws⟩
    rw [List.getElem?_map] at hv
    obtain ⟨e, he, rfl⟩ := Option.map_eq_some_iff.mp hv
    have htake : es.take (k + 1) = es.take k ++ [e] := by rw [List.take_add_one, he]; rfl
    have hm := hs e (List.mem_of_getElem? he)
    have hsz := ER.sz_bounds hm.1.b
    refine EV.callb (f := "len") (by walk_at "pv") (AV.cons (EV.callP (vs := [.ref e.a]) (by walk_at "pv") F_encode_entry_keep (.cons (by walk_at "pv") .nil (he1 C)) (he1 C) rfl (ct_encode_entry (e := e) (.tail _ (.tail _ (.tail _ hm.2))) hm.1 fun b eb => ⟨_, .refl _, AV.nil (CX.lenBytes (by have : (b.size : Int) = e.sz := eb; omega) ⟨_, .refl _, [], rfl, rfl, ?_⟩)⟩)) (he2 C)) (he2 C) rfl
    rw [show (b.size : Int) = e.sz from eb, htake, hws]; simp [ivs]
  · rintro ws A _ ⟨rfl, rfl⟩
    rw [List.length_map, List.take_length]; exact f
theorem law_q {ns : List Int} {nl : Addr} {cnt : Nat} {Lf : Addr} {y m mx fold : Int} {a0 a2 a8 a9 a10 a11 a12 a13 a14 a15 a16 a17 a18 a19 a20 a21 a22 a23 : Option V} (ok : FOk (F_law.fc F_law_ok.parts.nd Lf)) (hn : (nl, AO.list (ivs ns)) ∈ L) (hd : DrawOk ns) (hc0 : 0 < cnt) (hc1 : cnt ≤ 4) (hsi : 1 ≤ fold ∧ fold < 20000) (hy0 : 0 ≤ y) (hy1 : y < 2000000)
    (q : ∀ L', Q (.bool true) L') :
    SV ⟨hb.h, some (F_law.fc F_law_ok.parts.nd Lf).env⟩ w prog (n + 12) (F_law.fc F_law_ok.parts.nd Lf) [a0, some (.ref nl), a2, some (.int y), some (.int cnt), some (.int fold), some (.int m), some (.int mx), a8, a9, a10, a11, a12, a13, a14, a15, a16, a17, a18, a19, a20, a21, a22, a23] L ((sBody F_law.st).drop 8) fun fl _ M' => Q (match fl with | .ret v => v | _ => .none) M' := by
  refine SV.assign' ok rfl (EV.list (AV.nil ⟨by decide, fun el => ⟨_, by walk_at "sto", ?_⟩⟩))
  refine SV.forRange (ix := 9) ok rfl ?_
  refine EV.calltP (f := "range") (vs := [.int cnt]) (by walk_at "pv") (.cons (by walk_at "pv") .nil rfl) rfl rfl (CX.range1 fun r => ⟨_, .swap .., ?_⟩)
  refine ⟨r, 0, 0, cnt, fun k ρ' L' => (∃ o9 o10 o11, ρ' = [a0, some (.ref nl), a2, some (.int y), some (.int cnt), some (.int fold), some (.int m), some (.int mx), some (.ref el), o9, o10, o11, a12, a13, a14, a15, a16, a17, a18, a19, a20, a21, a22, a23]) ∧ ∃ es, es.length = k ∧ (el, .list (ers es)) ∈ L' ∧ (nl, .list (ivs ns)) ∈ L' ∧ Has L' es ∧ (∀ e ∈ es, e.Sml) ∧ Row (fold + 1) es, rfl, rfl, by lia, ⟨⟨a9, a10, a11, rfl⟩, [], rfl, .tail _ (.head _), .tail _ (.tail _ hn), (fun e he => nomatch he), (fun e he => nomatch he), fun k e he => by simp at he⟩, ?_, ?_⟩
  · rintro k ρ' L' hk ⟨⟨o9, o10, o11, rfl⟩, es, hel, hm, hn', hs, hsm, hrow⟩
    have hk' : k < cnt := by unfold rlen at hk; lia
    clear hk
    rw [show (0 : Int) + (k : Int) = k by lia]
    show SV _ w prog (n + 12) _ [a0, some (.ref nl), a2, some (.int y), some (.int cnt), some (.int fold), some (.int m), some (.int mx), some (.ref el), some (.int k), o10, o11, a12, a13, a14, a15, a16, a17, a18, a19, a20, a21, a22, a23] _ _ _
    refine (At.of hn').elim fun jn hjn => ?_
    refine (At.of hm).elim fun je hje => ?_
    have hz := draw_bounds hd (i := 3 + k) (by lia)
    refine SV.assignP (b := .int (draw ns (3 + k))) ok (PV.callF (vs := [.ref nl, .int ((3 + k : Nat) : Int)]) (by walk_at "pv") (fun P => F__law_draw_keep P) (.cons (by walk_at "pv") (.cons (by rw [show ((3 + k : Nat) : Int) = 3 + (k : Int) by lia]; exact PV.bin PV.int (by walk_at "pv") PO.add) .nil rfl) rfl) rfl rfl fun Q q => ct_law_draw (At.tl hjn) hd.pos (by have := hd.le; lia) (by lia) q) rfl (by walk_at "sto") ?_
    generalize draw ns (3 + k) = z at hz ⊢
    obtain ⟨jt, hjt⟩ : ∃ j : Nat, z % 6 = j := ⟨(z % 6).toNat, by lia⟩
    obtain ⟨jl, hjl⟩ : ∃ j : Nat, z / 6 % 7 = j := ⟨(z / 6 % 7).toNat, by lia⟩
    have gt := getL (l := [1, 127, 128, 16383, 16384, 3]) (j := jt) (by simp; lia)
    have gl := getL (l := [0, 1, 127, 3, 126, 128, 2]) (j := jl) (by simp; lia)
    have hterm := terms_sm _ gt.2
    have hlen := lens_ok _ gl.2
    generalize hT : ([1, 127, 128, 16383, 16384, 3] : List Int).getD jt 0 = tm at gt hterm
    generalize hG : ([0, 1, 127, 3, 126, 128, 2] : List Int).getD jl 0 = ln at gl hlen
    clear hT hG
    refine SV.assign' ok rfl (EV.bin (EV.callt (f := "bytes") (by walk_at "pv") (AV.cons (EV.list (AV.cons (EV.of (v := .int (z % 251)) (PV.bin (by walk_at "pv") PV.int (PO.fmod' (by decide) (by decide))) (AV.nil ⟨by simp, fun bl => AV.nil (CX.bytesInts (i := 1) (ns := [z % 251]) rfl (fun x hx => by rw [List.mem_singleton.mp hx]; lia) (by simp) ⟨_, .refl _, ?_⟩)⟩)))))))
    refine EV.item (EV.callP0 (by walk_at "pv") (fun P => F__law_lengths_keep P) (ct_law_lengths fun ll => ⟨_, .swap .., ll, z / 6 % 7, 0, jl, _, .int ln, rfl, PV.bin (PV.bin (by walk_at "pv") PV.int (PO.fdiv' (by decide) (by decide))) PV.int (PO.fmod' (by decide) (by decide)), rfl, by decide, gl.1, .inl hjl, fun x y hx hy => ?_⟩)) (by intro _ _ _; with_unfolding_all rfl)
    refine EX.mulBytes (b := (z % 251).toNat.toUInt8) (m := ln) hx hy hlen.1 (by lia) ⟨_, by walk_at "sto", ?_⟩
    have hbsz : (Array.replicate ln.toNat (z % 251).toNat.toUInt8).size < 1000 := by rw [Array.size_replicate]; lia
    generalize Array.replicate ln.toNat (z % 251).toNat.toUInt8 = dt at hbsz ⊢
    clear hx hy
    have hm2 : (el, AO.list (ers es)) ∈ (ll, AO.list (ivs [0, 1, 127, 3, 126, 128, 2])) :: (bl, AO.list [.int (z % 251)]) :: L' := .tail _ (.tail _ hm)
    have hn2 : (nl, AO.list (ivs ns)) ∈ (ll, AO.list (ivs [0, 1, 127, 3, 126, 128, 2])) :: (bl, AO.list [.int (z % 251)]) :: L' := .tail _ (.tail _ hn')
    have hs2 : Has ((ll, AO.list (ivs [0, 1, 127, 3, 126, 128, 2])) :: (bl, AO.list [.int (z % 251)]) :: L') es := (hs.cons _).cons _
    show SV _ w prog (n + 12) _ _ ((ll, AO.list (ivs [0, 1, 127, 3, 126, 128, 2])) :: (bl, AO.list [.int (z % 251)]) :: L') _ _
    generalize (ll, AO.list (ivs [0, 1, 127, 3, 126, 128, 2])) :: (bl, AO.list [.int (z % 251)]) :: L' = L₂ at hm2 hn2 hs2 ⊢
    clear hm hn' hs hje hjn
    refine (At.of hm2).elim fun je hje => ?_
    refine SV.expr (EV.append (i := je) (by walk_at "pv") hje (EV.call (by walk_at "pv") C_Entry_keep (AV.cons ?_))) rfl rfl
    refine EV.item (EV.callP0 (by walk_at "pv") (fun P => F__law_terms_keep P) (ct_law_terms fun tl => ⟨_, .swap .., tl, z % 6, 0, jt, _, .int tm, rfl, PV.bin (by walk_at "pv") PV.int (PO.fmod' (by decide) (by decide)), rfl, by decide, gt.1, .inl hjt, ?_⟩)) (by intro _ _ _; with_unfolding_all rfl)
    refine AV.cons (EV.of (v := .int (fold + 1 + k)) (by walk_at "pv") (AV.cons (EV.of (v := .int (z / 42 % 2 * 2)) (PV.bin (PV.bin (PV.bin (by walk_at "pv") PV.int (PO.fdiv' (by decide) (by decide))) PV.int (PO.fmod' (by decide) (by decide))) PV.int (PO.mul (IntMulOk.of_right (by decide)))) (AV.cons (EV.of (v := .bytes dt) (by walk_at "pv") (AV.nil (CX.cls (k := C_Entry) fun ea ed => ct_Entry_init ⟨rfl, (ea, .inst C_Entry ed [.int tm, .int (fold + 1 + k), .int (z / 42 % 2 * 2), .bytes dt]) :: (tl, .list (ivs [1, 127, 128, 16383, 16384, 3])) :: L₂, .swap .., je + 2, ers es, hje, by rw [List.length_map]; lia, ?_⟩)))))))
    have hE : (⟨ea, ed, tm, fold + 1 + k, z / 42 % 2 * 2, dt⟩ : ER).Sml := ⟨hterm, by show Sm (fold + 1 + (k : Int)); lia, by show Sm (z / 42 % 2 * 2); lia, hbsz⟩
    have hset : At ((ea, AO.inst C_Entry ed [.int tm, .int (fold + 1 + k), .int (z / 42 % 2 * 2), .bytes dt]) :: (tl, .list (ivs [1, 127, 128, 16383, 16384, 3])) :: L₂) (je + 2) (el, .list (ers es)) := hje
    have elist : ers es ++ [V.ref ea] = ers (es ++ [(⟨ea, ed, tm, fold + 1 + k, z / 42 % 2 * 2, dt⟩ : ER)]) := by simp [ers]
    rw [elist]
    refine SV.nil ⟨⟨_, _, _, rfl⟩, es ++ [(⟨ea, ed, tm, fold + 1 + k, z / 42 % 2 * 2, dt⟩ : ER)], by rw [List.length_append, hel]; rfl, (at_set_eq hset).mem, mem_set_ne (.tail _ (.tail _ hn2)) hset (fun e => ?_), ?_, ?_, ?_⟩
    · simp only [Prod.mk.injEq, AO.list.injEq] at e
      exact ivs_ne_ers hd.pos e.2
    · intro e he
      rcases List.mem_append.mp he with h | h
      · exact (((hs2.cons _).cons _).set_ne hset (by simp [aoC])) e h
      · rw [List.mem_singleton.mp h]
        exact ⟨hE.ok, mem_set_ne (.head _) hset (ne_of_C (by simp [aoC]))⟩
    · intro e he
      rcases List.mem_append.mp he with h | h
      · exact hsm e h
      · rw [List.mem_singleton.mp h]; exact hE
    · intro i e he
      by_cases hi : i < es.length
      · rw [List.getElem?_append_left hi] at he; exact hrow i e he
      · rw [List.getElem?_append_right (by lia)] at he
        have hi2 : i - es.length = 0 := by
          have := (List.getElem?_eq_some_iff.mp he).1
          simp at this; lia
        rw [hi2] at he
        cases he
        show fold + 1 + (k : Int) = fold + 1 + (i : Int)
        lia
  · rintro ρ' L' ⟨⟨o9, o10, o11, rfl⟩, es, hel, hm, hn', hs, hsm, hrow⟩
    have hel' : es.length = cnt := by rw [hel]; unfold rlen; lia
    clear hn hn' hel
    subst hel'
    refine SV.assign' ok rfl (EV.callP (vs := [.ref el]) (by walk_at "pv") F__law_rows_keep (.cons (by walk_at "pv") .nil rfl) rfl rfl (ct_law_rows (es := es) (.tail _ hm) (hs.cons _) (by lia) fun ws A rl hws => ⟨_, mid (A := (rl, .list ws) :: A), _, by walk_at "sto", ?_⟩))
    have hR : RowsIn (((rl, .list ws) :: A) ++ L') es ws := All2.mono hws fun x y hxy => (hxy.fr).sub fun p hp => .tail _ hp
    have hm2 : (el, AO.list (ers es)) ∈ ((rl, .list ws) :: A) ++ L' := List.mem_append_right _ hm
    have hs2 : Has (((rl, .list ws) :: A) ++ L') es := hs.app _
    have hrl : (rl, AO.list ws) ∈ ((rl, .list ws) :: A) ++ L' := .head _
    generalize ((rl, AO.list ws) :: A) ++ L' = L₂ at hR hm2 hs2 hrl ⊢
    clear hws hm hs
    refine (At.of hrl).elim fun jr hjr => ?_
    refine SV.map (iy := 13) [gp "_law_weight" (V.ref 948)] ok rfl (CSOk.of (by kernel_rfl)) (gv_cons G__law_weight gv_nil) rfl (EV.of (v := .ref rl) (by walk_at "pv") ?_) rfl
    refine weightsMap (es := es) (ws := ws) (.list hrl) hR (by omega) (fun e he => (hsm e he).b) (fun wl => ?_) (fun C => rfl)
    have hB : Base ((wl, .list (ivs (es.map wt))) :: L₂) es ws el rl wl := ⟨.tail _ hm2, hs2.cons _, hsm, .tail _ hrl, hR.sub fun p hp => .tail _ hp, .head _⟩
    show SV _ w prog (n + 12) _ [a0, some (.ref nl), a2, some (.int y), some (.int es.length), some (.int fold), some (.int m), some (.int mx), some (.ref el), o9, o10, o11, some (.ref rl), some (.ref wl), a14, a15, a16, a17, a18, a19, a20, a21, a22, a23] _ _ _
    generalize (wl, AO.list (ivs (es.map wt))) :: L₂ = L₃ at hB ⊢
    clear hR hm2 hs2 hrl hjr
    have hwz := wts_eq hsm
    refine SV.if_ (TV.cmp (EV.map [] ok (CSOk.of (by kernel_rfl)) gv_nil (EV.of (v := .ref el) (by walk_at "pv") ?_) rfl))
    refine sizesMap hB.bel hB.bes (by omega) (fun C => rfl) fun r₁ => EV.of (v := .ref wl) (by walk_at "pv") fun x y hx hy => ?_
    refine EX.neSeq hx hy (k := 0) (.inr ⟨.head _, .tail _ hB.bwl⟩) (by rw [hwz]; exact eqs_same fun v hv => by obtain ⟨x, _, rfl⟩ := List.mem_map.mp hv; rfl) (by decide) ⟨false, rfl, SV.done ?_⟩
    clear hx hy
    have hB2 := hB.sub (R' := (r₁, AO.list (ivs (es.map ER.sz))) :: L₃) fun p hp => .tail _ hp
    refine SV.if_ (TV.cmp (EV.map [gp "len" (V.lit (.builtin "len")), gp "encode_entry" (V.ref 310)] ok (CSOk.of (by kernel_rfl)) (gv_cons G_len (gv_cons G_encode_entry gv_nil)) (EV.of (v := .ref el) (by walk_at "pv") ?_) rfl))
    refine lensMap hB2.bel hB2.bes (by omega) (fun C => rfl) (fun C => rfl) fun r₂ => EV.of (v := .ref wl) (by walk_at "pv") fun x y hx hy => ?_
    refine EX.neSeq hx hy (k := 0) (.inr ⟨.head _, .tail _ hB2.bwl⟩) (by rw [hwz]; exact eqs_same fun v hv => by obtain ⟨x, _, rfl⟩ := List.mem_map.mp hv; rfl) (by decide) ⟨false, rfl, SV.done ?_⟩
    exact law_r ok (hB2.sub fun p hp => .tail _ hp) hrow hc0 (by lia) ⟨hsi.1, by lia⟩ hy0 hy1 q
end
end
section
theorem folds_ok : ∀ x ∈ [(1 : Int), 126, 16380, 125, 7], 1 ≤ x ∧ x < 20000 := by decide
section
variable {hb : HB} {w : World} {prog : Program} {n : Nat} {M : Led} {c : FC} {ρ : List (Option V)} {L : Led} {Q : V → Led → Prop}
theorem modMap {sc : Scope} {L₀ : Led} {l : Addr} {xs : List Int} {nd : [("x" : Str)].Nodup} {F : List V → Led → Prop} {p1 p3 : Pos} {k1 : Nat} {p2 : Pos} (hl : (l, AO.list (ivs xs)) ∈ L₀) (hlen : xs.length < 1000)
    (f : F (ivs (xs.map (· % 999983))) L₀) : MapOk hb w prog n c ρ sc "x" [] nd (.BinOp (.Name "x" p1) .Mod (.Constant (.int 999983) k1 p2) p3) (.ref l) L₀ F := by
  refine ⟨ivs xs, fun k ws A => A = [] ∧ ws = ivs ((xs.take k).map (· % 999983)), .list hl, by rw [List.length_map]; lia, ⟨rfl, rfl⟩, ?_, ?_⟩
  · rintro k v ws A C acc ok hv hk ⟨rfl, hws⟩
    rw [List.getElem?_map] at hv
    obtain ⟨e, he, rfl⟩ := Option.map_eq_some_iff.mp hv
    have htake : xs.take (k + 1) = xs.take k ++ [e] := by rw [List.take_add_one, he]; rfl
    refine EV.of (v := .int (e % 999983)) (PV.bin (by walk_at "pv") PV.int (PO.fmod' (by decide) (by decide))) ⟨[], rfl, rfl, ?_⟩
    rw [htake, hws]; simp [ivs]
  · rintro ws A _ ⟨rfl, rfl⟩
    rw [List.length_map, List.take_length]; exact f
inductive SliceB (hb : HB) (w : World) (prog : Program) (n : Nat) (c : FC) (ρ : List (Option V)) (lower upper : Option Expr) (Q : V → Led → Prop) (b : V) (L' : Led) : Prop
  | mk (a : Addr) (lo hi : Option Int) (vs : List V) (h0 : b = .ref a) (h1 : PP hb w prog n c ρ L' lower lo) (h2 : PP hb w prog n c ρ L' upper hi) (h3 : (∃ xs, hb.h.IsList a xs ∧ AllIs vs xs.toList)) (h4 : vs.length < 2 ^ 20) (h5 : ∀ r, Q (.ref r) ((r, .list (vpick vs lo hi)) :: L')) : SliceB hb w prog n c ρ lower upper Q b L'
theorem EV.sliceB {value : Expr} {lower upper : Option Expr} {p pos : Pos} {Q : V → Led → Prop}
    (h : EV hb w prog n c ρ L value fun b L' => SliceB hb w prog n c ρ lower upper Q b L') : EV hb w prog n c ρ L (.Subscript value (.Slice lower upper none p) pos) Q := fun A s Qc E rm fo S K =>
  Subscript_C (h A s _ E rm fo S fun x b L' s₁ hq hx S₁ T₁ => by
    obtain ⟨L'', rfl, a, lo, hi, vs, rfl, hlo, hhi, hi', hlen, hq⟩ := hq
    cases hx
    refine wpC_Slice (hlo.wp rm (fo.to T₁) S₁ fun vl s₂ pl S₂ T₂ => hhi.wp rm (fo.to (T₁.trans T₂)) S₂ fun vu s₃ pu S₃ T₃ => wpC_evalPart_none ?_)
    obtain ⟨xs, ⟨o, e, e1, e2⟩, r⟩ := hi'
    have hl : s₃.heap.IsList a xs := ⟨o, S₃.base _ _ e, e1, e2⟩
    have hsz : xs.size = vs.length := by rw [← Array.length_toList, ← r.length]
    have T := (T₁.trans T₂).trans T₃
    have k : ∀ x o, s₃.heap.get? x = some o → ((s₃.heap.push { cls := .type "slice", data := .fields #[vl, vu, .none] }).push { cls := .type "list", data := .seq (slicePick xs lo hi none) }).get? x = some o := fun x o e => Heap.get?_push_of_some _ (Heap.get?_push_of_some _ e)
    obtain ⟨S', T'⟩ := S₃.push (a := s₃.heap.objs.size + 1) (o := .list (vpick vs lo hi)) (tk := s₃.toks) k
      (fun b hb' => by simp only [feet, List.mem_singleton] at hb'; rw [hb']; exact Heap.get?_none_of_le (Nat.le_succ _)) (by simp [feet])
      ⟨_, 0, by have := Heap.get?_push_size (s₃.heap.push { cls := .type "slice", data := .fields #[vl, vu, .none] }) (o := { cls := .type "list", data := .seq (slicePick xs lo hi none) }) rfl; rw [Heap.size_push] at this; exact this, vpick_is r lo hi⟩
    refine anyC <| tail_any (ops := [.ref s₃.heap.objs.size, .ref a]) (Heap.IsList.typeIs (s := { s₃ with heap := s₃.heap.push { cls := .type "slice", data := .fields #[vl, vu, .none] } }) (hl.push _)) list_getitem_lookup
      (wpAny_getItem_list_slice (hl.push _) (Heap.IsSliceOf.new ..) pl pu .none (by simp) ?_ (by rw [hsz, sizeLine_eq]; lia)) (by with_unfolding_all rfl)
    have fin := K (.ref (s₃.heap.objs.size + 1)) (.ref _) _ _ ⟨_, rfl, hq (s₃.heap.objs.size + 1)⟩ rfl (S'.perm (.swap ..)) ((T.trans T').perm (.swap ..))
    show Qc (.ref (s₃.heap.push _).objs.size) _
    rw [Heap.size_push]
    exact fin)
theorem ct_law {xs : List Int} {sl : Addr} (hs : ∃ ys, hb.h.IsList sl ys ∧ AllIs (ivs xs) ys.toList) (hlen : xs.length < 1000) (q : ∀ L', Q (.bool true) L') : CT hb w prog (n + 13) 987 [.ref sl] M Q := by
  refine CT.fn' (F := F_law) (ρ := [some (.ref sl), none, none, none, none, none, none, none, none, none, none, none, none, none, none, none, none, none, none, none, none, none, none, none]) F_law_ok rfl rfl fun Lf ok => ?_
  refine SV.map (iy := 1) [] ok rfl (CSOk.of (by kernel_rfl)) gv_nil rfl (EV.sliceB (EV.of (v := .ref sl) (by walk_at "pv") ⟨sl, none, some 7, ivs xs, rfl, trivial, PV.int, hs, by rw [List.length_map]; omega, fun s => ?_⟩)) rfl
  rw [show vpick (ivs xs) none (some 7) = ivs (xs.take 7) by rw [show (7 : Int) = ((7 : Nat) : Int) by decide, vpick_upto]; simp [ivs, List.map_take]]
  refine modMap (.head _) (by rw [List.length_take]; lia) fun nl => ?_
  have hns : ∀ x ∈ (xs.take 7).map (· % 999983), 0 ≤ x ∧ x < 999983 := fun x hx => by
    obtain ⟨z, _, rfl⟩ := List.mem_map.mp hx
    show 0 ≤ z % 999983 ∧ z % 999983 < 999983
    lia
  have hnl : ((xs.take 7).map (· % 999983)).length ≤ 7 := by rw [List.length_map, List.length_take]; lia
  show SV _ w prog (n + 12) _ [some (.ref sl), some (.ref nl), none, none, none, none, none, none, none, none, none, none, none, none, none, none, none, none, none, none, none, none, none, none] _ _ _
  generalize (xs.take 7).map (· % 999983) = ns at hns hnl ⊢
  have hz : (ivs ns).length < 2 ^ 40 := by rw [List.length_map]; lia
  refine SV.ifI (p := ((ivs ns).length : Int) = 0) (fun ρ' L' => ∃ nl ns, ρ' = [some (.ref sl), some (.ref nl), none, none, none, none, none, none, none, none, none, none, none, none, none, none, none, none, none, none, none, none, none, none] ∧ (nl, .list (ivs ns)) ∈ L' ∧ DrawOk ns) (PT.cmp' (by walk_at "pv") PV.int PO.eq rfl) ?_ ?_ ?_
  · intro _
    refine SV.assign' ok rfl (EV.list (AV.cons (EV.of (v := .int 21) PV.int (AV.nil ⟨by decide, fun l => ⟨_, by walk_at "sto", SV.nil ⟨rfl, l, [21], rfl, .head _, by decide, by decide, by decide⟩⟩⟩))))
  · intro hne
    rw [List.length_map] at hne
    exact SV.nil ⟨rfl, nl, ns, rfl, .head _, by lia, hnl, hns⟩
  clear hs hns hnl hz ns nl
  rintro ρ' L' ⟨nl, ns, rfl, hn, hd⟩
  refine (At.of hn).elim fun jn hjn => ?_
  have hle := hd.le
  have hx := draw_bounds hd (i := 0) (by lia)
  have hy := draw_bounds hd (i := 1) (by lia)
  have hc := draw_bounds hd (i := 2) (by lia)
  refine SV.assignP (b := .int (draw ns 0)) ok (PV.callF (vs := [.ref nl, .int ((0 : Nat) : Int)]) (by walk_at "pv") (fun P => F__law_draw_keep P) (.cons (by walk_at "pv") (.cons PV.int .nil rfl) rfl) rfl rfl fun Q q => ct_law_draw (At.tl hjn) hd.pos (by lia) (by lia) q) rfl (by walk_at "sto") ?_
  refine SV.assignP (b := .int (draw ns 1)) ok (PV.callF (vs := [.ref nl, .int ((1 : Nat) : Int)]) (by walk_at "pv") (fun P => F__law_draw_keep P) (.cons (by walk_at "pv") (.cons PV.int .nil rfl) rfl) rfl rfl fun Q q => ct_law_draw (At.tl hjn) hd.pos (by omega) (by lia) q) rfl (by walk_at "sto") ?_
  obtain ⟨cnt, hcnt⟩ : ∃ cnt : Nat, 2 + draw ns 2 % 3 = cnt := ⟨(2 + draw ns 2 % 3).toNat, by lia⟩
  refine SV.assignP (b := .int cnt) ok (hcnt ▸ PV.bin PV.int (PV.bin (PV.callF (vs := [.ref nl, .int ((2 : Nat) : Int)]) (by walk_at "pv") (fun P => F__law_draw_keep P) (.cons (by walk_at "pv") (.cons PV.int .nil rfl) rfl) rfl rfl fun Q q => ct_law_draw (At.tl hjn) hd.pos (by lia) (by lia) q) PV.int (PO.fmod' (by decide) (by decide))) PO.add) rfl (by walk_at "sto") ?_
  have hc0 : 0 < cnt := by lia
  have hc1 : cnt ≤ 4 := by lia
  clear hcnt hc
  generalize draw ns 0 = x at hx ⊢
  generalize draw ns 1 = y at hy ⊢
  obtain ⟨jf, hjf⟩ : ∃ j : Nat, x % 5 = j := ⟨(x % 5).toNat, by lia⟩
  obtain ⟨jl, hjl⟩ : ∃ j : Nat, x / 5 % 8 = j := ⟨(x / 5 % 8).toNat, by lia⟩
  obtain ⟨jm, hjm⟩ : ∃ j : Nat, y % 8 = j := ⟨(y % 8).toNat, by lia⟩
  have gf := getL (l := [1, 126, 16380, 125, 7]) (j := jf) (by simp; lia)
  have gl := getL (l := [0, 9, 20, 140, 11, 270, 136, 700]) (j := jl) (by simp; lia)
  have gm := getL (l := [0, 9, 20, 140, 11, 270, 136, 700]) (j := jm) (by simp; lia)
  have hfold := folds_ok _ gf.2
  generalize hF : ([1, 126, 16380, 125, 7] : List Int).getD jf 0 = fold at gf hfold
  generalize hG : ([0, 9, 20, 140, 11, 270, 136, 700] : List Int).getD jl 0 = m at gl
  generalize hH : ([0, 9, 20, 140, 11, 270, 136, 700] : List Int).getD jm 0 = mx at gm
  clear hF hG hH
  refine SV.assign' ok rfl (EV.item (EV.callP0 (by walk_at "pv") (fun P => F__law_folds_keep P) (ct_law_folds fun l1 => ⟨_, .swap .., l1, x % 5, 0, jf, _, .int fold, rfl, PV.bin (by walk_at "pv") PV.int (PO.fmod' (by decide) (by decide)), rfl, by decide, gf.1, .inl hjf, _, by walk_at "sto", ?_⟩)) (by intro _ _ _; with_unfolding_all rfl))
  refine SV.assign' ok rfl (EV.item (EV.callP0 (by walk_at "pv") (fun P => F__law_limits_keep P) (ct_law_limits fun l2 => ⟨_, .swap .., l2, x / 5 % 8, 0, jl, _, .int m, rfl, PV.bin (PV.bin (by walk_at "pv") PV.int (PO.fdiv' (by decide) (by decide))) PV.int (PO.fmod' (by decide) (by decide)), rfl, by decide, gl.1, .inl hjl, _, by walk_at "sto", ?_⟩)) (by intro _ _ _; with_unfolding_all rfl))
  refine SV.assign' ok rfl (EV.item (EV.callP0 (by walk_at "pv") (fun P => F__law_limits_keep P) (ct_law_limits fun l3 => ⟨_, .swap .., l3, y % 8, 0, jm, _, .int mx, rfl, PV.bin (by walk_at "pv") PV.int (PO.fmod' (by decide) (by decide)), rfl, by decide, gm.1, .inl hjm, _, by walk_at "sto", ?_⟩)) (by intro _ _ _; with_unfolding_all rfl))
  exact law_q ok (.tail _ (.tail _ (.tail _ hn))) hd hc0 hc1 hfold hy.1 (by lia) q
end
end
section
theorem items_int {R : WRecords} : ∀ {xs : List WData}, WShape.hasItems R xs .int = true → ∃ is : List Int, xs = is.map .int
  | [], _ => ⟨[], rfl⟩
  | x :: xs, h => by
    simp only [WShape.hasItems, Bool.and_eq_true] at h
    obtain ⟨i, rfl⟩ := hasW_int h.1
    obtain ⟨is, rfl⟩ := items_int h.2
    exact ⟨i :: is, rfl⟩
theorem law_args {args : List WData} (h : rowO.toRowW.claim.pre args = true) : ∃ xs : List Int, args = [.list (xs.map .int)] ∧ xs.length ≤ 63 := by
  obtain ⟨h1, h2⟩ := pre_splitW h
  obtain ⟨d, r, rfl, hd, hr⟩ := hasAllW_cons (e := .list .int) (es := []) h1
  obtain rfl := hasAllW_nil hr
  obtain ⟨ys, rfl, hy⟩ := hasW_list hd
  obtain ⟨xs, rfl⟩ := items_int hy
  refine ⟨xs, rfl, ?_⟩
  have e : rowO.toRowW.pre = .and (.not (.lt (.lit (.int 63)) (.len (.arg 0)))) (.lit (.bool true)) := rfl
  rw [e] at h2
  simp only [WTm.holds, WTm.value, List.getElem?_cons_zero, W.less?, Num.less?, List.length_map, Option.map_some] at h2
  by_cases q : (63 : Int) < (xs.length : Int)
  · rw [decide_eq_true q] at h2; cases h2
  · lia
end
section
theorem reads_cons {R : WRecords} {cl : Str → Option Addr} {h : Heap} {vs : List Value} {d : WData} {ds : List WData} {as : List Addr} (r : ReadsAllW R cl h vs (d :: ds) as) : ∃ v vs' as' bs, vs = v :: vs' ∧ ReadsW R cl h v d as' ∧ ReadsAllW R cl h vs' ds bs := by
  cases r with
  | cons a b => exact ⟨_, _, _, _, rfl, a, b⟩
theorem reads_nil {R : WRecords} {cl : Str → Option Addr} {h : Heap} {vs : List Value} {as : List Addr} (r : ReadsAllW R cl h vs [] as) : vs = [] := by cases r; rfl
theorem reads_ints {R : WRecords} {cl : Str → Option Addr} {h : Heap} {xs : List Int} : ∀ {vs : List Value} {as : List Addr}, ReadsAllW R cl h vs (xs.map WData.int) as → AllIs (ivs xs) vs := by
  induction xs with
  | nil => intro vs as r; rw [reads_nil r]; trivial
  | cons x xs ih =>
    intro vs as r
    obtain ⟨v, vs', _, _, rfl, a, b⟩ := reads_cons r
    obtain ⟨t, e, _⟩ := readsW_int_inv a
    exact ⟨⟨t, e⟩, ih b⟩
theorem at_law : ∀ P, (nsIn (KF P) mainGlobals "law" == some (some (.ref 987))) = true := fun P => by kernel_rfl
theorem post_true {args : List WData} : rowO.toRowW.claim.post args (.bool true) args = true := by
  have h2 : WTm.holds [] (.eq .res (.lit (.bool true))) { args := args, res := some (.bool true), after := args } = true := by
    simp only [WTm.holds, WTm.value, W.same]
    rfl
  exact Bool.and_eq_true_iff.mpr ⟨(by decide +kernel : WShape.has [] (.bool true) .bool = true), h2⟩
theorem caller_room : Rm none callerA 13 := ⟨rfl, by decide, by decide, fun _ h => nomatch h⟩
theorem law_walk : WalkC QV [] (XL QV []) hookK.says rowO.toRowW dLaw [] := by
  intro w s₀ s₁ mg mb G Y a ha hg args vals as hpre hlay hrd
  obtain ⟨xs, rfl, hlen⟩ := law_args hpre
  have X : (KF w.params).In s₁.heap := kIn_of Y
  have gd : Gd w s₁.heap := ⟨X, _, mg, mb, G.T⟩
  have h987 : mg "law" = some (.ref 987) := mg_of X G.T.g (beq_iff_eq.mp (at_law w.params))
  obtain rfl : a = 987 := by
    have ha : mg "law" = some (.ref a) := ha
    rw [h987] at ha
    injection ha with ha
    injection ha with ha
    exact ha.symm
  cases hrd with
  | cons h1 h2 =>
    cases h2
    cases h1 with
    | list ho hc hd hr =>
      refine wpC_call (ct_law (hb := ⟨s₁.heap, none⟩) (n := 0) (M := []) (xs := xs) (Q := fun b _ => b = .bool true) ⟨_, ⟨_, ho, hc, _, hd⟩, reads_ints hr⟩ (by lia) (fun _ => rfl) _ (by exact ⟨rfl, trivial⟩) callerA s₁ _ caller_room ⟨[], rfl, fun _ h => nomatch h⟩
        { gd := gd, base := fun _ _ e => e, off := fun _ h => (nomatch h), rel := fun _ h => (nomatch h), nd := List.nodup_nil } fun b v M' s' hb hv S' T' => ?_)
      subst hb
      cases hv
      obtain ⟨h', tk, rfl⟩ := T'.sh
      exact ⟨.inl ⟨.bool true, .bool true, [], rfl, fun cls => rfl, .bool true, post_true, fun _ => ⟨.nil, fun _ ha => nomatch ha⟩⟩, .of_keep S'.base, rfl, .of_eq hg⟩
end
end Mine
theorem PySem.Challenge.cw_no0427_01_holds : PySem.Challenge.rw_no0427_01.Holds :=
  Mine.hdC Mine.law_walk
