import PyProof.Rows.All
import Wide.All
import OpenK.AllK
import Wide.FinOn
import PySem.Challenge.RW_nz0371_02
set_option Elab.async false
set_option linter.unusedVariables false
set_option maxRecDepth 100000
set_option compiler.extract_closed false
set_option genSizeOf false
set_option genSizeOfSpec false
open PySem PySem.W PySem.Calls PyProof.Rows
section
set_option maxHeartbeats 0
noncomputable section
namespace Rk
noncomputable abbrev rp : Program := PySem.Challenge.rw_nz0371_02.row.toRowW.1
noncomputable def nth : List Stmt → Nat → Stmt
  | s :: _, 0 => s
  | _ :: r, n + 1 => nth r n
  | [], _ => .Pass ⟨0, 0, 0, 0⟩
noncomputable def cbody : Stmt → List Stmt
  | .ClassDef _ _ _ b _ _ _ _ _ _ _ => b
  | _ => []
noncomputable def s1 (i : Nat) : Stmt := nth rp.main.body i
noncomputable def s2 (i j : Nat) : Stmt := nth (cbody (s1 i)) j
noncomputable abbrev S (x : String) (t : Nat) : Value := .str (Str.ofString x) t
noncomputable abbrev I (i : Int) : Value := .int i 0
noncomputable abbrev R (a : Nat) : Value := .ref a
noncomputable def fd (qn : String) (g : Nat) (mv cv : Value) : Stmt → Data
  | .FunctionDef n a b _ _ _ sc _ _ _ => .func { name := n, qualname := Str.ofString qn, params := a, body := .stmts b, scope := sc, globals := g, closure := [], defaults := .none, kwdefaults := .none, pyModule := mv, code := cv }
  | _ => .plain
noncomputable def fo (qn : String) (s : Stmt) (mv : Value) (c : Nat) (_ : Params) : Obj := ⟨.type "function", none, fd qn 3 mv (.ref c) s, #[]⟩
noncomputable def fs (qn : String) (s : Stmt) (_ : Params) : Obj := ⟨.none, none, fd qn 0 .none .none s, #[]⟩
noncomputable def tu (l : List Value) (_ : Params) : Obj := ⟨.type "tuple", none, .seq l.toArray 0, #[]⟩
noncomputable def tn (l : List String) (t : Nat) (_ : Params) : Obj := ⟨.type "tuple", none, .seq (go l t).toArray 0, #[]⟩
where go : List String → Nat → List Value
  | [], _ => []
  | x :: r, t => S x t :: go r (t + 1)
noncomputable def fl (l : List Value) (_ : Params) : Obj := ⟨.none, none, .fields l.toArray, #[]⟩
noncomputable def ft (c : String) (l : List Value) (_ : Params) : Obj := ⟨.type c, none, .fields l.toArray, #[]⟩
noncomputable def cf (nm qn : String) (t l ac k f a tt : Nat) (_ : Params) : Obj :=
  ⟨.type "code", none, .fields #[S nm t, S qn (t + 1), S "/claim/cut.py" (t + 2), .int l 0, .int ac 0, I 0, I 0, .int f 0, R a, .bool true, .int k 0, R (a + 1), .none, R (a + 2), R (a + 3), R (a + 4), .int tt 0, .int l 0, S "/claim/cut.py" (tt + 1)], #[]⟩
noncomputable def cc (nm : String) (t l k a : Nat) (_ : Params) : Obj :=
  ⟨.type "code", none, .fields #[S nm t, S nm (t + 1), S "/claim/cut.py" (t + 2), .int l 0, I 0, I 0, I 0, I 0, R a, .bool false, .int k 0, R (a + 1), .none, .none, .none, .none, .int (t + 3 : Nat) 0, .int l 0, S "/claim/cut.py" (t + 4)], #[]⟩
noncomputable def dc (cl : Value) (es : List (String × Nat × Value)) (n : Nat) (P : Params) : Obj :=
  ⟨cl, none, .dict (es.map fun e => ⟨PyData.keyHash P (Str.ofString e.1), S e.1 e.2.1, e.2.2⟩).toArray n, #[]⟩
noncomputable def dd := dc (.type "dict")
noncomputable def ks (nm : String) (bs mro : List Value) (ns : Nat) (sb : List Value) (sl : List (Option Value)) (_ : Params) : Obj :=
  ⟨.type "type", none, .cls { name := Str.ofString nm, bases := bs, mro := mro, ns := ns, qualname := Str.ofString nm, subclasses := sb }, sl.toArray⟩
noncomputable def fr (c l : Nat) (m : Value) (_ : Params) : Obj := ⟨.type "frame", none, .plain, #[some (R c), some (R 3), some (R l), none, some m, none, some (R 0)]⟩
end Rk

namespace Rk
noncomputable def zt := tu []
noncomputable def zf := fl []
noncomputable def o13 := cc "<module>" 182 1 181 11
noncomputable def o14 := fr 13 3 (S "__main__" 164)
noncomputable def insR (P : Params) : Nat → List (Params → Obj) → BT → BT
  | _, [], t => t
  | i, o :: r, t => insR P (i + 1) r (t.ins i (o P))
noncomputable def insL (P : Params) : List (Nat × (Params → Obj)) → BT → BT
  | [], t => t
  | o :: r, t => insL P r (t.ins o.1 (o.2 P))
noncomputable def h0 (P : Params) : Heap := ⟨⟨[boot_o_0 P, boot_o_1 P, boot_o_2 P, boot_o_3 P, boot_o_4 P, boot_o_5 P, boot_o_6 P, boot_o_7 P, boot_o_8 P, boot_o_9 P, boot_o_10 P, zt P, zf P, o13 P, o14 P]⟩, {}⟩
noncomputable def T0 (P : Params) : BT := insR P 0 [boot_o_0, boot_o_1, boot_o_2, boot_o_3, boot_o_4, boot_o_5, boot_o_6, boot_o_7, boot_o_8, boot_o_9, boot_o_10, zt, zf, o13, o14] .nil
noncomputable abbrev an : Option Value := some (.ref 6)
noncomputable def en : Env := { scope := rp.main.scope, locals := mainNs, globals := mainNs, cells := [], code := .ref 13, frame := some 14 }
noncomputable abbrev cd : Code := .body (behindTheImports rp) en
noncomputable abbrev B0 : List Frame := [topFrame ⟨0, 0, 0, 0⟩]
noncomputable abbrev SE (T : Params → BT) (n k : Nat) (w : World) (os : OsState) : SharedT := ⟨T w.params, n, {}, #[], {}, k, os⟩
noncomputable def sl (i n : Nat) : List Stmt := (rp.main.body.drop i).take n
noncomputable def o2 := dc .none [("type.__subclasses__.Exception.0", 212, (I 31)), ("type.__subclasses__.Exception.n", 213, (I 1))] 2
noncomputable def o3 := dd [("__name__", 165, (S "raftkeep.errors" 194)), ("__doc__", 166, .none), ("__package__", 167, .none), ("__loader__", 168, (.builtin "__main__.__loader__#opaque")), ("__spec__", 169, .none), ("__annotations__", 170, (R 6)), ("__builtins__", 171, (R 4)), ("__file__", 173, (S "/claim/cut.py" 172)), ("__cached__", 174, .none), ("_wall", 193, (R 21)), ("KeepError", 215, (R 31)), ("StoreError", 231, (R 44)), ("BadOption", 247, (R 56))] 13
noncomputable def o12 := fl [(I 1), (I 0), (R 20), (I 5), (I 0), (R 27), (I 7), (I 0), (R 40), (I 9), (I 0), (R 52)]
noncomputable def o17 := tn ["k"] 190
noncomputable def o19 := fs "_wall" (s1 0)
noncomputable def o20 := cf "_wall" "_wall" 187 1 1 181 3 15 191
noncomputable def o21 := fo "_wall" (s1 0) (S "__main__" 164) 20
noncomputable def o22 := tu [(.type "Exception")]
noncomputable def o23 := ft "builtin_function_or_method" [(.builtin "type.__prepare__"), (.type "type")]
noncomputable def o24 := dd [("__module__", 203, (S "raftkeep.errors" 194)), ("__qualname__", 205, (S "KeepError" 204)), ("__firstlineno__", 207, (.int 5 206)), ("__static_attributes__", 208, (R 29))] 4
noncomputable def o27 := cc "KeepError" 198 5 181 25
noncomputable def o28 := fr 27 24 (S "raftkeep.errors" 194)
noncomputable def o30 := dd [("__module__", 203, (S "raftkeep.errors" 194)), ("__firstlineno__", 207, (.int 5 206)), ("__static_attributes__", 208, (R 29)), ("__weakref__", 210, (R 32)), ("__doc__", 211, .none)] 3
noncomputable def o31 := ks "KeepError" [(.type "Exception")] [(R 31), (.type "Exception"), (.type "BaseException"), (.type "object")] 30 [(R 44)] [some (R 22), none, some (S "KeepError" 196), some (S "KeepError" 204), some (.builtin "Exception.__new__"), some (.bool true)]
noncomputable def o32 := ft "getset_descriptor" [(S "__weakref__" 209), (R 31), (.builtin "ExceptionGroup.__weakref__"), .none]
noncomputable def o33 := ft "super" [(R 31), (R 31), (R 31)]
noncomputable def o34 := ft "builtin_function_or_method" [(.builtin "object.__init_subclass__"), (R 31)]
noncomputable def o35 := tu [(R 31)]
noncomputable def o36 := ft "builtin_function_or_method" [(.builtin "type.__prepare__"), (.type "type")]
noncomputable def o37 := dd [("__module__", 223, (S "raftkeep.errors" 194)), ("__qualname__", 225, (S "StoreError" 224)), ("__firstlineno__", 227, (.int 7 226)), ("__static_attributes__", 228, (R 42))] 4
noncomputable def o40 := cc "StoreError" 218 7 181 38
noncomputable def o41 := fr 40 37 (S "raftkeep.errors" 194)
noncomputable def o43 := dd [("__module__", 223, (S "raftkeep.errors" 194)), ("__firstlineno__", 227, (.int 7 226)), ("__static_attributes__", 228, (R 42)), ("__doc__", 229, .none)] 2
noncomputable def o44 := ks "StoreError" [(R 31)] [(R 44), (R 31), (.type "Exception"), (.type "BaseException"), (.type "object")] 43 [(R 56)] [some (R 35), none, some (S "StoreError" 216), some (S "StoreError" 224), some (.builtin "Exception.__new__"), some (.bool true)]
noncomputable def o45 := ft "super" [(R 44), (R 44), (R 44)]
noncomputable def o46 := ft "builtin_function_or_method" [(.builtin "object.__init_subclass__"), (R 44)]
noncomputable def o47 := tu [(R 44)]
noncomputable def o48 := ft "builtin_function_or_method" [(.builtin "type.__prepare__"), (.type "type")]
noncomputable def o49 := dd [("__module__", 239, (S "raftkeep.errors" 194)), ("__qualname__", 241, (S "BadOption" 240)), ("__firstlineno__", 243, (.int 9 242)), ("__static_attributes__", 244, (R 54))] 4
noncomputable def o52 := cc "BadOption" 234 9 181 50
noncomputable def o53 := fr 52 49 (S "raftkeep.errors" 194)
noncomputable def o55 := dd [("__module__", 239, (S "raftkeep.errors" 194)), ("__firstlineno__", 243, (.int 9 242)), ("__static_attributes__", 244, (R 54)), ("__doc__", 245, .none)] 2
noncomputable def o56 := ks "BadOption" [(R 44)] [(R 56), (R 44), (R 31), (.type "Exception"), (.type "BaseException"), (.type "object")] 55 [] [some (R 47), none, some (S "BadOption" 232), some (S "BadOption" 240), some (.builtin "Exception.__new__"), some (.bool true)]
noncomputable def o57 := ft "super" [(R 56), (R 56), (R 56)]
noncomputable def o58 := ft "builtin_function_or_method" [(.builtin "object.__init_subclass__"), (R 56)]
noncomputable def T1 (P : Params) : BT := insR P 15 [zt, zf, o17, zt, o19, o20, o21, o22, o23, o24, zt, zf, o27, o28, zt, o30, o31, o32, o33, o34, o35, o36, o37, zt, zf, o40, o41, zt, o43, o44, o45, o46, o47, o48, o49, zt, zf, o52, o53, zt, o55, o56, o57, o58] (insL P [(2, o2), (3, o3), (12, o12)] (T0 P))
theorem g1 (w : World) (os : OsState) : segRunT treeTable rp w 11 an 1 675 (SE T0 15 187 w os) (piecesOf (sl 0 5) en cd ⟨0, 0, 0, 0⟩ B0) = some (.next, SE T1 59 248 w os, cd, ⟨9, 0, 10, 8⟩) := by
  rw [PySem.W.Fast.te10110043849684766642, PySem.W.Fast.te14364793385576792824]; kernel_rfl
noncomputable def o3v1 := dd [("__name__", 165, (S "raftkeep.errors" 194)), ("__doc__", 166, .none), ("__package__", 167, .none), ("__loader__", 168, (.builtin "__main__.__loader__#opaque")), ("__spec__", 169, .none), ("__annotations__", 170, (R 6)), ("__builtins__", 171, (R 4)), ("__file__", 173, (S "/claim/cut.py" 172)), ("__cached__", 174, .none), ("_wall", 193, (R 21)), ("KeepError", 215, (R 31)), ("StoreError", 231, (R 44)), ("BadOption", 247, (R 56)), ("RaftError", 263, (R 68)), ("Compacted", 279, (R 80)), ("Unavailable", 295, (R 92))] 16
noncomputable def o12v1 := fl [(I 1), (I 0), (R 20), (I 5), (I 0), (R 27), (I 7), (I 0), (R 40), (I 9), (I 0), (R 52), (I 11), (I 0), (R 64), (I 13), (I 0), (R 76), (I 15), (I 0), (R 88)]
noncomputable def o31v1 := ks "KeepError" [(.type "Exception")] [(R 31), (.type "Exception"), (.type "BaseException"), (.type "object")] 30 [(R 44), (R 68)] [some (R 22), none, some (S "KeepError" 196), some (S "KeepError" 204), some (.builtin "Exception.__new__"), some (.bool true)]
noncomputable def o59 := tu [(R 31)]
noncomputable def o60 := ft "builtin_function_or_method" [(.builtin "type.__prepare__"), (.type "type")]
noncomputable def o61 := dd [("__module__", 255, (S "raftkeep.errors" 194)), ("__qualname__", 257, (S "RaftError" 256)), ("__firstlineno__", 259, (.int 11 258)), ("__static_attributes__", 260, (R 66))] 4
noncomputable def o64 := cc "RaftError" 250 11 181 62
noncomputable def o65 := fr 64 61 (S "raftkeep.errors" 194)
noncomputable def o67 := dd [("__module__", 255, (S "raftkeep.errors" 194)), ("__firstlineno__", 259, (.int 11 258)), ("__static_attributes__", 260, (R 66)), ("__doc__", 261, .none)] 2
noncomputable def o68 := ks "RaftError" [(R 31)] [(R 68), (R 31), (.type "Exception"), (.type "BaseException"), (.type "object")] 67 [(R 80), (R 92)] [some (R 59), none, some (S "RaftError" 248), some (S "RaftError" 256), some (.builtin "Exception.__new__"), some (.bool true)]
noncomputable def o69 := ft "super" [(R 68), (R 68), (R 68)]
noncomputable def o70 := ft "builtin_function_or_method" [(.builtin "object.__init_subclass__"), (R 68)]
noncomputable def o71 := tu [(R 68)]
noncomputable def o72 := ft "builtin_function_or_method" [(.builtin "type.__prepare__"), (.type "type")]
noncomputable def o73 := dd [("__module__", 271, (S "raftkeep.errors" 194)), ("__qualname__", 273, (S "Compacted" 272)), ("__firstlineno__", 275, (.int 13 274)), ("__static_attributes__", 276, (R 78))] 4
noncomputable def o76 := cc "Compacted" 266 13 181 74
noncomputable def o77 := fr 76 73 (S "raftkeep.errors" 194)
noncomputable def o79 := dd [("__module__", 271, (S "raftkeep.errors" 194)), ("__firstlineno__", 275, (.int 13 274)), ("__static_attributes__", 276, (R 78)), ("__doc__", 277, .none)] 2
noncomputable def o80 := ks "Compacted" [(R 68)] [(R 80), (R 68), (R 31), (.type "Exception"), (.type "BaseException"), (.type "object")] 79 [] [some (R 71), none, some (S "Compacted" 264), some (S "Compacted" 272), some (.builtin "Exception.__new__"), some (.bool true)]
noncomputable def o81 := ft "super" [(R 80), (R 80), (R 80)]
noncomputable def o82 := ft "builtin_function_or_method" [(.builtin "object.__init_subclass__"), (R 80)]
noncomputable def o83 := tu [(R 68)]
noncomputable def o84 := ft "builtin_function_or_method" [(.builtin "type.__prepare__"), (.type "type")]
noncomputable def o85 := dd [("__module__", 287, (S "raftkeep.errors" 194)), ("__qualname__", 289, (S "Unavailable" 288)), ("__firstlineno__", 291, (.int 15 290)), ("__static_attributes__", 292, (R 90))] 4
noncomputable def o88 := cc "Unavailable" 282 15 181 86
noncomputable def o89 := fr 88 85 (S "raftkeep.errors" 194)
noncomputable def o91 := dd [("__module__", 287, (S "raftkeep.errors" 194)), ("__firstlineno__", 291, (.int 15 290)), ("__static_attributes__", 292, (R 90)), ("__doc__", 293, .none)] 2
noncomputable def o92 := ks "Unavailable" [(R 68)] [(R 92), (R 68), (R 31), (.type "Exception"), (.type "BaseException"), (.type "object")] 91 [] [some (R 83), none, some (S "Unavailable" 280), some (S "Unavailable" 288), some (.builtin "Exception.__new__"), some (.bool true)]
noncomputable def o93 := ft "super" [(R 92), (R 92), (R 92)]
noncomputable def o94 := ft "builtin_function_or_method" [(.builtin "object.__init_subclass__"), (R 92)]
noncomputable def T2 (P : Params) : BT := insR P 59 [o59, o60, o61, zt, zf, o64, o65, zt, o67, o68, o69, o70, o71, o72, o73, zt, zf, o76, o77, zt, o79, o80, o81, o82, o83, o84, o85, zt, zf, o88, o89, zt, o91, o92, o93, o94] (insL P [(3, o3v1), (12, o12v1), (31, o31v1)] (T1 P))
theorem g2 (w : World) (os : OsState) : segRunT treeTable rp w 11 an 1 668 (SE T1 59 248 w os) (piecesOf (sl 5 3) en cd ⟨9, 0, 10, 8⟩ B0) = some (.next, SE T2 95 296 w os, cd, ⟨15, 0, 16, 8⟩) := by
  rw [PySem.W.Fast.te10110043849684766642, PySem.W.Fast.te14364793385576792824]; kernel_rfl
noncomputable def o3v2 := dd [("__name__", 165, (S "raftkeep.octets" 344)), ("__doc__", 166, .none), ("__package__", 167, .none), ("__loader__", 168, (.builtin "__main__.__loader__#opaque")), ("__spec__", 169, .none), ("__annotations__", 170, (R 6)), ("__builtins__", 171, (R 4)), ("__file__", 173, (S "/claim/cut.py" 172)), ("__cached__", 174, .none), ("_wall", 193, (R 21)), ("KeepError", 215, (R 31)), ("StoreError", 231, (R 44)), ("BadOption", 247, (R 56)), ("RaftError", 263, (R 68)), ("Compacted", 279, (R 80)), ("Unavailable", 295, (R 92)), ("SnapNotReady", 311, (R 104)), ("LogGap", 327, (R 116)), ("LogPanic", 343, (R 128)), ("MAX_64", 347, (.int 18446744073709551615 346))] 20
noncomputable def o12v2 := fl [(I 1), (I 0), (R 20), (I 5), (I 0), (R 27), (I 7), (I 0), (R 40), (I 9), (I 0), (R 52), (I 11), (I 0), (R 64), (I 13), (I 0), (R 76), (I 15), (I 0), (R 88), (I 17), (I 0), (R 100), (I 19), (I 0), (R 112), (I 21), (I 0), (R 124)]
noncomputable def o68v1 := ks "RaftError" [(R 31)] [(R 68), (R 31), (.type "Exception"), (.type "BaseException"), (.type "object")] 67 [(R 80), (R 92), (R 104), (R 116), (R 128)] [some (R 59), none, some (S "RaftError" 248), some (S "RaftError" 256), some (.builtin "Exception.__new__"), some (.bool true)]
noncomputable def o95 := tu [(R 68)]
noncomputable def o96 := ft "builtin_function_or_method" [(.builtin "type.__prepare__"), (.type "type")]
noncomputable def o97 := dd [("__module__", 303, (S "raftkeep.errors" 194)), ("__qualname__", 305, (S "SnapNotReady" 304)), ("__firstlineno__", 307, (.int 17 306)), ("__static_attributes__", 308, (R 102))] 4
noncomputable def o100 := cc "SnapNotReady" 298 17 181 98
noncomputable def o101 := fr 100 97 (S "raftkeep.errors" 194)
noncomputable def o103 := dd [("__module__", 303, (S "raftkeep.errors" 194)), ("__firstlineno__", 307, (.int 17 306)), ("__static_attributes__", 308, (R 102)), ("__doc__", 309, .none)] 2
noncomputable def o104 := ks "SnapNotReady" [(R 68)] [(R 104), (R 68), (R 31), (.type "Exception"), (.type "BaseException"), (.type "object")] 103 [] [some (R 95), none, some (S "SnapNotReady" 296), some (S "SnapNotReady" 304), some (.builtin "Exception.__new__"), some (.bool true)]
noncomputable def o105 := ft "super" [(R 104), (R 104), (R 104)]
noncomputable def o106 := ft "builtin_function_or_method" [(.builtin "object.__init_subclass__"), (R 104)]
noncomputable def o107 := tu [(R 68)]
noncomputable def o108 := ft "builtin_function_or_method" [(.builtin "type.__prepare__"), (.type "type")]
noncomputable def o109 := dd [("__module__", 319, (S "raftkeep.errors" 194)), ("__qualname__", 321, (S "LogGap" 320)), ("__firstlineno__", 323, (.int 19 322)), ("__static_attributes__", 324, (R 114))] 4
noncomputable def o112 := cc "LogGap" 314 19 181 110
noncomputable def o113 := fr 112 109 (S "raftkeep.errors" 194)
noncomputable def o115 := dd [("__module__", 319, (S "raftkeep.errors" 194)), ("__firstlineno__", 323, (.int 19 322)), ("__static_attributes__", 324, (R 114)), ("__doc__", 325, .none)] 2
noncomputable def o116 := ks "LogGap" [(R 68)] [(R 116), (R 68), (R 31), (.type "Exception"), (.type "BaseException"), (.type "object")] 115 [] [some (R 107), none, some (S "LogGap" 312), some (S "LogGap" 320), some (.builtin "Exception.__new__"), some (.bool true)]
noncomputable def o117 := ft "super" [(R 116), (R 116), (R 116)]
noncomputable def o118 := ft "builtin_function_or_method" [(.builtin "object.__init_subclass__"), (R 116)]
noncomputable def o119 := tu [(R 68)]
noncomputable def o120 := ft "builtin_function_or_method" [(.builtin "type.__prepare__"), (.type "type")]
noncomputable def o121 := dd [("__module__", 335, (S "raftkeep.errors" 194)), ("__qualname__", 337, (S "LogPanic" 336)), ("__firstlineno__", 339, (.int 21 338)), ("__static_attributes__", 340, (R 126))] 4
noncomputable def o124 := cc "LogPanic" 330 21 181 122
noncomputable def o125 := fr 124 121 (S "raftkeep.errors" 194)
noncomputable def o127 := dd [("__module__", 335, (S "raftkeep.errors" 194)), ("__firstlineno__", 339, (.int 21 338)), ("__static_attributes__", 340, (R 126)), ("__doc__", 341, .none)] 2
noncomputable def o128 := ks "LogPanic" [(R 68)] [(R 128), (R 68), (R 31), (.type "Exception"), (.type "BaseException"), (.type "object")] 127 [] [some (R 119), none, some (S "LogPanic" 328), some (S "LogPanic" 336), some (.builtin "Exception.__new__"), some (.bool true)]
noncomputable def o129 := ft "super" [(R 128), (R 128), (R 128)]
noncomputable def o130 := ft "builtin_function_or_method" [(.builtin "object.__init_subclass__"), (R 128)]
noncomputable def T3 (P : Params) : BT := insR P 95 [o95, o96, o97, zt, zf, o100, o101, zt, o103, o104, o105, o106, o107, o108, o109, zt, zf, o112, o113, zt, o115, o116, o117, o118, o119, o120, o121, zt, zf, o124, o125, zt, o127, o128, o129, o130] (insL P [(3, o3v2), (12, o12v2), (68, o68v1)] (T2 P))
theorem g3 (w : World) (os : OsState) : segRunT treeTable rp w 11 an 1 700 (SE T2 95 296 w os) (piecesOf (sl 8 5) en cd ⟨15, 0, 16, 8⟩ B0) = some (.next, SE T3 131 348 w os, cd, ⟨24, 0, 24, 6⟩) := by
  rw [PySem.W.Fast.te10110043849684766642, PySem.W.Fast.te14364793385576792824]; kernel_rfl
noncomputable def o3v3 := dd [("__name__", 165, (S "raftkeep.messages" 356)), ("__doc__", 166, .none), ("__package__", 167, .none), ("__loader__", 168, (.builtin "__main__.__loader__#opaque")), ("__spec__", 169, .none), ("__annotations__", 170, (R 6)), ("__builtins__", 171, (R 4)), ("__file__", 173, (S "/claim/cut.py" 172)), ("__cached__", 174, .none), ("_wall", 193, (R 21)), ("KeepError", 215, (R 31)), ("StoreError", 231, (R 44)), ("BadOption", 247, (R 56)), ("RaftError", 263, (R 68)), ("Compacted", 279, (R 80)), ("Unavailable", 295, (R 92)), ("SnapNotReady", 311, (R 104)), ("LogGap", 327, (R 116)), ("LogPanic", 343, (R 128)), ("MAX_64", 347, (.int 18446744073709551615 346)), ("varint_length", 355, (R 137)), ("NONE", 359, (.int 0 358)), ("NO_LIMIT", 361, (.int 18446744073709551615 360)), ("ENTRY_NORMAL", 363, (.int 0 362)), ("rising", 372, (R 144)), ("Entry", 437, (R 189)), ("limit_size", 448, (R 200))] 27
noncomputable def o12v3 := fl [(I 1), (I 0), (R 20), (I 5), (I 0), (R 27), (I 7), (I 0), (R 40), (I 9), (I 0), (R 52), (I 11), (I 0), (R 64), (I 13), (I 0), (R 76), (I 15), (I 0), (R 88), (I 17), (I 0), (R 100), (I 19), (I 0), (R 112), (I 21), (I 0), (R 124), (I 25), (I 0), (R 136), (I 37), (I 0), (R 143), (I 43), (I 0), (R 150), (I 64), (I 0), (R 199)]
noncomputable def o133 := tn ["n", "count"] 351
noncomputable def o135 := fs "varint_length" (s1 13)
noncomputable def o136 := cf "varint_length" "varint_length" 348 25 1 181 3 131 353
noncomputable def o137 := fo "varint_length" (s1 13) (S "raftkeep.octets" 344) 136
noncomputable def o140 := tn ["ids", "out", "nid"] 367
noncomputable def o142 := fs "rising" (s1 18)
noncomputable def o143 := cf "rising" "rising" 364 37 1 181 3 138 370
noncomputable def o144 := fo "rising" (s1 18) (S "raftkeep.messages" 356) 143
noncomputable def o146 := ft "builtin_function_or_method" [(.builtin "type.__prepare__"), (.type "type")]
noncomputable def o147 := dd [("__module__", 380, (S "raftkeep.messages" 356)), ("__qualname__", 382, (S "Entry" 381)), ("__firstlineno__", 384, (.int 43 383)), ("__init__", 395, (R 158)), ("row", 402, (R 165)), ("copy", 409, (R 172)), ("payload", 416, (R 179)), ("size", 425, (R 186)), ("__static_attributes__", 430, (R 187))] 9
noncomputable def o149 := fl [(I 45), (I 4), (R 157), (I 51), (I 4), (R 164), (I 54), (I 4), (R 171), (I 57), (I 4), (R 178), (I 60), (I 4), (R 185)]
noncomputable def o150 := cc "Entry" 375 43 181 148
noncomputable def o151 := fr 150 147 (S "raftkeep.messages" 356)
noncomputable def o154 := tn ["self", "term", "index", "kind", "data"] 388
noncomputable def o156 := fs "Entry.__init__" (s2 19 0)
noncomputable def o157 := cf "__init__" "Entry.__init__" 385 45 5 181 3 152 393
noncomputable def o158 := fo "Entry.__init__" (s2 19 0) (S "raftkeep.messages" 356) 157
noncomputable def o161 := tn ["self"] 399
noncomputable def o163 := fs "Entry.row" (s2 19 1)
noncomputable def o164 := cf "row" "Entry.row" 396 51 1 181 3 159 400
noncomputable def o165 := fo "Entry.row" (s2 19 1) (S "raftkeep.messages" 356) 164
noncomputable def o168 := tn ["self"] 406
noncomputable def o170 := fs "Entry.copy" (s2 19 2)
noncomputable def o171 := cf "copy" "Entry.copy" 403 54 1 181 3 166 407
noncomputable def o172 := fo "Entry.copy" (s2 19 2) (S "raftkeep.messages" 356) 171
noncomputable def o175 := tn ["self"] 413
noncomputable def o177 := fs "Entry.payload" (s2 19 3)
noncomputable def o178 := cf "payload" "Entry.payload" 410 57 1 181 3 173 414
noncomputable def o179 := fo "Entry.payload" (s2 19 3) (S "raftkeep.messages" 356) 178
noncomputable def o182 := tn ["self", "length", "head"] 420
noncomputable def o184 := fs "Entry.size" (s2 19 4)
noncomputable def o185 := cf "size" "Entry.size" 417 60 1 181 3 180 423
noncomputable def o186 := fo "Entry.size" (s2 19 4) (S "raftkeep.messages" 356) 185
noncomputable def o187 := tn ["data", "index", "kind", "term"] 426
noncomputable def o188 := dd [("__module__", 380, (S "raftkeep.messages" 356)), ("__firstlineno__", 384, (.int 43 383)), ("__init__", 395, (R 158)), ("row", 402, (R 165)), ("copy", 409, (R 172)), ("payload", 416, (R 179)), ("size", 425, (R 186)), ("__static_attributes__", 430, (R 187)), ("__dict__", 432, (R 190)), ("__weakref__", 434, (R 191)), ("__doc__", 435, .none)] 4
noncomputable def o189 := ks "Entry" [(.type "object")] [(R 189), (.type "object")] 188 [] [none, none, some (S "Entry" 373), some (S "Entry" 381), some (.builtin "object.__new__"), some (.bool true)]
noncomputable def o190 := ft "getset_descriptor" [(S "__dict__" 431), (R 189), (.builtin "function.__dict__"), (.builtin "function.__dict__#set")]
noncomputable def o191 := ft "getset_descriptor" [(S "__weakref__" 433), (R 189), (.builtin "ExceptionGroup.__weakref__"), .none]
noncomputable def o192 := ft "super" [(R 189), (R 189), (R 189)]
noncomputable def o193 := ft "builtin_function_or_method" [(.builtin "object.__init_subclass__"), (R 189)]
noncomputable def o196 := tn ["entries", "n", "total", "kept", "entry"] 441
noncomputable def o198 := fs "limit_size" (s1 20)
noncomputable def o199 := cf "limit_size" "limit_size" 438 64 2 181 3 194 446
noncomputable def o200 := fo "limit_size" (s1 20) (S "raftkeep.messages" 356) 199
noncomputable def T4 (P : Params) : BT := insR P 131 [zt, zf, o133, zt, o135, o136, o137, zt, zf, o140, zt, o142, o143, o144, zt, o146, o147, zt, o149, o150, o151, zt, zf, o154, zt, o156, o157, o158, zt, zf, o161, zt, o163, o164, o165, zt, zf, o168, zt, o170, o171, o172, zt, zf, o175, zt, o177, o178, o179, zt, zf, o182, zt, o184, o185, o186, o187, o188, o189, o190, o191, o192, o193, zt, zf, o196, zt, o198, o199, o200] (insL P [(3, o3v3), (12, o12v3)] (T3 P))
theorem g4 (w : World) (os : OsState) : segRunT treeTable rp w 11 an 1 485 (SE T3 131 348 w os) (piecesOf (sl 13 8) en cd ⟨24, 0, 24, 6⟩ B0) = some (.next, SE T4 201 449 w os, cd, ⟨64, 0, 72, 15⟩) := by
  rw [PySem.W.Fast.te10110043849684766642, PySem.W.Fast.te14364793385576792824]; kernel_rfl
noncomputable def o3v4 := dd [("__name__", 165, (S "raftkeep.messages" 356)), ("__doc__", 166, .none), ("__package__", 167, .none), ("__loader__", 168, (.builtin "__main__.__loader__#opaque")), ("__spec__", 169, .none), ("__annotations__", 170, (R 6)), ("__builtins__", 171, (R 4)), ("__file__", 173, (S "/claim/cut.py" 172)), ("__cached__", 174, .none), ("_wall", 193, (R 21)), ("KeepError", 215, (R 31)), ("StoreError", 231, (R 44)), ("BadOption", 247, (R 56)), ("RaftError", 263, (R 68)), ("Compacted", 279, (R 80)), ("Unavailable", 295, (R 92)), ("SnapNotReady", 311, (R 104)), ("LogGap", 327, (R 116)), ("LogPanic", 343, (R 128)), ("MAX_64", 347, (.int 18446744073709551615 346)), ("varint_length", 355, (R 137)), ("NONE", 359, (.int 0 358)), ("NO_LIMIT", 361, (.int 18446744073709551615 360)), ("ENTRY_NORMAL", 363, (.int 0 362)), ("rising", 372, (R 144)), ("Entry", 437, (R 189)), ("limit_size", 448, (R 200)), ("HardState", 510, (R 245)), ("ConfState", 561, (R 280))] 29
noncomputable def o12v4 := fl [(I 1), (I 0), (R 20), (I 5), (I 0), (R 27), (I 7), (I 0), (R 40), (I 9), (I 0), (R 52), (I 11), (I 0), (R 64), (I 13), (I 0), (R 76), (I 15), (I 0), (R 88), (I 17), (I 0), (R 100), (I 19), (I 0), (R 112), (I 21), (I 0), (R 124), (I 25), (I 0), (R 136), (I 37), (I 0), (R 143), (I 43), (I 0), (R 150), (I 64), (I 0), (R 199), (I 73), (I 0), (R 206), (I 91), (I 0), (R 255)]
noncomputable def o202 := ft "builtin_function_or_method" [(.builtin "type.__prepare__"), (.type "type")]
noncomputable def o203 := dd [("__module__", 456, (S "raftkeep.messages" 356)), ("__qualname__", 458, (S "HardState" 457)), ("__firstlineno__", 460, (.int 73 459)), ("__init__", 470, (R 214)), ("row", 477, (R 221)), ("empty", 484, (R 228)), ("same", 492, (R 235)), ("copy", 499, (R 242)), ("__static_attributes__", 503, (R 243))] 9
noncomputable def o205 := fl [(I 75), (I 4), (R 213), (I 80), (I 4), (R 220), (I 83), (I 4), (R 227), (I 86), (I 4), (R 234), (I 89), (I 4), (R 241)]
noncomputable def o206 := cc "HardState" 451 73 181 204
noncomputable def o207 := fr 206 203 (S "raftkeep.messages" 356)
noncomputable def o210 := tn ["self", "term", "vote", "commit"] 464
noncomputable def o212 := fs "HardState.__init__" (s2 21 0)
noncomputable def o213 := cf "__init__" "HardState.__init__" 461 75 4 181 3 208 468
noncomputable def o214 := fo "HardState.__init__" (s2 21 0) (S "raftkeep.messages" 356) 213
noncomputable def o217 := tn ["self"] 474
noncomputable def o219 := fs "HardState.row" (s2 21 1)
noncomputable def o220 := cf "row" "HardState.row" 471 80 1 181 3 215 475
noncomputable def o221 := fo "HardState.row" (s2 21 1) (S "raftkeep.messages" 356) 220
noncomputable def o224 := tn ["self"] 481
noncomputable def o226 := fs "HardState.empty" (s2 21 2)
noncomputable def o227 := cf "empty" "HardState.empty" 478 83 1 181 3 222 482
noncomputable def o228 := fo "HardState.empty" (s2 21 2) (S "raftkeep.messages" 356) 227
noncomputable def o231 := tn ["self", "other"] 488
noncomputable def o233 := fs "HardState.same" (s2 21 3)
noncomputable def o234 := cf "same" "HardState.same" 485 86 2 181 3 229 490
noncomputable def o235 := fo "HardState.same" (s2 21 3) (S "raftkeep.messages" 356) 234
noncomputable def o238 := tn ["self"] 496
noncomputable def o240 := fs "HardState.copy" (s2 21 4)
noncomputable def o241 := cf "copy" "HardState.copy" 493 89 1 181 3 236 497
noncomputable def o242 := fo "HardState.copy" (s2 21 4) (S "raftkeep.messages" 356) 241
noncomputable def o243 := tn ["commit", "term", "vote"] 500
noncomputable def o244 := dd [("__module__", 456, (S "raftkeep.messages" 356)), ("__firstlineno__", 460, (.int 73 459)), ("__init__", 470, (R 214)), ("row", 477, (R 221)), ("empty", 484, (R 228)), ("same", 492, (R 235)), ("copy", 499, (R 242)), ("__static_attributes__", 503, (R 243)), ("__dict__", 505, (R 246)), ("__weakref__", 507, (R 247)), ("__doc__", 508, .none)] 4
noncomputable def o245 := ks "HardState" [(.type "object")] [(R 245), (.type "object")] 244 [] [none, none, some (S "HardState" 449), some (S "HardState" 457), some (.builtin "object.__new__"), some (.bool true)]
noncomputable def o246 := ft "getset_descriptor" [(S "__dict__" 504), (R 245), (.builtin "function.__dict__"), (.builtin "function.__dict__#set")]
noncomputable def o247 := ft "getset_descriptor" [(S "__weakref__" 506), (R 245), (.builtin "ExceptionGroup.__weakref__"), .none]
noncomputable def o248 := ft "super" [(R 245), (R 245), (R 245)]
noncomputable def o249 := ft "builtin_function_or_method" [(.builtin "object.__init_subclass__"), (R 245)]
noncomputable def o251 := ft "builtin_function_or_method" [(.builtin "type.__prepare__"), (.type "type")]
noncomputable def o252 := dd [("__module__", 518, (S "raftkeep.messages" 356)), ("__qualname__", 520, (S "ConfState" 519)), ("__firstlineno__", 522, (.int 91 521)), ("__init__", 534, (R 263)), ("row", 541, (R 270)), ("copy", 548, (R 277)), ("__static_attributes__", 554, (R 278))] 7
noncomputable def o254 := fl [(I 93), (I 4), (R 262), (I 100), (I 4), (R 269), (I 103), (I 4), (R 276)]
noncomputable def o255 := cc "ConfState" 513 91 181 253
noncomputable def o256 := fr 255 252 (S "raftkeep.messages" 356)
noncomputable def o259 := tn ["self", "voters", "learners", "outgoing", "learners_next", "auto_leave"] 526
noncomputable def o261 := fs "ConfState.__init__" (s2 22 0)
noncomputable def o262 := cf "__init__" "ConfState.__init__" 523 93 6 181 3 257 532
noncomputable def o263 := fo "ConfState.__init__" (s2 22 0) (S "raftkeep.messages" 356) 262
noncomputable def o266 := tn ["self"] 538
noncomputable def o268 := fs "ConfState.row" (s2 22 1)
noncomputable def o269 := cf "row" "ConfState.row" 535 100 1 181 3 264 539
noncomputable def o270 := fo "ConfState.row" (s2 22 1) (S "raftkeep.messages" 356) 269
noncomputable def o273 := tn ["self"] 545
noncomputable def o275 := fs "ConfState.copy" (s2 22 2)
noncomputable def o276 := cf "copy" "ConfState.copy" 542 103 1 181 3 271 546
noncomputable def o277 := fo "ConfState.copy" (s2 22 2) (S "raftkeep.messages" 356) 276
noncomputable def o278 := tn ["auto_leave", "learners", "learners_next", "outgoing", "voters"] 549
noncomputable def o279 := dd [("__module__", 518, (S "raftkeep.messages" 356)), ("__firstlineno__", 522, (.int 91 521)), ("__init__", 534, (R 263)), ("row", 541, (R 270)), ("copy", 548, (R 277)), ("__static_attributes__", 554, (R 278)), ("__dict__", 556, (R 281)), ("__weakref__", 558, (R 282)), ("__doc__", 559, .none)] 4
noncomputable def o280 := ks "ConfState" [(.type "object")] [(R 280), (.type "object")] 279 [] [none, none, some (S "ConfState" 511), some (S "ConfState" 519), some (.builtin "object.__new__"), some (.bool true)]
noncomputable def o281 := ft "getset_descriptor" [(S "__dict__" 555), (R 280), (.builtin "function.__dict__"), (.builtin "function.__dict__#set")]
noncomputable def o282 := ft "getset_descriptor" [(S "__weakref__" 557), (R 280), (.builtin "ExceptionGroup.__weakref__"), .none]
noncomputable def o283 := ft "super" [(R 280), (R 280), (R 280)]
noncomputable def o284 := ft "builtin_function_or_method" [(.builtin "object.__init_subclass__"), (R 280)]
noncomputable def T5 (P : Params) : BT := insR P 201 [zt, o202, o203, zt, o205, o206, o207, zt, zf, o210, zt, o212, o213, o214, zt, zf, o217, zt, o219, o220, o221, zt, zf, o224, zt, o226, o227, o228, zt, zf, o231, zt, o233, o234, o235, zt, zf, o238, zt, o240, o241, o242, o243, o244, o245, o246, o247, o248, o249, zt, o251, o252, zt, o254, o255, o256, zt, zf, o259, zt, o261, o262, o263, zt, zf, o266, zt, o268, o269, o270, zt, zf, o273, zt, o275, o276, o277, o278, o279, o280, o281, o282, o283, o284] (insL P [(3, o3v4), (12, o12v4)] (T4 P))
theorem g5 (w : World) (os : OsState) : segRunT treeTable rp w 11 an 1 644 (SE T4 201 449 w os) (piecesOf (sl 21 2) en cd ⟨64, 0, 72, 15⟩ B0) = some (.next, SE T5 285 562 w os, cd, ⟨91, 0, 104, 16⟩) := by
  rw [PySem.W.Fast.te10110043849684766642, PySem.W.Fast.te14364793385576792824]; kernel_rfl
noncomputable def o3v5 := dd [("__name__", 165, (S "raftkeep.raftlog" 618)), ("__doc__", 166, .none), ("__package__", 167, .none), ("__loader__", 168, (.builtin "__main__.__loader__#opaque")), ("__spec__", 169, .none), ("__annotations__", 170, (R 6)), ("__builtins__", 171, (R 4)), ("__file__", 173, (S "/claim/cut.py" 172)), ("__cached__", 174, .none), ("_wall", 193, (R 21)), ("KeepError", 215, (R 31)), ("StoreError", 231, (R 44)), ("BadOption", 247, (R 56)), ("RaftError", 263, (R 68)), ("Compacted", 279, (R 80)), ("Unavailable", 295, (R 92)), ("SnapNotReady", 311, (R 104)), ("LogGap", 327, (R 116)), ("LogPanic", 343, (R 128)), ("MAX_64", 347, (.int 18446744073709551615 346)), ("varint_length", 355, (R 137)), ("NONE", 359, (.int 0 358)), ("NO_LIMIT", 361, (.int 18446744073709551615 360)), ("ENTRY_NORMAL", 363, (.int 0 362)), ("rising", 372, (R 144)), ("Entry", 437, (R 189)), ("limit_size", 448, (R 200)), ("HardState", 510, (R 245)), ("ConfState", 561, (R 280)), ("Snapshot", 617, (R 322))] 30
noncomputable def o12v5 := fl [(I 1), (I 0), (R 20), (I 5), (I 0), (R 27), (I 7), (I 0), (R 40), (I 9), (I 0), (R 52), (I 11), (I 0), (R 64), (I 13), (I 0), (R 76), (I 15), (I 0), (R 88), (I 17), (I 0), (R 100), (I 19), (I 0), (R 112), (I 21), (I 0), (R 124), (I 25), (I 0), (R 136), (I 37), (I 0), (R 143), (I 43), (I 0), (R 150), (I 64), (I 0), (R 199), (I 73), (I 0), (R 206), (I 91), (I 0), (R 255), (I 105), (I 0), (R 290)]
noncomputable def o286 := ft "builtin_function_or_method" [(.builtin "type.__prepare__"), (.type "type")]
noncomputable def o287 := dd [("__module__", 569, (S "raftkeep.messages" 356)), ("__qualname__", 571, (S "Snapshot" 570)), ("__firstlineno__", 573, (.int 105 572)), ("__init__", 584, (R 298)), ("row", 591, (R 305)), ("empty", 598, (R 312)), ("copy", 605, (R 319)), ("__static_attributes__", 610, (R 320))] 8
noncomputable def o289 := fl [(I 107), (I 4), (R 297), (I 113), (I 4), (R 304), (I 116), (I 4), (R 311), (I 119), (I 4), (R 318)]
noncomputable def o290 := cc "Snapshot" 564 105 181 288
noncomputable def o291 := fr 290 287 (S "raftkeep.messages" 356)
noncomputable def o294 := tn ["self", "index", "term", "conf", "data"] 577
noncomputable def o296 := fs "Snapshot.__init__" (s2 23 0)
noncomputable def o297 := cf "__init__" "Snapshot.__init__" 574 107 5 181 3 292 582
noncomputable def o298 := fo "Snapshot.__init__" (s2 23 0) (S "raftkeep.messages" 356) 297
noncomputable def o301 := tn ["self"] 588
noncomputable def o303 := fs "Snapshot.row" (s2 23 1)
noncomputable def o304 := cf "row" "Snapshot.row" 585 113 1 181 3 299 589
noncomputable def o305 := fo "Snapshot.row" (s2 23 1) (S "raftkeep.messages" 356) 304
noncomputable def o308 := tn ["self"] 595
noncomputable def o310 := fs "Snapshot.empty" (s2 23 2)
noncomputable def o311 := cf "empty" "Snapshot.empty" 592 116 1 181 3 306 596
noncomputable def o312 := fo "Snapshot.empty" (s2 23 2) (S "raftkeep.messages" 356) 311
noncomputable def o315 := tn ["self"] 602
noncomputable def o317 := fs "Snapshot.copy" (s2 23 3)
noncomputable def o318 := cf "copy" "Snapshot.copy" 599 119 1 181 3 313 603
noncomputable def o319 := fo "Snapshot.copy" (s2 23 3) (S "raftkeep.messages" 356) 318
noncomputable def o320 := tn ["conf", "data", "index", "term"] 606
noncomputable def o321 := dd [("__module__", 569, (S "raftkeep.messages" 356)), ("__firstlineno__", 573, (.int 105 572)), ("__init__", 584, (R 298)), ("row", 591, (R 305)), ("empty", 598, (R 312)), ("copy", 605, (R 319)), ("__static_attributes__", 610, (R 320)), ("__dict__", 612, (R 323)), ("__weakref__", 614, (R 324)), ("__doc__", 615, .none)] 4
noncomputable def o322 := ks "Snapshot" [(.type "object")] [(R 322), (.type "object")] 321 [] [none, none, some (S "Snapshot" 562), some (S "Snapshot" 570), some (.builtin "object.__new__"), some (.bool true)]
noncomputable def o323 := ft "getset_descriptor" [(S "__dict__" 611), (R 322), (.builtin "function.__dict__"), (.builtin "function.__dict__#set")]
noncomputable def o324 := ft "getset_descriptor" [(S "__weakref__" 613), (R 322), (.builtin "ExceptionGroup.__weakref__"), .none]
noncomputable def o325 := ft "super" [(R 322), (R 322), (R 322)]
noncomputable def o326 := ft "builtin_function_or_method" [(.builtin "object.__init_subclass__"), (R 322)]
noncomputable def T6 (P : Params) : BT := insR P 285 [zt, o286, o287, zt, o289, o290, o291, zt, zf, o294, zt, o296, o297, o298, zt, zf, o301, zt, o303, o304, o305, zt, zf, o308, zt, o310, o311, o312, zt, zf, o315, zt, o317, o318, o319, o320, o321, o322, o323, o324, o325, o326] (insL P [(3, o3v5), (12, o12v5)] (T5 P))
theorem g6 (w : World) (os : OsState) : segRunT treeTable rp w 11 an 1 331 (SE T5 285 562 w os) (piecesOf (sl 23 2) en cd ⟨91, 0, 104, 16⟩ B0) = some (.next, SE T6 327 620 w os, cd, ⟨121, 0, 121, 8⟩) := by
  rw [PySem.W.Fast.te10110043849684766642, PySem.W.Fast.te14364793385576792824]; kernel_rfl
noncomputable def o3v6 := dd [("__name__", 165, (S "raftkeep.raftlog" 618)), ("__doc__", 166, .none), ("__package__", 167, .none), ("__loader__", 168, (.builtin "__main__.__loader__#opaque")), ("__spec__", 169, .none), ("__annotations__", 170, (R 6)), ("__builtins__", 171, (R 4)), ("__file__", 173, (S "/claim/cut.py" 172)), ("__cached__", 174, .none), ("_wall", 193, (R 21)), ("KeepError", 215, (R 31)), ("StoreError", 231, (R 44)), ("BadOption", 247, (R 56)), ("RaftError", 263, (R 68)), ("Compacted", 279, (R 80)), ("Unavailable", 295, (R 92)), ("SnapNotReady", 311, (R 104)), ("LogGap", 327, (R 116)), ("LogPanic", 343, (R 128)), ("MAX_64", 347, (.int 18446744073709551615 346)), ("varint_length", 355, (R 137)), ("NONE", 359, (.int 0 358)), ("NO_LIMIT", 361, (.int 18446744073709551615 360)), ("ENTRY_NORMAL", 363, (.int 0 362)), ("rising", 372, (R 144)), ("Entry", 437, (R 189)), ("limit_size", 448, (R 200)), ("HardState", 510, (R 245)), ("ConfState", 561, (R 280)), ("Snapshot", 617, (R 322)), ("MemoryStorage", 755, (R 427))] 31
noncomputable def o12v6 := fl [(I 1), (I 0), (R 20), (I 5), (I 0), (R 27), (I 7), (I 0), (R 40), (I 9), (I 0), (R 52), (I 11), (I 0), (R 64), (I 13), (I 0), (R 76), (I 15), (I 0), (R 88), (I 17), (I 0), (R 100), (I 19), (I 0), (R 112), (I 21), (I 0), (R 124), (I 25), (I 0), (R 136), (I 37), (I 0), (R 143), (I 43), (I 0), (R 150), (I 64), (I 0), (R 199), (I 73), (I 0), (R 206), (I 91), (I 0), (R 255), (I 105), (I 0), (R 290), (I 122), (I 0), (R 332)]
noncomputable def o328 := ft "builtin_function_or_method" [(.builtin "type.__prepare__"), (.type "type")]
noncomputable def o329 := dd [("__module__", 627, (S "raftkeep.raftlog" 618)), ("__qualname__", 629, (S "MemoryStorage" 628)), ("__firstlineno__", 631, (.int 122 630)), ("__init__", 640, (R 340)), ("initial_state", 647, (R 347)), ("first_index", 654, (R 354)), ("last_index", 661, (R 361)), ("entries_between", 672, (R 368)), ("term_at", 680, (R 375)), ("snapshot", 687, (R 382)), ("set_hard", 695, (R 389)), ("append", 706, (R 396)), ("apply_snapshot", 714, (R 403)), ("create_snapshot", 724, (R 410)), ("compact", 732, (R 417)), ("row", 741, (R 424)), ("__static_attributes__", 748, (R 425))] 17
noncomputable def o331 := fl [(I 124), (I 4), (R 339), (I 135), (I 4), (R 346), (I 138), (I 4), (R 353), (I 141), (I 4), (R 360), (I 144), (I 4), (R 367), (I 154), (I 4), (R 374), (I 163), (I 4), (R 381), (I 168), (I 4), (R 388), (I 171), (I 4), (R 395), (I 188), (I 4), (R 402), (I 191), (I 4), (R 409), (I 194), (I 4), (R 416), (I 197), (I 4), (R 423)]
noncomputable def o332 := cc "MemoryStorage" 622 122 181 330
noncomputable def o333 := fr 332 329 (S "raftkeep.raftlog" 618)
noncomputable def o336 := tn ["self", "conf", "begin"] 635
noncomputable def o338 := fs "MemoryStorage.__init__" (s2 25 0)
noncomputable def o339 := cf "__init__" "MemoryStorage.__init__" 632 124 2 181 3 334 638
noncomputable def o340 := fo "MemoryStorage.__init__" (s2 25 0) (S "raftkeep.raftlog" 618) 339
noncomputable def o343 := tn ["self"] 644
noncomputable def o345 := fs "MemoryStorage.initial_state" (s2 25 1)
noncomputable def o346 := cf "initial_state" "MemoryStorage.initial_state" 641 135 1 181 3 341 645
noncomputable def o347 := fo "MemoryStorage.initial_state" (s2 25 1) (S "raftkeep.raftlog" 618) 346
noncomputable def o350 := tn ["self"] 651
noncomputable def o352 := fs "MemoryStorage.first_index" (s2 25 2)
noncomputable def o353 := cf "first_index" "MemoryStorage.first_index" 648 138 1 181 3 348 652
noncomputable def o354 := fo "MemoryStorage.first_index" (s2 25 2) (S "raftkeep.raftlog" 618) 353
noncomputable def o357 := tn ["self"] 658
noncomputable def o359 := fs "MemoryStorage.last_index" (s2 25 3)
noncomputable def o360 := cf "last_index" "MemoryStorage.last_index" 655 141 1 181 3 355 659
noncomputable def o361 := fo "MemoryStorage.last_index" (s2 25 3) (S "raftkeep.raftlog" 618) 360
noncomputable def o364 := tn ["self", "lo", "hi", "limit", "first"] 665
noncomputable def o366 := fs "MemoryStorage.entries_between" (s2 25 4)
noncomputable def o367 := cf "entries_between" "MemoryStorage.entries_between" 662 144 4 181 3 362 670
noncomputable def o368 := fo "MemoryStorage.entries_between" (s2 25 4) (S "raftkeep.raftlog" 618) 367
noncomputable def o371 := tn ["self", "i"] 676
noncomputable def o373 := fs "MemoryStorage.term_at" (s2 25 5)
noncomputable def o374 := cf "term_at" "MemoryStorage.term_at" 673 154 2 181 3 369 678
noncomputable def o375 := fo "MemoryStorage.term_at" (s2 25 5) (S "raftkeep.raftlog" 618) 374
noncomputable def o378 := tn ["self"] 684
noncomputable def o380 := fs "MemoryStorage.snapshot" (s2 25 6)
noncomputable def o381 := cf "snapshot" "MemoryStorage.snapshot" 681 163 1 181 3 376 685
noncomputable def o382 := fo "MemoryStorage.snapshot" (s2 25 6) (S "raftkeep.raftlog" 618) 381
noncomputable def o385 := tn ["self", "hard"] 691
noncomputable def o387 := fs "MemoryStorage.set_hard" (s2 25 7)
noncomputable def o388 := cf "set_hard" "MemoryStorage.set_hard" 688 168 2 181 3 383 693
noncomputable def o389 := fo "MemoryStorage.set_hard" (s2 25 7) (S "raftkeep.raftlog" 618) 388
noncomputable def o392 := tn ["self", "entries", "start", "k", "first"] 699
noncomputable def o394 := fs "MemoryStorage.append" (s2 25 8)
noncomputable def o395 := cf "append" "MemoryStorage.append" 696 171 2 181 3 390 704
noncomputable def o396 := fo "MemoryStorage.append" (s2 25 8) (S "raftkeep.raftlog" 618) 395
noncomputable def o399 := tn ["self", "snapshot"] 710
noncomputable def o401 := fs "MemoryStorage.apply_snapshot" (s2 25 9)
noncomputable def o402 := cf "apply_snapshot" "MemoryStorage.apply_snapshot" 707 188 2 181 3 397 712
noncomputable def o403 := fo "MemoryStorage.apply_snapshot" (s2 25 9) (S "raftkeep.raftlog" 618) 402
noncomputable def o406 := tn ["self", "i", "conf", "data"] 718
noncomputable def o408 := fs "MemoryStorage.create_snapshot" (s2 25 10)
noncomputable def o409 := cf "create_snapshot" "MemoryStorage.create_snapshot" 715 191 4 181 3 404 722
noncomputable def o410 := fo "MemoryStorage.create_snapshot" (s2 25 10) (S "raftkeep.raftlog" 618) 409
noncomputable def o413 := tn ["self", "i"] 728
noncomputable def o415 := fs "MemoryStorage.compact" (s2 25 11)
noncomputable def o416 := cf "compact" "MemoryStorage.compact" 725 194 2 181 3 411 730
noncomputable def o417 := fo "MemoryStorage.compact" (s2 25 11) (S "raftkeep.raftlog" 618) 416
noncomputable def o420 := tn ["self", "rows", "e"] 736
noncomputable def o422 := fs "MemoryStorage.row" (s2 25 12)
noncomputable def o423 := cf "row" "MemoryStorage.row" 733 197 1 181 3 418 739
noncomputable def o424 := fo "MemoryStorage.row" (s2 25 12) (S "raftkeep.raftlog" 618) 423
noncomputable def o425 := tn ["base_index", "base_term", "conf", "entries", "hard", "snap"] 742
noncomputable def o426 := dd [("__module__", 627, (S "raftkeep.raftlog" 618)), ("__firstlineno__", 631, (.int 122 630)), ("__init__", 640, (R 340)), ("initial_state", 647, (R 347)), ("first_index", 654, (R 354)), ("last_index", 661, (R 361)), ("entries_between", 672, (R 368)), ("term_at", 680, (R 375)), ("snapshot", 687, (R 382)), ("set_hard", 695, (R 389)), ("append", 706, (R 396)), ("apply_snapshot", 714, (R 403)), ("create_snapshot", 724, (R 410)), ("compact", 732, (R 417)), ("row", 741, (R 424)), ("__static_attributes__", 748, (R 425)), ("__dict__", 750, (R 428)), ("__weakref__", 752, (R 429)), ("__doc__", 753, .none)] 4
noncomputable def o427 := ks "MemoryStorage" [(.type "object")] [(R 427), (.type "object")] 426 [] [none, none, some (S "MemoryStorage" 620), some (S "MemoryStorage" 628), some (.builtin "object.__new__"), some (.bool true)]
noncomputable def o428 := ft "getset_descriptor" [(S "__dict__" 749), (R 427), (.builtin "function.__dict__"), (.builtin "function.__dict__#set")]
noncomputable def o429 := ft "getset_descriptor" [(S "__weakref__" 751), (R 427), (.builtin "ExceptionGroup.__weakref__"), .none]
noncomputable def o430 := ft "super" [(R 427), (R 427), (R 427)]
noncomputable def o431 := ft "builtin_function_or_method" [(.builtin "object.__init_subclass__"), (R 427)]
noncomputable def T7 (P : Params) : BT := insR P 327 [zt, o328, o329, zt, o331, o332, o333, zt, zf, o336, zt, o338, o339, o340, zt, zf, o343, zt, o345, o346, o347, zt, zf, o350, zt, o352, o353, o354, zt, zf, o357, zt, o359, o360, o361, zt, zf, o364, zt, o366, o367, o368, zt, zf, o371, zt, o373, o374, o375, zt, zf, o378, zt, o380, o381, o382, zt, zf, o385, zt, o387, o388, o389, zt, zf, o392, zt, o394, o395, o396, zt, zf, o399, zt, o401, o402, o403, zt, zf, o406, zt, o408, o409, o410, zt, zf, o413, zt, o415, o416, o417, zt, zf, o420, zt, o422, o423, o424, o425, o426, o427, o428, o429, o430, o431] (insL P [(3, o3v6), (12, o12v6)] (T6 P))
theorem g7 (w : World) (os : OsState) : segRunT treeTable rp w 11 an 1 618 (SE T6 327 620 w os) (piecesOf (sl 25 1) en cd ⟨121, 0, 121, 8⟩ B0) = some (.next, SE T7 432 756 w os, cd, ⟨122, 0, 201, 95⟩) := by
  rw [PySem.W.Fast.te10110043849684766642, PySem.W.Fast.te14364793385576792824]; kernel_rfl
noncomputable def o3v7 := dd [("__name__", 165, (S "raftkeep.raftlog" 618)), ("__doc__", 166, .none), ("__package__", 167, .none), ("__loader__", 168, (.builtin "__main__.__loader__#opaque")), ("__spec__", 169, .none), ("__annotations__", 170, (R 6)), ("__builtins__", 171, (R 4)), ("__file__", 173, (S "/claim/cut.py" 172)), ("__cached__", 174, .none), ("_wall", 193, (R 21)), ("KeepError", 215, (R 31)), ("StoreError", 231, (R 44)), ("BadOption", 247, (R 56)), ("RaftError", 263, (R 68)), ("Compacted", 279, (R 80)), ("Unavailable", 295, (R 92)), ("SnapNotReady", 311, (R 104)), ("LogGap", 327, (R 116)), ("LogPanic", 343, (R 128)), ("MAX_64", 347, (.int 18446744073709551615 346)), ("varint_length", 355, (R 137)), ("NONE", 359, (.int 0 358)), ("NO_LIMIT", 361, (.int 18446744073709551615 360)), ("ENTRY_NORMAL", 363, (.int 0 362)), ("rising", 372, (R 144)), ("Entry", 437, (R 189)), ("limit_size", 448, (R 200)), ("HardState", 510, (R 245)), ("ConfState", 561, (R 280)), ("Snapshot", 617, (R 322)), ("MemoryStorage", 755, (R 427)), ("Unstable", 861, (R 511))] 32
noncomputable def o12v7 := fl [(I 1), (I 0), (R 20), (I 5), (I 0), (R 27), (I 7), (I 0), (R 40), (I 9), (I 0), (R 52), (I 11), (I 0), (R 64), (I 13), (I 0), (R 76), (I 15), (I 0), (R 88), (I 17), (I 0), (R 100), (I 19), (I 0), (R 112), (I 21), (I 0), (R 124), (I 25), (I 0), (R 136), (I 37), (I 0), (R 143), (I 43), (I 0), (R 150), (I 64), (I 0), (R 199), (I 73), (I 0), (R 206), (I 91), (I 0), (R 255), (I 105), (I 0), (R 290), (I 122), (I 0), (R 332), (I 202), (I 0), (R 437)]
noncomputable def o433 := ft "builtin_function_or_method" [(.builtin "type.__prepare__"), (.type "type")]
noncomputable def o434 := dd [("__module__", 763, (S "raftkeep.raftlog" 618)), ("__qualname__", 765, (S "Unstable" 764)), ("__firstlineno__", 767, (.int 202 766)), ("__init__", 775, (R 445)), ("maybe_first", 782, (R 452)), ("maybe_last", 789, (R 459)), ("maybe_term", 797, (R 466)), ("stable_to", 806, (R 473)), ("stable_snap_to", 814, (R 480)), ("restore", 822, (R 487)), ("truncate_and_append", 831, (R 494)), ("part", 840, (R 501)), ("row", 850, (R 508)), ("__static_attributes__", 854, (R 509))] 14
noncomputable def o436 := fl [(I 204), (I 4), (R 444), (I 209), (I 4), (R 451), (I 214), (I 4), (R 458), (I 221), (I 4), (R 465), (I 230), (I 4), (R 472), (I 233), (I 4), (R 479), (I 236), (I 4), (R 486), (I 239), (I 4), (R 493), (I 253), (I 4), (R 500), (I 260), (I 4), (R 507)]
noncomputable def o437 := cc "Unstable" 758 202 181 435
noncomputable def o438 := fr 437 434 (S "raftkeep.raftlog" 618)
noncomputable def o441 := tn ["self", "offset"] 771
noncomputable def o443 := fs "Unstable.__init__" (s2 26 0)
noncomputable def o444 := cf "__init__" "Unstable.__init__" 768 204 2 181 3 439 773
noncomputable def o445 := fo "Unstable.__init__" (s2 26 0) (S "raftkeep.raftlog" 618) 444
noncomputable def o448 := tn ["self"] 779
noncomputable def o450 := fs "Unstable.maybe_first" (s2 26 1)
noncomputable def o451 := cf "maybe_first" "Unstable.maybe_first" 776 209 1 181 3 446 780
noncomputable def o452 := fo "Unstable.maybe_first" (s2 26 1) (S "raftkeep.raftlog" 618) 451
noncomputable def o455 := tn ["self"] 786
noncomputable def o457 := fs "Unstable.maybe_last" (s2 26 2)
noncomputable def o458 := cf "maybe_last" "Unstable.maybe_last" 783 214 1 181 3 453 787
noncomputable def o459 := fo "Unstable.maybe_last" (s2 26 2) (S "raftkeep.raftlog" 618) 458
noncomputable def o462 := tn ["self", "i"] 793
noncomputable def o464 := fs "Unstable.maybe_term" (s2 26 3)
noncomputable def o465 := cf "maybe_term" "Unstable.maybe_term" 790 221 2 181 3 460 795
noncomputable def o466 := fo "Unstable.maybe_term" (s2 26 3) (S "raftkeep.raftlog" 618) 465
noncomputable def o469 := tn ["self", "i", "term"] 801
noncomputable def o471 := fs "Unstable.stable_to" (s2 26 4)
noncomputable def o472 := cf "stable_to" "Unstable.stable_to" 798 230 3 181 3 467 804
noncomputable def o473 := fo "Unstable.stable_to" (s2 26 4) (S "raftkeep.raftlog" 618) 472
noncomputable def o476 := tn ["self", "i"] 810
noncomputable def o478 := fs "Unstable.stable_snap_to" (s2 26 5)
noncomputable def o479 := cf "stable_snap_to" "Unstable.stable_snap_to" 807 233 2 181 3 474 812
noncomputable def o480 := fo "Unstable.stable_snap_to" (s2 26 5) (S "raftkeep.raftlog" 618) 479
noncomputable def o483 := tn ["self", "snapshot"] 818
noncomputable def o485 := fs "Unstable.restore" (s2 26 6)
noncomputable def o486 := cf "restore" "Unstable.restore" 815 236 2 181 3 481 820
noncomputable def o487 := fo "Unstable.restore" (s2 26 6) (S "raftkeep.raftlog" 618) 486
noncomputable def o490 := tn ["self", "entries", "after"] 826
noncomputable def o492 := fs "Unstable.truncate_and_append" (s2 26 7)
noncomputable def o493 := cf "truncate_and_append" "Unstable.truncate_and_append" 823 239 2 181 3 488 829
noncomputable def o494 := fo "Unstable.truncate_and_append" (s2 26 7) (S "raftkeep.raftlog" 618) 493
noncomputable def o497 := tn ["self", "lo", "hi"] 835
noncomputable def o499 := fs "Unstable.part" (s2 26 8)
noncomputable def o500 := cf "part" "Unstable.part" 832 253 3 181 3 495 838
noncomputable def o501 := fo "Unstable.part" (s2 26 8) (S "raftkeep.raftlog" 618) 500
noncomputable def o504 := tn ["self", "rows", "e", "snap"] 844
noncomputable def o506 := fs "Unstable.row" (s2 26 9)
noncomputable def o507 := cf "row" "Unstable.row" 841 260 1 181 3 502 848
noncomputable def o508 := fo "Unstable.row" (s2 26 9) (S "raftkeep.raftlog" 618) 507
noncomputable def o509 := tn ["entries", "offset", "snapshot"] 851
noncomputable def o510 := dd [("__module__", 763, (S "raftkeep.raftlog" 618)), ("__firstlineno__", 767, (.int 202 766)), ("__init__", 775, (R 445)), ("maybe_first", 782, (R 452)), ("maybe_last", 789, (R 459)), ("maybe_term", 797, (R 466)), ("stable_to", 806, (R 473)), ("stable_snap_to", 814, (R 480)), ("restore", 822, (R 487)), ("truncate_and_append", 831, (R 494)), ("part", 840, (R 501)), ("row", 850, (R 508)), ("__static_attributes__", 854, (R 509)), ("__dict__", 856, (R 512)), ("__weakref__", 858, (R 513)), ("__doc__", 859, .none)] 4
noncomputable def o511 := ks "Unstable" [(.type "object")] [(R 511), (.type "object")] 510 [] [none, none, some (S "Unstable" 756), some (S "Unstable" 764), some (.builtin "object.__new__"), some (.bool true)]
noncomputable def o512 := ft "getset_descriptor" [(S "__dict__" 855), (R 511), (.builtin "function.__dict__"), (.builtin "function.__dict__#set")]
noncomputable def o513 := ft "getset_descriptor" [(S "__weakref__" 857), (R 511), (.builtin "ExceptionGroup.__weakref__"), .none]
noncomputable def o514 := ft "super" [(R 511), (R 511), (R 511)]
noncomputable def o515 := ft "builtin_function_or_method" [(.builtin "object.__init_subclass__"), (R 511)]
noncomputable def T8 (P : Params) : BT := insR P 432 [zt, o433, o434, zt, o436, o437, o438, zt, zf, o441, zt, o443, o444, o445, zt, zf, o448, zt, o450, o451, o452, zt, zf, o455, zt, o457, o458, o459, zt, zf, o462, zt, o464, o465, o466, zt, zf, o469, zt, o471, o472, o473, zt, zf, o476, zt, o478, o479, o480, zt, zf, o483, zt, o485, o486, o487, zt, zf, o490, zt, o492, o493, o494, zt, zf, o497, zt, o499, o500, o501, zt, zf, o504, zt, o506, o507, o508, o509, o510, o511, o512, o513, o514, o515] (insL P [(3, o3v7), (12, o12v7)] (T7 P))
theorem g8 (w : World) (os : OsState) : segRunT treeTable rp w 11 an 1 516 (SE T7 432 756 w os) (piecesOf (sl 26 1) en cd ⟨122, 0, 201, 95⟩ B0) = some (.next, SE T8 516 862 w os, cd, ⟨202, 0, 267, 47⟩) := by
  rw [PySem.W.Fast.te10110043849684766642, PySem.W.Fast.te14364793385576792824]; kernel_rfl
noncomputable def o3v8 := dd [("__name__", 165, (S "raftkeep.raftlog" 618)), ("__doc__", 166, .none), ("__package__", 167, .none), ("__loader__", 168, (.builtin "__main__.__loader__#opaque")), ("__spec__", 169, .none), ("__annotations__", 170, (R 6)), ("__builtins__", 171, (R 4)), ("__file__", 173, (S "/claim/cut.py" 172)), ("__cached__", 174, .none), ("_wall", 193, (R 21)), ("KeepError", 215, (R 31)), ("StoreError", 231, (R 44)), ("BadOption", 247, (R 56)), ("RaftError", 263, (R 68)), ("Compacted", 279, (R 80)), ("Unavailable", 295, (R 92)), ("SnapNotReady", 311, (R 104)), ("LogGap", 327, (R 116)), ("LogPanic", 343, (R 128)), ("MAX_64", 347, (.int 18446744073709551615 346)), ("varint_length", 355, (R 137)), ("NONE", 359, (.int 0 358)), ("NO_LIMIT", 361, (.int 18446744073709551615 360)), ("ENTRY_NORMAL", 363, (.int 0 362)), ("rising", 372, (R 144)), ("Entry", 437, (R 189)), ("limit_size", 448, (R 200)), ("HardState", 510, (R 245)), ("ConfState", 561, (R 280)), ("Snapshot", 617, (R 322)), ("MemoryStorage", 755, (R 427)), ("Unstable", 861, (R 511)), ("RaftLog", 1124, (R 721))] 33
noncomputable def o12v8 := fl [(I 1), (I 0), (R 20), (I 5), (I 0), (R 27), (I 7), (I 0), (R 40), (I 9), (I 0), (R 52), (I 11), (I 0), (R 64), (I 13), (I 0), (R 76), (I 15), (I 0), (R 88), (I 17), (I 0), (R 100), (I 19), (I 0), (R 112), (I 21), (I 0), (R 124), (I 25), (I 0), (R 136), (I 37), (I 0), (R 143), (I 43), (I 0), (R 150), (I 64), (I 0), (R 199), (I 73), (I 0), (R 206), (I 91), (I 0), (R 255), (I 105), (I 0), (R 290), (I 122), (I 0), (R 332), (I 202), (I 0), (R 437), (I 268), (I 0), (R 521)]
noncomputable def o517 := ft "builtin_function_or_method" [(.builtin "type.__prepare__"), (.type "type")]
noncomputable def o518 := dd [("__module__", 869, (S "raftkeep.raftlog" 618)), ("__qualname__", 871, (S "RaftLog" 870)), ("__firstlineno__", 873, (.int 268 872)), ("__init__", 883, (R 529)), ("first_index", 891, (R 536)), ("last_index", 899, (R 543)), ("last_term", 906, (R 550)), ("term", 915, (R 557)), ("term_or_zero", 923, (R 564)), ("match_term", 932, (R 571)), ("up_to_date", 942, (R 578)), ("maybe_append", 956, (R 585)), ("append", 965, (R 592)), ("find_conflict", 974, (R 599)), ("conflict_by_term", 983, (R 606)), ("restore", 991, (R 613)), ("commit_to", 999, (R 620)), ("maybe_commit", 1008, (R 627)), ("applied_to", 1016, (R 634)), ("stable_to", 1025, (R 641)), ("stable_snap_to", 1033, (R 648)), ("unstable_entries", 1040, (R 655)), ("pending_snapshot", 1047, (R 662)), ("first_unapplied", 1054, (R 669)), ("has_next", 1061, (R 676)), ("next_committed", 1068, (R 683)), ("snapshot", 1075, (R 690)), ("entries", 1084, (R 697)), ("all_entries", 1091, (R 704)), ("slice", 1104, (R 711)), ("row", 1111, (R 718)), ("__static_attributes__", 1117, (R 719))] 32
noncomputable def o520 := fl [(I 270), (I 4), (R 528), (I 278), (I 4), (R 535), (I 284), (I 4), (R 542), (I 290), (I 4), (R 549), (I 296), (I 4), (R 556), (I 306), (I 4), (R 563), (I 312), (I 4), (R 570), (I 318), (I 4), (R 577), (I 322), (I 4), (R 584), (I 337), (I 4), (R 591), (I 348), (I 4), (R 598), (I 354), (I 4), (R 605), (I 357), (I 4), (R 612), (I 360), (I 4), (R 619), (I 367), (I 4), (R 626), (I 373), (I 4), (R 633), (I 376), (I 4), (R 640), (I 379), (I 4), (R 647), (I 382), (I 4), (R 654), (I 385), (I 4), (R 661), (I 388), (I 4), (R 668), (I 391), (I 4), (R 675), (I 394), (I 4), (R 682), (I 397), (I 4), (R 689), (I 402), (I 4), (R 696), (I 407), (I 4), (R 703), (I 410), (I 4), (R 710), (I 433), (I 4), (R 717)]
noncomputable def o521 := cc "RaftLog" 864 268 181 519
noncomputable def o522 := fr 521 518 (S "raftkeep.raftlog" 618)
noncomputable def o525 := tn ["self", "storage", "max_committed", "first"] 877
noncomputable def o527 := fs "RaftLog.__init__" (s2 27 0)
noncomputable def o528 := cf "__init__" "RaftLog.__init__" 874 270 3 181 3 523 881
noncomputable def o529 := fo "RaftLog.__init__" (s2 27 0) (S "raftkeep.raftlog" 618) 528
noncomputable def o532 := tn ["self", "i"] 887
noncomputable def o534 := fs "RaftLog.first_index" (s2 27 1)
noncomputable def o535 := cf "first_index" "RaftLog.first_index" 884 278 1 181 3 530 889
noncomputable def o536 := fo "RaftLog.first_index" (s2 27 1) (S "raftkeep.raftlog" 618) 535
noncomputable def o539 := tn ["self", "i"] 895
noncomputable def o541 := fs "RaftLog.last_index" (s2 27 2)
noncomputable def o542 := cf "last_index" "RaftLog.last_index" 892 284 1 181 3 537 897
noncomputable def o543 := fo "RaftLog.last_index" (s2 27 2) (S "raftkeep.raftlog" 618) 542
noncomputable def o546 := tn ["self"] 903
noncomputable def o548 := fs "RaftLog.last_term" (s2 27 3)
noncomputable def o549 := cf "last_term" "RaftLog.last_term" 900 290 1 181 3 544 904
noncomputable def o550 := fo "RaftLog.last_term" (s2 27 3) (S "raftkeep.raftlog" 618) 549
noncomputable def o553 := tn ["self", "i", "known"] 910
noncomputable def o555 := fs "RaftLog.term" (s2 27 4)
noncomputable def o556 := cf "term" "RaftLog.term" 907 296 2 181 3 551 913
noncomputable def o557 := fo "RaftLog.term" (s2 27 4) (S "raftkeep.raftlog" 618) 556
noncomputable def o560 := tn ["self", "i"] 919
noncomputable def o562 := fs "RaftLog.term_or_zero" (s2 27 5)
noncomputable def o563 := cf "term_or_zero" "RaftLog.term_or_zero" 916 306 2 181 3 558 921
noncomputable def o564 := fo "RaftLog.term_or_zero" (s2 27 5) (S "raftkeep.raftlog" 618) 563
noncomputable def o567 := tn ["self", "i", "t"] 927
noncomputable def o569 := fs "RaftLog.match_term" (s2 27 6)
noncomputable def o570 := cf "match_term" "RaftLog.match_term" 924 312 3 181 3 565 930
noncomputable def o571 := fo "RaftLog.match_term" (s2 27 6) (S "raftkeep.raftlog" 618) 570
noncomputable def o574 := tn ["self", "last", "term", "mine"] 936
noncomputable def o576 := fs "RaftLog.up_to_date" (s2 27 7)
noncomputable def o577 := cf "up_to_date" "RaftLog.up_to_date" 933 318 3 181 3 572 940
noncomputable def o578 := fo "RaftLog.up_to_date" (s2 27 7) (S "raftkeep.raftlog" 618) 577
noncomputable def o581 := tn ["self", "index", "log_term", "committed", "entries", "k", "newest", "conflict"] 946
noncomputable def o583 := fs "RaftLog.maybe_append" (s2 27 8)
noncomputable def o584 := cf "maybe_append" "RaftLog.maybe_append" 943 322 5 181 3 579 954
noncomputable def o585 := fo "RaftLog.maybe_append" (s2 27 8) (S "raftkeep.raftlog" 618) 584
noncomputable def o588 := tn ["self", "entries", "before"] 960
noncomputable def o590 := fs "RaftLog.append" (s2 27 9)
noncomputable def o591 := cf "append" "RaftLog.append" 957 337 2 181 3 586 963
noncomputable def o592 := fo "RaftLog.append" (s2 27 9) (S "raftkeep.raftlog" 618) 591
noncomputable def o595 := tn ["self", "entries", "e"] 969
noncomputable def o597 := fs "RaftLog.find_conflict" (s2 27 10)
noncomputable def o598 := cf "find_conflict" "RaftLog.find_conflict" 966 348 2 181 3 593 972
noncomputable def o599 := fo "RaftLog.find_conflict" (s2 27 10) (S "raftkeep.raftlog" 618) 598
noncomputable def o602 := tn ["self", "index", "term"] 978
noncomputable def o604 := fs "RaftLog.conflict_by_term" (s2 27 11)
noncomputable def o605 := cf "conflict_by_term" "RaftLog.conflict_by_term" 975 354 3 181 3 600 981
noncomputable def o606 := fo "RaftLog.conflict_by_term" (s2 27 11) (S "raftkeep.raftlog" 618) 605
noncomputable def o609 := tn ["self", "snapshot"] 987
noncomputable def o611 := fs "RaftLog.restore" (s2 27 12)
noncomputable def o612 := cf "restore" "RaftLog.restore" 984 357 2 181 3 607 989
noncomputable def o613 := fo "RaftLog.restore" (s2 27 12) (S "raftkeep.raftlog" 618) 612
noncomputable def o616 := tn ["self", "i"] 995
noncomputable def o618 := fs "RaftLog.commit_to" (s2 27 13)
noncomputable def o619 := cf "commit_to" "RaftLog.commit_to" 992 360 2 181 3 614 997
noncomputable def o620 := fo "RaftLog.commit_to" (s2 27 13) (S "raftkeep.raftlog" 618) 619
noncomputable def o623 := tn ["self", "i", "term"] 1003
noncomputable def o625 := fs "RaftLog.maybe_commit" (s2 27 14)
noncomputable def o626 := cf "maybe_commit" "RaftLog.maybe_commit" 1000 367 3 181 3 621 1006
noncomputable def o627 := fo "RaftLog.maybe_commit" (s2 27 14) (S "raftkeep.raftlog" 618) 626
noncomputable def o630 := tn ["self", "i"] 1012
noncomputable def o632 := fs "RaftLog.applied_to" (s2 27 15)
noncomputable def o633 := cf "applied_to" "RaftLog.applied_to" 1009 373 2 181 3 628 1014
noncomputable def o634 := fo "RaftLog.applied_to" (s2 27 15) (S "raftkeep.raftlog" 618) 633
noncomputable def o637 := tn ["self", "i", "term"] 1020
noncomputable def o639 := fs "RaftLog.stable_to" (s2 27 16)
noncomputable def o640 := cf "stable_to" "RaftLog.stable_to" 1017 376 3 181 3 635 1023
noncomputable def o641 := fo "RaftLog.stable_to" (s2 27 16) (S "raftkeep.raftlog" 618) 640
noncomputable def o644 := tn ["self", "i"] 1029
noncomputable def o646 := fs "RaftLog.stable_snap_to" (s2 27 17)
noncomputable def o647 := cf "stable_snap_to" "RaftLog.stable_snap_to" 1026 379 2 181 3 642 1031
noncomputable def o648 := fo "RaftLog.stable_snap_to" (s2 27 17) (S "raftkeep.raftlog" 618) 647
noncomputable def o651 := tn ["self"] 1037
noncomputable def o653 := fs "RaftLog.unstable_entries" (s2 27 18)
noncomputable def o654 := cf "unstable_entries" "RaftLog.unstable_entries" 1034 382 1 181 3 649 1038
noncomputable def o655 := fo "RaftLog.unstable_entries" (s2 27 18) (S "raftkeep.raftlog" 618) 654
noncomputable def o658 := tn ["self"] 1044
noncomputable def o660 := fs "RaftLog.pending_snapshot" (s2 27 19)
noncomputable def o661 := cf "pending_snapshot" "RaftLog.pending_snapshot" 1041 385 1 181 3 656 1045
noncomputable def o662 := fo "RaftLog.pending_snapshot" (s2 27 19) (S "raftkeep.raftlog" 618) 661
noncomputable def o665 := tn ["self"] 1051
noncomputable def o667 := fs "RaftLog.first_unapplied" (s2 27 20)
noncomputable def o668 := cf "first_unapplied" "RaftLog.first_unapplied" 1048 388 1 181 3 663 1052
noncomputable def o669 := fo "RaftLog.first_unapplied" (s2 27 20) (S "raftkeep.raftlog" 618) 668
noncomputable def o672 := tn ["self"] 1058
noncomputable def o674 := fs "RaftLog.has_next" (s2 27 21)
noncomputable def o675 := cf "has_next" "RaftLog.has_next" 1055 391 1 181 3 670 1059
noncomputable def o676 := fo "RaftLog.has_next" (s2 27 21) (S "raftkeep.raftlog" 618) 675
noncomputable def o679 := tn ["self"] 1065
noncomputable def o681 := fs "RaftLog.next_committed" (s2 27 22)
noncomputable def o682 := cf "next_committed" "RaftLog.next_committed" 1062 394 1 181 3 677 1066
noncomputable def o683 := fo "RaftLog.next_committed" (s2 27 22) (S "raftkeep.raftlog" 618) 682
noncomputable def o686 := tn ["self"] 1072
noncomputable def o688 := fs "RaftLog.snapshot" (s2 27 23)
noncomputable def o689 := cf "snapshot" "RaftLog.snapshot" 1069 397 1 181 3 684 1073
noncomputable def o690 := fo "RaftLog.snapshot" (s2 27 23) (S "raftkeep.raftlog" 618) 689
noncomputable def o693 := tn ["self", "i", "limit"] 1079
noncomputable def o695 := fs "RaftLog.entries" (s2 27 24)
noncomputable def o696 := cf "entries" "RaftLog.entries" 1076 402 3 181 3 691 1082
noncomputable def o697 := fo "RaftLog.entries" (s2 27 24) (S "raftkeep.raftlog" 618) 696
noncomputable def o700 := tn ["self"] 1088
noncomputable def o702 := fs "RaftLog.all_entries" (s2 27 25)
noncomputable def o703 := cf "all_entries" "RaftLog.all_entries" 1085 407 1 181 3 698 1089
noncomputable def o704 := fo "RaftLog.all_entries" (s2 27 25) (S "raftkeep.raftlog" 618) 703
noncomputable def o707 := tn ["self", "lo", "hi", "limit", "offset", "found", "end"] 1095
noncomputable def o709 := fs "RaftLog.slice" (s2 27 26)
noncomputable def o710 := cf "slice" "RaftLog.slice" 1092 410 4 181 3 705 1102
noncomputable def o711 := fo "RaftLog.slice" (s2 27 26) (S "raftkeep.raftlog" 618) 710
noncomputable def o714 := tn ["self"] 1108
noncomputable def o716 := fs "RaftLog.row" (s2 27 27)
noncomputable def o717 := cf "row" "RaftLog.row" 1105 433 1 181 3 712 1109
noncomputable def o718 := fo "RaftLog.row" (s2 27 27) (S "raftkeep.raftlog" 618) 717
noncomputable def o719 := tn ["applied", "committed", "max_committed", "storage", "unstable"] 1112
noncomputable def o720 := dd [("__module__", 869, (S "raftkeep.raftlog" 618)), ("__firstlineno__", 873, (.int 268 872)), ("__init__", 883, (R 529)), ("first_index", 891, (R 536)), ("last_index", 899, (R 543)), ("last_term", 906, (R 550)), ("term", 915, (R 557)), ("term_or_zero", 923, (R 564)), ("match_term", 932, (R 571)), ("up_to_date", 942, (R 578)), ("maybe_append", 956, (R 585)), ("append", 965, (R 592)), ("find_conflict", 974, (R 599)), ("conflict_by_term", 983, (R 606)), ("restore", 991, (R 613)), ("commit_to", 999, (R 620)), ("maybe_commit", 1008, (R 627)), ("applied_to", 1016, (R 634)), ("stable_to", 1025, (R 641)), ("stable_snap_to", 1033, (R 648)), ("unstable_entries", 1040, (R 655)), ("pending_snapshot", 1047, (R 662)), ("first_unapplied", 1054, (R 669)), ("has_next", 1061, (R 676)), ("next_committed", 1068, (R 683)), ("snapshot", 1075, (R 690)), ("entries", 1084, (R 697)), ("all_entries", 1091, (R 704)), ("slice", 1104, (R 711)), ("row", 1111, (R 718)), ("__static_attributes__", 1117, (R 719)), ("__dict__", 1119, (R 722)), ("__weakref__", 1121, (R 723)), ("__doc__", 1122, .none)] 4
noncomputable def o721 := ks "RaftLog" [(.type "object")] [(R 721), (.type "object")] 720 [] [none, none, some (S "RaftLog" 862), some (S "RaftLog" 870), some (.builtin "object.__new__"), some (.bool true)]
noncomputable def o722 := ft "getset_descriptor" [(S "__dict__" 1118), (R 721), (.builtin "function.__dict__"), (.builtin "function.__dict__#set")]
noncomputable def o723 := ft "getset_descriptor" [(S "__weakref__" 1120), (R 721), (.builtin "ExceptionGroup.__weakref__"), .none]
noncomputable def o724 := ft "super" [(R 721), (R 721), (R 721)]
noncomputable def o725 := ft "builtin_function_or_method" [(.builtin "object.__init_subclass__"), (R 721)]
noncomputable def T9 (P : Params) : BT := insR P 516 [zt, o517, o518, zt, o520, o521, o522, zt, zf, o525, zt, o527, o528, o529, zt, zf, o532, zt, o534, o535, o536, zt, zf, o539, zt, o541, o542, o543, zt, zf, o546, zt, o548, o549, o550, zt, zf, o553, zt, o555, o556, o557, zt, zf, o560, zt, o562, o563, o564, zt, zf, o567, zt, o569, o570, o571, zt, zf, o574, zt, o576, o577, o578, zt, zf, o581, zt, o583, o584, o585, zt, zf, o588, zt, o590, o591, o592, zt, zf, o595, zt, o597, o598, o599, zt, zf, o602, zt, o604, o605, o606, zt, zf, o609, zt, o611, o612, o613, zt, zf, o616, zt, o618, o619, o620, zt, zf, o623, zt, o625, o626, o627, zt, zf, o630, zt, o632, o633, o634, zt, zf, o637, zt, o639, o640, o641, zt, zf, o644, zt, o646, o647, o648, zt, zf, o651, zt, o653, o654, o655, zt, zf, o658, zt, o660, o661, o662, zt, zf, o665, zt, o667, o668, o669, zt, zf, o672, zt, o674, o675, o676, zt, zf, o679, zt, o681, o682, o683, zt, zf, o686, zt, o688, o689, o690, zt, zf, o693, zt, o695, o696, o697, zt, zf, o700, zt, o702, o703, o704, zt, zf, o707, zt, o709, o710, o711, zt, zf, o714, zt, o716, o717, o718, o719, o720, o721, o722, o723, o724, o725] (insL P [(3, o3v8), (12, o12v8)] (T8 P))
theorem g9 (w : World) (os : OsState) : segRunT treeTable rp w 11 an 1 1105 (SE T8 516 862 w os) (piecesOf (sl 27 1) en cd ⟨202, 0, 267, 47⟩ B0) = some (.next, SE T9 726 1125 w os, cd, ⟨268, 0, 434, 66⟩) := by
  rw [PySem.W.Fast.te10110043849684766642, PySem.W.Fast.te14364793385576792824]; kernel_rfl
noncomputable def o3v9 := dd [("__name__", 165, (S "law_nz0371_02" 1125)), ("__doc__", 166, .none), ("__package__", 167, .none), ("__loader__", 168, (.builtin "__main__.__loader__#opaque")), ("__spec__", 169, .none), ("__annotations__", 170, (R 6)), ("__builtins__", 171, (R 4)), ("__file__", 173, (S "/claim/cut.py" 172)), ("__cached__", 174, .none), ("_wall", 193, (R 21)), ("KeepError", 215, (R 31)), ("StoreError", 231, (R 44)), ("BadOption", 247, (R 56)), ("RaftError", 263, (R 68)), ("Compacted", 279, (R 80)), ("Unavailable", 295, (R 92)), ("SnapNotReady", 311, (R 104)), ("LogGap", 327, (R 116)), ("LogPanic", 343, (R 128)), ("MAX_64", 347, (.int 18446744073709551615 346)), ("varint_length", 355, (R 137)), ("NONE", 359, (.int 0 358)), ("NO_LIMIT", 361, (.int 18446744073709551615 360)), ("ENTRY_NORMAL", 363, (.int 0 362)), ("rising", 372, (R 144)), ("Entry", 437, (R 189)), ("limit_size", 448, (R 200)), ("HardState", 510, (R 245)), ("ConfState", 561, (R 280)), ("Snapshot", 617, (R 322)), ("MemoryStorage", 755, (R 427)), ("Unstable", 861, (R 511)), ("RaftLog", 1124, (R 721)), ("_law_draw", 1134, (R 732)), ("_law_end", 1141, (R 739)), ("_law_rows", 1147, (R 744)), ("_law_put", 1165, (R 751)), ("_law_stand", 1187, (R 758)), ("_law_fits", 1196, (R 765)), ("_law_tell", 1202, (R 770)), ("_law_safe", 1220, (R 777)), ("_law_alike", 1226, (R 782)), ("_law_act", 1232, (R 787)), ("law", 1238, (R 792))] 44
noncomputable def o12v9 := fl [(I 1), (I 0), (R 20), (I 5), (I 0), (R 27), (I 7), (I 0), (R 40), (I 9), (I 0), (R 52), (I 11), (I 0), (R 64), (I 13), (I 0), (R 76), (I 15), (I 0), (R 88), (I 17), (I 0), (R 100), (I 19), (I 0), (R 112), (I 21), (I 0), (R 124), (I 25), (I 0), (R 136), (I 37), (I 0), (R 143), (I 43), (I 0), (R 150), (I 64), (I 0), (R 199), (I 73), (I 0), (R 206), (I 91), (I 0), (R 255), (I 105), (I 0), (R 290), (I 122), (I 0), (R 332), (I 202), (I 0), (R 437), (I 268), (I 0), (R 521), (I 436), (I 0), (R 731), (I 438), (I 0), (R 738), (I 442), (I 0), (R 743), (I 444), (I 0), (R 750), (I 450), (I 0), (R 757), (I 475), (I 0), (R 764), (I 477), (I 0), (R 769), (I 509), (I 0), (R 776), (I 521), (I 0), (R 781), (I 524), (I 0), (R 786), (I 542), (I 0), (R 791)]
noncomputable def o728 := tn ["nums", "i"] 1130
noncomputable def o730 := fs "_law_draw" (s1 29)
noncomputable def o731 := cf "_law_draw" "_law_draw" 1127 436 2 181 3 726 1132
noncomputable def o732 := fo "_law_draw" (s1 29) (S "law_nz0371_02" 1125) 731
noncomputable def o735 := tn ["rows"] 1138
noncomputable def o737 := fs "_law_end" (s1 30)
noncomputable def o738 := cf "_law_end" "_law_end" 1135 438 1 181 3 733 1139
noncomputable def o739 := fo "_law_end" (s1 30) (S "law_nz0371_02" 1125) 738
noncomputable def o742 := fs "_law_rows" (s1 31)
noncomputable def o743 := ft "code" [(S "_law_rows" 1142), (S "_law_rows" 1143), (S "/claim/cut.py" 1144), (I 442), (I 1), (I 0), (I 0), (I 3), (R 740), (.bool true), (I 181), (R 741), .none, .none, .none, (R 742), (I 1145), (I 442), (S "/claim/cut.py" 1146)]
noncomputable def o744 := fo "_law_rows" (s1 31) (S "law_nz0371_02" 1125) 743
noncomputable def o747 := tn ["w", "m", "tag", "logs", "plain", "terms", "leads", "acks", "coms", "sure", "data", "at"] 1151
noncomputable def o749 := fs "_law_put" (s1 32)
noncomputable def o750 := cf "_law_put" "_law_put" 1148 444 3 181 3 745 1163
noncomputable def o751 := fo "_law_put" (s1 32) (S "law_nz0371_02" 1125) 750
noncomputable def o754 := tn ["w", "m", "helpers", "logs", "plain", "terms", "leads", "acks", "coms", "sure", "term", "last", "last_term", "count", "j", "ok"] 1169
noncomputable def o756 := fs "_law_stand" (s1 33)
noncomputable def o757 := cf "_law_stand" "_law_stand" 1166 450 3 181 3 752 1185
noncomputable def o758 := fo "_law_stand" (s1 33) (S "law_nz0371_02" 1125) 757
noncomputable def o761 := tn ["mine", "other", "at"] 1191
noncomputable def o763 := fs "_law_fits" (s1 34)
noncomputable def o764 := cf "_law_fits" "_law_fits" 1188 475 3 181 3 759 1194
noncomputable def o765 := fo "_law_fits" (s1 34) (S "law_nz0371_02" 1125) 764
noncomputable def o768 := fs "_law_tell" (s1 35)
noncomputable def o769 := ft "code" [(S "_law_tell" 1197), (S "_law_tell" 1198), (S "/claim/cut.py" 1199), (I 477), (I 5), (I 0), (I 0), (I 3), (R 766), (.bool true), (I 181), (R 767), .none, .none, .none, (R 768), (I 1200), (I 477), (S "/claim/cut.py" 1201)]
noncomputable def o770 := fo "_law_tell" (s1 35) (S "law_nz0371_02" 1125) 769
noncomputable def o773 := tn ["w", "logs", "plain", "terms", "leads", "acks", "coms", "sure", "j", "rows", "part", "row"] 1206
noncomputable def o775 := fs "_law_safe" (s1 36)
noncomputable def o776 := cf "_law_safe" "_law_safe" 1203 509 1 181 3 771 1218
noncomputable def o777 := fo "_law_safe" (s1 36) (S "law_nz0371_02" 1125) 776
noncomputable def o780 := fs "_law_alike" (s1 37)
noncomputable def o781 := ft "code" [(S "_law_alike" 1221), (S "_law_alike" 1222), (S "/claim/cut.py" 1223), (I 521), (I 2), (I 0), (I 0), (I 3), (R 778), (.bool true), (I 181), (R 779), .none, .none, .none, (R 780), (I 1224), (I 521), (S "/claim/cut.py" 1225)]
noncomputable def o782 := fo "_law_alike" (s1 37) (S "law_nz0371_02" 1125) 781
noncomputable def o785 := fs "_law_act" (s1 38)
noncomputable def o786 := ft "code" [(S "_law_act" 1227), (S "_law_act" 1228), (S "/claim/cut.py" 1229), (I 524), (I 3), (I 0), (I 0), (I 3), (R 783), (.bool true), (I 181), (R 784), .none, .none, .none, (R 785), (I 1230), (I 524), (S "/claim/cut.py" 1231)]
noncomputable def o787 := fo "_law_act" (s1 38) (S "law_nz0371_02" 1125) 786
noncomputable def o790 := fs "law" (s1 39)
noncomputable def o791 := ft "code" [(S "law" 1233), (S "law" 1234), (S "/claim/cut.py" 1235), (I 542), (I 1), (I 0), (I 0), (I 3), (R 788), (.bool true), (I 181), (R 789), .none, .none, .none, (R 790), (I 1236), (I 542), (S "/claim/cut.py" 1237)]
noncomputable def o792 := fo "law" (s1 39) (S "law_nz0371_02" 1125) 791
noncomputable def T10 (P : Params) : BT := insR P 726 [zt, zf, o728, zt, o730, o731, o732, zt, zf, o735, zt, o737, o738, o739, zt, zf, o742, o743, o744, zt, zf, o747, zt, o749, o750, o751, zt, zf, o754, zt, o756, o757, o758, zt, zf, o761, zt, o763, o764, o765, zt, zf, o768, o769, o770, zt, zf, o773, zt, o775, o776, o777, zt, zf, o780, o781, o782, zt, zf, o785, o786, o787, zt, zf, o790, o791, o792] (insL P [(3, o3v9), (12, o12v9)] (T9 P))
theorem g10 (w : World) (os : OsState) : segRunT treeTable rp w 11 an 1 354 (SE T9 726 1125 w os) (piecesOf (sl 28 12) en cd ⟨268, 0, 434, 66⟩ B0) = some (.next, SE T10 793 1239 w os, cd, ⟨542, 0, 567, 89⟩) := by
  rw [PySem.W.Fast.te10110043849684766642, PySem.W.Fast.te14364793385576792824]; kernel_rfl
noncomputable def hp (P : Params) : Heap := ⟨⟨boot_o_0 P :: boot_o_1 P :: o2 P :: o3v9 P :: boot_o_4 P :: boot_o_5 P :: boot_o_6 P :: boot_o_7 P :: boot_o_8 P :: boot_o_9 P :: boot_o_10 P :: zt P :: o12v9 P :: o13 P :: o14 P :: zt P :: zf P :: o17 P :: zt P :: o19 P :: o20 P :: o21 P :: o22 P :: o23 P :: o24 P :: zt P :: zf P :: o27 P :: o28 P :: zt P :: o30 P :: o31v1 P :: o32 P :: o33 P :: o34 P :: o35 P :: o36 P :: o37 P :: zt P :: zf P :: o40 P :: o41 P :: zt P :: o43 P :: o44 P :: o45 P :: o46 P :: o47 P :: o48 P :: o49 P :: zt P :: zf P :: o52 P :: o53 P :: zt P :: o55 P :: o56 P :: o57 P :: o58 P :: o59 P :: o60 P :: o61 P :: zt P :: zf P :: o64 P :: o65 P :: zt P :: o67 P :: o68v1 P :: o69 P :: o70 P :: o71 P :: o72 P :: o73 P :: zt P :: zf P :: o76 P :: o77 P :: zt P :: o79 P :: o80 P :: o81 P :: o82 P :: o83 P :: o84 P :: o85 P :: zt P :: zf P :: o88 P :: o89 P :: zt P :: o91 P :: o92 P :: o93 P :: o94 P :: o95 P :: o96 P :: o97 P :: zt P :: zf P :: o100 P :: o101 P :: zt P :: o103 P :: o104 P :: o105 P :: o106 P :: o107 P :: o108 P :: o109 P :: zt P :: zf P :: o112 P :: o113 P :: zt P :: o115 P :: o116 P :: o117 P :: o118 P :: o119 P :: o120 P :: o121 P :: zt P :: zf P :: o124 P :: o125 P :: zt P :: o127 P :: o128 P :: o129 P :: o130 P :: zt P :: zf P :: o133 P :: zt P :: o135 P :: o136 P :: o137 P :: zt P :: zf P :: o140 P :: zt P :: o142 P :: o143 P :: o144 P :: zt P :: o146 P :: o147 P :: zt P :: o149 P :: o150 P :: o151 P :: zt P :: zf P :: o154 P :: zt P :: o156 P :: o157 P :: o158 P :: zt P :: zf P :: o161 P :: zt P :: o163 P :: o164 P :: o165 P :: zt P :: zf P :: o168 P :: zt P :: o170 P :: o171 P :: o172 P :: zt P :: zf P :: o175 P :: zt P :: o177 P :: o178 P :: o179 P :: zt P :: zf P :: o182 P :: zt P :: o184 P :: o185 P :: o186 P :: o187 P :: o188 P :: o189 P :: o190 P :: o191 P :: o192 P :: o193 P :: zt P :: zf P :: o196 P :: zt P :: o198 P :: o199 P :: o200 P :: zt P :: o202 P :: o203 P :: zt P :: o205 P :: o206 P :: o207 P :: zt P :: zf P :: o210 P :: zt P :: o212 P :: o213 P :: o214 P :: zt P :: zf P :: o217 P :: zt P :: o219 P :: o220 P :: o221 P :: zt P :: zf P :: o224 P :: zt P :: o226 P :: o227 P :: o228 P :: zt P :: zf P :: o231 P :: zt P :: o233 P :: o234 P :: o235 P :: zt P :: zf P :: o238 P :: zt P :: o240 P :: o241 P :: o242 P :: o243 P :: o244 P :: o245 P :: o246 P :: o247 P :: o248 P :: o249 P :: zt P :: o251 P :: o252 P :: zt P :: o254 P :: o255 P :: o256 P :: zt P :: zf P :: o259 P :: zt P :: o261 P :: o262 P :: o263 P :: zt P :: zf P :: o266 P :: zt P :: o268 P :: o269 P :: o270 P :: zt P :: zf P :: o273 P :: zt P :: o275 P :: o276 P :: o277 P :: o278 P :: o279 P :: o280 P :: o281 P :: o282 P :: o283 P :: o284 P :: zt P :: o286 P :: o287 P :: zt P :: o289 P :: o290 P :: o291 P :: zt P :: zf P :: o294 P :: zt P :: o296 P :: o297 P :: o298 P :: zt P :: zf P :: o301 P :: zt P :: o303 P :: o304 P :: o305 P :: zt P :: zf P :: o308 P :: zt P :: o310 P :: o311 P :: o312 P :: zt P :: zf P :: o315 P :: zt P :: o317 P :: o318 P :: o319 P :: o320 P :: o321 P :: o322 P :: o323 P :: o324 P :: o325 P :: o326 P :: zt P :: o328 P :: o329 P :: zt P :: o331 P :: o332 P :: o333 P :: zt P :: zf P :: o336 P :: zt P :: o338 P :: o339 P :: o340 P :: zt P :: zf P :: o343 P :: zt P :: o345 P :: o346 P :: o347 P :: zt P :: zf P :: o350 P :: zt P :: o352 P :: o353 P :: o354 P :: zt P :: zf P :: o357 P :: zt P :: o359 P :: o360 P :: o361 P :: zt P :: zf P :: o364 P :: zt P :: o366 P :: o367 P :: o368 P :: zt P :: zf P :: o371 P :: zt P :: o373 P :: o374 P :: o375 P :: zt P :: zf P :: o378 P :: zt P :: o380 P :: o381 P :: o382 P :: zt P :: zf P :: o385 P :: zt P :: o387 P :: o388 P :: o389 P :: zt P :: zf P :: o392 P :: zt P :: o394 P :: o395 P :: o396 P :: zt P :: zf P :: o399 P :: zt P :: o401 P :: o402 P :: o403 P :: zt P :: zf P :: o406 P :: zt P :: o408 P :: o409 P :: o410 P :: zt P :: zf P :: o413 P :: zt P :: o415 P :: o416 P :: o417 P :: zt P :: zf P :: o420 P :: zt P :: o422 P :: o423 P :: o424 P :: o425 P :: o426 P :: o427 P :: o428 P :: o429 P :: o430 P :: o431 P :: zt P :: o433 P :: o434 P :: zt P :: o436 P :: o437 P :: o438 P :: zt P :: zf P :: o441 P :: zt P :: o443 P :: o444 P :: o445 P :: zt P :: zf P :: o448 P :: zt P :: o450 P :: o451 P :: o452 P :: zt P :: zf P :: o455 P :: zt P :: o457 P :: o458 P :: o459 P :: zt P :: zf P :: o462 P :: zt P :: o464 P :: o465 P :: o466 P :: zt P :: zf P :: o469 P :: zt P :: o471 P :: o472 P :: o473 P :: zt P :: zf P :: o476 P :: zt P :: o478 P :: o479 P :: o480 P :: zt P :: zf P :: o483 P :: zt P :: o485 P :: o486 P :: o487 P :: zt P :: zf P :: o490 P :: zt P :: o492 P :: o493 P :: o494 P :: zt P :: zf P :: o497 P :: zt P :: o499 P :: o500 P :: o501 P :: zt P :: zf P :: o504 P :: zt P :: o506 P :: o507 P :: o508 P :: o509 P :: o510 P :: o511 P :: o512 P :: o513 P :: o514 P :: o515 P :: zt P :: o517 P :: o518 P :: zt P :: o520 P :: o521 P :: o522 P :: zt P :: zf P :: o525 P :: zt P :: o527 P :: o528 P :: o529 P :: zt P :: zf P :: o532 P :: zt P :: o534 P :: o535 P :: o536 P :: zt P :: zf P :: o539 P :: zt P :: o541 P :: o542 P :: o543 P :: zt P :: zf P :: o546 P :: zt P :: o548 P :: o549 P :: o550 P :: zt P :: zf P :: o553 P :: zt P :: o555 P :: o556 P :: o557 P :: zt P :: zf P :: o560 P :: zt P :: o562 P :: o563 P :: o564 P :: zt P :: zf P :: o567 P :: zt P :: o569 P :: o570 P :: o571 P :: zt P :: zf P :: o574 P :: zt P :: o576 P :: o577 P :: o578 P :: zt P :: zf P :: o581 P :: zt P :: o583 P :: o584 P :: o585 P :: zt P :: zf P :: o588 P :: zt P :: o590 P :: o591 P :: o592 P :: zt P :: zf P :: o595 P :: zt P :: o597 P :: o598 P :: o599 P :: zt P :: zf P :: o602 P :: zt P :: o604 P :: o605 P :: o606 P :: zt P :: zf P :: o609 P :: zt P :: o611 P :: o612 P :: o613 P :: zt P :: zf P :: o616 P :: zt P :: o618 P :: o619 P :: o620 P :: zt P :: zf P :: o623 P :: zt P :: o625 P :: o626 P :: o627 P :: zt P :: zf P :: o630 P :: zt P :: o632 P :: o633 P :: o634 P :: zt P :: zf P :: o637 P :: zt P :: o639 P :: o640 P :: o641 P :: zt P :: zf P :: o644 P :: zt P :: o646 P :: o647 P :: o648 P :: zt P :: zf P :: o651 P :: zt P :: o653 P :: o654 P :: o655 P :: zt P :: zf P :: o658 P :: zt P :: o660 P :: o661 P :: o662 P :: zt P :: zf P :: o665 P :: zt P :: o667 P :: o668 P :: o669 P :: zt P :: zf P :: o672 P :: zt P :: o674 P :: o675 P :: o676 P :: zt P :: zf P :: o679 P :: zt P :: o681 P :: o682 P :: o683 P :: zt P :: zf P :: o686 P :: zt P :: o688 P :: o689 P :: o690 P :: zt P :: zf P :: o693 P :: zt P :: o695 P :: o696 P :: o697 P :: zt P :: zf P :: o700 P :: zt P :: o702 P :: o703 P :: o704 P :: zt P :: zf P :: o707 P :: zt P :: o709 P :: o710 P :: o711 P :: zt P :: zf P :: o714 P :: zt P :: o716 P :: o717 P :: o718 P :: o719 P :: o720 P :: o721 P :: o722 P :: o723 P :: o724 P :: o725 P :: zt P :: zf P :: o728 P :: zt P :: o730 P :: o731 P :: o732 P :: zt P :: zf P :: o735 P :: zt P :: o737 P :: o738 P :: o739 P :: zt P :: zf P :: o742 P :: o743 P :: o744 P :: zt P :: zf P :: o747 P :: zt P :: o749 P :: o750 P :: o751 P :: zt P :: zf P :: o754 P :: zt P :: o756 P :: o757 P :: o758 P :: zt P :: zf P :: o761 P :: zt P :: o763 P :: o764 P :: o765 P :: zt P :: zf P :: o768 P :: o769 P :: o770 P :: zt P :: zf P :: o773 P :: zt P :: o775 P :: o776 P :: o777 P :: zt P :: zf P :: o780 P :: o781 P :: o782 P :: zt P :: zf P :: o785 P :: o786 P :: o787 P :: zt P :: zf P :: o790 P :: o791 P :: o792 P :: []⟩, {}⟩
theorem pre_ (w : World) (os : OsState) : topGo treeTable rp w 11 an 12 ⟨boot_heap w.params, #[], boot_drawn, boot_toks, os⟩ (topStub rp) = some (⟨h0 w.params, #[], {}, 187, os⟩, ⟨denote treeTable cd, cd, ⟨0, 0, 0, 0⟩, B0⟩) := by
  rw [PySem.W.Fast.te15667345088766844465, PySem.W.Fast.te11892475500146522536, PySem.W.Fast.te14364793385576792824]; kernel_rfl
theorem blk_ (w : World) (os : OsState) : segRun treeTable rp w 11 an 1 1 ⟨h0 w.params, #[], {}, 187, os⟩ (blockOf (behindTheImports rp) en cd ⟨0, 0, 0, 0⟩ B0) = some (.next, (SE T0 15 187 w os).abs, cd, ⟨0, 0, 0, 0⟩) := by kernel_rfl
theorem fin_ (w : World) (os : OsState) : topRun treeTable rp w 11 an 2 (SE T10 793 1239 w os).abs ⟨doneF .next, cd, ⟨542, 0, 567, 89⟩, B0⟩ = some ⟨hp w.params, #[], {}, 1239, os⟩ := by
  rw [PySem.W.Fast.te14082659384304107361, PySem.W.Fast.te14364793385576792824]; kernel_rfl
theorem bd_ : behindTheImports rp = sl 0 5 ++ (sl 5 3 ++ (sl 8 5 ++ (sl 13 8 ++ (sl 21 2 ++ (sl 23 2 ++ (sl 25 1 ++ (sl 26 1 ++ (sl 27 1 ++ (sl 28 12 ++ []))))))))) := by kernel_rfl
theorem run_ (w : World) (os : OsState) : topRun treeTable rp w 11 an (12 + (1 + (675 + (668 + (700 + (485 + (644 + (331 + (618 + (516 + (1105 + (354 + 2)))))))))))) ⟨boot_heap w.params, #[], boot_drawn, boot_toks, os⟩ (topStub rp) = some ⟨hp w.params, #[], {}, 1239, os⟩ :=
  go_top (pre_ w os) (piece_block (blk_ w os) (by rw [bd_]; exact (piece_app (segRun_of (g1 w os)) (piece_app (segRun_of (g2 w os)) (piece_app (segRun_of (g3 w os)) (piece_app (segRun_of (g4 w os)) (piece_app (segRun_of (g5 w os)) (piece_app (segRun_of (g6 w os)) (piece_app (segRun_of (g7 w os)) (piece_app (segRun_of (g8 w os)) (piece_app (segRun_of (g9 w os)) (piece_app (segRun_of (g10 w os)) (piece_nil (fin_ w os))))))))))))))
noncomputable def vw : Program := view rp [0, 2, 3, 4, 5, 6, 7, 8, 9, 10, 12, 13, 15, 16, 17, 18, 19, 20, 21, 22, 23, 25, 26, 27, 29, 30, 31, 32, 33, 34, 35, 36, 37, 38, 39]
noncomputable def KK (P : Params) : Frag := (nat_lit 2, o2 P) :: (nat_lit 3, o3v9 P) :: (nat_lit 15, zt P) :: (nat_lit 17, o17 P) :: (nat_lit 18, zt P) :: (nat_lit 20, o20 P) :: (nat_lit 21, o21 P) :: (nat_lit 22, o22 P) :: (nat_lit 29, zt P) :: (nat_lit 30, o30 P) :: (nat_lit 31, o31v1 P) :: (nat_lit 32, o32 P) :: (nat_lit 35, o35 P) :: (nat_lit 42, zt P) :: (nat_lit 43, o43 P) :: (nat_lit 44, o44 P) :: (nat_lit 47, o47 P) :: (nat_lit 54, zt P) :: (nat_lit 55, o55 P) :: (nat_lit 56, o56 P) :: (nat_lit 59, o59 P) :: (nat_lit 66, zt P) :: (nat_lit 67, o67 P) :: (nat_lit 68, o68v1 P) :: (nat_lit 71, o71 P) :: (nat_lit 78, zt P) :: (nat_lit 79, o79 P) :: (nat_lit 80, o80 P) :: (nat_lit 83, o83 P) :: (nat_lit 90, zt P) :: (nat_lit 91, o91 P) :: (nat_lit 92, o92 P) :: (nat_lit 95, o95 P) :: (nat_lit 102, zt P) :: (nat_lit 103, o103 P) :: (nat_lit 104, o104 P) :: (nat_lit 107, o107 P) :: (nat_lit 114, zt P) :: (nat_lit 115, o115 P) :: (nat_lit 116, o116 P) :: (nat_lit 119, o119 P) :: (nat_lit 126, zt P) :: (nat_lit 127, o127 P) :: (nat_lit 128, o128 P) :: (nat_lit 131, zt P) :: (nat_lit 133, o133 P) :: (nat_lit 134, zt P) :: (nat_lit 136, o136 P) :: (nat_lit 137, o137 P) :: (nat_lit 138, zt P) :: (nat_lit 140, o140 P) :: (nat_lit 141, zt P) :: (nat_lit 143, o143 P) :: (nat_lit 144, o144 P) :: (nat_lit 152, zt P) :: (nat_lit 154, o154 P) :: (nat_lit 155, zt P) :: (nat_lit 157, o157 P) :: (nat_lit 158, o158 P) :: (nat_lit 159, zt P) :: (nat_lit 161, o161 P) :: (nat_lit 162, zt P) :: (nat_lit 164, o164 P) :: (nat_lit 165, o165 P) :: (nat_lit 166, zt P) :: (nat_lit 168, o168 P) :: (nat_lit 169, zt P) :: (nat_lit 171, o171 P) :: (nat_lit 172, o172 P) :: (nat_lit 173, zt P) :: (nat_lit 175, o175 P) :: (nat_lit 176, zt P) :: (nat_lit 178, o178 P) :: (nat_lit 179, o179 P) :: (nat_lit 180, zt P) :: (nat_lit 182, o182 P) :: (nat_lit 183, zt P) :: (nat_lit 185, o185 P) :: (nat_lit 186, o186 P) :: (nat_lit 187, o187 P) :: (nat_lit 188, o188 P) :: (nat_lit 189, o189 P) :: (nat_lit 190, o190 P) :: (nat_lit 191, o191 P) :: (nat_lit 194, zt P) :: (nat_lit 196, o196 P) :: (nat_lit 197, zt P) :: (nat_lit 199, o199 P) :: (nat_lit 200, o200 P) :: (nat_lit 208, zt P) :: (nat_lit 210, o210 P) :: (nat_lit 211, zt P) :: (nat_lit 213, o213 P) :: (nat_lit 214, o214 P) :: (nat_lit 215, zt P) :: (nat_lit 217, o217 P) :: (nat_lit 218, zt P) :: (nat_lit 220, o220 P) :: (nat_lit 221, o221 P) :: (nat_lit 222, zt P) :: (nat_lit 224, o224 P) :: (nat_lit 225, zt P) :: (nat_lit 227, o227 P) :: (nat_lit 228, o228 P) :: (nat_lit 229, zt P) :: (nat_lit 231, o231 P) :: (nat_lit 232, zt P) :: (nat_lit 234, o234 P) :: (nat_lit 235, o235 P) :: (nat_lit 236, zt P) :: (nat_lit 238, o238 P) :: (nat_lit 239, zt P) :: (nat_lit 241, o241 P) :: (nat_lit 242, o242 P) :: (nat_lit 243, o243 P) :: (nat_lit 244, o244 P) :: (nat_lit 245, o245 P) :: (nat_lit 246, o246 P) :: (nat_lit 247, o247 P) :: (nat_lit 257, zt P) :: (nat_lit 259, o259 P) :: (nat_lit 260, zt P) :: (nat_lit 262, o262 P) :: (nat_lit 263, o263 P) :: (nat_lit 264, zt P) :: (nat_lit 266, o266 P) :: (nat_lit 267, zt P) :: (nat_lit 269, o269 P) :: (nat_lit 270, o270 P) :: (nat_lit 271, zt P) :: (nat_lit 273, o273 P) :: (nat_lit 274, zt P) :: (nat_lit 276, o276 P) :: (nat_lit 277, o277 P) :: (nat_lit 278, o278 P) :: (nat_lit 279, o279 P) :: (nat_lit 280, o280 P) :: (nat_lit 281, o281 P) :: (nat_lit 282, o282 P) :: (nat_lit 292, zt P) :: (nat_lit 294, o294 P) :: (nat_lit 295, zt P) :: (nat_lit 297, o297 P) :: (nat_lit 298, o298 P) :: (nat_lit 299, zt P) :: (nat_lit 301, o301 P) :: (nat_lit 302, zt P) :: (nat_lit 304, o304 P) :: (nat_lit 305, o305 P) :: (nat_lit 306, zt P) :: (nat_lit 308, o308 P) :: (nat_lit 309, zt P) :: (nat_lit 311, o311 P) :: (nat_lit 312, o312 P) :: (nat_lit 313, zt P) :: (nat_lit 315, o315 P) :: (nat_lit 316, zt P) :: (nat_lit 318, o318 P) :: (nat_lit 319, o319 P) :: (nat_lit 320, o320 P) :: (nat_lit 321, o321 P) :: (nat_lit 322, o322 P) :: (nat_lit 323, o323 P) :: (nat_lit 324, o324 P) :: (nat_lit 334, zt P) :: (nat_lit 336, o336 P) :: (nat_lit 337, zt P) :: (nat_lit 339, o339 P) :: (nat_lit 340, o340 P) :: (nat_lit 341, zt P) :: (nat_lit 343, o343 P) :: (nat_lit 344, zt P) :: (nat_lit 346, o346 P) :: (nat_lit 347, o347 P) :: (nat_lit 348, zt P) :: (nat_lit 350, o350 P) :: (nat_lit 351, zt P) :: (nat_lit 353, o353 P) :: (nat_lit 354, o354 P) :: (nat_lit 355, zt P) :: (nat_lit 357, o357 P) :: (nat_lit 358, zt P) :: (nat_lit 360, o360 P) :: (nat_lit 361, o361 P) :: (nat_lit 362, zt P) :: (nat_lit 364, o364 P) :: (nat_lit 365, zt P) :: (nat_lit 367, o367 P) :: (nat_lit 368, o368 P) :: (nat_lit 369, zt P) :: (nat_lit 371, o371 P) :: (nat_lit 372, zt P) :: (nat_lit 374, o374 P) :: (nat_lit 375, o375 P) :: (nat_lit 376, zt P) :: (nat_lit 378, o378 P) :: (nat_lit 379, zt P) :: (nat_lit 381, o381 P) :: (nat_lit 382, o382 P) :: (nat_lit 383, zt P) :: (nat_lit 385, o385 P) :: (nat_lit 386, zt P) :: (nat_lit 388, o388 P) :: (nat_lit 389, o389 P) :: (nat_lit 390, zt P) :: (nat_lit 392, o392 P) :: (nat_lit 393, zt P) :: (nat_lit 395, o395 P) :: (nat_lit 396, o396 P) :: (nat_lit 397, zt P) :: (nat_lit 399, o399 P) :: (nat_lit 400, zt P) :: (nat_lit 402, o402 P) :: (nat_lit 403, o403 P) :: (nat_lit 404, zt P) :: (nat_lit 406, o406 P) :: (nat_lit 407, zt P) :: (nat_lit 409, o409 P) :: (nat_lit 410, o410 P) :: (nat_lit 411, zt P) :: (nat_lit 413, o413 P) :: (nat_lit 414, zt P) :: (nat_lit 416, o416 P) :: (nat_lit 417, o417 P) :: (nat_lit 418, zt P) :: (nat_lit 420, o420 P) :: (nat_lit 421, zt P) :: (nat_lit 423, o423 P) :: (nat_lit 424, o424 P) :: (nat_lit 425, o425 P) :: (nat_lit 426, o426 P) :: (nat_lit 427, o427 P) :: (nat_lit 428, o428 P) :: (nat_lit 429, o429 P) :: (nat_lit 439, zt P) :: (nat_lit 441, o441 P) :: (nat_lit 442, zt P) :: (nat_lit 444, o444 P) :: (nat_lit 445, o445 P) :: (nat_lit 446, zt P) :: (nat_lit 448, o448 P) :: (nat_lit 449, zt P) :: (nat_lit 451, o451 P) :: (nat_lit 452, o452 P) :: (nat_lit 453, zt P) :: (nat_lit 455, o455 P) :: (nat_lit 456, zt P) :: (nat_lit 458, o458 P) :: (nat_lit 459, o459 P) :: (nat_lit 460, zt P) :: (nat_lit 462, o462 P) :: (nat_lit 463, zt P) :: (nat_lit 465, o465 P) :: (nat_lit 466, o466 P) :: (nat_lit 467, zt P) :: (nat_lit 469, o469 P) :: (nat_lit 470, zt P) :: (nat_lit 472, o472 P) :: (nat_lit 473, o473 P) :: (nat_lit 474, zt P) :: (nat_lit 476, o476 P) :: (nat_lit 477, zt P) :: (nat_lit 479, o479 P) :: (nat_lit 480, o480 P) :: (nat_lit 481, zt P) :: (nat_lit 483, o483 P) :: (nat_lit 484, zt P) :: (nat_lit 486, o486 P) :: (nat_lit 487, o487 P) :: (nat_lit 488, zt P) :: (nat_lit 490, o490 P) :: (nat_lit 491, zt P) :: (nat_lit 493, o493 P) :: (nat_lit 494, o494 P) :: (nat_lit 495, zt P) :: (nat_lit 497, o497 P) :: (nat_lit 498, zt P) :: (nat_lit 500, o500 P) :: (nat_lit 501, o501 P) :: (nat_lit 502, zt P) :: (nat_lit 504, o504 P) :: (nat_lit 505, zt P) :: (nat_lit 507, o507 P) :: (nat_lit 508, o508 P) :: (nat_lit 509, o509 P) :: (nat_lit 510, o510 P) :: (nat_lit 511, o511 P) :: (nat_lit 512, o512 P) :: (nat_lit 513, o513 P) :: (nat_lit 523, zt P) :: (nat_lit 525, o525 P) :: (nat_lit 526, zt P) :: (nat_lit 528, o528 P) :: (nat_lit 529, o529 P) :: (nat_lit 530, zt P) :: (nat_lit 532, o532 P) :: (nat_lit 533, zt P) :: (nat_lit 535, o535 P) :: (nat_lit 536, o536 P) :: (nat_lit 537, zt P) :: (nat_lit 539, o539 P) :: (nat_lit 540, zt P) :: (nat_lit 542, o542 P) :: (nat_lit 543, o543 P) :: (nat_lit 544, zt P) :: (nat_lit 546, o546 P) :: (nat_lit 547, zt P) :: (nat_lit 549, o549 P) :: (nat_lit 550, o550 P) :: (nat_lit 551, zt P) :: (nat_lit 553, o553 P) :: (nat_lit 554, zt P) :: (nat_lit 556, o556 P) :: (nat_lit 557, o557 P) :: (nat_lit 558, zt P) :: (nat_lit 560, o560 P) :: (nat_lit 561, zt P) :: (nat_lit 563, o563 P) :: (nat_lit 564, o564 P) :: (nat_lit 565, zt P) :: (nat_lit 567, o567 P) :: (nat_lit 568, zt P) :: (nat_lit 570, o570 P) :: (nat_lit 571, o571 P) :: (nat_lit 572, zt P) :: (nat_lit 574, o574 P) :: (nat_lit 575, zt P) :: (nat_lit 577, o577 P) :: (nat_lit 578, o578 P) :: (nat_lit 579, zt P) :: (nat_lit 581, o581 P) :: (nat_lit 582, zt P) :: (nat_lit 584, o584 P) :: (nat_lit 585, o585 P) :: (nat_lit 586, zt P) :: (nat_lit 588, o588 P) :: (nat_lit 589, zt P) :: (nat_lit 591, o591 P) :: (nat_lit 592, o592 P) :: (nat_lit 593, zt P) :: (nat_lit 595, o595 P) :: (nat_lit 596, zt P) :: (nat_lit 598, o598 P) :: (nat_lit 599, o599 P) :: (nat_lit 600, zt P) :: (nat_lit 602, o602 P) :: (nat_lit 603, zt P) :: (nat_lit 605, o605 P) :: (nat_lit 606, o606 P) :: (nat_lit 607, zt P) :: (nat_lit 609, o609 P) :: (nat_lit 610, zt P) :: (nat_lit 612, o612 P) :: (nat_lit 613, o613 P) :: (nat_lit 614, zt P) :: (nat_lit 616, o616 P) :: (nat_lit 617, zt P) :: (nat_lit 619, o619 P) :: (nat_lit 620, o620 P) :: (nat_lit 621, zt P) :: (nat_lit 623, o623 P) :: (nat_lit 624, zt P) :: (nat_lit 626, o626 P) :: (nat_lit 627, o627 P) :: (nat_lit 628, zt P) :: (nat_lit 630, o630 P) :: (nat_lit 631, zt P) :: (nat_lit 633, o633 P) :: (nat_lit 634, o634 P) :: (nat_lit 635, zt P) :: (nat_lit 637, o637 P) :: (nat_lit 638, zt P) :: (nat_lit 640, o640 P) :: (nat_lit 641, o641 P) :: (nat_lit 642, zt P) :: (nat_lit 644, o644 P) :: (nat_lit 645, zt P) :: (nat_lit 647, o647 P) :: (nat_lit 648, o648 P) :: (nat_lit 649, zt P) :: (nat_lit 651, o651 P) :: (nat_lit 652, zt P) :: (nat_lit 654, o654 P) :: (nat_lit 655, o655 P) :: (nat_lit 656, zt P) :: (nat_lit 658, o658 P) :: (nat_lit 659, zt P) :: (nat_lit 661, o661 P) :: (nat_lit 662, o662 P) :: (nat_lit 663, zt P) :: (nat_lit 665, o665 P) :: (nat_lit 666, zt P) :: (nat_lit 668, o668 P) :: (nat_lit 669, o669 P) :: (nat_lit 670, zt P) :: (nat_lit 672, o672 P) :: (nat_lit 673, zt P) :: (nat_lit 675, o675 P) :: (nat_lit 676, o676 P) :: (nat_lit 677, zt P) :: (nat_lit 679, o679 P) :: (nat_lit 680, zt P) :: (nat_lit 682, o682 P) :: (nat_lit 683, o683 P) :: (nat_lit 684, zt P) :: (nat_lit 686, o686 P) :: (nat_lit 687, zt P) :: (nat_lit 689, o689 P) :: (nat_lit 690, o690 P) :: (nat_lit 691, zt P) :: (nat_lit 693, o693 P) :: (nat_lit 694, zt P) :: (nat_lit 696, o696 P) :: (nat_lit 697, o697 P) :: (nat_lit 698, zt P) :: (nat_lit 700, o700 P) :: (nat_lit 701, zt P) :: (nat_lit 703, o703 P) :: (nat_lit 704, o704 P) :: (nat_lit 705, zt P) :: (nat_lit 707, o707 P) :: (nat_lit 708, zt P) :: (nat_lit 710, o710 P) :: (nat_lit 711, o711 P) :: (nat_lit 712, zt P) :: (nat_lit 714, o714 P) :: (nat_lit 715, zt P) :: (nat_lit 717, o717 P) :: (nat_lit 718, o718 P) :: (nat_lit 719, o719 P) :: (nat_lit 720, o720 P) :: (nat_lit 721, o721 P) :: (nat_lit 722, o722 P) :: (nat_lit 723, o723 P) :: (nat_lit 726, zt P) :: (nat_lit 728, o728 P) :: (nat_lit 729, zt P) :: (nat_lit 731, o731 P) :: (nat_lit 732, o732 P) :: (nat_lit 733, zt P) :: (nat_lit 735, o735 P) :: (nat_lit 736, zt P) :: (nat_lit 738, o738 P) :: (nat_lit 739, o739 P) :: (nat_lit 740, zt P) :: (nat_lit 743, o743 P) :: (nat_lit 744, o744 P) :: (nat_lit 745, zt P) :: (nat_lit 747, o747 P) :: (nat_lit 748, zt P) :: (nat_lit 750, o750 P) :: (nat_lit 751, o751 P) :: (nat_lit 752, zt P) :: (nat_lit 754, o754 P) :: (nat_lit 755, zt P) :: (nat_lit 757, o757 P) :: (nat_lit 758, o758 P) :: (nat_lit 759, zt P) :: (nat_lit 761, o761 P) :: (nat_lit 762, zt P) :: (nat_lit 764, o764 P) :: (nat_lit 765, o765 P) :: (nat_lit 766, zt P) :: (nat_lit 769, o769 P) :: (nat_lit 770, o770 P) :: (nat_lit 771, zt P) :: (nat_lit 773, o773 P) :: (nat_lit 774, zt P) :: (nat_lit 776, o776 P) :: (nat_lit 777, o777 P) :: (nat_lit 778, zt P) :: (nat_lit 781, o781 P) :: (nat_lit 782, o782 P) :: (nat_lit 783, zt P) :: (nat_lit 786, o786 P) :: (nat_lit 787, o787 P) :: (nat_lit 788, zt P) :: (nat_lit 791, o791 P) :: (nat_lit 792, o792 P) :: []
noncomputable def as_ : List Addr := 2 :: 3 :: 15 :: 17 :: 18 :: 20 :: 21 :: 22 :: 29 :: 30 :: 31 :: 32 :: 35 :: 42 :: 43 :: 44 :: 47 :: 54 :: 55 :: 56 :: 59 :: 66 :: 67 :: 68 :: 71 :: 78 :: 79 :: 80 :: 83 :: 90 :: 91 :: 92 :: 95 :: 102 :: 103 :: 104 :: 107 :: 114 :: 115 :: 116 :: 119 :: 126 :: 127 :: 128 :: 131 :: 133 :: 134 :: 136 :: 137 :: 138 :: 140 :: 141 :: 143 :: 144 :: 152 :: 154 :: 155 :: 157 :: 158 :: 159 :: 161 :: 162 :: 164 :: 165 :: 166 :: 168 :: 169 :: 171 :: 172 :: 173 :: 175 :: 176 :: 178 :: 179 :: 180 :: 182 :: 183 :: 185 :: 186 :: 187 :: 188 :: 189 :: 190 :: 191 :: 194 :: 196 :: 197 :: 199 :: 200 :: 208 :: 210 :: 211 :: 213 :: 214 :: 215 :: 217 :: 218 :: 220 :: 221 :: 222 :: 224 :: 225 :: 227 :: 228 :: 229 :: 231 :: 232 :: 234 :: 235 :: 236 :: 238 :: 239 :: 241 :: 242 :: 243 :: 244 :: 245 :: 246 :: 247 :: 257 :: 259 :: 260 :: 262 :: 263 :: 264 :: 266 :: 267 :: 269 :: 270 :: 271 :: 273 :: 274 :: 276 :: 277 :: 278 :: 279 :: 280 :: 281 :: 282 :: 292 :: 294 :: 295 :: 297 :: 298 :: 299 :: 301 :: 302 :: 304 :: 305 :: 306 :: 308 :: 309 :: 311 :: 312 :: 313 :: 315 :: 316 :: 318 :: 319 :: 320 :: 321 :: 322 :: 323 :: 324 :: 334 :: 336 :: 337 :: 339 :: 340 :: 341 :: 343 :: 344 :: 346 :: 347 :: 348 :: 350 :: 351 :: 353 :: 354 :: 355 :: 357 :: 358 :: 360 :: 361 :: 362 :: 364 :: 365 :: 367 :: 368 :: 369 :: 371 :: 372 :: 374 :: 375 :: 376 :: 378 :: 379 :: 381 :: 382 :: 383 :: 385 :: 386 :: 388 :: 389 :: 390 :: 392 :: 393 :: 395 :: 396 :: 397 :: 399 :: 400 :: 402 :: 403 :: 404 :: 406 :: 407 :: 409 :: 410 :: 411 :: 413 :: 414 :: 416 :: 417 :: 418 :: 420 :: 421 :: 423 :: 424 :: 425 :: 426 :: 427 :: 428 :: 429 :: 439 :: 441 :: 442 :: 444 :: 445 :: 446 :: 448 :: 449 :: 451 :: 452 :: 453 :: 455 :: 456 :: 458 :: 459 :: 460 :: 462 :: 463 :: 465 :: 466 :: 467 :: 469 :: 470 :: 472 :: 473 :: 474 :: 476 :: 477 :: 479 :: 480 :: 481 :: 483 :: 484 :: 486 :: 487 :: 488 :: 490 :: 491 :: 493 :: 494 :: 495 :: 497 :: 498 :: 500 :: 501 :: 502 :: 504 :: 505 :: 507 :: 508 :: 509 :: 510 :: 511 :: 512 :: 513 :: 523 :: 525 :: 526 :: 528 :: 529 :: 530 :: 532 :: 533 :: 535 :: 536 :: 537 :: 539 :: 540 :: 542 :: 543 :: 544 :: 546 :: 547 :: 549 :: 550 :: 551 :: 553 :: 554 :: 556 :: 557 :: 558 :: 560 :: 561 :: 563 :: 564 :: 565 :: 567 :: 568 :: 570 :: 571 :: 572 :: 574 :: 575 :: 577 :: 578 :: 579 :: 581 :: 582 :: 584 :: 585 :: 586 :: 588 :: 589 :: 591 :: 592 :: 593 :: 595 :: 596 :: 598 :: 599 :: 600 :: 602 :: 603 :: 605 :: 606 :: 607 :: 609 :: 610 :: 612 :: 613 :: 614 :: 616 :: 617 :: 619 :: 620 :: 621 :: 623 :: 624 :: 626 :: 627 :: 628 :: 630 :: 631 :: 633 :: 634 :: 635 :: 637 :: 638 :: 640 :: 641 :: 642 :: 644 :: 645 :: 647 :: 648 :: 649 :: 651 :: 652 :: 654 :: 655 :: 656 :: 658 :: 659 :: 661 :: 662 :: 663 :: 665 :: 666 :: 668 :: 669 :: 670 :: 672 :: 673 :: 675 :: 676 :: 677 :: 679 :: 680 :: 682 :: 683 :: 684 :: 686 :: 687 :: 689 :: 690 :: 691 :: 693 :: 694 :: 696 :: 697 :: 698 :: 700 :: 701 :: 703 :: 704 :: 705 :: 707 :: 708 :: 710 :: 711 :: 712 :: 714 :: 715 :: 717 :: 718 :: 719 :: 720 :: 721 :: 722 :: 723 :: 726 :: 728 :: 729 :: 731 :: 732 :: 733 :: 735 :: 736 :: 738 :: 739 :: 740 :: 743 :: 744 :: 745 :: 747 :: 748 :: 750 :: 751 :: 752 :: 754 :: 755 :: 757 :: 758 :: 759 :: 761 :: 762 :: 764 :: 765 :: 766 :: 769 :: 770 :: 771 :: 773 :: 774 :: 776 :: 777 :: 778 :: 781 :: 782 :: 783 :: 786 :: 787 :: 788 :: 791 :: 792 :: []
theorem as_eq (P : Params) : as_ = (KK P).map (·.1) := by kernel_rfl
noncomputable def hk : Hook := kHook KK as_ as_eq
noncomputable abbrev rr : RowW := PySem.Challenge.rw_nz0371_02.row.toRowW
noncomputable def xt (s : Shared) : Bool := xlAt vw [] s && recOk (RowW.records rr) s
theorem op_ : opening rp = plainProg rp.main.scope.names := by kernel_rfl
theorem fn_ (s : Shared) : fenceModules? rp s = some s := by kernel_rfl
theorem sz_ (w : World) : ((boot_heap w.params).isNs mainGlobals && (#[] : Array GenState).size == 0, (boot_heap w.params).objs.size, (boot_heap w.params).nsMap mainGlobals "__annotations__") = (true, 11, an) := by kernel_rfl
theorem l1_ (w : World) (os : OsState) : (staticsOk (importedModules rp.main.body) (boot_heap w.params) (hp w.params) && namesBound rp (hp w.params) && gensDone ⟨hp w.params, #[], {}, 1239, os⟩ && laidKept (boot_heap w.params) (hp w.params)) = true := by kernel_rfl
theorem l3_ (w : World) (os : OsState) : Hook.obs hk ⟨hp w.params, #[], {}, 1239, os⟩ = Hook.val hk w := by kernel_rfl
theorem l2_ (w : World) (os : OsState) : openSeen vw [] (importedModules rp.main.body) xt true ⟨hp w.params, #[], {}, 1239, os⟩ = openGood vw [] := by kernel_rfl
theorem said_ : OpenLaw.wellSaid PySem.Challenge.rw_nz0371_02 = true := by kernel_rfl
theorem left_ : LeftO rp vw [] xt (Hook.obs hk) (Hook.val hk) 12298 :=
  LeftO.of_pieces (boot_open op_ (by rfl) fn_) sz_ run_ (by rfl) fun w => funext fun os => Prod.ext (l1_ w os) (Prod.ext (l2_ w os) (l3_ w os))
end Rk
end

end
theorem Rk.fillK : PySem.Challenge.rw_nz0371_02 = PySem.Challenge.rw_nz0371_02 ∧ KK = KK := by k_fill; exact ⟨rfl, rfl⟩
section
namespace Rk
noncomputable def Free2 (h : Heap) (e : Addr) : Prop := ∃ o vs, h.get? e = some o ∧ o.data = .fields vs ∧ vs[2]? = some .none
theorem Free2.keep {h h' : Heap} {e : Addr} (k : ∀ o, h.get? e = some o → h'.get? e = some o) (x : Free2 h e) : Free2 h' e :=
  let ⟨o, vs, a, b, d⟩ := x; ⟨o, vs, k o a, b, d⟩
section
variable {prog : Program} {w : World} {A : Around} {E : Value → Shared → Prop} {s : Shared}
end
noncomputable def Pv {α : Type} (I : Heap → Prop) : Sem α → Prop
  | .pure _ => True
  | .raise _ => True
  | .unsupported _ => True
  | .finish _ => True
  | .rule _ k => Pv I (k ())
  | .at _ k => Pv I (k ())
  | .load _ _ k => ∀ o, Pv I (k o)
  | .update a _ f k => (∀ h, I h → I (h.update a f)) ∧ Pv I (k ())
  | .alloc o k => (∀ h, I h → I (h.push o)) ∧ ∀ a, Pv I (k a)
  | .loadIfAlive _ k => ∀ o, Pv I (k o)
  | .point _ k => Pv I (k ())
  | .register _ _ => True
  | .fresh k => ∀ n, Pv I (k n)
  | .ask k => ∀ x, Pv I (k x)
  | .choose _ _ k => ∀ n, Pv I (k n)
  | .os _ _ k => ∀ r, Pv I (k r)
  | .call _ _ _ _ _ => False
  | .handled _ k => ∀ v, Pv I (k v)
  | .newGen _ k => ∀ n, Pv I (k n)
  | .genState _ k => ∀ st, Pv I (k st)
  | .resume _ _ _ _ => False
  | .yield _ _ _ _ => True
  | .stack k => ∀ l, Pv I (k l)
  | .fork _ _ => True
  | .thread k => ∀ n, Pv I (k n)
  | .await _ _ _ _ _ => True
section
variable {α β : Type} {I : Heap → Prop} {M : Model} {A : Around} {E : Value → Shared → Prop} {s : Shared}
theorem pv_wp (Γ : Ctx) {Q : α → Pos → Shared → Prop} {E : Value → Pos → Shared → Prop} (t : Sem α) (v : Pv I t) (p : Pos) (s : Shared) (h : Sem.wp M Γ t Q E p s) (hi : I s.heap) :
    Sem.wp M Γ t (fun a p s => Q a p s ∧ I s.heap) (fun e p s => E e p s ∧ I s.heap) p s := by
  induction t generalizing p s with
  | pure | raise => exact ⟨h, hi⟩
  | unsupported | finish | yield | fork | await | register => exact h
  | rule _ k ih | «at» _ k ih | point _ k ih => exact ih _ v _ _ h hi
  | loadIfAlive _ k ih | fresh k ih | ask k ih | handled _ k ih | newGen _ k ih | stack k ih | thread k ih => exact ih _ (v _) _ _ h hi
  | os _ _ k ih => exact ih _ (v _) _ _ h hi
  | load a _ k ih | genState a k ih => obtain ⟨o, ho, h⟩ := h; exact ⟨o, ho, ih _ (v _) _ _ h hi⟩
  | update a _ f k ih => exact ⟨h.1, ih _ v.2 _ _ h.2 (v.1 _ hi)⟩
  | choose _ _ k ih => exact ⟨h.1, ih _ (v _) _ _ h.2 hi⟩
  | alloc o k ih => exact ih _ (v.2 _) _ _ h (v.1 _ hi)
  | call => exact v.elim
  | resume => exact v.elim
theorem pv_any {t : Sem α} {Q : α → Shared → Prop} (h : wpAny M A t Q E s) (v : Pv I t) (hi : I s.heap) : wpAny M A t (fun a s' => Q a s' ∧ I s'.heap) (fun e s' => E e s' ∧ I s'.heap) s :=
  fun Γ p hΓ => pv_wp Γ t v p s (h Γ p hΓ) hi
theorem pv_bind : ∀ {m : Sem α} {f : α → Sem β}, Pv I m → (∀ a, Pv I (f a)) → Pv I (m >>= f) := fun {m} {f} v k => by
  show Pv I (m.bind f)
  induction m with
  | pure a => exact k a
  | raise | unsupported | finish | register | yield | fork | await => trivial
  | rule _ _ ih | «at» _ _ ih | point _ _ ih => exact ih _ v
  | load _ _ _ ih | loadIfAlive _ _ ih | fresh _ ih | ask _ ih | choose _ _ _ ih | os _ _ _ ih | handled _ _ ih | newGen _ _ ih | genState _ _ ih | stack _ ih | thread _ ih => exact fun x => ih x (v x)
  | update _ _ _ _ ih => exact ⟨v.1, ih _ v.2⟩
  | alloc _ _ ih => exact ⟨v.1, fun x => ih x (v.2 x)⟩
  | call => exact v.elim
  | resume => exact v.elim
theorem pv_load {a : Addr} : Pv I (load a) := fun _ => trivial
end
theorem free2_up {h : Heap} {a e : Addr} {f : Obj → Obj} (k : ∀ o vs, o.data = .fields vs → ∃ ws, (f o).data = .fields ws ∧ ws[2]? = vs[2]?) (x : Free2 h e) : Free2 (h.update a f) e := by
  obtain ⟨o, vs, h1, h2, h3⟩ := x
  by_cases q : a = e
  · subst q
    obtain ⟨ws, k1, k2⟩ := k o vs h2
    exact ⟨f o, ws, Heap.get?_update_self f h1 (Obj.isFreed_of_fields k1), k1, k2.trans h3⟩
  · exact ⟨o, vs, (Heap.get?_update_other h f q).trans h1, h2, h3⟩
theorem free2_push {h : Heap} {e : Addr} (o : Obj) (x : Free2 h e) : Free2 (h.push o) e := x.keep fun _ q => Heap.get?_push_of_some _ q
section
variable {e : Addr}
theorem pv_field {v : Value} {i : Nat} : Pv (Free2 · e) (field v i) := by
  unfold field fieldsOf
  refine pv_bind ?_ fun vs => ?_
  · cases v with
    | ref a =>
      refine pv_bind pv_load fun o => ?_
      split <;> exact trivial
    | _ => exact trivial
  · split <;> exact trivial
theorem pv_setField {v x : Value} {i : Nat} (hi : i ≠ 2) : Pv (Free2 · e) (setField v i x) := by
  unfold setField
  cases v with
  | ref a =>
    show Pv _ (updateField a i x)
    unfold updateField
    refine pv_bind pv_load fun o => ?_
    split
    · split
      · refine ⟨fun h y => free2_up (fun o vs q => ?_) y, trivial⟩
        exact ⟨_, Obj.data_mapFields q _, by rw [Array.getElem?_setIfInBounds_ne hi]⟩
      · exact trivial
    · exact trivial
  | _ => exact trivial
theorem pv_flight {v : Value} {f : Option Addr} : Pv (Free2 · e) (setFlight v f) := by
  unfold setFlight
  refine pv_bind pv_field fun tb => ?_
  split
  · exact pv_setField (by decide)
  · exact trivial
theorem pv_ready : ∀ l : List Env, Pv (Free2 · e) (readyFrames l)
  | [] => trivial
  | env :: outer => by
    unfold readyFrames
    split
    · refine pv_bind pv_load fun o => ?_
      split
      · exact trivial
      · refine pv_bind ?_ fun im => pv_bind ?_ fun bk => pv_bind ?_ fun _ => pv_ready outer
        · unfold behindIsImport
          split
          · exact trivial
          · split
            · exact trivial
            · exact pv_bind pv_field fun _ => trivial
        · unfold keptBack
          split
          · split
            · exact trivial
            · unfold underTheClaimsCaller
              exact pv_bind (pv_bind (fun _ => trivial) fun _ => trivial) fun _ => trivial
          · exact trivial
        · exact ⟨fun h y => free2_up (fun o vs q => ⟨vs, q, rfl⟩) y, trivial⟩
    · exact trivial
theorem pv_frameOf {env : Env} : Pv (Free2 · e) (PySem.frameOf env) := by
  unfold PySem.frameOf frameEnvs
  refine pv_bind (pv_bind (fun _ => trivial) fun _ => trivial) fun l => pv_bind ?_ fun o => ?_
  · unfold frameObject
    split
    · exact trivial
    · exact pv_bind (pv_ready _) fun _ => trivial
  · cases o <;> exact trivial
theorem pv_place {f : Addr} {b : Bool} : Pv (Free2 · e) (entryPlaceOf f b) := by
  unfold entryPlaceOf
  refine pv_bind (fun _ => trivial) fun l => ?_
  split <;> exact trivial
theorem pv_asIs {T : String} {d : Data} {o : Option Addr} : Pv (Free2 · e) (newObjAsIs (.type T) d o) := by
  unfold newObjAsIs
  exact ⟨fun h y => free2_push _ y, fun _ => trivial⟩
theorem pv_entry {a b c d f : Value} {l : List Value} : Pv (Free2 · e) (EntryCells.newEntry a b c d f l) := by
  unfold EntryCells.newEntry newFields newObj
  dsimp only
  generalize (([a, b, c, d, f] ++ if l.isEmpty = true then List.replicate 6 Value.none else l).toArray) = vs
  show Pv _ (if vs.size > sizeLine + 2 then _ else _)
  split
  · exact trivial
  · exact pv_asIs
theorem pv_note {v : Value} {env : Env} : Pv (Free2 · e) (noteFrame v env) := by
  unfold noteFrame
  split
  · rename_i f _
    refine pv_bind pv_field fun hd => ?_
    have tl : Pv (Free2 · e) (do let a ← PySem.frameOf env; let pl ← entryPlaceOf f (hd != .none); let b ← EntryCells.newEntry hd a .none (rawInt f) .none pl; setField v 1 b) :=
      pv_bind pv_frameOf fun _ => pv_bind pv_place fun _ => pv_bind pv_entry fun _ => pv_setField (by decide)
    split
    · refine pv_bind pv_field fun x => ?_
      split
      · exact trivial
      · exact pv_bind (pv_setField (by decide)) fun _ => tl
    · exact tl
  · exact trivial
theorem pv_leaving {v : Value} {env : Env} : Pv (Free2 · e) (leaving env v) := by
  unfold leaving
  exact pv_bind pv_note fun _ => pv_flight
end
end Rk

end
section
set_option tactic.hygienic false
namespace Rk

inductive V where
  | none | bool (b : Bool) | int (i : Int) | str (x : Str) | bytes (b : Array UInt8) | ref (a : Addr) | raw (w : Value)
noncomputable def VRel : V → Value → Prop
  | .none, w => w = .none
  | .bool b, w => w = .bool b
  | .int i, w => ∃ t, w = .int i t
  | .str x, w => ∃ t, w = .str x t
  | .bytes b, w => ∃ t, w = .bytes b t
  | .ref a, w => w = .ref a
  | .raw v, w => w = v
noncomputable def VsRel : List V → List Value → Prop
  | [], [] => True
  | v :: vs, w :: ws => VRel v w ∧ VsRel vs ws
  | _, _ => False
noncomputable def FsRel : List (Str × V) → List DictEntry → Prop
  | [], [] => True
  | f :: fs, e :: es => (∃ t, e.key = .str f.1 t) ∧ VRel f.2 e.val ∧ FsRel fs es
  | _, _ => False
inductive MO where
  | list (vs : List V)
  | tup (vs : List V)
  | inst (C : Addr) (fs : List (Str × V))
  | cell (v : Option V)
  | obj (o : Obj)
  | li (l : Addr) (i : Nat)
  | ti (l : Addr) (i : Nat)
  | ri (x left : Int)
  | rg (x y : Int)
  | si (x : Str) (i : Nat)
noncomputable abbrev tupOf (its : Array Value) (n : Nat) : Obj := { cls := .type "tuple", data := .seq its n }
noncomputable def MO.isInst : MO → Bool
  | .inst .. => true
  | _ => false
noncomputable def MO.isIt : MO → Bool
  | .li .. | .ti .. | .ri .. => true
  | _ => false
noncomputable def CellRel : Option V → Option Value → Prop
  | none, _ => True
  | some v, ow => ∃ w, ow = some w ∧ VRel v w
noncomputable def MOAt (h : Heap) (d a : Addr) : MO → Prop
  | .list vs => ∃ ws n, h.get? a = some (listOf ws n) ∧ VsRel vs ws.toList
  | .tup vs => ∃ ws n, h.get? a = some (tupOf ws n) ∧ VsRel vs ws.toList
  | .inst C fs => h.get? a = some (instObj C d) ∧ ∃ es n, h.get? d = some (dictOf es n) ∧ FsRel fs es
  | .cell v => ∃ o ow, h.get? a = some o ∧ o.data = .cell ow ∧ CellRel v ow
  | .obj o => h.get? a = some o
  | .li l i => h.IsListIter a l i
  | .ti l i => h.IsTupleIter a l i
  | .ri x left => IsRangeIter h a x left 1
  | .rg x y => ∃ t u v, IsRange h a x y 1 t u v
  | .si x i => ∃ t, h.IsStrIter a "str_ascii_iterator" x t i
noncomputable abbrev Hp := Addr → Option MO
noncomputable def Hp.set (H : Hp) (a : Addr) (o : MO) : Hp := fun b => if b = a then some o else H b
noncomputable def Hp.Le (H H' : Hp) : Prop := ∀ a o, H a = some o → H' a = some o
theorem Hp.set_self (H : Hp) (a : Addr) (o : MO) : H.set a o a = some o := if_pos rfl
theorem Hp.set_ne (H : Hp) {a b : Addr} (o : MO) (h : b ≠ a) : H.set a o b = H b := if_neg h
theorem Hp.Le.refl (H : Hp) : H.Le H := fun _ _ e => e
theorem Hp.Le.trans {H H' H'' : Hp} (x : H.Le H') (y : H'.Le H'') : H.Le H'' := fun a o e => y a o (x a o e)
noncomputable def Hp.del (H : Hp) (a : Addr) : Hp := fun b => if b = a then none else H b
theorem Hp.del_le (H : Hp) (a : Addr) : (H.del a).Le H := fun b o e => by
  unfold Hp.del at e
  by_cases q : b = a
  · rw [if_pos q] at e; cases e
  · rw [if_neg q] at e; exact e
theorem Hp.Le.del {H H' : Hp} {a : Addr} (l : H.Le H') (h : H a = none) : H.Le (H'.del a) := fun b o e => by
  unfold Hp.del
  rw [if_neg (fun q => by rw [q, h] at e; cases e)]
  exact l b o e
theorem Hp.Le.set {H : Hp} {n : Addr} (o : MO) (h : H n = none) : H.Le (H.set n o) := fun a x e => by
  rw [Hp.set_ne H o (fun q => by rw [q, h] at e; cases e)]; exact e

theorem VsRel.length : ∀ {vs : List V} {ws : List Value}, VsRel vs ws → ws.length = vs.length
  | [], [], _ => rfl
  | _ :: _, _ :: _, h => by rw [List.length_cons, List.length_cons, VsRel.length h.2]
  | [], _ :: _, h => h.elim
  | _ :: _, [], h => h.elim
theorem VsRel.nil {ws : List Value} (h : VsRel [] ws) : ws = [] := List.eq_nil_of_length_eq_zero h.length
theorem VsRel.inv {v : V} {vs : List V} {ws : List Value} (h : VsRel (v :: vs) ws) : ∃ x xs, ws = x :: xs ∧ VRel v x ∧ VsRel vs xs := by
  cases ws with
  | nil => exact h.elim
  | cons x xs => exact ⟨x, xs, rfl, h.1, h.2⟩
theorem vr1 {v : V} {ws : List Value} (h : VsRel [v] ws) : ∃ x, ws = [x] ∧ VRel v x := by
  obtain ⟨x, xs, rfl, h1, h⟩ := h.inv; cases h.nil; exact ⟨x, rfl, h1⟩
theorem vr2 {v u : V} {ws : List Value} (h : VsRel [v, u] ws) : ∃ x y, ws = [x, y] ∧ VRel v x ∧ VRel u y := by
  obtain ⟨x, xs, rfl, h1, h⟩ := h.inv; obtain ⟨y, rfl, h2⟩ := vr1 h; exact ⟨x, y, rfl, h1, h2⟩
theorem vr3 {v u t : V} {ws : List Value} (h : VsRel [v, u, t] ws) : ∃ x y z, ws = [x, y, z] ∧ VRel v x ∧ VRel u y ∧ VRel t z := by
  obtain ⟨x, xs, rfl, h1, h⟩ := h.inv; obtain ⟨y, z, rfl, h2⟩ := vr2 h; exact ⟨x, y, z, rfl, h1, h2⟩
theorem va2 {v u : V} {ws : Array Value} (h : VsRel [v, u] ws.toList) : ∃ x y, ws = ⟨[x, y]⟩ ∧ VRel v x ∧ VRel u y := by
  obtain ⟨x, y, e, h⟩ := vr2 h; exact ⟨x, y, congrArg Array.mk e, h⟩
theorem va3 {v u t : V} {ws : Array Value} (h : VsRel [v, u, t] ws.toList) : ∃ x y z, ws = ⟨[x, y, z]⟩ ∧ VRel v x ∧ VRel u y ∧ VRel t z := by
  obtain ⟨x, y, z, e, h⟩ := vr3 h; exact ⟨x, y, z, congrArg Array.mk e, h⟩
noncomputable def ArF (F : List Value → Prop) : Nat → List Value → Prop
  | 0, l => F l
  | n + 1, l => ∀ a, ArF F n (l ++ [a])
theorem ar_at {F : List Value → Prop} : ∀ {vs : List V} {us xs : List Value}, ArF F vs.length us → VsRel vs xs → F (us ++ xs)
  | [], us, xs, h, r => by rw [VsRel.nil r, List.append_nil]; exact h
  | v :: vs, us, xs, h, r => by
    obtain ⟨x, xs, rfl, _, r⟩ := r.inv
    have := ar_at (us := us ++ [x]) (h x) r
    rwa [List.append_assoc] at this
theorem ar {F : List Value → Prop} {vs : List V} (h : ArF F vs.length []) (xs : List Value) (r : VsRel vs xs) : F xs := ar_at h r
theorem VsRel.append : ∀ {vs : List V} {ws : List Value} {us : List V} {xs : List Value}, VsRel vs ws → VsRel us xs → VsRel (vs ++ us) (ws ++ xs)
  | [], [], _, _, _, k => k
  | _ :: _, _ :: _, _, _, h, k => ⟨h.1, VsRel.append h.2 k⟩
  | [], _ :: _, _, _, h, _ => h.elim
  | _ :: _, [], _, _, h, _ => h.elim
theorem VsRel.get : ∀ {vs : List V} {ws : List Value}, VsRel vs ws → ∀ {i : Nat} {v : V}, vs[i]? = some v → ∃ w, ws[i]? = some w ∧ VRel v w
  | _ :: _, _ :: _, h, 0, _, e => ⟨_, rfl, by cases e; exact h.1⟩
  | _ :: _, _ :: _, h, i + 1, _, e => by
    obtain ⟨w, h1, h2⟩ := VsRel.get h.2 (i := i) (by simpa using e)
    exact ⟨w, by simpa using h1, h2⟩
  | [], [], _, _, _, e => by cases e
  | [], _ :: _, h, _, _, _ => h.elim
  | _ :: _, [], h, _, _, _ => h.elim
theorem VsRel.drop : ∀ {vs : List V} {ws : List Value} (n : Nat), VsRel vs ws → VsRel (vs.drop n) (ws.drop n)
  | _, _, 0, h => h
  | [], [], _ + 1, _ => trivial
  | _ :: _, _ :: _, n + 1, h => VsRel.drop n h.2
  | [], _ :: _, _, h => h.elim
  | _ :: _, [], _, h => h.elim
theorem VsRel.take : ∀ {vs : List V} {ws : List Value} (n : Nat), VsRel vs ws → VsRel (vs.take n) (ws.take n)
  | _, _, 0, _ => by simp [VsRel]
  | [], [], _ + 1, _ => trivial
  | _ :: _, _ :: _, n + 1, h => ⟨h.1, VsRel.take n h.2⟩
  | [], _ :: _, _, h => h.elim
  | _ :: _, [], _, h => h.elim
theorem VsRel.set : ∀ {vs : List V} {ws : List Value} {v : V} {w : Value} (n : Nat), VsRel vs ws → VRel v w → VsRel (vs.set n v) (ws.set n w)
  | [], [], _, _, _, _, _ => trivial
  | _ :: _, _ :: _, _, _, 0, h, k => ⟨k, h.2⟩
  | _ :: _, _ :: _, _, _, n + 1, h, k => ⟨h.1, VsRel.set n h.2 k⟩
  | [], _ :: _, _, _, _, h, _ => h.elim
  | _ :: _, [], _, _, _, h, _ => h.elim

theorem MOAt.congr {h h' : Heap} {d a : Addr} : ∀ {o : MO}, MOAt h d a o → h'.get? a = h.get? a → (o.isInst = true → h'.get? d = h.get? d) → MOAt h' d a o
  | .list _, ⟨ws, n, e, r⟩, q, _ => ⟨ws, n, q.trans e, r⟩
  | .tup _, ⟨ws, n, e, r⟩, q, _ => ⟨ws, n, q.trans e, r⟩
  | .inst _ _, ⟨e, es, n, e', r⟩, q, q' => ⟨q.trans e, es, n, (q' rfl).trans e', r⟩
  | .cell _, ⟨o, ow, e, r⟩, q, _ => ⟨o, ow, q.trans e, r⟩
  | .obj _, e, q, _ => q.trans e
  | .li _ _, ⟨o, e, r⟩, q, _ => ⟨o, q.trans e, r⟩
  | .ti _ _, ⟨o, e, r⟩, q, _ => ⟨o, q.trans e, r⟩
  | .ri _ _, e, q, _ => q.trans e
  | .rg _ _, ⟨t, u, v, e⟩, q, _ => ⟨t, u, v, q.trans e⟩
  | .si _ _, ⟨t, o, e, r⟩, q, _ => ⟨t, o, q.trans e, r⟩
theorem MOAt.ex {h : Heap} {d a : Addr} : ∀ {o : MO}, MOAt h d a o → ∃ x, h.get? a = some x
  | .list _, ⟨_, _, e, _⟩ => ⟨_, e⟩
  | .tup _, ⟨_, _, e, _⟩ => ⟨_, e⟩
  | .inst _ _, ⟨e, _⟩ => ⟨_, e⟩
  | .cell _, ⟨o, _, e, _⟩ => ⟨o, e⟩
  | .obj o, e => ⟨o, e⟩
  | .li _ _, ⟨o, e, _⟩ => ⟨o, e⟩
  | .ti _ _, ⟨o, e, _⟩ => ⟨o, e⟩
  | .ri _ _, e => ⟨_, e⟩
  | .rg _ _, ⟨_, _, _, e⟩ => ⟨_, e⟩
  | .si _ _, ⟨_, o, e, _⟩ => ⟨o, e⟩
theorem MOAt.exD {h : Heap} {d a : Addr} : ∀ {o : MO}, MOAt h d a o → o.isInst = true → ∃ es n, h.get? d = some (dictOf es n)
  | .inst _ _, ⟨_, es, n, e, _⟩, _ => ⟨es, n, e⟩
  | .list _, _, q => by cases q
  | .tup _, _, q => by cases q
  | .cell _, _, q => by cases q
  | .li _ _, _, q => by cases q
  | .ti _ _, _, q => by cases q
  | .ri _ _, _, q => by cases q
  | .rg _ _, _, q => by cases q
  | .si _ _, _, q => by cases q
  | .obj _, _, q => by cases q

structure RelD (h₀ : Heap) (L : Addr) (δ : Addr → Addr) (H : Hp) (h : Heap) : Prop where
  at_ : ∀ a o, H a = some o → MOAt h (δ a) a o
  off : ∀ a o, H a = some o → a ≠ L ∧ h₀.get? a = none
  doff : ∀ a o, H a = some o → o.isInst = true → δ a ≠ L ∧ h₀.get? (δ a) = none ∧ ∀ b o', H b = some o' → δ a ≠ b
  inj : ∀ a b o o', H a = some o → H b = some o' → o.isInst = true → o'.isInst = true → δ a = δ b → a = b
noncomputable def RelH (h₀ : Heap) (L : Addr) (H : Hp) (h : Heap) : Prop := ∃ δ, RelD h₀ L δ H h

theorem RelD.le {h₀ h : Heap} {L : Addr} {δ : Addr → Addr} {H H' : Hp} (R : RelD h₀ L δ H' h) (l : H.Le H') : RelD h₀ L δ H h :=
  ⟨fun a o e => R.at_ a o (l a o e), fun a o e => R.off a o (l a o e), fun a o e i => ⟨(R.doff a o (l a o e) i).1, (R.doff a o (l a o e) i).2.1, fun b o' e' => (R.doff a o (l a o e) i).2.2 b o' (l b o' e')⟩,
   fun a b o o' e e' => R.inj a b o o' (l a o e) (l b o' e')⟩
theorem RelH.le {h₀ h : Heap} {L : Addr} {H H' : Hp} (R : RelH h₀ L H' h) (l : H.Le H') : RelH h₀ L H h := let ⟨δ, x⟩ := R; ⟨δ, x.le l⟩
theorem RelD.growK {h₀ h h' : Heap} {L : Addr} {δ : Addr → Addr} {H : Hp} (R : RelD h₀ L δ H h) (k : ∀ b o, b ≠ L → h₀.get? b = none → h.get? b = some o → h'.get? b = some o) : RelD h₀ L δ H h' :=
  ⟨fun a o e => by
    have m := R.at_ a o e
    obtain ⟨x, hx⟩ := m.ex
    refine m.congr ((k _ _ (R.off a o e).1 (R.off a o e).2 hx).trans hx.symm) fun i => ?_
    obtain ⟨es, n, hd⟩ := m.exD i
    exact (k _ _ (R.doff a o e i).1 (R.doff a o e i).2.1 hd).trans hd.symm, R.off, R.doff, R.inj⟩
theorem RelD.grow {h₀ h h' : Heap} {L : Addr} {δ : Addr → Addr} {H : Hp} (R : RelD h₀ L δ H h) (k : ∀ b o, h.get? b = some o → h'.get? b = some o) : RelD h₀ L δ H h' := R.growK fun b o _ _ => k b o
theorem RelH.grow {h₀ h h' : Heap} {L : Addr} {H : Hp} (R : RelH h₀ L H h) (k : ∀ b o, h.get? b = some o → h'.get? b = some o) : RelH h₀ L H h' := let ⟨δ, x⟩ := R; ⟨δ, x.grow k⟩
noncomputable def KeepBut (h₀ : Heap) (L x : Addr) (h h' : Heap) : Prop := ∀ b o, b ≠ x → b ≠ L → h₀.get? b = none → h.get? b = some o → h'.get? b = some o
theorem KeepBut.of {h₀ h h' : Heap} {L x : Addr} (hs : Heap.SameBut x h h') : KeepBut h₀ L x h h' := fun b o n _ _ e => (hs.2 b n).trans e
theorem RelD.other {h₀ h h' : Heap} {L x : Addr} {δ : Addr → Addr} {H : Hp} (R : RelD h₀ L δ H h) (hs : KeepBut h₀ L x h h') (h1 : H x = none) (h2 : ∀ a o, H a = some o → o.isInst = true → δ a ≠ x) : RelD h₀ L δ H h' :=
  ⟨fun a o e => by
    have m := R.at_ a o e
    obtain ⟨y, hy⟩ := m.ex
    refine m.congr ((hs _ _ (fun q => by rw [q, h1] at e; cases e) (R.off a o e).1 (R.off a o e).2 hy).trans hy.symm) fun i => ?_
    obtain ⟨es, n, hd⟩ := m.exD i
    exact (hs _ _ (h2 a o e i) (R.doff a o e i).1 (R.doff a o e i).2.1 hd).trans hd.symm, R.off, R.doff, R.inj⟩
theorem RelH.frame {h₀ h h' : Heap} {L : Addr} {H : Hp} (R : RelH h₀ L H h) (hs : Heap.SameBut L h h') : RelH h₀ L H h' := by
  obtain ⟨δ, x⟩ := R
  refine ⟨δ, x.other (KeepBut.of hs) ?_ fun a o e i => (x.doff a o e i).1⟩
  cases q : H L with
  | none => rfl
  | some o => exact absurd rfl (x.off L o q).1
theorem RelD.put {h₀ h h' : Heap} {L a : Addr} {δ : Addr → Addr} {H : Hp} {o o' : MO} (R : RelD h₀ L δ H h) (e : H a = some o) (hs : KeepBut h₀ L a h h') (m : ∀ d, MOAt h' d a o') (i : o'.isInst = false) : RelD h₀ L δ (H.set a o') h' := by
  refine ⟨fun b x q => ?_, fun b x q => ?_, fun b x q j => ?_, fun b c x y q q' j j' => ?_⟩
  · by_cases hb : b = a
    · subst hb; rw [Hp.set_self] at q; cases q; exact m _
    · rw [Hp.set_ne _ _ hb] at q
      have k := R.at_ b x q
      obtain ⟨y, hy⟩ := k.ex
      refine k.congr ((hs _ _ hb (R.off b x q).1 (R.off b x q).2 hy).trans hy.symm) fun j => ?_
      obtain ⟨es, n, hd⟩ := k.exD j
      have z := R.doff b x q j
      exact (hs _ _ (z.2.2 a o e) z.1 z.2.1 hd).trans hd.symm
  · by_cases hb : b = a
    · subst hb; exact R.off b o e
    · rw [Hp.set_ne _ _ hb] at q; exact R.off b x q
  · by_cases hb : b = a
    · subst hb; rw [Hp.set_self] at q; cases q; rw [i] at j; cases j
    · rw [Hp.set_ne _ _ hb] at q
      have z := R.doff b x q j
      refine ⟨z.1, z.2.1, fun c y q' => ?_⟩
      by_cases hc : c = a
      · subst hc; exact z.2.2 c o e
      · rw [Hp.set_ne _ _ hc] at q'; exact z.2.2 c y q'
  · by_cases hb : b = a
    · subst hb; rw [Hp.set_self] at q; cases q; rw [i] at j; cases j
    · by_cases hc : c = a
      · subst hc; rw [Hp.set_self] at q'; cases q'; rw [i] at j'; cases j'
      · rw [Hp.set_ne _ _ hb] at q; rw [Hp.set_ne _ _ hc] at q'; exact R.inj b c x y q q' j j'
theorem RelD.putI {h₀ h h' : Heap} {L a : Addr} {δ : Addr → Addr} {H : Hp} {C : Addr} {fs fs' : List (Str × V)} {es : List DictEntry} {n : Nat} (R : RelD h₀ L δ H h) (e : H a = some (.inst C fs)) (hs : KeepBut h₀ L (δ a) h h')
    (hd : h'.get? (δ a) = some (dictOf es n)) (hf : FsRel fs' es) : RelD h₀ L δ (H.set a (.inst C fs')) h' := by
  have da := R.doff a _ e rfl
  refine ⟨fun b x q => ?_, fun b x q => ?_, fun b x q j => ?_, fun b c x y q q' j j' => ?_⟩
  · by_cases hb : b = a
    · subst hb; rw [Hp.set_self] at q; cases q
      have k := (R.at_ b _ e).1
      exact ⟨hs _ _ (Ne.symm (da.2.2 b _ e)) (R.off b _ e).1 (R.off b _ e).2 k, es, n, hd, hf⟩
    · rw [Hp.set_ne _ _ hb] at q
      have k := R.at_ b x q
      obtain ⟨y, hy⟩ := k.ex
      refine k.congr ((hs _ _ (Ne.symm (da.2.2 b x q)) (R.off b x q).1 (R.off b x q).2 hy).trans hy.symm) fun j => ?_
      obtain ⟨es, n, hd⟩ := k.exD j
      have z := R.doff b x q j
      exact (hs _ _ (fun z => hb (R.inj b a x _ q e j rfl z)) z.1 z.2.1 hd).trans hd.symm
  · by_cases hb : b = a
    · subst hb; exact R.off b _ e
    · rw [Hp.set_ne _ _ hb] at q; exact R.off b x q
  · by_cases hb : b = a
    · subst hb
      refine ⟨da.1, da.2.1, fun c y q' => ?_⟩
      by_cases hc : c = b
      · subst hc; exact da.2.2 c _ e
      · rw [Hp.set_ne _ _ hc] at q'; exact da.2.2 c y q'
    · rw [Hp.set_ne _ _ hb] at q
      have z := R.doff b x q j
      refine ⟨z.1, z.2.1, fun c y q' => ?_⟩
      by_cases hc : c = a
      · subst hc; exact z.2.2 c _ e
      · rw [Hp.set_ne _ _ hc] at q'; exact z.2.2 c y q'
  · by_cases hb : b = a
    · by_cases hc : c = a
      · exact fun _ => hb.trans hc.symm
      · rw [Hp.set_ne _ _ hc] at q'
        subst hb; exact R.inj b c _ y e q' rfl j'
    · rw [Hp.set_ne _ _ hb] at q
      by_cases hc : c = a
      · subst hc; exact R.inj b c x _ q e j rfl
      · rw [Hp.set_ne _ _ hc] at q'; exact R.inj b c x y q q' j j'
noncomputable def ledg (h₀ : Heap) (L : Addr) (h : Heap) : List (Addr × Obj) := (List.range h.objs.size).filterMap fun a => if a = L then none else if (h₀.get? a).isSome then none else (h.get? a).map fun o => (a, o)
theorem ledg_mem {h₀ h : Heap} {L a : Addr} {o : Obj} : (a, o) ∈ ledg h₀ L h ↔ a ≠ L ∧ h₀.get? a = none ∧ h.get? a = some o := by
  unfold ledg
  rw [List.mem_filterMap]
  constructor
  · rintro ⟨b, hb, e⟩
    by_cases h1 : b = L
    · rw [if_pos h1] at e; cases e
    · rw [if_neg h1] at e
      by_cases h2 : (h₀.get? b).isSome = true
      · rw [if_pos h2] at e; cases e
      · rw [if_neg h2] at e
        obtain ⟨x, hx, hy⟩ := Option.map_eq_some_iff.mp e
        cases hy
        exact ⟨h1, by simpa using h2, hx⟩
  · rintro ⟨h1, h2, h3⟩
    exact ⟨a, List.mem_range.mpr (Heap.lt_size h3), by rw [if_neg h1, h2, h3]; rfl⟩
theorem ledg_news {h₀ h : Heap} {L : Addr} : News h₀ L h (ledg h₀ L h) := fun p hp => by
  have := ledg_mem.mp (show (p.1, p.2) ∈ ledg h₀ L h from hp)
  exact ⟨this.2.2, this.1, this.2.1⟩
theorem ledg_nodup (h₀ : Heap) (L : Addr) (h : Heap) : ((ledg h₀ L h).map (·.1)).Nodup := by
  unfold ledg
  rw [List.map_filterMap]
  have : ∀ (l : List Nat), l.Nodup → (l.filterMap fun x => Option.map (·.1) (if x = L then none else if (h₀.get? x).isSome then none else (h.get? x).map fun o => (x, o))).Nodup ∧ ∀ y ∈ (l.filterMap fun x => Option.map (·.1) (if x = L then none else if (h₀.get? x).isSome then none else (h.get? x).map fun o => (x, o))), y ∈ l := by
    intro l
    induction l with
    | nil => intro _; exact ⟨by simp, by simp⟩
    | cons x l ih =>
      intro hn
      rw [List.nodup_cons] at hn
      obtain ⟨i1, i2⟩ := ih hn.2
      rw [List.filterMap_cons]
      cases q : Option.map (·.1) (if x = L then none else if (h₀.get? x).isSome then none else (h.get? x).map fun o => (x, o)) with
      | none => exact ⟨i1, fun y hy => .tail _ (i2 y hy)⟩
      | some z =>
        have hz : z = x := by
          obtain ⟨p, hp, rfl⟩ := Option.map_eq_some_iff.mp q
          by_cases h1 : x = L
          · rw [if_pos h1] at hp; cases hp
          · rw [if_neg h1] at hp
            by_cases h2 : (h₀.get? x).isSome = true
            · rw [if_pos h2] at hp; cases hp
            · rw [if_neg h2] at hp
              obtain ⟨o, _, rfl⟩ := Option.map_eq_some_iff.mp hp
              rfl
        subst hz
        refine ⟨List.nodup_cons.mpr ⟨fun hm => hn.1 (i2 _ hm), i1⟩, fun y hy => ?_⟩
        rcases List.mem_cons.mp hy with rfl | hy
        · exact .head _
        · exact .tail _ (i2 y hy)
  exact (this _ List.nodup_range).1
theorem upd_of {d : Addr} {o : Obj} (o' : Obj) : ∀ {l : List (Addr × Obj)}, (l.map (·.1)).Nodup → (d, o) ∈ l → Upd d o o' l (l.map fun p => if p.1 = d then (d, o') else p)
  | [], _, h => nomatch h
  | p :: l, hn, h => by
    rw [List.map_cons, List.nodup_cons] at hn
    rw [List.map_cons]
    rcases List.mem_cons.mp h with e | h
    · subst e
      have off : ∀ q ∈ l, q.1 ≠ d := fun q hq e => hn.1 (List.mem_map.mpr ⟨q, hq, e⟩)
      have e2 : l.map (fun p => if p.1 = d then (d, o') else p) = l := by
        conv => rhs; rw [← List.map_id l]
        exact List.map_congr_left fun q hq => if_neg (off q hq)
      rw [if_pos rfl, e2]
      exact .head off
    · have hp : p.1 ≠ d := fun e => hn.1 (List.mem_map.mpr ⟨(d, o), h, e.symm⟩)
      rw [if_neg hp]
      exact .tail hp (upd_of o' hn.2 h)
theorem keep_of_upd {h₀ h h' : Heap} {L d : Addr} {o' : Obj} (N : News h₀ L h' ((ledg h₀ L h).map fun p => if p.1 = d then (d, o') else p)) : KeepBut h₀ L d h h' := fun b o hd hL h0 e => by
  have m := ledg_mem.mpr ⟨hL, h0, e⟩
  have := (N (b, o) (List.mem_map.mpr ⟨(b, o), m, if_neg hd⟩)).1
  exact this
theorem got_of_upd {h₀ h h' : Heap} {L d : Addr} {o o' : Obj} (N : News h₀ L h' ((ledg h₀ L h).map fun p => if p.1 = d then (d, o') else p)) (hL : d ≠ L) (h0 : h₀.get? d = none) (e : h.get? d = some o) : h'.get? d = some o' :=
  (N (d, o') (List.mem_map.mpr ⟨(d, o), ledg_mem.mpr ⟨hL, h0, e⟩, if_pos rfl⟩)).1
theorem RelD.none_size {h₀ h : Heap} {L : Addr} {δ : Addr → Addr} {H : Hp} (R : RelD h₀ L δ H h) {n : Addr} (hn : h.objs.size ≤ n) : H n = none := by
  cases q : H n with
  | none => rfl
  | some o =>
    obtain ⟨x, hx⟩ := (R.at_ n o q).ex
    exact absurd (Heap.lt_size hx) (Nat.not_lt.mpr hn)
theorem RelD.new {h₀ h h' : Heap} {L n : Addr} {δ : Addr → Addr} {H : Hp} {o : MO} (R : RelD h₀ L δ H h) (hn : h.objs.size ≤ n) (k : ∀ b x, b ≠ L → h₀.get? b = none → h.get? b = some x → h'.get? b = some x) (m : ∀ d, MOAt h' d n o) (i : o.isInst = false)
    (hL : n ≠ L) (h0 : h₀.get? n = none) : RelD h₀ L δ (H.set n o) h' := by
  have R' := R.growK k
  have hnone := R.none_size hn
  refine ⟨fun b x q => ?_, fun b x q => ?_, fun b x q j => ?_, fun b c x y q q' j j' => ?_⟩
  · by_cases hb : b = n
    · subst hb; rw [Hp.set_self] at q; cases q; exact m _
    · rw [Hp.set_ne _ _ hb] at q; exact R'.at_ b x q
  · by_cases hb : b = n
    · subst hb; exact ⟨hL, h0⟩
    · rw [Hp.set_ne _ _ hb] at q; exact R.off b x q
  · by_cases hb : b = n
    · subst hb; rw [Hp.set_self] at q; cases q; rw [i] at j; cases j
    · rw [Hp.set_ne _ _ hb] at q
      have z := R.doff b x q j
      refine ⟨z.1, z.2.1, fun c y q' => ?_⟩
      by_cases hc : c = n
      · subst hc
        obtain ⟨es, k, hd⟩ := (R.at_ b x q).exD j
        exact fun e => absurd (Heap.lt_size hd) (Nat.not_lt.mpr (e ▸ hn))
      · rw [Hp.set_ne _ _ hc] at q'; exact z.2.2 c y q'
  · by_cases hb : b = n
    · subst hb; rw [Hp.set_self] at q; cases q; rw [i] at j; cases j
    · by_cases hc : c = n
      · subst hc; rw [Hp.set_self] at q'; cases q'; rw [i] at j'; cases j'
      · rw [Hp.set_ne _ _ hb] at q; rw [Hp.set_ne _ _ hc] at q'; exact R.inj b c x y q q' j j'
theorem RelD.newI {h₀ h h' : Heap} {L n d : Addr} {δ : Addr → Addr} {H : Hp} {C : Addr} (R : RelD h₀ L δ H h) (hn : h.objs.size ≤ n) (hd : h.objs.size ≤ d) (nd : d ≠ n) (k : ∀ b x, h.get? b = some x → h'.get? b = some x)
    (m : h'.get? n = some (instObj C d)) {k₀ : Nat} (m' : h'.get? d = some (dictOf [] k₀)) (hL : n ≠ L) (h0 : h₀.get? n = none) (hL' : d ≠ L) (h0' : h₀.get? d = none) :
    RelD h₀ L (fun a => if a = n then d else δ a) (H.set n (.inst C [])) h' := by
  have R' := R.grow k
  have hnone := R.none_size hn
  have hdnone := R.none_size hd
  have low : ∀ b x, H b = some x → x.isInst = true → δ b < h.objs.size := fun b x q j => by
    obtain ⟨es, k, hd⟩ := (R.at_ b x q).exD j
    exact Heap.lt_size hd
  refine ⟨fun b x q => ?_, fun b x q => ?_, fun b x q j => ?_, fun b c x y q q' j j' => ?_⟩
  · by_cases hb : b = n
    · subst hb; rw [Hp.set_self] at q; cases q
      show MOAt h' (if b = b then d else δ b) b _
      rw [if_pos rfl]; exact ⟨m, [], k₀, m', trivial⟩
    · rw [Hp.set_ne _ _ hb] at q
      show MOAt h' (if b = n then d else δ b) b _
      rw [if_neg hb]; exact R'.at_ b x q
  · by_cases hb : b = n
    · subst hb; exact ⟨hL, h0⟩
    · rw [Hp.set_ne _ _ hb] at q; exact R.off b x q
  · by_cases hb : b = n
    · subst hb
      show (if b = b then d else δ b) ≠ L ∧ h₀.get? (if b = b then d else δ b) = none ∧ ∀ c o', H.set b (.inst C []) c = some o' → (if b = b then d else δ b) ≠ c
      rw [if_pos rfl]
      refine ⟨hL', h0', fun c y q' => ?_⟩
      by_cases hc : c = b
      · subst hc; exact nd
      · rw [Hp.set_ne _ _ hc] at q'
        exact fun e => by rw [← e, hdnone] at q'; cases q'
    · rw [Hp.set_ne _ _ hb] at q
      show (if b = n then d else δ b) ≠ L ∧ h₀.get? (if b = n then d else δ b) = none ∧ ∀ c o', H.set n (.inst C []) c = some o' → (if b = n then d else δ b) ≠ c
      rw [if_neg hb]
      have z := R.doff b x q j
      refine ⟨z.1, z.2.1, fun c y q' => ?_⟩
      by_cases hc : c = n
      · subst hc; exact Nat.ne_of_lt (Nat.lt_of_lt_of_le (low b x q j) hn)
      · rw [Hp.set_ne _ _ hc] at q'; exact z.2.2 c y q'
  · intro e
    (try dsimp only at e)
    by_cases hb : b = n
    · by_cases hc : c = n
      · exact hb.trans hc.symm
      · rw [if_pos hb, if_neg hc] at e
        rw [Hp.set_ne _ _ hc] at q'
        exact absurd (low c y q' j') (Nat.not_lt.mpr (e ▸ hd))
    · rw [Hp.set_ne _ _ hb] at q
      by_cases hc : c = n
      · rw [if_neg hb, if_pos hc] at e
        exact absurd (low b x q j) (Nat.not_lt.mpr (e ▸ hd))
      · rw [if_neg hb, if_neg hc] at e
        rw [Hp.set_ne _ _ hc] at q'
        exact R.inj b c x y q q' j j' e
end Rk

end
section
set_option tactic.hygienic false
namespace Rk

structure Wd where
  prog : Program
  w : World
  K : Frag
  p : Program
  loose : List Str
  mean : ExcName → Option Value
  mg : Str → Option Value
  mb : Str → Option Value
  gens : Array GenState
  drawn : Drawn
  os : OsState
structure Cx where
  D : Wd
  A : Around
  A₀ : Around
  base : Heap
  h₀ : Heap
  outer : List Env
  nm : Str
  sc : Scope
  L : Addr
  fa : Option Addr
  cd : Value
  cl : List (Str × Addr)
  /-- the frame that stands: its own, or, for a comprehension's block, the one around -/
  frm : Addr
  inn : Bool
noncomputable abbrev Cx.env (c : Cx) : Env := { scope := c.sc, locals := c.L, globals := mainGlobals, cells := c.cl, qual := c.nm ++ ".<locals>.", func := c.fa, code := c.cd, frame := some c.frm, builtins := builtinsNs }
noncomputable abbrev Cx.fl (c : Cx) : List Env := if c.inn then c.outer else c.env :: c.outer
noncomputable abbrev Cx.fs (c : Cx) : List Addr := c.outer.filterMap (·.frame)
structure Cx.Ok (c : Cx) : Prop where
  B : Below c.A₀ c.base c.outer c.h₀
  X : c.D.K.In c.h₀
  T : Top c.D.p c.D.loose c.D.mean c.D.mg c.D.mb c.h₀
  fr : c.A.frames = some c.fl
  own : if c.inn then c.A₀ = c.A else c.frm = c.L
  ke : c.sc.kind = .function
  XB : c.D.K.In c.base
  TB : Top c.D.p c.D.loose c.D.mean c.D.mg c.D.mb c.base
  ds : KtsDicts c.fs c.h₀
noncomputable def Lc (e : Env) (x : Str) : Prop := e.kindOf x = some .local ∧ (x == ("__debug__" : Str)) = false
structure St where
  m : Str → Option V
  H : Hp
noncomputable abbrev St.up (σ : St) (x : Str) (v : V) : St := ⟨fun y => if y = x then some v else σ.m y, σ.H⟩
noncomputable abbrev St.set (σ : St) (a : Addr) (o : MO) : St := ⟨σ.m, σ.H.set a o⟩
structure Rel0 (c : Cx) (σ : St) (s : Shared) : Prop where
  ok : c.Ok
  loc : ∃ m, Fr c.h₀ c.L s.heap m ∧ ∀ x v, σ.m x = some v → Lc c.env x ∧ ∃ w, m x = some w ∧ VRel v w
  hp : RelH c.h₀ c.L σ.H s.heap
  g : s.gens = c.D.gens
  d : s.drawn = c.D.drawn
  o : s.os = c.D.os
theorem Rel0.tok {c : Cx} {σ : St} {s : Shared} (R : Rel0 c σ s) (n : Nat) : Rel0 c σ { s with toks := n } := ⟨R.ok, R.loc, R.hp, R.g, R.d, R.o⟩
theorem Rel0.fr {c : Cx} {σ : St} {s : Shared} (R : Rel0 c σ s) : ∃ m, Fr c.h₀ c.L s.heap m := let ⟨m, F, _⟩ := R.loc; ⟨m, F⟩
theorem Rel0.kin {c : Cx} {σ : St} {s : Shared} (R : Rel0 c σ s) : c.D.K.In s.heap := let ⟨_, F⟩ := R.fr; R.ok.X.keeps F.keep
theorem Rel0.top {c : Cx} {σ : St} {s : Shared} (R : Rel0 c σ s) : Top c.D.p c.D.loose c.D.mean c.D.mg c.D.mb s.heap := let ⟨_, F⟩ := R.fr; R.ok.T.keeps F.keep
theorem Rel0.le {c : Cx} {m : Str → Option V} {H H' : Hp} {s : Shared} (R : Rel0 c ⟨m, H'⟩ s) (l : H.Le H') : Rel0 c ⟨m, H⟩ s := ⟨R.ok, R.loc, R.hp.le l, R.g, R.d, R.o⟩
theorem Rel0.grow {c : Cx} {σ : St} {s : Shared} (R : Rel0 c σ s) {h' : Heap} {tk : Nat} (k : ∀ b o, s.heap.get? b = some o → h'.get? b = some o) : Rel0 c σ { s with heap := h', toks := tk } :=
  ⟨R.ok, let ⟨n, F, l⟩ := R.loc; ⟨n, F.keeps k, l⟩, R.hp.grow k, R.g, R.d, R.o⟩
theorem h0_size {h₀ h : Heap} {L : Addr} {m : Str → Option Value} (F : Fr h₀ L h m) {n : Addr} (hn : h.objs.size ≤ n) : n ≠ L ∧ h₀.get? n = none := by
  refine ⟨fun e => absurd F.ns.lt (Nat.not_lt.mpr (e ▸ hn)), ?_⟩
  cases q : h₀.get? n with
  | none => rfl
  | some o => exact absurd (Heap.lt_size (F.keep _ _ q)) (Nat.not_lt.mpr hn)
theorem Rel0.non {c : Cx} {σ : St} {s : Shared} (R : Rel0 c σ s) {n : Addr} (hn : s.heap.objs.size ≤ n) : σ.H n = none := let ⟨_, x⟩ := R.hp; x.none_size hn
theorem Rel0.new {c : Cx} {σ : St} {s : Shared} (R : Rel0 c σ s) {h' : Heap} {tk : Nat} {n : Addr} {o : MO} (hn : s.heap.objs.size ≤ n) (k : ∀ b x, s.heap.get? b = some x → h'.get? b = some x) (m : ∀ d, MOAt h' d n o) (i : o.isInst = false) :
    Rel0 c (σ.set n o) { s with heap := h', toks := tk } := by
  obtain ⟨mm, F, l⟩ := R.loc
  obtain ⟨δ, x⟩ := R.hp
  have z := h0_size F hn
  exact ⟨R.ok, ⟨mm, F.keeps k, l⟩, ⟨δ, x.new hn (fun b y _ _ => k b y) m i z.1 z.2⟩, R.g, R.d, R.o⟩
theorem Rel0.newL {c : Cx} {σ : St} {s : Shared} (R : Rel0 c σ s) {h' : Heap} {tk : Nat} {n : Addr} {o : MO} {x : Obj} {m : Str → Option Value} (hn : s.heap.objs.size ≤ n) (l : ∀ x v, σ.m x = some v → Lc c.env x ∧ ∃ w, m x = some w ∧ VRel v w)
    (F' : Fr c.h₀ c.L h' m) (N' : News c.h₀ c.L h' ((n, x) :: ledg c.h₀ c.L s.heap)) (m' : h'.get? n = some x → ∀ d, MOAt h' d n o) (i : o.isInst = false) : Rel0 c (σ.set n o) { s with heap := h', toks := tk } := by
  obtain ⟨mm, F, _⟩ := R.loc
  obtain ⟨δ, D⟩ := R.hp
  have z := h0_size F hn
  exact ⟨R.ok, ⟨m, F', l⟩, ⟨δ, D.new hn (fun b y h1 h2 h3 => (N' (b, y) (.tail _ (ledg_mem.mpr ⟨h1, h2, h3⟩))).1) (m' (N' _ (.head _)).1) i z.1 z.2⟩, R.g, R.d, R.o⟩
theorem Rel0.put {c : Cx} {σ : St} {s : Shared} (R : Rel0 c σ s) {h' : Heap} {tk : Nat} {a : Addr} {o o' : MO} (e : σ.H a = some o) (hs : Heap.SameBut a s.heap h') (m : ∀ d, MOAt h' d a o') (i : o'.isInst = false) :
    Rel0 c (σ.set a o') { s with heap := h', toks := tk } := by
  obtain ⟨mm, F, l⟩ := R.loc
  obtain ⟨δ, x⟩ := R.hp
  have z := x.off a o e
  exact ⟨R.ok, ⟨mm, F.change hs z.1 z.2, l⟩, ⟨δ, x.put e (KeepBut.of hs) m i⟩, R.g, R.d, R.o⟩
theorem Rel0.up {c : Cx} {σ : St} {s : Shared} (R : Rel0 c σ s) {h' : Heap} {tk : Nat} {x : Str} {v : V} {w : Value} {m : Str → Option Value} (F : Fr c.h₀ c.L s.heap m) (l : ∀ x v, σ.m x = some v → Lc c.env x ∧ ∃ w, m x = some w ∧ VRel v w)
    (hk : Lc c.env x) (hv : VRel v w) (F' : Fr c.h₀ c.L h' (fun y => if y = x then some w else m y)) (hs : Heap.SameBut c.L s.heap h') : Rel0 c (σ.up x v) { s with heap := h', toks := tk } := by
  refine ⟨R.ok, ⟨_, F', fun y u e => ?_⟩, R.hp.frame hs, R.g, R.d, R.o⟩
  show _ ∧ ∃ w', (if y = x then some w else m y) = some w' ∧ _
  have e' : (if y = x then some v else σ.m y) = some u := e
  by_cases q : y = x
  · subst q
    rw [if_pos rfl] at e' ⊢
    cases e'
    exact ⟨hk, w, rfl, hv⟩
  · rw [if_neg q] at e' ⊢
    exact l y u e'

theorem Rel0.del {c : Cx} {σ : St} {s : Shared} (R : Rel0 c σ s) {h' : Heap} {tk : Nat} {a : Addr} {o : MO} (e : σ.H a = some o) (he : Heap.ExtBut a s.heap h') : Rel0 c ⟨σ.m, σ.H.del a⟩ { s with heap := h', toks := tk } := by
  obtain ⟨mm, F, l⟩ := R.loc
  obtain ⟨δ, D⟩ := R.hp
  have z := D.off a o e
  refine ⟨R.ok, ⟨mm, ⟨F.ns.extBut he (Ne.symm z.1), fun b y q => he b y (fun w => by rw [w, z.2] at q; cases q) (F.keep b y q), F.above⟩, l⟩, ⟨δ, (D.le (Hp.del_le _ a)).other (fun b y h1 _ _ q => he b y h1 q) (if_pos rfl) fun b y q i => ?_⟩, R.g, R.d, R.o⟩
  have q' := Hp.del_le _ _ _ _ q
  exact (D.doff b y q' i).2.2 a o e

noncomputable def Cx.at (c : Cx) (g : Heap) : Cx := { c with h₀ := g }
noncomputable def Rel (c : Cx) (σ : St) (s : Shared) : Prop := ∃ g, KtsTurn c.fs c.h₀ g ∧ Rel0 (c.at g) σ s
theorem Rel0.rel {c : Cx} {σ : St} {s : Shared} (R : Rel0 c σ s) : Rel c σ s := ⟨c.h₀, KtsTurn.refl, R⟩
section
variable {c : Cx} {σ : St} {s : Shared}
theorem Rel.tok (R : Rel c σ s) (n : Nat) : Rel c σ { s with toks := n } := let ⟨g, T, R⟩ := R; ⟨g, T, R.tok n⟩
theorem Rel.fr (R : Rel c σ s) : ∃ g m, Fr g c.L s.heap m := let ⟨g, T, R⟩ := R; let ⟨m, F⟩ := R.fr; ⟨g, m, F⟩
theorem Rel.kin (R : Rel c σ s) : c.D.K.In s.heap := let ⟨g, T, R⟩ := R; R.kin
theorem Rel.top (R : Rel c σ s) : Top c.D.p c.D.loose c.D.mean c.D.mg c.D.mb s.heap := let ⟨g, T, R⟩ := R; R.top
theorem Rel.ke (R : Rel c σ s) : c.sc.kind = .function := let ⟨g, T, R⟩ := R; R.ok.ke
theorem Rel.le {m : Str → Option V} {H H' : Hp} (R : Rel c ⟨m, H'⟩ s) (l : H.Le H') : Rel c ⟨m, H⟩ s := let ⟨g, T, R⟩ := R; ⟨g, T, R.le l⟩
theorem Rel.grow (R : Rel c σ s) {h' : Heap} {tk : Nat} (k : ∀ b o, s.heap.get? b = some o → h'.get? b = some o) : Rel c σ { s with heap := h', toks := tk } := let ⟨g, T, R⟩ := R; ⟨g, T, R.grow k⟩
theorem Rel.non (R : Rel c σ s) {n : Addr} (hn : s.heap.objs.size ≤ n) : σ.H n = none := let ⟨g, T, R⟩ := R; R.non hn
theorem Rel.new (R : Rel c σ s) {h' : Heap} {tk : Nat} {n : Addr} {o : MO} (hn : s.heap.objs.size ≤ n) (k : ∀ b x, s.heap.get? b = some x → h'.get? b = some x) (m : ∀ d, MOAt h' d n o) (i : o.isInst = false) :
    Rel c (σ.set n o) { s with heap := h', toks := tk } := let ⟨g, T, R⟩ := R; ⟨g, T, R.new hn k m i⟩
theorem Rel.put (R : Rel c σ s) {h' : Heap} {tk : Nat} {a : Addr} {o o' : MO} (e : σ.H a = some o) (hs : Heap.SameBut a s.heap h') (m : ∀ d, MOAt h' d a o') (i : o'.isInst = false) :
    Rel c (σ.set a o') { s with heap := h', toks := tk } := let ⟨g, T, R⟩ := R; ⟨g, T, R.put e hs m i⟩
theorem Rel.del (R : Rel c σ s) {h' : Heap} {tk : Nat} {a : Addr} {o : MO} (e : σ.H a = some o) (he : Heap.ExtBut a s.heap h') : Rel c ⟨σ.m, σ.H.del a⟩ { s with heap := h', toks := tk } := let ⟨g, T, R⟩ := R; ⟨g, T, R.del e he⟩
theorem Rel.hp (R : Rel c σ s) : ∃ g δ, RelD g c.L δ σ.H s.heap := let ⟨g, T, R⟩ := R; let ⟨δ, D⟩ := R.hp; ⟨g, δ, D⟩
theorem Rel.loc (R : Rel c σ s) : ∃ g m, Fr g c.L s.heap m ∧ ∀ x v, σ.m x = some v → Lc c.env x ∧ ∃ w, m x = some w ∧ VRel v w := let ⟨g, T, R⟩ := R; let ⟨m, F, l⟩ := R.loc; ⟨g, m, F, l⟩
end

noncomputable def Cx.W (c : Cx) (E : Value → Shared → Prop) {α β : Type} (r : β → α → Prop) (t : Sem α) (Q : β → St → Prop) (σ : St) : Prop :=
  ∀ s, Rel c σ s → wpAny (model c.D.prog c.D.w) c.A t (fun a s' => ∃ b σ', r b a ∧ Rel c σ' s' ∧ Q b σ') E s
noncomputable abbrev OnE {α : Type} (a b : α) : Prop := b = a
section
variable {c : Cx} {E : Value → Shared → Prop} {α β γ ε : Type} {r : β → α → Prop} {r' : ε → γ → Prop} {σ : St}
theorem Cx.W.mono {t : Sem α} {Q Q' : β → St → Prop} (h : c.W E r t Q σ) (k : ∀ b σ', Q b σ' → Q' b σ') : c.W E r t Q' σ :=
  fun s R => wpAny_mono (h s R) (fun _ _ ⟨b, σ', x, y, z⟩ => ⟨b, σ', x, y, k b σ' z⟩) fun _ _ e => e
end
end Rk

end
section
set_option tactic.hygienic false
namespace Rk
noncomputable abbrev Nope : Value → Shared → Prop := fun _ _ => False
section
variable {c : Cx} {E : Value → Shared → Prop} {σ : St} {α β : Type} {r : β → α → Prop}
theorem Cx.W.any {t : Sem α} {Q : β → St → Prop} (h : c.W Nope r t Q σ) : c.W E r t Q σ := fun s R => wpAny_mono (h s R) (fun _ _ x => x) fun _ _ x => x.elim

noncomputable def notStar : Expr → Bool
  | .Starred .. => false
  | _ => true
theorem starEach_not {e : Expr} {rest : List Expr} {env : Env} (h : notStar e = true) : starEach (e :: rest) env = (false, eval e env) :: starEach rest env := by
  cases e <;> first | rfl | cases h
noncomputable def noStar (es : List Expr) : Bool := es.all notStar
theorem noStar_any {pos : Pos} {env : Env} : ∀ {es : List Expr}, noStar es = true → (backTo pos (starEach es env)).any (·.1) = false
  | [], _ => rfl
  | e :: r, h => by
    have := Bool.and_eq_true_iff.mp (show (notStar e && r.all notStar) = true from h)
    rw [starEach_not this.1]
    show (false || (backTo pos (starEach r env)).any (·.1)) = false
    rw [Bool.false_or]
    exact noStar_any this.2
theorem noStar_head {env : Env} {es : List Expr} (h : noStar es = true) : es = [] ∨ ∃ e rest, es = e :: rest ∧ starEach (e :: rest) env = (false, eval e env) :: starEach rest env := by
  cases es with
  | nil => exact .inl rfl
  | cons e r => exact .inr ⟨e, r, rfl, starEach_not (Bool.and_eq_true_iff.mp (show (notStar e && r.all notStar) = true from h)).1⟩
noncomputable def notCall : Expr → Bool
  | .Call (.Name ..) _ _ _ => false
  | _ => true
theorem base_not {o : Expr} {attr : Str} {env : Env} {whole : Sem Value} (h : notCall o = true) : attributeBase o attr env whole = whole := by
  cases o with
  | Call f _ _ _ => cases f <;> first | rfl | cases h
  | _ => first | rfl | cases h
noncomputable def Cx.Bin (c : Cx) (E : Value → Shared → Prop) (op : Operator) (a b : V) (Q : V → St → Prop) (σ : St) : Prop := ∀ x y, VRel a x → VRel b y → c.W E VRel (binaryOp op x y) Q σ
noncomputable def Cx.Aug (c : Cx) (E : Value → Shared → Prop) (op : Operator) (a b : V) (Q : V → St → Prop) (σ : St) : Prop := ∀ x y, VRel a x → VRel b y → c.W E VRel (inplaceOp op x y) Q σ
noncomputable def Cx.Cmp (c : Cx) (E : Value → Shared → Prop) (op : CmpOp) (a b : V) (Q : V → St → Prop) (σ : St) : Prop := ∀ x y, VRel a x → VRel b y → c.W E VRel (compareOp op x y) Q σ
noncomputable def Cx.Tru (c : Cx) (E : Value → Shared → Prop) (a : V) (Q : Bool → St → Prop) (σ : St) : Prop := ∀ x, VRel a x → c.W E OnE (truthy x) Q σ
noncomputable def Cx.Una (c : Cx) (E : Value → Shared → Prop) (op : UnaryOp) (a : V) (Q : V → St → Prop) (σ : St) : Prop := ∀ x, VRel a x → c.W E VRel (unaryOp op x) Q σ
noncomputable def Cx.Get (c : Cx) (E : Value → Shared → Prop) (a : V) (n : Str) (Q : V → St → Prop) (σ : St) : Prop := ∀ x, VRel a x → c.W E VRel (getAttr x n true) Q σ
noncomputable def Cx.Put (c : Cx) (E : Value → Shared → Prop) (a : V) (n : Str) (b : V) (Q : Unit → St → Prop) (σ : St) : Prop := ∀ x y, VRel a x → VRel b y → c.W E OnE (setAttr x n y) Q σ
noncomputable def Cx.Call (c : Cx) (E : Value → Shared → Prop) (f : Value) (as : List V) (Q : V → St → Prop) (σ : St) : Prop := ∀ xs, VsRel as xs → c.W E VRel (call f xs) Q σ
noncomputable def Cx.Seti (c : Cx) (E : Value → Shared → Prop) (a i b : V) (Q : Unit → St → Prop) (σ : St) : Prop := ∀ x y z, VRel a x → VRel i y → VRel b z → c.W E OnE (setItem x y z) Q σ
noncomputable def Cx.Store (c : Cx) (E : Value → Shared → Prop) (n : Str) (b : V) (Q : Unit → St → Prop) (σ : St) : Prop := ∀ y, VRel b y → c.W E OnE (storeName c.env n y) Q σ
inductive Fl where
  | next | brk | cont | ret (v : V)
noncomputable def FRel : Fl → Flow → Prop
  | .next, f => f = .next
  | .brk, f => f = .brk
  | .cont, f => f = .cont
  | .ret v, f => ∃ w, f = .ret w ∧ VRel v w
noncomputable abbrev Cx.Ev (c : Cx) (X : Value → Shared → Prop) (e : Expr) (Q : V → St → Prop) (σ : St) : Prop := c.W X VRel (eval e c.env) Q σ
noncomputable abbrev Cx.Es (c : Cx) (X : Value → Shared → Prop) (pos : Pos) (es : List Expr) (Q : List V → St → Prop) (σ : St) : Prop := c.W X VsRel (spliced (backTo pos (starEach es c.env))) Q σ
noncomputable abbrev Cx.Te (c : Cx) (X : Value → Shared → Prop) (e : Expr) (Q : Bool → St → Prop) (σ : St) : Prop := c.W X OnE (isTrue e c.env (eval e c.env)) Q σ
noncomputable abbrev Cx.All (c : Cx) (X : Value → Shared → Prop) (op : BoolOp) (es : List Expr) (Q : Bool → St → Prop) (σ : St) : Prop := c.W X OnE (allTrue op es c.env) Q σ
noncomputable abbrev Cx.S (c : Cx) (X : Value → Shared → Prop) (s : Stmt) (Q : Fl → St → Prop) (σ : St) : Prop := c.W X FRel (exec s c.env) Q σ
noncomputable abbrev Cx.Ss (c : Cx) (X : Value → Shared → Prop) (ss : List Stmt) (Q : Fl → St → Prop) (σ : St) : Prop := c.W X FRel (execs ss c.env) Q σ

variable {Q : V → St → Prop}
theorem w_none {k pos} (h : Q .none σ) : c.Ev E (.Constant .none k pos) Q σ := fun _ R => wpAny_Constant_none ⟨.none, σ, rfl, R, h⟩
theorem w_bool {b k pos} (h : Q (.bool b) σ) : c.Ev E (.Constant (.bool b) k pos) Q σ := fun _ R => wpAny_Constant_bool ⟨.bool b, σ, rfl, R, h⟩
theorem w_int {i k pos} (h : Q (.int i) σ) : c.Ev E (.Constant (.int i) k pos) Q σ := fun _ R => wpAny_Constant_int ⟨.int i, _, ⟨_, rfl⟩, R.tok _, h⟩
theorem w_bytes {x k pos} (h : Q (.bytes x.toArray) σ) : c.Ev E (.Constant (.bytes x) k pos) Q σ := fun _ R _ _ _ => ⟨.bytes x.toArray, _, ⟨_, rfl⟩, R.tok _, h⟩
theorem w_local {x : Str} {pos} {v : V} (e : σ.m x = some v) (h : Q v σ) : c.Ev E (.Name x pos) Q σ := fun s R => by
  obtain ⟨g, m, F, l⟩ := R.loc
  obtain ⟨⟨hk, hd⟩, w, hm, hv⟩ := l x v e
  exact wpAny_Name (wpAny_loadName_local (env := c.env) R.ke hk F.ns hm ⟨v, σ, hv, R, h⟩) hd
theorem w_glob {x : Str} {pos} {u : Value} {v : V} (e : nsIn c.D.K mainGlobals x = some (some u)) (hv : VRel v u) (hk : c.env.kindOf x = some .globalImplicit) (h : Q v σ) (hd : (x == ("__debug__" : Str)) = false := by decide) : c.Ev E (.Name x pos) Q σ := fun s R => by
  exact Name_function_global R.ke hk (loadGlobal_global (env := c.env) (R.top.g) (mg_of R.kin R.top.g e) ⟨v, σ, hv, R, h⟩) hd
theorem w_blt {x : Str} {pos} {u : Value} (e : nsIn c.D.K mainGlobals x = some none) (hv : bootBuiltins x = some u) (hn : x ≠ "__name__") (hk : c.env.kindOf x = some .globalImplicit) (h : Q (.raw u) σ) (hd : (x == ("__debug__" : Str)) = false := by decide) : c.Ev E (.Name x pos) Q σ := fun s R => by
  exact Name_function_global R.ke hk (loadGlobal_builtin (env := c.env) R.top.g (mg_none_of R.kin R.top.g e) R.top.b ((R.top.builtins x hn).trans hv) ⟨.raw u, σ, rfl, R, h⟩) hd
theorem w_cell {x : Str} {pos} {a : Addr} {v : V} (hc : c.cl.lookup x = some a) (e : σ.H a = some (.cell (some v))) (hk : c.env.kindOf x = some .cell) (h : Q v σ) (hd : (x == ("__debug__" : Str)) = false := by decide) : c.Ev E (.Name x pos) Q σ := fun s R => by
  obtain ⟨g, δ, D⟩ := R.hp
  obtain ⟨o, ow, ho, hd', w, rfl, hv⟩ := D.at_ a _ e
  exact wpAny_Name (wpAny_loadName_cell R.ke hk hc ⟨o, ho, hd'⟩ ⟨v, σ, hv, R, h⟩) hd
theorem w_bin {l op r pos} (h : c.Ev E l (fun a σ₁ => c.Ev E r (fun b σ₂ => c.Bin E op a b Q σ₂) σ₁) σ) : c.Ev E (.BinOp l op r pos) Q σ :=
  fun s R => wpAny_BinOp (wpAny_mono (h s R) (fun x s₁ ⟨_, _, hx, R₁, h₁⟩ => wpAny_mono (h₁ s₁ R₁) (fun y s₂ ⟨_, _, hy, R₂, h₂⟩ => h₂ x y hx hy s₂ R₂) fun _ _ e => e) fun _ _ e => e)
theorem w_cmp {l op r pos} (h : c.Ev E l (fun a σ₁ => c.Ev E r (fun b σ₂ => c.Cmp E op a b Q σ₂) σ₁) σ) (hm : behindInMarks op r = false := by with_unfolding_all rfl) : c.Ev E (.Compare l [op] [r] pos) Q σ :=
  fun s R => wpAny_Compare1 (wpAny_mono (h s R) (fun x s₁ ⟨_, _, hx, R₁, h₁⟩ => wpAny_mono (h₁ s₁ R₁) (fun y s₂ ⟨_, _, hy, R₂, h₂⟩ => h₂ x y hx hy s₂ R₂) fun _ _ e => e) fun _ _ e => e) hm
theorem w_una {op x pos} (h : c.Ev E x (fun a σ₁ => c.Una E op a Q σ₁) σ) : c.Ev E (.UnaryOp op x pos) Q σ :=
  fun s R => wpAny_UnaryOp (wpAny_mono (h s R) (fun x s₁ ⟨_, _, hx, R₁, h₁⟩ => h₁ x hx s₁ R₁) fun _ _ e => e)
theorem w_and2 {x y pos} (h : c.Ev E x (fun a σ₁ => c.Tru E a (fun b σ₂ => if b then c.Ev E y Q σ₂ else Q a σ₂) σ₁) σ) : c.Ev E (.BoolOp .And [x, y] pos) Q σ :=
  fun s R => wpAny_And2 (wpAny_mono (h s R) (fun x s₁ ⟨a, _, hx, R₁, h₁⟩ => wpAny_mono (h₁ x hx s₁ R₁) (fun b s₂ ⟨b', σ₂, hb, R₂, h₂⟩ => by
    cases hb
    cases b with
    | true => rw [if_pos rfl] at h₂ ⊢; exact h₂ s₂ R₂
    | false => rw [if_neg (by decide)] at h₂ ⊢; exact ⟨a, σ₂, hx, R₂, h₂⟩) fun _ _ e => e) fun _ _ e => e)
theorem w_or2 {x y pos} (h : c.Ev E x (fun a σ₁ => c.Tru E a (fun b σ₂ => if b then Q a σ₂ else c.Ev E y Q σ₂) σ₁) σ) : c.Ev E (.BoolOp .Or [x, y] pos) Q σ :=
  fun s R => wpAny_Or2 (wpAny_mono (h s R) (fun x s₁ ⟨a, _, hx, R₁, h₁⟩ => wpAny_mono (h₁ x hx s₁ R₁) (fun b s₂ ⟨b', σ₂, hb, R₂, h₂⟩ => by
    cases hb
    cases b with
    | true => rw [if_pos rfl] at h₂ ⊢; exact ⟨a, σ₂, hx, R₂, h₂⟩
    | false => rw [if_neg (by decide)] at h₂ ⊢; exact h₂ s₂ R₂) fun _ _ e => e) fun _ _ e => e)
theorem w_es_nil {pos} {Q : List V → St → Prop} (h : Q [] σ) : c.Es E pos [] Q σ := fun _ R => wpAny_items_nil ⟨[], σ, trivial, R, h⟩
theorem w_es_cons {pos e rest} {Q : List V → St → Prop} (h : c.Ev E e (fun v σ₁ => c.Es E pos rest (fun vs σ₂ => Q (v :: vs) σ₂) σ₁) σ) (he : notStar e = true := by with_unfolding_all rfl) : c.Es E pos (e :: rest) Q σ :=
  fun s R => wpAny_items_cons (wpAny_mono (h s R) (fun x s₁ ⟨v, _, hx, R₁, h₁⟩ => wpAny_mono (h₁ s₁ R₁) (fun y s₂ ⟨vs, σ₂, hy, R₂, h₂⟩ => ⟨v :: vs, σ₂, ⟨hx, hy⟩, R₂, h₂⟩) fun _ _ e => e) fun _ _ e => e) (starEach_not he)
theorem w_tuple {elts k pos} (h : c.Es E pos elts (fun vs σ₁ => vs.length ≤ 1000 ∧ ∀ n, σ₁.H n = none → Q (.ref n) (σ₁.set n (.tup vs))) σ) : c.Ev E (.Tuple elts k pos) Q σ :=
  fun s R => wpAny_Tuple (wpAny_mono (h s R) (fun xs s₁ ⟨vs, σ₁, hx, R₁, hl, h₁⟩ =>
    ⟨by rw [hx.length]; have := sizeLine_eq; (first | lia | omega), .ref s₁.heap.objs.size, σ₁.set s₁.heap.objs.size (.tup vs), rfl, R₁.new (tk := s₁.toks) (Nat.le_refl _) (fun b x e => Heap.get?_push_of_some _ e) (fun d => (show ∃ ws n, _ ∧ _ from ⟨xs.toArray, 0, Heap.get?_push_size _ rfl, by simpa using hx⟩)) rfl, h₁ _ (R₁.non (Nat.le_refl _))⟩) fun _ _ e => e)
theorem w_list {elts pos} (h : c.Es E pos elts (fun vs σ₁ => vs.length ≤ 1000 ∧ ∀ n, σ₁.H n = none → Q (.ref n) (σ₁.set n (.list vs))) σ) : c.Ev E (.List elts pos) Q σ :=
  fun s R => wpAny_List (wpAny_mono (h s R) (fun xs s₁ ⟨vs, σ₁, hx, R₁, hl, h₁⟩ =>
    ⟨by rw [hx.length]; have := sizeLine_eq; (first | lia | omega), .ref s₁.heap.objs.size, σ₁.set s₁.heap.objs.size (.list vs), rfl, R₁.new (tk := s₁.toks) (Nat.le_refl _) (fun b x e => Heap.get?_push_of_some _ e) (fun d => (show ∃ ws n, _ ∧ _ from ⟨xs.toArray, 0, Heap.get?_push_size _ rfl, by simpa using hx⟩)) rfl, h₁ _ (R₁.non (Nat.le_refl _))⟩) fun _ _ e => e)

variable {P : Bool → St → Prop}
theorem t_not {x pos} (h : c.Te E x (fun b σ₁ => P (!b) σ₁) σ) : c.Te E (.UnaryOp .Not x pos) P σ :=
  fun s R => wpAny_isTrue_Not (wpAny_mono (h s R) (fun b s₁ ⟨b', σ₁, hb, R₁, h₁⟩ => by cases hb; exact ⟨_, σ₁, rfl, R₁, h₁⟩) fun _ _ e => e)
theorem t_cmp {l op r pos} (h : c.Ev E l (fun a σ₁ => c.Ev E r (fun b σ₂ => c.Cmp E op a b (fun v σ₃ => c.Tru E v P σ₃) σ₂) σ₁) σ) (hm : behindInMarks op r = false := by with_unfolding_all rfl) : c.Te E (.Compare l [op] [r] pos) P σ :=
  fun s R => wpAny_isTrue_Compare1 (wpAny_mono (h s R) (fun x s₁ ⟨_, _, hx, R₁, h₁⟩ => wpAny_mono (h₁ s₁ R₁) (fun y s₂ ⟨_, _, hy, R₂, h₂⟩ => wpAny_mono (h₂ x y hx hy s₂ R₂) (fun z s₃ ⟨_, _, hz, R₃, h₃⟩ => h₃ z hz s₃ R₃) fun _ _ e => e) fun _ _ e => e) fun _ _ e => e) hm
noncomputable def plainTest : Expr → Bool
  | .UnaryOp .. | .BoolOp .. | .IfExp .. | .Compare .. => false
  | _ => true
theorem test_not {e : Expr} {env : Env} {whole : Sem Value} (h : plainTest e = true) : isTrue e env whole = (do let v ← whole; standAt e.pos; holding [v] (truthy v)) := by
  cases e <;> first | rfl | cases h
theorem t_val {e : Expr} (h : c.Ev E e (fun v σ₁ => c.Tru E v P σ₁) σ) (he : plainTest e = true := by with_unfolding_all rfl) : c.Te E e P σ :=
  fun s R => wpAny_isTrue_value (wpAny_mono (h s R) (fun x s₁ ⟨_, _, hx, R₁, h₁⟩ => h₁ x hx s₁ R₁) fun _ _ e => e) (test_not he)
theorem t_bool {op values pos} (h : c.All E op values P σ) : c.Te E (.BoolOp op values pos) P σ := fun s R => wpAny_isTrue_BoolOp (h s R)
theorem a_or_nil (h : P false σ) : c.All E .Or [] P σ := fun _ R => wpAny_allTrue_Or_nil ⟨_, σ, rfl, R, h⟩
theorem a_and {x rest} (h : c.Te E x (fun b σ₁ => if b then c.All E .And rest P σ₁ else P false σ₁) σ) : c.All E .And (x :: rest) P σ :=
  fun s R => wpAny_allTrue_And_cons (wpAny_mono (h s R) (fun b s₁ ⟨b', σ₁, hb, R₁, h₁⟩ => by
    cases hb
    cases b with
    | true => rw [if_pos rfl] at h₁ ⊢; exact h₁ s₁ R₁
    | false => rw [if_neg (by decide)] at h₁ ⊢; exact ⟨_, σ₁, rfl, R₁, h₁⟩) fun _ _ e => e)
theorem a_or {x rest} (h : c.Te E x (fun b σ₁ => if b then P true σ₁ else c.All E .Or rest P σ₁) σ) : c.All E .Or (x :: rest) P σ :=
  fun s R => wpAny_allTrue_Or_cons (wpAny_mono (h s R) (fun b s₁ ⟨b', σ₁, hb, R₁, h₁⟩ => by
    cases hb
    cases b with
    | true => rw [if_pos rfl] at h₁ ⊢; exact ⟨_, σ₁, rfl, R₁, h₁⟩
    | false => rw [if_neg (by decide)] at h₁ ⊢; exact h₁ s₁ R₁) fun _ _ e => e)

variable {U : Fl → St → Prop}
theorem s_nil (h : U .next σ) : c.Ss E [] U σ := fun _ R => wpAny_execs_nil ⟨.next, σ, rfl, R, h⟩
noncomputable def Cx.Then (c : Cx) (E : Value → Shared → Prop) (rest : List Stmt) (U : Fl → St → Prop) : Fl → St → Prop
  | .next, σ => c.Ss E rest U σ
  | f, σ => U f σ
theorem th_next {rest} (h : c.Ss E rest U σ) : c.Then E rest U .next σ := h
theorem th_ret {rest} {v : V} (h : U (.ret v) σ) : c.Then E rest U (.ret v) σ := h
theorem s_cons {st rest} (h : c.S E st (c.Then E rest U) σ) : c.Ss E (st :: rest) U σ :=
  fun s R => wpAny_execs_cons (wpAny_mono (h s R) (fun f s₁ ⟨f', σ₁, hf, R₁, h₁⟩ => by
    cases f' with
    | next => cases hf; exact h₁ s₁ R₁
    | brk => cases hf; exact ⟨.brk, σ₁, rfl, R₁, h₁⟩
    | cont => cases hf; exact ⟨.cont, σ₁, rfl, R₁, h₁⟩
    | ret v => obtain ⟨w, rfl, hw⟩ := hf; exact ⟨.ret v, σ₁, ⟨w, rfl, hw⟩, R₁, h₁⟩) fun _ _ e => e)
theorem s_one {st} (h : c.S E st U σ) : c.Ss E [st] U σ := s_cons (h.mono fun f σ' x => by cases f <;> first | exact s_nil x | exact x)
theorem s_if {test body orelse pos} (h : c.Te E test (fun b σ₁ => if b then c.Ss E body U σ₁ else c.Ss E orelse U σ₁) σ) : c.S E (.If test body orelse pos) U σ :=
  fun s R => wpAny_If (wpAny_mono (h s R) (fun b s₁ ⟨b', σ₁, hb, R₁, h₁⟩ => by
    cases hb
    cases b with
    | true => rw [if_pos rfl] at h₁ ⊢; exact h₁ s₁ R₁
    | false => rw [if_neg (by decide)] at h₁ ⊢; exact h₁ s₁ R₁) fun _ _ e => e)
theorem s_ret {e pos} (h : c.Ev E e (fun v σ₁ => U (.ret v) σ₁) σ) : c.S E (.Return (some e) pos) U σ :=
  fun s R => wpAny_Return_some (wpAny_mono (h s R) (fun x s₁ ⟨v, σ₁, hx, R₁, h₁⟩ => ⟨.ret v, σ₁, ⟨x, rfl, hx⟩, R₁, h₁⟩) fun _ _ e => e)
theorem s_ret0 {pos} (h : U (.ret .none) σ) : c.S E (.Return none pos) U σ := fun _ R => wpAny_Return_none ⟨.ret .none, σ, ⟨_, rfl, rfl⟩, R, h⟩
noncomputable def notComp : Expr → Bool
  | .ListComp .. | .SetComp .. | .DictComp .. => false
  | _ => true
theorem swaps_not {e : Expr} {t : Option Expr} {n : Nat} {env : Env} (h : notComp e = true) : swapsWith e t n env = pure false := by
  cases e <;> first | rfl | cases h
theorem s_expr {e pos} (h : c.Ev E e (fun v σ₁ => (∀ a, v ≠ .ref a) ∧ (∀ w, v ≠ .raw w) ∧ U .next σ₁) σ) (hs : notComp e = true := by with_unfolding_all rfl) : c.S E (.Expr e pos) U σ :=
  fun s R => wpAny_Expr (wpAny_mono (h s R) (fun x s₁ ⟨v, σ₁, hx, R₁, h₁, h₂, h₃⟩ => by
    cases v with
    | none => cases hx; exact ⟨.next, σ₁, rfl, R₁, h₃⟩
    | bool b => cases hx; exact ⟨.next, σ₁, rfl, R₁, h₃⟩
    | int i => obtain ⟨t, rfl⟩ := hx; exact ⟨.next, σ₁, rfl, R₁, h₃⟩
    | str i => obtain ⟨t, rfl⟩ := hx; exact ⟨.next, σ₁, rfl, R₁, h₃⟩
    | bytes i => obtain ⟨t, rfl⟩ := hx; exact ⟨.next, σ₁, rfl, R₁, h₃⟩
    | ref a => exact absurd rfl (h₁ a)
    | raw w => exact absurd rfl (h₂ w)) fun _ _ e => e) (by show (c.sc.kind == .module && _) = false; rw [R.ke]; rfl) (swaps_not hs)
theorem s_assign {x p' value pos} (h : c.Ev E value (fun v σ₁ => c.Store E x v (fun _ σ₂ => U .next σ₂) σ₁) σ) (hs : notComp value = true := by with_unfolding_all rfl) : c.S E (.Assign [.Name x p'] value pos) U σ :=
  fun s R => wpAny_Assign_Name (wpAny_mono (h s R) (fun x s₁ ⟨_, _, hx, R₁, h₁⟩ => wpAny_mono (h₁ x hx s₁ R₁) (fun _ s₂ ⟨_, σ₂, _, R₂, h₂⟩ => ⟨.next, σ₂, rfl, R₂, h₂⟩) fun _ _ e => e) fun _ _ e => e) (swaps_not hs)
theorem s_assignA {o attr p' value pos} (h : c.Ev E value (fun v σ₁ => c.Ev E o (fun a σ₂ => c.Put E a attr v (fun _ σ₃ => U .next σ₃) σ₂) σ₁) σ) (hs : notComp value = true := by with_unfolding_all rfl) : c.S E (.Assign [.Attribute o attr p'] value pos) U σ :=
  fun s R => plainObj_wpAny_Assign_Attribute (wpAny_mono (h s R) (fun x s₁ ⟨_, _, hx, R₁, h₁⟩ => wpAny_mono (h₁ s₁ R₁) (fun y s₂ ⟨_, _, hy, R₂, h₂⟩ => wpAny_mono (h₂ y x hy hx s₂ R₂) (fun _ s₃ ⟨_, σ₃, _, R₃, h₃⟩ => ⟨.next, σ₃, rfl, R₃, h₃⟩) fun _ _ e => e) fun _ _ e => e) fun _ _ e => e) (swaps_not hs)
theorem s_aug {x p' op value pos} {v : V} (e : σ.m x = some v) (h : c.Ev E value (fun b σ₁ => c.Aug E op v b (fun r σ₂ => c.Store E x r (fun _ σ₃ => U .next σ₃) σ₂) σ₁) σ) : c.S E (.AugAssign (.Name x p') op value pos) U σ := fun s R => by
  obtain ⟨g, m, F, l⟩ := R.loc
  obtain ⟨⟨hk, _⟩, w, hm, hv⟩ := l x v e
  refine wpAny_AugAssign_Name (wpAny_loadName_local (env := c.env) R.ke hk F.ns hm ?_)
  exact wpAny_mono (h s R) (fun x s₁ ⟨_, _, hx, R₁, h₁⟩ => wpAny_mono (h₁ w x hv hx s₁ R₁) (fun y s₂ ⟨_, _, hy, R₂, h₂⟩ => wpAny_mono (h₂ y hy s₂ R₂) (fun _ s₃ ⟨_, σ₃, _, R₃, h₃⟩ => ⟨.next, σ₃, rfl, R₃, h₃⟩) fun _ _ e => e) fun _ _ e => e) fun _ _ e => e

variable {N : Unit → St → Prop}
theorem st_local {x : Str} {v : V} (hk : Lc c.env x) (h : N () (σ.up x v)) : c.Store E x v N σ := fun y hy s R => by
  obtain ⟨g, T, R⟩ := R
  obtain ⟨m, F, l⟩ := R.loc
  refine wpAny_storeName_local (env := c.env) hk.1 F.ns (fun h' hn hs => ⟨(), _, rfl, ⟨g, T, R.up F l hk hy (F.set hn hs) hs⟩, h⟩) ?_
  show (c.sc.kind == .class || (c.sc.kind == .module && c.L != mainGlobals)) = false
  rw [show c.sc.kind = .function from R.ok.ke]; rfl
theorem st_cell {x : Str} {a : Addr} {v : V} {o : Option V} (hk : c.env.kindOf x = some .cell) (hc : c.cl.lookup x = some a) (e : σ.H a = some (.cell o)) (h : N () (σ.set a (.cell (some v)))) : c.Store E x v N σ := fun y hy s R => by
  obtain ⟨g, δ, D⟩ := R.hp
  obtain ⟨ob, ow, ho, hd', _⟩ := D.at_ a _ e
  refine wpAny_storeName_cell (env := c.env) R.ke hk hc ⟨ob, ho, hd'⟩ fun h' hi hs => ⟨(), _, rfl, R.put (tk := s.toks) e hs (fun d => ?_) rfl, h⟩
  obtain ⟨o', h1, h2⟩ := hi
  exact ⟨o', some y, h1, h2, y, rfl, hy⟩

theorem b_add {i j : Int} (h : Q (.int (i + j)) σ) : c.Bin E .Add (.int i) (.int j) Q σ := by rintro _ _ ⟨t, rfl⟩ ⟨u, rfl⟩ s R; exact PyProof.Rows.add_int ⟨.int _, σ, ⟨_, rfl⟩, R.tok _, h⟩
theorem b_sub {i j : Int} (h : Q (.int (i - j)) σ) : c.Bin E .Sub (.int i) (.int j) Q σ := by rintro _ _ ⟨t, rfl⟩ ⟨u, rfl⟩ s R; exact PyProof.Rows.sub_int ⟨.int _, σ, ⟨_, rfl⟩, R.tok _, h⟩
theorem b_mod {i j : Int} (hj : j ≠ 0) (h : Q (.int (i.fmod j)) σ) : c.Bin E .Mod (.int i) (.int j) Q σ := by rintro _ _ ⟨t, rfl⟩ ⟨u, rfl⟩ s R; exact PyProof.Rows.mod_int' hj ⟨.int _, σ, ⟨_, rfl⟩, R.tok _, h⟩
theorem b_div {i j : Int} (hj : 0 < j ∧ j < 1073741824) (h : Q (.int (i.fdiv j)) σ) : c.Bin E .FloorDiv (.int i) (.int j) Q σ := by rintro _ _ ⟨t, rfl⟩ ⟨u, rfl⟩ s R; exact PyProof.Rows.floordiv_int (by (first | lia | omega)) ⟨.int _, σ, ⟨_, rfl⟩, R.tok _, h⟩ (.inl (PyProof.noPylong_small (by (first | lia | omega))))
theorem b_mul {i j : Int} (hm : IntMulOk i j) (h : Q (.int (i * j)) σ) : c.Bin E .Mult (.int i) (.int j) Q σ := by rintro _ _ ⟨t, rfl⟩ ⟨u, rfl⟩ s R; exact PyProof.Rows.mul_int ⟨.int _, σ, ⟨_, rfl⟩, R.tok _, h⟩ hm
theorem n_neg {i : Int} (h : Q (.int (-i)) σ) : c.Una E .USub (.int i) Q σ := by rintro _ ⟨t, rfl⟩ s R; exact PyProof.Rows.neg_int ⟨.int _, σ, ⟨_, rfl⟩, R.tok _, h⟩
theorem tr_bool {b : Bool} (h : P b σ) : c.Tru E (.bool b) P σ := by rintro _ rfl s R; exact wpAny_truthy_bool ⟨b, σ, rfl, R, h⟩
theorem kof {sc : Scope} {x : Str} {k : NameKind} (h : c.sc = sc) (e : sc.names.lookup x = some k) : c.env.kindOf x = some k := by subst h; exact e
theorem lof {sc : Scope} {x : Str} (h : c.sc = sc) (e : sc.names.lookup x = some .local ∧ (x == ("__debug__" : Str)) = false) : Lc c.env x := by subst h; exact e
theorem br_t {A B : Prop} (h : A) : if (true = true) then A else B := h
theorem br_f {A B : Prop} (h : B) : if (false = true) then A else B := h
theorem br_d {p : Prop} [Decidable p] {A B : Prop} (h : p → A) (k : ¬ p → B) : if (decide p = true) then A else B := by
  by_cases q : p
  · rw [decide_eq_true q]; exact h q
  · rw [decide_eq_false q]; exact k q
theorem br_nd {p : Prop} [Decidable p] {A B : Prop} (h : ¬ p → A) (k : p → B) : if ((!decide p) = true) then A else B := by
  by_cases q : p
  · rw [decide_eq_true q]; exact k q
  · rw [decide_eq_false q]; exact h q
theorem br_eq {i j : Int} {A B : Prop} (h : i = j → A) (k : i ≠ j → B) : if ((i == j) = true) then A else B := by
  by_cases q : i = j
  · rw [beq_iff_eq.mpr q]; exact h q
  · rw [beq_eq_false_iff_ne.mpr q]; exact k q
theorem br_ne {i j : Int} {A B : Prop} (h : i ≠ j → A) (k : i = j → B) : if ((i != j) = true) then A else B := by
  by_cases q : i = j
  · rw [q, bne_self_eq_false]; exact k q
  · rw [bne_iff_ne.mpr q]; exact h q
theorem br_b {b : Bool} {A B : Prop} (h : b = true → A) (k : b = false → B) : if (b = true) then A else B := by
  cases b
  · exact k rfl
  · exact h rfl
theorem br_nb {b : Bool} {A B : Prop} (h : b = false → A) (k : b = true → B) : if ((!b) = true) then A else B := by
  cases b
  · exact h rfl
  · exact k rfl
end
end Rk

end
section
namespace Rk
structure Plain (K : Frag) (C : Addr) : Prop where
  ga : findIn K (.ref C) "__getattribute__" = some (some (.builtin "object.__getattribute__"))
  gt : findIn K (.ref C) "__getattr__" = some none
  sa : findIn K (.ref C) "__setattr__" = some (some (.builtin "object.__setattr__"))
  po : plainOver K C = true
  hd : hasDictIn K C = true
  mks : makesIn K C = true
noncomputable def fput (n : Str) (v : V) : List (Str × V) → List (Str × V)
  | [] => [(n, v)]
  | f :: r => if f.1 == n then (f.1, v) :: r else f :: fput n v r
noncomputable def fget (n : Str) : List (Str × V) → Option V
  | [] => none
  | f :: r => if f.1 == n then some f.2 else fget n r
theorem isStr_of {e : DictEntry} {x n : Str} (h : ∃ t, e.key = .str x t) : e.key.isStr n = (x == n) := by obtain ⟨t, h⟩ := h; rw [h]; rfl
theorem fget_rel {n : Str} {v : V} : ∀ {fs : List (Str × V)} {es : List DictEntry}, FsRel fs es → fget n fs = some v → ∃ w, getL n es = some (some w) ∧ VRel v w
  | [], [], _, h => by cases h
  | f :: fs, e :: es, ⟨hk, hv, hr⟩, h => by
    unfold fget at h
    unfold getL
    rw [List.find?_cons, isStr_of hk]
    cases q : (f.1 == n) with
    | true => rw [q, if_pos rfl] at h; cases h; exact ⟨_, rfl, hv⟩
    | false =>
      rw [q, if_neg (by decide)] at h
      obtain ⟨w, h1, h2⟩ := fget_rel hr h
      refine ⟨w, ?_, h2⟩
      unfold getL at h1
      dsimp only
      split at h1
      · rename_i e' he'; rw [he']; exact h1
      · rename_i hn
        split at h1 <;> cases h1
  | [], _ :: _, h, _ => h.elim
  | _ :: _, [], h, _ => h.elim
theorem nokey_rel {n : Str} : ∀ {fs : List (Str × V)} {es : List DictEntry}, FsRel fs es → fget n fs = none → getL n es = some none
  | [], [], _, _ => rfl
  | f :: fs, e :: es, ⟨hk, hv, hr⟩, h => by
    unfold fget at h
    unfold getL
    rw [List.find?_cons, isStr_of hk]
    cases q : (f.1 == n) with
    | true => rw [q, if_pos rfl] at h; cases h
    | false =>
      rw [q, if_neg (by decide)] at h
      have h1 := nokey_rel hr h
      unfold getL at h1
      have hq : e.refKey = false := by obtain ⟨t, hk⟩ := hk; unfold DictEntry.refKey; rw [hk]
      dsimp only
      split at h1
      · cases h1
      · rename_i hn
        rw [hn]
        dsimp only
        rw [List.any_cons, hq, Bool.false_or]
        exact h1
  | [], _ :: _, h, _ => h.elim
  | _ :: _, [], h, _ => h.elim
theorem getL_some {n : Str} {fs : List (Str × V)} {es : List DictEntry} (R : FsRel fs es) : (getL n es).isSome = true := by
  cases h : fget n fs with
  | none => rw [nokey_rel R h]; rfl
  | some v => obtain ⟨w, h1, _⟩ := fget_rel R h; rw [h1]; rfl
theorem fput_rel {n : Str} {v : V} {w : Value} {hsh : Int} {t : Tok} (hv : VRel v w) : ∀ {fs : List (Str × V)} {es : List DictEntry}, FsRel fs es → FsRel (fput n v fs) (putL n hsh (.str n t) w es)
  | [], [], _ => ⟨⟨t, rfl⟩, hv, trivial⟩
  | f :: fs, e :: es, ⟨hk, hv', hr⟩ => by
    unfold fput putL
    rw [isStr_of hk]
    cases q : (f.1 == n) with
    | true => exact ⟨hk, hv, hr⟩
    | false => exact ⟨hk, hv', fput_rel hv hr⟩
  | [], _ :: _, h => h.elim
  | _ :: _, [], h => h.elim
theorem FsRel.length : ∀ {fs : List (Str × V)} {es : List DictEntry}, FsRel fs es → es.length = fs.length
  | [], [], _ => rfl
  | _ :: _, _ :: _, h => by rw [List.length_cons, List.length_cons, FsRel.length h.2.2]
  | [], _ :: _, h => h.elim
  | _ :: _, [], h => h.elim
noncomputable def V.plain : V → Bool
  | .raw _ => false
  | _ => true
theorem V.handed {v : V} {w : Value} (h : VRel v w) (p : v.plain = true) : handedIn w = true := by
  cases v with
  | raw x => cases p
  | none => cases h; rfl
  | bool b => cases h; rfl
  | int i => obtain ⟨t, rfl⟩ := h; rfl
  | str i => obtain ⟨t, rfl⟩ := h; rfl
  | bytes i => obtain ⟨t, rfl⟩ := h; rfl
  | ref a => cases h; rfl
section
variable {c : Cx} {E : Value → Shared → Prop} {σ : St} {a C : Addr} {fs : List (Str × V)} {n : Str} {v : V} {Q : V → St → Prop} {N : Unit → St → Prop}
theorem Rel0.inst {s : Shared} (R : Rel0 c σ s) (e : σ.H a = some (.inst C fs)) : ∃ d es k, InstAt s.heap a (instObj C d) C (some (dictOf es k)) ∧ FsRel fs es ∧ s.heap.get? d = some (dictOf es k) ∧ d ≠ c.L ∧ c.h₀.get? d = none ∧
    ∃ δ, RelD c.h₀ c.L δ σ.H s.heap ∧ δ a = d := by
  obtain ⟨δ, D⟩ := R.hp
  obtain ⟨h1, es, k, h2, h3⟩ := D.at_ a _ e
  have z := D.doff a _ e rfl
  exact ⟨δ a, es, k, ⟨h1, rfl, rfl, h2⟩, h3, h2, z.1, z.2.1, δ, D, rfl⟩
theorem g_field {ex : Bool} (e : σ.H a = some (.inst C fs)) (P : Plain c.D.K C) (hn : findIn c.D.K (.ref C) n = some none) (hf : fget n fs = some v) (hp : v.plain = true) (h : Q v σ) : c.W E VRel (getAttr (.ref a) n ex) Q σ := fun s R => by
  have R₀ := R
  obtain ⟨g, T, R⟩ := R
  obtain ⟨m, F⟩ := R.fr
  obtain ⟨d, es, k, I, hr, _⟩ := R.inst e
  obtain ⟨w, h1, h2⟩ := fget_rel hr hf
  exact get_own (prog := c.D.prog) (w := c.D.w) F R.ok.X I (by unfold plainGet; simp only [Cx.at]; rw [P.ga, P.gt]; rfl) P.hd hn rfl h1 (V.handed h2 hp) ⟨v, σ, h2, R₀.tok _, h⟩
theorem get_field (e : σ.H a = some (.inst C fs)) (P : Plain c.D.K C) (hn : findIn c.D.K (.ref C) n = some none) (hf : fget n fs = some v) (hp : v.plain = true) (h : Q v σ) : c.Get E (.ref a) n Q σ := by
  rintro _ rfl; exact g_field e P hn hf hp h
theorem put_field {b : V} (e : σ.H a = some (.inst C fs)) (P : Plain c.D.K C) (hn : findIn c.D.K (.ref C) n = some none) (hl : fs.length ≤ 900) (h : N () (σ.set a (.inst C (fput n b fs)))) : c.Put E (.ref a) n b N σ := by
  rintro _ y rfl hy s R
  obtain ⟨g, T, R⟩ := R
  obtain ⟨m, F, l⟩ := R.loc
  obtain ⟨d, es, k, I, hr, hd, dL, d0, δ, D, rfl⟩ := R.inst e
  have ht : takerIn c.D.K C n = some none := by unfold takerIn; rw [hn]; rfl
  have hlen : (putL n (PyData.keyHash c.D.w.params n) (.str n (s.toks + 1)) y es).length ≤ 1000 := by
    have h1 := (fput_rel (n := n) (hsh := PyData.keyHash c.D.w.params n) (t := s.toks + 1) hy hr).length
    have h2 : ∀ (fs : List (Str × V)), (fput n b fs).length ≤ fs.length + 1 := by
      intro fs
      induction fs with
      | nil => exact Nat.le_refl _
      | cons f r ih => unfold fput; split <;> simp only [List.length_cons] <;> (first | lia | omega)
    have := h2 fs
    (first | lia | omega)
  refine set_dict (prog := c.D.prog) (w := c.D.w) F R.ok.X ledg_news I rfl P.sa P.po ht P.hd (getL_some hr) rfl (upd_of _ (ledg_nodup _ _ _) (ledg_mem.mpr ⟨dL, d0, hd⟩)) hlen fun h' F' N' => ?_
  exact ⟨(), σ.set a (.inst C (fput n b fs)), rfl, ⟨g, T, R.ok, ⟨m, F', l⟩, ⟨δ, D.putI e (keep_of_upd N') (got_of_upd N' dL d0 hd) (fput_rel hy hr)⟩, R.g, R.d, R.o⟩, h⟩
theorem att {e : Expr} {attr pos} (h : c.Ev E e (fun v σ₁ => c.Get E v attr Q σ₁) σ) (hb : notCall e = true := by with_unfolding_all rfl) : c.Ev E (.Attribute e attr pos) Q σ := fun s R => by
  show wpAny _ _ (do
    let o ← attributeBase e attr c.env (eval e c.env)
    standAt pos.atName
    let r ← holding [o] (getAttr o attr true)
    letTemporaryGo e o r
    pure r) _ _ _
  rw [base_not hb]
  exact wpAny_bind (wpAny_mono (h s R) (fun x s₁ ⟨_, _, hx, R₁, h₁⟩ => wpAny_bind (wpAny_standAt (wpAny_bind (wpAny_holding (wpAny_mono (h₁ x hx s₁ R₁) (fun r s₂ h₂ => wpAny_bind (wpAny_letTemporaryGo (wpAny_pure h₂))) fun _ _ e => e))))) fun _ _ e => e)
end
end Rk

end
section
set_option tactic.hygienic false
namespace Rk
noncomputable def hid (h₀ : Heap) (L : Addr) (h : Heap) : List Addr := (List.range h.objs.size).filter fun a => !(a == L) && (h₀.get? a).isNone
noncomputable def ground (h₀ : Heap) (L : Addr) (h : Heap) : Heap := hideAll h (hid h₀ L h)
theorem hid_mem {h₀ h : Heap} {L a : Addr} : a ∈ hid h₀ L h ↔ a < h.objs.size ∧ a ≠ L ∧ h₀.get? a = none := by
  unfold hid
  rw [List.mem_filter, List.mem_range]
  constructor
  · rintro ⟨h1, h2⟩
    have := Bool.and_eq_true_iff.mp h2
    refine ⟨h1, fun e => ?_, by simpa using this.2⟩
    rw [e] at this; simp at this
  · rintro ⟨h1, h2, h3⟩
    refine ⟨h1, ?_⟩
    rw [h3, beq_eq_false_iff_ne.mpr h2]; rfl
theorem ground_base {h₀ h : Heap} {L b : Addr} {o : Obj} (k : ∀ b o, h₀.get? b = some o → h.get? b = some o) (e : h₀.get? b = some o) : (ground h₀ L h).get? b = some o :=
  hideAll_get _ (k b o e) fun m => by have := (hid_mem.mp m).2.2; rw [e] at this; cases this
theorem ground_L {h₀ h : Heap} {L : Addr} {o : Obj} (e : h.get? L = some o) : (ground h₀ L h).get? L = some o := hideAll_get _ e fun m => (hid_mem.mp m).2.1 rfl
theorem ground_none {h₀ h : Heap} {L a : Addr} (hL : a ≠ L) (h0 : h₀.get? a = none) : (ground h₀ L h).get? a = none := by
  cases q : h.get? a with
  | none =>
    cases z : (ground h₀ L h).get? a with
    | none => rfl
    | some o => rw [of_hideAll _ z] at q; cases q
  | some o => exact hideAll_none _ (hid_mem.mpr ⟨Heap.lt_size q, hL, h0⟩)
theorem ground_of {h₀ h : Heap} {L b : Addr} {o : Obj} (e : (ground h₀ L h).get? b = some o) : h.get? b = some o := of_hideAll _ e
theorem ground_size {h₀ h : Heap} {L : Addr} : (ground h₀ L h).objs.size = h.objs.size := hideAll_size _ _

noncomputable def Cx.into (c : Cx) (s : Shared) (nm : Str) (sc : Scope) (f : Addr) (cd : Value) (cl : List (Str × Addr)) (L' : Addr) : Cx :=
  { c with A := c.A.deeper (envX nm sc L' f cd cl), A₀ := c.A, h₀ := ground c.h₀ c.L s.heap, outer := c.fl, nm := nm, sc := sc, L := L', fa := some f, cd := cd, cl := cl, frm := L', inn := false }
theorem Rel0.grd {c : Cx} {σ : St} {s : Shared} (R : Rel0 c σ s) : Below c.A c.base c.fl (ground c.h₀ c.L s.heap) ∧ c.D.K.In (ground c.h₀ c.L s.heap) ∧ Top c.D.p c.D.loose c.D.mean c.D.mg c.D.mb (ground c.h₀ c.L s.heap) ∧ KtsDicts (c.fl.filterMap (·.frame)) (ground c.h₀ c.L s.heap) := by
  obtain ⟨m, F⟩ := R.fr
  have st : c.h₀.StaysIn (ground c.h₀ c.L s.heap) := fun b o e => ground_base F.keep e
  refine ⟨⟨R.ok.fr, fun b o e => st b o (R.ok.B.stays b o e), ?_⟩, R.ok.X.keeps st, R.ok.T.keeps st, ?_⟩
  · have own := R.ok.own
    unfold Cx.fl
    cases hi : c.inn with
    | true =>
      simp only [if_true]
      exact (R.ok.B.frames).of_keeps fun b o e _ => ⟨o, st b o e, rfl⟩
    | false =>
      rw [hi] at own
      simp only [Bool.false_eq_true, if_false] at own ⊢
      have B₁ := pushX (env := c.env) R.ok.B F (congrArg some own) R.ok.ke
      exact funFrames_hideAll B₁.frames fun env he b hb hf => by
        have z := hid_mem.mp hb
        cases he with
        | head => exact z.2.1 ((Option.some.inj hf).symm.trans own)
        | tail _ he =>
          obtain ⟨L₁, o₁, hf₁, ho₁⟩ := funFrames_in R.ok.B.frames env he
          rw [hf₁] at hf
          rw [← Option.some.inj hf, ho₁] at z
          cases z.2.2
  · have own := R.ok.own
    have old : KtsDicts c.fs (ground c.h₀ c.L s.heap) := fun b hb => by
      obtain ⟨o, es, n, h1, h2⟩ := R.ok.ds b hb
      exact ⟨o, es, n, st b o h1, h2⟩
    unfold Cx.fl
    cases hi : c.inn with
    | true => simp only [if_true]; exact old
    | false =>
      rw [hi] at own
      simp only [Bool.false_eq_true, if_false] at own ⊢
      intro b hb
      have hb' : b ∈ (some c.frm).toList ++ c.fs := by simpa [Cx.env] using hb
      rcases List.mem_append.mp hb' with hb' | hb'
      · have : b = c.L := by rw [← own]; simpa using hb'
        subst this
        obtain ⟨oL, es, ep, hL, r⟩ := F.ns
        exact ⟨oL, es, ep, ground_L hL, r.1⟩
      · exact old b hb'
theorem Rel0.into_ok {c : Cx} {σ : St} {s : Shared} (R : Rel0 c σ s) {nm : Str} {sc : Scope} {f : Addr} {cd : Value} {cl : List (Str × Addr)} {L' : Addr} (hk : sc.kind = .function) : (c.into s nm sc f cd cl L').Ok :=
  ⟨R.grd.1, R.grd.2.1, R.grd.2.2.1, Around.frames_deeper R.ok.fr, rfl, hk, R.ok.XB, R.ok.TB, R.grd.2.2.2⟩
theorem Rel0.into {c : Cx} {σ : St} {s : Shared} (R : Rel0 c σ s) {nm : Str} {sc : Scope} {f : Addr} {cd : Value} {cl : List (Str × Addr)} {h₁ : Heap} {m' : Str → Option Value} {μ : Str → Option V} {tk : Nat} (hk : sc.kind = .function)
    (hns : h₁.Ns s.heap.objs.size m') (kp : ∀ b o, s.heap.get? b = some o → h₁.get? b = some o) (hm : ∀ x v, μ x = some v → Lc (envX nm sc s.heap.objs.size f cd cl) x ∧ ∃ w, m' x = some w ∧ VRel v w) :
    Rel0 (c.into s nm sc f cd cl s.heap.objs.size) ⟨μ, σ.H⟩ { s with heap := h₁, toks := tk } := by
  obtain ⟨m, F⟩ := R.fr
  obtain ⟨δ, D⟩ := R.hp
  refine ⟨R.into_ok hk, ⟨m', ⟨hns, fun b o e => kp _ _ (ground_of e), Nat.le_of_eq ground_size⟩, hm⟩, ⟨δ, (D.grow kp).at_, fun a o e => ?_, fun a o e i => ?_, D.inj⟩, R.g, R.d, R.o⟩
  · obtain ⟨x, hx⟩ := (D.at_ a o e).ex
    exact ⟨Nat.ne_of_lt (Heap.lt_size hx), ground_none (D.off a o e).1 (D.off a o e).2⟩
  · obtain ⟨es, n, hx⟩ := (D.at_ a o e).exD i
    have z := D.doff a o e i
    exact ⟨Nat.ne_of_lt (Heap.lt_size hx), ground_none z.1 z.2.1, z.2.2⟩
theorem Rel0.retreat {c : Cx} {σ : St} {s : Shared} (R : Rel0 c σ s) {g₁ : Heap} (T₁ : KtsTurn (c.fl.filterMap (·.frame)) (ground c.h₀ c.L s.heap) g₁) :
    ∃ g₂ m, KtsTurn c.fs c.h₀ g₂ ∧ (c.at g₂).Ok ∧ Fr g₂ c.L g₁ m ∧ (∀ x v, σ.m x = some v → Lc c.env x ∧ ∃ w, m x = some w ∧ VRel v w) ∧ ∀ b, g₁.get? b = none → g₂.get? b = none ∧ b ≠ c.L := by
  obtain ⟨m, F, l⟩ := R.loc
  have memL : ∀ b, b ∈ c.fl.filterMap (·.frame) → b = c.L ∨ b ∈ c.fs := fun b hb => by
    have own := R.ok.own
    unfold Cx.fl at hb
    cases hi : c.inn with
    | true => rw [hi] at hb; simp only [if_true] at hb; exact .inr hb
    | false =>
      rw [hi] at hb own
      simp only [Bool.false_eq_true, if_false] at hb own
      have hb' : b ∈ (some c.frm).toList ++ c.fs := by simpa [Cx.env] using hb
      rcases List.mem_append.mp hb' with hb' | hb'
      · exact .inl (by rw [← own]; simpa using hb')
      · exact .inr hb'
  have memF : ∀ b, b ∈ c.fs → b ∈ c.fl.filterMap (·.frame) := fun b hb => by
    unfold Cx.fl
    cases hi : c.inn with
    | true => simp only [if_true]; exact hb
    | false =>
      simp only [Bool.false_eq_true, if_false]
      rw [List.filterMap_cons]
      exact .tail _ hb
  have K := R.ok.B
  have noL : c.h₀.get? c.L = none := by
    cases q : c.h₀.get? c.L with
    | none => rfl
    | some o => exact absurd (Nat.lt_of_lt_of_le (Heap.lt_size q) F.above) (Nat.lt_irrefl _)
  obtain ⟨T, S⟩ := kts_turn_at (h := g₁) (fs := c.fs) (g := c.h₀)
    (fun b hb => by
      obtain ⟨_, o, ho, _⟩ := K.frames.mem hb
      exact ⟨o, ho⟩)
    (fun b o e nm => T₁.other b o (ground_base F.keep e) fun hm => by
      rcases memL b hm with z | z
      · rw [z, noL] at e; cases e
      · exact nm z)
    (fun b o e hm => T₁.frame b o (ground_base F.keep e) (memF b hm))
  have B₂ : Below c.A₀ c.base c.outer (ktsHeap g₁ c.fs c.h₀) := ⟨K.stack, fun b o e => T.other b o (K.stays b o e) (fun hm => by
    rw [(K.frames.mem hm).1] at e
    cases e), K.frames.of_keeps fun b o e _ => by
      obtain ⟨sl, hs⟩ := T.up e
      exact ⟨_, hs, rfl⟩⟩
  obtain ⟨oL, es, ep, hL, r⟩ := F.ns
  obtain ⟨sl, hL₁⟩ := T₁.up (ground_L hL)
  refine ⟨_, m, T, ⟨B₂, R.ok.XB.keeps B₂.stays, R.ok.TB.keeps B₂.stays, R.ok.fr, R.ok.own, R.ok.ke, R.ok.XB, R.ok.TB, R.ok.ds.turn T⟩, ⟨⟨_, es, ep, hL₁, r⟩, S, by rw [T.size]; exact F.above⟩, l, fun b e => ⟨?_, ?_⟩⟩
  · cases q : (ktsHeap g₁ c.fs c.h₀).get? b with
    | none => rfl
    | some o => rw [S b o q] at e; cases e
  · intro q; rw [q, hL₁] at e; cases e
theorem Rel0.out {c : Cx} {σ σ' : St} {s s' : Shared} (R : Rel0 c σ s) {nm : Str} {sc : Scope} {f : Addr} {cd : Value} {cl : List (Str × Addr)} {L' : Addr} (R' : Rel (c.into s nm sc f cd cl L') σ' s') : Rel c ⟨σ.m, σ'.H⟩ s' := by
  obtain ⟨g₁, T₁, R'⟩ := R'
  obtain ⟨g₂, m, T, ok, F₂, l, off⟩ := R.retreat T₁
  obtain ⟨m', F', _⟩ := R'.loc
  obtain ⟨δ, D⟩ := R'.hp
  obtain ⟨oL, es, ep, hL, r⟩ := F₂.ns
  refine ⟨g₂, T, ok, ⟨m, ⟨⟨oL, es, ep, F'.keep _ _ hL, r⟩, fun b o e => F'.keep _ _ (F₂.keep b o e), F₂.above⟩, l⟩, ⟨δ, D.at_, fun a o e => ?_, fun a o e i => ?_, D.inj⟩, R'.g, R'.d, R'.o⟩
  · have z := off a (D.off a o e).2
    exact ⟨z.2, z.1⟩
  · have z := D.doff a o e i
    have z' := off _ z.2.1
    exact ⟨z'.2, z'.1, z.2.2⟩
theorem Rel.out {c : Cx} {σ σ' : St} {s s' : Shared} {g : Heap} (T : KtsTurn c.fs c.h₀ g) (R : Rel0 (c.at g) σ s) {nm : Str} {sc : Scope} {f : Addr} {cd : Value} {cl : List (Str × Addr)} {L' : Addr} (R' : Rel ((c.at g).into s nm sc f cd cl L') σ' s') : Rel c ⟨σ.m, σ'.H⟩ s' := by
  obtain ⟨g₂, T₂, R₂⟩ := R.out R'
  exact ⟨g₂, T.trans T₂, R₂⟩

noncomputable def Fl.val : Fl → V
  | .ret v => v
  | _ => .none
noncomputable def mOf : List Str → List V → (Str → Option V) → Str → Option V
  | x :: xs, v :: vs, m => mOf xs vs fun y => if y = x then some v else m y
  | _, _, m => m
noncomputable def zOf : List Str → List Value → (Str → Option Value) → Str → Option Value
  | x :: xs, v :: vs, m => zOf xs vs fun y => if y = x then some v else m y
  | _, _, m => m
theorem zOf_eq (x : Str) : ∀ (ns : List Str) (xs : List Value) (m : Str → Option Value), zOf ns xs m x = ((ns.zip xs).reverse.lookup x).or (m x)
  | [], _, m => by cases ‹List Value› <;> rfl
  | _ :: _, [], m => rfl
  | n :: ns, w :: xs, m => by
    show zOf ns xs (fun y => if y = n then some w else m y) x = _
    rw [zOf_eq x ns xs, List.zip_cons_cons, List.reverse_cons, List.lookup_append]
    rw [Option.or_assoc]
    congr 1
    show (if x = n then some w else m x) = _
    by_cases h : x = n
    · subst h; simp [List.lookup]
    · rw [if_neg h, List.lookup_cons, beq_eq_false_iff_ne.mpr h]; rfl
theorem mOf_rel {P : Str → Prop} : ∀ {ns : List Str} {as : List V} {xs : List Value} {m : Str → Option V} {m' : Str → Option Value}, VsRel as xs → (∀ n ∈ ns, P n) → (∀ x v, m x = some v → P x ∧ ∃ w, m' x = some w ∧ VRel v w) →
    ∀ x v, mOf ns as m x = some v → P x ∧ ∃ w, zOf ns xs m' x = some w ∧ VRel v w
  | [], _, _, _, _, _, _, h => fun x v e => h x v (by cases ‹List V› <;> exact e)
  | _ :: _, [], [], _, _, _, _, h => h
  | n :: ns, a :: as, w :: xs, m, m', hx, hp, h => mOf_rel (ns := ns) hx.2 (fun y hy => hp y (.tail _ hy)) fun x v e => by
    by_cases q : x = n
    · subst q
      rw [if_pos rfl] at e ⊢
      cases e
      exact ⟨hp _ (.head _), w, rfl, hx.1⟩
    · rw [if_neg q] at e ⊢
      exact h x v e
  | _ :: _, [], _ :: _, _, _, h, _, _ => h.elim
  | _ :: _, _ :: _, [], _, _, h, _, _ => h.elim

structure Cx.Room (c : Cx) (d : Nat) : Prop where
  dep : c.A.depth + d ≤ 900
  un : c.A.units + 40 * d ≤ 9000
  hh : c.A.handled = none
noncomputable def Back (c : Cx) (m : Str → Option V) (Q : V → Hp → Prop) (r : Result) (s' : Shared) : Prop := match r with
  | .ok (.ret w) => ∃ v σ', VRel v w ∧ Rel c σ' s' ∧ σ'.m = m ∧ Q v σ'.H
  | _ => False
noncomputable def Fn (D : Wd) (d : Nat) (f : Addr) (as : List V) (Q : V → Hp → Prop) (H : Hp) : Prop :=
  ∀ (c : Cx) (m : Str → Option V), c.D = D → c.Room d → ∀ xs, VsRel as xs → ∀ s, Rel c ⟨m, H⟩ s → codeAny (model c.D.prog c.D.w) c.A (.call (.ref f) ⟨xs, []⟩) (Back c m Q) s
theorem Fn.use {c : Cx} {E : Value → Shared → Prop} {d : Nat} {f : Addr} {as : List V} {Q : V → St → Prop} {σ : St} (h : Fn c.D d f as (fun v H' => Q v ⟨σ.m, H'⟩) σ.H) (r : c.Room d) : c.Call E (.ref f) as Q σ :=
  fun xs hx s R => wpAny_call (codeAny_mono (h c σ.m rfl r xs hx s R) fun r s' b => by
    unfold Back at b
    rcases r with e | (_ | _ | _ | w)
    · exact b.elim
    · exact b.elim
    · exact b.elim
    · exact b.elim
    · obtain ⟨v, ⟨m', H'⟩, h1, h2, h3, h4⟩ := b
      cases h3
      exact ⟨v, _, h1, h2, h4⟩)

theorem fn_def {D : Wd} {d : Nat} {f : Addr} {as : List V} {Q : V → Hp → Prop} {H : Hp} {oc : Value} {od : Option Addr} {osl : Array (Option Value)} {name qual : Str} {params : Arguments} {body : List Stmt} {scope : Scope} {dV kV doc pm cdv ct : Value} {an : Option Addr}
    (hK : D.K.lookup f = some ⟨oc, od, .func (fnX name qual params body scope [] dV kV doc pm an cdv ct), osl⟩) (hcd : codeIn D.K cdv qual = true) (ns : List Str)
    (hb : ArF (fun xs => bindArgs (fnX name qual params body scope [] dV kV doc pm an cdv ct) ⟨xs, []⟩ = pure (ns.zip xs)) as.length []) (hl : ∀ n ∈ ns, scope.names.lookup n = some .local ∧ (n == ("__debug__" : Str)) = false) (hcell : ∀ x ∈ scope.names, x.2 ≠ .cell)
    (hco : scope.isCoroutine = false) (hgen : scope.isGenerator = false) (hk : scope.kind = .function)
    (h : ∀ c : Cx, c.D = D → c.nm = qual → c.sc = scope → c.cl = [] → c.Room d → c.Ss Nope body (fun fl σ' => Q fl.val σ'.H) ⟨mOf ns as fun _ => none, H⟩) : Fn D (d + 1) f as Q H := by
  intro c m hD hr xs hx s R
  subst hD
  obtain ⟨hr1, hr2, hr3⟩ := hr
  have R₀ := R
  obtain ⟨g, T, R⟩ := R
  refine codeAny_call_def (fd := fnX name qual params body scope [] dV kV doc pm an cdv ct) (body := body) (binds := ns.zip xs) (by show _ < 1000; (first | lia | omega)) (R.kin _ _ hK) rfl R.top.nolimit (codeRec_of R.kin hcd) rfl (BindsTo.of_eq (ar hb xs hx)) hcell
    (fun y hy => (hl _ (List.of_mem_zip hy).1).1) (fun h₁ hns kp => ?_) hco hgen hk
  have R₁ : Rel0 ((c.at g).into s qual scope f cdv [] s.heap.objs.size) ⟨mOf ns as fun _ => none, H⟩ { s with heap := h₁, toks := s.toks + (ns.zip xs).length } := R.into hk hns kp fun x v e => by
    obtain ⟨p, w, h1, h2⟩ := mOf_rel (P := fun n => scope.names.lookup n = some .local ∧ (n == ("__debug__" : Str)) = false) (m' := fun _ => none) hx hl (fun _ _ e => by cases e) x v e
    refine ⟨p, w, ?_, h2⟩
    rw [zOf_eq] at h1
    simpa using h1
  refine wpAny_mono (h ((c.at g).into s qual scope f cdv [] s.heap.objs.size) rfl rfl rfl rfl ⟨by show c.A.depth + 1 + d ≤ 900; (first | lia | omega), by show c.A.units + 3 + 40 * d ≤ 9000; (first | lia | omega), hr3⟩ _ R₁.rel) (fun fl s' ⟨fl', σ', hf, R', hq⟩ => ?_) fun _ _ e => e.elim
  refine (show Back c m Q (.ok (.ret _)) s' from ⟨fl'.val, ⟨m, σ'.H⟩, ?_, Rel.out T R R', rfl, hq⟩)
  cases fl' with
  | next => cases hf; rfl
  | brk => cases hf; rfl
  | cont => cases hf; rfl
  | ret v => obtain ⟨w, rfl, hw⟩ := hf; exact hw
end Rk

end
section
set_option tactic.hygienic false
namespace Rk
noncomputable def Kp (K : Frag) (f : Value) : Bool := match f with
  | .ref _ => keepIn K f
  | _ => true
theorem Kp.looks {K : Frag} {M : Model} {f : Value} (h : Kp K f = true) (hp : Heap) (X : K.In hp) : ∃ k, (k = Keeper.frame ∨ k = Keeper.machine ∨ k = Keeper.boundFrame) ∧ Looks M hp (keeperOf f) k := by
  cases f with
  | ref a => exact keeps_K (f := .ref a) (show keepIn K (.ref a) = true from h) hp X
  | _ => exact ⟨.machine, .inr (.inl rfl), Looks.of_pure rfl⟩
noncomputable def V.fn : V → Value
  | .ref a => .ref a
  | .raw w => w
  | _ => .none
noncomputable def VFn (v : V) (w : Value) : Prop := VRel v w
section
variable {c : Cx} {E : Value → Shared → Prop} {σ : St} {Q : V → St → Prop}
theorem callw {pos : Pos} {f : Value} {first : List V} {fxs : List Value} {args : List Expr} (hk : Kp c.D.K f = true) (hf : VsRel first fxs) (h : c.Es E pos args (fun vs σ₁ => c.Call E f (first ++ vs) Q σ₁) σ)
    (hs : noStar args = true) : c.W E VRel (callWith pos f fxs (backTo pos (starEach args c.env)) []) Q σ := fun s R => by
  refine callWith_of (P := c.D.K.In) (by rw [noStar_any hs]; rfl) (Kp.looks hk) ?_
  have z := h s R
  rcases noStar_head (env := c.env) hs with rfl | ⟨e, rest, rfl, he⟩
  · refine evalArgs_nil3 ⟨R.kin, ?_⟩
    have z' : wpAny (model c.D.prog c.D.w) c.A (pure [] : Sem (List Value)) (fun a s' => ∃ b σ', VsRel b a ∧ Rel c σ' s' ∧ c.Call E f (first ++ b) Q σ') E s := z
    intro Γ p hΓ
    obtain ⟨b, σ₁, hb, R₁, h₁⟩ := z' Γ p hΓ
    exact h₁ _ (hf.append hb) s R₁ Γ p hΓ
  · rw [he] at z ⊢
    refine evalArgs_plain (wpAny_mono z (fun xs s₁ ⟨vs, σ₁, hx, R₁, h₁⟩ => ⟨R₁.kin, h₁ _ (hf.append hx) s₁ R₁⟩) fun _ _ e => e)
theorem w_call {x : Str} {p pos : Pos} {args : List Expr} (h : c.Ev E (.Name x p) (fun v σ₁ => ∃ f, (∀ w, VRel v w → w = f) ∧ Kp c.D.K f = true ∧ c.Es E pos args (fun vs σ₂ => c.Call E f vs Q σ₂) σ₁) σ)
    (hs : noStar args = true := by with_unfolding_all rfl) : c.Ev E (.Call (.Name x p) args [] pos) Q σ := fun s R => by
  show wpAny _ _ (do callWith pos (← eval (.Name x p) c.env) [] (backTo pos (starEach args c.env)) []) _ _ _
  refine wpAny_bind (wpAny_mono (h s R) (fun w s₁ ⟨v, σ₁, hv, R₁, f, hf, hk, h₁⟩ => ?_) fun _ _ e => e)
  obtain rfl := hf w hv
  exact callw (first := []) (fxs := []) hk trivial h₁ hs s₁ R₁
theorem cv_ref {pos : Pos} {args : List Expr} {r : Addr} (hk : Kp c.D.K (.ref r) = true) (h : c.Es E pos args (fun vs σ₂ => c.Call E (.ref r) vs Q σ₂) σ) : ∃ f, (∀ w, VRel (.ref r) w → w = f) ∧ Kp c.D.K f = true ∧ c.Es E pos args (fun vs σ₂ => c.Call E f vs Q σ₂) σ := ⟨.ref r, fun _ x => x, hk, h⟩
theorem cv_raw {pos : Pos} {args : List Expr} {r : Value} (hk : Kp c.D.K r = true) (h : c.Es E pos args (fun vs σ₂ => c.Call E r vs Q σ₂) σ) : ∃ f, (∀ w, VRel (.raw r) w → w = f) ∧ Kp c.D.K f = true ∧ c.Es E pos args (fun vs σ₂ => c.Call E f vs Q σ₂) σ := ⟨r, fun _ x => x, hk, h⟩
noncomputable def Cx.Meth (c : Cx) (E : Value → Shared → Prop) (a : V) (n : Str) (P : Value → List V → St → Prop) (σ : St) : Prop :=
  ∀ x, VRel a x → ∀ pl : Sem Bool, c.W E (fun (b : Value × List V) (r : Value × List Value) => b.1 = r.1 ∧ VsRel b.2 r.2) (getMethod x n pl) (fun b σ' => P b.1 b.2 σ') σ
noncomputable def mOk (o : Expr) (args : List Expr) (apos pos : Pos) : Bool := notCall o && noStar args && decide (args.length < 30) && (apos.endLine == pos.line)
theorem meth_form {args : List Expr} {n : Nat} {pos : Pos} {env : Env} (h : noStar args = true) (hn : n < 30) : methodCallForm n (backTo pos (starEach args env)) (backToKw pos (keywordEach [] env)) = true := by
  have key : ∀ {es : List Expr}, noStar es = true → (backTo pos (starEach es env)).all (!·.1) = true := by
    intro es
    induction es with
    | nil => intro _; rfl
    | cons e r ih =>
      intro h
      have := Bool.and_eq_true_iff.mp (show (notStar e && r.all notStar) = true from h)
      rw [starEach_not this.1]
      show (!false && (backTo pos (starEach r env)).all (!·.1)) = true
      rw [ih this.2]; rfl
  unfold methodCallForm
  rw [key h]
  show (true && true && decide (n + 0 < 30)) = true
  simpa using hn
theorem w_meth {pos apos : Pos} {o : Expr} {name : Str} {args : List Expr} (h : c.Ev E o (fun a σ₁ => c.Meth E a name (fun f first σ₂ => Kp c.D.K f = true ∧ c.Es E pos args (fun vs σ₃ => c.Call E f (first ++ vs) Q σ₃) σ₂) σ₁) σ)
    (hm : mOk o args apos pos = true := by with_unfolding_all rfl) : c.Ev E (.Call (.Attribute o name apos) args [] pos) Q σ := fun s R => by
  obtain ⟨h123, h4⟩ := Bool.and_eq_true_iff.mp hm
  obtain ⟨h12, h3⟩ := Bool.and_eq_true_iff.mp h123
  obtain ⟨h1, h2⟩ := Bool.and_eq_true_iff.mp h12
  have hf : methodCallForm (args.length + ([] : List Keyword).length) (backTo pos (starEach args c.env)) (backToKw pos (keywordEach [] c.env)) = true := meth_form h2 (by have := of_decide_eq_true h3; simpa using this)
  refine methodCall_KW (pl := (do return (← importBound o c.env).getD true)) (wpAny_mono (h s R) (fun x s₁ ⟨a, σ₁, hx, R₁, h₁⟩ => wpAny_mono (h₁ x hx _ s₁ R₁) (fun fx s₂ ⟨⟨f, first⟩, σ₂, ⟨hf, hv⟩, R₂, hk, h₂⟩ => ?_) fun _ _ e => e) fun _ _ e => e) ?_
  · obtain ⟨f', fs⟩ := fx
    cases hf
    exact callw hk hv h₂ h2 s₂ R₂
  · show (do
      let ov ← attributeBase o name c.env (eval o c.env)
      standAt apos.atName
      methodCall o name apos pos c.env ov (args.length + ([] : List Keyword).length) (backTo pos (starEach args c.env)) (backToKw pos (keywordEach [] c.env))) = _
    rw [base_not h1]
    unfold methodCall calleeOf methodCallPos
    rw [hf, h4]
    rfl
theorem m_inst {a C f : Addr} {fs : List (Str × V)} {n : Str} {P : Value → List V → St → Prop} (e : σ.H a = some (.inst C fs)) (L : Plain c.D.K C) (hf : findIn c.D.K (.ref C) n = some (some (.ref f))) (ht : isFn c.D.K (.ref f) = true) (hn : fget n fs = none)
    (h : P (.ref f) [.ref a] σ) : c.Meth E (.ref a) n P σ := by
  rintro _ rfl pl s R
  have R₀ := R
  obtain ⟨g, T, R⟩ := R
  obtain ⟨m, F⟩ := R.fr
  obtain ⟨d, es, k, I, hr, _⟩ := R.inst e
  exact method_inst (prog := c.D.prog) (w := c.D.w) F R.ok.X I (by unfold plainGet; simp only [Cx.at]; rw [L.ga, L.gt]; rfl) hf ht (nokey_rel hr hn) ⟨(.ref f, [.ref a]), σ, ⟨rfl, rfl, trivial⟩, R₀, h⟩
theorem Rel.list {s : Shared} (R : Rel c σ s) {a : Addr} {vs : List V} (e : σ.H a = some (.list vs)) : ∃ ws k, s.heap.get? a = some (listOf ws k) ∧ VsRel vs ws.toList := by
  obtain ⟨g, δ, D⟩ := R.hp
  exact D.at_ a _ e
theorem Rel.tup {s : Shared} (R : Rel c σ s) {a : Addr} {vs : List V} (e : σ.H a = some (.tup vs)) : ∃ ws k, s.heap.get? a = some (tupOf ws k) ∧ VsRel vs ws.toList := by
  obtain ⟨g, δ, D⟩ := R.hp
  exact D.at_ a _ e
theorem m_append {a : Addr} {vs : List V} {P : Value → List V → St → Prop} (e : σ.H a = some (.list vs)) (h : P (.builtin "list.append") [.ref a] σ) : c.Meth E (.ref a) "append" P σ := by
  rintro _ rfl pl s R
  obtain ⟨ws, k, hg, _⟩ := R.list e
  exact getMethod_list_append hg rfl rfl ⟨(_, [.ref a]), σ, ⟨rfl, rfl, trivial⟩, R, h⟩
theorem c_append {a : Addr} {vs : List V} {v : V} (e : σ.H a = some (.list vs)) (hl : vs.length ≤ 100000) (h : Q .none (σ.set a (.list (vs ++ [v])))) : c.Call E (.builtin "list.append") [.ref a, v] Q σ := by
  intro xs hx s R
  replace hx := vr2 hx
  obtain ⟨x, y, rfl, hx, hy⟩ := hx
  cases hx
  obtain ⟨ws, k, hg, hr⟩ := R.list e
  obtain ⟨g, T, R⟩ := R
  obtain ⟨m, F, l⟩ := R.loc
  obtain ⟨δ, D⟩ := R.hp
  have z := D.off a _ e
  refine append_K (prog := c.D.prog) (w := c.D.w) F ledg_news (upd_of (listOf (ws.push y) (k + 1)) (ledg_nodup _ _ _) (ledg_mem.mpr ⟨z.1, z.2, hg⟩)) (fun h' F' N' => ?_) (by have := hr.length; have := sizeLine_eq; rw [← Array.length_toList]; (first | lia | omega))
  refine ⟨.none, σ.set a (.list (vs ++ [v])), rfl, ⟨g, T, R.ok, ⟨m, F', l⟩, ⟨δ, D.put e (keep_of_upd N') (fun d => ⟨ws.push y, k + 1, got_of_upd N' z.1 z.2 hg, ?_⟩) rfl⟩, R.g, R.d, R.o⟩, h⟩
  rw [Array.toList_push]
  exact hr.append ⟨hy, trivial⟩
end
end Rk

end
section
set_option tactic.hygienic false
namespace Rk
section
variable {c : Cx} {E : Value → Shared → Prop} {σ : St} {Q : V → St → Prop} {P : Bool → St → Prop} {N : Unit → St → Prop} {i j : Int} {a b : Addr} {vs us : List V}
theorem listOf_is {h : Heap} {a : Addr} {ws : Array Value} {k : Nat} (e : h.get? a = some (listOf ws k)) : h.IsList a ws := ⟨_, e, rfl, k, rfl⟩
theorem tupOf_is {h : Heap} {a : Addr} {ws : Array Value} {k : Nat} (e : h.get? a = some (tupOf ws k)) : IsTup h a ws := ⟨_, e, rfl, k, rfl⟩
theorem mkl {h : Heap} {d a : Addr} {ws : Array Value} {n : Nat} {vs : List V} (e : h.get? a = some (listOf ws n)) (r : VsRel vs ws.toList) : MOAt h d a (.list vs) := ⟨ws, n, e, r⟩
theorem c_eq (h : Q (.bool (i == j)) σ) : c.Cmp E .Eq (.int i) (.int j) Q σ := by rintro _ _ ⟨t, rfl⟩ ⟨u, rfl⟩ s R; exact PyProof.Rows.eq_int ⟨.bool _, σ, rfl, R, h⟩
theorem c_ne (h : Q (.bool (i != j)) σ) : c.Cmp E .NotEq (.int i) (.int j) Q σ := by rintro _ _ ⟨t, rfl⟩ ⟨u, rfl⟩ s R; exact PyProof.Rows.ne_int ⟨.bool _, σ, rfl, R, h⟩
theorem c_lt (h : Q (.bool (decide (i < j))) σ) : c.Cmp E .Lt (.int i) (.int j) Q σ := by rintro _ _ ⟨t, rfl⟩ ⟨u, rfl⟩ s R; exact PyProof.Rows.lt_int ⟨.bool _, σ, rfl, R, h⟩
theorem c_le (h : Q (.bool (decide (i ≤ j))) σ) : c.Cmp E .LtE (.int i) (.int j) Q σ := by rintro _ _ ⟨t, rfl⟩ ⟨u, rfl⟩ s R; exact PyProof.Rows.le_int ⟨.bool _, σ, rfl, R, h⟩
theorem c_gt (h : Q (.bool (decide (j < i))) σ) : c.Cmp E .Gt (.int i) (.int j) Q σ := by rintro _ _ ⟨t, rfl⟩ ⟨u, rfl⟩ s R; exact PyProof.Rows.gt_int ⟨.bool _, σ, rfl, R, h⟩
theorem c_ge (h : Q (.bool (decide (j ≤ i))) σ) : c.Cmp E .GtE (.int i) (.int j) Q σ := by rintro _ _ ⟨t, rfl⟩ ⟨u, rfl⟩ s R; exact PyProof.Rows.ge_int ⟨.bool _, σ, rfl, R, h⟩
theorem c_neb {p q : Bool} (h : Q (.bool (p != q)) σ) : c.Cmp E .NotEq (.bool p) (.bool q) Q σ := by rintro _ _ rfl rfl s R; exact PyProof.Rows.ne_bool ⟨.bool _, σ, rfl, R, h⟩
noncomputable def V.isNone : V → Bool
  | .none => true
  | .raw .none => true
  | _ => false
theorem isNone_rel {v : V} {w : Value} (h : VRel v w) : (w == .none) = v.isNone := by
  cases v with
  | none => cases h; rfl
  | bool b => cases h; rfl
  | int i => obtain ⟨t, rfl⟩ := h; rfl
  | str i => obtain ⟨t, rfl⟩ := h; rfl
  | bytes i => obtain ⟨t, rfl⟩ := h; rfl
  | ref a => cases h; rfl
  | raw w => cases h; cases w <;> rfl
theorem c_isnt {v : V} (h : Q (.bool (!v.isNone)) σ) : c.Cmp E .IsNot v .none Q σ := by rintro x _ hx rfl s R; exact isNot_none ⟨.bool _, σ, by rw [isNone_rel hx]; rfl, R, h⟩

noncomputable def Cx.Item (c : Cx) (E : Value → Shared → Prop) (value slice : Expr) (a i : V) (Q : V → St → Prop) (σ : St) : Prop := ∀ x y, VRel a x → VRel i y → c.W E VRel (subscriptTail value slice x y) Q σ
theorem w_sub {value slice pos} (h : c.Ev E value (fun a σ₁ => c.Ev E slice (fun i σ₂ => c.Item E value slice a i Q σ₂) σ₁) σ) : c.Ev E (.Subscript value slice pos) Q σ :=
  fun s R => Subscript_ (wpAny_mono (h s R) (fun x s₁ ⟨_, _, hx, R₁, h₁⟩ => wpAny_mono (h₁ s₁ R₁) (fun y s₂ ⟨_, _, hy, R₂, h₂⟩ => h₂ x y hx hy s₂ R₂) fun _ _ e => e) fun _ _ e => e)
noncomputable def notSl : Expr → Bool
  | .Slice .. => false
  | _ => true
theorem sub_not {slice : Expr} (h : notSl slice = true) (o i : Value) : subscripted slice false o i = operate [o, i] (getItem o i) := by
  cases slice <;> first | rfl | cases h
theorem i_list {value slice : Expr} {v : V} (e : σ.H a = some (.list vs)) (h0 : 0 ≤ i) (hb : i < 4611686018427387904) (hx : vs[i.toNat]? = some v) (h : Q v σ) (hn : notSl slice = true := by with_unfolding_all rfl) : c.Item E value slice (.ref a) (.int i) Q σ := by
  rintro _ _ rfl ⟨t, rfl⟩ s R
  obtain ⟨ws, k, hg, hr⟩ := R.list e
  obtain ⟨w, h1, h2⟩ := hr.get hx
  exact tail_any (listOf_is hg).typeIs slot_list_getitem.lookup (wpAny_getItem_list (x := w) (listOf_is hg) h0 (by (first | lia | omega)) (by rw [← Array.getElem?_toList]; exact h1) ⟨v, σ, h2, R, h⟩) (sub_not hn _ _)
theorem i_listN {value slice : Expr} {v : V} (e : σ.H a = some (.list vs)) (h0 : i < 0) (hl : -(vs.length : Int) ≤ i) (hb : -4611686018427387904 < i) (hx : vs[(i + vs.length).toNat]? = some v) (h : Q v σ) (hn : notSl slice = true := by with_unfolding_all rfl) : c.Item E value slice (.ref a) (.int i) Q σ := by
  rintro _ _ rfl ⟨t, rfl⟩ s R
  obtain ⟨ws, k, hg, hr⟩ := R.list e
  have hz := hr.length
  rw [Array.length_toList] at hz
  obtain ⟨w, h1, h2⟩ := hr.get hx
  exact tail_any (listOf_is hg).typeIs slot_list_getitem.lookup (wpAny_getItem_list_neg (x := w) (listOf_is hg) h0 (by (first | lia | omega)) (by (first | lia | omega)) (by rw [← Array.getElem?_toList, hz]; exact h1) ⟨v, σ, h2, R, h⟩) (sub_not hn _ _)
theorem i_tup {value slice : Expr} {v : V} (e : σ.H a = some (.tup vs)) (h0 : 0 ≤ i) (hb : i < 4611686018427387904) (hx : vs[i.toNat]? = some v) (h : Q v σ) (hn : notSl slice = true := by with_unfolding_all rfl) : c.Item E value slice (.ref a) (.int i) Q σ := by
  rintro _ _ rfl ⟨t, rfl⟩ s R
  obtain ⟨ws, k, hg, hr⟩ := R.tup e
  have hz := hr.length
  rw [Array.length_toList] at hz
  obtain ⟨w, h1, h2⟩ := hr.get hx
  have hlt : i.toNat < ws.size := by
    rw [hz]
    exact (List.getElem?_eq_some_iff.mp hx).1
  exact tail_any (tupOf_is hg).typeIs slot_tuple_getitem.lookup (getItem_tuple (x := w) (j := i.toNat) (tupOf_is hg) (by (first | lia | omega)) (by (first | lia | omega)) (by
    unfold seqIndex?
    rw [if_neg (show ¬ i < 0 by (first | lia | omega))]
    exact if_pos (by simp only [Bool.and_eq_true, decide_eq_true_eq]; (first | lia | omega))) (by rw [← Array.getElem?_toList]; exact h1) ⟨v, σ, h2, R, h⟩) (sub_not hn _ _)
theorem set_item {v : V} (e : σ.H a = some (.list vs)) (h0 : 0 ≤ i) (hl : i < vs.length) (hb : i < 4611686018427387904) (h : N () (σ.set a (.list (vs.set i.toNat v)))) : c.Seti E (.ref a) (.int i) v N σ := by
  rintro _ _ y rfl ⟨t, rfl⟩ hy s R
  obtain ⟨ws, k, hg, hr⟩ := R.list e
  have hz := hr.length
  rw [Array.length_toList] at hz
  have q := PySem.IsL.update hg (·.setIfInBounds i.toNat y)
  exact ki_setAt hg h0 (by (first | lia | omega)) (by (first | lia | omega)) ⟨(), _, rfl, R.put (tk := s.toks) e (Heap.SameBut.update ..) (fun d => mkl q (by rw [Array.toList_setIfInBounds]; exact hr.set _ hy)) rfl, h⟩
noncomputable def slc (vs : List V) (lo hi : Option Int) : List V := (match hi with | some b => vs.take b.toNat | none => vs).drop (match lo with | some a => a.toNat | none => 0)
noncomputable def slW (vs : List Value) (lo hi : Option Int) : List Value := (match hi with | some b => vs.take b.toNat | none => vs).drop (match lo with | some a => a.toNat | none => 0)
theorem slc_rel {vs : List V} {ws : List Value} (h : VsRel vs ws) (lo hi : Option Int) : VsRel (slc vs lo hi) (slW ws lo hi) := by
  unfold slc slW
  cases hi with
  | none => exact h.drop _
  | some b => exact (h.take _).drop _
theorem pick_is (ws : Array Value) (lo hi : Option Int) (h1 : ∀ x, lo = some x → 0 ≤ x) (h2 : ∀ x, hi = some x → 0 ≤ x) : slicePick ws lo hi none = (slW ws.toList lo hi).toArray := by
  have cl : ∀ (x : Int), 0 ≤ x → clipAt ws.size x = min x.toNat ws.size := fun x hx => by
    obtain ⟨n, rfl⟩ := Int.eq_ofNat_of_zero_le hx
    exact clipAt_nat _ _
  rw [slicePick_plain]
  congr 1
  unfold slW
  cases hi with
  | none =>
    cases lo with
    | none => simp; exact List.take_of_length_le (by simp)
    | some x =>
      simp only [Option.elim, cl x (h1 x rfl)]
      rcases Nat.le_total x.toNat ws.size with h | h
      · rw [Nat.min_eq_left h, List.take_of_length_le (by simp)]
      · rw [Nat.min_eq_right h, List.drop_of_length_le (by simp), List.drop_of_length_le (by simpa using h)]; simp
  | some y =>
    have q : ws.toList.take y.toNat = ws.toList.take (min y.toNat ws.size) := by
      rcases Nat.le_total y.toNat ws.size with h | h
      · rw [Nat.min_eq_left h]
      · rw [Nat.min_eq_right h, List.take_of_length_le (by simpa using h), List.take_of_length_le (by simp)]
    cases lo with
    | none => simp only [Option.elim, cl y (h2 y rfl), List.drop_zero, Nat.sub_zero]; exact q.symm
    | some x =>
      simp only [Option.elim, cl x (h1 x rfl), cl y (h2 y rfl)]
      rw [q]
      rcases Nat.le_total x.toNat ws.size with h | h
      · rw [Nat.min_eq_left h, List.drop_take]
      · rw [Nat.min_eq_right h, List.drop_of_length_le (by simp), List.drop_of_length_le (by simp; (first | lia | omega))]; simp
noncomputable def Bd : V → Option Int → Prop
  | .none, x => x = none
  | .int i, x => x = some i ∧ 0 ≤ i
  | _, _ => False
theorem Bd.part {v : V} {w : Value} {x : Option Int} (h : Bd v x) (r : VRel v w) : IsPart w x ∧ ∀ y, x = some y → 0 ≤ y := by
  cases v with
  | none => cases h; cases r; exact ⟨.none, fun y e => by cases e⟩
  | int i => obtain ⟨rfl, h0⟩ := h; obtain ⟨t, rfl⟩ := r; exact ⟨.int i t, fun y e => by cases e; exact h0⟩
  | bool b => exact h.elim
  | str i => exact h.elim
  | bytes i => exact h.elim
  | ref a => exact h.elim
  | raw w => exact h.elim
noncomputable abbrev Cx.Po (c : Cx) (X : Value → Shared → Prop) (e : Option Expr) (Q : V → St → Prop) (σ : St) : Prop := c.W X VRel (evalPart e c.env) Q σ
theorem p_none (h : Q .none σ) : c.Po E none Q σ := fun s R => wpAny_pure ⟨.none, σ, rfl, R, h⟩
theorem p_some {e : Expr} (h : c.Ev E e Q σ) : c.Po E (some e) Q σ := h
theorem w_slice {value lo hi p pos} (h : c.Ev E value (fun v σ₁ => c.Po E lo (fun l σ₂ => c.Po E hi (fun u σ₃ => ∃ a vs x y, v = .ref a ∧ σ₃.H a = some (.list vs) ∧ vs.length ≤ 100000 ∧ Bd l x ∧ Bd u y ∧ ∀ n, σ₃.H n = none → Q (.ref n) (σ₃.set n (.list (slc vs x y)))) σ₂) σ₁) σ) :
    c.Ev E (.Subscript value (.Slice lo hi none p) pos) Q σ := fun s R => by
  refine Subscript_ (wpAny_mono (h s R) (fun o s₁ ⟨v, _, hv, R₁, h₁⟩ => ?_) fun _ _ e => e)
  refine wpAny_Slice (wpAny_mono (h₁ s₁ R₁) (fun l s₂ ⟨lv, _, hl, R₂, h₂⟩ => wpAny_mono (h₂ s₂ R₂) (fun u s₃ ⟨uv, σ₃, hu, R₃, h₃⟩ => ?_) fun _ _ e => e) fun _ _ e => e)
  obtain ⟨a, vs, x, y, rfl, e, hz, bl, bu, hq⟩ := h₃
  cases hv
  refine wpAny_pure ?_
  obtain ⟨ws, k, hg, hr⟩ := R₃.list e
  have hzz := hr.length
  rw [Array.length_toList] at hzz
  obtain ⟨pl, ql⟩ := bl.part hl
  obtain ⟨pu, qu⟩ := bu.part hu
  have hsl := Heap.IsSliceOf.new s₃.heap l u .none
  have hL := (listOf_is (Heap.get?_push_of_some ({ cls := .type "slice", data := .fields #[l, u, .none] } : Obj) hg))
  refine tail_any (Heap.IsList.typeIs (s := { s₃ with heap := s₃.heap.push { cls := .type "slice", data := .fields #[l, u, .none] } }) hL) slot_list_getitem.lookup (ops := [.ref s₃.heap.objs.size, .ref a]) ?_ rfl
  refine wpAny_getItem_list_slice hL hsl pl pu .none (by simp) ?_ (by have := sizeLine_eq; (first | lia | omega))
  have n0 : s₃.heap.objs.size ≤ (s₃.heap.push ({ cls := .type "slice", data := .fields #[l, u, .none] } : Obj)).objs.size := by rw [Heap.size_push]; exact Nat.le_succ _
  refine ⟨.ref _, _, rfl, R₃.new (tk := s₃.toks) n0 (fun b z e => Heap.get?_push_of_some _ (Heap.get?_push_of_some _ e)) (fun d => mkl (Heap.get?_push_size _ rfl) (by rw [pick_is ws x y ql qu]; exact slc_rel hr x y)) rfl, hq _ (R₃.non n0)⟩
theorem b_addl (e : σ.H a = some (.list vs)) (e' : σ.H b = some (.list us)) (hz : vs.length + us.length ≤ 100000) (h : ∀ n, σ.H n = none → Q (.ref n) (σ.set n (.list (vs ++ us)))) : c.Bin E .Add (.ref a) (.ref b) Q σ := by
  rintro _ _ rfl rfl s R
  obtain ⟨ws, k, hg, hr⟩ := R.list e
  obtain ⟨ws', k', hg', hr'⟩ := R.list e'
  have R₀ := R
  obtain ⟨g, T, R⟩ := R
  obtain ⟨m, F, l⟩ := R.loc
  have h1 := hr.length; rw [Array.length_toList] at h1
  have h2 := hr'.length; rw [Array.length_toList] at h2
  exact add_arrays F ledg_news (listOf_is hg) (listOf_is hg') (fun h' F' N' => ⟨.ref _, _, rfl, ⟨g, T, R.newL (o := .list (vs ++ us)) (tk := s.toks) (Nat.le_refl _) l F' N' (fun q d => mkl q (by simpa using hr.append hr')) rfl⟩, h _ (R.non (Nat.le_refl _))⟩) (by have := sizeLine_eq; (first | lia | omega))
theorem f_len (e : σ.H a = some (.list vs)) (hz : vs.length ≤ 100000) (h : Q (.int vs.length) σ) : c.Call E (.builtin "len") [.ref a] Q σ := by
  intro xs hx s R
  replace hx := vr1 hx
  obtain ⟨_, rfl, hx⟩ := hx
  cases hx
  obtain ⟨ws, k, hg, hr⟩ := R.list e
  have h1 := hr.length; rw [Array.length_toList] at h1
  refine Calls.call_len_list (listOf_is hg) (by (first | lia | omega)) ⟨.int vs.length, σ, ⟨s.toks + 1, by rw [h1]⟩, R.tok _, h⟩
end
end Rk

end
section
set_option tactic.hygienic false
namespace Rk
section
variable {c : Cx} {E : Value → Shared → Prop} {σ : St} {Q : V → St → Prop}
noncomputable def Cx.atA (c : Cx) (A' : Around) : Cx := { c with A := A', A₀ := if c.inn then A' else c.A₀ }
theorem Rel0.under {σ : St} {s : Shared} (R : Rel0 c σ s) {A' : Around} (h1 : A'.frames = c.A.frames) : Rel0 (c.atA A') σ s :=
  ⟨⟨⟨by
    have b := R.ok.B.stack
    have o := R.ok.own
    show (if c.inn then A' else c.A₀).frames = some c.outer
    cases hi : c.inn with
    | true => rw [hi] at o; simp only [if_true] at o ⊢; rw [h1, ← o]; exact b
    | false => simp only [Bool.false_eq_true, if_false]; exact b, R.ok.B.stays, R.ok.B.frames⟩, R.ok.X, R.ok.T, h1.trans R.ok.fr, by
    have o := R.ok.own
    show if c.inn then (if c.inn then A' else c.A₀) = A' else c.frm = c.L
    cases hi : c.inn with
    | true => simp
    | false => rw [hi] at o; simpa using o, R.ok.ke, R.ok.XB, R.ok.TB, R.ok.ds⟩, R.loc, R.hp, R.g, R.d, R.o⟩
theorem Rel.under {σ : St} {s : Shared} (R : Rel c σ s) {A' : Around} (h1 : A'.frames = c.A.frames) : Rel (c.atA A') σ s := let ⟨g, T, R⟩ := R; ⟨g, T, R.under h1⟩
theorem Rel.back {σ σ' : St} {s s' : Shared} {A' : Around} (R₀ : Rel c σ s) (R : Rel (c.atA A') σ' s') : Rel c σ' s' := by
  obtain ⟨g₀, T₀, R₀⟩ := R₀
  obtain ⟨g, T, R⟩ := R
  have o := R.ok
  exact ⟨g, T, ⟨⟨R₀.ok.B.stack, o.B.stays, o.B.frames⟩, o.X, o.T, R₀.ok.fr, R₀.ok.own, o.ke, o.XB, o.TB, o.ds⟩, R.loc, R.hp, R.g, R.d, R.o⟩
theorem c_new {C fI : Addr} {as : List V} {d : Nat} (L : Plain c.D.K C) (hi : findIn c.D.K (.ref C) "__init__" = some (some (.ref fI))) (hf : isFn c.D.K (.ref fI) = true) (r : c.Room (d + 1))
    (h : ∀ n, σ.H n = none → Fn c.D d fI (.ref n :: as) (fun v H' => v = .none ∧ Q (.ref n) ⟨σ.m, H'⟩) (σ.H.set n (.inst C []))) : c.Call E (.ref C) as Q σ := by
  intro xs hx s R
  refine wpAny_call ?_
  obtain ⟨hh, g, dr, t, os⟩ := s
  have X : c.D.K.In hh := R.kin
  have R₀ := R
  obtain ⟨gg, T, R⟩ := R
  refine make_core (makes_of X L.mks) (looks_findIn X hi) (fun self => bind_fn X self (beq_iff_eq.mp hf)) (.inl rfl) ?_
  obtain ⟨m, F, l⟩ := R.loc
  obtain ⟨δ, D⟩ := R.hp
  have k : ∀ b o, hh.get? b = some o → ((hh.push emptyDict).push (instObj C hh.objs.size)).get? b = some o := fun b o e => Heap.get?_push_of_some _ (Heap.get?_push_of_some _ e)
  have sz : (hh.push emptyDict).objs.size = hh.objs.size + 1 := Heap.size_push ..
  have z1 := h0_size F (n := hh.objs.size + 1) (Nat.le_succ _)
  have z2 := h0_size F (n := hh.objs.size) (Nat.le_refl _)
  have hn : σ.H (hh.objs.size + 1) = none := R.non (Nat.le_succ _)
  have g1 : ((hh.push emptyDict).push (instObj C hh.objs.size)).get? (hh.objs.size + 1) = some (instObj C hh.objs.size) := by
    rw [← sz]; exact Heap.get?_push_size _ rfl
  have g2 : ((hh.push emptyDict).push (instObj C hh.objs.size)).get? hh.objs.size = some (dictOf [] 0) := Heap.get?_push_of_some _ (Heap.get?_push_size _ rfl)
  have R1 : Rel0 (c.at gg) ⟨σ.m, σ.H.set (hh.objs.size + 1) (.inst C [])⟩ ⟨(hh.push emptyDict).push (instObj C hh.objs.size), g, dr, t, os⟩ :=
    ⟨R.ok, ⟨m, F.keeps k, l⟩, ⟨_, D.newI (Nat.le_succ _) (Nat.le_refl _) (Nat.ne_of_lt (Nat.lt_succ_self _)) k g1 g2 z1.1 z1.2 z2.1 z2.2⟩, R.g, R.d, R.o⟩
  have fr : (c.A.under (.builtin "type.__call__" ⟨.ref C :: xs, []⟩)).frames = c.A.frames := rfl
  have R2 := Rel.under ⟨gg, T, R1⟩ (A' := c.A.under (.builtin "type.__call__" ⟨.ref C :: xs, []⟩)) fr
  refine codeAny_mono (h _ hn (c.atA (c.A.under (.builtin "type.__call__" ⟨.ref C :: xs, []⟩))) σ.m rfl ⟨?_, ?_, r.hh⟩ (.ref (hh.objs.size + 1) :: xs) ⟨rfl, hx⟩ _ R2) fun rs s' b => ?_
  · show c.A.depth + 1 + d ≤ 900
    have := r.1; (first | lia | omega)
  · show c.A.units + 1 + 40 * d ≤ 9000
    have := r.2; (first | lia | omega)
  · unfold Back at b
    rcases rs with e | (_ | _ | _ | w)
    · exact b.elim
    · exact b.elim
    · exact b.elim
    · exact b.elim
    · obtain ⟨v, ⟨m', H'⟩, h1, h2, h3, h4, h5⟩ := b
      cases h3
      subst h4
      exact ⟨h1, .ref (hh.objs.size + 1), ⟨σ.m, H'⟩, rfl, Rel.back (s' := s') R₀ h2, h5⟩
end
end Rk

end
section
set_option tactic.hygienic false
namespace Rk
noncomputable def ORel : Option V → Option Value → Prop
  | none, o => o = none
  | some v, o => ∃ w, o = some w ∧ VRel v w
noncomputable def Cx.Itr (c : Cx) (E : Value → Shared → Prop) (v : V) (Q : V → St → Prop) (σ : St) : Prop := ∀ x, VRel v x → c.W E VRel (pyIter x) Q σ
noncomputable def Cx.Nx (c : Cx) (E : Value → Shared → Prop) (it : Addr) (Q : Option V → St → Prop) (σ : St) : Prop := c.W E ORel (pyNext (.ref it)) Q σ
noncomputable def Cx.Asg (c : Cx) (E : Value → Shared → Prop) (t : Expr) (v : V) (Q : Unit → St → Prop) (σ : St) : Prop := ∀ w, VRel v w → c.W E OnE (assign t c.env w) Q σ
noncomputable def LEnd (c : Cx) (U : Fl → St → Prop) (r : Result) (s' : Shared) : Prop := match r with
  | .ok f => ∃ fl σ', FRel fl f ∧ Rel c σ' s' ∧ U fl σ'
  | .error _ => False
noncomputable def Cx.Loop (c : Cx) (it : Addr) (target : Expr) (body : List Stmt) (U : Fl → St → Prop) (σ : St) : Prop :=
  ∀ s, Rel c σ s → codeAny (model c.D.prog c.D.w) c.A (.forLoop target (.ref it) body [] c.env) (LEnd c U) s
noncomputable def Cx.WLoop (c : Cx) (test : Expr) (body : List Stmt) (U : Fl → St → Prop) (σ : St) : Prop :=
  ∀ s, Rel c σ s → codeAny (model c.D.prog c.D.w) c.A (.whileLoop test body [] c.env) (LEnd c U) s
noncomputable def isNm : Expr → Bool
  | .Tuple .. | .List .. => false
  | _ => true
theorem letGo_nm {t : Expr} (h : isNm t = true) (it v : Value) : letOwnedTupleGo t it v = pure () := by cases t <;> first | rfl | cases h
noncomputable def Turned (c : Cx) (again : St → Prop) (U : Fl → St → Prop) : Fl → St → Prop
  | .next, σ => again σ
  | .cont, σ => again σ
  | .brk, σ => U .next σ
  | .ret v, σ => U (.ret v) σ
noncomputable def Cx.OTurn (c : Cx) (tgt : Expr) (U : St → Prop) (k : St → Prop) : Option V → St → Prop
  | none, σ => U σ
  | some v, σ => c.Asg Nope tgt v (fun _ σ₂ => k σ₂) σ
section
variable {c : Cx} {E : Value → Shared → Prop} {σ : St} {Q : V → St → Prop} {P : Bool → St → Prop} {N : Unit → St → Prop} {U : Fl → St → Prop} {O : Option V → St → Prop} {a it : Addr} {vs : List V} {i : Nat}
theorem LEnd.ok {fl : Fl} {f : Flow} {σ' : St} {s' : Shared} (h : FRel fl f) (R : Rel c σ' s') (u : U fl σ') : LEnd c U (.ok f) s' := ⟨fl, σ', h, R, u⟩
theorem loop_turn {target : Expr} {body : List Stmt}
    (h : c.Nx Nope it (c.OTurn target (U .next) (c.Ss Nope body (Turned c (c.Loop it target body U) U))) σ)
    (ht : isNm target = true := by with_unfolding_all rfl) : c.Loop it target body U σ := fun s R => by
  refine codeAny_of_tree ?_
  show wpAny _ c.A ((forTurn target (.ref it) body [] c.env).onRaise (fun x => do noteFrame x c.env; theTreesLotGoes x)) _ _ s
  refine wpAny_onRaise (wpAny_mono (E := Nope) ?_ (fun _ _ x => x) fun _ _ e => e.elim)
  simp only [forTurn]
  refine wpAny_bind (wpAny_standAt (wpAny_bind (wpAny_onRaise (wpAny_mono (h s R) (fun r s₁ h₁ => ?_) fun _ _ e => e.elim))))
  obtain ⟨o, σ₁, ho, R₁, h₁⟩ := h₁
  cases o with
  | none =>
    cases ho
    refine wpAny_pure ⟨rfl, codeAny_block (wpAny_execs_nil (LEnd.ok (fl := .next) rfl R₁ h₁))⟩
  | some v =>
    obtain ⟨w, rfl, hv⟩ := ho
    refine wpAny_bind (wpAny_of_eq (letGo_nm ht _ _) ?_)
    refine wpAny_bind (wpAny_mono (h₁ w hv s₁ R₁) (fun _ s₂ h₂ => ?_) fun _ _ e => e)
    obtain ⟨_, σ₂, _, R₂, h₂⟩ := h₂
    refine wpAny_bind (wpAny_mono (h₂ s₂ R₂) (fun f s₃ h₃ => ?_) fun _ _ e => e)
    obtain ⟨fl, σ₃, hf, R₃, h₃⟩ := h₃
    cases fl with
    | next => cases hf; exact wpAny_pure ⟨rfl, h₃ s₃ R₃⟩
    | cont => cases hf; exact wpAny_pure ⟨rfl, h₃ s₃ R₃⟩
    | brk => cases hf; exact wpAny_pure (LEnd.ok (fl := .next) rfl R₃ h₃)
    | ret v => obtain ⟨w, rfl, hw⟩ := hf; exact wpAny_pure (LEnd.ok (fl := .ret v) ⟨w, rfl, hw⟩ R₃ h₃)
theorem wl_turn {test : Expr} {body : List Stmt}
    (h : c.Te Nope test (fun b σ₁ => if b then c.Ss Nope body (Turned c (c.WLoop test body U) U) σ₁ else U .next σ₁) σ) : c.WLoop test body U σ := fun s R => by
  refine codeAny_of_tree ?_
  show wpAny _ c.A ((whileTurn test body [] c.env).onRaise (fun x => do noteFrame x c.env; theTreesLotGoes x)) _ _ s
  refine wpAny_onRaise (wpAny_mono (E := Nope) ?_ (fun _ _ x => x) fun _ _ e => e.elim)
  simp only [whileTurn]
  refine wpAny_bind (wpAny_mono (h s R) (fun b s₁ h₁ => ?_) fun _ _ e => e)
  obtain ⟨b', σ₁, hb, R₁, h₁⟩ := h₁
  cases hb
  cases b with
  | false =>
    simp only [Bool.false_eq_true, if_false] at h₁ ⊢
    exact wpAny_bind (wpAny_execs_nil (wpAny_pure (LEnd.ok (fl := .next) rfl R₁ h₁)))
  | true =>
    simp only [if_true] at h₁ ⊢
    refine wpAny_bind (wpAny_mono (h₁ s₁ R₁) (fun f s₃ h₃ => ?_) fun _ _ e => e)
    obtain ⟨fl, σ₃, hf, R₃, h₃⟩ := h₃
    cases fl with
    | next => cases hf; exact wpAny_pure ⟨rfl, h₃ s₃ R₃⟩
    | cont => cases hf; exact wpAny_pure ⟨rfl, h₃ s₃ R₃⟩
    | brk => cases hf; exact wpAny_pure (LEnd.ok (fl := .next) rfl R₃ h₃)
    | ret v => obtain ⟨w, rfl, hw⟩ := hf; exact wpAny_pure (LEnd.ok (fl := .ret v) ⟨w, rfl, hw⟩ R₃ h₃)
theorem s_for {target iter : Expr} {body : List Stmt} {pos : Pos} (h : c.Ev E iter (fun v σ₁ => c.Itr E v (fun u σ₂ => ∃ it, u = .ref it ∧ c.Loop it target body U σ₂) σ₁) σ)
    (hs : ∀ env x, foldedSetIterable iter env x = pure x := by intro _ _; with_unfolding_all rfl) : c.S E (.For target iter body [] pos) U σ := fun s R =>
  wpAny_For (wpAny_mono (h s R) (fun x s₁ ⟨v, σ₁, hv, R₁, h₁⟩ => wpAny_mono (h₁ x hv s₁ R₁) (fun u s₂ ⟨b, σ₂, hb, R₂, it, e, h₂⟩ => by
    subst e
    cases hb
    exact codeAny_mono (h₂ s₂ R₂) fun r s' x => by
      unfold LEnd at x
      cases r with
      | error e => exact x.elim
      | ok f => obtain ⟨fl, σ', h1, h2, h3⟩ := x; exact ⟨fl, σ', h1, h2, h3⟩) fun _ _ e => e) fun _ _ e => e) (hs _)
theorem s_while {test : Expr} {body : List Stmt} {pos : Pos} (h : c.WLoop test body U σ) : c.S E (.While test body [] pos) U σ := fun s R =>
  wpAny_While (codeAny_mono (h s R) fun r s' x => by
      unfold LEnd at x
      cases r with
      | error e => exact x.elim
      | ok f => obtain ⟨fl, σ', h1, h2, h3⟩ := x; exact ⟨fl, σ', h1, h2, h3⟩)
theorem it_list (e : σ.H a = some (.list vs)) (h : ∀ n, σ.H n = none → Q (.ref n) (σ.set n (.li a 0))) : c.Itr E (.ref a) Q σ := by
  rintro _ rfl s R
  obtain ⟨ws, k, hg, hr⟩ := R.list e
  exact wpAny_pyIter_list (listOf_is hg) ⟨.ref _, _, rfl, R.new (o := .li a 0) (tk := s.toks) (Nat.le_refl _) (fun b x e => Heap.get?_push_of_some _ e) (fun d => ⟨_, Heap.get?_push_size _ rfl, rfl, rfl⟩) rfl, h _ (R.non (Nat.le_refl _))⟩
theorem it_tup (e : σ.H a = some (.tup vs)) (h : ∀ n, σ.H n = none → Q (.ref n) (σ.set n (.ti a 0))) : c.Itr E (.ref a) Q σ := by
  rintro _ rfl s R
  obtain ⟨ws, k, hg, hr⟩ := R.tup e
  exact wpAny_pyIter_tuple (tupOf_is hg) ⟨.ref _, _, rfl, R.new (o := .ti a 0) (tk := s.toks) (Nat.le_refl _) (fun b x e => Heap.get?_push_of_some _ e) (fun d => ⟨_, Heap.get?_push_size _ rfl, rfl, rfl⟩) rfl, h _ (R.non (Nat.le_refl _))⟩
theorem Rel.rg {x y : Int} {s : Shared} (R : Rel c σ s) (e : σ.H a = some (.rg x y)) : ∃ t u v, IsRange s.heap a x y 1 t u v := by
  obtain ⟨g, δ, D⟩ := R.hp
  exact D.at_ a _ e
theorem it_rg {x y : Int} (e : σ.H a = some (.rg x y)) (hs : Builtin.Range.small x y 1 = true) (h : ∀ n, σ.H n = none → Q (.ref n) (σ.set n (.ri x (Builtin.Range.rangeSize x y 1)))) : c.Itr E (.ref a) Q σ := by
  rintro _ rfl s R
  obtain ⟨t, u, v, hr⟩ := R.rg e
  exact wpAny_pyIter_range hr hs ⟨.ref _, _, rfl, R.new (o := .ri x (Builtin.Range.rangeSize x y 1)) (tk := s.toks) (Nat.le_refl _) (fun b x e => Heap.get?_push_of_some _ e) (fun d => Heap.get?_push_size _ rfl) rfl, h _ (R.non (Nat.le_refl _))⟩
theorem nx_list {v : V} (e : σ.H it = some (.li a i)) (e' : σ.H a = some (.list vs)) (hx : vs[i]? = some v) (h : O (some v) (σ.set it (.li a (i + 1)))) : c.Nx E it O σ := fun s R => by
  obtain ⟨ws, k, hg, hr⟩ := R.list e'
  have hi : s.heap.IsListIter it a i := by obtain ⟨g, δ, D⟩ := R.hp; exact D.at_ it _ e
  obtain ⟨w, h1, h2⟩ := hr.get hx
  exact wpAny_pyNext_list_item hi (listOf_is hg) (x := w) (by rw [← Array.getElem?_toList]; exact h1) fun h' hi' hs => ⟨some v, _, ⟨w, rfl, h2⟩, R.put (o' := .li a (i + 1)) (tk := s.toks) e hs (fun d => hi') rfl, h⟩
theorem nx_listE (e : σ.H it = some (.li a i)) (e' : σ.H a = some (.list vs)) (hx : vs[i]? = none) (h : O none ⟨σ.m, σ.H.del it⟩) (hh : c.A.handled = none := by exact Cx.Room.hh (by assumption)) : c.Nx E it O σ := fun s R => by
  obtain ⟨ws, k, hg, hr⟩ := R.list e'
  have hi : s.heap.IsListIter it a i := by obtain ⟨g, δ, D⟩ := R.hp; exact D.at_ it _ e
  have hz := hr.length
  exact wpAny_pyNext_list_end hh hi (listOf_is hg) (by
    have := List.getElem?_eq_none_iff.mp hx
    exact Array.getElem?_eq_none (by rw [← Array.length_toList]; (first | lia | omega))) fun h' he => ⟨none, _, rfl, R.del (tk := s.toks) e he, h⟩
theorem nx_tup {v : V} (e : σ.H it = some (.ti a i)) (e' : σ.H a = some (.tup vs)) (hx : vs[i]? = some v) (h : O (some v) (σ.set it (.ti a (i + 1)))) : c.Nx E it O σ := fun s R => by
  obtain ⟨ws, k, hg, hr⟩ := R.tup e'
  have hi : s.heap.IsTupleIter it a i := by obtain ⟨g, δ, D⟩ := R.hp; exact D.at_ it _ e
  obtain ⟨w, h1, h2⟩ := hr.get hx
  exact wpAny_pyNext_tuple_item hi (tupOf_is hg) (x := w) (by rw [← Array.getElem?_toList]; exact h1) fun h' hi' hs => ⟨some v, _, ⟨w, rfl, h2⟩, R.put (o' := .ti a (i + 1)) (tk := s.toks) e hs (fun d => hi') rfl, h⟩
theorem nx_tupE (e : σ.H it = some (.ti a i)) (e' : σ.H a = some (.tup vs)) (hx : vs[i]? = none) (h : O none ⟨σ.m, σ.H.del it⟩) (hh : c.A.handled = none := by exact Cx.Room.hh (by assumption)) : c.Nx E it O σ := fun s R => by
  obtain ⟨ws, k, hg, hr⟩ := R.tup e'
  have hi : s.heap.IsTupleIter it a i := by obtain ⟨g, δ, D⟩ := R.hp; exact D.at_ it _ e
  have hz := hr.length
  exact wpAny_pyNext_tuple_end hh hi (tupOf_is hg) (by
    have := List.getElem?_eq_none_iff.mp hx
    exact Array.getElem?_eq_none (by rw [← Array.length_toList]; (first | lia | omega))) fun h' he => ⟨none, _, rfl, R.del (tk := s.toks) e he, h⟩
theorem nx_rg {x n : Int} (e : σ.H it = some (.ri x n)) (hn : 0 < n) (h : O (some (.int x)) (σ.set it (.ri (x + 1) (n - 1)))) : c.Nx E it O σ := fun s R => by
  have hi : IsRangeIter s.heap it x n 1 := by obtain ⟨g, δ, D⟩ := R.hp; exact D.at_ it _ e
  exact wpAny_pyNext_range_item hi hn fun h' hi' hs => ⟨some (.int x), _, ⟨_, rfl, _, rfl⟩, R.put (o' := .ri (x + 1) (n - 1)) (tk := s.toks + 1) e hs (fun d => hi') rfl, h⟩
theorem nx_rgE {x n : Int} (e : σ.H it = some (.ri x n)) (hn : n ≤ 0) (h : O none ⟨σ.m, σ.H.del it⟩) (hh : c.A.handled = none := by exact Cx.Room.hh (by assumption)) : c.Nx E it O σ := fun s R => by
  have hi : IsRangeIter s.heap it x n 1 := by obtain ⟨g, δ, D⟩ := R.hp; exact D.at_ it _ e
  exact wpAny_pyNext_range_end hh hi hn fun h' he => ⟨none, _, rfl, R.del (tk := s.toks) e he, h⟩
theorem as_name {x : Str} {p : Pos} {v : V} (h : c.Store E x v N σ) : c.Asg E (.Name x p) v N σ := fun w hw s R => wpAny_assign_Name (h w hw s R)
theorem f_range1 {j : Int} (h : ∀ n, σ.H n = none → Q (.ref n) (σ.set n (.rg 0 j))) : c.Call E (.type "range") [.int j] Q σ := by
  intro xs hx s R
  replace hx := vr1 hx
  obtain ⟨_, rfl, ⟨t, hx⟩⟩ := hx
  cases hx
  exact call_range_1 ⟨.ref _, _, rfl, R.new (o := .rg 0 j) (tk := s.toks + 1 + 1) (Nat.le_refl _) (fun b x e => Heap.get?_push_of_some _ e) (fun d => ⟨_, _, _, Heap.get?_push_size _ rfl⟩) rfl, h _ (R.non (Nat.le_refl _))⟩
theorem f_range2 {i j : Int} (h : ∀ n, σ.H n = none → Q (.ref n) (σ.set n (.rg i j))) : c.Call E (.type "range") [.int i, .int j] Q σ := by
  intro xs hx s R
  replace hx := vr2 hx
  obtain ⟨_, _, rfl, ⟨t, hx⟩, ⟨u, hy⟩⟩ := hx
  cases hx; cases hy
  exact call_range_2 ⟨.ref _, _, rfl, R.new (o := .rg i j) (tk := s.toks + 1) (Nat.le_refl _) (fun b x e => Heap.get?_push_of_some _ e) (fun d => ⟨_, _, _, Heap.get?_push_size _ rfl⟩) rfl, h _ (R.non (Nat.le_refl _))⟩
end
end Rk

end
section
set_option tactic.hygienic false
namespace Rk
noncomputable def Cx.comp (c : Cx) (s : Shared) (scope : Scope) (cl : List (Str × Addr)) (L' : Addr) : Cx :=
  { c with A₀ := c.A, h₀ := ground c.h₀ c.L s.heap, outer := c.fl, sc := relabel scope c.env, L := L', fa := none, cl := cl, inn := true }
theorem Rel0.inC {c : Cx} {σ : St} {s : Shared} (R : Rel0 c σ s) {scope : Scope} {cl : List (Str × Addr)} {h₁ : Heap} {m' : Str → Option Value} {tk : Nat} {L' : Addr} (hL : s.heap.objs.size ≤ L') (hk : scope.kind = .function)
    (hns : h₁.Ns L' m') (kp : ∀ b o, s.heap.get? b = some o → h₁.get? b = some o) : Rel0 (c.comp s scope cl L') ⟨fun _ => none, σ.H⟩ { s with heap := h₁, toks := tk } := by
  obtain ⟨m, F⟩ := R.fr
  obtain ⟨δ, D⟩ := R.hp
  have g := R.grd
  refine ⟨⟨g.1, g.2.1, g.2.2.1, R.ok.fr, rfl, hk, R.ok.XB, R.ok.TB, g.2.2.2⟩, ⟨m', ⟨hns, fun b o e => kp _ _ (ground_of e), Nat.le_trans (Nat.le_of_eq ground_size) hL⟩, fun x v e => by cases e⟩, ⟨δ, (D.grow kp).at_, fun a o e => ?_, fun a o e i => ?_, D.inj⟩, R.g, R.d, R.o⟩
  · obtain ⟨x, hx⟩ := (D.at_ a o e).ex
    exact ⟨Nat.ne_of_lt (Nat.lt_of_lt_of_le (Heap.lt_size hx) hL), ground_none (D.off a o e).1 (D.off a o e).2⟩
  · obtain ⟨es, n, hx⟩ := (D.at_ a o e).exD i
    have z := D.doff a o e i
    exact ⟨Nat.ne_of_lt (Nat.lt_of_lt_of_le (Heap.lt_size hx) hL), ground_none z.1 z.2.1, z.2.2⟩
noncomputable def Unk (c : Cx) (σ : St) (C : Addr) (h : Heap) : Prop := (∃ δ, RelD c.h₀ c.L δ σ.H h ∧ σ.H C = none ∧ ∀ a o, σ.H a = some o → o.isInst = true → δ a ≠ C) ∧ c.h₀.get? C = none ∧ C ≠ c.L
theorem Rel0.outC {c : Cx} {σ σ' : St} {s s' : Shared} (R : Rel0 c σ s) {scope : Scope} {cl : List (Str × Addr)} {L' : Addr} (R' : Rel (c.comp s scope cl L') σ' s') :
    ∃ g₂, KtsTurn c.fs c.h₀ g₂ ∧ Rel0 (c.at g₂) ⟨σ.m, σ'.H⟩ s' ∧ Unk (c.at g₂) σ' L' s'.heap := by
  obtain ⟨g₁, T₁, R'⟩ := R'
  obtain ⟨g₂, m, T, ok, F₂, l, off⟩ := R.retreat T₁
  obtain ⟨m', F', _⟩ := R'.loc
  obtain ⟨δ, D⟩ := R'.hp
  obtain ⟨oL, es, ep, hL, r⟩ := F₂.ns
  have DD : RelD g₂ c.L δ σ'.H s'.heap := ⟨D.at_, fun a o e => by
    have z := off a (D.off a o e).2
    exact ⟨z.2, z.1⟩, fun a o e i => by
    have z := D.doff a o e i
    have z' := off _ z.2.1
    exact ⟨z'.2, z'.1, z.2.2⟩, D.inj⟩
  have gn : g₁.get? L' = none := by
    cases q : g₁.get? L' with
    | none => rfl
    | some o => exact absurd (Nat.lt_of_lt_of_le (Heap.lt_size q) F'.above) (Nat.lt_irrefl _)
  refine ⟨g₂, T, ⟨ok, ⟨m, ⟨⟨oL, es, ep, F'.keep _ _ hL, r⟩, fun b o e => F'.keep _ _ (F₂.keep b o e), F₂.above⟩, l⟩, ⟨δ, DD⟩, R'.g, R'.d, R'.o⟩, ⟨δ, DD, ?_, fun a o e i => (D.doff a o e i).1⟩, (off _ gn).1, (off _ gn).2⟩
  cases q : σ'.H L' with
  | none => rfl
  | some o => exact absurd rfl (D.off L' o q).1
theorem Rel0.unk {c : Cx} {σ : St} {s : Shared} (R : Rel0 c σ s) {C : Addr} (u : Unk c σ C s.heap) {h' : Heap} (hs : Heap.SameBut C s.heap h') : Rel0 c σ { s with heap := h' } := by
  obtain ⟨⟨δ, D, h1, h2⟩, h3, h4⟩ := u
  obtain ⟨m, F, l⟩ := R.loc
  exact ⟨R.ok, ⟨m, ⟨F.ns.sameBut hs (Ne.symm h4), fun b o e => (hs.2 b (fun q => by rw [q, h3] at e; cases e)).trans (F.keep b o e), F.above⟩, l⟩, ⟨δ, D.other (KeepBut.of hs) h1 h2⟩, R.g, R.d, R.o⟩
noncomputable def CEnd (c : Cx) (U : St → Prop) (r : Result) (s' : Shared) : Prop := match r with
  | .ok _ => ∃ σ', Rel c σ' s' ∧ U σ'
  | .error _ => False
noncomputable def Cx.CLoop (c : Cx) (e : Expr) (it acc : Addr) (U : St → Prop) (σ : St) : Prop :=
  ∀ s, Rel c σ s → codeAny (model c.D.prog c.D.w) c.A (.compLoop e 0 (.ref it) (.ref acc) c.env) (CEnd c U) s
section
variable {c : Cx} {E : Value → Shared → Prop} {σ : St} {Q : V → St → Prop} {U : St → Prop} {it acc : Addr} {elt target iter : Expr} {scope : Scope} {pos : Pos}
theorem cl_turn0 (h : c.Nx Nope it (c.OTurn target U (fun σ₂ => c.Ev Nope elt (fun x σ₃ => c.Call Nope (.builtin "list.append") [.ref acc, x] (fun _ σ₄ => c.CLoop (.ListComp elt [⟨target, iter, [], 0⟩] scope pos) it acc U σ₄) σ₃) σ₂)) σ)
    (ht : isNm target = true := by with_unfolding_all rfl) : c.CLoop (.ListComp elt [⟨target, iter, [], 0⟩] scope pos) it acc U σ := fun s R => by
  refine codeAny_of_tree ?_
  show wpAny _ c.A ((compTurn (.ListComp elt [⟨target, iter, [], 0⟩] scope pos) 0 (.ref it) (.ref acc) c.env).onRaise (fun x => do noteFrame x c.env; theTreesLotGoes x)) _ _ s
  refine wpAny_onRaise (wpAny_mono (E := Nope) ?_ (fun _ _ x => x) fun _ _ e => e.elim)
  rw [compTurn_list1]
  refine wpAny_bind (wpAny_standAt (wpAny_bind (wpAny_mono (h s R) (fun r s₁ h₁ => ?_) fun _ _ e => e)))
  obtain ⟨o, σ₁, ho, R₁, h₁⟩ := h₁
  cases o with
  | none =>
    cases ho
    exact wpAny_pure ⟨σ₁, R₁, h₁⟩
  | some v =>
    obtain ⟨w, rfl, hv⟩ := ho
    refine wpAny_bind (wpAny_of_eq (letGo_nm ht _ _) ?_)
    refine wpAny_bind (wpAny_mono (h₁ w hv s₁ R₁) (fun _ s₂ h₂ => ?_) fun _ _ e => e)
    obtain ⟨_, σ₂, _, R₂, h₂⟩ := h₂
    refine wpAny_bind (wpAny_bind (wpAny_mono (h₂ s₂ R₂) (fun x s₃ ⟨b, σ₃, hb, R₃, h₃⟩ => wpAny_bind (wpAny_mono (h₃ [.ref acc, x] ⟨rfl, hb, trivial⟩ s₃ R₃) (fun _ s₄ ⟨_, σ₄, _, R₄, h₄⟩ => wpAny_pure (wpAny_pure ?_)) fun _ _ e => e)) fun _ _ e => e))
    exact ⟨rfl, h₄ s₄ R₄⟩
theorem cl_turn1 {t : Expr} (h : c.Nx Nope it (c.OTurn target U (fun σ₂ => c.Te Nope t (fun ok σ₃ => if ok then c.Ev Nope elt (fun x σ₃ => c.Call Nope (.builtin "list.append") [.ref acc, x] (fun _ σ₄ => c.CLoop (.ListComp elt [⟨target, iter, [t], 0⟩] scope pos) it acc U σ₄) σ₃) σ₃
      else c.CLoop (.ListComp elt [⟨target, iter, [t], 0⟩] scope pos) it acc U σ₃) σ₂)) σ)
    (ht : isNm target = true := by with_unfolding_all rfl) : c.CLoop (.ListComp elt [⟨target, iter, [t], 0⟩] scope pos) it acc U σ := fun s R => by
  refine codeAny_of_tree ?_
  show wpAny _ c.A ((compTurn (.ListComp elt [⟨target, iter, [t], 0⟩] scope pos) 0 (.ref it) (.ref acc) c.env).onRaise (fun x => do noteFrame x c.env; theTreesLotGoes x)) _ _ s
  refine wpAny_onRaise (wpAny_mono (E := Nope) ?_ (fun _ _ x => x) fun _ _ e => e.elim)
  rw [compTurn_list]
  refine wpAny_bind (wpAny_standAt (wpAny_bind (wpAny_mono (h s R) (fun r s₁ h₁ => ?_) fun _ _ e => e)))
  obtain ⟨o, σ₁, ho, R₁, h₁⟩ := h₁
  cases o with
  | none =>
    cases ho
    exact wpAny_pure ⟨σ₁, R₁, h₁⟩
  | some v =>
    obtain ⟨w, rfl, hv⟩ := ho
    refine wpAny_bind (wpAny_of_eq (letGo_nm ht _ _) ?_)
    refine wpAny_bind (wpAny_mono (h₁ w hv s₁ R₁) (fun _ s₂ h₂ => ?_) fun _ _ e => e)
    obtain ⟨_, σ₂, _, R₂, h₂⟩ := h₂
    have ft : wpAny (model c.D.prog c.D.w) c.A (forIn [t] true fun c' r => if r = true then do let ok ← isTrue c' c.env (eval c' c.env); pure (ForInStep.yield ok) else pure (ForInStep.yield r))
        (fun ok s₃ => ∃ σ₃, Rel c σ₃ s₃ ∧ (if ok then c.Ev Nope elt (fun x σ₃ => c.Call Nope (.builtin "list.append") [.ref acc, x] (fun _ σ₄ => c.CLoop (.ListComp elt [⟨target, iter, [t], 0⟩] scope pos) it acc U σ₄) σ₃) σ₃
      else c.CLoop (.ListComp elt [⟨target, iter, [t], 0⟩] scope pos) it acc U σ₃)) Nope s₂ := by
      simp only [List.forIn_cons, List.forIn_nil, if_true, bind_assoc, pure_bind]
      exact wpAny_bind (wpAny_mono (h₂ s₂ R₂) (fun b s₃ ⟨b', σ₃, hb, R₃, h₃⟩ => wpAny_pure ⟨σ₃, R₃, by cases hb; exact h₃⟩) fun _ _ e => e)
    refine wpAny_bind (wpAny_mono ft (fun ok s₃ ⟨σ₃, R₃, h₃⟩ => ?_) fun _ _ e => e)
    cases ok with
    | false => exact wpAny_pure ⟨rfl, (show c.CLoop _ it acc U σ₃ from by simpa using h₃) s₃ R₃⟩
    | true =>
      simp only [if_true] at h₃ ⊢
      refine wpAny_bind (wpAny_bind (wpAny_mono (h₃ s₃ R₃) (fun x s₃ ⟨b, σ₃, hb, R₃, h₃⟩ => wpAny_bind (wpAny_mono (h₃ [.ref acc, x] ⟨rfl, hb, trivial⟩ s₃ R₃) (fun _ s₄ ⟨_, σ₄, _, R₄, h₄⟩ => wpAny_pure (wpAny_pure ?_)) fun _ _ e => e)) fun _ _ e => e))
      exact ⟨rfl, h₄ s₄ R₄⟩
theorem it_self {σ : St} {s : Shared} {o : MO} {Q : Value → Shared → Prop} (R : Rel c σ s) (e : σ.H it = some o) (ho : o.isIt = true) (h : Q (.ref it) s) : wpAny (model c.D.prog c.D.w) c.A (pyIter (.ref it)) Q E s := by
  obtain ⟨g, δ, D⟩ := R.hp
  have m := D.at_ it _ e
  cases o with
  | li l i => exact wpAny_pyIter_listiter m h
  | ti l i => exact wpAny_pyIter_tupleiter m h
  | ri x n => exact wpAny_pyIter_rangeiter m h
  | _ => cases ho
noncomputable def Cx.Block (c : Cx) (e : Expr) (scope : Scope) (cl : List (Str × Addr)) (Q : V → St → Prop) (v : V) (σ₂ : St) : Prop :=
  ∃ it o, v = .ref it ∧ σ₂.H it = some o ∧ o.isIt = true ∧ ∀ acc, σ₂.H acc = none → ∀ c' : Cx, c'.D = c.D → c'.sc = relabel scope c.env → c'.cl = cl → (∀ d, c.Room d → c'.Room d) →
    c'.CLoop e it acc (fun σ₃ => Q (.ref acc) ⟨σ₂.m, σ₃.H⟩) ⟨fun _ => none, σ₂.H.set acc (.list [])⟩
theorem block_run {cl : List (Str × Addr)} {g : Comprehension} (hg : g = ⟨target, iter, g.ifs, 0⟩) {v : V} {x : Value} {s₂ : Shared} {σ₂ : St} (hcell : ∀ y ∈ scope.names, y.2 ≠ .cell) (hk : scope.kind = .function) (hv : VRel v x) (R : Rel c σ₂ s₂)
    (h : c.Block (.ListComp elt [g] scope pos) scope cl Q v σ₂) :
    wpAny (model c.D.prog c.D.w) c.A (newList []) (fun ac s₃ => wpAny (model c.D.prog c.D.w) c.A (newFunctionEnv scope c.env.globals cl [] c.env.qual none .none (some c.env)) (fun cenv s₄ =>
      codeAny (model c.D.prog c.D.w) c.A (.compStart (.ListComp elt [g] scope pos) 0 x ac { cenv with scope := relabel scope c.env })
        (fun r s' => match r with | .error _ => False | .ok _ => (∃ m, s'.heap.Ns cenv.locals m) ∧ ∃ a σ' g', ac = .ref a ∧ KtsTurn c.fs c.h₀ g' ∧ Rel0 (c.at g') σ' s' ∧ Unk (c.at g') σ' cenv.locals s'.heap ∧ Q (.ref a) σ') s₄) E s₃) E s₂ := by
  obtain ⟨it, oi, rfl, hoi, hit, h⟩ := h
  cases hv
  refine wpAny_newObj_type (wpAny_newFunctionEnv hcell (by intro y hy; simp at hy) (fun h₁ hns₁ hsb₁ => ?_) hk)
  dsimp only at hns₁ hsb₁ ⊢
  generalize hH2 : s₂.heap.push { cls := .type "list", dict := none, data := .seq ([] : List Value).toArray } = H2 at hns₁ hsb₁ ⊢
  have hC : H2.objs.size = s₂.heap.objs.size + 1 := by rw [← hH2, Heap.size_push]
  have hHk : ∀ b o, s₂.heap.get? b = some o → H2.get? b = some o := fun b o e => hH2 ▸ Heap.get?_push_of_some _ e
  have hn := R.non (Nat.le_refl _)
  obtain ⟨gg, T, R⟩ := R
  have R₂ : Rel0 (c.at gg) (σ₂.set s₂.heap.objs.size (.list [])) { s₂ with heap := H2, toks := s₂.toks } := R.new (o := .list []) (Nat.le_refl _) hHk (fun d => mkl (ws := #[]) (hH2 ▸ Heap.get?_push_size _ rfl) trivial) rfl
  have kp : ∀ b o, H2.get? b = some o → h₁.get? b = some o := fun b o e => by
    have lt := Heap.lt_size e
    exact (hsb₁.2 b (Nat.ne_of_lt lt)).trans (Heap.get?_push_of_some _ e)
  have R₃ : Rel0 ((c.at gg).comp { s₂ with heap := H2, toks := s₂.toks } scope cl H2.objs.size) ⟨fun _ => none, (σ₂.set s₂.heap.objs.size (.list [])).H⟩ { s₂ with heap := h₁, toks := s₂.toks + ([] : List (Str × Value)).length } :=
    R₂.inC (scope := scope) (cl := cl) (tk := s₂.toks + ([] : List (Str × Value)).length) (Nat.le_refl _) hk hns₁ kp
  have key := h s₂.heap.objs.size hn ((c.at gg).comp { s₂ with heap := H2, toks := s₂.toks } scope cl H2.objs.size) rfl rfl rfl (fun d r => ⟨r.1, r.2, r.hh⟩) _ R₃.rel
  have fin : codeAny (model c.D.prog c.D.w) c.A (.compLoop (.ListComp elt [g] scope pos) 0 (.ref it) (.ref s₂.heap.objs.size) (c.comp { s₂ with heap := H2, toks := s₂.toks } scope cl H2.objs.size).env)
        (fun r s' => match r with | .error _ => False | .ok _ => (∃ m, s'.heap.Ns H2.objs.size m) ∧ ∃ a σ' g', (Value.ref s₂.heap.objs.size) = .ref a ∧ KtsTurn c.fs c.h₀ g' ∧ Rel0 (c.at g') σ' s' ∧ Unk (c.at g') σ' H2.objs.size s'.heap ∧ Q (.ref a) σ') { s₂ with heap := h₁, toks := s₂.toks + ([] : List (Str × Value)).length } :=
    codeAny_mono key fun r s' x => by
      unfold CEnd at x
      cases r with
      | error e => exact x.elim
      | ok f =>
        obtain ⟨σ', R', u⟩ := x
        obtain ⟨_, m', F'⟩ := R'.fr
        obtain ⟨g₂, T₂, R₄, U⟩ := Rel0.outC (σ := ⟨σ₂.m, (σ₂.set s₂.heap.objs.size (.list [])).H⟩) R₂ R'
        exact ⟨⟨m', F'.ns⟩, _, ⟨σ₂.m, σ'.H⟩, g₂, rfl, T.trans T₂, R₄, U, u⟩
  rw [hg] at fin ⊢
  refine codeAny_compStart_list fin ?_
  have ne : σ₂.H.set s₂.heap.objs.size (.list []) it = some oi := (Hp.set_ne _ _ (fun q => by rw [q, hn] at hoi; cases hoi)).trans hoi
  exact it_self (c := (c.at gg).comp { s₂ with heap := H2, toks := s₂.toks } scope cl H2.objs.size) R₃.rel ne hit fin
theorem w_comp {cl : List (Str × Addr)} {g : Comprehension} (hcl : closureFor scope c.env = pure cl) (h : c.Ev E g.iter (fun v σ₁ => c.Itr E v (c.Block (.ListComp elt [g] scope pos) scope cl Q) σ₁) σ)
    (hcell : ∀ y ∈ scope.names, y.2 ≠ .cell := by decide) (hk : scope.kind = .function := by rfl) (hnames : ∀ x ∈ scope.names, x.2 = .local → scope.names.lookup x.1 = some .local := by decide)
    (hg : g = ⟨g.target, g.iter, g.ifs, 0⟩ := by rfl) (hs : ∀ env x, foldedSetIterable g.iter env x = pure x := by intro _ _; with_unfolding_all rfl) : c.Ev E (.ListComp elt [g] scope pos) Q σ := fun s R => by
  show wpAny _ _ (eval (.ListComp elt [g] scope pos) c.env) _ _ _
  rw [eval_ListComp]
  have e1 : firstIter [g] c.env = eval g.iter c.env := by rw [hg]; rfl
  have e2 : firstAsync [g] = false := by rw [hg]; rfl
  rw [e1, e2]
  refine wpAny_comprehension_free (use := none) rfl (hs _) hcl hk hnames (wpAny_mono (h s R) (fun xv s₁ ⟨v, σ₁, hv, R₁, h₁⟩ => wpAny_mono (h₁ xv hv s₁ R₁) (fun x s₂ ⟨u, σ₂, hu, R₂, h₂⟩ => ?_) fun _ _ e => e) fun _ _ e => e)
  refine wpAny_mono (block_run (target := g.target) (iter := g.iter) hg hcell hk hu R₂ h₂) (fun ac s₃ h₃ => wpAny_mono h₃ (fun cenv s₄ h₄ => codeAny_mono h₄ fun r s' h₅ => ?_) fun _ _ e => e) fun _ _ e => e
  cases r with
  | error e => exact h₅.elim
  | ok f =>
    obtain ⟨⟨m, hn⟩, a, σ', g', rfl, T, R', u, q⟩ := h₅
    exact ⟨m, hn, fun h' hs' => ⟨.ref a, σ', rfl, ⟨g', T, R'.unk u hs'⟩, q⟩⟩
theorem s_comp {cl : List (Str × Addr)} {g : Comprehension} {y : Str} {py spos : Pos} {U : Fl → St → Prop} (hcl : closureFor scope c.env = pure cl) (h : c.Ev E g.iter (fun v σ₁ => c.Itr E v (c.Block (.ListComp elt [g] scope pos) scope cl (fun v σ₂ => Lc c.env y ∧ U .next (σ₂.up y v))) σ₁) σ)
    (hsw : swapsWith (.ListComp elt [g] scope pos) (some (.Name y py)) spos.line c.env = pure true)
    (hcell : ∀ y ∈ scope.names, y.2 ≠ .cell := by decide) (hk : scope.kind = .function := by rfl) (hnames : ∀ x ∈ scope.names, x.2 = .local → scope.names.lookup x.1 = some .local := by decide)
    (hg : g = ⟨g.target, g.iter, g.ifs, 0⟩ := by rfl) (hs : ∀ env x, foldedSetIterable g.iter env x = pure x := by intro _ _; with_unfolding_all rfl) : c.S E (.Assign [.Name y py] (.ListComp elt [g] scope pos) spos) U σ := fun s R => by
  show wpAny _ _ (exec (.Assign [.Name y py] (.ListComp elt [g] scope pos) spos) c.env) _ _ _
  rw [exec_Assign_Name_used _ _ _ _ hsw]
  refine wpAny_bind (wpAny_standAt (wpAny_bind ?_))
  have e1 : firstIter [g] c.env = eval g.iter c.env := by rw [hg]; rfl
  have e2 : firstAsync [g] = false := by rw [hg]; rfl
  show wpAny _ c.A (do let _ ← comprehension (.ListComp elt [g] scope pos) scope c.env _ (newList []) (firstAsync [g]) (firstIter [g] c.env) (some (assign (.Name y py) c.env))) _ _ s
  rw [e1, e2]
  refine wpAny_bind (wpAny_mono (wpAny_comprehension_free (use := some (assign (.Name y py) c.env)) (Q := fun _ s' => ∃ b σ', FRel b .next ∧ Rel c σ' s' ∧ U b σ') rfl (hs _) hcl hk hnames
    (wpAny_mono (h s R) (fun xv s₁ ⟨v, σ₁, hv, R₁, h₁⟩ => wpAny_mono (h₁ xv hv s₁ R₁) (fun x s₂ ⟨u, σ₂, hu, R₂, h₂⟩ => ?_) fun _ _ e => e) fun _ _ e => e)) (fun _ s' hq => wpAny_pure (wpAny_pure hq)) fun _ _ e => e)
  refine wpAny_mono (block_run (target := g.target) (iter := g.iter) hg hcell hk hu R₂ h₂) (fun ac s₃ h₃ => wpAny_mono h₃ (fun cenv s₄ h₄ => codeAny_mono h₄ fun r s' h₅ => ?_) fun _ _ e => e) fun _ _ e => e
  cases r with
  | error e => exact h₅.elim
  | ok f =>
    obtain ⟨⟨m, hn⟩, a, σ', g', rfl, T, R', u, hlc, q⟩ := h₅
    obtain ⟨mm, F, l⟩ := R'.loc
    obtain ⟨⟨δ, D, hU1, hU2⟩, hU3, hU4⟩ := u
    show wpAny _ c.A (assign (.Name y py) c.env (.ref a)) _ _ _
    refine wpAny_assign_Name (wpAny_storeName_local (env := c.env) hlc.1 F.ns (fun h₂ hn₂ hs₂ => ?_) (by
      show (c.sc.kind == .class || (c.sc.kind == .module && c.L != mainGlobals)) = false
      rw [R.ke]; rfl))
    have R₂ : Rel0 (c.at g') (σ'.up y (.ref a)) { s' with heap := h₂, toks := s'.toks + 1 } := R'.up F l hlc (show VRel (.ref a) (.ref a) from rfl) (F.set hn₂ hs₂) hs₂
    have u₂ : Unk (c.at g') (σ'.up y (.ref a)) cenv.locals h₂ := by
      refine ⟨⟨δ, RelD.other D (KeepBut.of hs₂) ?_ fun a o e i => (D.doff a o e i).1, hU1, hU2⟩, hU3, hU4⟩
      show σ'.H c.L = none
      cases q : σ'.H c.L with
      | none => rfl
      | some o => exact absurd rfl (D.off c.L o q).1
    exact ⟨m, hn.sameBut hs₂ hU4, fun h₃ hs₃ => ⟨.next, σ'.up y (.ref a), rfl, ⟨g', T, R₂.unk u₂ hs₃⟩, q⟩⟩
end
end Rk

end
section
open PySem PySem.W PySem.Calls PyProof.Rows PySem.SeqAt
set_option tactic.hygienic false
namespace Rk
inductive Dt where
  | none | bool (b : Bool) | int (i : Int) | str (x : Str) | bytes (b : Array UInt8) | tup (ds : List Dt) | list (ds : List Dt)
mutual
noncomputable def DIs (H : Hp) (v : V) : Dt → Prop
  | .none => v = .none
  | .bool b => v = .bool b
  | .int i => v = .int i
  | .str x => v = .str x
  | .bytes b => v = .bytes b
  | .tup ds => ∃ a vs, v = .ref a ∧ H a = some (.tup vs) ∧ DsIs H vs ds
  | .list ds => ∃ a vs, v = .ref a ∧ H a = some (.list vs) ∧ DsIs H vs ds
noncomputable def DsIs (H : Hp) : List V → List Dt → Prop
  | [], [] => True
  | v :: vs, d :: ds => DIs H v d ∧ DsIs H vs ds
  | _, _ => False
end
mutual
noncomputable def eqd : Dt → Dt → Bool
  | .none, .none => true
  | .bool a, .bool b => a == b
  | .int a, .int b => a == b
  | .str a, .str b => a == b
  | .bytes a, .bytes b => a.toList == b.toList
  | .tup ds, .tup es => eqds ds es
  | .list ds, .list es => eqds ds es
  | _, _ => false
noncomputable def eqds : List Dt → List Dt → Bool
  | [], [] => true
  | d :: ds, e :: es => eqd d e && eqds ds es
  | _, _ => false
end
mutual
noncomputable def likd : Dt → Dt → Bool
  | .none, .none => true
  | .bool _, .bool _ => true
  | .int _, .int _ => true
  | .str _, .str _ => true
  | .bytes _, .bytes _ => true
  | .tup ds, .tup es => likds ds es
  | .list ds, .list es => likds ds es
  | _, _ => false
noncomputable def likds : List Dt → List Dt → Bool
  | d :: ds, e :: es => likd d e && likds ds es
  | _, _ => true
end
mutual
noncomputable def dep : Dt → Nat
  | .tup ds => deps ds + 1
  | .list ds => deps ds + 1
  | _ => 0
noncomputable def deps : List Dt → Nat
  | [] => 0
  | d :: ds => max (dep d) (deps ds)
end
mutual
theorem eqd_refl : ∀ d, eqd d d = true
  | .none => by simp [eqd]
  | .bool _ => by simp [eqd]
  | .int _ => by simp [eqd]
  | .str _ => by simp [eqd]
  | .bytes _ => by simp [eqd]
  | .tup ds => by simp only [eqd]; exact eqds_refl ds
  | .list ds => by simp only [eqd]; exact eqds_refl ds
theorem eqds_refl : ∀ ds, eqds ds ds = true
  | [] => by simp [eqds]
  | d :: ds => by simp only [eqds, eqd_refl d, eqds_refl ds, Bool.and_self]
end
mutual
theorem eqd_eq : ∀ d e, eqd d e = true → d = e
  | .none, e, h => by cases e <;> simp_all [eqd]
  | .bool _, e, h => by cases e <;> simp_all [eqd]
  | .int _, e, h => by cases e <;> simp_all [eqd]
  | .str _, e, h => by cases e <;> simp_all [eqd]
  | .bytes a, e, h => by
    cases e <;> simp_all [eqd]
  | .tup ds, e, h => by
    cases e with
    | tup es => rw [eqds_eq ds es (by simpa only [eqd] using h)]
    | _ => simp [eqd] at h
  | .list ds, e, h => by
    cases e with
    | list es => rw [eqds_eq ds es (by simpa only [eqd] using h)]
    | _ => simp [eqd] at h
theorem eqds_eq : ∀ ds es, eqds ds es = true → ds = es
  | [], [], _ => rfl
  | [], _ :: _, h => by simp [eqds] at h
  | _ :: _, [], h => by simp [eqds] at h
  | d :: ds, e :: es, h => by
    simp only [eqds, Bool.and_eq_true] at h
    rw [eqd_eq d e h.1, eqds_eq ds es h.2]
end
mutual
theorem DIs.one {H : Hp} : ∀ {d e : Dt} {v : V}, DIs H v d → DIs H v e → d = e
  | .none, e, v, h, k => by simp only [DIs] at h; subst h; cases e <;> simp_all [DIs]
  | .bool _, e, v, h, k => by simp only [DIs] at h; subst h; cases e <;> simp_all [DIs]
  | .int _, e, v, h, k => by simp only [DIs] at h; subst h; cases e <;> simp_all [DIs]
  | .str _, e, v, h, k => by simp only [DIs] at h; subst h; cases e <;> simp_all [DIs]
  | .bytes _, e, v, h, k => by simp only [DIs] at h; subst h; cases e <;> simp_all [DIs]
  | .tup ds, e, v, h, k => by
    simp only [DIs] at h
    obtain ⟨a, vs, rfl, ha, hd⟩ := h
    cases e with
    | tup es =>
      simp only [DIs] at k
      obtain ⟨b, us, hb, hu, he⟩ := k
      cases hb
      rw [ha] at hu; cases hu
      rw [DsIs.one hd he]
    | list es =>
      simp only [DIs] at k
      obtain ⟨b, us, hb, hu, he⟩ := k
      cases hb
      rw [ha] at hu; cases hu
    | _ => simp [DIs] at k
  | .list ds, e, v, h, k => by
    simp only [DIs] at h
    obtain ⟨a, vs, rfl, ha, hd⟩ := h
    cases e with
    | list es =>
      simp only [DIs] at k
      obtain ⟨b, us, hb, hu, he⟩ := k
      cases hb
      rw [ha] at hu; cases hu
      rw [DsIs.one hd he]
    | tup es =>
      simp only [DIs] at k
      obtain ⟨b, us, hb, hu, he⟩ := k
      cases hb
      rw [ha] at hu; cases hu
    | _ => simp [DIs] at k
theorem DsIs.one {H : Hp} : ∀ {ds es : List Dt} {vs : List V}, DsIs H vs ds → DsIs H vs es → ds = es
  | [], [], [], _, _ => rfl
  | d :: ds, e :: es, v :: vs, h, k => by
    simp only [DsIs] at h k
    rw [DIs.one h.1 k.1, DsIs.one h.2 k.2]
  | [], _ :: _, [], _, k => by simp [DsIs] at k
  | [], _, _ :: _, h, _ => by simp [DsIs] at h
  | _ :: _, _, [], h, _ => by simp [DsIs] at h
  | _ :: _, [], _ :: _, _, k => by simp [DsIs] at k
end
mutual
theorem DIs.le {H H' : Hp} (l : H.Le H') : ∀ {d : Dt} {v : V}, DIs H v d → DIs H' v d
  | .none, _, h => by simpa only [DIs] using h
  | .bool _, _, h => by simpa only [DIs] using h
  | .int _, _, h => by simpa only [DIs] using h
  | .str _, _, h => by simpa only [DIs] using h
  | .bytes _, _, h => by simpa only [DIs] using h
  | .tup ds, _, h => by
    simp only [DIs] at h ⊢
    obtain ⟨a, vs, e, ha, hd⟩ := h
    exact ⟨a, vs, e, l _ _ ha, DsIs.le l hd⟩
  | .list ds, _, h => by
    simp only [DIs] at h ⊢
    obtain ⟨a, vs, e, ha, hd⟩ := h
    exact ⟨a, vs, e, l _ _ ha, DsIs.le l hd⟩
theorem DsIs.le {H H' : Hp} (l : H.Le H') : ∀ {ds : List Dt} {vs : List V}, DsIs H vs ds → DsIs H' vs ds
  | [], [], _ => by simp [DsIs]
  | d :: ds, v :: vs, h => by
    simp only [DsIs] at h ⊢
    exact ⟨DIs.le l h.1, DsIs.le l h.2⟩
  | [], _ :: _, h => by simp [DsIs] at h
  | _ :: _, [], h => by simp [DsIs] at h
end
theorem DsIs.length {H : Hp} : ∀ {ds : List Dt} {vs : List V}, DsIs H vs ds → vs.length = ds.length
  | [], [], _ => rfl
  | d :: ds, v :: vs, h => by
    simp only [DsIs] at h
    rw [List.length_cons, List.length_cons, DsIs.length h.2]
  | [], _ :: _, h => by simp [DsIs] at h
  | _ :: _, [], h => by simp [DsIs] at h
theorem DsIs.put {H : Hp} : ∀ {ds : List Dt} {vs : List V}, DsIs H vs ds → ∀ {i : Nat} {d : Dt}, ds[i]? = some d → ∃ v, vs[i]? = some v ∧ DIs H v d
  | d :: ds, v :: vs, h, 0, _, e => by
    simp only [DsIs] at h
    cases e
    exact ⟨v, rfl, h.1⟩
  | d :: ds, v :: vs, h, i + 1, _, e => by
    simp only [DsIs] at h
    obtain ⟨w, h1, h2⟩ := DsIs.put h.2 (i := i) (by simpa using e)
    exact ⟨w, by simpa using h1, h2⟩
  | [], [], _, _, _, e => by cases e
  | [], _ :: _, h, _, _, _ => by simp [DsIs] at h
  | _ :: _, [], h, _, _, _ => by simp [DsIs] at h
theorem DsIs.app {H : Hp} : ∀ {ds : List Dt} {vs : List V} {es : List Dt} {us : List V}, DsIs H vs ds → DsIs H us es → DsIs H (vs ++ us) (ds ++ es)
  | [], [], _, _, _, k => k
  | d :: ds, v :: vs, _, _, h, k => by
    simp only [DsIs, List.cons_append] at h ⊢
    exact ⟨h.1, DsIs.app h.2 k⟩
  | [], _ :: _, _, _, h, _ => by simp [DsIs] at h
  | _ :: _, [], _, _, h, _ => by simp [DsIs] at h
theorem DsIs.drop {H : Hp} : ∀ {ds : List Dt} {vs : List V} (n : Nat), DsIs H vs ds → DsIs H (vs.drop n) (ds.drop n)
  | _, _, 0, h => h
  | [], [], _ + 1, _ => by simp [DsIs]
  | d :: ds, v :: vs, n + 1, h => by
    simp only [DsIs] at h
    exact DsIs.drop n h.2
  | [], _ :: _, _, h => by simp [DsIs] at h
  | _ :: _, [], _, h => by simp [DsIs] at h
theorem DsIs.take {H : Hp} : ∀ {ds : List Dt} {vs : List V} (n : Nat), DsIs H vs ds → DsIs H (vs.take n) (ds.take n)
  | _, _, 0, _ => by simp [DsIs]
  | [], [], _ + 1, _ => by simp [DsIs]
  | d :: ds, v :: vs, n + 1, h => by
    simp only [DsIs, List.take_succ_cons] at h ⊢
    exact ⟨h.1, DsIs.take n h.2⟩
  | [], _ :: _, _, h => by simp [DsIs] at h
  | _ :: _, [], _, h => by simp [DsIs] at h

noncomputable def eqAt (ds es : List Dt) (j : Nat) : Bool := match ds[j]?, es[j]? with
  | some d, some e => eqd d e
  | _, _ => true
theorem eqAt_all : ∀ ds es : List Dt, ((List.range (min ds.length es.length)).all (eqAt ds es) && ds.length == es.length) = eqds ds es
  | [], [] => by simp [eqds]
  | [], _ :: _ => by simp [eqds]
  | _ :: _, [] => by simp [eqds]
  | d :: ds, e :: es => by
    have ih := eqAt_all ds es
    have m : min (d :: ds).length (e :: es).length = min ds.length es.length + 1 := by simp only [List.length_cons]; (first | lia | omega)
    rw [m, List.range_succ_eq_map, List.all_cons, List.all_map, eqds, ← ih, Bool.and_assoc]
    have l : ((d :: ds).length == (e :: es).length) = (ds.length == es.length) := by
      rw [Bool.eq_iff_iff]; simp
    have q : (eqAt (d :: ds) (e :: es) ∘ Nat.succ) = eqAt ds es := by
      funext j; simp [eqAt]
    rw [l, q]
    rfl
section
variable {c : Cx} {σ : St} {s : Shared}
theorem rc_bytes (A : Around) (s : Shared) (b : Array UInt8) (t : Tok) (b' : Array UInt8) (u : Tok) : RcAt A s (.bytes b t) (.bytes b' u) (b.toList == b'.toList) := fun prog w E Q h => by
  exact eq_bytes (prog := prog) (w := w) (A := A) (E := E) h
theorem ea_bytes (A : Around) (s : Shared) (b : Array UInt8) (t : Tok) (b' : Array UInt8) (u : Tok) : EqAt A s (.bytes b t) (.bytes b' u) (b.toList == b'.toList) := fun prog w E Q hq => by
  unfold eqBool
  refine wpAny_holding ?_
  refine wpAny_ite_split (fun hab => ?_) (fun _ => ?_)
  · have := eq_of_beq hab
    injection this with h1 h2
    subst h1
    exact wpAny_bind (wpAny_rule (wpAny_pure (by simpa using hq)))
  · exact wpAny_bind (rc_bytes A s b t b' u prog w E _ (wpAny_truthy_bool hq))
theorem ea_none (A : Around) (s : Shared) : EqAt A s .none .none true := EqAt.same _
theorem ea_int (A : Around) (s : Shared) (a : Int) (t : Tok) (b : Int) (u : Tok) : EqAt A s (.int a t) (.int b u) (a == b) := (PySem.MeetsSeq.EqGives.int a b t u).at A s
theorem ea_str (A : Around) (s : Shared) (a : Str) (t : Tok) (b : Str) (u : Tok) : EqAt A s (.str a t) (.str b u) (a == b) := (PyProof.Rows.eqGives_str a b t u).at A s
theorem ea_bool (A : Around) (s : Shared) (a b : Bool) : EqAt A s (.bool a) (.bool b) (a == b) := fun prog w E Q hq => by
  unfold eqBool
  refine wpAny_holding ?_
  refine wpAny_ite_split (fun hab => ?_) (fun _ => ?_)
  · have := eq_of_beq hab
    injection this with h1
    subst h1
    exact wpAny_bind (wpAny_rule (wpAny_pure (by simpa using hq)))
  · exact wpAny_bind (PyProof.Rows.eq_bool (wpAny_truthy_bool hq))
mutual
theorem deep_eq (R : Rel c σ s) : ∀ (d e : Dt) (A : Around) (v u : V) (x y : Value), DIs σ.H v d → DIs σ.H u e → VRel v x → VRel u y → likd d e = true → A.units + dep d < cLine → EqAt A s x y (eqd d e)
  | .none, e, A, v, u, x, y, h, k, hx, hy, l, hu => by
    cases e <;> simp [likd] at l
    simp only [DIs] at h k
    subst h k; cases hx; cases hy
    simp only [eqd]; exact ea_none A s
  | .bool _, e, A, v, u, x, y, h, k, hx, hy, l, hu => by
    cases e <;> simp [likd] at l
    simp only [DIs] at h k
    subst h k; cases hx; cases hy
    simp only [eqd]; exact ea_bool A s _ _
  | .int _, e, A, v, u, x, y, h, k, hx, hy, l, hu => by
    cases e <;> simp [likd] at l
    simp only [DIs] at h k
    subst h k; obtain ⟨t, rfl⟩ := hx; obtain ⟨t', rfl⟩ := hy
    simp only [eqd]; exact ea_int A s _ _ _ _
  | .str _, e, A, v, u, x, y, h, k, hx, hy, l, hu => by
    cases e <;> simp [likd] at l
    simp only [DIs] at h k
    subst h k; obtain ⟨t, rfl⟩ := hx; obtain ⟨t', rfl⟩ := hy
    simp only [eqd]; exact ea_str A s _ _ _ _
  | .bytes _, e, A, v, u, x, y, h, k, hx, hy, l, hu => by
    cases e <;> simp [likd] at l
    simp only [DIs] at h k
    subst h k; obtain ⟨t, rfl⟩ := hx; obtain ⟨t', rfl⟩ := hy
    simp only [eqd]; exact ea_bytes A s _ _ _ _
  | .tup ds, e, A, v, u, x, y, h, k, hx, hy, l, hu => by
    cases e with
    | tup es =>
      have h' := h
      have k' := k
      simp only [DIs] at h k
      obtain ⟨a, vs, rfl, ha, hd⟩ := h
      obtain ⟨b, us, rfl, hb, he⟩ := k
      cases hx; cases hy
      by_cases q : a = b
      · subst q
        rw [DIs.one h' k', eqd_refl]; exact EqAt.same _
      · refine EqAt.of_refs q ?_
        obtain ⟨xs, n, hg, hr⟩ := R.tup ha
        obtain ⟨ys, n', hg', hr'⟩ := R.tup hb
        have l1 := hr.length; rw [Array.length_toList, hd.length] at l1
        have l2 := hr'.length; rw [Array.length_toList, he.length] at l2
        simp only [eqd]
        rw [← eqAt_all, ← l1, ← l2]
        simp only [dep] at hu
        refine RcAt.tuples (tupOf_is hg) (tupOf_is hg') (by (first | lia | omega)) fun j h1 h2 => ?_
        exact deep_eq_at R ds es A.in1 vs us xs.toList ys.toList hd he hr hr' (by simpa only [likd] using l) (by show A.units + 1 + _ < _; (first | lia | omega)) j (by simpa using h1) (by simpa using h2)
    | _ => simp [likd] at l
  | .list ds, e, A, v, u, x, y, h, k, hx, hy, l, hu => by
    cases e with
    | list es =>
      have h' := h
      have k' := k
      simp only [DIs] at h k
      obtain ⟨a, vs, rfl, ha, hd⟩ := h
      obtain ⟨b, us, rfl, hb, he⟩ := k
      cases hx; cases hy
      by_cases q : a = b
      · subst q
        rw [DIs.one h' k', eqd_refl]; exact EqAt.same _
      · refine EqAt.of_refs q ?_
        obtain ⟨xs, n, hg, hr⟩ := R.list ha
        obtain ⟨ys, n', hg', hr'⟩ := R.list hb
        have l1 := hr.length; rw [Array.length_toList, hd.length] at l1
        have l2 := hr'.length; rw [Array.length_toList, he.length] at l2
        simp only [eqd]
        rw [← eqAt_all]
        simp only [dep] at hu
        by_cases qs : ds.length = es.length
        · have e2 : (ds.length == es.length) = true := by simpa using qs
          rw [e2, Bool.and_true, qs, Nat.min_self, ← qs, ← l1]
          refine RcAt.lists (listOf_is hg) (listOf_is hg') (by (first | lia | omega)) (by (first | lia | omega)) fun j h1 h2 => ?_
          exact deep_eq_at R ds es A.in1 vs us xs.toList ys.toList hd he hr hr' (by simpa only [likd] using l) (by show A.units + 1 + _ < _; (first | lia | omega)) j (by simpa using h1) (by simpa using h2)
        · have e2 : (ds.length == es.length) = false := by simpa using qs
          rw [e2, Bool.and_false]
          exact RcAt.lists_lengths (listOf_is hg) (listOf_is hg') (by simp; (first | lia | omega)) (by (first | lia | omega))
    | _ => simp [likd] at l
theorem deep_eq_at (R : Rel c σ s) : ∀ (ds es : List Dt) (A : Around) (vs us : List V) (xs ys : List Value), DsIs σ.H vs ds → DsIs σ.H us es → VsRel vs xs → VsRel us ys → likds ds es = true → A.units + deps ds < cLine →
    ∀ (j : Nat) (h1 : j < xs.length) (h2 : j < ys.length), EqAt A s xs[j] ys[j] (eqAt ds es j)
  | d :: ds, e :: es, A, v :: vs, u :: us, x :: xs, y :: ys, h, k, hx, hy, l, hu, j, h1, h2 => by
    simp only [DsIs] at h k
    simp only [likds, Bool.and_eq_true] at l
    simp only [deps] at hu
    cases j with
    | zero => simpa [eqAt] using deep_eq R d e A v u x y h.1 k.1 hx.1 hy.1 l.1 (by (first | lia | omega))
    | succ j => simpa [eqAt] using deep_eq_at R ds es A vs us xs ys h.2 k.2 hx.2 hy.2 l.2 (by (first | lia | omega)) j (by simpa using h1) (by simpa using h2)
  | [], _, _, vs, _, xs, _, h, _, hx, _, _, _, j, h1, _ => by
    cases vs with
    | nil => cases xs with
      | nil => cases h1
      | cons => exact hx.elim
    | cons => simp [DsIs] at h
  | _ :: _, [], _, _, us, _, ys, _, k, _, hy, _, _, j, _, h2 => by
    cases us with
    | nil => cases ys with
      | nil => cases h2
      | cons => exact hy.elim
    | cons => simp [DsIs] at k
  | _ :: _, _ :: _, _, [], _, _, _, h, _, _, _, _, _, _, _, _ => by simp [DsIs] at h
  | _ :: _, _ :: _, _, _ :: _, [], _, _, _, k, _, _, _, _, _, _, _ => by simp [DsIs] at k
  | _ :: _, _ :: _, _, _ :: _, _ :: _, [], _, _, _, hx, _, _, _, _, _, _ => hx.elim
  | _ :: _, _ :: _, _, _ :: _, _ :: _, _ :: _, [], _, _, _, hy, _, _, _, _, _ => hy.elim
end
variable {E : Value → Shared → Prop} {Q : V → St → Prop} {a b : Addr} {ds es : List Dt} {d : Nat}
theorem c_eqL (r : c.Room d) (h : DIs σ.H (.ref a) (.list ds)) (k : DIs σ.H (.ref b) (.list es)) (l : likds ds es = true) (hd : deps ds ≤ 100) (q : Q (.bool (eqds ds es)) σ) : c.Cmp E .Eq (.ref a) (.ref b) Q σ := by
  rintro _ _ rfl rfl s R
  have ru := r.2
  simp only [DIs] at h k
  obtain ⟨_, vs, e1, ha, hd'⟩ := h
  obtain ⟨_, us, e2, hb, he⟩ := k
  cases e1; cases e2
  obtain ⟨xs, n, hg, hr⟩ := R.list ha
  obtain ⟨ys, n', hg', hr'⟩ := R.list hb
  have l1 := hr.length; rw [Array.length_toList, hd'.length] at l1
  have l2 := hr'.length; rw [Array.length_toList, he.length] at l2
  have cl : cLine = 9900 := rfl
  rw [← eqAt_all] at q
  by_cases qs : ds.length = es.length
  · have e2 : (ds.length == es.length) = true := by simpa using qs
    rw [e2, Bool.and_true, qs, Nat.min_self, ← qs, ← l1] at q
    exact RcAt.lists (listOf_is hg) (listOf_is hg') (by (first | lia | omega)) (by (first | lia | omega)) (fun j h1 h2 => deep_eq_at R ds es c.A.in1 vs us xs.toList ys.toList hd' he hr hr' l (by show c.A.units + 1 + _ < _; (first | lia | omega)) j (by simpa using h1) (by simpa using h2)) _ _ _ _ ⟨.bool _, σ, rfl, R, q⟩
  · have e2 : (ds.length == es.length) = false := by simpa using qs
    rw [e2, Bool.and_false] at q
    exact RcAt.lists_lengths (listOf_is hg) (listOf_is hg') (by simp; (first | lia | omega)) (by (first | lia | omega)) _ _ _ _ ⟨.bool _, σ, rfl, R, q⟩
theorem c_neL (r : c.Room d) (h : DIs σ.H (.ref a) (.list ds)) (k : DIs σ.H (.ref b) (.list es)) (l : likds ds es = true) (hd : deps ds ≤ 100) (q : Q (.bool (!eqds ds es)) σ) : c.Cmp E .NotEq (.ref a) (.ref b) Q σ := by
  rintro _ _ rfl rfl s R
  have ru := r.2
  simp only [DIs] at h k
  obtain ⟨_, vs, e1, ha, hd'⟩ := h
  obtain ⟨_, us, e2, hb, he⟩ := k
  cases e1; cases e2
  obtain ⟨xs, n, hg, hr⟩ := R.list ha
  obtain ⟨ys, n', hg', hr'⟩ := R.list hb
  have l1 := hr.length; rw [Array.length_toList, hd'.length] at l1
  have l2 := hr'.length; rw [Array.length_toList, he.length] at l2
  have cl : cLine = 9900 := rfl
  rw [← eqAt_all] at q
  by_cases qs : ds.length = es.length
  · have e2 : (ds.length == es.length) = true := by simpa using qs
    rw [e2, Bool.and_true, qs, Nat.min_self, ← qs, ← l1] at q
    exact RcNeAt.lists (listOf_is hg) (listOf_is hg') (by (first | lia | omega)) (by (first | lia | omega)) (fun j h1 h2 => deep_eq_at R ds es c.A.in1 vs us xs.toList ys.toList hd' he hr hr' l (by show c.A.units + 1 + _ < _; (first | lia | omega)) j (by simpa using h1) (by simpa using h2)) _ _ _ _ ⟨.bool _, σ, rfl, R, q⟩
  · have e2 : (ds.length == es.length) = false := by simpa using qs
    rw [e2, Bool.and_false] at q
    exact RcNeAt.lists_lengths (listOf_is hg) (listOf_is hg') (by simp; (first | lia | omega)) (by (first | lia | omega)) _ _ _ _ ⟨.bool _, σ, rfl, R, q⟩
theorem c_neT (r : c.Room d) (h : DIs σ.H (.ref a) (.tup ds)) (k : DIs σ.H (.ref b) (.tup es)) (l : likds ds es = true) (hd : deps ds ≤ 100) (q : Q (.bool (!eqds ds es)) σ) : c.Cmp E .NotEq (.ref a) (.ref b) Q σ := by
  rintro _ _ rfl rfl s R
  have ru := r.2
  simp only [DIs] at h k
  obtain ⟨_, vs, e1, ha, hd'⟩ := h
  obtain ⟨_, us, e2, hb, he⟩ := k
  cases e1; cases e2
  obtain ⟨xs, n, hg, hr⟩ := R.tup ha
  obtain ⟨ys, n', hg', hr'⟩ := R.tup hb
  have l1 := hr.length; rw [Array.length_toList, hd'.length] at l1
  have l2 := hr'.length; rw [Array.length_toList, he.length] at l2
  have cl : cLine = 9900 := rfl
  rw [← eqAt_all, ← l1, ← l2] at q
  exact RcNeAt.tuples (tupOf_is hg) (tupOf_is hg') (by (first | lia | omega)) (fun j h1 h2 => deep_eq_at R ds es c.A.in1 vs us xs.toList ys.toList hd' he hr hr' l (by show c.A.units + 1 + _ < _; (first | lia | omega)) j (by simpa using h1) (by simpa using h2)) _ _ _ _ ⟨.bool _, σ, rfl, R, q⟩
end
end Rk

end
section
open PySem PySem.W PySem.Calls PyProof.Rows PySem.SeqAt
set_option tactic.hygienic false
namespace Rk
open PySem.AutoSeq1 (wpAny_loadPart')
noncomputable def pge (a b c d : Int) : Bool := if a == c then (if b == d then true else decide (d ≤ b)) else decide (c ≤ a)
noncomputable def pgt (a b c d : Int) : Bool := if a == c then (if b == d then false else decide (d < b)) else decide (c < a)
theorem rge {prog : Program} {w : World} {A : Around} {E : Value → Shared → Prop} {s : Shared} {a b : Int} {t u : Tok} {Q : Value → Shared → Prop} (h : Q (.bool (decide (b ≤ a))) s) : wpAny (model prog w) A (richCompare .GtE (.int a t) (.int b u)) Q E s := PyProof.Rows.ge_int h
theorem rgt {prog : Program} {w : World} {A : Around} {E : Value → Shared → Prop} {s : Shared} {a b : Int} {t u : Tok} {Q : Value → Shared → Prop} (h : Q (.bool (decide (b < a))) s) : wpAny (model prog w) A (richCompare .Gt (.int a t) (.int b u)) Q E s := PyProof.Rows.gt_int h
theorem tuple_ge2 (l b : Addr) (a1 a2 b1 b2 : Int) (t1 t2 u1 u2 : Tok) (n n2 : Nat) (dd dd2 : Option Addr) (sl sl2 : Array (Option Value)) :
    Meets (Builtin.«tuple.__ge__» ⟨[.ref l, .ref b], []⟩)
      (fun A R s => s.heap.get? l = some { cls := .type "tuple", dict := dd, data := .seq #[.int a1 t1, .int a2 t2] n, slots := sl } ∧ s.heap.get? b = some { cls := .type "tuple", dict := dd2, data := .seq #[.int b1 u1, .int b2 u2] n2, slots := sl2 } ∧
        R (.ok (.ret (.bool (pge a1 a2 b1 b2)))) s) :=
  .of_wp fun prog w A R s h => by
    obtain ⟨hp, g, d, tk, os⟩ := s; obtain ⟨hl, hb, h⟩ := h
    have f2 := AutoSeq1.sub_tuple_tuple
    have hz : (#[Value.int a1 t1, .int a2 t2] : Array Value).toList.zip (#[Value.int b1 u1, .int b2 u2] : Array Value).toList = [(.int a1 t1, .int b1 u1), (.int a2 t2, .int b2 u2)] := rfl
    wp_walk using wpAny_loadPart' hl, wpAny_loadPart' hb
    refine wpAny_eqBool_int (a := a1) (b := b1) (t := t1) (u := u1) ?_
    unfold pge at h
    cases q : (a1 == b1) with
    | false =>
      rw [q] at h
      wp_walk using rge
      exact ⟨_, rfl, by simpa using h⟩
    | true =>
      rw [q] at h
      wp_walk
      refine wpAny_eqBool_int (a := a2) (b := b2) (t := t2) (u := u2) ?_
      cases q2 : (a2 == b2) with
      | false =>
        rw [q2] at h
        wp_walk using rge
        exact ⟨_, rfl, by simpa using h⟩
      | true =>
        rw [q2] at h
        wp_walk
        exact ⟨_, rfl, by simpa [Builtin.Tuple.tupleCompareSizes] using h⟩
theorem tuple_gt2 (l b : Addr) (a1 a2 b1 b2 : Int) (t1 t2 u1 u2 : Tok) (n n2 : Nat) (dd dd2 : Option Addr) (sl sl2 : Array (Option Value)) :
    Meets (Builtin.«tuple.__gt__» ⟨[.ref l, .ref b], []⟩)
      (fun A R s => s.heap.get? l = some { cls := .type "tuple", dict := dd, data := .seq #[.int a1 t1, .int a2 t2] n, slots := sl } ∧ s.heap.get? b = some { cls := .type "tuple", dict := dd2, data := .seq #[.int b1 u1, .int b2 u2] n2, slots := sl2 } ∧
        R (.ok (.ret (.bool (pgt a1 a2 b1 b2)))) s) :=
  .of_wp fun prog w A R s h => by
    obtain ⟨hp, g, d, tk, os⟩ := s; obtain ⟨hl, hb, h⟩ := h
    have f2 := AutoSeq1.sub_tuple_tuple
    have hz : (#[Value.int a1 t1, .int a2 t2] : Array Value).toList.zip (#[Value.int b1 u1, .int b2 u2] : Array Value).toList = [(.int a1 t1, .int b1 u1), (.int a2 t2, .int b2 u2)] := rfl
    wp_walk using wpAny_loadPart' hl, wpAny_loadPart' hb
    refine wpAny_eqBool_int (a := a1) (b := b1) (t := t1) (u := u1) ?_
    unfold pgt at h
    cases q : (a1 == b1) with
    | false =>
      rw [q] at h
      wp_walk using rgt
      exact ⟨_, rfl, by simpa using h⟩
    | true =>
      rw [q] at h
      wp_walk
      refine wpAny_eqBool_int (a := a2) (b := b2) (t := t2) (u := u2) ?_
      cases q2 : (a2 == b2) with
      | false =>
        rw [q2] at h
        wp_walk using rgt
        exact ⟨_, rfl, by simpa using h⟩
      | true =>
        rw [q2] at h
        wp_walk
        exact ⟨_, rfl, by simpa [Builtin.Tuple.tupleCompareSizes] using h⟩

section
variable {c : Cx} {E : Value → Shared → Prop} {σ : St} {Q : V → St → Prop} {P : Bool → St → Prop} {N : Unit → St → Prop} {i j : Int} {a b : Addr} {vs us : List V} {d : Nat}
theorem Rel.pair {s : Shared} (R : Rel c σ s) {x y : Int} (e : σ.H a = some (.tup [.int x, .int y])) : ∃ t u k, s.heap.get? a = some (tupOf #[.int x t, .int y u] k) := by
  obtain ⟨ws, k, hg, hr⟩ := R.tup e
  replace hr := va2 hr
  obtain ⟨_, _, rfl, ⟨t, h1⟩, ⟨u, h2⟩⟩ := hr
  cases h1; cases h2; exact ⟨t, u, k, hg⟩
theorem c_geP {x y x' y' : Int} (r : c.Room d) (e : σ.H a = some (.tup [.int x, .int y])) (e' : σ.H b = some (.tup [.int x', .int y'])) (h : Q (.bool (pge x y x' y')) σ) : c.Cmp E .GtE (.ref a) (.ref b) Q σ := by
  rintro _ _ rfl rfl s R
  have ru := r.2
  have cl : cLine = 9900 := rfl
  obtain ⟨t, u, k, hg⟩ := R.pair e
  obtain ⟨t', u', k', hg'⟩ := R.pair e'
  exact richCompare_meets_room (op := .GtE) ⟨_, hg, rfl⟩ ⟨_, hg', rfl⟩ F.slot_tuple_ge F.entry_tuple_ge (F.args_tuple_ge_2 _ _) (tuple_ge2 a b x y x' y' t u t' u' k k' none none #[] #[])
    ⟨hg, hg', show Value.bool _ ≠ Value.notImplemented ∧ _ from ⟨(fun x => nomatch x), .bool _, σ, rfl, R, h⟩⟩ (by omega)
end
end Rk

end
section
set_option tactic.hygienic false
namespace Rk
noncomputable def mL (k : Str → Option NameKind) : List Str → List V → (Str → Option V) → Str → Option V
  | x :: xs, v :: vs, m => mL k xs vs (if k x = some .local then fun y => if y = x then some v else m y else m)
  | _, _, m => m
noncomputable def mC (k : Str → Option NameKind) : List Str → List V → (Str → Option V) → Str → Option V
  | x :: xs, v :: vs, m => mC k xs vs (if k x = some .local then m else fun y => if y = x then some v else m y)
  | _, _, m => m
theorem mL_rel {k : Str → Option NameKind} : ∀ {ns : List Str} {as : List V} {xs : List Value} {m : Str → Option V} {m' : Str → Option Value}, VsRel as xs → (∀ x v, m x = some v → k x = some .local ∧ ∃ w, m' x = some w ∧ VRel v w) →
    ∀ x v, mL k ns as m x = some v → k x = some .local ∧ ∃ w, bindL k (ns.zip xs) m' x = some w ∧ VRel v w
  | [], _, _, _, _, _, h => fun x v e => h x v (by cases ‹List V› <;> exact e)
  | _ :: _, [], [], _, _, _, h => h
  | n :: ns, a :: as, w :: xs, m, m', hx, h => mL_rel (ns := ns) hx.2 fun x v e => by
    by_cases hk : k n = some .local
    · rw [if_pos hk] at e ⊢
      by_cases q : x = n
      · subst q
        (try dsimp only at e ⊢)
        rw [if_pos rfl] at e ⊢
        cases e
        exact ⟨hk, w, rfl, hx.1⟩
      · (try dsimp only at e ⊢)
        rw [if_neg q] at e ⊢
        exact h x v e
    · rw [if_neg hk] at e ⊢
      exact h x v e
  | _ :: _, [], _ :: _, _, _, h, _ => h.elim
  | _ :: _, _ :: _, [], _, _, h, _ => h.elim
theorem mC_rel {k : Str → Option NameKind} : ∀ {ns : List Str} {as : List V} {xs : List Value} {m : Str → Option V} {m' : Str → Option Value}, VsRel as xs → (∀ x, CellRel (m x) (m' x)) → ∀ x, CellRel (mC k ns as m x) (bindC k (ns.zip xs) m' x)
  | [], _, _, _, _, _, h => fun x => by cases ‹List V› <;> exact h x
  | _ :: _, [], [], _, _, _, h => h
  | n :: ns, a :: as, w :: xs, m, m', hx, h => mC_rel (ns := ns) hx.2 fun x => by
    by_cases hk : k n = some .local
    · rw [if_pos hk, if_pos hk]; exact h x
    · rw [if_neg hk, if_neg hk]
      by_cases q : x = n
      · subst q
        (try dsimp only)
        rw [if_pos rfl, if_pos rfl]
        exact ⟨w, rfl, hx.1⟩
      · (try dsimp only)
        rw [if_neg q, if_neg q]
        exact h x
  | _ :: _, [], _ :: _, _, _, h, _ => h.elim
  | _ :: _, _ :: _, [], _, _, h, _ => h.elim
noncomputable def setCells (k : Str → Option V) : List (Str × Addr) → Hp → Hp
  | [], H => H
  | (x, a) :: r, H => (setCells k r H).set a (.cell (k x))
theorem RelD.add {h₀ h : Heap} {L n : Addr} {δ : Addr → Addr} {H : Hp} {o : MO} (R : RelD h₀ L δ H h) (m : ∀ d, MOAt h d n o) (i : o.isInst = false) (hL : n ≠ L) (h0 : h₀.get? n = none) (hd : ∀ b x, H b = some x → x.isInst = true → δ b ≠ n) (hn : H n = none) :
    RelD h₀ L δ (H.set n o) h := by
  refine ⟨fun b x q => ?_, fun b x q => ?_, fun b x q j => ?_, fun b c x y q q' j j' => ?_⟩
  · by_cases hb : b = n
    · subst hb; rw [Hp.set_self] at q; cases q; exact m _
    · rw [Hp.set_ne _ _ hb] at q; exact R.at_ b x q
  · by_cases hb : b = n
    · subst hb; exact ⟨hL, h0⟩
    · rw [Hp.set_ne _ _ hb] at q; exact R.off b x q
  · by_cases hb : b = n
    · subst hb; rw [Hp.set_self] at q; cases q; rw [i] at j; cases j
    · rw [Hp.set_ne _ _ hb] at q
      have z := R.doff b x q j
      refine ⟨z.1, z.2.1, fun c y q' => ?_⟩
      by_cases hc : c = n
      · subst hc; exact hd b x q j
      · rw [Hp.set_ne _ _ hc] at q'; exact z.2.2 c y q'
  · by_cases hb : b = n
    · subst hb; rw [Hp.set_self] at q; cases q; rw [i] at j; cases j
    · by_cases hc : c = n
      · subst hc; rw [Hp.set_self] at q'; cases q'; rw [i] at j'; cases j'
      · rw [Hp.set_ne _ _ hb] at q; rw [Hp.set_ne _ _ hc] at q'; exact R.inj b c x y q q' j j'
theorem setCells_none {k : Str → Option V} : ∀ {cl : List (Str × Addr)} {H : Hp} {a : Addr}, H a = none → (∀ p ∈ cl, p.2 ≠ a) → setCells k cl H a = none
  | [], _, _, h, _ => h
  | p :: r, H, a, h, hp => by
    show (setCells k r H).set p.2 _ a = none
    rw [Hp.set_ne _ _ (Ne.symm (hp p (.head _)))]
    exact setCells_none h fun q hq => hp q (.tail _ hq)
theorem setCells_inst {k : Str → Option V} : ∀ {cl : List (Str × Addr)} {H : Hp} {a : Addr} {o : MO}, setCells k cl H a = some o → o.isInst = true → H a = some o
  | [], _, _, _, h, _ => h
  | p :: r, H, a, o, h, i => by
    have h' : (setCells k r H).set p.2 (.cell (k p.1)) a = some o := h
    by_cases q : a = p.2
    · subst q; rw [Hp.set_self] at h'; cases h'; cases i
    · rw [Hp.set_ne _ _ q] at h'; exact setCells_inst h' i
theorem RelD.cells {h₀ h : Heap} {L : Addr} {δ : Addr → Addr} {k : Str → Option V} {k' : Str → Option Value} (hk : ∀ x, CellRel (k x) (k' x)) : ∀ (cl : List (Str × Addr)) {H : Hp}, RelD h₀ L δ H h → cl.Pairwise (fun x y => x.2 ≠ y.2) →
    (∀ x a, (x, a) ∈ cl → h.IsCell a (k' x) ∧ a ≠ L ∧ h₀.get? a = none ∧ H a = none ∧ ∀ b o, H b = some o → o.isInst = true → δ b ≠ a) → RelD h₀ L δ (setCells k cl H) h
  | [], _, R, _, _ => R
  | (x, a) :: r, H, R, hp, h => by
    obtain ⟨hp1, hp2⟩ := List.pairwise_cons.mp hp
    obtain ⟨⟨o, ho, hd⟩, h2, h3, h4, h5⟩ := h x a (.head _)
    exact (RelD.cells hk r R hp2 fun y b hm => h y b (.tail _ hm)).add (fun d => ⟨o, _, ho, hd, hk x⟩) rfl h2 h3 (fun b y q i => h5 b y (setCells_inst q i) i) (setCells_none h4 fun p hp => (hp1 p hp).symm)
theorem fn_defC {D : Wd} {d : Nat} {f : Addr} {as : List V} {Q : V → Hp → Prop} {H : Hp} {oc : Value} {od : Option Addr} {osl : Array (Option Value)} {name qual : Str} {params : Arguments} {body : List Stmt} {scope : Scope} {dV kV doc pm cdv ct : Value} {an : Option Addr}
    (hK : D.K.lookup f = some ⟨oc, od, .func (fnX name qual params body scope [] dV kV doc pm an cdv ct), osl⟩) (hcd : codeIn D.K cdv qual = true) (ns : List Str)
    (hb : ArF (fun xs => bindArgs (fnX name qual params body scope [] dV kV doc pm an cdv ct) ⟨xs, []⟩ = pure (ns.zip xs)) as.length [])
    (hkind : ∀ n, ∀ x ∈ ns, scope.names.lookup x = some .local ∨ (scope.names.lookup x = some .cell ∧ ((cellsFrom n scope.names []).lookup x).isSome = true))
    (hnd : ((cellsFrom 0 scope.names []).map (·.1)).Nodup) (hdb : ∀ n ∈ scope.names, (n.1 == ("__debug__" : Str)) = false)
    (hco : scope.isCoroutine = false) (hgen : scope.isGenerator = false) (hk : scope.kind = .function)
    (h : ∀ (c : Cx) (n : Nat), c.D = D → c.nm = qual → c.sc = scope → c.cl = cellsFrom n scope.names [] → (∀ k, n ≤ k → H k = none) → c.Room d →
      c.Ss Nope body (fun fl σ' => Q fl.val σ'.H) ⟨mL (fun x => scope.names.lookup x) ns as fun _ => none, setCells (mC (fun x => scope.names.lookup x) ns as fun _ => none) (cellsFrom n scope.names []) H⟩) : Fn D (d + 1) f as Q H := by
  intro c m hD hr xs hx s R
  subst hD
  obtain ⟨hr1, hr2, hr3⟩ := hr
  have hlim : s.heap.NoLimit := R.top.nolimit
  have Rn : ∀ k, s.heap.objs.size ≤ k → H k = none := fun k hk => R.non hk
  obtain ⟨gg, T, R⟩ := R
  refine codeAny_call_function (fd := fnX name qual params body scope [] dV kV doc pm an cdv ct) (by show _ < 1000; (first | lia | omega)) (R.kin _ _ hK) rfl hco hgen rfl (codeRec_of R.kin hcd) ((BindsTo.of_eq (ar hb xs hx)) _ _ _ _ ?_)
  refine wpAny_newFunctionEnv_cells hk (fun x hm => hkind _ x.1 (List.of_mem_zip hm).1) fun env' he s' x => ?_
  subst he
  refine ⟨hlim.keeps x.toInCall.keep, codeAny_func ?_⟩
  obtain ⟨h₁, tk, rfl, _⟩ := x.done
  have hk₁ := x.toInCall.keep
  have nodup : ((cellsFrom (s.heap.objs.size + 1) scope.names []).map (·.1)).Nodup := cellsFrom_names scope.names 0 (s.heap.objs.size + 1) [] [] rfl ▸ hnd
  have kof : (fun x => Env.kindOf (newEnv scope s.heap.objs.size mainGlobals (cellsFrom (s.heap.objs.size + 1) scope.names []) (qual ++ ".<locals>.") (some f) cdv none builtinsNs) x) = fun x => scope.names.lookup x := rfl
  have R₁ : Rel0 ((c.at gg).into s qual scope f cdv (cellsFrom (s.heap.objs.size + 1) scope.names []) s.heap.objs.size) ⟨mL (fun x => scope.names.lookup x) ns as fun _ => none, H⟩ { s with heap := h₁, toks := tk } :=
    R.into hk x.toInCall.ns hk₁ fun x v e => by
      obtain ⟨p, w, h1, h2⟩ := mL_rel (k := fun x => scope.names.lookup x) (m' := fun _ => none) hx (fun _ _ e => by cases e) x v e
      refine ⟨⟨p, ?_⟩, w, h1, h2⟩
      obtain ⟨q, hq, e1⟩ : ∃ q ∈ scope.names, q.1 = x := by
        have key : ∀ (l : List (Str × NameKind)), l.lookup x = some .local → ∃ q ∈ l, q.1 = x := by
          intro l
          induction l with
          | nil => intro e; cases e
          | cons y l ih =>
            intro e
            rw [List.lookup_cons] at e
            cases hb : x == y.1 with
            | true => exact ⟨y, .head _, (eq_of_beq hb).symm⟩
            | false => rw [hb] at e; obtain ⟨q, h1, h2⟩ := ih e; exact ⟨q, .tail _ h1, h2⟩
        exact key _ p
      rw [← e1]; exact hdb q hq
  have R₂ : Rel0 ((c.at gg).into s qual scope f cdv (cellsFrom (s.heap.objs.size + 1) scope.names []) s.heap.objs.size) ⟨mL (fun x => scope.names.lookup x) ns as fun _ => none, setCells (mC (fun x => scope.names.lookup x) ns as fun _ => none) (cellsFrom (s.heap.objs.size + 1) scope.names []) H⟩ { s with heap := h₁, toks := tk } := by
    refine ⟨R₁.ok, R₁.loc, ?_, R₁.g, R₁.d, R₁.o⟩
    obtain ⟨δ₀, D₀⟩ := R.hp
    obtain ⟨m', F₁, _⟩ := R₁.loc
    obtain ⟨m, F⟩ := R.fr
    have D₁ : RelD (ground gg c.L s.heap) s.heap.objs.size δ₀ H h₁ := by
      refine ⟨(D₀.grow hk₁).at_, fun a o e => ?_, fun a o e i => ?_, D₀.inj⟩
      · obtain ⟨x, hx⟩ := (D₀.at_ a o e).ex
        exact ⟨Nat.ne_of_lt (Heap.lt_size hx), ground_none (D₀.off a o e).1 (D₀.off a o e).2⟩
      · obtain ⟨es, n, hx⟩ := (D₀.at_ a o e).exD i
        have z := D₀.doff a o e i
        exact ⟨Nat.ne_of_lt (Heap.lt_size hx), ground_none z.1 z.2.1, z.2.2⟩
    refine ⟨δ₀, RelD.cells (k' := bindC (fun x => scope.names.lookup x) (ns.zip xs) fun _ => none) (mC_rel (m := fun _ => none) (m' := fun _ => none) hx fun _ => trivial) _ D₁ x.apart fun y a hm => ?_⟩
    have ab : s.heap.objs.size < a := x.above y a hm
    refine ⟨x.cell y a (lookup_of_mem_nodup nodup hm), Nat.ne_of_gt ab, ?_, Rn _ (Nat.le_of_lt ab), fun b o hb hi => ?_⟩
    · show (ground gg c.L s.heap).get? a = none
      cases q : (ground gg c.L s.heap).get? a with
      | none => rfl
      | some o => have := Heap.lt_size q; rw [ground_size] at this; exact absurd this (Nat.not_lt.mpr (Nat.le_of_lt ab))
    · obtain ⟨es, n, hx⟩ := (D₀.at_ b o hb).exD hi
      exact Nat.ne_of_lt (Nat.lt_trans (Heap.lt_size hx) ab)
  refine wpAny_mono (h ((c.at gg).into s qual scope f cdv (cellsFrom (s.heap.objs.size + 1) scope.names []) s.heap.objs.size) (s.heap.objs.size + 1) rfl rfl rfl rfl (fun k hk => Rn _ (Nat.le_trans (Nat.le_succ _) hk)) ⟨by show c.A.depth + 1 + d ≤ 900; (first | lia | omega), by show c.A.units + 3 + 40 * d ≤ 9000; (first | lia | omega), hr3⟩ _ R₂.rel) (fun fl s' ⟨fl', σ', hf, R', hq⟩ => ?_) fun _ _ e => e.elim
  refine (show Back c m Q (.ok (.ret _)) s' from ⟨fl'.val, ⟨m, σ'.H⟩, ?_, Rel.out T R R', rfl, hq⟩)
  cases fl' with
  | next => cases hf; rfl
  | brk => cases hf; rfl
  | cont => cases hf; rfl
  | ret v => obtain ⟨w, rfl, hw⟩ := hf; exact hw
end Rk

end
section
open PySem PySem.W PySem.Calls PyProof.Rows PySem.SeqAt
set_option tactic.hygienic false
namespace Rk
theorem VsRel.ints : ∀ {ns : List Int} {ws : List Value}, VsRel (ns.map V.int) ws → IntsAre ws ns
  | [], [], _ => .nil
  | n :: ns, w :: ws, ⟨⟨t, h⟩, r⟩ => by subst h; exact .cons n t (VsRel.ints r)
  | [], _ :: _, h => h.elim
  | _ :: _, [], h => h.elim
theorem VsRel.ofInts : ∀ {ws : List Value} {ns : List Int}, IntsAre ws ns → VsRel (ns.map V.int) ws
  | _, _, .nil => trivial
  | _, _, .cons n t r => ⟨⟨t, rfl⟩, VsRel.ofInts r⟩
section
variable {c : Cx} {E : Value → Shared → Prop} {σ : St} {Q : V → St → Prop} {P : Bool → St → Prop} {N : Unit → St → Prop} {U : Fl → St → Prop} {i j : Int} {a b : Addr} {vs us : List V} {ns : List Int} {d : Nat}
theorem Rel0.ofN {s : Shared} (R : Rel0 c σ s) {m : Str → Option Value} {h' : Heap} {tk : Nat} (F' : Fr c.h₀ c.L h' m) (N' : News c.h₀ c.L h' (ledg c.h₀ c.L s.heap)) (l : ∀ x v, σ.m x = some v → Lc c.env x ∧ ∃ w, m x = some w ∧ VRel v w) : Rel0 c σ { s with heap := h', toks := tk } := by
  obtain ⟨δ, D⟩ := R.hp
  exact ⟨R.ok, ⟨m, F', l⟩, ⟨δ, D.growK fun b o h1 h2 h3 => (N' (b, o) (ledg_mem.mpr ⟨h1, h2, h3⟩)).1⟩, R.g, R.d, R.o⟩
theorem f_max2 (h : Q (.int (max i j)) σ) (hh : c.A.handled = none := by exact Cx.Room.hh (by assumption)) : c.Call E (.builtin "max") [.int i, .int j] Q σ := by
  intro xs hx s R
  replace hx := vr2 hx
  obtain ⟨_, _, rfl, ⟨t, hx⟩, ⟨u, hy⟩⟩ := hx
  cases hx; cases hy
  refine max_two_ints hh fun h' tk hk => ?_
  refine ⟨.int (max i j), σ, ?_, R.grow hk, h⟩
  by_cases q : j > i
  · rw [if_pos q]; exact ⟨u, by rw [show max i j = j by (first | lia | omega)]⟩
  · rw [if_neg q]; exact ⟨t, by rw [show max i j = i by (first | lia | omega)]⟩
theorem f_min2 (h : Q (.int (min i j)) σ) (hh : c.A.handled = none := by exact Cx.Room.hh (by assumption)) : c.Call E (.builtin "min") [.int i, .int j] Q σ := by
  intro xs hx s R
  replace hx := vr2 hx
  obtain ⟨_, _, rfl, ⟨t, hx⟩, ⟨u, hy⟩⟩ := hx
  cases hx; cases hy
  refine min_two_ints hh fun h' tk hk => ?_
  refine ⟨.int (min i j), σ, ?_, R.grow hk, h⟩
  by_cases q : j < i
  · rw [if_pos q]; exact ⟨u, by rw [show min i j = j by (first | lia | omega)]⟩
  · rw [if_neg q]; exact ⟨t, by rw [show min i j = i by (first | lia | omega)]⟩
theorem f_maxl (e : σ.H a = some (.list (ns.map V.int))) (hn : 0 < ns.length) (h : ∀ M, M ∈ ns → (∀ x ∈ ns, x ≤ M) → Q (.int M) σ) (hh : c.A.handled = none := by exact Cx.Room.hh (by assumption)) : c.Call E (.builtin "max") [.ref a] Q σ := by
  intro xs hx s R
  replace hx := vr1 hx
  obtain ⟨_, rfl, hx⟩ := hx
  cases hx
  obtain ⟨ws, k, hg, hr⟩ := R.list e
  obtain ⟨g, T, R⟩ := R
  obtain ⟨m, F, l⟩ := R.loc
  refine max_list_N (vs := ws.toList) (ns := ns) hh F ledg_news (by rw [Array.toArray_toList]; exact listOf_is hg) hr.ints hn fun h' M t tk F' N' h1 h2 => ?_
  exact ⟨.int M, σ, ⟨t, rfl⟩, ⟨g, T, R.ofN F' N' l⟩, h M h1 h2⟩
theorem f_sorted (e : σ.H a = some (.list (ns.map V.int))) (hn : ns.length < 64) (h : ∀ (n : Addr) (ns' : List Int), σ.H n = none → ns'.Perm ns → ns'.Pairwise (· ≤ ·) → Q (.ref n) (σ.set n (.list (ns'.map V.int)))) : c.Call E (.builtin "sorted") [.ref a] Q σ := by
  intro xs hx s R
  replace hx := vr1 hx
  obtain ⟨_, rfl, hx⟩ := hx
  cases hx
  obtain ⟨ws, k, hg, hr⟩ := R.list e
  obtain ⟨g, T, R⟩ := R
  obtain ⟨m, F, l⟩ := R.loc
  have hl := hr.length
  refine sorted_N (vs := ws.toList) (ns := ns) F ledg_news (by rw [Array.toArray_toList]; exact listOf_is hg) hr.ints (by rw [hl]; simpa using hn) fun h' vs' ns' e' F' N' h1 h2 h3 => ?_
  exact ⟨.ref _, _, rfl, ⟨g, T, R.newL (o := .list (ns'.map V.int)) (tk := s.toks) (Nat.le_succ _) l F' N' (fun q d => mkl q (by simpa using VsRel.ofInts h1)) rfl⟩, h _ _ (R.non (Nat.le_succ _)) h2 h3⟩
theorem f_bytes (e : σ.H a = some (.list [.int i])) (hi : 0 ≤ i ∧ i < 256) (h : Q (.bytes (byteArr [i])) σ) (hh : c.A.handled = none := by exact Cx.Room.hh (by assumption)) : c.Call E (.type "bytes") [.ref a] Q σ := by
  intro xs hx s R
  replace hx := vr1 hx
  obtain ⟨_, rfl, hx⟩ := hx
  cases hx
  obtain ⟨ws, k, hg, hr⟩ := R.list e
  have hr' : VsRel (List.map V.int [i]) ws.toList := hr
  have h1 := hr.length
  refine call_bytes_ints (vs := ws.toList) (ns := [i]) (by rw [Array.toArray_toList]; exact listOf_is hg) hr'.ints (fun n hn => by simp at hn; subst hn; exact hi) (by have := sizeLine_eq; simp at h1; simp; (first | lia | omega)) hh fun h' t k hk => ?_
  exact ⟨.bytes _, σ, ⟨t, rfl⟩, R.grow hk, h⟩
noncomputable def Cx.AsgL (c : Cx) (E : Value → Shared → Prop) (elts : List Expr) (vs : List V) (N : Unit → St → Prop) (σ : St) : Prop := ∀ ws, VsRel vs ws → c.W E OnE (assignInOrder ((assignEach elts c.env).map (·.2)) ws) N σ
theorem as_nil (h : N () σ) : c.AsgL E [] [] N σ := fun ws hw s R => by
  cases ws with
  | nil => exact assignInOrder_nil ⟨(), σ, rfl, R, h⟩
  | cons => exact hw.elim
theorem as_cons {x : Str} {p : Pos} {rest : List Expr} {v : V} (h : c.Store E x v (fun _ σ₁ => c.AsgL E rest vs N σ₁) σ) : c.AsgL E (.Name x p :: rest) (v :: vs) N σ := fun ws hw s R => by
  match ws, hw with
  | w :: ws, ⟨hw, hr⟩ =>
    exact assignInOrder_cons (PyProof.Rows.assign_Name (wpAny_mono (h w hw s R) (fun _ s₁ ⟨_, σ₁, _, R₁, h₁⟩ => h₁ ws hr s₁ R₁) fun _ _ e => e))
theorem eachLen {env : Env} : ∀ elts : List Expr, (assignEach elts env).length = elts.length
  | [] => rfl
  | e :: r => by
    cases e <;> simp [assignEach, eachLen r]
theorem as_tup {elts : List Expr} {k pos} (e : σ.H a = some (.tup vs)) (hn : elts.length = vs.length) (h : c.AsgL E elts vs N σ) (hs : noStar elts = true := by with_unfolding_all rfl) (hh : c.A.handled = none := by exact Cx.Room.hh (by assumption)) : c.Asg E (.Tuple elts k pos) (.ref a) N σ := by
  rintro _ rfl s R
  obtain ⟨ws, kk, hg, hr⟩ := R.tup e
  have h1 := hr.length; rw [Array.length_toList] at h1
  refine PyProof.Rows.assign_Tuple_tuple hh (tupOf_is hg) (by rw [eachLen, h1, hn]) ?_ fun h' he => ?_
  · have key : ∀ elts : List Expr, noStar elts = true → (assignEach elts c.env).findIdx? (·.1) = none := by
      intro elts
      induction elts with
      | nil => intro _; rfl
      | cons e r ih =>
        intro hs
        have := Bool.and_eq_true_iff.mp (show (notStar e && r.all notStar) = true from hs)
        have e1 : assignEach (e :: r) c.env = (false, assign e c.env) :: assignEach r c.env := by cases e <;> first | rfl | (cases this.1)
        rw [e1, List.findIdx?_cons, ih this.2]; rfl
    exact key elts hs
  · have R' : Rel c σ { s with heap := h', toks := s.toks } := R.grow fun b o e => he b o (Nat.ne_of_lt (Heap.lt_size e)) e
    exact h _ hr _ R'
theorem s_assignT {elts : List Expr} {k tpos value pos} (h : c.Ev E value (fun v σ₁ => c.Asg E (.Tuple elts k tpos) v (fun _ σ₂ => U .next σ₂) σ₁) σ)
    (hs : ∀ env, swapsWithSole [.Tuple elts k tpos] value pos.line env = pure false := by intro _; with_unfolding_all rfl) (hw : ∀ env, swappedStores [.Tuple elts k tpos] value env = pure none := by intro _; with_unfolding_all rfl) : c.S E (.Assign [.Tuple elts k tpos] value pos) U σ := fun s R =>
  PyProof.Rows.Assign_Tuple (wpAny_mono (h s R) (fun x s₁ ⟨v, σ₁, hx, R₁, h₁⟩ => wpAny_mono (h₁ x hx s₁ R₁) (fun _ s₂ ⟨_, σ₂, _, R₂, h₂⟩ => ⟨.next, σ₂, rfl, R₂, h₂⟩) fun _ _ e => e) fun _ _ e => e) (hs _) (hw _)
theorem s_assignS {o i : Expr} {p' value pos} (h : c.Ev E value (fun v σ₁ => c.Ev E o (fun a σ₂ => c.Ev E i (fun x σ₃ => c.Seti E a x v (fun _ σ₄ => U .next σ₄) σ₃) σ₂) σ₁) σ) (hs : notComp value = true := by with_unfolding_all rfl) : c.S E (.Assign [.Subscript o i p'] value pos) U σ := fun s R =>
  wpAny_Assign_Subscript (wpAny_mono (h s R) (fun x s₁ ⟨_, _, hx, R₁, h₁⟩ => wpAny_mono (h₁ s₁ R₁) (fun y s₂ ⟨_, _, hy, R₂, h₂⟩ => wpAny_mono (h₂ s₂ R₂) (fun z s₃ ⟨_, _, hz, R₃, h₃⟩ => wpAny_mono (h₃ y z x hy hz hx s₃ R₃) (fun _ s₄ ⟨_, σ₄, _, R₄, h₄⟩ => ⟨.next, σ₄, rfl, R₄, h₄⟩) fun _ _ e => e) fun _ _ e => e) fun _ _ e => e) fun _ _ e => e) (swaps_not hs)
end
end Rk

end
section
open PySem PySem.W PySem.Calls PyProof.Rows PySem.SeqAt
set_option tactic.hygienic false
namespace Rk
noncomputable def Cx.Jn (c : Cx) (E : Value → Shared → Prop) (parts : List Expr) (k : Nat) (Q : St → Prop) (σ : St) : Prop :=
  ∀ acc : Str, acc.length ≤ k → ∀ s, Rel c σ s → Joins (model c.D.prog c.D.w) c.A E (evalEach parts c.env) acc (fun out s₁ => out.length ≤ sizeLine ∧ ∃ σ', Rel c σ' s₁ ∧ Q σ') s
section
variable {c : Cx} {E : Value → Shared → Prop} {σ : St} {Q : V → St → Prop} {P : St → Prop} {k : Nat}
theorem jn_nil (hk : k ≤ 100000) (h : P σ) : c.Jn E [] k P σ := fun acc ha s R => ⟨by have := sizeLine_eq; (first | lia | omega), σ, R, h⟩
theorem jn_str {x : Str} {kk pos} {rest : List Expr} (hk : k + x.length ≤ 100000) (h : c.Jn E rest (k + x.length) P σ) : c.Jn E (.Constant (.str x) kk pos :: rest) k P σ := fun acc ha s R => by
  show wpAny _ _ (eval (.Constant (.str x) kk pos) c.env) _ _ _
  refine wpAny_Constant_str ⟨x, _, rfl, by rw [strLen_append]; have := sizeLine_eq; (first | lia | omega), ?_⟩
  exact h _ (by rw [strLen_append]; (first | lia | omega)) _ (R.tok _)
theorem jn_int {e : Expr} {pos} {rest : List Expr} (hk : k ≤ 50000) (h : c.Ev E e (fun v σ₁ => ∃ i, v = .int i ∧ i.natAbs ≤ 1000 ∧ c.Jn E rest (k + 1002) P σ₁) σ) : c.Jn E (.FormattedValue e (-1) none pos :: rest) k P σ := fun acc ha s R => by
  show wpAny _ _ (eval (.FormattedValue e (-1) none pos) c.env) _ _ _
  refine wpAny_FormattedValue_plain (wpAny_mono (h s R) (fun x s₁ ⟨v, σ₁, hx, R₁, i, hv, hi, h₁⟩ => ?_) fun _ _ e => e)
  subst hv
  obtain ⟨t, rfl⟩ := hx
  have lg : i.natAbs.log2 < 1920 := by
    by_cases z : i.natAbs = 0
    · rw [z]; decide
    · refine (Nat.log2_lt z).mpr (Nat.lt_of_le_of_lt hi ?_)
      exact Nat.lt_of_lt_of_le (show 1000 < 2 ^ 10 by decide) (Nat.pow_le_pow_right (by decide) (by decide))
  refine wpAny_formatField_int lg ⟨_, _, rfl, ?_, ?_⟩
  · have := len_str_of_int i
    rw [strLen_append]
    have := sizeLine_eq
    (first | lia | omega)
  · have := len_str_of_int i
    exact h₁ _ (by rw [strLen_append]; (first | lia | omega)) _ (R₁.tok _)
theorem w_joined {v₁ v₂ : Expr} {rest : List Expr} {pos} (h : c.Jn E (v₁ :: v₂ :: rest) 0 (fun σ₁ => ∀ x, Q (.str x) σ₁) σ) : c.Ev E (.JoinedStr (v₁ :: v₂ :: rest) pos) Q σ := fun s R => by
  have key : ∀ (parts : List (Sem Value)) (acc : Str) (Q Q' : Str → Shared → Prop) (s : Shared), (∀ o s, Q o s → Q' o s) → Joins (model c.D.prog c.D.w) c.A E parts acc Q s → Joins (model c.D.prog c.D.w) c.A E parts acc Q' s := by
    intro parts
    induction parts with
    | nil => intro acc Q Q' s hq h; exact hq _ _ h
    | cons x r ih => intro acc Q Q' s hq h; exact wpAny_mono h (fun v s₁ ⟨y, t, e, l, j⟩ => ⟨y, t, e, l, ih _ _ _ _ hq j⟩) fun _ _ e => e
  exact wpAny_JoinedStr (key _ _ _ _ _ (fun o s₁ ⟨l, σ', R', q⟩ => ⟨l, .str o, σ', ⟨_, rfl⟩, R'.tok _, q o⟩) (h Str.empty (by decide) s R))
end

structure Cx.Own (c : Cx) (a : Addr) : Prop where
  fa : c.fa = some a
  cl : c.cl = []
  frm : c.frm = c.L
  inn : c.inn = false
  A : c.A = c.A₀.deeper c.env
  hh : c.A.handled = none
noncomputable def Cx.Exh (c : Cx) (P : Addr → Hp → Prop) : Value → Shared → Prop := fun ev s' => ∃ σ s₁ e C vs, ev = .ref e ∧ Rel c σ s₁ ∧ Heap.MadeExcOf s₁.heap s'.heap e (.ref C) vs ∧ s' = { s₁ with heap := s'.heap } ∧ P C σ.H
noncomputable def Cx.Exn (c : Cx) (P : Addr → St → Prop) : Value → Shared → Prop := fun ev s' => ∃ (g g₁ h₁ : Heap) (mm : Str → Option Value) (t e C L₁ : Addr) (vs : List Value) (δ : Addr → Addr) (μ : Str → Option V) (H : Hp), ev = .ref e ∧ P C ⟨μ, H⟩ ∧ KtsTurn c.fs c.h₀ g ∧ (c.at g).Ok ∧
  Fr g c.L g₁ mm ∧ (∀ x v, μ x = some v → Lc c.env x ∧ ∃ w, mm x = some w ∧ VRel v w) ∧ (∀ b, g₁.get? b = none → g.get? b = none ∧ b ≠ c.L) ∧ RelD g₁ L₁ δ H h₁ ∧ RaisedS c.base g₁ c.fl e (.ref C) t vs (ledg g₁ L₁ h₁) s'.heap ∧ g₁.UpToSlots s'.heap ∧ s'.gens = c.D.gens ∧ s'.drawn = c.D.drawn ∧ s'.os = c.D.os ∧ h₁.get? e = none ∧ Free2 s'.heap e
noncomputable def BackX (c : Cx) (m : Str → Option V) (Q : V → Hp → Prop) (P : Addr → Hp → Prop) (r : Result) (s' : Shared) : Prop := match r with
  | .ok (.ret w) => ∃ v σ', VRel v w ∧ Rel c σ' s' ∧ σ'.m = m ∧ Q v σ'.H
  | .error ev => c.Exn (fun C σ => σ.m = m ∧ P C σ.H) ev s'
  | _ => False
noncomputable def FnX (D : Wd) (d : Nat) (f : Addr) (as : List V) (Q : V → Hp → Prop) (P : Addr → Hp → Prop) (H : Hp) : Prop :=
  ∀ (c : Cx) (m : Str → Option V), c.D = D → c.Room d → ∀ xs, VsRel as xs → ∀ s, Rel c ⟨m, H⟩ s → codeAny (model c.D.prog c.D.w) c.A (.call (.ref f) ⟨xs, []⟩) (BackX c m Q P) s
theorem FnX.use {c : Cx} {d : Nat} {f : Addr} {as : List V} {Q : V → St → Prop} {P : Addr → St → Prop} {σ : St} (h : FnX c.D d f as (fun v H' => Q v ⟨σ.m, H'⟩) (fun C H' => P C ⟨σ.m, H'⟩) σ.H) (r : c.Room d) : c.Call (c.Exn P) (.ref f) as Q σ :=
  fun xs hx s R => wpAny_call (codeAny_mono (h c σ.m rfl r xs hx s R) fun r s' b => by
    unfold BackX at b
    rcases r with e | (_ | _ | _ | w)
    · obtain ⟨g, g₁, h₁, mm, t, e', C, L₁, vs, δ, μ, H, h1, ⟨h2, h2'⟩, h3⟩ := b
      cases h2
      exact ⟨g, g₁, h₁, mm, t, e', C, L₁, vs, δ, _, H, h1, h2', h3⟩
    · exact b.elim
    · exact b.elim
    · exact b.elim
    · obtain ⟨v, ⟨m', H'⟩, h1, h2, h3, h4⟩ := b
      cases h3
      exact ⟨v, _, h1, h2, h4⟩)
theorem s_raise {c : Cx} {a C : Addr} {x : Str} {B newId initId : String} {bm : List Value} {np cpos pos : Pos} {e₀ : Expr} {rest : List Expr} {P : Addr → Hp → Prop} {U : Fl → St → Prop} {σ : St} (o : c.Own a)
    (hx : nsIn c.D.K mainGlobals x = some (some (.ref C))) (hq : excIn c.D.K C bm newId = true) (FB : ExcBaseFacts B newId initId bm) (hk : c.env.kindOf x = some .globalImplicit)
    (h : c.Es (c.Exh P) cpos (e₀ :: rest) (fun vs σ₁ => vs.length ≤ 1000 ∧ P C σ₁.H) σ) (hs : noStar (e₀ :: rest) = true := by with_unfolding_all rfl) (hd : (x == ("__debug__" : Str)) = false := by decide) :
    c.S (c.Exh P) (.Raise (some (.Call (.Name x np) (e₀ :: rest) [] cpos)) none pos) U σ := fun s R => by
  have R₀ := R
  obtain ⟨g, T, R⟩ := R
  have hb := h s R₀
  obtain ⟨D, A, A₀, base, h₀, outer, nm, sc, L, fa, cd, cl, frm, inn⟩ := c
  obtain ⟨o1, o2, o3, o4, o5, o6⟩ := o
  dsimp only at o1 o2 o3 o4
  subst o1 o2 o3 o4
  obtain ⟨m, F⟩ := R.fr
  have he := starEach_not (rest := rest) (env := envOf nm sc frm a cd) (Bool.and_eq_true_iff.mp (show (notStar e₀ && rest.all notStar) = true from hs)).1
  have hp := noStar_any (pos := cpos) (env := envOf nm sc frm a cd) (Bool.and_eq_true_iff.mp (show (notStar e₀ && rest.all notStar) = true from hs)).2
  have bf : ∀ b ∈ outer.filterMap (·.frame), base.get? b = none := fun b hb => (R.ok.B.frames.mem hb).1
  have st : base.StaysIn (hideAll g (outer.filterMap (·.frame))) := fun b o e => hideAll_get _ (R.ok.B.stays b o e) fun hm => by rw [bf b hm] at e; cases e
  have F' : Fr (hideAll g (outer.filterMap (·.frame))) frm s.heap m := ⟨F.ns, fun b o e => F.keep b o (of_hideAll _ e), Nat.le_trans (Nat.le_of_eq (hideAll_size _ _)) F.above⟩
  have TB := R.ok.TB.keeps st
  refine Raise_own (B := B) (initId := initId) F' TB.g (own_of_in (R.ok.XB.keeps st) (topRead_of TB) hx hq) FB o6 ?_ he hp R.ok.ke hk hd
  refine wpAny_mono hb (fun ws s₂ ⟨vs, σ₂, hv, R₂, hl, hP⟩ => ⟨?_, ?_, ?_⟩) fun _ _ e => e
  · rw [hv.length]; have := sizeLine_eq; (first | lia | omega)
  · intro b o e
    obtain ⟨g₂, T₂, R₂⟩ := R₂
    obtain ⟨m₂, F₂⟩ := R₂.fr
    have nm : b ∉ outer.filterMap (·.frame) := fun hm => by
      rw [hideAll_none _ hm] at e; cases e
    have e' := of_hideAll _ e
    have e0 : h₀.get? b = some o := by
      cases q : h₀.get? b with
      | none => have z := T.none_ b q; rw [e'] at z; cases z
      | some o' => have z := T.other b o' q nm; rw [e'] at z; cases z; rfl
    exact F₂.keep b o (T₂.other b o e0 nm)
  · intro h' e mk
    exact ⟨σ₂, s₂, e, C, ws, rfl, R₂, mk, rfl, hP⟩
theorem fn_defX {D : Wd} {d : Nat} {f : Addr} {as : List V} {Q : V → Hp → Prop} {P : Addr → Hp → Prop} {H : Hp} {oc : Value} {od : Option Addr} {osl : Array (Option Value)} {name qual : Str} {params : Arguments} {body : List Stmt} {scope : Scope} {dV kV doc pm cdv ct : Value} {an : Option Addr}
    (hK : D.K.lookup f = some ⟨oc, od, .func (fnX name qual params body scope [] dV kV doc pm an cdv ct), osl⟩) (hcd : codeIn D.K cdv qual = true) (ns : List Str)
    (hb : ArF (fun xs => bindArgs (fnX name qual params body scope [] dV kV doc pm an cdv ct) ⟨xs, []⟩ = pure (ns.zip xs)) as.length []) (hl : ∀ n ∈ ns, scope.names.lookup n = some .local ∧ (n == ("__debug__" : Str)) = false) (hcell : ∀ x ∈ scope.names, x.2 ≠ .cell)
    (hco : scope.isCoroutine = false) (hgen : scope.isGenerator = false) (hk : scope.kind = .function)
    (h : ∀ c : Cx, c.D = D → c.nm = qual → c.sc = scope → c.cl = [] → c.Own f → c.Room d → c.Ss (c.Exh P) body (fun fl σ' => Q fl.val σ'.H) ⟨mOf ns as fun _ => none, H⟩) : FnX D (d + 1) f as Q P H := by
  intro c m hD hr xs hx s R
  subst hD
  obtain ⟨hr1, hr2, hr3⟩ := hr
  have R₀ := R
  obtain ⟨g, T, R⟩ := R
  refine codeAny_call_def (fd := fnX name qual params body scope [] dV kV doc pm an cdv ct) (body := body) (binds := ns.zip xs) (by show _ < 1000; (first | lia | omega)) (R.kin _ _ hK) rfl R.top.nolimit (codeRec_of R.kin hcd) rfl (BindsTo.of_eq (ar hb xs hx)) hcell
    (fun y hy => (hl _ (List.of_mem_zip hy).1).1) (fun h₁ hns kp => ?_) hco hgen hk
  have R₁ : Rel0 ((c.at g).into s qual scope f cdv [] s.heap.objs.size) ⟨mOf ns as fun _ => none, H⟩ { s with heap := h₁, toks := s.toks + (ns.zip xs).length } := R.into hk hns kp fun x v e => by
    obtain ⟨p, w, h1, h2⟩ := mOf_rel (P := fun n => scope.names.lookup n = some .local ∧ (n == ("__debug__" : Str)) = false) (m' := fun _ => none) hx hl (fun _ _ e => by cases e) x v e
    refine ⟨p, w, ?_, h2⟩
    rw [zOf_eq] at h1
    simpa using h1
  refine wpAny_mono (h ((c.at g).into s qual scope f cdv [] s.heap.objs.size) rfl rfl rfl rfl ⟨rfl, rfl, rfl, rfl, rfl, hr3⟩ ⟨by show c.A.depth + 1 + d ≤ 900; (first | lia | omega), by show c.A.units + 3 + 40 * d ≤ 9000; (first | lia | omega), hr3⟩ _ R₁.rel) (fun fl s' ⟨fl', σ', hf, R', hq⟩ => ?_) fun ev s' he => ?_
  · refine (show BackX c m Q P (.ok (.ret _)) s' from ⟨fl'.val, ⟨m, σ'.H⟩, ?_, Rel.out T R R', rfl, hq⟩)
    cases fl' with
    | next => cases hf; rfl
    | brk => cases hf; rfl
    | cont => cases hf; rfl
    | ret v => obtain ⟨w, rfl, hw⟩ := hf; exact hw
  · obtain ⟨σ₁, s₁, e, C, vs, rfl, R', mk, hs', hP⟩ := he
    obtain ⟨g₁, T₁, R'⟩ := R'
    obtain ⟨m₁, F₁, _⟩ := R'.loc
    obtain ⟨δ, D₁⟩ := R'.hp
    have f0 : Free2 s'.heap e := by obtain ⟨t, he, _⟩ := mk.there; exact ⟨_, _, he, rfl, rfl⟩
    refine wpAny_mono (pv_any (leave_raiseS (A := c.A) (base := c.base) (outer := c.fl) (g := g₁) (Q := fun _ s'' => ∃ h' t, s'' = { s' with heap := h' } ∧ RaisedS c.base g₁ c.fl e (.ref C) t vs (ledg g₁ s.heap.objs.size s₁.heap) h' ∧ g₁.UpToSlots h') R'.ok.B mk F₁ ledg_news (fun h' t RS _ us => ⟨h', t, rfl, RS, us⟩) hk) pv_leaving f0) (fun _ s'' ⟨⟨h', t, es, RS, us⟩, f2⟩ => ?_) fun _ _ x => x.1
    subst es
    obtain ⟨g₂, mm, T₂, ok, F₂, l, off⟩ := R.retreat T₁
    refine (show BackX c m Q P (.error (.ref e)) { s' with heap := h' } from ⟨g₂, g₁, s₁.heap, mm, t, e, C, s.heap.objs.size, vs, δ, m, σ₁.H, rfl, ⟨rfl, hP⟩, T.trans T₂, ok, F₂, l, off, D₁, RS, us, ?_, ?_, ?_, mk.new, f2⟩)
    · show s'.gens = _
      rw [hs']; exact R'.g
    · show s'.drawn = _
      rw [hs']; exact R'.d
    · show s'.os = _
      rw [hs']; exact R'.o

noncomputable def Gives (c : Cx) (suite : List Stmt) (v : V) : Prop := ∀ (A : Around) (E : Value → Shared → Prop) (Q : Flow → Shared → Prop) (s : Shared), (∀ w tk, VRel v w → Q (.ret w) { s with toks := tk }) → wpAny (model c.D.prog c.D.w) A (execs suite c.env) Q E s
theorem gv_int {c : Cx} {i : Int} {k p pos} : Gives c [.Return (some (.Constant (.int i) k p)) pos] (.int i) := fun A E Q s h => wpAny_execs_cons (wpAny_Return_some (wpAny_Constant_int (h _ _ ⟨_, rfl⟩)))
theorem gv_bool {c : Cx} {i : Bool} {k p pos} : Gives c [.Return (some (.Constant (.bool i) k p)) pos] (.bool i) := fun A E Q s h => wpAny_execs_cons (wpAny_Return_some (wpAny_Constant_bool (h _ _ rfl)))
noncomputable def Hands (c : Cx) (C : Addr) (v : V) : List ExceptHandler → Prop
  | .ExceptHandler (some tt) none (b₀ :: suite) pos :: rest =>
    ((∀ L a cd, KtsTest c.D.prog c.D.w c.D.K c.D.p c.D.loose c.D.mg c.D.mb c.nm c.sc L a cd (.ref C) tt true) ∧ Gives c (b₀ :: suite) v) ∨
    ((∀ L a cd, KtsTest c.D.prog c.D.w c.D.K c.D.p c.D.loose c.D.mg c.D.mb c.nm c.sc L a cd (.ref C) tt false) ∧ Hands c C v rest)
  | _ => False
theorem Rel.caught {c : Cx} {g g' h' h₁ : Heap} {L₁ : Addr} {δ : Addr → Addr} {μ : Str → Option V} {H : Hp} {mm : Str → Option Value} {g₁ : Heap} {s : Shared} (T : KtsTurn c.fs c.h₀ g') (ok : (c.at g').Ok) (F : Fr g' c.L h' mm) (l : ∀ x v, μ x = some v → Lc c.env x ∧ ∃ w, mm x = some w ∧ VRel v w)
    (D : RelD g₁ L₁ δ H h₁) (N : News g' c.L h' (ledg g₁ L₁ h₁)) (h1 : s.gens = c.D.gens) (h2 : s.drawn = c.D.drawn) (h3 : s.os = c.D.os) (tk : Nat) : Rel c ⟨μ, H⟩ { s with heap := h', toks := tk } := by
  refine ⟨g', T, ok, ⟨mm, F, l⟩, ⟨δ, fun a o e => ?_, fun a o e => ?_, fun a o e i => ?_, D.inj⟩, h1, h2, h3⟩
  · have m := D.at_ a o e
    obtain ⟨x, hx⟩ := m.ex
    refine m.congr ((N (a, x) (ledg_mem.mpr ⟨(D.off a o e).1, (D.off a o e).2, hx⟩)).1.trans hx.symm) fun i => ?_
    obtain ⟨es, n, hd⟩ := m.exD i
    exact (N (δ a, _) (ledg_mem.mpr ⟨(D.doff a o e i).1, (D.doff a o e i).2.1, hd⟩)).1.trans hd.symm
  · obtain ⟨x, hx⟩ := (D.at_ a o e).ex
    exact (N (a, x) (ledg_mem.mpr ⟨(D.off a o e).1, (D.off a o e).2, hx⟩)).2
  · obtain ⟨es, n, hd⟩ := (D.at_ a o e).exD i
    have z := (N (δ a, _) (ledg_mem.mpr ⟨(D.doff a o e i).1, (D.doff a o e i).2.1, hd⟩)).2
    exact ⟨z.1, z.2, (D.doff a o e i).2.2⟩
theorem s_try {c : Cx} {a : Addr} {body : List Stmt} {e₀ : ExceptHandler} {es : List ExceptHandler} {pos : Pos} {U : Fl → St → Prop} {P : Addr → St → Prop} {σ : St} (o : c.Own a)
    (h : c.Ss (c.Exn P) body U σ) (k : ∀ C σ₁, P C σ₁ → ∃ v, Hands c C v (e₀ :: es) ∧ U (.ret v) σ₁) : c.S Nope (.Try body (e₀ :: es) [] [] pos) U σ := fun s R => by
  refine wpAny_Try_except (wpAny_mono (h s R) (fun f s₁ ⟨fl, σ₁, hf, R₁, h₁⟩ => ?_) fun ev s₁ he => ?_)
  · cases fl with
    | next => cases hf; exact wpAny_execs_nil ⟨.next, σ₁, rfl, R₁, h₁⟩
    | brk => cases hf; exact ⟨.brk, σ₁, rfl, R₁, h₁⟩
    | cont => cases hf; exact ⟨.cont, σ₁, rfl, R₁, h₁⟩
    | ret v => obtain ⟨w, rfl, hw⟩ := hf; exact ⟨.ret v, σ₁, ⟨w, rfl, hw⟩, R₁, h₁⟩
  · obtain ⟨g, g₁, h₁, mm, t, e, C, L₁, vs, δ, μ, H, rfl, hP, T, ok, F, l, off, D₁, RS, us, q1, q2, q3, _⟩ := he
    obtain ⟨v, hh, hU⟩ := k C _ hP
    obtain ⟨D, A, A₀, base, h₀, outer, nm, sc, L, fa, cd, cl, frm, inn⟩ := c
    obtain ⟨o1, o2, o3, o4, o5, _⟩ := o
    dsimp only at o1 o2 o3 o4
    subst o1 o2 o3 o4
    have o5' : A = A₀.deeper (envOf nm sc frm a cd) := o5
    clear o5
    subst o5'
    have main : ∀ (hs : List ExceptHandler) (s₂ : Shared), RaisedS base g₁ (envOf nm sc frm a cd :: outer) e (.ref C) t vs (ledg g₁ L₁ h₁) s₂.heap → g₁.UpToSlots s₂.heap → s₂.gens = D.gens → s₂.drawn = D.drawn → s₂.os = D.os →
        Hands { D := D, A := A₀.deeper (envOf nm sc frm a cd), A₀ := A₀, base := base, h₀ := h₀, outer := outer, nm := nm, sc := sc, L := frm, fa := some a, cd := cd, cl := [], frm := frm, inn := false } C v hs →
        wpAny (model D.prog D.w) (A₀.deeper (envOf nm sc frm a cd)) (handleBy (.ref e) (envOf nm sc frm a cd) hs)
          (fun f s' => ∃ b σ', FRel b f ∧ Rel { D := D, A := A₀.deeper (envOf nm sc frm a cd), A₀ := A₀, base := base, h₀ := h₀, outer := outer, nm := nm, sc := sc, L := frm, fa := some a, cd := cd, cl := [], frm := frm, inn := false } σ' s' ∧ U b σ') Nope s₂ := by
      intro hs
      induction hs with
      | nil => intro s₂ _ _ _ _ _ hh; exact hh.elim
      | cons hd rest ih =>
        intro s₂ RS us q1 q2 q3 hh
        obtain ⟨ty, nme, bd, ps⟩ := hd
        match ty, nme, bd, hh with
        | some tt, none, b₀ :: suite, hh =>
          rcases hh with ⟨kt, gv⟩ | ⟨kt, hr⟩
          · refine hit_S0 RS F ok.B us ok.XB ok.TB ok.ds T (kt _ _ _) (fun h' g' news₂ T' F' N₂ _ N' B' X' P' D' => ?_) PassesOwnAt.never
            refine gv _ _ _ _ fun w tk hw => ⟨.ret v, ⟨μ, H⟩, ⟨w, rfl, hw⟩, ?_, hU⟩
            exact Rel.caught (s := s₂) (c := { D := D, A := A₀.deeper (envOf nm sc frm a cd), A₀ := A₀, base := base, h₀ := h₀, outer := outer, nm := nm, sc := sc, L := frm, fa := some a, cd := cd, cl := [], frm := frm, inn := false }) (g := g) T' ⟨B', X', P', ok.fr, ok.own, ok.ke, ok.XB, ok.TB, D'⟩ F' l D₁ N' q1 q2 q3 tk
          · exact pass_S RS F ok.B us ok.XB ok.TB ok.ds (kt _ _ _) fun h' R' U' => ih _ R' U' q1 q2 q3 hr
    exact kts_lookS RS F ok.B us ok.ds fun h' R' U' => main _ _ R' U' q1 q2 q3 hh
end Rk

end
section
set_option tactic.hygienic false
namespace Rk
theorem fn_defO {D : Wd} {d : Nat} {f : Addr} {as : List V} {Q : V → Hp → Prop} {H : Hp} {oc : Value} {od : Option Addr} {osl : Array (Option Value)} {name qual : Str} {params : Arguments} {body : List Stmt} {scope : Scope} {dV kV doc pm cdv ct : Value} {an : Option Addr}
    (hK : D.K.lookup f = some ⟨oc, od, .func (fnX name qual params body scope [] dV kV doc pm an cdv ct), osl⟩) (hcd : codeIn D.K cdv qual = true) (ns : List Str)
    (hb : ArF (fun xs => bindArgs (fnX name qual params body scope [] dV kV doc pm an cdv ct) ⟨xs, []⟩ = pure (ns.zip xs)) as.length []) (hl : ∀ n ∈ ns, scope.names.lookup n = some .local ∧ (n == ("__debug__" : Str)) = false) (hcell : ∀ x ∈ scope.names, x.2 ≠ .cell)
    (hco : scope.isCoroutine = false) (hgen : scope.isGenerator = false) (hk : scope.kind = .function)
    (h : ∀ c : Cx, c.D = D → c.nm = qual → c.sc = scope → c.cl = [] → c.Own f → c.Room d → c.Ss Nope body (fun fl σ' => Q fl.val σ'.H) ⟨mOf ns as fun _ => none, H⟩) : Fn D (d + 1) f as Q H := by
  intro c m hD hr xs hx s R
  refine codeAny_mono (fn_defX (P := fun _ _ => False) hK hcd ns hb hl hcell hco hgen hk (fun c h1 h2 h3 h4 h5 h6 => (h c h1 h2 h3 h4 h5 h6).any) c m hD hr xs hx s R) fun r s' b => ?_
  unfold BackX at b
  unfold Back
  split at b
  · exact b
  · obtain ⟨_, _, _, _, _, _, _, _, _, _, _, _, _, ⟨_, h⟩, _⟩ := b
    exact h.elim
  · exact b.elim
theorem Room.le {c : Cx} {d d' : Nat} (r : c.Room d) (l : d' ≤ d) : c.Room d' := ⟨by have := r.1; (first | lia | omega), by have := r.2; (first | lia | omega), r.hh⟩
section
variable {σ : St} {a b n : Addr} {o x y : MO} {H H' : Hp} {k : Str} {v : V}
theorem hg_self : (σ.set a o).H a = some o := Hp.set_self _ _ _
theorem hg_up (h : σ.H a = some o) : (σ.up k v).H a = some o := h
theorem hg_new (hn : σ.H n = none) (h : σ.H b = some x) : (σ.set n o).H b = some x := Hp.Le.set _ hn _ _ h
theorem hg_put (hy : σ.H a = some y) (h : σ.H b = some x) (hn : x ≠ y) : (σ.set a o).H b = some x := (Hp.set_ne _ _ fun q => hn (by rw [q, hy] at h; cases h; rfl)).trans h
theorem hs_self : (H.set a o) a = some o := Hp.set_self _ _ _
theorem hs_new (hn : H n = none) (h : H b = some x) : (H.set n o) b = some x := Hp.Le.set _ hn _ _ h
theorem hs_ne (hn : b ≠ a) (h : H b = some x) : (H.set a o) b = some x := (Hp.set_ne _ _ hn).trans h
theorem hs_put (hy : H a = some y) (h : H b = some x) (hn : x ≠ y) : (H.set a o) b = some x := (Hp.set_ne _ _ fun q => hn (by rw [q, hy] at h; cases h; rfl)).trans h
theorem hs_del (hn : b ≠ a) (h : H b = some x) : (H.del a) b = some x := (if_neg hn).trans h
end
noncomputable def V.imm : V → Bool
  | .ref _ => false
  | .raw _ => false
  | _ => true
section
variable {c : Cx} {E : Value → Shared → Prop} {σ : St} {Q : V → St → Prop} {U : Fl → St → Prop}
theorem s_ex {e pos} (h : c.Ev E e (fun v σ₁ => v.imm = true ∧ U .next σ₁) σ) (hs : notComp e = true := by with_unfolding_all rfl) : c.S E (.Expr e pos) U σ :=
  s_expr (Cx.W.mono (Q' := fun v σ₁ => (∀ a, v ≠ .ref a) ∧ (∀ w, v ≠ .raw w) ∧ U .next σ₁) h fun v σ' hh => ⟨fun a q => (by have h1 := hh.1; rw [q] at h1; cases h1), fun a q => (by have h1 := hh.1; rw [q] at h1; cases h1), hh.2⟩) hs
theorem cm_one {pos : Pos} {args : List Expr} {f : Value} {a : V} (hk : Kp c.D.K f = true) (h : c.Es E pos args (fun vs σ₂ => c.Call E f (a :: vs) Q σ₂) σ) : Kp c.D.K f = true ∧ c.Es E pos args (fun vs σ₂ => c.Call E f ([a] ++ vs) Q σ₂) σ := ⟨hk, h⟩
theorem br_T {b : Bool} {A B : Prop} (e : b = true) (h : A) : if (b = true) then A else B := by rw [if_pos e]; exact h
theorem br_F {b : Bool} {A B : Prop} (e : b = false) (h : B) : if (b = true) then A else B := by rw [if_neg (by rw [e]; decide)]; exact h
theorem itx {it : Addr} {P : Addr → Prop} (h : P it) : ∃ i, V.ref it = .ref i ∧ P i := ⟨it, rfl, h⟩
theorem jnx {i : Int} {P : Int → Prop} (hi : i.natAbs ≤ 1000) (h : P i) : ∃ j, V.int i = .int j ∧ j.natAbs ≤ 1000 ∧ P j := ⟨i, rfl, hi, h⟩
theorem slx {a : Addr} {vs : List V} {l u : V} {x y : Option Int} {P : Addr → List V → Option Int → Option Int → Prop} {H : Hp} (e : H a = some (.list vs)) (hl : vs.length ≤ 100000) (bl : Bd l x) (bu : Bd u y) (h : P a vs x y) :
    ∃ a' vs x y, V.ref a = .ref a' ∧ H a' = some (.list vs) ∧ vs.length ≤ 100000 ∧ Bd l x ∧ Bd u y ∧ P a' vs x y := ⟨a, vs, x, y, rfl, e, hl, bl, bu, h⟩
theorem bdn : Bd .none none := rfl
theorem bdi {i : Int} (h : 0 ≤ i) : Bd (.int i) (some i) := ⟨rfl, h⟩
variable {i j : Int}
theorem a_add (h : Q (.int (i + j)) σ) : c.Aug E .Add (.int i) (.int j) Q σ := by rintro _ _ ⟨t, rfl⟩ ⟨u, rfl⟩ s R; exact PyProof.Rows.iadd_int ⟨.int _, σ, ⟨_, rfl⟩, R.tok _, h⟩
theorem a_sub (h : Q (.int (i - j)) σ) : c.Aug E .Sub (.int i) (.int j) Q σ := by rintro _ _ ⟨t, rfl⟩ ⟨u, rfl⟩ s R; exact PyProof.Rows.isub_int ⟨.int _, σ, ⟨_, rfl⟩, R.tok _, h⟩
end
theorem Fn.go {c : Cx} {E : Value → Shared → Prop} {d : Nat} {f : Addr} {as : List V} {Q : V → St → Prop} {m : Str → Option V} {H : Hp} (h : Fn c.D d f as (fun v H' => Q v ⟨m, H'⟩) H) (r : c.Room d) : c.Call E (.ref f) as Q ⟨m, H⟩ := Fn.use (σ := ⟨m, H⟩) h r
theorem FnX.go {c : Cx} {d : Nat} {f : Addr} {as : List V} {Q : V → St → Prop} {P : Addr → St → Prop} {m : Str → Option V} {H : Hp} (h : FnX c.D d f as (fun v H' => Q v ⟨m, H'⟩) (fun C H' => P C ⟨m, H'⟩) H) (r : c.Room d) : c.Call (c.Exn P) (.ref f) as Q ⟨m, H⟩ := FnX.use (σ := ⟨m, H⟩) h r
theorem c_newG {c : Cx} {E : Value → Shared → Prop} {Q : V → St → Prop} {C fI : Addr} {as : List V} {d : Nat} {m : Str → Option V} {H : Hp} (L : Plain c.D.K C) (hi : findIn c.D.K (.ref C) "__init__" = some (some (.ref fI))) (hf : isFn c.D.K (.ref fI) = true) (r : c.Room (d + 1))
    (h : ∀ n, H n = none → Fn c.D d fI (.ref n :: as) (fun v H' => v = .none ∧ Q (.ref n) ⟨m, H'⟩) (H.set n (.inst C []))) : c.Call E (.ref C) as Q ⟨m, H⟩ := c_new (σ := ⟨m, H⟩) L hi hf r h
theorem Hp.Le.setN {H H' : Hp} {a : Addr} {o : MO} (hn : H a = none) (l : H.Le H') : H.Le (H'.set a o) := fun b x e => by
  rw [Hp.set_ne _ _ (fun q => by rw [q, hn] at e; cases e)]; exact l b x e
noncomputable def Hold (P : Prop) : Prop := P
end Rk

end
section
set_option tactic.hygienic false
namespace Rk
section
variable {c : Cx} {E : Value → Shared → Prop} {σ : St} {Q : V → St → Prop} {U : Fl → St → Prop} {A A' : St → Prop}
theorem tu_next (h : A σ) : Turned c A U .next σ := h
theorem tu_ret {v : V} (h : U (.ret v) σ) : Turned c A U (.ret v) σ := h
theorem Turned.mono {fl : Fl} (k : ∀ σ, A σ → A' σ) (h : Turned c A U fl σ) : Turned c A' U fl σ := by
  cases fl with
  | next => exact k _ h
  | cont => exact k _ h
  | brk => exact h
  | ret v => exact h
theorem Cx.Ss.mono {body : List Stmt} {U U' : Fl → St → Prop} (h : c.Ss E body U σ) (k : ∀ f σ, U f σ → U' f σ) : c.Ss E body U' σ := Cx.W.mono h k
theorem Cx.Asg.mono {t : Expr} {v : V} {N N' : Unit → St → Prop} (h : c.Asg E t v N σ) (k : ∀ σ, N () σ → N' () σ) : c.Asg E t v N' σ := fun w hw => Cx.W.mono (h w hw) fun _ σ' z => k σ' z
theorem loop_list {it l : Addr} {vs : List V} {target : Expr} {body : List Stmt} (I : Nat → St → Prop) (hI : ∀ j σ, I j σ → σ.H it = some (.li l j) ∧ σ.H l = some (.list vs))
    (step : ∀ j v σ, j < vs.length → vs[j]? = some v → I j σ → c.Asg Nope target v (fun _ σ₂ => c.Ss Nope body (Turned c (I (j + 1)) U) σ₂) (σ.set it (.li l (j + 1))))
    (fin : ∀ σ, I vs.length σ → U .next ⟨σ.m, σ.H.del it⟩) (ht : isNm target = true := by with_unfolding_all rfl) : ∀ {j : Nat} {σ : St} (_ : j ≤ vs.length) (_ : I j σ) (hh : c.A.handled = none := by exact Cx.Room.hh (by assumption)), c.Loop it target body U σ := by
  have key : c.A.handled = none → ∀ (k j : Nat) (σ : St), k + j = vs.length → I j σ → c.Loop it target body U σ := by
    intro hh k
    induction k with
    | zero =>
      intro j σ e i
      obtain rfl : j = vs.length := by (first | lia | omega)
      obtain ⟨h1, h2⟩ := hI _ _ i
      exact loop_turn (nx_listE h1 h2 (by simp) (fin _ i) hh) ht
    | succ k ih =>
      intro j σ e i
      obtain ⟨h1, h2⟩ := hI _ _ i
      have lt : j < vs.length := by (first | lia | omega)
      exact loop_turn (nx_list h1 h2 (List.getElem?_eq_getElem lt) ((step j _ σ lt (List.getElem?_eq_getElem lt) i).mono fun σ₂ h => h.mono fun f σ₃ h => h.mono fun σ₄ h => ih (j + 1) σ₄ (by (first | lia | omega)) h)) ht
  intro j σ l i hh
  exact key hh (vs.length - j) j σ (by (first | lia | omega)) i
theorem loop_tup {it l : Addr} {vs : List V} {target : Expr} {body : List Stmt} (I : Nat → St → Prop) (hI : ∀ j σ, I j σ → σ.H it = some (.ti l j) ∧ σ.H l = some (.tup vs))
    (step : ∀ j v σ, j < vs.length → vs[j]? = some v → I j σ → c.Asg Nope target v (fun _ σ₂ => c.Ss Nope body (Turned c (I (j + 1)) U) σ₂) (σ.set it (.ti l (j + 1))))
    (fin : ∀ σ, I vs.length σ → U .next ⟨σ.m, σ.H.del it⟩) (ht : isNm target = true := by with_unfolding_all rfl) : ∀ {j : Nat} {σ : St} (_ : j ≤ vs.length) (_ : I j σ) (hh : c.A.handled = none := by exact Cx.Room.hh (by assumption)), c.Loop it target body U σ := by
  have key : c.A.handled = none → ∀ (k j : Nat) (σ : St), k + j = vs.length → I j σ → c.Loop it target body U σ := by
    intro hh k
    induction k with
    | zero =>
      intro j σ e i
      obtain rfl : j = vs.length := by (first | lia | omega)
      obtain ⟨h1, h2⟩ := hI _ _ i
      exact loop_turn (nx_tupE h1 h2 (by simp) (fin _ i) hh) ht
    | succ k ih =>
      intro j σ e i
      obtain ⟨h1, h2⟩ := hI _ _ i
      have lt : j < vs.length := by (first | lia | omega)
      exact loop_turn (nx_tup h1 h2 (List.getElem?_eq_getElem lt) ((step j _ σ lt (List.getElem?_eq_getElem lt) i).mono fun σ₂ h => h.mono fun f σ₃ h => h.mono fun σ₄ h => ih (j + 1) σ₄ (by (first | lia | omega)) h)) ht
  intro j σ l i hh
  exact key hh (vs.length - j) j σ (by (first | lia | omega)) i
theorem loop_rg {it : Addr} {target : Expr} {body : List Stmt} (I : Int → Nat → St → Prop) (hI : ∀ x n σ, I x n σ → σ.H it = some (.ri x n))
    (step : ∀ x n σ, I x (n + 1) σ → c.Asg Nope target (.int x) (fun _ σ₂ => c.Ss Nope body (Turned c (I (x + 1) n) U) σ₂) (σ.set it (.ri (x + 1) n)))
    (fin : ∀ x σ, I x 0 σ → U .next ⟨σ.m, σ.H.del it⟩) (ht : isNm target = true := by with_unfolding_all rfl) : ∀ {n : Nat} {x : Int} {σ : St} (_ : I x n σ) (hh : c.A.handled = none := by exact Cx.Room.hh (by assumption)), c.Loop it target body U σ := by
  intro n
  induction n with
  | zero => intro x σ i hh; exact loop_turn (nx_rgE (hI _ _ _ i) (by simp) (fin _ _ i) hh) ht
  | succ n ih =>
    intro x σ i hh
    refine loop_turn (nx_rg (hI _ _ _ i) (by (first | lia | omega)) ?_) ht
    have z := step x n σ i
    rw [show (((n + 1 : Nat) : Int) - 1) = n by (first | lia | omega)]
    exact z.mono fun σ₂ h => h.mono fun f σ₃ h => h.mono fun σ₄ h => ih h hh
end
section
variable {c : Cx} {E : Value → Shared → Prop} {σ : St} {Q : V → St → Prop} {U : St → Prop} {it acc l : Addr} {elt target iter : Expr} {scope : Scope} {pos : Pos} {vs : List V}
theorem cl_list0 (I : Nat → St → Prop) (hI : ∀ j σ, I j σ → σ.H it = some (.li l j) ∧ σ.H l = some (.list vs))
    (step : ∀ j v σ, j < vs.length → vs[j]? = some v → I j σ → c.Asg Nope target v (fun _ σ₂ => c.Ev Nope elt (fun x σ₃ => c.Call Nope (.builtin "list.append") [.ref acc, x] (fun _ σ₄ => I (j + 1) σ₄) σ₃) σ₂) (σ.set it (.li l (j + 1))))
    (fin : ∀ σ, I vs.length σ → U ⟨σ.m, σ.H.del it⟩) (ht : isNm target = true := by with_unfolding_all rfl) : ∀ {j : Nat} {σ : St} (_ : j ≤ vs.length) (_ : I j σ) (hh : c.A.handled = none := by exact Cx.Room.hh (by assumption)), c.CLoop (.ListComp elt [⟨target, iter, [], 0⟩] scope pos) it acc U σ := by
  have key : c.A.handled = none → ∀ (k j : Nat) (σ : St), k + j = vs.length → I j σ → c.CLoop (.ListComp elt [⟨target, iter, [], 0⟩] scope pos) it acc U σ := by
    intro hh k
    induction k with
    | zero =>
      intro j σ e i
      obtain rfl : j = vs.length := by (first | lia | omega)
      obtain ⟨h1, h2⟩ := hI _ _ i
      exact cl_turn0 (nx_listE h1 h2 (by simp) (fin _ i) hh) ht
    | succ k ih =>
      intro j σ e i
      obtain ⟨h1, h2⟩ := hI _ _ i
      have lt : j < vs.length := by (first | lia | omega)
      refine cl_turn0 (nx_list h1 h2 (List.getElem?_eq_getElem lt) ((step j _ σ lt (List.getElem?_eq_getElem lt) i).mono fun σ₂ h => Cx.W.mono h fun x σ₃ h => fun xs hx => Cx.W.mono (h xs hx) fun _ σ₄ h => ih (j + 1) σ₄ (by (first | lia | omega)) h)) ht
  intro j σ l i hh
  exact key hh (vs.length - j) j σ (by (first | lia | omega)) i
theorem cl_rg0 (I : Int → Nat → St → Prop) (hI : ∀ x n σ, I x n σ → σ.H it = some (.ri x n))
    (step : ∀ x n σ, I x (n + 1) σ → c.Asg Nope target (.int x) (fun _ σ₂ => c.Ev Nope elt (fun y σ₃ => c.Call Nope (.builtin "list.append") [.ref acc, y] (fun _ σ₄ => I (x + 1) n σ₄) σ₃) σ₂) (σ.set it (.ri (x + 1) n)))
    (fin : ∀ x σ, I x 0 σ → U ⟨σ.m, σ.H.del it⟩) (ht : isNm target = true := by with_unfolding_all rfl) : ∀ {n : Nat} {x : Int} {σ : St} (_ : I x n σ) (hh : c.A.handled = none := by exact Cx.Room.hh (by assumption)), c.CLoop (.ListComp elt [⟨target, iter, [], 0⟩] scope pos) it acc U σ := by
  intro n
  induction n with
  | zero => intro x σ i hh; exact cl_turn0 (nx_rgE (hI _ _ _ i) (by simp) (fin _ _ i) hh) ht
  | succ n ih =>
    intro x σ i hh
    refine cl_turn0 (nx_rg (hI _ _ _ i) (by (first | lia | omega)) ?_) ht
    have z := step x n σ i
    rw [show (((n + 1 : Nat) : Int) - 1) = n by (first | lia | omega)]
    exact z.mono fun σ₂ h => Cx.W.mono h fun x σ₃ h => fun xs hx => Cx.W.mono (h xs hx) fun _ σ₄ h => ih h hh
theorem cl_rg1 {t : Expr} (I : Int → Nat → St → Prop) (hI : ∀ x n σ, I x n σ → σ.H it = some (.ri x n))
    (step : ∀ x n σ, I x (n + 1) σ → c.Asg Nope target (.int x) (fun _ σ₂ => c.Te Nope t (fun ok σ₃ => if ok then c.Ev Nope elt (fun y σ₃ => c.Call Nope (.builtin "list.append") [.ref acc, y] (fun _ σ₄ => I (x + 1) n σ₄) σ₃) σ₃ else I (x + 1) n σ₃) σ₂) (σ.set it (.ri (x + 1) n)))
    (fin : ∀ x σ, I x 0 σ → U ⟨σ.m, σ.H.del it⟩) (ht : isNm target = true := by with_unfolding_all rfl) : ∀ {n : Nat} {x : Int} {σ : St} (_ : I x n σ) (hh : c.A.handled = none := by exact Cx.Room.hh (by assumption)), c.CLoop (.ListComp elt [⟨target, iter, [t], 0⟩] scope pos) it acc U σ := by
  intro n
  induction n with
  | zero => intro x σ i hh; exact cl_turn1 (nx_rgE (hI _ _ _ i) (by simp) (fin _ _ i) hh) ht
  | succ n ih =>
    intro x σ i hh
    refine cl_turn1 (nx_rg (hI _ _ _ i) (by (first | lia | omega)) ?_) ht
    have z := step x n σ i
    rw [show (((n + 1 : Nat) : Int) - 1) = n by (first | lia | omega)]
    refine z.mono fun σ₂ h => Cx.W.mono h fun b σ₃ h => ?_
    cases b with
    | false => simp only [Bool.false_eq_true, if_false] at h ⊢; exact ih h hh
    | true => simp only [if_true] at h ⊢; exact Cx.W.mono h fun x σ₃ h => fun xs hx => Cx.W.mono (h xs hx) fun _ σ₄ h => ih h hh
end
end Rk

end
section
set_option tactic.hygienic false
namespace Rk
section
variable {c : Cx} {E : Value → Shared → Prop} {σ : St} {Q : V → St → Prop} {a : Addr} {x y : Int}
theorem it_rgN (e : σ.H a = some (.rg x y)) (hs : -100000 ≤ x ∧ x ≤ 100000 ∧ -100000 ≤ y ∧ y ≤ 100000) (h : ∀ n, σ.H n = none → Q (.ref n) (σ.set n (.ri x ((y - x).toNat : Int)))) : c.Itr E (.ref a) Q σ := by
  have q : Builtin.Range.rangeSize x y 1 = ((y - x).toNat : Int) := by rw [rangeSize_one]; split <;> (first | lia | omega)
  refine it_rg e (small_one (by (first | lia | omega)) (by (first | lia | omega)) (by (first | lia | omega)) (by (first | lia | omega))) ?_
  rw [q]; exact h
end
end Rk

end
section
set_option tactic.hygienic false
namespace Rk
theorem clof {c : Cx} {cl : List (Str × Addr)} {x : Str} {a : Addr} (h : c.cl = cl) (e : cl.lookup x = some a) : c.cl.lookup x = some a := by subst h; exact e
noncomputable def Hp.TLe (H H' : Hp) : Prop := ∀ a vs, H a = some (.tup vs) → H' a = some (.tup vs)
theorem Hp.Le.t {H H' : Hp} (l : H.Le H') : H.TLe H' := fun a vs e => l _ _ e
theorem tle_set {H : Hp} {a : Addr} {o o' : MO} (e : H a = some o) (h : ∀ vs, o ≠ .tup vs) : H.TLe (H.set a o') := fun b vs q => by
  rw [Hp.set_ne _ _ (fun z => by rw [z, e] at q; cases q; exact h _ rfl)]; exact q
theorem tle_del {H : Hp} {a : Addr} {o : MO} (e : H a = some o) (h : ∀ vs, o ≠ .tup vs) : H.TLe (H.del a) := fun b vs q => by
  unfold Hp.del
  rw [if_neg (fun z => by rw [z, e] at q; cases q; exact h _ rfl)]; exact q
theorem relb {c : Cx} {sc scope sc' : Scope} (h : c.sc = sc) (e : relabel scope { (default : Env) with scope := sc } = sc') : relabel scope c.env = sc' := by
  subst h; exact e
noncomputable def Mid (M : St → Prop) (U : Fl → St → Prop) : Fl → St → Prop
  | .next, σ => M σ
  | f, σ => U f σ
theorem md_next {M : St → Prop} {U : Fl → St → Prop} {σ : St} (h : M σ) : Mid M U .next σ := h
theorem md_ret {M : St → Prop} {U : Fl → St → Prop} {σ : St} {v : V} (h : U (.ret v) σ) : Mid M U (.ret v) σ := h
theorem ss_mid {c : Cx} {E : Value → Shared → Prop} {st : Stmt} {rest : List Stmt} {U : Fl → St → Prop} {σ : St} (M : St → Prop) (h : c.S E st (Mid M U) σ) (k : ∀ σ', M σ' → c.Ss E rest U σ') : c.Ss E (st :: rest) U σ :=
  s_cons (Cx.W.mono h fun f σ' x => by
    cases f with
    | next => exact k σ' x
    | brk => exact x
    | cont => exact x
    | ret v => exact x)
theorem wl_down {c : Cx} {test : Expr} {body : List Stmt} {U : Fl → St → Prop} (I : Nat → St → Prop) (step : ∀ k σ, I k σ → c.Te Nope test (fun b σ₁ => if b then ∃ k', k = k' + 1 ∧ c.Ss Nope body (Turned c (I k') U) σ₁ else U .next σ₁) σ) : ∀ {k : Nat} {σ : St}, I k σ → c.WLoop test body U σ := by
  intro k
  induction k with
  | zero =>
    intro σ i
    refine wl_turn (Cx.W.mono (step 0 σ i) fun b σ' h => ?_)
    cases b with
    | false => exact h
    | true => simp only [if_true] at h; obtain ⟨k', e, _⟩ := h; cases e
  | succ k ih =>
    intro σ i
    refine wl_turn (Cx.W.mono (step _ σ i) fun b σ' h => ?_)
    cases b with
    | false => exact h
    | true =>
      simp only [if_true] at h ⊢
      obtain ⟨k', e, h⟩ := h
      cases e
      exact h.mono fun f σ h => h.mono fun σ h => ih h
noncomputable def Nms (f : Str → Option V) : List (Str × V) → Prop
  | [] => True
  | (x, v) :: r => f x = some v ∧ Nms f r
section
variable {c : Cx} {Q : V → St → Prop} {it l : Addr} {elt iter : Expr} {scope sc' : Scope} {pos p : Pos} {vs : List V} {cl : List (Str × Addr)} {x : Str} {m : Str → Option V} {Hb : Hp}
theorem block_map (R : Nat → V → Hp → Prop) (Rt : ∀ j v H H', Hp.TLe H H' → R j v H → R j v H') (hn : Hb it = none) (hl : Hb l = some (.list vs)) (hz : vs.length ≤ 1000)
    (hs : relabel scope c.env = sc') (hx : sc'.names.lookup x = some .local ∧ (x == ("__debug__" : Str)) = false)
    (step : ∀ c' : Cx, c'.D = c.D → c'.sc = sc' → c'.cl = cl → (∀ d, c.Room d → c'.Room d) → ∀ (j : Nat) (v : V) (m' : Str → Option V) (H1 : Hp), Hb.Le H1 → j < vs.length → vs[j]? = some v → c'.Ev Nope elt (fun y σ' => H1.Le σ'.H ∧ R j y σ'.H) ⟨fun y => if y = x then some v else m' y, H1⟩)
    (fin : ∀ acc H' ws, Hb.Le H' → Hb acc = none → H' acc = some (.list ws) → ws.length = vs.length → (∀ j y, ws[j]? = some y → R j y H') → Q (.ref acc) ⟨m, H'⟩) {rd : Nat} (rr : c.Room rd := by assumption) :
    c.Block (.ListComp elt [⟨.Name x p, iter, [], 0⟩] scope pos) scope cl Q (.ref it) ⟨m, Hb.set it (.li l 0)⟩ := by
  refine ⟨it, _, rfl, hs_self, rfl, fun acc ha c' cD cs cc cr => ?_⟩
  have ha' : Hb acc = none := by
    have ha2 : (Hb.set it (.li l 0)) acc = none := ha
    unfold Hp.set at ha2
    split at ha2
    · cases ha2
    · exact ha2
  have nai : it ≠ acc := fun q => by
    have ha2 : (Hb.set it (.li l 0)) acc = none := ha
    rw [← q, Hp.set_self] at ha2; cases ha2
  rw [hs] at cs
  have l0 : Hb.Le ((Hb.set it (.li l 0)).set acc (.list [])) := Hp.Le.setN ha' (Hp.Le.setN hn (Hp.Le.refl _))
  refine cl_list0 (l := l) (vs := vs) (fun j σ => σ.H it = some (.li l j) ∧ Hb.Le σ.H ∧ ∃ ws, σ.H acc = some (.list ws) ∧ ws.length = j ∧ ∀ i y, ws[i]? = some y → R i y σ.H) ?_ ?_ ?_ (by with_unfolding_all rfl) (Nat.zero_le _) ⟨hs_ne nai hs_self, l0, [], hs_self, rfl, by simp⟩ (cr _ rr).hh
  · rintro j σ ⟨h1, h2, _⟩
    exact ⟨h1, h2 _ _ hl⟩
  · rintro j v ⟨mm, H1⟩ lt hv ⟨h1, h2, ws, h3, h4, h5⟩
    have h1' : H1 it = some (.li l j) := h1
    have h3' : H1 acc = some (.list ws) := h3
    have l1 : Hb.Le (H1.set it (.li l (j + 1))) := Hp.Le.setN hn h2
    refine as_name (st_local (lof cs hx) ?_)
    refine Cx.W.mono (step c' cD cs cc cr j v mm _ l1 lt hv) fun y σ' ⟨k1, k2⟩ => ?_
    have a1 : σ'.H acc = some (.list ws) := k1 _ _ (hs_ne (Ne.symm nai) h3')
    refine c_append a1 (by (first | lia | omega)) ?_
    refine ⟨?_, ?_, ws ++ [y], ?_, ?_, ?_⟩
    · exact hs_ne nai (k1 _ _ hs_self)
    · exact Hp.Le.setN ha' (l1.trans k1)
    · exact hs_self
    · simp [h4]
    · intro i z hi
      have t1 : Hp.TLe σ'.H (σ'.H.set acc (.list (ws ++ [y]))) := tle_set a1 fun _ q => by cases q
      rcases Nat.lt_or_ge i ws.length with q | q
      · rw [List.getElem?_append_left q] at hi
        refine Rt _ _ _ _ t1 (Rt _ _ _ _ k1.t (Rt _ _ _ _ (tle_set h1' fun _ q => by cases q) (h5 i z hi)))
      · rw [List.getElem?_append_right q] at hi
        have e1 : i - ws.length = 0 := by
          rcases Nat.eq_zero_or_pos (i - ws.length) with q1 | q1
          · exact q1
          · rw [List.getElem?_eq_none (by simp; (first | lia | omega))] at hi; cases hi
        rw [e1] at hi
        cases hi
        rw [show i = j by (first | lia | omega)]
        exact Rt _ _ _ _ t1 k2
  · rintro ⟨mm, H1⟩ ⟨h1, h2, ws, h3, h4, h5⟩
    have h1' : H1 it = some (.li l vs.length) := h1
    have h3' : H1 acc = some (.list ws) := h3
    exact fin acc (H1.del it) ws (Hp.Le.del h2 hn) ha' (hs_del (Ne.symm nai) h3') h4 fun j y q => Rt _ _ _ _ (tle_del h1' fun _ q => by cases q) (h5 j y q)
end
end Rk

end
section
set_option tactic.hygienic false
namespace Rk
theorem clos_of {c : Cx} {cl cl' : List (Str × Addr)} {scope : Scope} (h : c.cl = cl) (e : closureFor scope { (default : Env) with cells := cl } = pure cl') : closureFor scope c.env = pure cl' := by
  subst h; exact e
theorem swap_of {c : Cx} {sc : Scope} {v : Expr} {t : Option Expr} {k : Nat} (h : c.sc = sc) (e : swapsWith v t k { (default : Env) with scope := sc } = pure true) : swapsWith v t k c.env = pure true := by
  subst h; exact e
theorem s_consW {c : Cx} {E : Value → Shared → Prop} {test : Expr} {body orelse rest : List Stmt} {pos : Pos} {U : Fl → St → Prop} {σ : St} (h : Hold (c.S E (.While test body orelse pos) (c.Then E rest U) σ)) : c.Ss E (.While test body orelse pos :: rest) U σ := s_cons h
theorem hold_mid {c : Cx} {E : Value → Shared → Prop} {st : Stmt} {rest : List Stmt} {U : Fl → St → Prop} {σ : St} (M : St → Prop) (h : c.S E st (Mid M (c.Then E rest U)) σ) (k : ∀ σ', M σ' → c.Ss E rest U σ') : Hold (c.S E st (c.Then E rest U) σ) :=
  Cx.W.mono h fun f σ' x => by
    cases f with
    | next => exact k σ' x
    | brk => exact x
    | cont => exact x
    | ret v => exact x
noncomputable def filt (P : Nat → Bool) : Nat → Nat → List Nat
  | _, 0 => []
  | a, n + 1 => if P a then a :: filt P (a + 1) n else filt P (a + 1) n
section
variable {c : Cx} {Q : V → St → Prop} {it : Addr} {iter t : Expr} {scope sc' : Scope} {pos p p0 : Pos} {cl : List (Str × Addr)} {x : Str} {m : Str → Option V} {Hb : Hp}
theorem block_rgf (P : Nat → Bool) {a n : Nat} (hn : Hb it = none) (hz : n ≤ 1000)
    (hs : relabel scope c.env = sc') (hx : sc'.names.lookup x = some .local ∧ (x == ("__debug__" : Str)) = false)
    (step : ∀ c' : Cx, c'.D = c.D → c'.sc = sc' → c'.cl = cl → (∀ d, c.Room d → c'.Room d) → ∀ (i : Nat) (m' : Str → Option V) (H1 : Hp), Hb.Le H1 → a ≤ i → i < a + n → c'.Te Nope t (fun ok σ' => ok = P i ∧ H1.Le σ'.H ∧ σ'.m x = some (.int i)) ⟨fun y => if y = x then some (.int i) else m' y, H1⟩)
    (fin : ∀ acc H', Hb.Le H' → Hb acc = none → H' acc = some (.list ((filt P a n).map fun (i : Nat) => V.int (i : Int))) → Q (.ref acc) ⟨m, H'⟩) {rd : Nat} (rr : c.Room rd := by assumption) :
    c.Block (.ListComp (.Name x p0) [⟨.Name x p, iter, [t], 0⟩] scope pos) scope cl Q (.ref it) ⟨m, Hb.set it (.ri (a : Int) (n : Int))⟩ := by
  refine ⟨it, _, rfl, hs_self, rfl, fun acc ha c' cD cs cc cr => ?_⟩
  have ha' : Hb acc = none := by
    have ha2 : (Hb.set it (.ri (a : Int) (n : Int))) acc = none := ha
    unfold Hp.set at ha2
    split at ha2
    · cases ha2
    · exact ha2
  have nai : it ≠ acc := fun q => by
    have ha2 : (Hb.set it (.ri (a : Int) (n : Int))) acc = none := ha
    rw [← q, Hp.set_self] at ha2; cases ha2
  rw [hs] at cs
  have l0 : Hb.Le ((Hb.set it (.ri (a : Int) (n : Int))).set acc (.list [])) := Hp.Le.setN ha' (Hp.Le.setN hn (Hp.Le.refl _))
  refine cl_rg1 (fun z k σ => ∃ i : Nat, z = i ∧ i + k = a + n ∧ a ≤ i ∧ σ.H it = some (.ri z k) ∧ Hb.Le σ.H ∧ ∃ ws : List Nat, σ.H acc = some (.list (ws.map fun (i : Nat) => V.int (i : Int))) ∧ ws.length + k ≤ n ∧ ws ++ filt P i k = filt P a n) ?_ ?_ ?_ (by with_unfolding_all rfl) ⟨a, rfl, rfl, Nat.le_refl _, hs_ne nai hs_self, l0, [], hs_self, by simp, rfl⟩ (cr _ rr).hh
  · rintro z k σ ⟨i, _, _, _, h, _⟩
    exact h
  · rintro z k ⟨mm, H1⟩ ⟨i, rfl, e1, e2, h1, h2, ws, h3, h4, h5⟩
    have h1' : H1 it = some (.ri (i : Int) ((k + 1 : Nat) : Int)) := h1
    have h3' : H1 acc = some (.list (ws.map fun (i : Nat) => V.int (i : Int))) := h3
    have l1 : Hb.Le (H1.set it (.ri ((i : Int) + 1) k)) := Hp.Le.setN hn h2
    refine as_name (st_local (lof cs hx) ?_)
    refine Cx.W.mono (step c' cD cs cc cr i mm _ l1 e2 (by (first | lia | omega))) fun ok σ' ⟨k0, k1, k2⟩ => ?_
    have a1 : σ'.H acc = some (.list (ws.map fun (i : Nat) => V.int (i : Int))) := k1 _ _ (hs_ne (Ne.symm nai) h3')
    have a2 : σ'.H it = some (.ri ((i : Int) + 1) k) := k1 _ _ hs_self
    subst k0
    cases hP : P i with
    | true =>
      simp only [if_true]
      refine w_local k2 ?_
      refine c_append a1 (by rw [List.length_map]; (first | lia | omega)) ?_
      refine ⟨i + 1, by (first | lia | omega), by (first | lia | omega), by (first | lia | omega), hs_ne nai a2, Hp.Le.setN ha' (l1.trans k1), ws ++ [i], ?_, by simp; (first | lia | omega), ?_⟩
      · rw [List.map_append]; exact hs_self
      · rw [← h5, filt, if_pos hP]; simp
    | false =>
      simp only [Bool.false_eq_true, if_false]
      refine ⟨i + 1, by (first | lia | omega), by (first | lia | omega), by (first | lia | omega), a2, l1.trans k1, ws, a1, by (first | lia | omega), ?_⟩
      rw [← h5, filt, if_neg (by rw [hP]; decide)]
  · rintro z ⟨mm, H1⟩ ⟨i, rfl, e1, e2, h1, h2, ws, h3, h4, h5⟩
    have h3' : H1 acc = some (.list (ws.map fun (i : Nat) => V.int (i : Int))) := h3
    refine fin acc (H1.del it) (Hp.Le.del h2 hn) ha' ?_
    rw [← h5, filt, List.append_nil]
    exact hs_del (Ne.symm nai) h3'
end
end Rk

end
section
open PySem PySem.W PySem.Calls PyProof.Rows PySem.SeqAt
set_option tactic.hygienic false
namespace Rk
section
variable {c : Cx} {E : Value → Shared → Prop} {σ : St} {Q : V → St → Prop} {a : Addr} {d : Nat} {ad : Nat → Addr} {px py : Nat → Int} {vs : List V}
theorem m_index {P : Value → List V → St → Prop} (e : σ.H a = some (.list vs)) (h : P (.builtin "list.index") [.ref a] σ) : c.Meth E (.ref a) "index" P σ := by
  rintro _ rfl pl s R
  obtain ⟨ws, k, hg, _⟩ := R.list e
  exact getMethod_list_of F.slot_list_index F.type_list_index (listOf_is hg) ⟨_, hg, rfl⟩ ⟨(_, [.ref a]), σ, ⟨rfl, rfl, trivial⟩, R, h⟩
structure Prs (H : Hp) (a : Addr) (ad : Nat → Addr) (px py : Nat → Int) : Prop where
  l : H a = some (.list [.ref (ad 0), .ref (ad 1), .ref (ad 2)])
  t : ∀ i, i < 3 → H (ad i) = some (.tup [.int (px i), .int (py i)])
theorem pge_trans {a b c d e f : Int} (h : pge a b c d = true) (k : pge c d e f = true) : pge a b e f = true := by
  simp only [pge, beq_iff_eq] at h k ⊢
  repeat' split at h
  all_goals repeat' split at k
  all_goals repeat' split
  all_goals simp_all
  all_goals (first | lia | omega)
theorem pge_refl {a b : Int} : pge a b a b = true := by simp [pge]
theorem pge_of_gt {a b c d : Int} (h : pgt a b c d = true) : pge a b c d = true := by
  simp only [pge, pgt, beq_iff_eq] at h ⊢
  repeat' split at h
  all_goals repeat' split
  all_goals simp_all
  all_goals (first | lia | omega)
theorem pge_of_ngt {a b c d : Int} (h : pgt a b c d = false) : pge c d a b = true := by
  simp only [pge, pgt, beq_iff_eq] at h ⊢
  repeat' split at h
  all_goals repeat' split
  all_goals simp_all
  all_goals (first | lia | omega)
theorem gtP {x y x' y' : Int} {b : Addr} {s : Shared} {Qv : Value → Shared → Prop} (hu : c.A.units ≤ 9200) (R : Rel c σ s) (e : σ.H a = some (.tup [.int x, .int y])) (e' : σ.H b = some (.tup [.int x', .int y'])) (h : Qv (.bool (pgt x y x' y')) s) :
    wpAny (model c.D.prog c.D.w) c.A (richCompare .Gt (.ref a) (.ref b)) Qv E s := by
  have cl : cLine = 9900 := rfl
  obtain ⟨t, u, k, hg⟩ := R.pair e
  obtain ⟨t', u', k', hg'⟩ := R.pair e'
  exact richCompare_meets_room (op := .Gt) ⟨_, hg, rfl⟩ ⟨_, hg', rfl⟩ F.slot_tuple_gt F.entry_tuple_gt (F.args_tuple_gt_2 _ _) (tuple_gt2 a b x y x' y' t u t' u' k k' none none #[] #[])
    ⟨hg, hg', show Value.bool _ ≠ Value.notImplemented ∧ _ from ⟨(fun x => nomatch x), h⟩⟩ (by (first | lia | omega))
theorem Rel.relist {s : Shared} {us : List V} {ws' : List Value} (R : Rel c σ s) (e : σ.H a = some (.list vs)) (hz : vs.length ≤ 100) (hz' : us.length ≤ 100) (hu : VsRel us ws') {Qv : Unit → Shared → Prop} (h : ∀ h', Rel c (σ.set a (.list us)) { s with heap := h' } → Qv () { s with heap := h' }) (A' : Around) :
    wpAny (model c.D.prog c.D.w) A' (updateSeq a (fun _ => ws'.toArray)) Qv E s := by
  obtain ⟨ws, k, hg, hr⟩ := R.list e
  have l1 := hr.length; rw [Array.length_toList] at l1
  have l2 := hu.length
  refine wpAny_updateSeq hg rfl (h _ ?_) (by have := sizeLine_eq; (first | lia | omega)) (by have := sizeLine_eq; simp; (first | lia | omega))
  have q := PySem.IsL.update hg (fun _ => ws'.toArray)
  exact R.put (tk := s.toks) e (Heap.SameBut.update ..) (fun d => mkl q (by simpa using hu)) rfl
noncomputable def MEnd (c : Cx) (H₀ : Hp) (m₀ : Str → Option V) (ad : Nat → Addr) (px py : Nat → Int) (r : Result) (s' : Shared) : Prop := match r with
  | .ok (.ret v) => ∃ k, k < 3 ∧ v = .ref (ad k) ∧ (∀ i, i < 3 → pge (px k) (py k) (px i) (py i) = true) ∧ ∃ σ', Rel c σ' s' ∧ σ'.m = m₀ ∧ H₀.Le σ'.H
  | _ => False
theorem max_loop {H₀ : Hp} {m₀ : Str → Option V} {it S : Addr} (hu : c.A.units ≤ 9100) (hh : c.A.handled = none) (P : Prs H₀ a ad px py) (hit : H₀ it = none) (hS : H₀ S = none) (nS : S ≠ it) : ∀ (n j k : Nat) (σ : St), n + (j + 1) = 3 → σ.m = m₀ → H₀.Le σ.H → σ.H it = some (.li a (j + 1)) → σ.H S = some (.list [.ref (ad k), .ref (ad k)]) → k ≤ j →
    (∀ i, i ≤ j → pge (px k) (py k) (px i) (py i) = true) → ∀ s, Rel c σ s → codeAny (model c.D.prog c.D.w) c.A (.builtin "max.loop" ⟨[.ref it, .none, .ref S], []⟩) (MEnd c H₀ m₀ ad px py) s := by
  have hname : (toString "max" ++ toString ".loop" : String) = "max.loop" := by decide
  have hl := P.l
  intro n
  induction n with
  | zero =>
    intro j k σ e em l hi hs kj hge s R
    obtain ⟨ws, kk, hg, hr⟩ := R.list hs
    refine codeAny_builtin F.entry_max_loop ?_
    rw [Around.under_plainId F.plain_max_loop _]
    show wpAny _ c.A.in1 (seqItems? (.ref S) >>= _) _ _ s
    refine wpAny_bind (wpAny_seqItems hg rfl ?_)
    show wpAny _ c.A.in1 (tryCatch (pyNext (.ref it)) _ >>= _) _ _ s
    have R1 := R.under (A' := c.A.in1) rfl
    refine wpAny_bind (wpAny_tryCatch (wpAny_mono (nx_listE (c := c.atA c.A.in1) (E := Nope) (O := fun o σ₁ => o = none ∧ σ₁ = ⟨σ.m, σ.H.del it⟩) hi (l _ _ hl) (by rw [show j + 1 = 3 by (first | lia | omega)]; rfl) ⟨rfl, rfl⟩ hh s R1) (fun r s₁ h₁ => ?_) fun _ _ e => e.elim))
    obtain ⟨o, σ₁, ho, R₂, rfl, rfl⟩ := h₁
    cases ho
    have R3 := Rel.back R R₂
    have hs3 : (σ.H.del it) S = some (.list [.ref (ad k), .ref (ad k)]) := hs_del nS hs
    replace hr := va2 hr
    obtain ⟨_, _, rfl, h1, h2⟩ := hr
    cases h1; cases h2
    show wpAny _ c.A.in1 (updateSeq S (fun _ => #[]) >>= _) _ _ _
    refine wpAny_bind (R3.relist (us := []) (ws' := []) hs3 (by simp) (by simp) trivial (fun h' R4 => ?_) _)
    refine wpAny_bind (wpAny_letGo (wpAny_pure ?_))
    exact ⟨k, by (first | lia | omega), rfl, fun i hi => hge i (by (first | lia | omega)), _, R4, em, Hp.Le.setN hS (Hp.Le.del l hit)⟩
  | succ n ih =>
    intro j k σ e em l hi hs kj hge s R
    obtain ⟨ws, kk, hg, hr⟩ := R.list hs
    refine codeAny_builtin F.entry_max_loop ?_
    rw [Around.under_plainId F.plain_max_loop _]
    show wpAny _ c.A.in1 (seqItems? (.ref S) >>= _) _ _ s
    refine wpAny_bind (wpAny_seqItems hg rfl ?_)
    show wpAny _ c.A.in1 (tryCatch (pyNext (.ref it)) _ >>= _) _ _ s
    have R1 := R.under (A' := c.A.in1) rfl
    have hj : j + 1 < 3 := by (first | lia | omega)
    have hx : ([V.ref (ad 0), V.ref (ad 1), V.ref (ad 2)] : List V)[j + 1]? = some (.ref (ad (j + 1))) := by
      match j, hj with
      | 0, _ => rfl
      | 1, _ => rfl
    refine wpAny_bind (wpAny_tryCatch (wpAny_mono (nx_list (c := c.atA c.A.in1) (E := Nope) (O := fun o σ₁ => o = some (.ref (ad (j + 1))) ∧ σ₁ = σ.set it (.li a (j + 1 + 1))) hi (l _ _ hl) hx ⟨rfl, rfl⟩ s R1) (fun r s₁ h₁ => ?_) fun _ _ e => e.elim))
    obtain ⟨o, σ₁, ho, R₂, rfl, rfl⟩ := h₁
    obtain ⟨v, rfl, hv⟩ := ho
    cases hv
    have R3 := Rel.back R R₂
    have l3 : H₀.Le (σ.H.set it (.li a (j + 1 + 1))) := Hp.Le.setN hit l
    have hs3 : (σ.H.set it (.li a (j + 1 + 1))) S = some (.list [.ref (ad k), .ref (ad k)]) := hs_ne nS hs
    replace hr := va2 hr
    obtain ⟨_, _, rfl, h1, h2⟩ := hr
    cases h1; cases h2
    show wpAny _ c.A.in1 (tryCatch (holding [.ref (ad (j + 1)), .ref (ad (j + 1))] (richCompare .Gt (.ref (ad (j + 1))) (.ref (ad k)) >>= _)) _ >>= _) _ _ _
    refine wpAny_bind (wpAny_tryCatch (wpAny_holding (wpAny_bind (gtP (c := c.atA c.A.in1) (by show c.A.units + 1 ≤ 9200; (first | lia | omega)) R₂ (l3 _ _ (P.t _ hj)) (l3 _ _ (P.t k (by (first | lia | omega)))) ?_))))
    refine wpAny_bind (wpAny_holding (wpAny_truthy_bool ?_))
    refine wpAny_bind (wpAny_letGo (wpAny_pure ?_))
    cases hb : pgt (px (j + 1)) (py (j + 1)) (px k) (py k) with
      | true =>
        simp only [if_true]
        refine wpAny_bind (R3.relist (us := [.ref (ad (j + 1)), .ref (ad (j + 1))]) (ws' := [.ref (ad (j + 1)), .ref (ad (j + 1))]) hs3 (by simp) (by simp) ⟨rfl, rfl, trivial⟩ (fun h' R4 => ?_) _)
        refine wpAny_bind (wpAny_letGo ?_)
        rw [hname]
        refine wpAny_pure ⟨plainId_quiet F.plain_max_loop _, ih (j + 1) (j + 1) ((σ.set it (.li a (j + 1 + 1))).set S (.list [.ref (ad (j + 1)), .ref (ad (j + 1))])) (by (first | lia | omega)) em (Hp.Le.setN hS l3) (hs_ne (Ne.symm nS) hs_self) hs_self (Nat.le_refl _) (fun i hi => ?_) _ R4⟩
        rcases Nat.lt_or_ge i (j + 1) with z | z
        · exact pge_trans (pge_of_gt hb) (hge i (by (first | lia | omega)))
        · rw [show i = j + 1 by (first | lia | omega)]; exact pge_refl
      | false =>
        simp only [Bool.false_eq_true, if_false]
        refine wpAny_bind (wpAny_letGo ?_)
        rw [hname]
        refine wpAny_pure ⟨plainId_quiet F.plain_max_loop _, ih (j + 1) k (σ.set it (.li a (j + 1 + 1))) (by (first | lia | omega)) em l3 hs_self hs3 (by (first | lia | omega)) (fun i hi => ?_) _ R3⟩
        rcases Nat.lt_or_ge i (j + 1) with z | z
        · exact hge i (by (first | lia | omega))
        · rw [show i = j + 1 by (first | lia | omega)]; exact pge_of_ngt hb
theorem f_maxP {Qs : V → St → Prop} (r : c.Room d) (P : Prs σ.H a ad px py) (h : ∀ k, k < 3 → (∀ i, i < 3 → pge (px k) (py k) (px i) (py i) = true) → Qs (.ref (ad k)) σ) : c.Call E (.builtin "max") [.ref a] Qs σ := by
  intro xs hx s R
  replace hx := vr1 hx
  obtain ⟨_, rfl, hx⟩ := hx
  cases hx
  have hu := r.2
  have hl := P.l
  have hname : (toString "max" ++ toString ".loop" : String) = "max.loop" := by decide
  refine call_function_tree F.kind_max F.plain_max F.entry_max (F.args_max1 _) ?_
  show wpAny _ c.A.in1 (Builtin.Builtins.bindParams "max" ["key", "default"] 0 ⟨[], []⟩ >>= _) _ _ s
  refine wpAny_bind (wpAny_of_eq (show Builtin.Builtins.bindParams "max" ["key", "default"] 0 ⟨[], []⟩ = pure [none, none] from rfl) ?_)
  refine wpAny_bind (wpAny_pure ?_)
  have R1 := R.under (A' := c.A.in1) rfl
  refine wpAny_bind (wpAny_mono (it_list (c := c.atA c.A.in1) (E := Nope) (Q := fun v σ₁ => ∃ it, v = .ref it ∧ σ.H it = none ∧ σ₁ = σ.set it (.li a 0)) hl (fun it hit => ⟨it, rfl, hit, rfl⟩) _ rfl s R1) (fun itv s₂ h₂ => ?_) fun _ _ e => e.elim)
  obtain ⟨_, _, hv, R2, it, rfl, hit, rfl⟩ := h₂
  cases hv
  refine wpAny_bind (wpAny_newObj_type ?_)
  have hn := R2.non (Nat.le_refl _)
  have nS : s₂.heap.objs.size ≠ it := fun q => by rw [q] at hn; have z : (σ.H.set it (.li a 0)) it = none := hn; rw [Hp.set_self] at z; cases z
  have hS : σ.H s₂.heap.objs.size = none := (Hp.set_ne _ _ nS).symm.trans hn
  have R3 := R2.new (o := .list []) (tk := s₂.toks) (Nat.le_refl _) (fun b o e => Heap.get?_push_of_some ({ cls := .type "list", dict := none, data := .seq ([] : List Value).toArray } : Obj) e) (fun d => mkl (ws := #[]) (Heap.get?_push_size _ rfl) trivial) rfl
  have R4 := Rel.back R R3
  rw [hname]
  generalize s₂.heap.objs.size = S at nS hS R4
  refine wpAny_pure ⟨plainId_quiet F.plain_max_loop _, ?_⟩
  have hS4 : ((σ.set it (.li a 0)).set S (.list [])).H S = some (.list []) := hs_self
  obtain ⟨ws, kk, hg, hr⟩ := R4.list hS4
  refine codeAny_builtin F.entry_max_loop ?_
  rw [Around.under_plainId F.plain_max_loop _]
  show wpAny _ c.A.in1 (seqItems? (.ref S) >>= _) _ _ _
  refine wpAny_bind (wpAny_seqItems hg rfl ?_)
  show wpAny _ c.A.in1 (tryCatch (pyNext (.ref it)) _ >>= _) _ _ _
  have R5 := R4.under (A' := c.A.in1) rfl
  have l0 : σ.H.Le ((σ.H.set it (.li a 0)).set S (.list [])) := Hp.Le.setN hS (Hp.Le.set _ hit)
  have hi0 : ((σ.set it (.li a 0)).set S (.list [])).H it = some (.li a 0) := hs_ne (Ne.symm nS) hs_self
  refine wpAny_bind (wpAny_tryCatch (wpAny_mono (nx_list (c := c.atA c.A.in1) (E := Nope) (O := fun o σ₁ => o = some (.ref (ad 0)) ∧ σ₁ = ((σ.set it (.li a 0)).set S (.list [])).set it (.li a 1)) hi0 (l0 _ _ hl) rfl ⟨rfl, rfl⟩ _ R5) (fun r s₁ h₁ => ?_) fun _ _ e => e.elim))
  obtain ⟨o, σ₁, ho, R₂, rfl, rfl⟩ := h₁
  obtain ⟨v, rfl, hv⟩ := ho
  cases hv
  have R6 := Rel.back R4 R₂
  have hs6 : (((σ.set it (.li a 0)).set S (.list [])).set it (.li a 1)).H S = some (.list []) := hs_ne nS hs_self
  match ws, hr with
    | ⟨[]⟩, _ =>
      show wpAny _ c.A.in1 (updateSeq S (fun _ => #[.ref (ad 0), .ref (ad 0)]) >>= _) _ _ _
      refine wpAny_bind (R6.relist (us := [.ref (ad 0), .ref (ad 0)]) (ws' := [.ref (ad 0), .ref (ad 0)]) hs6 (by simp) (by simp) ⟨rfl, rfl, trivial⟩ (fun h' R7 => ?_) _)
      rw [hname]
      refine wpAny_pure ⟨plainId_quiet F.plain_max_loop _, ?_⟩
      refine codeAny_mono (max_loop (by (first | lia | omega)) r.hh P hit hS nS 2 0 0 ((((σ.set it (.li a 0)).set S (.list [])).set it (.li a 1)).set S (.list [.ref (ad 0), .ref (ad 0)])) rfl rfl (Hp.Le.setN hS (Hp.Le.setN hit l0)) (hs_ne (Ne.symm nS) hs_self) hs_self (Nat.le_refl _) (fun i hi => by rw [show i = 0 by (first | lia | omega)]; exact pge_refl) _ R7) fun r s' b => ?_
      unfold MEnd at b
      split at b
      · obtain ⟨k, hk, rfl, hg, σ', R8, em, l8⟩ := b
        exact ⟨.ref (ad k), σ, rfl, Rel.le (m := σ.m) (by obtain ⟨mm, HH⟩ := σ'; cases em; exact R8) l8, h k hk hg⟩
      · exact b.elim
open Classical in
theorem c_indexP {Qs : V → St → Prop} {k : Nat} (r : c.Room d) (P : Prs σ.H a ad px py) (hk : k < 3) (h : ∀ j, j < 3 → px j = px k → py j = py k → Qs (.int (j : Int)) σ) : c.Call E (.builtin "list.index") [.ref a, .ref (ad k)] Qs σ := by
  intro xs hx s R
  replace hx := vr2 hx
  obtain ⟨_, _, rfl, hx, hy⟩ := hx
  cases hx; cases hy
  have hu := r.2
  have cl : cLine = 9900 := rfl
  obtain ⟨ws, n, hg, hr⟩ := R.list P.l
  obtain ⟨_, _, _, rfl, h0, h1, h2⟩ := va3 hr
  cases h0; cases h1; cases h2
  let e : Value → Bool := fun y => decide (∃ b, y = .ref b ∧ σ.H b = σ.H (ad k))
  have ee : ∀ i, i < 3 → e (.ref (ad i)) = decide (px i = px k ∧ py i = py k) := fun i hi => by
    show decide (∃ b, Value.ref (ad i) = .ref b ∧ σ.H b = σ.H (ad k)) = _
    rw [decide_eq_decide]
    constructor
    · rintro ⟨b, q, q2⟩
      cases q
      rw [P.t i hi, P.t k hk] at q2
      simp only [Option.some.injEq, MO.tup.injEq, List.cons.injEq, V.int.injEq, and_true] at q2
      exact q2
    · rintro ⟨q1, q2⟩
      exact ⟨_, rfl, by rw [P.t i hi, P.t k hk, q1, q2]⟩
  have eqA : ∀ i, i < 3 → EqAt c.A.in1 s (.ref (ad i)) (.ref (ad k)) (e (.ref (ad i))) := fun i hi => by
    rw [ee i hi]
    have z := deep_eq R (.tup [.int (px i), .int (py i)]) (.tup [.int (px k), .int (py k)]) c.A.in1 (.ref (ad i)) (.ref (ad k)) (.ref (ad i)) (.ref (ad k)) (by unfold DIs; exact ⟨_, _, rfl, P.t i hi, by simp [DsIs, DIs]⟩) (by unfold DIs; exact ⟨_, _, rfl, P.t k hk, by simp [DsIs, DIs]⟩) rfl rfl (by simp [likd, likds]) (by show c.A.units + 1 + _ < _; simp [dep, deps]; (first | lia | omega))
    have q : eqd (.tup [.int (px i), .int (py i)]) (.tup [.int (px k), .int (py k)]) = decide (px i = px k ∧ py i = py k) := by
      rw [Bool.eq_iff_iff, decide_eq_true_iff]; simp [eqd, eqds]
    rw [q] at z; exact z
  have fin : ∀ (j : Nat) (hj : j < 3), (px j = px k ∧ py j = py k) → (∀ m, m < j → ¬ (px m = px k ∧ py m = py k)) → wpAny (model c.D.prog c.D.w) c.A (call (.builtin "list.index") [.ref a, .ref (ad k)]) (fun v s' => ∃ b σ', VRel b v ∧ Rel c σ' s' ∧ Qs b σ') E s := fun j hj hq hno => by
    have at_ : ∀ (m : Nat) (hm : m < (#[Value.ref (ad 0), .ref (ad 1), .ref (ad 2)] : Array Value).size), (#[Value.ref (ad 0), .ref (ad 1), .ref (ad 2)] : Array Value)[m] = .ref (ad m) := fun m hm => by
      match m, hm with
      | 0, _ => rfl
      | 1, _ => rfl
      | 2, _ => rfl
    refine call_meets F.slot_list_index ⟨_, hg, rfl⟩ F.entry_list_index (F.args_list_index_2 _ _) (list_indexAt a #[.ref (ad 0), .ref (ad 1), .ref (ad 2)] n none #[] (.ref (ad k)) e j hj (by (first | lia | omega)) ?_ ?_) ⟨hg, ?_, ?_⟩
    · rw [at_, ee j hj]; exact decide_eq_true hq
    · intro m hm lt
      rw [at_, ee m (by (first | lia | omega))]; exact decide_eq_false (hno m lt)
    · intro y hy
      have : y = .ref (ad 0) ∨ y = .ref (ad 1) ∨ y = .ref (ad 2) := by simpa using hy
      rcases this with rfl | rfl | rfl
      · exact eqA 0 (by decide)
      · exact eqA 1 (by decide)
      · exact eqA 2 (by decide)
    · exact ⟨.int (j : Int), σ, ⟨_, rfl⟩, R.tok _, h j hj hq.1 hq.2⟩
  by_cases q0 : px 0 = px k ∧ py 0 = py k
  · exact fin 0 (by decide) q0 (fun m hm => by (first | lia | omega))
  by_cases q1 : px 1 = px k ∧ py 1 = py k
  · exact fin 1 (by decide) q1 (fun m hm => by rw [show m = 0 by (first | lia | omega)]; exact q0)
  have q2 : k = 2 := by
    match k, hk with
    | 0, _ => exact absurd ⟨rfl, rfl⟩ q0
    | 1, _ => exact absurd ⟨rfl, rfl⟩ q1
    | 2, _ => rfl
  subst q2
  exact fin 2 (by decide) ⟨rfl, rfl⟩ (fun m hm => by
    match m, hm with
    | 0, _ => exact q0
    | 1, _ => exact q1)
theorem loop_turnT {it : Addr} {l : Addr} {i : Nat} {elts : List Expr} {kk : Nat} {tp : Pos} {body : List Stmt} {U : Fl → St → Prop} {x : V} (e : σ.H it = some (.ti l i)) (e' : σ.H l = some (.tup vs)) (hx : vs[i]? = some x)
    (h : c.Asg Nope (.Tuple elts kk tp) x (fun _ σ₂ => c.Ss Nope body (Turned c (c.Loop it (.Tuple elts kk tp) body U) U) σ₂) (σ.set it (.ti l (i + 1)))) : c.Loop it (.Tuple elts kk tp) body U σ := fun s R => by
  refine codeAny_of_tree ?_
  show wpAny _ c.A ((forTurn (.Tuple elts kk tp) (.ref it) body [] c.env).onRaise (fun x => do noteFrame x c.env; theTreesLotGoes x)) _ _ s
  refine wpAny_onRaise (wpAny_mono (E := Nope) ?_ (fun _ _ x => x) fun _ _ e => e.elim)
  simp only [forTurn]
  refine wpAny_bind (wpAny_standAt (wpAny_bind (wpAny_onRaise (wpAny_mono (nx_tup (c := c) (E := Nope) (O := fun o σ₁ => o = some x ∧ σ₁ = σ.set it (.ti l (i + 1))) e e' hx ⟨rfl, rfl⟩ s R) (fun r s₁ h₁ => ?_) fun _ _ e => e.elim))))
  obtain ⟨o, σ₁, ho, R₁, rfl, rfl⟩ := h₁
  obtain ⟨w, rfl, hv⟩ := ho
  have go : ∀ {Q' : Unit → Shared → Prop}, Q' () s₁ → wpAny (model c.D.prog c.D.w) c.A (letOwnedTupleGo (.Tuple elts kk tp) (.ref it) w) Q' Nope s₁ := fun hq => by
    cases w with
    | ref T =>
      have hi : s₁.heap.IsTupleIter it l (i + 1) := by obtain ⟨g, δ, D⟩ := R₁.hp; exact D.at_ it _ hs_self
      obtain ⟨o, ho, hc, hd⟩ := hi
      unfold letOwnedTupleGo
      refine wpAny_bind (wpAny_load ho ?_)
      rw [hc, hd]
      show wpAny _ _ (if (["enumerate", "zip", "dict_itemiterator", "dict_reverseitemiterator", "odict_iterator", "itertools.zip_longest", "itertools.pairwise"].contains "tuple_iterator" && _) = true then _ else _) _ _ s₁
      rw [if_neg (by
        intro h
        rw [show (["enumerate", "zip", "dict_itemiterator", "dict_reverseitemiterator", "odict_iterator", "itertools.zip_longest", "itertools.pairwise"].contains "tuple_iterator") = false from by decide, Bool.false_and] at h
        cases h)]
      exact wpAny_pure hq
    | _ => exact wpAny_pure hq
  refine wpAny_bind (go ?_)
  refine wpAny_bind (wpAny_mono (h w hv s₁ R₁) (fun _ s₂ h₂ => ?_) fun _ _ e => e)
  obtain ⟨_, σ₂, _, R₂, h₂⟩ := h₂
  refine wpAny_bind (wpAny_mono (h₂ s₂ R₂) (fun f s₃ h₃ => ?_) fun _ _ e => e)
  obtain ⟨fl, σ₃, hf, R₃, h₃⟩ := h₃
  cases fl with
  | next => cases hf; exact wpAny_pure ⟨rfl, h₃ s₃ R₃⟩
  | cont => cases hf; exact wpAny_pure ⟨rfl, h₃ s₃ R₃⟩
  | brk => cases hf; exact wpAny_pure (LEnd.ok (fl := .next) rfl R₃ h₃)
  | ret v => obtain ⟨w, rfl, hw⟩ := hf; exact wpAny_pure (LEnd.ok (fl := .ret v) ⟨w, rfl, hw⟩ R₃ h₃)
theorem loop_endT {it : Addr} {l : Addr} {i : Nat} {target : Expr} {body : List Stmt} {U : Fl → St → Prop} (e : σ.H it = some (.ti l i)) (e' : σ.H l = some (.tup vs)) (hx : vs[i]? = none)
    (h : U .next ⟨σ.m, σ.H.del it⟩) (hh : c.A.handled = none := by exact Cx.Room.hh (by assumption)) : c.Loop it target body U σ := fun s R => by
  refine codeAny_of_tree ?_
  show wpAny _ c.A ((forTurn target (.ref it) body [] c.env).onRaise (fun x => do noteFrame x c.env; theTreesLotGoes x)) _ _ s
  refine wpAny_onRaise (wpAny_mono (E := Nope) ?_ (fun _ _ x => x) fun _ _ e => e.elim)
  simp only [forTurn]
  refine wpAny_bind (wpAny_standAt (wpAny_bind (wpAny_onRaise (wpAny_mono (nx_tupE (c := c) (E := Nope) (O := fun o σ₁ => o = none ∧ σ₁ = ⟨σ.m, σ.H.del it⟩) e e' hx ⟨rfl, rfl⟩ hh s R) (fun r s₁ h₁ => ?_) fun _ _ e => e.elim))))
  obtain ⟨o, σ₁, ho, R₁, rfl, rfl⟩ := h₁
  cases ho
  exact wpAny_pure ⟨rfl, codeAny_block (wpAny_execs_nil (LEnd.ok (fl := .next) rfl R₁ h))⟩
theorem w_and3 {Qs : V → St → Prop} {x y z : Expr} {pos : Pos} (h : c.Ev E x (fun v σ₁ => c.Tru E v (fun b σ₂ => if b then c.Ev E (.BoolOp .And [y, z] pos) Qs σ₂ else Qs v σ₂) σ₁) σ) : c.Ev E (.BoolOp .And [x, y, z] pos) Qs σ := fun s R => by
  show wpAny _ _ (eval x c.env >>= _) _ _ _
  refine wpAny_bind (wpAny_mono (h s R) (fun v s₁ ⟨b, σ₁, hb, R₁, h₁⟩ => ?_) fun _ _ e => e)
  refine wpAny_bind (wpAny_standAt (wpAny_bind (wpAny_holding (wpAny_mono (h₁ v hb s₁ R₁) (fun t s₂ ⟨t', σ₂, ht, R₂, h₂⟩ => ?_) fun _ _ e => e))))
  cases ht
  cases t with
  | false =>
    simp only [Bool.false_eq_true, if_false] at h₂
    exact wpAny_pure ⟨b, σ₂, hb, R₂, h₂⟩
  | true =>
    simp only [if_true] at h₂
    exact h₂ s₂ R₂
end
end Rk

end
section
set_option tactic.hygienic false
namespace Rk
section
variable {f : Str → Option V} {x1 x2 x3 x4 x5 x6 x7 x8 x9 x10 x11 x12 x13 x14 : Str} {v1 v2 v3 v4 v5 v6 v7 v8 v9 v10 v11 v12 v13 v14 : V} {l : List (Str × V)} {G : Prop}
theorem nmk2 (h1 : f x1 = some v1) (h2 : f x2 = some v2) : Nms f [(x1, v1), (x2, v2)] := ⟨h1, h2, trivial⟩
theorem nel2 (h : Nms f [(x1, v1), (x2, v2)]) (k : f x1 = some v1 → f x2 = some v2 → G) : G := k h.1 h.2.1
theorem nmk3 (h1 : f x1 = some v1) (h2 : f x2 = some v2) (h3 : f x3 = some v3) : Nms f [(x1, v1), (x2, v2), (x3, v3)] := ⟨h1, h2, h3, trivial⟩
theorem nel3 (h : Nms f [(x1, v1), (x2, v2), (x3, v3)]) (k : f x1 = some v1 → f x2 = some v2 → f x3 = some v3 → G) : G := k h.1 h.2.1 h.2.2.1
theorem nmk4 (h1 : f x1 = some v1) (h2 : f x2 = some v2) (h3 : f x3 = some v3) (h4 : f x4 = some v4) : Nms f [(x1, v1), (x2, v2), (x3, v3), (x4, v4)] := ⟨h1, h2, h3, h4, trivial⟩
theorem nel4 (h : Nms f [(x1, v1), (x2, v2), (x3, v3), (x4, v4)]) (k : f x1 = some v1 → f x2 = some v2 → f x3 = some v3 → f x4 = some v4 → G) : G := k h.1 h.2.1 h.2.2.1 h.2.2.2.1
theorem nmk5 (h1 : f x1 = some v1) (h2 : f x2 = some v2) (h3 : f x3 = some v3) (h4 : f x4 = some v4) (h5 : f x5 = some v5) : Nms f [(x1, v1), (x2, v2), (x3, v3), (x4, v4), (x5, v5)] := ⟨h1, h2, h3, h4, h5, trivial⟩
theorem nel5 (h : Nms f [(x1, v1), (x2, v2), (x3, v3), (x4, v4), (x5, v5)]) (k : f x1 = some v1 → f x2 = some v2 → f x3 = some v3 → f x4 = some v4 → f x5 = some v5 → G) : G := k h.1 h.2.1 h.2.2.1 h.2.2.2.1 h.2.2.2.2.1
theorem nmk6 (h1 : f x1 = some v1) (h2 : f x2 = some v2) (h3 : f x3 = some v3) (h4 : f x4 = some v4) (h5 : f x5 = some v5) (h6 : f x6 = some v6) : Nms f [(x1, v1), (x2, v2), (x3, v3), (x4, v4), (x5, v5), (x6, v6)] := ⟨h1, h2, h3, h4, h5, h6, trivial⟩
theorem nel6 (h : Nms f [(x1, v1), (x2, v2), (x3, v3), (x4, v4), (x5, v5), (x6, v6)]) (k : f x1 = some v1 → f x2 = some v2 → f x3 = some v3 → f x4 = some v4 → f x5 = some v5 → f x6 = some v6 → G) : G := k h.1 h.2.1 h.2.2.1 h.2.2.2.1 h.2.2.2.2.1 h.2.2.2.2.2.1
theorem nmk7 (h1 : f x1 = some v1) (h2 : f x2 = some v2) (h3 : f x3 = some v3) (h4 : f x4 = some v4) (h5 : f x5 = some v5) (h6 : f x6 = some v6) (h7 : f x7 = some v7) : Nms f [(x1, v1), (x2, v2), (x3, v3), (x4, v4), (x5, v5), (x6, v6), (x7, v7)] := ⟨h1, h2, h3, h4, h5, h6, h7, trivial⟩
theorem nel7 (h : Nms f [(x1, v1), (x2, v2), (x3, v3), (x4, v4), (x5, v5), (x6, v6), (x7, v7)]) (k : f x1 = some v1 → f x2 = some v2 → f x3 = some v3 → f x4 = some v4 → f x5 = some v5 → f x6 = some v6 → f x7 = some v7 → G) : G := k h.1 h.2.1 h.2.2.1 h.2.2.2.1 h.2.2.2.2.1 h.2.2.2.2.2.1 h.2.2.2.2.2.2.1
theorem nmk8 (h1 : f x1 = some v1) (h2 : f x2 = some v2) (h3 : f x3 = some v3) (h4 : f x4 = some v4) (h5 : f x5 = some v5) (h6 : f x6 = some v6) (h7 : f x7 = some v7) (h8 : f x8 = some v8) : Nms f [(x1, v1), (x2, v2), (x3, v3), (x4, v4), (x5, v5), (x6, v6), (x7, v7), (x8, v8)] := ⟨h1, h2, h3, h4, h5, h6, h7, h8, trivial⟩
theorem nel8 (h : Nms f [(x1, v1), (x2, v2), (x3, v3), (x4, v4), (x5, v5), (x6, v6), (x7, v7), (x8, v8)]) (k : f x1 = some v1 → f x2 = some v2 → f x3 = some v3 → f x4 = some v4 → f x5 = some v5 → f x6 = some v6 → f x7 = some v7 → f x8 = some v8 → G) : G := k h.1 h.2.1 h.2.2.1 h.2.2.2.1 h.2.2.2.2.1 h.2.2.2.2.2.1 h.2.2.2.2.2.2.1 h.2.2.2.2.2.2.2.1
theorem nmk9 (h1 : f x1 = some v1) (h2 : f x2 = some v2) (h3 : f x3 = some v3) (h4 : f x4 = some v4) (h5 : f x5 = some v5) (h6 : f x6 = some v6) (h7 : f x7 = some v7) (h8 : f x8 = some v8) (h9 : f x9 = some v9) : Nms f [(x1, v1), (x2, v2), (x3, v3), (x4, v4), (x5, v5), (x6, v6), (x7, v7), (x8, v8), (x9, v9)] := ⟨h1, h2, h3, h4, h5, h6, h7, h8, h9, trivial⟩
theorem nel9 (h : Nms f [(x1, v1), (x2, v2), (x3, v3), (x4, v4), (x5, v5), (x6, v6), (x7, v7), (x8, v8), (x9, v9)]) (k : f x1 = some v1 → f x2 = some v2 → f x3 = some v3 → f x4 = some v4 → f x5 = some v5 → f x6 = some v6 → f x7 = some v7 → f x8 = some v8 → f x9 = some v9 → G) : G := k h.1 h.2.1 h.2.2.1 h.2.2.2.1 h.2.2.2.2.1 h.2.2.2.2.2.1 h.2.2.2.2.2.2.1 h.2.2.2.2.2.2.2.1 h.2.2.2.2.2.2.2.2.1
theorem nmk10 (h1 : f x1 = some v1) (h2 : f x2 = some v2) (h3 : f x3 = some v3) (h4 : f x4 = some v4) (h5 : f x5 = some v5) (h6 : f x6 = some v6) (h7 : f x7 = some v7) (h8 : f x8 = some v8) (h9 : f x9 = some v9) (h10 : f x10 = some v10) : Nms f [(x1, v1), (x2, v2), (x3, v3), (x4, v4), (x5, v5), (x6, v6), (x7, v7), (x8, v8), (x9, v9), (x10, v10)] := ⟨h1, h2, h3, h4, h5, h6, h7, h8, h9, h10, trivial⟩
theorem nel10 (h : Nms f [(x1, v1), (x2, v2), (x3, v3), (x4, v4), (x5, v5), (x6, v6), (x7, v7), (x8, v8), (x9, v9), (x10, v10)]) (k : f x1 = some v1 → f x2 = some v2 → f x3 = some v3 → f x4 = some v4 → f x5 = some v5 → f x6 = some v6 → f x7 = some v7 → f x8 = some v8 → f x9 = some v9 → f x10 = some v10 → G) : G := k h.1 h.2.1 h.2.2.1 h.2.2.2.1 h.2.2.2.2.1 h.2.2.2.2.2.1 h.2.2.2.2.2.2.1 h.2.2.2.2.2.2.2.1 h.2.2.2.2.2.2.2.2.1 h.2.2.2.2.2.2.2.2.2.1
theorem nel11 (h : Nms f [(x1, v1), (x2, v2), (x3, v3), (x4, v4), (x5, v5), (x6, v6), (x7, v7), (x8, v8), (x9, v9), (x10, v10), (x11, v11)]) (k : f x1 = some v1 → f x2 = some v2 → f x3 = some v3 → f x4 = some v4 → f x5 = some v5 → f x6 = some v6 → f x7 = some v7 → f x8 = some v8 → f x9 = some v9 → f x10 = some v10 → f x11 = some v11 → G) : G := k h.1 h.2.1 h.2.2.1 h.2.2.2.1 h.2.2.2.2.1 h.2.2.2.2.2.1 h.2.2.2.2.2.2.1 h.2.2.2.2.2.2.2.1 h.2.2.2.2.2.2.2.2.1 h.2.2.2.2.2.2.2.2.2.1 h.2.2.2.2.2.2.2.2.2.2.1
theorem nmk12 (h1 : f x1 = some v1) (h2 : f x2 = some v2) (h3 : f x3 = some v3) (h4 : f x4 = some v4) (h5 : f x5 = some v5) (h6 : f x6 = some v6) (h7 : f x7 = some v7) (h8 : f x8 = some v8) (h9 : f x9 = some v9) (h10 : f x10 = some v10) (h11 : f x11 = some v11) (h12 : f x12 = some v12) : Nms f [(x1, v1), (x2, v2), (x3, v3), (x4, v4), (x5, v5), (x6, v6), (x7, v7), (x8, v8), (x9, v9), (x10, v10), (x11, v11), (x12, v12)] := ⟨h1, h2, h3, h4, h5, h6, h7, h8, h9, h10, h11, h12, trivial⟩
theorem nel12 (h : Nms f [(x1, v1), (x2, v2), (x3, v3), (x4, v4), (x5, v5), (x6, v6), (x7, v7), (x8, v8), (x9, v9), (x10, v10), (x11, v11), (x12, v12)]) (k : f x1 = some v1 → f x2 = some v2 → f x3 = some v3 → f x4 = some v4 → f x5 = some v5 → f x6 = some v6 → f x7 = some v7 → f x8 = some v8 → f x9 = some v9 → f x10 = some v10 → f x11 = some v11 → f x12 = some v12 → G) : G := k h.1 h.2.1 h.2.2.1 h.2.2.2.1 h.2.2.2.2.1 h.2.2.2.2.2.1 h.2.2.2.2.2.2.1 h.2.2.2.2.2.2.2.1 h.2.2.2.2.2.2.2.2.1 h.2.2.2.2.2.2.2.2.2.1 h.2.2.2.2.2.2.2.2.2.2.1 h.2.2.2.2.2.2.2.2.2.2.2.1
end
section
variable {c : Cx} {E : Value → Shared → Prop} {U : Fl → St → Prop} {σ : St}
end
theorem lt3o {i : Nat} (h : i < 3) : i = 0 ∨ i = 1 ∨ i = 2 := by omega
theorem inj3 {α : Type} {f : Nat → α} (d1 : f 0 ≠ f 1) (d2 : f 0 ≠ f 2) (d3 : f 1 ≠ f 2) {i j : Nat} (hi : i < 3) (hj : j < 3) (q : f i = f j) : i = j := by
  rcases lt3o hi with rfl | rfl | rfl <;> rcases lt3o hj with rfl | rfl | rfl <;> first | rfl | exact absurd q ‹_› | exact absurd q.symm ‹_›
theorem pw3 {a b c : Int} (h : a ≤ b) (k : b ≤ c) : [a, b, c].Pairwise (· ≤ ·) := by simp; exact ⟨⟨h, Int.le_trans h k⟩, k⟩
theorem mxrg {a b l : Int} (h : 0 ≤ a ∧ a ≤ l) (k : b ≤ l) : 0 ≤ max a b ∧ max a b ≤ l := ⟨Int.le_trans h.1 (Int.le_max_left _ _), Int.max_le.2 ⟨h.2, k⟩⟩
theorem mdu01 {a b c x : Int} (h : a ≤ x) (k : b ≤ x) : max (min a b) (min (max a b) c) ≤ x := Int.max_le.2 ⟨Int.le_trans (Int.min_le_left _ _) h, Int.le_trans (Int.min_le_left _ _) (Int.max_le.2 ⟨h, k⟩)⟩
theorem mdu02 {a b c x : Int} (h : a ≤ x) (k : c ≤ x) : max (min a b) (min (max a b) c) ≤ x := Int.max_le.2 ⟨Int.le_trans (Int.min_le_left _ _) h, Int.le_trans (Int.min_le_right _ _) k⟩
theorem mdu12 {a b c x : Int} (h : b ≤ x) (k : c ≤ x) : max (min a b) (min (max a b) c) ≤ x := Int.max_le.2 ⟨Int.le_trans (Int.min_le_right _ _) h, Int.le_trans (Int.min_le_right _ _) k⟩
theorem mdl01 {a b c x : Int} (h : x ≤ a) (k : x ≤ b) : x ≤ max (min a b) (min (max a b) c) := Int.le_trans (Int.le_min.2 ⟨h, k⟩) (Int.le_max_left _ _)
theorem mdl02 {a b c x : Int} (h : x ≤ a) (k : x ≤ c) : x ≤ max (min a b) (min (max a b) c) := Int.le_trans (Int.le_min.2 ⟨Int.le_trans h (Int.le_max_left _ _), k⟩) (Int.le_max_right _ _)
theorem mdl12 {a b c x : Int} (h : x ≤ b) (k : x ≤ c) : x ≤ max (min a b) (min (max a b) c) := Int.le_trans (Int.le_min.2 ⟨Int.le_trans h (Int.le_max_right _ _), k⟩) (Int.le_max_right _ _)
theorem mx3 {a b c x : Int} (h : x = a ∨ x = b ∨ x = c) (h0 : a ≤ x) (h1 : b ≤ x) (h2 : c ≤ x) : x = max (max a b) c :=
  Int.le_antisymm (h.elim (fun e => e ▸ Int.le_trans (Int.le_max_left _ _) (Int.le_max_left _ _)) fun h => h.elim (fun e => e ▸ Int.le_trans (Int.le_max_right _ _) (Int.le_max_left _ _)) fun e => e ▸ Int.le_max_right _ _) (Int.max_le.2 ⟨Int.max_le.2 ⟨h0, h1⟩, h2⟩)
set_option synthInstance.maxHeartbeats 200000 in
set_option synthInstance.maxSize 2000 in
theorem two_more {i j m v : Nat} (hi : i < 3) (hj : j < 3) (hm : m < 3) (hv : v < 3) (h1 : i ≠ m) (h2 : i ≠ v) (h3 : m ≠ v) (h4 : i ≠ j) : j = m ∨ j = v :=
  (by decide : ∀ i, i < 3 → ∀ j, j < 3 → ∀ m, m < 3 → ∀ v, v < 3 → i ≠ m → i ≠ v → m ≠ v → i ≠ j → j = m ∨ j = v) i hi j hj m hm v hv h1 h2 h3 h4
theorem md3a : ∀ m, m < 3 → (m + 1) % 3 < 3 ∧ (m + 1) % 3 ≠ m ∧ (m + 2) % 3 < 3 ∧ (m + 2) % 3 ≠ m := by decide
theorem md3b : ∀ m, m < 3 → ∀ i, i < 3 → i = m ∨ i = (m + 1) % 3 ∨ i = (m + 2) % 3 := by decide
theorem hlp {m j : Nat} (hm : m < 3) (hj : j = (m + 1) % 3 ∨ j = (m + 2) % 3) : j < 3 ∧ j ≠ m := by
  rcases hj with rfl | rfl
  · exact ⟨(md3a m hm).1, (md3a m hm).2.1⟩
  · exact (md3a m hm).2.2
end Rk

end
section
namespace Rk
noncomputable def IsD (D : Wd) : Prop := D.K = Rk.KK D.w.params
theorem IsD.k {D : Wd} (h : IsD D) : D.K = Rk.KK D.w.params := h
section
variable {D : Wd} {c : Cx} {E : Value → Shared → Prop} {σ : St} {a : Addr} {Q : V → St → Prop} {N : Unit → St → Prop} {P : Value → List V → St → Prop} {pos : Pos} {b : V}
theorem IsD.up {F : Frag → Prop} (h : IsD D) (p : F (Rk.KK D.w.params)) : F D.K := h.symm ▸ p
theorem meG {C f : Addr} {fs : List (Str × V)} {n : Str} (hD : IsD c.D) (L : Plain c.D.K C) (e : σ.H a = some (.inst C fs)) (hf : findIn (Rk.KK c.D.w.params) (.ref C) n = some (some (.ref f))) (ht : isFn (Rk.KK c.D.w.params) (.ref f) = true) (hn : fget n fs = none) (h : P (.ref f) [.ref a] σ) : c.Meth E (.ref a) n P σ :=
  m_inst e L (hD.up (F := fun K => findIn K (.ref C) n = some (some (.ref f))) hf) (hD.up (F := fun K => isFn K (.ref f) = true) ht) hn h
theorem nwG {C f : Addr} {as : List V} {d : Nat} {m : Str → Option V} {H : Hp} (hD : IsD c.D) (L : Plain c.D.K C) (hf : findIn (Rk.KK c.D.w.params) (.ref C) "__init__" = some (some (.ref f))) (ht : isFn (Rk.KK c.D.w.params) (.ref f) = true) (r : c.Room (d + 1)) (h : ∀ n, H n = none → Fn c.D d f (.ref n :: as) (fun v H' => v = .none ∧ Q (.ref n) ⟨m, H'⟩) (H.set n (.inst C []))) : c.Call E (.ref C) as Q ⟨m, H⟩ :=
  c_newG L (hD.up (F := fun K => findIn K (.ref C) "__init__" = some (some (.ref f))) hf) (hD.up (F := fun K => isFn K (.ref f) = true) ht) r h
theorem glG {x : Str} {u : Value} {v : V} (hD : IsD c.D) (e : nsIn (Rk.KK c.D.w.params) mainGlobals x = some (some u)) (hv : VRel v u) (hk : c.env.kindOf x = some .globalImplicit) (h : Q v σ) (hd : (x == ("__debug__" : Str)) = false) : c.Ev E (.Name x pos) Q σ :=
  w_glob (hD.up (F := fun K => nsIn K mainGlobals x = some (some u)) e) hv hk h hd
theorem gbG {x : Str} {u : Value} (hD : IsD c.D) (e : nsIn (Rk.KK c.D.w.params) mainGlobals x = some none) (hv : bootBuiltins x = some u) (hn : x ≠ "__name__") (hk : c.env.kindOf x = some .globalImplicit) (h : Q (.raw u) σ) (hd : (x == ("__debug__" : Str)) = false) : c.Ev E (.Name x pos) Q σ :=
  w_blt (hD.up (F := fun K => nsIn K mainGlobals x = some none) e) hv hn hk h hd
noncomputable abbrev EntryFs (v0 v1 v2 v3 : V) : List (Str × V) := [("term", v0), ("index", v1), ("kind", v2), ("data", v3)]
noncomputable abbrev C_Entry : Addr := 189
theorem plain_Entry (hD : IsD D) : Plain D.K 189 := hD.up (F := fun K => Plain K 189) ⟨by k_is, by k_is, by k_is, by k_is, by k_is, by k_is⟩
theorem pi_Entry_term (hD : IsD c.D) (e : σ.H a = some (.inst 189 [])) (h : N () (σ.set a (.inst 189 [("term", b)]))) : c.Put E (.ref a) "term" b N σ := put_field e (plain_Entry hD) (hD.up (F := fun K => findIn K (.ref 189) "term" = some none) (by k_is)) (Nat.le_of_ble_eq_true rfl) h
theorem pi_Entry_index {v0 : V} (hD : IsD c.D) (e : σ.H a = some (.inst 189 [("term", v0)])) (h : N () (σ.set a (.inst 189 [("term", v0), ("index", b)]))) : c.Put E (.ref a) "index" b N σ := put_field e (plain_Entry hD) (hD.up (F := fun K => findIn K (.ref 189) "index" = some none) (by k_is)) (Nat.le_of_ble_eq_true rfl) h
theorem pi_Entry_kind {v0 v1 : V} (hD : IsD c.D) (e : σ.H a = some (.inst 189 [("term", v0), ("index", v1)])) (h : N () (σ.set a (.inst 189 [("term", v0), ("index", v1), ("kind", b)]))) : c.Put E (.ref a) "kind" b N σ := put_field e (plain_Entry hD) (hD.up (F := fun K => findIn K (.ref 189) "kind" = some none) (by k_is)) (Nat.le_of_ble_eq_true rfl) h
theorem pi_Entry_data {v0 v1 v2 : V} (hD : IsD c.D) (e : σ.H a = some (.inst 189 [("term", v0), ("index", v1), ("kind", v2)])) (h : N () (σ.set a (.inst 189 [("term", v0), ("index", v1), ("kind", v2), ("data", b)]))) : c.Put E (.ref a) "data" b N σ := put_field e (plain_Entry hD) (hD.up (F := fun K => findIn K (.ref 189) "data" = some none) (by k_is)) (Nat.le_of_ble_eq_true rfl) h
theorem nw_Entry {as : List V} {d : Nat} {m : Str → Option V} {H : Hp} (hD : IsD c.D) (r : c.Room (d + 1)) (h : ∀ n, H n = none → Fn c.D d 158 (.ref n :: as) (fun v H' => v = .none ∧ Q (.ref n) ⟨m, H'⟩) (H.set n (.inst 189 []))) : c.Call E (.ref 189) as Q ⟨m, H⟩ := nwG hD (plain_Entry hD) (by k_is) (by k_is) r h
noncomputable abbrev HardStateFs (v0 v1 v2 : V) : List (Str × V) := [("term", v0), ("vote", v1), ("commit", v2)]
noncomputable abbrev C_HardState : Addr := 245
theorem plain_HardState (hD : IsD D) : Plain D.K 245 := hD.up (F := fun K => Plain K 245) ⟨by k_is, by k_is, by k_is, by k_is, by k_is, by k_is⟩
theorem pi_HardState_term (hD : IsD c.D) (e : σ.H a = some (.inst 245 [])) (h : N () (σ.set a (.inst 245 [("term", b)]))) : c.Put E (.ref a) "term" b N σ := put_field e (plain_HardState hD) (hD.up (F := fun K => findIn K (.ref 245) "term" = some none) (by k_is)) (Nat.le_of_ble_eq_true rfl) h
theorem pi_HardState_vote {v0 : V} (hD : IsD c.D) (e : σ.H a = some (.inst 245 [("term", v0)])) (h : N () (σ.set a (.inst 245 [("term", v0), ("vote", b)]))) : c.Put E (.ref a) "vote" b N σ := put_field e (plain_HardState hD) (hD.up (F := fun K => findIn K (.ref 245) "vote" = some none) (by k_is)) (Nat.le_of_ble_eq_true rfl) h
theorem pi_HardState_commit {v0 v1 : V} (hD : IsD c.D) (e : σ.H a = some (.inst 245 [("term", v0), ("vote", v1)])) (h : N () (σ.set a (.inst 245 [("term", v0), ("vote", v1), ("commit", b)]))) : c.Put E (.ref a) "commit" b N σ := put_field e (plain_HardState hD) (hD.up (F := fun K => findIn K (.ref 245) "commit" = some none) (by k_is)) (Nat.le_of_ble_eq_true rfl) h
theorem nw_HardState {as : List V} {d : Nat} {m : Str → Option V} {H : Hp} (hD : IsD c.D) (r : c.Room (d + 1)) (h : ∀ n, H n = none → Fn c.D d 214 (.ref n :: as) (fun v H' => v = .none ∧ Q (.ref n) ⟨m, H'⟩) (H.set n (.inst 245 []))) : c.Call E (.ref 245) as Q ⟨m, H⟩ := nwG hD (plain_HardState hD) (by k_is) (by k_is) r h
noncomputable abbrev ConfStateFs (v0 v1 v2 v3 v4 : V) : List (Str × V) := [("voters", v0), ("learners", v1), ("outgoing", v2), ("learners_next", v3), ("auto_leave", v4)]
noncomputable abbrev C_ConfState : Addr := 280
theorem plain_ConfState (hD : IsD D) : Plain D.K 280 := hD.up (F := fun K => Plain K 280) ⟨by k_is, by k_is, by k_is, by k_is, by k_is, by k_is⟩
theorem pi_ConfState_voters (hD : IsD c.D) (e : σ.H a = some (.inst 280 [])) (h : N () (σ.set a (.inst 280 [("voters", b)]))) : c.Put E (.ref a) "voters" b N σ := put_field e (plain_ConfState hD) (hD.up (F := fun K => findIn K (.ref 280) "voters" = some none) (by k_is)) (Nat.le_of_ble_eq_true rfl) h
theorem pi_ConfState_learners {v0 : V} (hD : IsD c.D) (e : σ.H a = some (.inst 280 [("voters", v0)])) (h : N () (σ.set a (.inst 280 [("voters", v0), ("learners", b)]))) : c.Put E (.ref a) "learners" b N σ := put_field e (plain_ConfState hD) (hD.up (F := fun K => findIn K (.ref 280) "learners" = some none) (by k_is)) (Nat.le_of_ble_eq_true rfl) h
theorem pi_ConfState_outgoing {v0 v1 : V} (hD : IsD c.D) (e : σ.H a = some (.inst 280 [("voters", v0), ("learners", v1)])) (h : N () (σ.set a (.inst 280 [("voters", v0), ("learners", v1), ("outgoing", b)]))) : c.Put E (.ref a) "outgoing" b N σ := put_field e (plain_ConfState hD) (hD.up (F := fun K => findIn K (.ref 280) "outgoing" = some none) (by k_is)) (Nat.le_of_ble_eq_true rfl) h
theorem pi_ConfState_learners_next {v0 v1 v2 : V} (hD : IsD c.D) (e : σ.H a = some (.inst 280 [("voters", v0), ("learners", v1), ("outgoing", v2)])) (h : N () (σ.set a (.inst 280 [("voters", v0), ("learners", v1), ("outgoing", v2), ("learners_next", b)]))) : c.Put E (.ref a) "learners_next" b N σ := put_field e (plain_ConfState hD) (hD.up (F := fun K => findIn K (.ref 280) "learners_next" = some none) (by k_is)) (Nat.le_of_ble_eq_true rfl) h
theorem pi_ConfState_auto_leave {v0 v1 v2 v3 : V} (hD : IsD c.D) (e : σ.H a = some (.inst 280 [("voters", v0), ("learners", v1), ("outgoing", v2), ("learners_next", v3)])) (h : N () (σ.set a (.inst 280 [("voters", v0), ("learners", v1), ("outgoing", v2), ("learners_next", v3), ("auto_leave", b)]))) : c.Put E (.ref a) "auto_leave" b N σ := put_field e (plain_ConfState hD) (hD.up (F := fun K => findIn K (.ref 280) "auto_leave" = some none) (by k_is)) (Nat.le_of_ble_eq_true rfl) h
theorem nw_ConfState {as : List V} {d : Nat} {m : Str → Option V} {H : Hp} (hD : IsD c.D) (r : c.Room (d + 1)) (h : ∀ n, H n = none → Fn c.D d 263 (.ref n :: as) (fun v H' => v = .none ∧ Q (.ref n) ⟨m, H'⟩) (H.set n (.inst 280 []))) : c.Call E (.ref 280) as Q ⟨m, H⟩ := nwG hD (plain_ConfState hD) (by k_is) (by k_is) r h
noncomputable abbrev SnapshotFs (v0 v1 v2 v3 : V) : List (Str × V) := [("index", v0), ("term", v1), ("conf", v2), ("data", v3)]
noncomputable abbrev C_Snapshot : Addr := 322
theorem plain_Snapshot (hD : IsD D) : Plain D.K 322 := hD.up (F := fun K => Plain K 322) ⟨by k_is, by k_is, by k_is, by k_is, by k_is, by k_is⟩
theorem pi_Snapshot_index (hD : IsD c.D) (e : σ.H a = some (.inst 322 [])) (h : N () (σ.set a (.inst 322 [("index", b)]))) : c.Put E (.ref a) "index" b N σ := put_field e (plain_Snapshot hD) (hD.up (F := fun K => findIn K (.ref 322) "index" = some none) (by k_is)) (Nat.le_of_ble_eq_true rfl) h
theorem pi_Snapshot_term {v0 : V} (hD : IsD c.D) (e : σ.H a = some (.inst 322 [("index", v0)])) (h : N () (σ.set a (.inst 322 [("index", v0), ("term", b)]))) : c.Put E (.ref a) "term" b N σ := put_field e (plain_Snapshot hD) (hD.up (F := fun K => findIn K (.ref 322) "term" = some none) (by k_is)) (Nat.le_of_ble_eq_true rfl) h
theorem pi_Snapshot_conf {v0 v1 : V} (hD : IsD c.D) (e : σ.H a = some (.inst 322 [("index", v0), ("term", v1)])) (h : N () (σ.set a (.inst 322 [("index", v0), ("term", v1), ("conf", b)]))) : c.Put E (.ref a) "conf" b N σ := put_field e (plain_Snapshot hD) (hD.up (F := fun K => findIn K (.ref 322) "conf" = some none) (by k_is)) (Nat.le_of_ble_eq_true rfl) h
theorem pi_Snapshot_data {v0 v1 v2 : V} (hD : IsD c.D) (e : σ.H a = some (.inst 322 [("index", v0), ("term", v1), ("conf", v2)])) (h : N () (σ.set a (.inst 322 [("index", v0), ("term", v1), ("conf", v2), ("data", b)]))) : c.Put E (.ref a) "data" b N σ := put_field e (plain_Snapshot hD) (hD.up (F := fun K => findIn K (.ref 322) "data" = some none) (by k_is)) (Nat.le_of_ble_eq_true rfl) h
theorem nw_Snapshot {as : List V} {d : Nat} {m : Str → Option V} {H : Hp} (hD : IsD c.D) (r : c.Room (d + 1)) (h : ∀ n, H n = none → Fn c.D d 298 (.ref n :: as) (fun v H' => v = .none ∧ Q (.ref n) ⟨m, H'⟩) (H.set n (.inst 322 []))) : c.Call E (.ref 322) as Q ⟨m, H⟩ := nwG hD (plain_Snapshot hD) (by k_is) (by k_is) r h
noncomputable abbrev MemoryStorageFs (v0 v1 v2 v3 v4 v5 : V) : List (Str × V) := [("hard", v0), ("conf", v1), ("snap", v2), ("base_index", v3), ("base_term", v4), ("entries", v5)]
noncomputable abbrev C_MemoryStorage : Addr := 427
theorem plain_MemoryStorage (hD : IsD D) : Plain D.K 427 := hD.up (F := fun K => Plain K 427) ⟨by k_is, by k_is, by k_is, by k_is, by k_is, by k_is⟩
theorem pi_MemoryStorage_hard (hD : IsD c.D) (e : σ.H a = some (.inst 427 [])) (h : N () (σ.set a (.inst 427 [("hard", b)]))) : c.Put E (.ref a) "hard" b N σ := put_field e (plain_MemoryStorage hD) (hD.up (F := fun K => findIn K (.ref 427) "hard" = some none) (by k_is)) (Nat.le_of_ble_eq_true rfl) h
theorem pi_MemoryStorage_conf {v0 : V} (hD : IsD c.D) (e : σ.H a = some (.inst 427 [("hard", v0)])) (h : N () (σ.set a (.inst 427 [("hard", v0), ("conf", b)]))) : c.Put E (.ref a) "conf" b N σ := put_field e (plain_MemoryStorage hD) (hD.up (F := fun K => findIn K (.ref 427) "conf" = some none) (by k_is)) (Nat.le_of_ble_eq_true rfl) h
theorem pi_MemoryStorage_snap {v0 v1 : V} (hD : IsD c.D) (e : σ.H a = some (.inst 427 [("hard", v0), ("conf", v1)])) (h : N () (σ.set a (.inst 427 [("hard", v0), ("conf", v1), ("snap", b)]))) : c.Put E (.ref a) "snap" b N σ := put_field e (plain_MemoryStorage hD) (hD.up (F := fun K => findIn K (.ref 427) "snap" = some none) (by k_is)) (Nat.le_of_ble_eq_true rfl) h
theorem pi_MemoryStorage_base_index {v0 v1 v2 : V} (hD : IsD c.D) (e : σ.H a = some (.inst 427 [("hard", v0), ("conf", v1), ("snap", v2)])) (h : N () (σ.set a (.inst 427 [("hard", v0), ("conf", v1), ("snap", v2), ("base_index", b)]))) : c.Put E (.ref a) "base_index" b N σ := put_field e (plain_MemoryStorage hD) (hD.up (F := fun K => findIn K (.ref 427) "base_index" = some none) (by k_is)) (Nat.le_of_ble_eq_true rfl) h
theorem pi_MemoryStorage_base_term {v0 v1 v2 v3 : V} (hD : IsD c.D) (e : σ.H a = some (.inst 427 [("hard", v0), ("conf", v1), ("snap", v2), ("base_index", v3)])) (h : N () (σ.set a (.inst 427 [("hard", v0), ("conf", v1), ("snap", v2), ("base_index", v3), ("base_term", b)]))) : c.Put E (.ref a) "base_term" b N σ := put_field e (plain_MemoryStorage hD) (hD.up (F := fun K => findIn K (.ref 427) "base_term" = some none) (by k_is)) (Nat.le_of_ble_eq_true rfl) h
theorem pi_MemoryStorage_entries {v0 v1 v2 v3 v4 : V} (hD : IsD c.D) (e : σ.H a = some (.inst 427 [("hard", v0), ("conf", v1), ("snap", v2), ("base_index", v3), ("base_term", v4)])) (h : N () (σ.set a (.inst 427 [("hard", v0), ("conf", v1), ("snap", v2), ("base_index", v3), ("base_term", v4), ("entries", b)]))) : c.Put E (.ref a) "entries" b N σ := put_field e (plain_MemoryStorage hD) (hD.up (F := fun K => findIn K (.ref 427) "entries" = some none) (by k_is)) (Nat.le_of_ble_eq_true rfl) h
theorem nw_MemoryStorage {as : List V} {d : Nat} {m : Str → Option V} {H : Hp} (hD : IsD c.D) (r : c.Room (d + 1)) (h : ∀ n, H n = none → Fn c.D d 340 (.ref n :: as) (fun v H' => v = .none ∧ Q (.ref n) ⟨m, H'⟩) (H.set n (.inst 427 []))) : c.Call E (.ref 427) as Q ⟨m, H⟩ := nwG hD (plain_MemoryStorage hD) (by k_is) (by k_is) r h
theorem me_MemoryStorage_first_index {v0 v1 v2 v3 v4 v5 : V} (hD : IsD c.D) (e : σ.H a = some (.inst 427 (MemoryStorageFs v0 v1 v2 v3 v4 v5))) (h : P (.ref 354) [.ref a] σ) : c.Meth E (.ref a) "first_index" P σ := meG hD (plain_MemoryStorage hD) e (by k_is) (by k_is) rfl h
theorem me_MemoryStorage_last_index {v0 v1 v2 v3 v4 v5 : V} (hD : IsD c.D) (e : σ.H a = some (.inst 427 (MemoryStorageFs v0 v1 v2 v3 v4 v5))) (h : P (.ref 361) [.ref a] σ) : c.Meth E (.ref a) "last_index" P σ := meG hD (plain_MemoryStorage hD) e (by k_is) (by k_is) rfl h
theorem me_MemoryStorage_term_at {v0 v1 v2 v3 v4 v5 : V} (hD : IsD c.D) (e : σ.H a = some (.inst 427 (MemoryStorageFs v0 v1 v2 v3 v4 v5))) (h : P (.ref 375) [.ref a] σ) : c.Meth E (.ref a) "term_at" P σ := meG hD (plain_MemoryStorage hD) e (by k_is) (by k_is) rfl h
noncomputable abbrev UnstableFs (v0 v1 v2 : V) : List (Str × V) := [("snapshot", v0), ("entries", v1), ("offset", v2)]
noncomputable abbrev C_Unstable : Addr := 511
theorem plain_Unstable (hD : IsD D) : Plain D.K 511 := hD.up (F := fun K => Plain K 511) ⟨by k_is, by k_is, by k_is, by k_is, by k_is, by k_is⟩
theorem pi_Unstable_snapshot (hD : IsD c.D) (e : σ.H a = some (.inst 511 [])) (h : N () (σ.set a (.inst 511 [("snapshot", b)]))) : c.Put E (.ref a) "snapshot" b N σ := put_field e (plain_Unstable hD) (hD.up (F := fun K => findIn K (.ref 511) "snapshot" = some none) (by k_is)) (Nat.le_of_ble_eq_true rfl) h
theorem pf_Unstable_entries {v0 v1 v2 : V} (hD : IsD c.D) (e : σ.H a = some (.inst 511 (UnstableFs v0 v1 v2))) (h : N () (σ.set a (.inst 511 (UnstableFs v0 b v2)))) : c.Put E (.ref a) "entries" b N σ := put_field e (plain_Unstable hD) (hD.up (F := fun K => findIn K (.ref 511) "entries" = some none) (by k_is)) (Nat.le_of_ble_eq_true rfl) h
theorem pi_Unstable_entries {v0 : V} (hD : IsD c.D) (e : σ.H a = some (.inst 511 [("snapshot", v0)])) (h : N () (σ.set a (.inst 511 [("snapshot", v0), ("entries", b)]))) : c.Put E (.ref a) "entries" b N σ := put_field e (plain_Unstable hD) (hD.up (F := fun K => findIn K (.ref 511) "entries" = some none) (by k_is)) (Nat.le_of_ble_eq_true rfl) h
theorem pf_Unstable_offset {v0 v1 v2 : V} (hD : IsD c.D) (e : σ.H a = some (.inst 511 (UnstableFs v0 v1 v2))) (h : N () (σ.set a (.inst 511 (UnstableFs v0 v1 b)))) : c.Put E (.ref a) "offset" b N σ := put_field e (plain_Unstable hD) (hD.up (F := fun K => findIn K (.ref 511) "offset" = some none) (by k_is)) (Nat.le_of_ble_eq_true rfl) h
theorem pi_Unstable_offset {v0 v1 : V} (hD : IsD c.D) (e : σ.H a = some (.inst 511 [("snapshot", v0), ("entries", v1)])) (h : N () (σ.set a (.inst 511 [("snapshot", v0), ("entries", v1), ("offset", b)]))) : c.Put E (.ref a) "offset" b N σ := put_field e (plain_Unstable hD) (hD.up (F := fun K => findIn K (.ref 511) "offset" = some none) (by k_is)) (Nat.le_of_ble_eq_true rfl) h
theorem nw_Unstable {as : List V} {d : Nat} {m : Str → Option V} {H : Hp} (hD : IsD c.D) (r : c.Room (d + 1)) (h : ∀ n, H n = none → Fn c.D d 445 (.ref n :: as) (fun v H' => v = .none ∧ Q (.ref n) ⟨m, H'⟩) (H.set n (.inst 511 []))) : c.Call E (.ref 511) as Q ⟨m, H⟩ := nwG hD (plain_Unstable hD) (by k_is) (by k_is) r h
theorem me_Unstable_maybe_first {v0 v1 v2 : V} (hD : IsD c.D) (e : σ.H a = some (.inst 511 (UnstableFs v0 v1 v2))) (h : P (.ref 452) [.ref a] σ) : c.Meth E (.ref a) "maybe_first" P σ := meG hD (plain_Unstable hD) e (by k_is) (by k_is) rfl h
theorem me_Unstable_maybe_last {v0 v1 v2 : V} (hD : IsD c.D) (e : σ.H a = some (.inst 511 (UnstableFs v0 v1 v2))) (h : P (.ref 459) [.ref a] σ) : c.Meth E (.ref a) "maybe_last" P σ := meG hD (plain_Unstable hD) e (by k_is) (by k_is) rfl h
theorem me_Unstable_maybe_term {v0 v1 v2 : V} (hD : IsD c.D) (e : σ.H a = some (.inst 511 (UnstableFs v0 v1 v2))) (h : P (.ref 466) [.ref a] σ) : c.Meth E (.ref a) "maybe_term" P σ := meG hD (plain_Unstable hD) e (by k_is) (by k_is) rfl h
theorem me_Unstable_truncate_and_append {v0 v1 v2 : V} (hD : IsD c.D) (e : σ.H a = some (.inst 511 (UnstableFs v0 v1 v2))) (h : P (.ref 494) [.ref a] σ) : c.Meth E (.ref a) "truncate_and_append" P σ := meG hD (plain_Unstable hD) e (by k_is) (by k_is) rfl h
theorem me_Unstable_part {v0 v1 v2 : V} (hD : IsD c.D) (e : σ.H a = some (.inst 511 (UnstableFs v0 v1 v2))) (h : P (.ref 501) [.ref a] σ) : c.Meth E (.ref a) "part" P σ := meG hD (plain_Unstable hD) e (by k_is) (by k_is) rfl h
noncomputable abbrev RaftLogFs (v0 v1 v2 v3 v4 : V) : List (Str × V) := [("storage", v0), ("max_committed", v1), ("unstable", v2), ("committed", v3), ("applied", v4)]
noncomputable abbrev C_RaftLog : Addr := 721
theorem plain_RaftLog (hD : IsD D) : Plain D.K 721 := hD.up (F := fun K => Plain K 721) ⟨by k_is, by k_is, by k_is, by k_is, by k_is, by k_is⟩
theorem pi_RaftLog_storage (hD : IsD c.D) (e : σ.H a = some (.inst 721 [])) (h : N () (σ.set a (.inst 721 [("storage", b)]))) : c.Put E (.ref a) "storage" b N σ := put_field e (plain_RaftLog hD) (hD.up (F := fun K => findIn K (.ref 721) "storage" = some none) (by k_is)) (Nat.le_of_ble_eq_true rfl) h
theorem pi_RaftLog_max_committed {v0 : V} (hD : IsD c.D) (e : σ.H a = some (.inst 721 [("storage", v0)])) (h : N () (σ.set a (.inst 721 [("storage", v0), ("max_committed", b)]))) : c.Put E (.ref a) "max_committed" b N σ := put_field e (plain_RaftLog hD) (hD.up (F := fun K => findIn K (.ref 721) "max_committed" = some none) (by k_is)) (Nat.le_of_ble_eq_true rfl) h
theorem pi_RaftLog_unstable {v0 v1 : V} (hD : IsD c.D) (e : σ.H a = some (.inst 721 [("storage", v0), ("max_committed", v1)])) (h : N () (σ.set a (.inst 721 [("storage", v0), ("max_committed", v1), ("unstable", b)]))) : c.Put E (.ref a) "unstable" b N σ := put_field e (plain_RaftLog hD) (hD.up (F := fun K => findIn K (.ref 721) "unstable" = some none) (by k_is)) (Nat.le_of_ble_eq_true rfl) h
theorem pf_RaftLog_committed {v0 v1 v2 v3 v4 : V} (hD : IsD c.D) (e : σ.H a = some (.inst 721 (RaftLogFs v0 v1 v2 v3 v4))) (h : N () (σ.set a (.inst 721 (RaftLogFs v0 v1 v2 b v4)))) : c.Put E (.ref a) "committed" b N σ := put_field e (plain_RaftLog hD) (hD.up (F := fun K => findIn K (.ref 721) "committed" = some none) (by k_is)) (Nat.le_of_ble_eq_true rfl) h
theorem pi_RaftLog_committed {v0 v1 v2 : V} (hD : IsD c.D) (e : σ.H a = some (.inst 721 [("storage", v0), ("max_committed", v1), ("unstable", v2)])) (h : N () (σ.set a (.inst 721 [("storage", v0), ("max_committed", v1), ("unstable", v2), ("committed", b)]))) : c.Put E (.ref a) "committed" b N σ := put_field e (plain_RaftLog hD) (hD.up (F := fun K => findIn K (.ref 721) "committed" = some none) (by k_is)) (Nat.le_of_ble_eq_true rfl) h
theorem pi_RaftLog_applied {v0 v1 v2 v3 : V} (hD : IsD c.D) (e : σ.H a = some (.inst 721 [("storage", v0), ("max_committed", v1), ("unstable", v2), ("committed", v3)])) (h : N () (σ.set a (.inst 721 [("storage", v0), ("max_committed", v1), ("unstable", v2), ("committed", v3), ("applied", b)]))) : c.Put E (.ref a) "applied" b N σ := put_field e (plain_RaftLog hD) (hD.up (F := fun K => findIn K (.ref 721) "applied" = some none) (by k_is)) (Nat.le_of_ble_eq_true rfl) h
theorem nw_RaftLog {as : List V} {d : Nat} {m : Str → Option V} {H : Hp} (hD : IsD c.D) (r : c.Room (d + 1)) (h : ∀ n, H n = none → Fn c.D d 529 (.ref n :: as) (fun v H' => v = .none ∧ Q (.ref n) ⟨m, H'⟩) (H.set n (.inst 721 []))) : c.Call E (.ref 721) as Q ⟨m, H⟩ := nwG hD (plain_RaftLog hD) (by k_is) (by k_is) r h
theorem me_RaftLog_first_index {v0 v1 v2 v3 v4 : V} (hD : IsD c.D) (e : σ.H a = some (.inst 721 (RaftLogFs v0 v1 v2 v3 v4))) (h : P (.ref 536) [.ref a] σ) : c.Meth E (.ref a) "first_index" P σ := meG hD (plain_RaftLog hD) e (by k_is) (by k_is) rfl h
theorem me_RaftLog_last_index {v0 v1 v2 v3 v4 : V} (hD : IsD c.D) (e : σ.H a = some (.inst 721 (RaftLogFs v0 v1 v2 v3 v4))) (h : P (.ref 543) [.ref a] σ) : c.Meth E (.ref a) "last_index" P σ := meG hD (plain_RaftLog hD) e (by k_is) (by k_is) rfl h
theorem me_RaftLog_last_term {v0 v1 v2 v3 v4 : V} (hD : IsD c.D) (e : σ.H a = some (.inst 721 (RaftLogFs v0 v1 v2 v3 v4))) (h : P (.ref 550) [.ref a] σ) : c.Meth E (.ref a) "last_term" P σ := meG hD (plain_RaftLog hD) e (by k_is) (by k_is) rfl h
theorem me_RaftLog_term {v0 v1 v2 v3 v4 : V} (hD : IsD c.D) (e : σ.H a = some (.inst 721 (RaftLogFs v0 v1 v2 v3 v4))) (h : P (.ref 557) [.ref a] σ) : c.Meth E (.ref a) "term" P σ := meG hD (plain_RaftLog hD) e (by k_is) (by k_is) rfl h
theorem me_RaftLog_term_or_zero {v0 v1 v2 v3 v4 : V} (hD : IsD c.D) (e : σ.H a = some (.inst 721 (RaftLogFs v0 v1 v2 v3 v4))) (h : P (.ref 564) [.ref a] σ) : c.Meth E (.ref a) "term_or_zero" P σ := meG hD (plain_RaftLog hD) e (by k_is) (by k_is) rfl h
theorem me_RaftLog_match_term {v0 v1 v2 v3 v4 : V} (hD : IsD c.D) (e : σ.H a = some (.inst 721 (RaftLogFs v0 v1 v2 v3 v4))) (h : P (.ref 571) [.ref a] σ) : c.Meth E (.ref a) "match_term" P σ := meG hD (plain_RaftLog hD) e (by k_is) (by k_is) rfl h
theorem me_RaftLog_up_to_date {v0 v1 v2 v3 v4 : V} (hD : IsD c.D) (e : σ.H a = some (.inst 721 (RaftLogFs v0 v1 v2 v3 v4))) (h : P (.ref 578) [.ref a] σ) : c.Meth E (.ref a) "up_to_date" P σ := meG hD (plain_RaftLog hD) e (by k_is) (by k_is) rfl h
theorem me_RaftLog_maybe_append {v0 v1 v2 v3 v4 : V} (hD : IsD c.D) (e : σ.H a = some (.inst 721 (RaftLogFs v0 v1 v2 v3 v4))) (h : P (.ref 585) [.ref a] σ) : c.Meth E (.ref a) "maybe_append" P σ := meG hD (plain_RaftLog hD) e (by k_is) (by k_is) rfl h
theorem me_RaftLog_append {v0 v1 v2 v3 v4 : V} (hD : IsD c.D) (e : σ.H a = some (.inst 721 (RaftLogFs v0 v1 v2 v3 v4))) (h : P (.ref 592) [.ref a] σ) : c.Meth E (.ref a) "append" P σ := meG hD (plain_RaftLog hD) e (by k_is) (by k_is) rfl h
theorem me_RaftLog_find_conflict {v0 v1 v2 v3 v4 : V} (hD : IsD c.D) (e : σ.H a = some (.inst 721 (RaftLogFs v0 v1 v2 v3 v4))) (h : P (.ref 599) [.ref a] σ) : c.Meth E (.ref a) "find_conflict" P σ := meG hD (plain_RaftLog hD) e (by k_is) (by k_is) rfl h
theorem me_RaftLog_commit_to {v0 v1 v2 v3 v4 : V} (hD : IsD c.D) (e : σ.H a = some (.inst 721 (RaftLogFs v0 v1 v2 v3 v4))) (h : P (.ref 620) [.ref a] σ) : c.Meth E (.ref a) "commit_to" P σ := meG hD (plain_RaftLog hD) e (by k_is) (by k_is) rfl h
theorem me_RaftLog_maybe_commit {v0 v1 v2 v3 v4 : V} (hD : IsD c.D) (e : σ.H a = some (.inst 721 (RaftLogFs v0 v1 v2 v3 v4))) (h : P (.ref 627) [.ref a] σ) : c.Meth E (.ref a) "maybe_commit" P σ := meG hD (plain_RaftLog hD) e (by k_is) (by k_is) rfl h
theorem me_RaftLog_unstable_entries {v0 v1 v2 v3 v4 : V} (hD : IsD c.D) (e : σ.H a = some (.inst 721 (RaftLogFs v0 v1 v2 v3 v4))) (h : P (.ref 655) [.ref a] σ) : c.Meth E (.ref a) "unstable_entries" P σ := meG hD (plain_RaftLog hD) e (by k_is) (by k_is) rfl h
theorem gl_NO_LIMIT (hD : IsD c.D) (hk : c.env.kindOf "NO_LIMIT" = some .globalImplicit) (h : Q (.int 18446744073709551615) σ) : c.Ev E (.Name "NO_LIMIT" pos) Q σ := glG hD (u := .int 18446744073709551615 360) (v := .int 18446744073709551615) (by k_is) ⟨_, rfl⟩ hk h rfl
theorem gl_ENTRY_NORMAL (hD : IsD c.D) (hk : c.env.kindOf "ENTRY_NORMAL" = some .globalImplicit) (h : Q (.int 0) σ) : c.Ev E (.Name "ENTRY_NORMAL" pos) Q σ := glG hD (u := .int 0 362) (v := .int 0) (by k_is) ⟨_, rfl⟩ hk h rfl
theorem gl_rising (hD : IsD c.D) (hk : c.env.kindOf "rising" = some .globalImplicit) (h : Q (.ref 144) σ) : c.Ev E (.Name "rising" pos) Q σ := glG hD (u := .ref 144) (v := .ref 144) (by k_is) rfl hk h rfl
theorem gl_Entry (hD : IsD c.D) (hk : c.env.kindOf "Entry" = some .globalImplicit) (h : Q (.ref 189) σ) : c.Ev E (.Name "Entry" pos) Q σ := glG hD (u := .ref 189) (v := .ref 189) (by k_is) rfl hk h rfl
theorem gl_HardState (hD : IsD c.D) (hk : c.env.kindOf "HardState" = some .globalImplicit) (h : Q (.ref 245) σ) : c.Ev E (.Name "HardState" pos) Q σ := glG hD (u := .ref 245) (v := .ref 245) (by k_is) rfl hk h rfl
theorem gl_ConfState (hD : IsD c.D) (hk : c.env.kindOf "ConfState" = some .globalImplicit) (h : Q (.ref 280) σ) : c.Ev E (.Name "ConfState" pos) Q σ := glG hD (u := .ref 280) (v := .ref 280) (by k_is) rfl hk h rfl
theorem gl_Snapshot (hD : IsD c.D) (hk : c.env.kindOf "Snapshot" = some .globalImplicit) (h : Q (.ref 322) σ) : c.Ev E (.Name "Snapshot" pos) Q σ := glG hD (u := .ref 322) (v := .ref 322) (by k_is) rfl hk h rfl
theorem gl_MemoryStorage (hD : IsD c.D) (hk : c.env.kindOf "MemoryStorage" = some .globalImplicit) (h : Q (.ref 427) σ) : c.Ev E (.Name "MemoryStorage" pos) Q σ := glG hD (u := .ref 427) (v := .ref 427) (by k_is) rfl hk h rfl
theorem gl_Unstable (hD : IsD c.D) (hk : c.env.kindOf "Unstable" = some .globalImplicit) (h : Q (.ref 511) σ) : c.Ev E (.Name "Unstable" pos) Q σ := glG hD (u := .ref 511) (v := .ref 511) (by k_is) rfl hk h rfl
theorem gl_RaftLog (hD : IsD c.D) (hk : c.env.kindOf "RaftLog" = some .globalImplicit) (h : Q (.ref 721) σ) : c.Ev E (.Name "RaftLog" pos) Q σ := glG hD (u := .ref 721) (v := .ref 721) (by k_is) rfl hk h rfl
theorem gl__law_draw (hD : IsD c.D) (hk : c.env.kindOf "_law_draw" = some .globalImplicit) (h : Q (.ref 732) σ) : c.Ev E (.Name "_law_draw" pos) Q σ := glG hD (u := .ref 732) (v := .ref 732) (by k_is) rfl hk h rfl
theorem gl__law_end (hD : IsD c.D) (hk : c.env.kindOf "_law_end" = some .globalImplicit) (h : Q (.ref 739) σ) : c.Ev E (.Name "_law_end" pos) Q σ := glG hD (u := .ref 739) (v := .ref 739) (by k_is) rfl hk h rfl
theorem gl__law_rows (hD : IsD c.D) (hk : c.env.kindOf "_law_rows" = some .globalImplicit) (h : Q (.ref 744) σ) : c.Ev E (.Name "_law_rows" pos) Q σ := glG hD (u := .ref 744) (v := .ref 744) (by k_is) rfl hk h rfl
theorem gl__law_put (hD : IsD c.D) (hk : c.env.kindOf "_law_put" = some .globalImplicit) (h : Q (.ref 751) σ) : c.Ev E (.Name "_law_put" pos) Q σ := glG hD (u := .ref 751) (v := .ref 751) (by k_is) rfl hk h rfl
theorem gl__law_stand (hD : IsD c.D) (hk : c.env.kindOf "_law_stand" = some .globalImplicit) (h : Q (.ref 758) σ) : c.Ev E (.Name "_law_stand" pos) Q σ := glG hD (u := .ref 758) (v := .ref 758) (by k_is) rfl hk h rfl
theorem gl__law_fits (hD : IsD c.D) (hk : c.env.kindOf "_law_fits" = some .globalImplicit) (h : Q (.ref 765) σ) : c.Ev E (.Name "_law_fits" pos) Q σ := glG hD (u := .ref 765) (v := .ref 765) (by k_is) rfl hk h rfl
theorem gl__law_tell (hD : IsD c.D) (hk : c.env.kindOf "_law_tell" = some .globalImplicit) (h : Q (.ref 770) σ) : c.Ev E (.Name "_law_tell" pos) Q σ := glG hD (u := .ref 770) (v := .ref 770) (by k_is) rfl hk h rfl
theorem gl__law_safe (hD : IsD c.D) (hk : c.env.kindOf "_law_safe" = some .globalImplicit) (h : Q (.ref 777) σ) : c.Ev E (.Name "_law_safe" pos) Q σ := glG hD (u := .ref 777) (v := .ref 777) (by k_is) rfl hk h rfl
theorem gl__law_alike (hD : IsD c.D) (hk : c.env.kindOf "_law_alike" = some .globalImplicit) (h : Q (.ref 782) σ) : c.Ev E (.Name "_law_alike" pos) Q σ := glG hD (u := .ref 782) (v := .ref 782) (by k_is) rfl hk h rfl
theorem gl__law_act (hD : IsD c.D) (hk : c.env.kindOf "_law_act" = some .globalImplicit) (h : Q (.ref 787) σ) : c.Ev E (.Name "_law_act" pos) Q σ := glG hD (u := .ref 787) (v := .ref 787) (by k_is) rfl hk h rfl
theorem gl_len (hD : IsD c.D) (hk : c.env.kindOf "len" = some .globalImplicit) (h : Q (.raw (.builtin "len")) σ) : c.Ev E (.Name "len" pos) Q σ := gbG hD (u := .builtin "len") (by k_is) (by boot_by_name) (by decide) hk h rfl
theorem gl_max (hD : IsD c.D) (hk : c.env.kindOf "max" = some .globalImplicit) (h : Q (.raw (.builtin "max")) σ) : c.Ev E (.Name "max" pos) Q σ := gbG hD (u := .builtin "max") (by k_is) (by boot_by_name) (by decide) hk h rfl
theorem gl_min (hD : IsD c.D) (hk : c.env.kindOf "min" = some .globalImplicit) (h : Q (.raw (.builtin "min")) σ) : c.Ev E (.Name "min" pos) Q σ := gbG hD (u := .builtin "min") (by k_is) (by boot_by_name) (by decide) hk h rfl
theorem gl_sorted (hD : IsD c.D) (hk : c.env.kindOf "sorted" = some .globalImplicit) (h : Q (.raw (.builtin "sorted")) σ) : c.Ev E (.Name "sorted" pos) Q σ := gbG hD (u := .builtin "sorted") (by k_is) (by boot_by_name) (by decide) hk h rfl
theorem gl_range (hD : IsD c.D) (hk : c.env.kindOf "range" = some .globalImplicit) (h : Q (.raw (.type "range")) σ) : c.Ev E (.Name "range" pos) Q σ := gbG hD (u := .type "range") (by k_is) (by boot_by_name) (by decide) hk h rfl
theorem gl_bytes (hD : IsD c.D) (hk : c.env.kindOf "bytes" = some .globalImplicit) (h : Q (.raw (.type "bytes")) σ) : c.Ev E (.Name "bytes" pos) Q σ := gbG hD (u := .type "bytes") (by k_is) (by boot_by_name) (by decide) hk h rfl
noncomputable def fdT : List (Nat × Str) := [(189, "term"), (189, "index"), (189, "kind"), (189, "data"), (245, "term"), (245, "vote"), (245, "commit"), (280, "voters"), (280, "learners"), (280, "outgoing"), (280, "learners_next"), (280, "auto_leave"), (322, "index"), (322, "term"), (322, "conf"), (322, "data"), (427, "hard"), (427, "conf"), (427, "snap"), (427, "base_index"), (427, "base_term"), (427, "entries"), (511, "snapshot"), (511, "entries"), (511, "offset"), (721, "storage"), (721, "max_committed"), (721, "unstable"), (721, "committed"), (721, "applied")]
noncomputable def fdOk (C : Nat) (n : Str) : Bool := fdT.any fun p => p.1 == C && decide (p.2 = n)
noncomputable def isSN : Option (Option Value) → Bool := fun x => x.casesOn false fun y => y.casesOn true fun _ => false
theorem isSN_ : ∀ {x : Option (Option Value)}, isSN x = true → x = some none
  | some none, _ => rfl
  | none, h => nomatch h
  | some (some _), h => nomatch h
theorem fd_all (P : Params) : (fdT.all fun p => isSN (findIn (Rk.KK P) (.ref p.1) p.2)) = true := by kernel_rfl
theorem nf_of {C : Nat} {n : Str} (hD : IsD D) (h : fdOk C n = true) : findIn D.K (.ref C) n = some none := by
  obtain ⟨p, hp, h⟩ := List.any_eq_true.mp h
  rw [Bool.and_eq_true, beq_iff_eq, decide_eq_true_eq] at h
  obtain ⟨rfl, rfl⟩ := h
  exact hD.up (F := fun K => findIn K (.ref p.1) p.2 = some none) (isSN_ (List.all_eq_true.mp (fd_all _) p hp))
noncomputable def clsL : List Nat := [189, 245, 280, 322, 427, 511, 721]
theorem plain_of {C : Nat} (hD : IsD D) (h : clsL.contains C = true) : Plain D.K C := by
  have : ∀ C ∈ clsL, Plain D.K C := List.forall_mem_cons.mpr ⟨plain_Entry hD, List.forall_mem_cons.mpr ⟨plain_HardState hD, List.forall_mem_cons.mpr ⟨plain_ConfState hD, List.forall_mem_cons.mpr ⟨plain_Snapshot hD, List.forall_mem_cons.mpr ⟨plain_MemoryStorage hD, List.forall_mem_cons.mpr ⟨plain_Unstable hD, List.forall_mem_cons.mpr ⟨plain_RaftLog hD, fun _ h => nomatch h⟩⟩⟩⟩⟩⟩⟩
  exact this C (List.contains_iff_mem.mp h)
theorem gfG {C : Nat} {n : Str} {fs : List (Str × V)} {v : V} (hD : IsD c.D) (e : σ.H a = some (.inst C fs)) (hc : (clsL.contains C && fdOk C n) = true) (hf : fget n fs = some v) (hp : v.plain = true) (h : Q v σ) : c.Get E (.ref a) n Q σ := by
  rw [Bool.and_eq_true] at hc
  exact get_field e (plain_of hD hc.1) (nf_of hD hc.2) hf hp h
noncomputable def kpL : List Nat := [137, 144, 158, 165, 186, 189, 200, 214, 221, 228, 235, 245, 263, 270, 280, 298, 305, 312, 322, 340, 354, 361, 368, 375, 382, 396, 424, 427, 445, 452, 459, 466, 494, 501, 508, 511, 529, 536, 543, 550, 557, 564, 571, 578, 585, 592, 599, 620, 627, 655, 690, 697, 711, 718, 721, 732, 739, 744, 751, 758, 765, 770, 777, 782, 787, 792]
theorem kp_all (P : Params) : (kpL.all fun f => Kp (Rk.KK P) (.ref f)) = true := by kernel_rfl
theorem kp_of {f : Nat} (hD : IsD D) (h : kpL.contains f = true) : Kp D.K (.ref f) = true := hD.up (F := fun K => Kp K (.ref f) = true) (List.all_eq_true.mp (kp_all _) f (List.contains_iff_mem.mp h))
end
end Rk

end
namespace Rk

noncomputable abbrev Ent := Int × Array UInt8
noncomputable def EntV (H : Hp) : Int → List V → List Ent → Prop
  | _, [], [] => True
  | i, v :: vs, e :: es => (∃ a, v = .ref a ∧ H a = some (.inst 189 (EntryFs (.int e.1) (.int i) (.int 0) (.bytes e.2)))) ∧ EntV H (i + 1) vs es
  | _, _, _ => False
theorem EntV.length {H : Hp} : ∀ {i : Int} {vs : List V} {es : List Ent}, EntV H i vs es → vs.length = es.length
  | _, [], [], _ => rfl
  | _, _ :: _, _ :: _, h => by rw [List.length_cons, List.length_cons, EntV.length h.2]
  | _, [], _ :: _, h => h.elim
  | _, _ :: _, [], h => h.elim
theorem EntV.le {H H' : Hp} (l : ∀ a fs, H a = some (.inst 189 fs) → H' a = some (.inst 189 fs)) : ∀ {i : Int} {vs : List V} {es : List Ent}, EntV H i vs es → EntV H' i vs es
  | _, [], [], _ => trivial
  | _, _ :: _, _ :: _, h => ⟨let ⟨a, e, q⟩ := h.1; ⟨a, e, l _ _ q⟩, EntV.le l h.2⟩
  | _, [], _ :: _, h => h.elim
  | _, _ :: _, [], h => h.elim
theorem EntV.get {H : Hp} : ∀ {i : Int} {vs : List V} {es : List Ent}, EntV H i vs es → ∀ {k : Nat} {e : Ent}, es[k]? = some e → ∃ a, vs[k]? = some (.ref a) ∧ H a = some (.inst 189 (EntryFs (.int e.1) (.int (i + k)) (.int 0) (.bytes e.2)))
  | i, v :: vs, x :: es, h, 0, e, q => by
    cases q
    obtain ⟨a, rfl, ha⟩ := h.1
    exact ⟨a, rfl, by simpa using ha⟩
  | i, v :: vs, x :: es, h, k + 1, e, q => by
    obtain ⟨a, h1, h2⟩ := EntV.get h.2 (k := k) (by simpa using q)
    refine ⟨a, by simpa using h1, ?_⟩
    rw [h2, show i + 1 + (k : Int) = i + ((k + 1 : Nat) : Int) by push_cast; (first | lia | omega)]
  | _, [], [], _, _, _, q => by cases q
  | _, [], _ :: _, h, _, _, _ => h.elim
  | _, _ :: _, [], h, _, _, _ => h.elim
theorem EntV.app {H : Hp} : ∀ {i : Int} {vs : List V} {es : List Ent} {us : List V} {fs : List Ent}, EntV H i vs es → EntV H (i + es.length) us fs → EntV H i (vs ++ us) (es ++ fs)
  | _, [], [], _, _, _, k => by simpa using k
  | i, v :: vs, e :: es, _, _, h, k => ⟨h.1, EntV.app h.2 (by rw [List.length_cons] at k; push_cast at k; rw [show i + 1 + (es.length : Int) = i + (es.length + 1) by (first | lia | omega)]; exact k)⟩
  | _, [], _ :: _, _, _, h, _ => h.elim
  | _, _ :: _, [], _, _, h, _ => h.elim
theorem EntV.drop {H : Hp} : ∀ (n : Nat) {i : Int} {vs : List V} {es : List Ent}, EntV H i vs es → EntV H (i + n) (vs.drop n) (es.drop n)
  | 0, _, _, _, h => by simpa using h
  | n + 1, _, [], [], _ => by simp [EntV]
  | n + 1, i, _ :: vs, _ :: es, h => by
    have := EntV.drop n h.2
    simp only [List.drop_succ_cons]
    push_cast
    rw [show i + ((n : Int) + 1) = i + 1 + n by (first | lia | omega)]; exact this
  | _ + 1, _, [], _ :: _, h => h.elim
  | _ + 1, _, _ :: _, [], h => h.elim
theorem EntV.take {H : Hp} : ∀ (n : Nat) {i : Int} {vs : List V} {es : List Ent}, EntV H i vs es → EntV H i (vs.take n) (es.take n)
  | 0, _, _, _, _ => by simp [EntV]
  | n + 1, _, [], [], _ => by simp [EntV]
  | n + 1, i, _ :: vs, _ :: es, h => by
    simp only [List.take_succ_cons]
    exact ⟨h.1, EntV.take n h.2⟩
  | _ + 1, _, [], _ :: _, h => h.elim
  | _ + 1, _, _ :: _, [], h => h.elim
/-- the unstable part: a list at el -/
structure Uns (H : Hp) (u el : Addr) (vs : List V) (es : List Ent) : Prop where
  u : H u = some (.inst 511 (UnstableFs .none (.ref el) (.int 1)))
  l : H el = some (.list vs)
  e : EntV H 1 vs es
  z : es.length ≤ 100
/-- the storage: nothing in it -/
structure Sto (H : Hp) (X : Addr → Prop) (st : Addr) : Prop where
  ex : ∃ hd cf sn el, H st = some (.inst 427 (MemoryStorageFs hd cf sn (.int 0) (.int 0) (.ref el))) ∧ H el = some (.list []) ∧ ¬ X el
/-- a log; its lists are none of X, which stand -/
structure LogAt (H : Hp) (X : Addr → Prop) (r u st : Addr) (es : List Ent) (com : Int) : Prop where
  ex : ∃ el vs mc, H r = some (.inst 721 (RaftLogFs (.ref st) mc (.ref u) (.int com) (.int 0))) ∧ Uns H u el vs es ∧ Sto H X st ∧ ¬ X el
  fx : ∀ a, X a → ∃ o, H a = some o
section
variable {D : Wd} {d : Nat} {H : Hp} {X : Addr → Prop} {u el r st : Addr} {vs : List V} {es : List Ent} {com i t : Int} {Q : V → Hp → Prop} {P : Addr → Hp → Prop}
theorem fn_maybe_first (hD : IsD D) (hu : Uns H u el vs es) (h : Q .none H) : Fn D 1 452 [.ref u] Q H := by
  refine fn_def (hK := by rw [hD.k]; k_is) (hcd := by rw [hD.k]; k_is) (ns := ["self"]) ?_ ?_ ?_ rfl rfl rfl ?_
  · exact fun _ => rfl
  · decide
  · decide
  intro c cD cn cs cc cr
  subst cD
  obtain ⟨hu, hl, he, hz⟩ := hu
  with_reducible refine' s_cons (s_if (t_cmp (att ?_)))
  refine' w_local rfl ?_
  refine' gfG ‹_› hu rfl rfl rfl ?_
  with_reducible refine' w_none (c_isnt (tr_bool ?_))
  refine' br_F rfl ?_
  with_reducible refine' s_nil (th_next (s_one (s_ret (w_none ?_))))
  exact h
theorem fn_maybe_last (hD : IsD D) (hu : Uns H u el vs es) (h0 : es.length = 0 → Q .none H) (h1 : es.length ≠ 0 → Q (.int es.length) H) : Fn D 1 459 [.ref u] Q H := by
  refine fn_def (hK := by rw [hD.k]; k_is) (hcd := by rw [hD.k]; k_is) (ns := ["self"]) ?_ ?_ ?_ rfl rfl rfl ?_
  · exact fun _ => rfl
  · decide
  · decide
  intro c cD cn cs cc cr
  subst cD
  obtain ⟨hu, hl, he, hz⟩ := hu
  have lv := he.length
  with_reducible refine' s_cons (s_if (t_cmp (w_call ?_)))
  refine' gl_len ‹_› (kof ‹_› rfl) ?_
  refine' cv_raw rfl ?_
  with_reducible refine' w_es_cons (att ?_)
  refine' w_local rfl ?_
  refine' gfG ‹_› hu rfl rfl rfl ?_
  with_reducible refine' w_es_nil ?_
  refine' f_len hl (by lia) ?_
  with_reducible refine' w_int (c_gt (tr_bool (br_d ?_ ?_)))
  with_reducible refine' fun _ => s_one (s_ret (w_bin (w_bin (att ?_))))
  refine' w_local rfl ?_
  refine' gfG ‹_› hu rfl rfl rfl ?_
  with_reducible refine' w_call ?_
  refine' gl_len ‹_› (kof ‹_› rfl) ?_
  refine' cv_raw rfl ?_
  with_reducible refine' w_es_cons (att ?_)
  refine' w_local rfl ?_
  refine' gfG ‹_› hu rfl rfl rfl ?_
  with_reducible refine' w_es_nil ?_
  refine' f_len hl (by lia) ?_
  with_reducible refine' b_add (w_int (b_sub (th_ret ?_)))
  rotate_left
  with_reducible refine' fun _ => s_nil (th_next (s_cons (s_if (t_cmp (att ?_)))))
  refine' w_local rfl ?_
  refine' gfG ‹_› hu rfl rfl rfl ?_
  with_reducible refine' w_none (c_isnt (tr_bool ?_))
  refine' br_F rfl ?_
  with_reducible refine' s_nil (th_next (s_one (s_ret (w_none ?_))))
  rotate_left
  · rw [show (1 + (vs.length : Int) - 1) = es.length by (first | lia | omega)]
    exact h1 (by (first | lia | omega))
  · exact h0 (by (first | lia | omega))
/-- the term of entry i, if it is held -/
noncomputable def tmE (es : List Ent) (i : Int) : Int := ((es[(i - 1).toNat]?).map (·.1)).getD 0
theorem fn_maybe_term (hD : IsD D) (hu : Uns H u el vs es) (h0 : i < 1 ∨ es.length < i → Q .none H) (h1 : 1 ≤ i → i ≤ es.length → Q (.int (tmE es i)) H) : Fn D 1 466 [.ref u, .int i] Q H := by
  refine fn_def (hK := by rw [hD.k]; k_is) (hcd := by rw [hD.k]; k_is) (ns := ["self", "i"]) ?_ ?_ ?_ rfl rfl rfl ?_
  · exact fun _ _ => rfl
  · decide
  · decide
  intro c cD cn cs cc cr
  subst cD
  obtain ⟨hu, hl, he, hz⟩ := hu
  have lv := he.length
  with_reducible refine' s_cons (s_if (t_cmp ?_))
  refine' w_local rfl ?_
  with_reducible refine' att ?_
  refine' w_local rfl ?_
  refine' gfG ‹_› hu rfl rfl rfl ?_
  with_reducible refine' c_lt (tr_bool (br_d ?_ ?_))
  with_reducible refine' fun _ => s_cons (s_if (t_bool (a_and (t_cmp (att ?_)))))
  refine' w_local rfl ?_
  refine' gfG ‹_› hu rfl rfl rfl ?_
  with_reducible refine' w_none (c_isnt (tr_bool ?_))
  refine' br_F rfl ?_
  with_reducible refine' br_f (s_nil (th_next (s_one (s_ret (w_none (th_ret ?_))))))
  rotate_left
  with_reducible refine' fun _ => s_nil (th_next (s_cons (s_if (t_cmp ?_))))
  refine' w_local rfl ?_
  with_reducible refine' w_bin (att ?_)
  refine' w_local rfl ?_
  refine' gfG ‹_› hu rfl rfl rfl ?_
  with_reducible refine' w_call ?_
  refine' gl_len ‹_› (kof ‹_› rfl) ?_
  refine' cv_raw rfl ?_
  with_reducible refine' w_es_cons (att ?_)
  refine' w_local rfl ?_
  refine' gfG ‹_› hu rfl rfl rfl ?_
  with_reducible refine' w_es_nil ?_
  refine' f_len hl (by lia) ?_
  with_reducible refine' b_add (c_ge (tr_bool (br_d ?_ ?_)))
  with_reducible refine' fun _ => s_one (s_ret (w_none (th_ret ?_)))
  rotate_left
  with_reducible refine' fun _ => s_nil (th_next (s_one (s_ret (att (w_sub (att ?_))))))
  refine' w_local rfl ?_
  refine' gfG ‹_› hu rfl rfl rfl ?_
  with_reducible refine' w_bin ?_
  refine' w_local rfl ?_
  with_reducible refine' att ?_
  refine' w_local rfl ?_
  refine' gfG ‹_› hu rfl rfl rfl ?_
  with_reducible refine' b_sub ?_
  rotate_left
  · exact h0 (by (first | lia | omega))
  · exact h0 (by (first | lia | omega))
  · have lt : (i - 1).toNat < es.length := by (first | lia | omega)
    have q : es[(i - 1).toNat]? = some es[(i - 1).toNat] := List.getElem?_eq_getElem lt
    obtain ⟨a, h1', h2'⟩ := he.get q
    refine' i_list hl (by lia) (by lia) h1' ?_
    refine' gfG ‹_› h2' rfl rfl rfl ?_
    have := h1 (by (first | lia | omega)) (by (first | lia | omega))
    unfold tmE at this
    rw [q] at this
    exact this
theorem fn_st_first (hD : IsD D) (hs : Sto H X st) (h : Q (.int 1) H) : Fn D 1 354 [.ref st] Q H := by
  refine fn_def (hK := by rw [hD.k]; k_is) (hcd := by rw [hD.k]; k_is) (ns := ["self"]) ?_ ?_ ?_ rfl rfl rfl ?_
  · exact fun _ => rfl
  · decide
  · decide
  intro c cD cn cs cc cr
  subst cD
  obtain ⟨hd, cf, sn, el, hs, hl, hx⟩ := hs
  with_reducible refine' s_one (s_ret (w_bin (att ?_)))
  refine' w_local rfl ?_
  refine' gfG ‹_› hs rfl rfl rfl ?_
  with_reducible refine' w_int (b_add ?_)
  exact h
theorem fn_st_last (hD : IsD D) (hs : Sto H X st) (h : Q (.int 0) H) : Fn D 1 361 [.ref st] Q H := by
  refine fn_def (hK := by rw [hD.k]; k_is) (hcd := by rw [hD.k]; k_is) (ns := ["self"]) ?_ ?_ ?_ rfl rfl rfl ?_
  · exact fun _ => rfl
  · decide
  · decide
  intro c cD cn cs cc cr
  subst cD
  obtain ⟨hd, cf, sn, el, hs, hl, hx⟩ := hs
  with_reducible refine' s_one (s_ret (w_bin (att ?_)))
  refine' w_local rfl ?_
  refine' gfG ‹_› hs rfl rfl rfl ?_
  with_reducible refine' w_call ?_
  refine' gl_len ‹_› (kof ‹_› rfl) ?_
  refine' cv_raw rfl ?_
  with_reducible refine' w_es_cons (att ?_)
  refine' w_local rfl ?_
  refine' gfG ‹_› hs rfl rfl rfl ?_
  with_reducible refine' w_es_nil ?_
  refine' f_len hl (by decide) ?_
  with_reducible refine' b_add ?_
  exact h
theorem fn_term_at (hD : IsD D) (hs : Sto H X st) (h : Q (.int 0) H) : Fn D 2 375 [.ref st, .int 0] Q H := by
  refine fn_def (hK := by rw [hD.k]; k_is) (hcd := by rw [hD.k]; k_is) (ns := ["self", "i"]) ?_ ?_ ?_ rfl rfl rfl ?_
  · exact fun _ _ => rfl
  · decide
  · decide
  intro c cD cn cs cc cr
  subst cD
  have hs' := hs
  obtain ⟨hd, cf, sn, el, hs, hl, hx⟩ := hs'
  with_reducible refine' s_cons (s_if (t_cmp ?_))
  refine' w_local rfl ?_
  with_reducible refine' att ?_
  refine' w_local rfl ?_
  refine' gfG ‹_› hs rfl rfl rfl ?_
  with_reducible refine' c_lt (tr_bool (br_d ?_ ?_))
  with_reducible refine' fun _ => ?_
  exact False.elim (by lia)
  with_reducible refine' fun _ => s_nil (th_next (s_cons (s_if (t_cmp ?_))))
  refine' w_local rfl ?_
  with_reducible refine' w_meth ?_
  refine' w_local rfl ?_
  with_reducible refine' me_MemoryStorage_last_index ‹_› hs ?_
  refine' cm_one (kp_of ‹_› rfl) ?_
  with_reducible refine' w_es_nil ?_
  refine Fn.use ?_ (d := 1) (Room.le cr (by decide))
  refine fn_st_last hD ‹_› ?_
  with_reducible refine' c_gt (tr_bool (br_d ?_ ?_))
  with_reducible refine' fun _ => ?_
  exact False.elim (by lia)
  with_reducible refine' fun _ => s_nil (th_next (s_cons (s_if (t_cmp ?_))))
  refine' w_local rfl ?_
  with_reducible refine' att ?_
  refine' w_local rfl ?_
  refine' gfG ‹_› hs rfl rfl rfl ?_
  with_reducible refine' c_eq (tr_bool (br_eq ?_ ?_))
  with_reducible refine' fun _ => s_one (s_ret (att ?_))
  refine' w_local rfl ?_
  refine' gfG ‹_› hs rfl rfl rfl ?_
  with_reducible refine' th_ret ?_
  rotate_left
  with_reducible refine' fun _ => ?_
  exact False.elim (by lia)
  exact h
theorem fn_first_index (hD : IsD D) (hl : LogAt H X r u st es com) (h : Q (.int 1) H) : Fn D 2 536 [.ref r] Q H := by
  refine fn_def (hK := by rw [hD.k]; k_is) (hcd := by rw [hD.k]; k_is) (ns := ["self"]) ?_ ?_ ?_ rfl rfl rfl ?_
  · exact fun _ => rfl
  · decide
  · decide
  intro c cD cn cs cc cr
  subst cD
  have lgX := hl
  obtain ⟨⟨el, vs, mc, hr, hu, hs, hX⟩, hfx⟩ := lgX
  have hu1 := hu.u
  have hu2 := hu.l
  obtain ⟨hd, cf, sn, sl, hs1, hs2, hs3⟩ := hs.ex
  have lv := hu.e.length
  have hz := hu.z
  with_reducible refine' s_cons (s_assign (w_meth (att ?_)))
  refine' w_local rfl ?_
  refine' gfG ‹_› hr rfl rfl rfl ?_
  with_reducible refine' me_Unstable_maybe_first ‹_› hu1 ?_
  refine' cm_one (kp_of ‹_› rfl) ?_
  with_reducible refine' w_es_nil ?_
  refine' Fn.go (fn_maybe_first ‹_› hu ?_) (Room.le ‹_› (by decide))
  refine' st_local (lof ‹_› ⟨rfl, rfl⟩) ?_
  with_reducible refine' th_next (s_cons (s_if (t_cmp ?_)))
  refine' w_local rfl ?_
  with_reducible refine' w_none (c_isnt (tr_bool ?_))
  refine' br_F rfl ?_
  with_reducible refine' s_nil (th_next (s_one (s_ret (w_meth (att ?_)))))
  refine' w_local rfl ?_
  refine' gfG ‹_› hr rfl rfl rfl ?_
  with_reducible refine' me_MemoryStorage_first_index ‹_› hs1 ?_
  refine' cm_one (kp_of ‹_› rfl) ?_
  with_reducible refine' w_es_nil ?_
  refine' Fn.go (fn_st_first ‹_› hs ?_) (Room.le ‹_› (by decide))
  exact h
theorem fn_last_index (hD : IsD D) (hl : LogAt H X r u st es com) (h : Q (.int es.length) H) : Fn D 2 543 [.ref r] Q H := by
  refine fn_def (hK := by rw [hD.k]; k_is) (hcd := by rw [hD.k]; k_is) (ns := ["self"]) ?_ ?_ ?_ rfl rfl rfl ?_
  · exact fun _ => rfl
  · decide
  · decide
  intro c cD cn cs cc cr
  subst cD
  have lgX := hl
  obtain ⟨⟨el, vs, mc, hr, hu, hs, hX⟩, hfx⟩ := lgX
  have hu1 := hu.u
  have hu2 := hu.l
  obtain ⟨hd, cf, sn, sl, hs1, hs2, hs3⟩ := hs.ex
  have lv := hu.e.length
  have hz := hu.z
  with_reducible refine' s_cons (s_assign (w_meth (att ?_)))
  refine' w_local rfl ?_
  refine' gfG ‹_› hr rfl rfl rfl ?_
  with_reducible refine' me_Unstable_maybe_last ‹_› hu1 ?_
  refine' cm_one (kp_of ‹_› rfl) ?_
  with_reducible refine' w_es_nil ?_
  refine' Fn.go (fn_maybe_last ‹_› hu ?_ ?_) (Room.le ‹_› (by decide))
  with_reducible refine' fun _ => ?_
  refine' st_local (lof ‹_› ⟨rfl, rfl⟩) ?_
  with_reducible refine' th_next (s_cons (s_if (t_cmp ?_)))
  refine' w_local rfl ?_
  with_reducible refine' w_none (c_isnt (tr_bool ?_))
  refine' br_F rfl ?_
  with_reducible refine' s_nil (th_next (s_one (s_ret (w_meth (att ?_)))))
  refine' w_local rfl ?_
  refine' gfG ‹_› hr rfl rfl rfl ?_
  with_reducible refine' me_MemoryStorage_last_index ‹_› hs1 ?_
  refine' cm_one (kp_of ‹_› rfl) ?_
  with_reducible refine' w_es_nil ?_
  refine' Fn.go (fn_st_last ‹_› hs ?_) (Room.le ‹_› (by decide))
  rotate_left
  with_reducible refine' fun _ => ?_
  refine' st_local (lof ‹_› ⟨rfl, rfl⟩) ?_
  with_reducible refine' th_next (s_cons (s_if (t_cmp ?_)))
  refine' w_local rfl ?_
  with_reducible refine' w_none (c_isnt (tr_bool ?_))
  refine' br_T rfl ?_
  with_reducible refine' s_one (s_ret ?_)
  refine' w_local rfl ?_
  with_reducible refine' th_ret ?_
  rotate_left
  · rename_i q
    rw [q] at h
    exact h
  · exact h
theorem fn_term (hD : IsD D) (hl : LogAt H X r u st es com) (hi : 0 ≤ i ∧ i ≤ 900) (h0 : i = 0 → Q (.int 0) H) (h1 : 1 ≤ i → i ≤ es.length → Q (.int (tmE es i)) H) (h2 : es.length < i → P 92 H) : FnX D 3 557 [.ref r, .int i] Q P H := by
  refine fn_defX (hK := by rw [hD.k]; k_is) (hcd := by rw [hD.k]; k_is) (ns := ["self", "i"]) ?_ ?_ ?_ rfl rfl rfl ?_
  · exact fun _ _ => rfl
  · decide
  · decide
  intro c cD cn cs cc co cr
  subst cD
  have lgX := hl
  obtain ⟨⟨el, vs, mc, hr, hu, hs, hX⟩, hfx⟩ := lgX
  have hu1 := hu.u
  have hu2 := hu.l
  obtain ⟨hd, cf, sn, sl, hs1, hs2, hs3⟩ := hs.ex
  have lv := hu.e.length
  have hz := hu.z
  with_reducible refine' s_cons (s_assign (w_meth (att ?_)))
  refine' w_local rfl ?_
  refine' gfG ‹_› hr rfl rfl rfl ?_
  with_reducible refine' me_Unstable_maybe_term ‹_› hu1 ?_
  refine' cm_one (kp_of ‹_› rfl) ?_
  with_reducible refine' w_es_cons ?_
  refine' w_local rfl ?_
  with_reducible refine' w_es_nil ?_
  refine' Fn.go (fn_maybe_term ‹_› hu ?_ ?_) (Room.le ‹_› (by decide))
  with_reducible refine' fun _ => ?_
  refine' st_local (lof ‹_› ⟨rfl, rfl⟩) ?_
  with_reducible refine' th_next (s_cons (s_if (t_cmp ?_)))
  refine' w_local rfl ?_
  with_reducible refine' w_none (c_isnt (tr_bool ?_))
  refine' br_F rfl ?_
  with_reducible refine' s_nil (th_next (s_cons (s_if (t_cmp (w_bin ?_)))))
  refine' w_local rfl ?_
  with_reducible refine' w_int (b_add (w_meth ?_))
  refine' w_local rfl ?_
  with_reducible refine' me_RaftLog_first_index ‹_› hr ?_
  refine' cm_one (kp_of ‹_› rfl) ?_
  with_reducible refine' w_es_nil ?_
  refine' Fn.go (fn_first_index ‹_› hl ?_) (Room.le ‹_› (by decide))
  with_reducible refine' c_lt (tr_bool (br_d ?_ ?_))
  with_reducible refine' fun _ => ?_
  exact False.elim (by lia)
  with_reducible refine' fun _ => s_nil (th_next (s_cons (s_if (t_cmp ?_))))
  refine' w_local rfl ?_
  with_reducible refine' w_meth ?_
  refine' w_local rfl ?_
  with_reducible refine' me_RaftLog_last_index ‹_› hr ?_
  refine' cm_one (kp_of ‹_› rfl) ?_
  with_reducible refine' w_es_nil ?_
  refine' Fn.go (fn_last_index ‹_› hl ?_) (Room.le ‹_› (by decide))
  with_reducible refine' c_gt (tr_bool (br_d ?_ ?_))
  with_reducible refine' fun _ => s_one ?_
  rotate_left
  with_reducible refine' fun _ => s_nil (th_next (s_one (s_ret (w_meth (att ?_)))))
  refine' w_local rfl ?_
  refine' gfG ‹_› hr rfl rfl rfl ?_
  with_reducible refine' me_MemoryStorage_term_at ‹_› hs1 ?_
  refine' cm_one (kp_of ‹_› rfl) ?_
  with_reducible refine' w_es_cons ?_
  refine' w_local rfl ?_
  with_reducible refine' w_es_nil ?_
  rotate_left
  with_reducible refine' fun _ _ => ?_
  refine' st_local (lof ‹_› ⟨rfl, rfl⟩) ?_
  with_reducible refine' th_next (s_cons (s_if (t_cmp ?_)))
  refine' w_local rfl ?_
  with_reducible refine' w_none (c_isnt (tr_bool ?_))
  refine' br_T rfl ?_
  with_reducible refine' s_one (s_ret ?_)
  refine' w_local rfl ?_
  with_reducible refine' th_ret ?_
  rotate_left
  · refine s_raise co (by rw [hD.k]; k_is) (by rw [hD.k]; k_exc) PySem.F.excBase_Exception (kof cs rfl) ?_
    with_reducible refine' w_es_cons (w_joined (jn_str (by decide) (jn_int (by decide) ?_)))
    refine' w_local rfl ?_
    refine' jnx (by lia) ?_
    with_reducible refine' jn_str (by decide) (jn_int (by decide) (w_meth ?_))
    refine' w_local rfl ?_
    with_reducible refine' me_RaftLog_last_index ‹_› hr ?_
    refine' cm_one (kp_of ‹_› rfl) ?_
    with_reducible refine' w_es_nil ?_
    refine' Fn.go (fn_last_index ‹_› hl ?_) (Room.le ‹_› (by decide))
    refine' jnx (by lia) ?_
    with_reducible refine' jn_nil (by decide) (fun _ => w_es_nil ?_)
    refine' ⟨(Nat.le_of_ble_eq_true rfl), ?_⟩
    exact h2 (by (first | omega | lia))
  · obtain rfl : i = 0 := by (first | omega | lia)
    refine' Fn.go (fn_term_at ‹_› hs ?_) (Room.le ‹_› (by decide))
    exact h0 rfl
  · exact h1 (by (first | omega | lia)) (by (first | omega | lia))
theorem fn_term_or_zero (hD : IsD D) (hl : LogAt H X r u st es com) (hi : 0 ≤ i ∧ i ≤ 900) (h0 : i = 0 ∨ es.length < i → Q (.int 0) H) (h1 : 1 ≤ i → i ≤ es.length → Q (.int (tmE es i)) H) : Fn D 4 564 [.ref r, .int i] Q H := by
  refine fn_defO (hK := by rw [hD.k]; k_is) (hcd := by rw [hD.k]; k_is) (ns := ["self", "i"]) ?_ ?_ ?_ rfl rfl rfl ?_
  · exact fun _ _ => rfl
  · decide
  · decide
  intro c cD cn cs cc co cr
  subst cD
  have lgX := hl
  obtain ⟨⟨el, vs, mc, hr, hu, hs, hX⟩, hfx⟩ := lgX
  have hu1 := hu.u
  have hu2 := hu.l
  obtain ⟨hd, cf, sn, sl, hs1, hs2, hs3⟩ := hs.ex
  have lv := hu.e.length
  have hz := hu.z
  refine s_one (s_try co (P := fun C σ => C = 92 ∧ es.length < i ∧ Q (.int 0) σ.H) ?_ ?_)
  · with_reducible refine' s_one (s_ret (w_meth ?_))
    refine' w_local rfl ?_
    with_reducible refine' me_RaftLog_term ‹_› hr ?_
    refine' cm_one (kp_of ‹_› rfl) ?_
    with_reducible refine' w_es_cons ?_
    refine' w_local rfl ?_
    with_reducible refine' w_es_nil ?_
    refine' FnX.go (fn_term ‹_› hl (by lia) ?_ ?_ ?_) (Room.le ‹_› (by decide))
    with_reducible refine' fun _ => ?_
    rotate_left
    with_reducible refine' fun _ _ => ?_
    rotate_left
    with_reducible refine' fun _ => ?_
    refine' ⟨rfl, ?_⟩
    rotate_left
    · exact h0 (by (first | lia | omega))
    · exact h1 (by (first | lia | omega)) (by (first | lia | omega))
    · exact ⟨by (first | lia | omega), h0 (by (first | lia | omega))⟩
  · rintro _ σ₁ ⟨rfl, _, hq⟩
    refine ⟨.int 0, .inl ⟨fun L a cd => ?_, gv_int⟩, hq⟩
    rw [hD.k, cs]
    kts_test
theorem fn_match_term (hD : IsD D) (hl : LogAt H X r u st es com) (hi : 0 ≤ i ∧ i ≤ 900) (h0 : i = 0 → Q (.bool (0 == t)) H) (h1 : 1 ≤ i → i ≤ es.length → Q (.bool (tmE es i == t)) H) (h2 : es.length < i → Q (.bool false) H) : Fn D 4 571 [.ref r, .int i, .int t] Q H := by
  refine fn_defO (hK := by rw [hD.k]; k_is) (hcd := by rw [hD.k]; k_is) (ns := ["self", "i", "t"]) ?_ ?_ ?_ rfl rfl rfl ?_
  · exact fun _ _ _ => rfl
  · decide
  · decide
  intro c cD cn cs cc co cr
  subst cD
  have lgX := hl
  obtain ⟨⟨el, vs, mc, hr, hu, hs, hX⟩, hfx⟩ := lgX
  have hu1 := hu.u
  have hu2 := hu.l
  obtain ⟨hd, cf, sn, sl, hs1, hs2, hs3⟩ := hs.ex
  have lv := hu.e.length
  have hz := hu.z
  refine s_one (s_try co (P := fun C σ => C = 92 ∧ es.length < i ∧ Q (.bool false) σ.H) ?_ ?_)
  · with_reducible refine' s_one (s_ret (w_cmp (w_meth ?_)))
    refine' w_local rfl ?_
    with_reducible refine' me_RaftLog_term ‹_› hr ?_
    refine' cm_one (kp_of ‹_› rfl) ?_
    with_reducible refine' w_es_cons ?_
    refine' w_local rfl ?_
    with_reducible refine' w_es_nil ?_
    refine' FnX.go (fn_term ‹_› hl (by lia) ?_ ?_ ?_) (Room.le ‹_› (by decide))
    with_reducible refine' fun _ => ?_
    refine' w_local rfl ?_
    with_reducible refine' c_eq ?_
    rotate_left
    with_reducible refine' fun _ _ => ?_
    refine' w_local rfl ?_
    with_reducible refine' c_eq ?_
    rotate_left
    with_reducible refine' fun _ => ?_
    refine' ⟨rfl, ?_⟩
    rotate_left
    · exact h0 (by (first | omega | lia))
    · exact h1 (by (first | omega | lia)) (by (first | omega | lia))
    · exact ⟨by (first | omega | lia), h2 (by (first | omega | lia))⟩
  · rintro _ σ₁ ⟨rfl, _, hq⟩
    refine ⟨.bool false, .inl ⟨fun L a cd => ?_, gv_bool⟩, hq⟩
    rw [hD.k, cs]
    kts_test
noncomputable def lastT (es : List Ent) : Int := (es.getLast?.map (·.1)).getD 0
theorem lastT_tm (es : List Ent) (h : 1 ≤ es.length) : tmE es es.length = lastT es := by
  unfold tmE lastT
  rw [show ((es.length : Int) - 1).toNat = es.length - 1 by (first | lia | omega), List.getLast?_eq_getElem?]
theorem fn_last_term (hD : IsD D) (hl : LogAt H X r u st es com) (h : Q (.int (lastT es)) H) : Fn D 4 550 [.ref r] Q H := by
  refine fn_defO (hK := by rw [hD.k]; k_is) (hcd := by rw [hD.k]; k_is) (ns := ["self"]) ?_ ?_ ?_ rfl rfl rfl ?_
  · exact fun _ => rfl
  · decide
  · decide
  intro c cD cn cs cc co cr
  subst cD
  have lgX := hl
  obtain ⟨⟨el, vs, mc, hr, hu, hs, hX⟩, hfx⟩ := lgX
  have hu1 := hu.u
  have hu2 := hu.l
  obtain ⟨hd, cf, sn, sl, hs1, hs2, hs3⟩ := hs.ex
  have lv := hu.e.length
  have hz := hu.z
  refine s_one (s_try co (P := fun C σ => False) ?_ ?_)
  · with_reducible refine' s_one (s_ret (w_meth ?_))
    refine' w_local rfl ?_
    with_reducible refine' me_RaftLog_term ‹_› hr ?_
    refine' cm_one (kp_of ‹_› rfl) ?_
    with_reducible refine' w_es_cons (w_meth ?_)
    refine' w_local rfl ?_
    with_reducible refine' me_RaftLog_last_index ‹_› hr ?_
    refine' cm_one (kp_of ‹_› rfl) ?_
    with_reducible refine' w_es_nil ?_
    refine' Fn.go (fn_last_index ‹_› hl ?_) (Room.le ‹_› (by decide))
    with_reducible refine' w_es_nil ?_
    refine' FnX.go (fn_term ‹_› hl (by lia) ?_ ?_ ?_) (Room.le ‹_› (by decide))
    with_reducible refine' fun _ => ?_
    rotate_left
    with_reducible refine' fun _ _ => ?_
    rotate_left
    with_reducible refine' fun _ => ?_
    exact False.elim (by lia)
    · have : es = [] := List.length_eq_zero_iff.mp (by (first | lia | omega))
      subst this
      exact h
    · rw [lastT_tm es (by (first | lia | omega))]; exact h
  · intro _ _ h; exact h.elim
theorem fn_up_to_date (hD : IsD D) (hl : LogAt H X r u st es com) (h : Q (.bool (decide (lastT es < t) || (t == lastT es && decide ((es.length : Int) ≤ i)))) H) : Fn D 5 578 [.ref r, .int i, .int t] Q H := by
  refine fn_def (hK := by rw [hD.k]; k_is) (hcd := by rw [hD.k]; k_is) (ns := ["self", "last", "term"]) ?_ ?_ ?_ rfl rfl rfl ?_
  · exact fun _ _ _ => rfl
  · decide
  · decide
  intro c cD cn cs cc cr
  subst cD
  have lgX := hl
  obtain ⟨⟨el, vs, mc, hr, hu, hs, hX⟩, hfx⟩ := lgX
  have hu1 := hu.u
  have hu2 := hu.l
  obtain ⟨hd, cf, sn, sl, hs1, hs2, hs3⟩ := hs.ex
  have lv := hu.e.length
  have hz := hu.z
  with_reducible refine' s_cons (s_assign (w_meth ?_))
  refine' w_local rfl ?_
  with_reducible refine' me_RaftLog_last_term ‹_› hr ?_
  refine' cm_one (kp_of ‹_› rfl) ?_
  with_reducible refine' w_es_nil ?_
  refine' Fn.go (fn_last_term ‹_› hl ?_) (Room.le ‹_› (by decide))
  refine' st_local (lof ‹_› ⟨rfl, rfl⟩) ?_
  with_reducible refine' th_next (s_one (s_ret (w_or2 (w_cmp ?_))))
  refine' w_local rfl ?_
  refine' w_local rfl ?_
  with_reducible refine' c_gt (tr_bool (br_d ?_ ?_))
  with_reducible refine' fun _ => ?_
  rotate_left
  with_reducible refine' fun _ => w_and2 (w_cmp ?_)
  refine' w_local rfl ?_
  refine' w_local rfl ?_
  with_reducible refine' c_eq (tr_bool (br_eq ?_ ?_))
  with_reducible refine' fun _ => w_cmp ?_
  refine' w_local rfl ?_
  with_reducible refine' w_meth ?_
  refine' w_local rfl ?_
  with_reducible refine' me_RaftLog_last_index ‹_› hr ?_
  refine' cm_one (kp_of ‹_› rfl) ?_
  with_reducible refine' w_es_nil ?_
  refine' Fn.go (fn_last_index ‹_› hl ?_) (Room.le ‹_› (by decide))
  with_reducible refine' c_ge ?_
  rotate_left
  with_reducible refine' fun _ => ?_
  rotate_left
  · rename_i q
    rw [show (decide (lastT es < t) || (t == lastT es && decide ((es.length : Int) ≤ i))) = decide (lastT es < t) by simp [q]] at h
    exact h
  · rename_i q1 q2
    rw [show (decide (lastT es < t) || (t == lastT es && decide ((es.length : Int) ≤ i))) = decide ((es.length : Int) ≤ i) by simp [q2]] at h
    exact h
  · rename_i q1 q2
    rw [show (decide (lastT es < t) || (t == lastT es && decide ((es.length : Int) ≤ i))) = (t == lastT es) by simp [q1, q2]] at h
    exact h
end

end Rk
namespace Rk

section
variable {D : Wd} {d : Nat} {H : Hp} {X : Addr → Prop} {u el r st xl : Addr} {vs xs : List V} {es ns : List Ent} {com i t k : Int} {Q : V → Hp → Prop} {P : Addr → Hp → Prop}
theorem EntV.head {H : Hp} : ∀ {i : Int} {vs : List V} {es : List Ent}, EntV H i vs es → 1 ≤ es.length → ∃ a e vs', vs = .ref a :: vs' ∧ es[0]? = some e ∧ H a = some (.inst 189 (EntryFs (.int e.1) (.int i) (.int 0) (.bytes e.2)))
  | _, v :: vs, e :: es, h, _ => by
    obtain ⟨a, rfl, ha⟩ := h.1
    exact ⟨a, e, vs, rfl, rfl, ha⟩
  | _, [], [], _, l => by simp at l
  | _, [], _ :: _, h, _ => h.elim
  | _, _ :: _, [], h, _ => h.elim
theorem EntV.first {H : Hp} {i : Int} {vs : List V} {es : List Ent} (h : EntV H i vs es) (l : 1 ≤ es.length) : ∃ a e, vs[(0 : Int).toNat]? = some (.ref a) ∧ es[0]? = some e ∧ H a = some (.inst 189 (EntryFs (.int e.1) (.int i) (.int 0) (.bytes e.2))) := by
  obtain ⟨a, e, vs', rfl, h1, h2⟩ := h.head l
  exact ⟨a, e, rfl, h1, h2⟩
theorem fn_part (hD : IsD D) (hu : Uns H u el vs es) (hk : 1 ≤ k ∧ k ≤ es.length + 1) (h : ∀ n, H n = none → Q (.ref n) (H.set n (.list (vs.take (k - 1).toNat)))) : Fn D 1 501 [.ref u, .int 1, .int k] Q H := by
  refine fn_def (hK := by rw [hD.k]; k_is) (hcd := by rw [hD.k]; k_is) (ns := ["self", "lo", "hi"]) ?_ ?_ ?_ rfl rfl rfl ?_
  · exact fun _ _ _ => rfl
  · decide
  · decide
  intro c cD cn cs cc cr
  subst cD
  have hu1 := hu.u
  have hu2 := hu.l
  have lv := hu.e.length
  have hz := hu.z
  with_reducible refine' s_cons (s_if (t_cmp ?_))
  refine' w_local rfl ?_
  refine' w_local rfl ?_
  with_reducible refine' c_gt (tr_bool (br_d ?_ ?_))
  with_reducible refine' fun _ => ?_
  exact False.elim (by lia)
  with_reducible refine' fun _ => s_nil (th_next (s_cons (s_if (t_bool (a_or (t_cmp ?_))))))
  refine' w_local rfl ?_
  with_reducible refine' att ?_
  refine' w_local rfl ?_
  refine' gfG ‹_› hu1 rfl rfl rfl ?_
  with_reducible refine' c_lt (tr_bool (br_d ?_ ?_))
  with_reducible refine' fun _ => ?_
  exact False.elim (by lia)
  with_reducible refine' fun _ => a_or (t_cmp ?_)
  refine' w_local rfl ?_
  with_reducible refine' w_bin (att ?_)
  refine' w_local rfl ?_
  refine' gfG ‹_› hu1 rfl rfl rfl ?_
  with_reducible refine' w_call ?_
  refine' gl_len ‹_› (kof ‹_› rfl) ?_
  refine' cv_raw rfl ?_
  with_reducible refine' w_es_cons (att ?_)
  refine' w_local rfl ?_
  refine' gfG ‹_› hu1 rfl rfl rfl ?_
  with_reducible refine' w_es_nil ?_
  refine' f_len hu2 (by lia) ?_
  with_reducible refine' b_add (c_gt (tr_bool (br_d ?_ ?_)))
  with_reducible refine' fun _ => ?_
  exact False.elim (by lia)
  with_reducible refine' fun _ => a_or_nil (br_f (s_nil (th_next (s_one (s_ret (w_slice (att ?_)))))))
  refine' w_local rfl ?_
  refine' gfG ‹_› hu1 rfl rfl rfl ?_
  with_reducible refine' p_some (w_bin ?_)
  refine' w_local rfl ?_
  with_reducible refine' att ?_
  refine' w_local rfl ?_
  refine' gfG ‹_› hu1 rfl rfl rfl ?_
  with_reducible refine' b_sub (p_some (w_bin ?_))
  refine' w_local rfl ?_
  with_reducible refine' att ?_
  refine' w_local rfl ?_
  refine' gfG ‹_› hu1 rfl rfl rfl ?_
  with_reducible refine' b_sub ?_
  refine' slx hu2 (by lia) (bdi (by first | lia | omega)) (bdi (by first | lia | omega)) ?_
  with_reducible refine' fun _ _ => ?_
  exact h _ ‹_›
theorem Uns.fin (hu : Uns H u el vs es) {H₁ : Hp} {n : Addr} {vs' : List V} {es' : List Ent} (l : ∀ a o, H a = some o → a ≠ u → H₁ a = some o) (nu : H₁ u = some (.inst 511 (UnstableFs .none (.ref n) (.int 1)))) (hn : H₁ n = some (.list vs')) (e : EntV H 1 vs' es') (z : es'.length ≤ 100) : Uns H₁ u n vs' es' :=
  ⟨nu, hn, e.le fun a fs h => l a _ h fun q => (by rw [q, hu.u] at h; cases h), z⟩
theorem none_set {H : Hp} {a n : Addr} {o : MO} (h : (H.set a o) n = none) : H n = none := by
  unfold Hp.set at h
  split at h
  · cases h
  · exact h
theorem ne_of {a b : Addr} {o : MO} (h : H a = none) (k : H b = some o) : a ≠ b := fun q => by rw [q, k] at h; cases h
theorem fn_truncate_and_append (hD : IsD D) (hu : Uns H u el vs es) (hx : H xl = some (.list xs)) (hn : EntV H k xs ns) (hk : 1 ≤ ns.length → 1 ≤ k ∧ k ≤ es.length + 1) (hz : es.length + ns.length ≤ 100)
    (h : Hold (∀ H' el' vs', (∀ a o, H a = some o → a ≠ u → H' a = some o) → (ns.length = 0 → H' = H) → (el' = el ∨ H el' = none) → Uns H' u el' vs' (if ns.length = 0 then es else es.take (k - 1).toNat ++ ns) → Q .none H')) : Fn D 2 494 [.ref u, .ref xl] Q H := by
  refine fn_def (hK := by rw [hD.k]; k_is) (hcd := by rw [hD.k]; k_is) (ns := ["self", "entries"]) ?_ ?_ ?_ rfl rfl rfl ?_
  · exact fun _ _ => rfl
  · decide
  · decide
  intro c cD cn cs cc cr
  subst cD
  have hu1 := hu.u
  have hu2 := hu.l
  have lv := hu.e.length
  have ln := hn.length
  by_cases z : ns.length = 0
  · with_reducible refine' s_cons (s_if (t_cmp (w_call ?_)))
    refine' gl_len ‹_› (kof ‹_› rfl) ?_
    refine' cv_raw rfl ?_
    with_reducible refine' w_es_cons ?_
    refine' w_local rfl ?_
    with_reducible refine' w_es_nil ?_
    refine' f_len hx (by lia) ?_
    with_reducible refine' w_int (c_eq (tr_bool (br_eq ?_ ?_)))
    with_reducible refine' fun _ => s_one (s_ret0 (th_ret ?_))
    rotate_left
    with_reducible refine' fun _ => ?_
    exact False.elim (by lia)
    exact h H el vs (fun a o e _ => e) (fun _ => rfl) (.inl rfl) (by rw [if_pos z]; exact hu)
  · obtain ⟨a, e, f1, f2, f3⟩ := hn.first (by (first | lia | omega))
    have hk := hk (by (first | lia | omega))
    with_reducible refine' s_cons (s_if (t_cmp (w_call ?_)))
    refine' gl_len ‹_› (kof ‹_› rfl) ?_
    refine' cv_raw rfl ?_
    with_reducible refine' w_es_cons ?_
    refine' w_local rfl ?_
    with_reducible refine' w_es_nil ?_
    refine' f_len hx (by lia) ?_
    with_reducible refine' w_int (c_eq (tr_bool (br_eq ?_ ?_)))
    with_reducible refine' fun _ => ?_
    exact False.elim (by lia)
    with_reducible refine' fun _ => s_nil (th_next (s_cons (s_assign (att (w_sub ?_)))))
    refine' w_local rfl ?_
    with_reducible refine' w_int ?_
    refine' i_list hx (by decide) (by decide) f1 ?_
    refine' gfG ‹_› f3 rfl rfl rfl ?_
    refine' st_local (lof ‹_› ⟨rfl, rfl⟩) ?_
    with_reducible refine' th_next (s_one (s_if (t_cmp ?_)))
    refine' w_local rfl ?_
    with_reducible refine' w_bin (att ?_)
    refine' w_local rfl ?_
    refine' gfG ‹_› hu1 rfl rfl rfl ?_
    with_reducible refine' w_call ?_
    refine' gl_len ‹_› (kof ‹_› rfl) ?_
    refine' cv_raw rfl ?_
    with_reducible refine' w_es_cons (att ?_)
    refine' w_local rfl ?_
    refine' gfG ‹_› hu1 rfl rfl rfl ?_
    with_reducible refine' w_es_nil ?_
    refine' f_len hu2 (by lia) ?_
    with_reducible refine' b_add (c_eq (tr_bool (br_eq ?_ ?_)))
    with_reducible refine' fun _ => s_one (s_assignA (w_bin (att ?_)))
    refine' w_local rfl ?_
    refine' gfG ‹_› hu1 rfl rfl rfl ?_
    refine' w_local rfl ?_
    refine' b_addl hu2 hx (by lia) ?_
    with_reducible refine' fun _ _ => ?_
    refine' w_local rfl ?_
    with_reducible refine' pf_Unstable_entries ‹_› (hg_new (by with_reducible assumption) hu1) ?_
    rotate_left
    with_reducible refine' fun _ => s_one (s_if (t_cmp ?_))
    refine' w_local rfl ?_
    with_reducible refine' att ?_
    refine' w_local rfl ?_
    refine' gfG ‹_› hu1 rfl rfl rfl ?_
    with_reducible refine' c_le (tr_bool (br_d ?_ ?_))
    with_reducible refine' fun _ => s_cons (s_assignA ?_)
    refine' w_local rfl ?_
    refine' w_local rfl ?_
    with_reducible refine' pf_Unstable_offset ‹_› hu1 (th_next (s_one (s_assignA (w_slice ?_))))
    refine' w_local rfl ?_
    with_reducible refine' p_none (p_none ?_)
    refine' slx (hg_put hu1 hx (by intro h; cases h)) (by lia) bdn bdn ?_
    with_reducible refine' fun _ _ => ?_
    refine' w_local rfl ?_
    with_reducible refine' pf_Unstable_entries ‹_› (hg_new (by with_reducible assumption) hg_self) ?_
    rotate_left
    with_reducible refine' fun _ => s_one (s_if (t_cmp ?_))
    refine' w_local rfl ?_
    with_reducible refine' w_bin (att ?_)
    refine' w_local rfl ?_
    refine' gfG ‹_› hu1 rfl rfl rfl ?_
    with_reducible refine' w_call ?_
    refine' gl_len ‹_› (kof ‹_› rfl) ?_
    refine' cv_raw rfl ?_
    with_reducible refine' w_es_cons (att ?_)
    refine' w_local rfl ?_
    refine' gfG ‹_› hu1 rfl rfl rfl ?_
    with_reducible refine' w_es_nil ?_
    refine' f_len hu2 (by lia) ?_
    with_reducible refine' b_add (c_lt (tr_bool (br_d ?_ ?_)))
    with_reducible refine' fun _ => s_one (s_assignA (w_bin (w_meth ?_)))
    refine' w_local rfl ?_
    with_reducible refine' me_Unstable_part ‹_› hu1 ?_
    refine' cm_one (kp_of ‹_› rfl) ?_
    with_reducible refine' w_es_cons (att ?_)
    refine' w_local rfl ?_
    refine' gfG ‹_› hu1 rfl rfl rfl ?_
    with_reducible refine' w_es_cons ?_
    refine' w_local rfl ?_
    with_reducible refine' w_es_nil ?_
    refine' Fn.go (fn_part ‹_› hu (by lia) ?_) (Room.le ‹_› (by decide))
    with_reducible refine' fun _ _ => ?_
    refine' w_local rfl ?_
    refine' b_addl hg_self (hg_new (by with_reducible assumption) hx) (by simp only [List.length_append, List.length_cons, List.length_nil, List.length_map, List.length_set, List.length_take, List.length_drop, List.length_replicate]; exact (by lia)) ?_
    with_reducible refine' fun _ _ => ?_
    refine' w_local rfl ?_
    with_reducible refine' pf_Unstable_entries ‹_› (hg_new (by with_reducible assumption) (hg_new (by with_reducible assumption) hu1)) ?_
    rotate_left
    with_reducible refine' fun _ => ?_
    exact False.elim (by lia)
    · rename_i q1 q2 n hn'
      have nu : n ≠ u := ne_of hn' hu1
      have k1 : (k - 1).toNat = es.length := by (first | lia | omega)
      refine h _ n (vs ++ xs) (fun a o e ne => ?_) (fun q => absurd q z) (.inr hn') ?_
      · exact hs_ne ne (hs_new hn' e)
      · rw [if_neg z, k1, List.take_length]
        refine hu.fin (fun a o e ne => hs_ne ne (hs_new hn' e)) hs_self (hs_ne nu hs_self) (hu.e.app ?_) (by rw [List.length_append]; (first | lia | omega))
        rw [show (1 : Int) + es.length = k by (first | lia | omega)]; exact hn
    · rename_i q1 q2 q3 n hn'
      obtain rfl : k = 1 := by (first | lia | omega)
      have nu : n ≠ u := fun q => absurd (show (H.set u (.inst 511 (UnstableFs .none (.ref el) (.int 1)))) n = none from hn') (by rw [q, Hp.set_self]; simp)
      have hn'' : H n = none := (Hp.set_ne _ _ nu).symm.trans hn'
      refine h _ n (slc xs none none) (fun a o e ne => ?_) (fun q => absurd q z) (.inr hn'') ?_
      · exact hs_ne ne (hs_new hn' (hs_ne ne e))
      · rw [if_neg z]
        exact hu.fin (fun a o e ne => hs_ne ne (hs_new hn' (hs_ne ne e))) hs_self (hs_ne nu hs_self) (by simpa [slc] using hn) (by simp; (first | lia | omega))
    · rename_i q1 q2 q3 q4 n1 hn1 n2 hn2
      have nu : n2 ≠ u := ne_of hn2 (hs_new hn1 hu1)
      refine h _ n2 (vs.take (k - 1).toNat ++ xs) (fun a o e ne => ?_) (fun q => absurd q z) (.inr (none_set hn2)) ?_
      · exact hs_ne ne (hs_new hn2 (hs_new hn1 e))
      · rw [if_neg z]
        refine hu.fin (fun a o e ne => hs_ne ne (hs_new hn2 (hs_new hn1 e))) hs_self (hs_ne nu hs_self) ((hu.e.take _).app ?_) (by rw [List.length_append, List.length_take]; (first | lia | omega))
        rw [List.length_take, show (1 : Int) + ((min (k - 1).toNat es.length : Nat) : Int) = k by (first | lia | omega)]; exact hn
/-- nothing but r and u is changed -/
noncomputable def Chg (H H' : Hp) (r u : Addr) : Prop := ∀ a o, H a = some o → a ≠ r → a ≠ u → H' a = some o
theorem Chg.refl : Chg H H r u := fun _ _ e _ _ => e
theorem LogAt.uu (h : LogAt H X r u st es com) : ∃ el, H u = some (.inst 511 (UnstableFs .none (.ref el) (.int 1))) := let ⟨el, _, _, _, q, _⟩ := h.ex; ⟨el, q.u⟩
theorem LogAt.rr (h : LogAt H X r u st es com) : ∃ mc, H r = some (.inst 721 (RaftLogFs (.ref st) mc (.ref u) (.int com) (.int 0))) := let ⟨_, _, mc, q, _, _⟩ := h.ex; ⟨mc, q⟩
theorem Chg.at_ {H H' : Hp} (k : Chg H H' r u) (h : LogAt H X r u st es com) {a : Addr} {o : MO} (e : H a = some o) (hr : ∀ fs, o ≠ .inst 721 fs) (hu : ∀ fs, o ≠ .inst 511 fs) : H' a = some o := by
  obtain ⟨el, h1⟩ := h.uu
  obtain ⟨mc, h2⟩ := h.rr
  refine k a o e (fun q => ?_) (fun q => ?_)
  · rw [q, h2] at e; cases e; exact hr _ rfl
  · rw [q, h1] at e; cases e; exact hu _ rfl
theorem Sto.chg {H H' : Hp} (k : Chg H H' r u) (h : LogAt H X r u st es com) {st' : Addr} (s : Sto H X st') : Sto H' X st' := by
  obtain ⟨hd, cf, sn, sl, h1, h2, h3⟩ := s.ex
  exact ⟨hd, cf, sn, sl, k.at_ h h1 (fun _ q => by cases q) (fun _ q => by cases q), k.at_ h h2 (fun _ q => by cases q) (fun _ q => by cases q), h3⟩
theorem EntV.chg {H H' : Hp} (k : Chg H H' r u) (h : LogAt H X r u st es com) (e : EntV H i vs ns) : EntV H' i vs ns := e.le fun a fs e => k.at_ h e (fun _ q => by cases q) (fun _ q => by cases q)
theorem LogAt.fxc {H H' : Hp} (k : Chg H H' r u) (h : LogAt H X r u st es com) (hr : ∃ o, H' r = some o) (hu : ∃ o, H' u = some o) (a : Addr) (q : X a) : ∃ o, H' a = some o := by
  obtain ⟨o, e⟩ := h.fx a q
  by_cases h1 : a = r
  · rw [h1]; exact hr
  by_cases h2 : a = u
  · rw [h2]; exact hu
  exact ⟨o, k a o e h1 h2⟩
/-- the log is put together again -/
theorem LogAt.chg {H H' : Hp} (k : Chg H H' r u) (h : LogAt H X r u st es com) {el' : Addr} {vs' : List V} {es' : List Ent} {com' : Int} {mc' : V} (hr : H' r = some (.inst 721 (RaftLogFs (.ref st) mc' (.ref u) (.int com') (.int 0)))) (hu : Uns H' u el' vs' es') (hx : ¬ X el') : LogAt H' X r u st es' com' := by
  obtain ⟨el, vs, mc, _, _, hs, _⟩ := h.ex
  exact ⟨⟨el', vs', mc', hr, hu, hs.chg k h, hx⟩, fun a q => h.fxc k ⟨_, hr⟩ ⟨_, hu.u⟩ a q⟩
theorem LogAt.notX (h : LogAt H X r u st es com) {n : Addr} (hn : H n = none) : ¬ X n := fun q => by
  obtain ⟨o, e⟩ := h.fx n q
  rw [hn] at e; cases e
/-- another log stands as it stood -/
theorem LogAt.other {H H' : Hp} (k : Chg H H' r u) (h : LogAt H X r u st es com) {r' u' st' : Addr} {es' : List Ent} {com' : Int} (h' : LogAt H X r' u' st' es' com') (nr : r' ≠ r) (nu : u' ≠ u) (hr : ∃ o, H' r = some o) (hu : ∃ o, H' u = some o) : LogAt H' X r' u' st' es' com' := by
  have hfx := h.fxc k hr hu
  obtain ⟨el', vs', mc', h1, h2, h3, h4⟩ := h'.ex
  obtain ⟨el, hu1⟩ := h.uu
  obtain ⟨mc, hr1⟩ := h.rr
  refine ⟨⟨el', vs', mc', k _ _ h1 nr (fun q => ?_), ⟨k _ _ h2.u (fun q => ?_) nu, k.at_ h h2.l (fun _ q => by cases q) (fun _ q => by cases q), h2.e.chg k h, h2.z⟩, h3.chg k h, h4⟩, hfx⟩
  · rw [q, hu1] at h1; cases h1
  · have := h2.u; rw [q, hr1] at this; cases this
theorem LogAt.le {H H' : Hp} (l : H.Le H') (h : LogAt H X r u st es com) : LogAt H' X r u st es com := by
  obtain ⟨el, vs, mc, h1, h2, ⟨hd, cf, sn, sl, h3, h4, h5⟩, h6⟩ := h.ex
  exact ⟨⟨el, vs, mc, l _ _ h1, ⟨l _ _ h2.u, l _ _ h2.l, h2.e.le fun a fs e => l _ _ e, h2.z⟩, ⟨hd, cf, sn, sl, l _ _ h3, l _ _ h4, h5⟩, h6⟩, fun a q => let ⟨o, e⟩ := h.fx a q; ⟨o, l _ _ e⟩⟩
/-- what appending leaves -/
noncomputable def appE (es ns : List Ent) (k : Int) : List Ent := if ns.length = 0 then es else es.take (k - 1).toNat ++ ns
theorem fn_append (hD : IsD D) (hl : LogAt H X r u st es com) (hx : H xl = some (.list xs)) (hn : EntV H k xs ns) (hk : 1 ≤ ns.length → 1 ≤ k ∧ k ≤ es.length + 1 ∧ com < k) (hzz : es.length + ns.length ≤ 100)
    (h : Hold (∀ H', Chg H H' r u → LogAt H' X r u st (appE es ns k) com → Q (.int (appE es ns k).length) H')) : Fn D 3 592 [.ref r, .ref xl] Q H := by
  refine fn_def (hK := by rw [hD.k]; k_is) (hcd := by rw [hD.k]; k_is) (ns := ["self", "entries"]) ?_ ?_ ?_ rfl rfl rfl ?_
  · exact fun _ _ => rfl
  · decide
  · decide
  intro c cD cn cs cc cr
  subst cD
  have hl0 := hl
  have lgX := hl
  obtain ⟨⟨el, vs, mc, hr, hu, hs, hX⟩, hfx⟩ := lgX
  have hu1 := hu.u
  have hu2 := hu.l
  obtain ⟨hd, cf, sn, sl, hs1, hs2, hs3⟩ := hs.ex
  have lv := hu.e.length
  have hz := hu.z
  have ln := hn.length
  by_cases z : ns.length = 0
  · with_reducible refine' s_cons (s_if (t_cmp (w_call ?_)))
    refine' gl_len ‹_› (kof ‹_› rfl) ?_
    refine' cv_raw rfl ?_
    with_reducible refine' w_es_cons ?_
    refine' w_local rfl ?_
    with_reducible refine' w_es_nil ?_
    refine' f_len hx (by lia) ?_
    with_reducible refine' w_int (c_eq (tr_bool (br_eq ?_ ?_)))
    with_reducible refine' fun _ => s_one (s_ret (w_meth ?_))
    refine' w_local rfl ?_
    with_reducible refine' me_RaftLog_last_index ‹_› hr ?_
    refine' cm_one (kp_of ‹_› rfl) ?_
    with_reducible refine' w_es_nil ?_
    refine' Fn.go (fn_last_index ‹_› hl0 ?_) (Room.le ‹_› (by decide))
    with_reducible refine' th_ret ?_
    rotate_left
    with_reducible refine' fun _ => ?_
    exact False.elim (by lia)
    have := h H Chg.refl (by rw [appE, if_pos z]; exact hl0)
    rw [appE, if_pos z] at this
    exact this
  · obtain ⟨a, e, f1, f2, f3⟩ := hn.first (by (first | lia | omega))
    have hk := hk (by (first | lia | omega))
    with_reducible refine' s_cons (s_if (t_cmp (w_call ?_)))
    refine' gl_len ‹_› (kof ‹_› rfl) ?_
    refine' cv_raw rfl ?_
    with_reducible refine' w_es_cons ?_
    refine' w_local rfl ?_
    with_reducible refine' w_es_nil ?_
    refine' f_len hx (by lia) ?_
    with_reducible refine' w_int (c_eq (tr_bool (br_eq ?_ ?_)))
    with_reducible refine' fun _ => ?_
    exact False.elim (by lia)
    with_reducible refine' fun _ => s_nil (th_next (s_cons (s_assign (w_bin (att (w_sub ?_))))))
    refine' w_local rfl ?_
    with_reducible refine' w_int ?_
    refine' i_list hx (by decide) (by decide) f1 ?_
    refine' gfG ‹_› f3 rfl rfl rfl ?_
    with_reducible refine' w_int (b_sub ?_)
    refine' st_local (lof ‹_› ⟨rfl, rfl⟩) ?_
    with_reducible refine' th_next (s_cons (s_if (t_cmp ?_)))
    refine' w_local rfl ?_
    with_reducible refine' att ?_
    refine' w_local rfl ?_
    refine' gfG ‹_› hr rfl rfl rfl ?_
    with_reducible refine' c_lt (tr_bool (br_d ?_ ?_))
    with_reducible refine' fun _ => ?_
    exact False.elim (by lia)
    with_reducible refine' fun _ => s_nil (th_next (s_cons (s_if (t_cmp ?_))))
    refine' w_local rfl ?_
    with_reducible refine' w_meth ?_
    refine' w_local rfl ?_
    with_reducible refine' me_RaftLog_last_index ‹_› hr ?_
    refine' cm_one (kp_of ‹_› rfl) ?_
    with_reducible refine' w_es_nil ?_
    refine' Fn.go (fn_last_index ‹_› hl0 ?_) (Room.le ‹_› (by decide))
    with_reducible refine' c_gt (tr_bool (br_d ?_ ?_))
    with_reducible refine' fun _ => ?_
    exact False.elim (by lia)
    with_reducible refine' fun _ => s_nil (th_next (s_cons (s_ex (w_meth (att ?_)))))
    refine' w_local rfl ?_
    refine' gfG ‹_› hr rfl rfl rfl ?_
    with_reducible refine' me_Unstable_truncate_and_append ‹_› hu1 ?_
    refine' cm_one (kp_of ‹_› rfl) ?_
    with_reducible refine' w_es_cons ?_
    refine' w_local rfl ?_
    with_reducible refine' w_es_nil ?_
    refine Fn.go (fn_truncate_and_append hD hu hx hn (fun _ => ⟨hk.1, hk.2.1⟩) hzz ?_) (Room.le ‹_› (by decide))
    intro H' el' vs' k1 k2 k4 k3
    have kc : Chg H H' r u := fun a o e _ n => k1 a o e n
    have hl1 : LogAt H' X r u st (appE es ns k) com := LogAt.chg kc hl0 (k1 _ _ hr fun q => by rw [q, hu1] at hr; cases hr) k3 (k4.elim (fun q => q ▸ hX) hl0.notX)
    have lgX := hl1
    obtain ⟨⟨el, vs, mc, hr, hu, hs, hX⟩, hfx⟩ := lgX
    have hu1 := hu.u
    have hu2 := hu.l
    obtain ⟨hd, cf, sn, sl, hs1, hs2, hs3⟩ := hs.ex
    have lv := hu.e.length
    have hz := hu.z
    refine' ⟨rfl, ?_⟩
    with_reducible refine' th_next (s_one (s_ret (w_meth ?_)))
    refine' w_local rfl ?_
    with_reducible refine' me_RaftLog_last_index ‹_› hr ?_
    refine' cm_one (kp_of ‹_› rfl) ?_
    with_reducible refine' w_es_nil ?_
    refine' Fn.go (fn_last_index ‹_› hl1 ?_) (Room.le ‹_› (by decide))
    exact h H' kc hl1
theorem fn_unstable_entries (hD : IsD D) (hl : LogAt H X r u st es com) (h : ∀ n vs, H n = none → EntV H 1 vs es → Q (.ref n) (H.set n (.list vs))) : Fn D 1 655 [.ref r] Q H := by
  refine fn_def (hK := by rw [hD.k]; k_is) (hcd := by rw [hD.k]; k_is) (ns := ["self"]) ?_ ?_ ?_ rfl rfl rfl ?_
  · exact fun _ => rfl
  · decide
  · decide
  intro c cD cn cs cc cr
  subst cD
  have lgX := hl
  obtain ⟨⟨el, vs, mc, hr, hu, hs, hX⟩, hfx⟩ := lgX
  have hu1 := hu.u
  have hu2 := hu.l
  obtain ⟨hd, cf, sn, sl, hs1, hs2, hs3⟩ := hs.ex
  have lv := hu.e.length
  have hz := hu.z
  with_reducible refine' s_one (s_ret (w_slice (att (att ?_))))
  refine' w_local rfl ?_
  refine' gfG ‹_› hr rfl rfl rfl ?_
  refine' gfG ‹_› hu1 rfl rfl rfl ?_
  with_reducible refine' p_none (p_none ?_)
  refine' slx hu2 (by lia) bdn bdn ?_
  with_reducible refine' fun _ _ => ?_
  exact h _ vs ‹_› hu.e
theorem fn_commit_to (hD : IsD D) (hl : LogAt H X r u st es com) (hi : i ≤ es.length) (h : Hold (∀ H', Chg H H' r u → LogAt H' X r u st es (max com i) → Q .none H')) : Fn D 3 620 [.ref r, .int i] Q H := by
  refine fn_def (hK := by rw [hD.k]; k_is) (hcd := by rw [hD.k]; k_is) (ns := ["self", "i"]) ?_ ?_ ?_ rfl rfl rfl ?_
  · exact fun _ _ => rfl
  · decide
  · decide
  intro c cD cn cs cc cr
  subst cD
  have hl0 := hl
  have lgX := hl
  obtain ⟨⟨el, vs, mc, hr, hu, hs, hX⟩, hfx⟩ := lgX
  have hu1 := hu.u
  have hu2 := hu.l
  obtain ⟨hd, cf, sn, sl, hs1, hs2, hs3⟩ := hs.ex
  have lv := hu.e.length
  have hz := hu.z
  with_reducible refine' s_cons (s_if (t_cmp ?_))
  refine' w_local rfl ?_
  with_reducible refine' att ?_
  refine' w_local rfl ?_
  refine' gfG ‹_› hr rfl rfl rfl ?_
  with_reducible refine' c_le (tr_bool (br_d ?_ ?_))
  with_reducible refine' fun _ => s_one (s_ret0 (th_ret ?_))
  rotate_left
  with_reducible refine' fun _ => s_nil (th_next (s_cons (s_if (t_cmp ?_))))
  refine' w_local rfl ?_
  with_reducible refine' w_meth ?_
  refine' w_local rfl ?_
  with_reducible refine' me_RaftLog_last_index ‹_› hr ?_
  refine' cm_one (kp_of ‹_› rfl) ?_
  with_reducible refine' w_es_nil ?_
  refine' Fn.go (fn_last_index ‹_› hl0 ?_) (Room.le ‹_› (by decide))
  with_reducible refine' c_gt (tr_bool (br_d ?_ ?_))
  with_reducible refine' fun _ => ?_
  exact False.elim (by lia)
  with_reducible refine' fun _ => s_nil (th_next (s_one (s_assignA ?_)))
  refine' w_local rfl ?_
  refine' w_local rfl ?_
  with_reducible refine' pf_RaftLog_committed ‹_› hr ?_
  rotate_left
  · exact h H Chg.refl (by rw [show max com i = com by (first | lia | omega)]; exact hl0)
  · refine h _ (fun a o e n _ => hs_ne n e) ?_
    have kc : Chg H (H.set r (.inst 721 (RaftLogFs (.ref st) mc (.ref u) (.int i) (.int 0)))) r u := fun a o e n _ => hs_ne n e
    rw [show max com i = i by (first | lia | omega)]
    refine LogAt.chg kc hl0 hs_self ⟨hs_put hr hu.u (fun q => by cases q), hs_put hr hu.l (fun q => by cases q), hu.e.chg kc hl0, hu.z⟩ hX
theorem fn_maybe_commit (hD : IsD D) (hl : LogAt H X r u st es com) (hi : 0 ≤ i ∧ i ≤ es.length ∧ 0 ≤ com) (h0 : Hold (i ≤ com ∨ t = 0 ∨ tmE es i ≠ t → Q (.bool false) H)) (h1 : Hold (com < i → t ≠ 0 → tmE es i = t → ∀ H', Chg H H' r u → LogAt H' X r u st es i → Q (.bool true) H')) : Fn D 5 627 [.ref r, .int i, .int t] Q H := by
  refine fn_def (hK := by rw [hD.k]; k_is) (hcd := by rw [hD.k]; k_is) (ns := ["self", "i", "term"]) ?_ ?_ ?_ rfl rfl rfl ?_
  · exact fun _ _ _ => rfl
  · decide
  · decide
  intro c cD cn cs cc cr
  subst cD
  have hl0 := hl
  have lgX := hl
  obtain ⟨⟨el, vs, mc, hr, hu, hs, hX⟩, hfx⟩ := lgX
  have hu1 := hu.u
  have hu2 := hu.l
  obtain ⟨hd, cf, sn, sl, hs1, hs2, hs3⟩ := hs.ex
  have lv := hu.e.length
  have hz := hu.z
  with_reducible refine' s_cons (s_if (t_bool (a_or (t_cmp ?_))))
  refine' w_local rfl ?_
  with_reducible refine' att ?_
  refine' w_local rfl ?_
  refine' gfG ‹_› hr rfl rfl rfl ?_
  with_reducible refine' c_le (tr_bool (br_d ?_ ?_))
  with_reducible refine' fun _ => br_t (s_one (s_ret (w_bool (th_ret ?_))))
  rotate_left
  with_reducible refine' fun _ => a_or (t_cmp ?_)
  refine' w_local rfl ?_
  with_reducible refine' w_int (c_eq (tr_bool (br_eq ?_ ?_)))
  with_reducible refine' fun _ => br_t (s_one (s_ret (w_bool (th_ret ?_))))
  rotate_left
  with_reducible refine' fun _ => a_or (t_cmp (w_meth ?_))
  refine' w_local rfl ?_
  with_reducible refine' me_RaftLog_term_or_zero ‹_› hr ?_
  refine' cm_one (kp_of ‹_› rfl) ?_
  with_reducible refine' w_es_cons ?_
  refine' w_local rfl ?_
  with_reducible refine' w_es_nil ?_
  refine' Fn.go (fn_term_or_zero ‹_› hl0 (by lia) ?_ ?_) (Room.le ‹_› (by decide))
  with_reducible refine' fun _ => ?_
  exact False.elim (by lia)
  with_reducible refine' fun _ _ => ?_
  refine' w_local rfl ?_
  with_reducible refine' c_ne (tr_bool (br_ne ?_ ?_))
  with_reducible refine' fun _ => br_t (s_one (s_ret (w_bool (th_ret ?_))))
  rotate_left
  with_reducible refine' fun _ => a_or_nil (br_f (s_nil (th_next (s_cons (s_ex (w_meth ?_))))))
  refine' w_local rfl ?_
  with_reducible refine' me_RaftLog_commit_to ‹_› hr ?_
  refine' cm_one (kp_of ‹_› rfl) ?_
  with_reducible refine' w_es_cons ?_
  refine' w_local rfl ?_
  with_reducible refine' w_es_nil ?_
  refine' Fn.go (fn_commit_to ‹_› hl0 (by lia) ?_) (Room.le ‹_› (by decide))
  rotate_left
  · exact h0 (.inl ‹_›)
  · exact h0 (.inr (.inl ‹_›))
  · exact h0 (.inr (.inr ‹_›))
  · intro H' k1 k2
    refine' ⟨rfl, ?_⟩
    with_reducible refine' th_next (s_one (s_ret (w_bool ?_)))
    rw [show max com i = i by (first | lia | omega)] at k2
    exact h1 (by (first | lia | omega)) ‹_› ‹_› H' k1 k2
end

end Rk
namespace Rk

section
variable {D : Wd} {d : Nat} {H : Hp} {X : Addr → Prop} {u el r st xl : Addr} {vs xs : List V} {es ns : List Ent} {com i t k : Int} {Q : V → Hp → Prop} {P : Addr → Hp → Prop}
noncomputable def mtch (es : List Ent) (i t : Int) : Bool := decide (i ≤ es.length) && (tmE es i == t)
/-- the first place of ns, from k on, whose term is another one; 0 if there is none -/
noncomputable def fc (es : List Ent) : Int → List Ent → Int
  | _, [] => 0
  | k, e :: r => if mtch es k e.1 then fc es (k + 1) r else k
theorem EntV.at {H : Hp} {i : Int} {vs : List V} {es : List Ent} (h : EntV H i vs es) {j : Nat} {v : V} (e : vs[j]? = some v) : ∃ x a, es[j]? = some x ∧ v = .ref a ∧ H a = some (.inst 189 (EntryFs (.int x.1) (.int (i + j)) (.int 0) (.bytes x.2))) := by
  have hl := h.length
  have lt : j < es.length := by rw [← hl]; exact (List.getElem?_eq_some_iff.mp e).1
  obtain ⟨a, h1, h2⟩ := h.get (List.getElem?_eq_getElem lt)
  rw [e] at h1; cases h1
  exact ⟨_, a, List.getElem?_eq_getElem lt, rfl, h2⟩
theorem fc_step {es ns : List Ent} {k : Int} {j : Nat} {x : Ent} (h : ns[j]? = some x) : fc es (k + j) (ns.drop j) = if mtch es (k + j) x.1 then fc es (k + (j + 1 : Nat)) (ns.drop (j + 1)) else k + j := by
  have lt := (List.getElem?_eq_some_iff.mp h).1
  rw [List.drop_eq_getElem_cons lt, (List.getElem?_eq_some_iff.mp h).2]
  rw [fc, show k + (j : Int) + 1 = k + ((j + 1 : Nat) : Int) by (first | lia | omega)]
/-- the entry before is held -/
noncomputable def held0 (es : List Ent) (i t : Int) : Bool := if i = 0 then 0 == t else mtch es i t
theorem fn_match2 (hD : IsD D) (hl : LogAt H X r u st es com) (hi : 0 ≤ i ∧ i ≤ 900) (h : Q (.bool (held0 es i t)) H) : Fn D 4 571 [.ref r, .int i, .int t] Q H := by
  refine fn_match_term hD hl hi (fun q => ?_) (fun q1 q2 => ?_) (fun q => ?_)
  · rw [held0, if_pos q] at h; exact h
  · rw [held0, if_neg (by (first | lia | omega)), mtch, decide_eq_true q2, Bool.true_and] at h; exact h
  · rw [held0, if_neg (by (first | lia | omega)), mtch, decide_eq_false (by (first | lia | omega)), Bool.false_and] at h; exact h
theorem fn_find_conflict (hD : IsD D) (hl : LogAt H X r u st es com) (hx : H xl = some (.list xs)) (hn : EntV H k xs ns) (hk : 1 ≤ k ∧ k + ns.length ≤ 900)
    (h : Hold (∀ H', H.Le H' → Q (.int (fc es k ns)) H')) : Fn D 5 599 [.ref r, .ref xl] Q H := by
  refine fn_def (hK := by rw [hD.k]; k_is) (hcd := by rw [hD.k]; k_is) (ns := ["self", "entries"]) ?_ ?_ ?_ rfl rfl rfl ?_
  · exact fun _ _ => rfl
  · decide
  · decide
  intro c cD cn cs cc cr
  subst cD
  with_reducible refine' s_cons (s_for ?_)
  refine' w_local rfl ?_
  with_reducible refine' it_list hx (fun _ _ => itx ?_)
  rename_i it hit
  have hit' : H it = none := hit
  have ln := hn.length
  let Ix1 : Nat → St → Prop := fun j σ => σ.m "self" = some (.ref r) ∧ σ.H it = some (.li xl j) ∧ H.Le σ.H ∧ fc es k ns = fc es (k + j) (ns.drop j)
  refine loop_list (l := xl) (vs := xs) Ix1 ?_ ?_ ?_ (by with_unfolding_all rfl) (Nat.zero_le _) ⟨rfl, hs_self, Hp.Le.set _ hit', by simp⟩
  · rintro j σ ⟨h1, h2, h3, h4⟩
    exact ⟨h2, h3 _ _ hx⟩
  · rintro j v ⟨m, H1⟩ lt hv ⟨h1, h2, h3, h4⟩
    obtain ⟨x, a, q1, rfl, q2⟩ := hn.at hv
    have q2' := h3 _ _ q2
    have hl' : LogAt (H1.set it (.li xl (j + 1))) X r u st es com := hl.le (Hp.Le.setN hit' h3)
    have h1' : m "self" = some (.ref r) := h1
    rw [fc_step q1] at h4
    have hk1 : 1 ≤ k + (j : Int) ∧ k + (j : Int) ≤ 900 := by (first | lia | omega)
    have lgX := hl'
    obtain ⟨⟨el, vs, mc, hr, hu, hs, hX⟩, hfx⟩ := lgX
    have hu1 := hu.u
    have hu2 := hu.l
    obtain ⟨hd, cf, sn, sl, hs1, hs2, hs3⟩ := hs.ex
    have lv := hu.e.length
    have hz := hu.z
    with_reducible refine' as_name ?_
    refine' st_local (lof ‹_› ⟨rfl, rfl⟩) ?_
    with_reducible refine' s_one (s_if (t_not (t_val (w_meth ?_))))
    refine' w_local h1' ?_
    with_reducible refine' me_RaftLog_match_term ‹_› hr ?_
    refine' cm_one (kp_of ‹_› rfl) ?_
    with_reducible refine' w_es_cons (att ?_)
    refine' w_local rfl ?_
    refine' gfG ‹_› (hg_up (hg_put h2 q2' (by intro h; cases h))) rfl rfl rfl ?_
    with_reducible refine' w_es_cons (att ?_)
    refine' w_local rfl ?_
    refine' gfG ‹_› (hg_up (hg_put h2 q2' (by intro h; cases h))) rfl rfl rfl ?_
    with_reducible refine' w_es_nil ?_
    refine' Fn.go (fn_match2 ‹_› hl' (by lia) ?_) (Room.le ‹_› (by decide))
    with_reducible refine' tr_bool (br_nb ?_ ?_)
    with_reducible refine' fun _ => s_one (s_ret (att ?_))
    refine' w_local rfl ?_
    refine' gfG ‹_› (hg_up (hg_put h2 q2' (by intro h; cases h))) rfl rfl rfl ?_
    with_reducible refine' tu_ret (th_ret ?_)
    rotate_left
    with_reducible refine' fun _ => s_nil (tu_next ?_)
    rotate_left
    · rename_i q
      rw [held0, if_neg (by (first | lia | omega))] at q
      have z := h _ (Hp.Le.setN (o := .li xl (j + 1)) hit' h3)
      rw [h4, q] at z
      exact z
    · rename_i q
      rw [held0, if_neg (by (first | lia | omega))] at q
      rw [q] at h4
      exact ⟨h1', hs_self, Hp.Le.setN hit' h3, h4⟩
  · rintro ⟨m, H1⟩ ⟨h1, h2, h3, h4⟩
    rw [List.drop_of_length_le (by (first | lia | omega))] at h4
    with_reducible refine' th_next (s_one (s_ret (w_int ?_)))
    have z := h _ (Hp.Le.del h3 hit')
    rw [h4] at z
    exact z
variable {cm : Int}
noncomputable def mrg (es : List Ent) (i : Int) (ns : List Ent) : List Ent := if fc es (i + 1) ns = 0 then es else appE es (ns.drop (fc es (i + 1) ns - (i + 1)).toNat) (fc es (i + 1) ns)
theorem fc_range {es : List Ent} : ∀ {k : Int} {ns : List Ent}, 1 ≤ k → k ≤ (es.length : Int) + 1 → (fc es k ns = 0 ∧ k + ns.length ≤ es.length + 1) ∨ (k ≤ fc es k ns ∧ fc es k ns < k + ns.length ∧ fc es k ns ≤ es.length + 1)
  | k, [], h, h' => .inl ⟨rfl, by simp; (first | lia | omega)⟩
  | k, e :: r, h, h' => by
    rw [fc]
    by_cases q : mtch es k e.1 = true
    · rw [if_pos q]
      have : k ≤ es.length := by
        simp only [mtch, Bool.and_eq_true, decide_eq_true_eq] at q; exact q.1
      rcases fc_range (es := es) (k := k + 1) (ns := r) (by (first | lia | omega)) (by (first | lia | omega)) with h1 | h1
      · left; rw [List.length_cons]; push_cast; (first | lia | omega)
      · right; rw [List.length_cons]; push_cast; (first | lia | omega)
    · rw [if_neg q]
      right; rw [List.length_cons]; push_cast; (first | lia | omega)
theorem mrg_len {es ns : List Ent} {i : Int} (h0 : 0 ≤ i) (hi : i ≤ es.length) : i + ns.length ≤ (mrg es i ns).length ∧ (mrg es i ns).length ≤ es.length + ns.length := by
  unfold mrg
  rcases fc_range (es := es) (k := i + 1) (ns := ns) (by (first | omega | lia)) (by (first | omega | lia)) with h1 | h1
  · rw [if_pos h1.1]; (first | omega | lia)
  · rw [if_neg (by (first | omega | lia))]
    unfold appE
    have l1 : (ns.drop (fc es (i + 1) ns - (i + 1)).toNat).length = ns.length - (fc es (i + 1) ns - (i + 1)).toNat := List.length_drop
    rw [if_neg (by (first | omega | lia)), List.length_append, List.length_take, l1]
    (first | omega | lia)
theorem fn_maybe_append (hD : IsD D) (hl : LogAt H X r u st es com) (hx : H xl = some (.list xs)) (hn : EntV H (i + 1) xs ns) (hi : 0 ≤ i ∧ i ≤ 100) (hz : es.length + ns.length ≤ 100) (hc : held0 es i t = true → fc es (i + 1) ns = 0 ∨ com < fc es (i + 1) ns)
    (h0 : held0 es i t = false → Q .none H) (h1 : held0 es i t = true → Hold (∀ H', Chg H H' r u → LogAt H' X r u st (mrg es i ns) (max com (min cm (i + ns.length))) → Q (.int (i + ns.length)) H')) : Fn D 6 585 [.ref r, .int i, .int t, .int cm, .ref xl] Q H := by
  refine fn_def (hK := by rw [hD.k]; k_is) (hcd := by rw [hD.k]; k_is) (ns := ["self", "index", "log_term", "committed", "entries"]) ?_ ?_ ?_ rfl rfl rfl ?_
  · exact fun _ _ _ _ _ => rfl
  · decide
  · decide
  intro c cD cn cs cc cr
  subst cD
  have ln := hn.length
  have hl0 := hl
  have lgX := hl
  obtain ⟨⟨el, vs, mc, hr, hu, hs, hX⟩, hfx⟩ := lgX
  have hu1 := hu.u
  have hu2 := hu.l
  obtain ⟨hd, cf, sn, sl, hs1, hs2, hs3⟩ := hs.ex
  have lv := hu.e.length
  have hz := hu.z
  with_reducible refine' s_cons (s_if (t_not (t_val (w_meth ?_))))
  refine' w_local rfl ?_
  with_reducible refine' me_RaftLog_match_term ‹_› hr ?_
  refine' cm_one (kp_of ‹_› rfl) ?_
  with_reducible refine' w_es_cons ?_
  refine' w_local rfl ?_
  with_reducible refine' w_es_cons ?_
  refine' w_local rfl ?_
  with_reducible refine' w_es_nil ?_
  refine' Fn.go (fn_match2 ‹_› hl0 (by lia) ?_) (Room.le ‹_› (by decide))
  with_reducible refine' tr_bool (br_nb ?_ ?_)
  with_reducible refine' fun _ => s_one (s_ret (w_none (th_ret ?_)))
  rotate_left
  with_reducible refine' fun _ => s_nil (th_next (s_cons (s_for (w_call ?_))))
  refine' gl_range ‹_› (kof ‹_› rfl) ?_
  refine' cv_raw rfl ?_
  with_reducible refine' w_es_cons (w_call ?_)
  refine' gl_len ‹_› (kof ‹_› rfl) ?_
  refine' cv_raw rfl ?_
  with_reducible refine' w_es_cons ?_
  refine' w_local rfl ?_
  with_reducible refine' w_es_nil ?_
  refine' f_len hx (by lia) ?_
  with_reducible refine' w_es_nil (f_range1 (fun _ _ => ?_))
  refine' it_rgN hg_self (by lia) ?_
  with_reducible refine' fun _ _ => itx ?_
  rotate_left
  · exact h0 ‹_›
  rename_i hq n1 hn1 it hit
  have hi1 : i ≤ es.length := by
    rw [held0] at hq
    split at hq
    · (first | lia | omega)
    · simp only [mtch, Bool.and_eq_true, decide_eq_true_eq] at hq; exact hq.1
  have h1 := h1 hq
  have hc := hc hq
  have hit' : H it = none := none_set hit
  have lz : (xs.length : Int) - 0 = ns.length := by (first | lia | omega)
  rw [lz, Int.toNat_natCast]
  let Ix2 : Int → Nat → St → Prop := fun x n σ => x + n = ns.length ∧ 0 ≤ x ∧ σ.m "self" = some (.ref r) ∧ σ.m "index" = some (.int i) ∧ σ.m "committed" = some (.int cm) ∧ σ.m "entries" = some (.ref xl) ∧ σ.H it = some (.ri x n) ∧ H.Le σ.H
  refine loop_rg Ix2 ?_ ?_ ?_ (by with_unfolding_all rfl) ⟨by (first | lia | omega), by (first | lia | omega), rfl, rfl, rfl, rfl, hs_self, (Hp.Le.set _ hn1).trans (Hp.Le.set _ hit)⟩
  · rintro x n σ ⟨_, _, _, _, _, _, h, _⟩
    exact h
  · rintro x n ⟨m, H1⟩ ⟨z1, z2, m1, m2, m3, m4, _, l1⟩
    have m1' : m "self" = some (.ref r) := m1
    have m2' : m "index" = some (.int i) := m2
    have m4' : m "entries" = some (.ref xl) := m4
    have lt : x.toNat < ns.length := by (first | lia | omega)
    obtain ⟨a, g1, g2⟩ := hn.get (List.getElem?_eq_getElem lt)
    have l2 : H.Le (H1.set it (.ri (x + 1) n)) := Hp.Le.setN hit' l1
    have hx2 := l2 _ _ hx
    have g3 := l2 _ _ g2
    with_reducible refine' as_name ?_
    refine' st_local (lof ‹_› ⟨rfl, rfl⟩) ?_
    with_reducible refine' s_one (s_if (t_cmp (att (w_sub ?_))))
    refine' w_local m4' ?_
    refine' w_local rfl ?_
    refine' i_list hx2 (by lia) (by lia) g1 ?_
    refine' gfG ‹_› g3 rfl rfl rfl ?_
    with_reducible refine' w_bin (w_bin ?_)
    refine' w_local m2' ?_
    with_reducible refine' w_int (b_add ?_)
    refine' w_local rfl ?_
    with_reducible refine' b_add (c_ne (tr_bool (br_ne ?_ ?_)))
    with_reducible refine' fun _ => ?_
    exact False.elim (by lia)
    with_reducible refine' fun _ => s_nil (tu_next ?_)
    exact ⟨by (first | lia | omega), by (first | lia | omega), m1', m2', m3, m4', hs_self, l2⟩
  · rintro x ⟨m, H1⟩ ⟨z1, z2, m1, m2, m3, m4, _, l1⟩
    have m1' : m "self" = some (.ref r) := m1
    have m2' : m "index" = some (.int i) := m2
    have m3' : m "committed" = some (.int cm) := m3
    have m4' : m "entries" = some (.ref xl) := m4
    have l2 : H.Le (H1.del it) := Hp.Le.del l1 hit'
    have hx2 := l2 _ _ hx
    have hl2 := hl0.le l2
    have hn2 : EntV (H1.del it) (i + 1) xs ns := hn.le fun a fs => l2 _ _
    have lgX := hl2
    obtain ⟨⟨el, vs, mc, hr, hu, hs, hX⟩, hfx⟩ := lgX
    have hu1 := hu.u
    have hu2 := hu.l
    obtain ⟨hd, cf, sn, sl, hs1, hs2, hs3⟩ := hs.ex
    have lv := hu.e.length
    have hz := hu.z
    with_reducible refine' th_next (s_cons (s_assign (w_bin ?_)))
    refine' w_local m2' ?_
    with_reducible refine' w_call ?_
    refine' gl_len ‹_› (kof ‹_› rfl) ?_
    refine' cv_raw rfl ?_
    with_reducible refine' w_es_cons ?_
    refine' w_local m4' ?_
    with_reducible refine' w_es_nil ?_
    refine' f_len hx2 (by lia) ?_
    with_reducible refine' b_add ?_
    refine' st_local (lof ‹_› ⟨rfl, rfl⟩) ?_
    with_reducible refine' th_next (s_cons (s_assign (w_meth ?_)))
    refine' w_local m1' ?_
    with_reducible refine' me_RaftLog_find_conflict ‹_› hr ?_
    refine' cm_one (kp_of ‹_› rfl) ?_
    with_reducible refine' w_es_cons ?_
    refine' w_local m4' ?_
    with_reducible refine' w_es_nil ?_
    refine' Fn.go (fn_find_conflict ‹_› hl2 hx2 hn2 (by lia) ?_) (Room.le ‹_› (by decide))
    intro H2 l3
    have l3' : H.Le H2 := l2.trans l3
    have hx3 := l3' _ _ hx
    have hl3 := hl0.le l3'
    have hn3 : EntV H2 (i + 1) xs ns := hn.le fun a fs => l3' _ _
    have rg := fc_range (es := es) (k := i + 1) (ns := ns) (by (first | lia | omega)) (by (first | lia | omega))
    have lgX := hl3
    obtain ⟨⟨el, vs, mc, hr, hu, hs, hX⟩, hfx⟩ := lgX
    have hu1 := hu.u
    have hu2 := hu.l
    obtain ⟨hd, cf, sn, sl, hs1, hs2, hs3⟩ := hs.ex
    have lv := hu.e.length
    have hz := hu.z
    have ml := mrg_len (es := es) (ns := ns) hi.1 hi1
    refine' st_local (lof ‹_› ⟨rfl, rfl⟩) ?_
    with_reducible refine' th_next (s_cons (s_if (t_cmp ?_)))
    refine' w_local rfl ?_
    with_reducible refine' w_int (c_ne (tr_bool (br_ne ?_ ?_)))
    with_reducible refine' fun _ => s_cons (s_if (t_cmp ?_))
    refine' w_local rfl ?_
    with_reducible refine' att ?_
    refine' w_local m1' ?_
    refine' gfG ‹_› hr rfl rfl rfl ?_
    with_reducible refine' c_le (tr_bool (br_d ?_ ?_))
    with_reducible refine' fun _ => ?_
    exact False.elim (by lia)
    with_reducible refine' fun _ => s_nil (th_next (s_one (s_ex (w_meth ?_))))
    refine' w_local m1' ?_
    with_reducible refine' me_RaftLog_append ‹_› hr ?_
    refine' cm_one (kp_of ‹_› rfl) ?_
    with_reducible refine' w_es_cons (w_slice ?_)
    refine' w_local m4' ?_
    with_reducible refine' p_some (w_bin ?_)
    refine' w_local rfl ?_
    with_reducible refine' w_bin ?_
    refine' w_local m2' ?_
    with_reducible refine' w_int (b_add (b_sub (p_none ?_)))
    refine' slx hx3 (by lia) (bdi (by first | lia | omega)) bdn ?_
    with_reducible refine' fun _ _ => w_es_nil ?_
    rotate_left
    with_reducible refine' fun _ => s_nil (th_next (s_cons (s_ex (w_meth ?_))))
    refine' w_local m1' ?_
    with_reducible refine' me_RaftLog_commit_to ‹_› hr ?_
    refine' cm_one (kp_of ‹_› rfl) ?_
    with_reducible refine' w_es_cons (w_call ?_)
    refine' gl_min ‹_› (kof ‹_› rfl) ?_
    refine' cv_raw rfl ?_
    with_reducible refine' w_es_cons ?_
    refine' w_local m3' ?_
    with_reducible refine' w_es_cons ?_
    refine' w_local rfl ?_
    with_reducible refine' w_es_nil (f_min2 (w_es_nil ?_))
    refine' Fn.go (fn_commit_to ‹_› hl3 (by lia) ?_) (Room.le ‹_› (by decide))
    rotate_left
    · rename_i q1 q2 n hn'
      have hn'' : H2 n = none := hn'
      have rg : i + 1 ≤ fc es (i + 1) ns ∧ fc es (i + 1) ns < i + 1 + ns.length ∧ fc es (i + 1) ns ≤ es.length + 1 := by (first | lia | omega)
      have hd : (ns.drop (fc es (i + 1) ns - (i + 1)).toNat).length = ns.length - (fc es (i + 1) ns - (i + 1)).toNat := List.length_drop
      have l4 : H2.Le (H2.set n (.list (slc xs (some (fc es (i + 1) ns - (i + 1))) none))) := Hp.Le.set _ hn''
      have hl4 := hl3.le l4
      refine Fn.go (fn_append hD hl4 hs_self (ns := ns.drop (fc es (i + 1) ns - (i + 1)).toNat) (k := fc es (i + 1) ns) ?_ (fun _ => ⟨by (first | lia | omega), by (first | lia | omega), by (first | lia | omega)⟩) (by (first | lia | omega)) ?_) (Room.le ‹_› (by decide))
      · have z := EntV.drop (fc es (i + 1) ns - (i + 1)).toNat hn3
        rw [show i + 1 + (((fc es (i + 1) ns - (i + 1)).toNat : Nat) : Int) = fc es (i + 1) ns by (first | lia | omega)] at z
        exact z.le fun a fs => l4 _ _
      · intro H5 c5 hl5
        have e5 : appE es (ns.drop (fc es (i + 1) ns - (i + 1)).toNat) (fc es (i + 1) ns) = mrg es i ns := by rw [mrg, if_neg q1]
        rw [e5] at hl5
        have lgX := hl5
        obtain ⟨⟨el, vs, mc, hr, hu, hs, hX⟩, hfx⟩ := lgX
        have hu1 := hu.u
        have hu2 := hu.l
        obtain ⟨hd, cf, sn, sl, hs1, hs2, hs3⟩ := hs.ex
        have lv := hu.e.length
        have hz := hu.z
        refine' ⟨rfl, ?_⟩
        with_reducible refine' th_next (s_cons (s_ex (w_meth ?_)))
        refine' w_local m1' ?_
        with_reducible refine' me_RaftLog_commit_to ‹_› hr ?_
        refine' cm_one (kp_of ‹_› rfl) ?_
        with_reducible refine' w_es_cons (w_call ?_)
        refine' gl_min ‹_› (kof ‹_› rfl) ?_
        refine' cv_raw rfl ?_
        with_reducible refine' w_es_cons ?_
        refine' w_local m3' ?_
        with_reducible refine' w_es_cons ?_
        refine' w_local rfl ?_
        with_reducible refine' w_es_nil (f_min2 (w_es_nil ?_))
        refine' Fn.go (fn_commit_to ‹_› hl5 (by lia) ?_) (Room.le ‹_› (by decide))
        intro H6 c6 hl6
        rw [ln] at hl6
        refine' ⟨rfl, ?_⟩
        with_reducible refine' th_next (s_one (s_ret ?_))
        refine' w_local rfl ?_
        rw [ln]
        exact h1 H6 (fun a o e n1 n2 => c6 _ _ (c5 _ _ (l4 _ _ (l3' _ _ e)) n1 n2) n1 n2) hl6
    · rename_i q1
      have e5 : mrg es i ns = es := by rw [mrg, if_pos q1]
      intro H6 c6 hl6
      rw [ln] at hl6
      refine' ⟨rfl, ?_⟩
      with_reducible refine' th_next (s_one (s_ret ?_))
      refine' w_local rfl ?_
      rw [ln]
      exact h1 H6 (fun a o e n1 n2 => c6 _ _ (l3' _ _ e) n1 n2) (by rw [e5]; exact hl6)
end

end Rk
namespace Rk

noncomputable def rowD (e : Ent) : Dt := .tup [.int e.1, .bytes e.2]
/-- a list of rows -/
noncomputable def Rows (H : Hp) (vs : List V) (es : List Ent) : Prop := DsIs H vs (es.map rowD)
theorem Rows.length {H : Hp} {vs : List V} {es : List Ent} (h : Rows H vs es) : vs.length = es.length := by rw [DsIs.length h, List.length_map]
theorem Rows.le {H H' : Hp} {vs : List V} {es : List Ent} (l : H.Le H') (h : Rows H vs es) : Rows H' vs es := DsIs.le l h
theorem DIs.tle {H H' : Hp} (l : ∀ a vs, H a = some (.tup vs) → H' a = some (.tup vs)) : ∀ {e : Ent} {v : V}, DIs H v (rowD e) → DIs H' v (rowD e)
  | e, v, h => by
    unfold rowD DIs at h ⊢
    obtain ⟨a, vs, q, ha, hd⟩ := h
    refine ⟨a, vs, q, l _ _ ha, ?_⟩
    match vs, hd with
    | [x, y], hd => simpa [DsIs, DIs] using hd
    | [], hd => simp [DsIs] at hd
    | [_], hd => simp [DsIs] at hd
    | _ :: _ :: _ :: _, hd => simp [DsIs] at hd
theorem Rows.tle {H H' : Hp} (l : ∀ a vs, H a = some (.tup vs) → H' a = some (.tup vs)) : ∀ {vs : List V} {es : List Ent}, Rows H vs es → Rows H' vs es
  | [], [], _ => trivial
  | v :: vs, e :: es, h => ⟨DIs.tle l h.1, Rows.tle (vs := vs) (es := es) l h.2⟩
  | [], _ :: _, h => by simp [Rows, DsIs] at h
  | _ :: _, [], h => by simp [Rows, DsIs] at h
theorem Rows.app {H : Hp} {vs us : List V} {es fs : List Ent} (h : Rows H vs es) (k : Rows H us fs) : Rows H (vs ++ us) (es ++ fs) := by
  unfold Rows; rw [List.map_append]; exact DsIs.app h k
theorem Rows.drop {H : Hp} {vs : List V} {es : List Ent} (n : Nat) (h : Rows H vs es) : Rows H (vs.drop n) (es.drop n) := by
  unfold Rows; rw [List.map_drop]; exact DsIs.drop n h
theorem Rows.take {H : Hp} {vs : List V} {es : List Ent} (n : Nat) (h : Rows H vs es) : Rows H (vs.take n) (es.take n) := by
  unfold Rows; rw [List.map_take]; exact DsIs.take n h
theorem Rows.one {H : Hp} {a : Addr} {e : Ent} (h : H a = some (.tup [.int e.1, .bytes e.2])) : Rows H [.ref a] [e] := ⟨by unfold rowD DIs; exact ⟨a, _, rfl, h, by simp [DsIs, DIs]⟩, trivial⟩
theorem rowD_is {H : Hp} {v : V} {e : Ent} (h : DIs H v (rowD e)) : ∃ a, v = .ref a ∧ H a = some (.tup [.int e.1, .bytes e.2]) := by
  unfold rowD DIs at h
  obtain ⟨a, vs, rfl, ha, hd⟩ := h
  refine ⟨a, rfl, ?_⟩
  match vs, hd with
  | [x, y], hd =>
    simp only [DsIs, DIs] at hd
    obtain ⟨rfl, rfl, _⟩ := hd
    exact ha
  | [], hd => simp [DsIs] at hd
  | [_], hd => simp [DsIs] at hd
  | _ :: _ :: _ :: _, hd => simp [DsIs] at hd
theorem Rows.get {H : Hp} {vs : List V} {es : List Ent} (h : Rows H vs es) {k : Nat} {e : Ent} (q : es[k]? = some e) : ∃ a, vs[k]? = some (.ref a) ∧ H a = some (.tup [.int e.1, .bytes e.2]) := by
  obtain ⟨v, h1, h2⟩ := DsIs.put h (i := k) (d := rowD e) (by rw [List.getElem?_map, q]; rfl)
  obtain ⟨a, rfl, ha⟩ := rowD_is h2
  exact ⟨a, h1, ha⟩
section
variable {D : Wd} {d : Nat} {H : Hp} {X : Addr → Prop} {u el r st xl pl a nl : Addr} {vs xs : List V} {es ns : List Ent} {com i t k cm x : Int} {b : Array UInt8} {Q : V → Hp → Prop} {P : Addr → Hp → Prop}
theorem fn_Entry (hD : IsD D) (ha : H a = some (.inst 189 [])) (h : ∀ H', H' = H.set a (.inst 189 (EntryFs (.int t) (.int i) (.int k) (.bytes b))) → Q .none H') : Fn D 1 158 [.ref a, .int t, .int i, .int k, .bytes b] Q H := by
  refine fn_def (hK := by rw [hD.k]; k_is) (hcd := by rw [hD.k]; k_is) (ns := ["self", "term", "index", "kind", "data"]) ?_ ?_ ?_ rfl rfl rfl ?_
  · exact fun _ _ _ _ _ => rfl
  · decide
  · decide
  intro c cD cn cs cc cr
  subst cD
  with_reducible refine' s_cons (s_assignA ?_)
  refine' w_local rfl ?_
  refine' w_local rfl ?_
  with_reducible refine' pi_Entry_term ‹_› ha (th_next (s_cons (s_assignA ?_)))
  refine' w_local rfl ?_
  refine' w_local rfl ?_
  with_reducible refine' pi_Entry_index ‹_› hg_self (th_next (s_cons (s_assignA ?_)))
  refine' w_local rfl ?_
  refine' w_local rfl ?_
  with_reducible refine' pi_Entry_kind ‹_› hg_self (th_next (s_one (s_assignA ?_)))
  refine' w_local rfl ?_
  refine' w_local rfl ?_
  with_reducible refine' pi_Entry_data ‹_› hg_self ?_
  refine h _ ?_
  funext y
  simp only [Hp.set]
  by_cases q : y = a
  · simp [q]
  · simp [q]
theorem fn_law_end (hD : IsD D) (hp : H pl = some (.list vs)) (hr : Rows H vs es) (hz : es.length ≤ 100) (h : ∀ n, H n = none → Q (.ref n) (H.set n (.tup [.int (lastT es), .int es.length]))) : Fn D 1 739 [.ref pl] Q H := by
  refine fn_def (hK := by rw [hD.k]; k_is) (hcd := by rw [hD.k]; k_is) (ns := ["rows"]) ?_ ?_ ?_ rfl rfl rfl ?_
  · exact fun _ => rfl
  · decide
  · decide
  intro c cD cn cs cc cr
  subst cD
  have lv := hr.length
  by_cases z : es.length = 0
  · have : es = [] := List.length_eq_zero_iff.mp z
    subst this
    with_reducible refine' s_cons (s_if (t_cmp (w_call ?_)))
    refine' gl_len ‹_› (kof ‹_› rfl) ?_
    refine' cv_raw rfl ?_
    with_reducible refine' w_es_cons ?_
    refine' w_local rfl ?_
    with_reducible refine' w_es_nil ?_
    refine' f_len hp (by lia) ?_
    with_reducible refine' w_int (c_eq (tr_bool (br_eq ?_ ?_)))
    with_reducible refine' fun _ => s_one (s_ret (w_tuple (w_es_cons (w_int (w_es_cons (w_int (w_es_nil ?_)))))))
    refine' ⟨(Nat.le_of_ble_eq_true rfl), ?_⟩
    with_reducible refine' fun _ _ => th_ret ?_
    rotate_left
    with_reducible refine' fun _ => ?_
    exact False.elim (by lia)
    exact h _ ‹_›
  · obtain ⟨e, he⟩ : ∃ e, es[es.length - 1]? = some e := ⟨_, List.getElem?_eq_getElem (by (first | lia | omega))⟩
    obtain ⟨a, g1, g2⟩ := hr.get he
    have g1' : vs[((-1 : Int) + vs.length).toNat]? = some (.ref a) := by rw [show ((-1 : Int) + vs.length).toNat = es.length - 1 by (first | lia | omega)]; exact g1
    have lt : lastT es = e.1 := by rw [lastT, List.getLast?_eq_getElem?, he]; rfl
    with_reducible refine' s_cons (s_if (t_cmp (w_call ?_)))
    refine' gl_len ‹_› (kof ‹_› rfl) ?_
    refine' cv_raw rfl ?_
    with_reducible refine' w_es_cons ?_
    refine' w_local rfl ?_
    with_reducible refine' w_es_nil ?_
    refine' f_len hp (by lia) ?_
    with_reducible refine' w_int (c_eq (tr_bool (br_eq ?_ ?_)))
    with_reducible refine' fun _ => ?_
    exact False.elim (by lia)
    with_reducible refine' fun _ => s_nil (th_next (s_one (s_ret (w_tuple (w_es_cons (w_sub (w_sub ?_)))))))
    refine' w_local rfl ?_
    with_reducible refine' w_una (w_int (n_neg ?_))
    refine' i_listN hp (by decide) (by lia) (by decide) g1' ?_
    with_reducible refine' w_int ?_
    refine' i_tup g2 (by decide) (by decide) rfl ?_
    with_reducible refine' w_es_cons (w_call ?_)
    refine' gl_len ‹_› (kof ‹_› rfl) ?_
    refine' cv_raw rfl ?_
    with_reducible refine' w_es_cons ?_
    refine' w_local rfl ?_
    with_reducible refine' w_es_nil ?_
    refine' f_len hp (by lia) ?_
    with_reducible refine' w_es_nil ?_
    refine' ⟨(Nat.le_of_ble_eq_true rfl), ?_⟩
    with_reducible refine' fun _ _ => ?_
    rw [lv, ← lt]
    exact h _ ‹_›
theorem fn_law_draw (hD : IsD D) {ns : List Int} (hp : H nl = some (.list (ns.map V.int))) (hz : 0 < ns.length ∧ ns.length ≤ 8) (hi : 0 ≤ i ∧ i ≤ 8) (h : Q (.int (ns.getD (i % ns.length).toNat 0 + 7919 * (i / ns.length))) H) : Fn D 1 732 [.ref nl, .int i] Q H := by
  refine fn_def (hK := by rw [hD.k]; k_is) (hcd := by rw [hD.k]; k_is) (ns := ["nums", "i"]) ?_ ?_ ?_ rfl rfl rfl ?_
  · exact fun _ _ => rfl
  · decide
  · decide
  intro c cD cn cs cc cr
  subst cD
  have lz : ((ns.map V.int).length : Int) = ns.length := by rw [List.length_map]
  have em : (i.fmod (ns.map V.int).length) = i % ns.length := by rw [lz]; exact Int.fmod_eq_emod_of_nonneg _ (by (first | lia | omega))
  have ed : (i.fdiv (ns.map V.int).length) = i / ns.length := by rw [lz]; exact Int.fdiv_eq_ediv_of_nonneg _ (by (first | lia | omega))
  have b1 := Int.emod_nonneg i (show (ns.length : Int) ≠ 0 by (first | lia | omega))
  have b2 := Int.emod_lt_of_pos i (show 0 < (ns.length : Int) by (first | lia | omega))
  have hx : (ns.map V.int)[(i.fmod (ns.map V.int).length).toNat]? = some (.int (ns.getD (i % ns.length).toNat 0)) := by
    rw [em, List.getElem?_map, List.getD_eq_getElem?_getD, List.getElem?_eq_getElem (by (first | lia | omega))]; rfl
  with_reducible refine' s_one (s_ret (w_bin (w_sub ?_)))
  refine' w_local rfl ?_
  with_reducible refine' w_bin ?_
  refine' w_local rfl ?_
  with_reducible refine' w_call ?_
  refine' gl_len ‹_› (kof ‹_› rfl) ?_
  refine' cv_raw rfl ?_
  with_reducible refine' w_es_cons ?_
  refine' w_local rfl ?_
  with_reducible refine' w_es_nil ?_
  refine' f_len hp (by simp only [List.length_append, List.length_cons, List.length_nil, List.length_map, List.length_set, List.length_take, List.length_drop, List.length_replicate]; exact (by lia)) ?_
  refine' b_mod (by lia) ?_
  refine' i_list hp (by lia) (by lia) hx ?_
  with_reducible refine' w_bin (w_int (w_bin ?_))
  refine' w_local rfl ?_
  with_reducible refine' w_call ?_
  refine' gl_len ‹_› (kof ‹_› rfl) ?_
  refine' cv_raw rfl ?_
  with_reducible refine' w_es_cons ?_
  refine' w_local rfl ?_
  with_reducible refine' w_es_nil ?_
  refine' f_len hp (by simp only [List.length_append, List.length_cons, List.length_nil, List.length_map, List.length_set, List.length_take, List.length_drop, List.length_replicate]; exact (by lia)) ?_
  refine' b_div (by lia) ?_
  refine' b_mul (IntMulOk.of_left (by decide)) ?_
  with_reducible refine' b_add ?_
  rw [ed]
  exact h
theorem Rows.of {H : Hp} : ∀ {es : List Ent} {ws : List V}, ws.length = es.length → (∀ (j : Nat) (y : V), ws[j]? = some y → ∃ (e : Ent) (a : Addr), es[j]? = some e ∧ y = .ref a ∧ H a = some (.tup [.int e.1, .bytes e.2])) → Rows H ws es
  | [], [], _, _ => trivial
  | [], _ :: _, h, _ => by simp at h
  | _ :: _, [], h, _ => by simp at h
  | e :: es, w :: ws, h, k => by
    refine ⟨?_, Rows.of (by simpa using h) fun j y q => by simpa using k (j + 1) y (by simpa using q)⟩
    obtain ⟨e', a, h1, rfl, h3⟩ := k 0 w rfl
    cases h1
    unfold rowD DIs; exact ⟨a, _, rfl, h3, by simp [DsIs, DIs]⟩
theorem fn_law_rows (hD : IsD D) (hl : LogAt H X r u st es com) (h : Hold (∀ H' n vs, H.Le H' → H n = none → H' n = some (.list vs) → Rows H' vs es → Q (.ref n) H')) : Fn D 2 744 [.ref r] Q H := by
  refine fn_def (hK := by rw [hD.k]; k_is) (hcd := by rw [hD.k]; k_is) (ns := ["log"]) ?_ ?_ ?_ rfl rfl rfl ?_
  · exact fun _ => rfl
  · decide
  · decide
  intro c cD cn cs cc cr
  subst cD
  have lgX := hl
  obtain ⟨⟨el, vs, mc, hr, hu, hs, hX⟩, hfx⟩ := lgX
  have hu1 := hu.u
  have hu2 := hu.l
  obtain ⟨hd, cf, sn, sl, hs1, hs2, hs3⟩ := hs.ex
  have lv := hu.e.length
  have hz := hu.z
  with_reducible refine' s_one (s_ret ?_)
  refine w_comp (cl := []) rfl ?_
  with_reducible refine' w_meth ?_
  refine' w_local rfl ?_
  with_reducible refine' me_RaftLog_unstable_entries ‹_› hr ?_
  refine' cm_one (kp_of ‹_› rfl) ?_
  with_reducible refine' w_es_nil ?_
  refine' Fn.go (fn_unstable_entries ‹_› hl ?_) (Room.le ‹_› (by decide))
  with_reducible refine' fun _ _ => fun _ _ => it_list hs_self (fun _ _ => ?_)
  rename_i n1 vs1 hn1 hv1 it hit
  have lv1 := hv1.length
  refine block_map (fun j y H' => ∃ e a, es[j]? = some e ∧ y = .ref a ∧ H' a = some (.tup [.int e.1, .bytes e.2])) ?_ hit hs_self (by (first | lia | omega)) (relb cs rfl) (by exact ⟨rfl, rfl⟩) ?_ ?_
  · rintro j v H1 H2 t ⟨e, a, q1, q2, q3⟩
    exact ⟨e, a, q1, q2, t _ _ q3⟩
  · rintro c' cD cs' cc' cr' j v m' H1 l1 lt hv
    obtain ⟨e, a, q1, rfl, q2⟩ := hv1.at hv
    have q3 := l1 _ _ (Hp.Le.set (o := .list vs1) hn1 _ _ q2)
    have hD' : IsD c'.D := by rw [cD]; exact hD
    with_reducible refine' w_tuple (w_es_cons (att ?_))
    refine' w_local rfl ?_
    refine' gfG ‹_› q3 rfl rfl rfl ?_
    with_reducible refine' w_es_cons (att ?_)
    refine' w_local rfl ?_
    refine' gfG ‹_› q3 rfl rfl rfl ?_
    with_reducible refine' w_es_nil ?_
    refine' ⟨(Nat.le_of_ble_eq_true rfl), ?_⟩
    with_reducible refine' fun _ _ => ?_
    exact ⟨Hp.Le.set _ ‹_›, e, _, q1, rfl, hs_self⟩
  · intro acc H' ws l1 ha h1 h2 h3
    refine h H' acc ws ((Hp.Le.set _ hn1).trans l1) (none_set ha) h1 (Rows.of (by (first | lia | omega)) h3)
end

end Rk
namespace Rk

/-! the three logs, and what the law keeps of them -/
structure Sta where
  pl : Nat → List Ent
  lo : Nat → List Ent
  lc : Nat → Int
  tm : Nat → Int
  ld : Nat → Int
  co : Nat → Int
  ak : Nat → Nat → Int
  su : List Ent
noncomputable def upd {α : Type} (f : Nat → α) (m : Nat) (v : α) : Nat → α := fun i => if i = m then v else f i
theorem upd_self {α : Type} {f : Nat → α} {m : Nat} {v : α} : upd f m v m = v := if_pos rfl
theorem upd_ne {α : Type} {f : Nat → α} {m i : Nat} {v : α} (h : i ≠ m) : upd f m v i = f i := if_neg h
noncomputable abbrev tri (f : Nat → V) : List V := [f 0, f 1, f 2]
theorem tri_at {f : Nat → V} {m : Nat} (h : m < 3) : (tri f)[((m : Nat) : Int).toNat]? = some (f m) := by
  match m, h with
  | 0, _ => rfl
  | 1, _ => rfl
  | 2, _ => rfl
theorem tri_set {f : Nat → V} {m : Nat} {v : V} (h : m < 3) : (tri f).set ((m : Nat) : Int).toNat v = tri (upd f m v) := by
  match m, h with
  | 0, _ => rfl
  | 1, _ => rfl
  | 2, _ => rfl
theorem tri_ext {f g : Nat → V} (h : ∀ i < 3, f i = g i) : tri f = tri g := by
  rw [tri, tri, h 0 (by decide), h 1 (by decide), h 2 (by decide)]
structure WA where
  lg : Addr
  q : Nat → Addr
  r : Nat → Addr
  u : Nat → Addr
  st : Nat → Addr
noncomputable def WA.X (A : WA) : Addr → Prop := fun x => ∃ n, n < 12 ∧ x = A.q n
structure Cont (H : Hp) (q : Nat → Addr) (S : Sta) (ct : Nat → List V) : Prop where
  c0 : ct 0 = tri fun i => .ref (q (6 + i))
  c1 : ct 1 = tri fun i => .int (S.tm i)
  c2 : ct 2 = tri fun i => .int (S.ld i)
  c3 : ct 3 = tri fun i => .ref (q (9 + i))
  c4 : ct 4 = tri fun i => .int (S.co i)
  c5 : Rows H (ct 5) S.su
  c6 : ∀ i, i < 3 → Rows H (ct (6 + i)) (S.pl i)
  c9 : ∀ i, i < 3 → ct (9 + i) = tri fun j => .int (S.ak i j)
structure Wat (H K : Hp) (w : Addr) (A : WA) (S : Sta) : Prop where
  w : H w = some (.tup [.ref A.lg, .ref (A.q 0), .ref (A.q 1), .ref (A.q 2), .ref (A.q 3), .ref (A.q 4), .ref (A.q 5)])
  lg : H A.lg = some (.list (tri fun i => .ref (A.r i)))
  ct : ∃ ct, (∀ n, n < 12 → H (A.q n) = some (.list (ct n))) ∧ Cont H A.q S ct
  lo : ∀ i, i < 3 → LogAt H A.X (A.r i) (A.u i) (A.st i) (S.lo i) (S.lc i)
  inj : ∀ i j, i < 12 → j < 12 → A.q i = A.q j → i = j
  lgx : ∀ i, i < 12 → A.lg ≠ A.q i
  rinj : ∀ i j, i < 3 → j < 3 → A.r i = A.r j → i = j
  uinj : ∀ i j, i < 3 → j < 3 → A.u i = A.u j → i = j
  Kl : K.Le H
  Kq : ∀ i, i < 12 → K (A.q i) = none
  Kr : ∀ i, i < 3 → K (A.r i) = none
  Ku : ∀ i, i < 3 → K (A.u i) = none
section
variable {D : Wd} {d : Nat} {H H' K : Hp} {w a n : Addr} {A : WA} {S : Sta} {o o' : MO}
theorem Cont.le {q : Nat → Addr} {ct : Nat → List V} (l : ∀ a vs, H a = some (.tup vs) → H' a = some (.tup vs)) (h : Cont H q S ct) : Cont H' q S ct :=
  ⟨h.c0, h.c1, h.c2, h.c3, h.c4, h.c5.tle l, fun i hi => (h.c6 i hi).tle l, h.c9⟩
theorem Cont.re {q : Nat → Addr} {ct : Nat → List V} {S' : Sta} (e1 : S'.tm = S.tm) (e2 : S'.ld = S.ld) (e3 : S'.co = S.co) (e4 : S'.su = S.su) (e5 : S'.pl = S.pl) (e6 : S'.ak = S.ak) (h : Cont H q S ct) : Cont H q S' ct :=
  ⟨h.c0, by rw [e1]; exact h.c1, by rw [e2]; exact h.c2, h.c3, by rw [e3]; exact h.c4, by rw [e4]; exact h.c5, by rw [e5]; exact h.c6, by rw [e6]; exact h.c9⟩
theorem Wat.le (l : H.Le H') (h : Wat H K w A S) : Wat H' K w A S := by
  obtain ⟨ct, h1, h2⟩ := h.ct
  exact ⟨l _ _ h.w, l _ _ h.lg, ⟨ct, fun n hn => l _ _ (h1 n hn), h2.le fun a vs => l _ _⟩, fun i hi => (h.lo i hi).le l, h.inj, h.lgx, h.rinj, h.uinj, h.Kl.trans l, h.Kq, h.Kr, h.Ku⟩
/-- a new object, the frame's own from now on -/
theorem Wat.new (hn : H n = none) (h : Wat H K w A S) : Wat (H.set n o) (K.set n o) w A S := by
  have h' := h.le (Hp.Le.set o hn)
  obtain ⟨ct, h1, h2⟩ := h.ct
  refine ⟨h'.w, h'.lg, h'.ct, h'.lo, h.inj, h.lgx, h.rinj, h.uinj, fun b x e => ?_, fun i hi => ?_, fun i hi => ?_, fun i hi => ?_⟩
  · by_cases q : b = n
    · subst q; rw [Hp.set_self] at e ⊢; exact e
    · rw [Hp.set_ne _ _ q] at e ⊢; exact h.Kl _ _ e
  · rw [Hp.set_ne _ _ (fun q => by have := h1 i hi; rw [q, hn] at this; cases this)]; exact h.Kq i hi
  · obtain ⟨mc, hr⟩ := (h.lo i hi).rr
    rw [Hp.set_ne _ _ (fun q => by rw [q, hn] at hr; cases hr)]; exact h.Kr i hi
  · obtain ⟨mc, hr⟩ := (h.lo i hi).uu
    rw [Hp.set_ne _ _ (fun q => by rw [q, hn] at hr; cases hr)]; exact h.Ku i hi
noncomputable def MO.isWalk : MO → Bool
  | .li .. | .ti .. | .ri .. | .rg .. | .cell .. => true
  | _ => false
theorem LogAt.walk {X : Addr → Prop} {r u st : Addr} {es : List Ent} {com : Int} (l : ∀ b x, H b = some x → x.isWalk = false → H' b = some x) (h : LogAt H X r u st es com) (hx : ∀ a, X a → ∃ o, H' a = some o) : LogAt H' X r u st es com := by
  obtain ⟨el, vs, mc, h1, h2, ⟨hd, cf, sn, sl, h3, h4, h5⟩, h6⟩ := h.ex
  exact ⟨⟨el, vs, mc, l _ _ h1 rfl, ⟨l _ _ h2.u rfl, l _ _ h2.l rfl, h2.e.le fun a fs e => l _ _ e rfl, h2.z⟩, ⟨hd, cf, sn, sl, l _ _ h3 rfl, l _ _ h4 rfl, h5⟩, h6⟩, hx⟩
theorem Wat.walk {K' : Hp} (l : ∀ b x, H b = some x → x.isWalk = false → H' b = some x) (hK : K'.Le H') (k : ∀ b, K b = none → K' b = none) (h : Wat H K w A S) : Wat H' K' w A S := by
  obtain ⟨ct, h1, h2⟩ := h.ct
  exact ⟨l _ _ h.w rfl, l _ _ h.lg rfl, ⟨ct, fun n hn => l _ _ (h1 n hn) rfl, h2.le fun a vs e => l _ _ e rfl⟩, fun i hi => (h.lo i hi).walk l fun a ⟨n, hn, q⟩ => ⟨_, q ▸ l _ _ (h1 n hn) rfl⟩, h.inj, h.lgx, h.rinj, h.uinj, hK, fun i hi => k _ (h.Kq i hi), fun i hi => k _ (h.Kr i hi), fun i hi => k _ (h.Ku i hi)⟩
theorem walk_ne {b : Addr} {x : MO} (e : H a = some o) (ho : o.isWalk = true) (q : H b = some x) (i : x.isWalk = false) : b ≠ a := fun z => by
  rw [z, e] at q; cases q; rw [ho] at i; cases i
/-- an iterator of the frame's own goes on -/
theorem Wat.put (e : K a = some o) (ho : o.isWalk = true) (h : Wat H K w A S) : Wat (H.set a o') (K.set a o') w A S := by
  have e' := h.Kl _ _ e
  refine h.walk (fun b x q i => hs_ne (walk_ne e' ho q i) q) (fun b x q => ?_) fun b q => ?_
  · by_cases z : b = a
    · subst z; rw [Hp.set_self] at q ⊢; exact q
    · rw [Hp.set_ne _ _ z] at q ⊢; exact h.Kl _ _ q
  · rw [Hp.set_ne _ _ (fun z => by rw [z, e] at q; cases q)]; exact q
theorem Wat.del (e : K a = some o) (ho : o.isWalk = true) (h : Wat H K w A S) : Wat (H.del a) (K.del a) w A S := by
  have e' := h.Kl _ _ e
  refine h.walk (fun b x q i => hs_del (walk_ne e' ho q i) q) (fun b x q => ?_) fun b q => ?_
  · by_cases z : b = a
    · subst z; unfold Hp.del at q; rw [if_pos rfl] at q; cases q
    · have q2 := Hp.del_le K a _ _ q
      exact hs_del z (h.Kl _ _ q2)
  · unfold Hp.del
    split
    · rfl
    · exact q
/-- one of the law's lists is changed -/
theorem Wat.list {k : Nat} {vs : List V} {S' : Sta} (hk : k < 12) (h : Wat H K w A S)
    (hc : ∀ ct, Cont H A.q S ct → Cont (H.set (A.q k) (.list vs)) A.q S' (upd ct k vs)) (e1 : S'.lo = S.lo) (e2 : S'.lc = S.lc) : Wat (H.set (A.q k) (.list vs)) K w A S' := by
  obtain ⟨ct, h1, h2⟩ := h.ct
  have hq := h1 k hk
  have ne : ∀ {b : Addr} {x : MO}, H b = some x → (∀ vs, x ≠ .list vs) → b ≠ A.q k := fun e n z => by rw [z, hq] at e; cases e; exact n _ rfl
  refine ⟨hs_ne (ne h.w fun _ q => by cases q) h.w, hs_ne (h.lgx k hk) h.lg, ⟨_, fun n hn => ?_, hc ct h2⟩, fun i hi => ?_, h.inj, h.lgx, h.rinj, h.uinj, fun b x e => ?_, h.Kq, h.Kr, h.Ku⟩
  · by_cases q : n = k
    · subst q; rw [upd_self, Hp.set_self]
    · rw [upd_ne q, Hp.set_ne _ _ (fun z => q (h.inj _ _ hn hk z))]; exact h1 n hn
  · rw [e1, e2]
    obtain ⟨el, vs1, mc, g1, g2, ⟨hd, cf, sn, sl, g3, g4, g5⟩, g6⟩ := (h.lo i hi).ex
    have inX : A.X (A.q k) := ⟨k, hk, rfl⟩
    refine ⟨⟨el, vs1, mc, hs_ne (ne g1 fun _ q => by cases q) g1, ⟨hs_ne (ne g2.u fun _ q => by cases q) g2.u, hs_ne (fun z => g6 (z ▸ inX)) g2.l, g2.e.le fun a fs e => hs_ne (ne e fun _ q => by cases q) e, g2.z⟩,
      ⟨hd, cf, sn, sl, hs_ne (ne g3 fun _ q => by cases q) g3, hs_ne (fun z => g5 (z ▸ inX)) g4, g5⟩, g6⟩, fun a ⟨n, hn, q⟩ => ?_⟩
    by_cases z : n = k
    · subst z; subst q; exact ⟨_, hs_self⟩
    · subst q; exact ⟨_, hs_ne (fun y => z (h.inj _ _ hn hk y)) (h1 n hn)⟩
  · exact hs_ne (fun z => by rw [z, h.Kq k hk] at e; cases e) (h.Kl _ _ e)
/-- one log is changed -/
theorem Wat.chg {m : Nat} {es : List Ent} {com : Int} (hm : m < 3) (h : Wat H K w A S) (k : Chg H H' (A.r m) (A.u m)) (hl : LogAt H' A.X (A.r m) (A.u m) (A.st m) es com) : Wat H' K w A { S with lo := upd S.lo m es, lc := upd S.lc m com } := by
  obtain ⟨ct, h1, h2⟩ := h.ct
  have l0 := h.lo m hm
  have kk : ∀ {a : Addr} {o : MO}, H a = some o → (∀ C fs, o ≠ .inst C fs) → H' a = some o := fun e n => k.at_ l0 e (fun fs => n _ fs) (fun fs => n _ fs)
  have h3 : Cont H' A.q S ct := h2.le fun a vs e => kk e (fun _ _ q => by cases q)
  refine ⟨kk h.w (fun _ _ q => by cases q), kk h.lg (fun _ _ q => by cases q), ⟨ct, fun n hn => kk (h1 n hn) (fun _ _ q => by cases q), Cont.re (S := S) rfl rfl rfl rfl rfl rfl h3⟩, fun i hi => ?_, h.inj, h.lgx, h.rinj, h.uinj, fun b x e => ?_, h.Kq, h.Kr, h.Ku⟩
  · show LogAt H' A.X (A.r i) (A.u i) (A.st i) (upd S.lo m es i) (upd S.lc m com i)
    by_cases q : i = m
    · subst q; rw [upd_self, upd_self]; exact hl
    · rw [upd_ne q, upd_ne q]
      obtain ⟨mc, hr⟩ := hl.rr
      obtain ⟨el, hu⟩ := hl.uu
      exact LogAt.other k l0 (h.lo i hi) (fun z => q (h.rinj _ _ hi hm z)) (fun z => q (h.uinj _ _ hi hm z)) ⟨_, hr⟩ ⟨_, hu⟩
  · exact k _ _ (h.Kl _ _ e) (fun z => by rw [z, h.Kr m hm] at e; cases e) (fun z => by rw [z, h.Ku m hm] at e; cases e)
end

end Rk
namespace Rk

section
variable {D : Wd} {d : Nat} {H H' K : Hp} {w a n : Addr} {A : WA} {S : Sta} {o o' : MO} {m j : Nat} {t : Int}
theorem Wat.h0 (h : Wat H K w A S) : H (A.q 0) = some (.list (tri fun i => .ref (A.q (6 + i)))) := by obtain ⟨ct, h1, h2⟩ := h.ct; rw [h1 0 (by decide), h2.c0]
theorem Wat.h1 (h : Wat H K w A S) : H (A.q 1) = some (.list (tri fun i => .int (S.tm i))) := by obtain ⟨ct, h1, h2⟩ := h.ct; rw [h1 1 (by decide), h2.c1]
theorem Wat.h2 (h : Wat H K w A S) : H (A.q 2) = some (.list (tri fun i => .int (S.ld i))) := by obtain ⟨ct, h1, h2⟩ := h.ct; rw [h1 2 (by decide), h2.c2]
theorem Wat.h3 (h : Wat H K w A S) : H (A.q 3) = some (.list (tri fun i => .ref (A.q (9 + i)))) := by obtain ⟨ct, h1, h2⟩ := h.ct; rw [h1 3 (by decide), h2.c3]
theorem Wat.h4 (h : Wat H K w A S) : H (A.q 4) = some (.list (tri fun i => .int (S.co i))) := by obtain ⟨ct, h1, h2⟩ := h.ct; rw [h1 4 (by decide), h2.c4]
theorem Wat.h5 (h : Wat H K w A S) : ∃ vs, H (A.q 5) = some (.list vs) ∧ Rows H vs S.su := by obtain ⟨ct, h1, h2⟩ := h.ct; exact ⟨_, h1 5 (by decide), h2.c5⟩
theorem Wat.h6 (h : Wat H K w A S) (hm : m < 3) : ∃ vs, H (A.q (6 + m)) = some (.list vs) ∧ Rows H vs (S.pl m) := by obtain ⟨ct, h1, h2⟩ := h.ct; exact ⟨_, h1 _ (by (first | lia | omega)), h2.c6 m hm⟩
theorem Wat.h9 (h : Wat H K w A S) (hm : m < 3) : H (A.q (9 + m)) = some (.list (tri fun i => .int (S.ak m i))) := by obtain ⟨ct, h1, h2⟩ := h.ct; rw [h1 _ (by (first | lia | omega)), h2.c9 m hm]
theorem tri_upd {f : Nat → Int} : upd (fun i => V.int (f i)) m (.int t) = fun i => V.int (upd f m t i) := by
  funext i; unfold upd; split <;> rfl
theorem upd_k {α : Type} {f : Nat → α} {k : Nat} {v : α} (h : k ≠ m) : upd f m v k = f k := if_neg h
/-- an int of one of the three lists -/
theorem Wat.set1 (hm : m < 3) (h : Wat H K w A S) : Wat (H.set (A.q 1) (.list ((tri fun i => .int (S.tm i)).set (m : Int).toNat (.int t)))) K w A { S with tm := upd S.tm m t } := by
  rw [tri_set hm, tri_upd]
  refine h.list (by decide) (fun ct c => ?_) rfl rfl
  have q := tle_set (o' := .list (tri fun i => V.int (upd S.tm m t i))) h.h1 (fun _ z => by cases z)
  exact ⟨c.c0, rfl, c.c2, c.c3, c.c4, c.c5.tle q, fun i hi => by rw [upd_k (by (first | lia | omega))]; exact (c.c6 i hi).tle q, fun i hi => by rw [upd_k (by (first | lia | omega))]; exact c.c9 i hi⟩
theorem Wat.set2 (hm : m < 3) (h : Wat H K w A S) : Wat (H.set (A.q 2) (.list ((tri fun i => .int (S.ld i)).set (m : Int).toNat (.int t)))) K w A { S with ld := upd S.ld m t } := by
  rw [tri_set hm, tri_upd]
  refine h.list (by decide) (fun ct c => ?_) rfl rfl
  have q := tle_set (o' := .list (tri fun i => V.int (upd S.ld m t i))) h.h2 (fun _ z => by cases z)
  exact ⟨c.c0, c.c1, rfl, c.c3, c.c4, c.c5.tle q, fun i hi => by rw [upd_k (by (first | lia | omega))]; exact (c.c6 i hi).tle q, fun i hi => by rw [upd_k (by (first | lia | omega))]; exact c.c9 i hi⟩
theorem Wat.set4 (hm : m < 3) (h : Wat H K w A S) : Wat (H.set (A.q 4) (.list ((tri fun i => .int (S.co i)).set (m : Int).toNat (.int t)))) K w A { S with co := upd S.co m t } := by
  rw [tri_set hm, tri_upd]
  refine h.list (by decide) (fun ct c => ?_) rfl rfl
  have q := tle_set (o' := .list (tri fun i => V.int (upd S.co m t i))) h.h4 (fun _ z => by cases z)
  exact ⟨c.c0, c.c1, c.c2, c.c3, rfl, c.c5.tle q, fun i hi => by rw [upd_k (by (first | lia | omega))]; exact (c.c6 i hi).tle q, fun i hi => by rw [upd_k (by (first | lia | omega))]; exact c.c9 i hi⟩
/-- a tell's mark -/
theorem Wat.set9 (hm : m < 3) (hj : j < 3) (h : Wat H K w A S) : Wat (H.set (A.q (9 + m)) (.list ((tri fun i => .int (S.ak m i)).set (j : Int).toNat (.int t)))) K w A { S with ak := upd S.ak m (upd (S.ak m) j t) } := by
  rw [tri_set hj, tri_upd]
  refine h.list (by (first | lia | omega)) (fun ct c => ?_) rfl rfl
  have q := tle_set (o' := .list (tri fun i => V.int (upd (S.ak m) j t i))) (h.h9 hm) (fun _ z => by cases z)
  refine ⟨?_, ?_, ?_, ?_, ?_, ?_, fun i hi => ?_, fun i hi => ?_⟩
  · rw [upd_k (by (first | lia | omega))]; exact c.c0
  · rw [upd_k (by (first | lia | omega))]; exact c.c1
  · rw [upd_k (by (first | lia | omega))]; exact c.c2
  · rw [upd_k (by (first | lia | omega))]; exact c.c3
  · rw [upd_k (by (first | lia | omega))]; exact c.c4
  · rw [upd_k (by (first | lia | omega))]; exact c.c5.tle q
  · rw [upd_k (by (first | lia | omega))]; exact (c.c6 i hi).tle q
  · by_cases z : i = m
    · subst z; rw [upd_self]; show _ = tri fun k => V.int (upd S.ak i (upd (S.ak i) j t) i k); rw [upd_self]
    · rw [upd_k (by (first | lia | omega)), c.c9 i hi]; show _ = tri fun k => V.int (upd S.ak m (upd (S.ak m) j t) i k); rw [upd_ne z]
/-- a row more: of a plain list, of what is sure -/
theorem Wat.app6 {vs : List V} {x : Addr} {e : Ent} (hm : m < 3) (h : Wat H K w A S) (hv : H (A.q (6 + m)) = some (.list vs)) (hx : H x = some (.tup [.int e.1, .bytes e.2])) : Wat (H.set (A.q (6 + m)) (.list (vs ++ [.ref x]))) K w A { S with pl := upd S.pl m (S.pl m ++ [e]) } := by
  refine h.list (by (first | lia | omega)) (fun ct c => ?_) rfl rfl
  have q := tle_set (o' := .list (vs ++ [.ref x])) hv (fun _ z => by cases z)
  obtain ⟨us, g1, g2⟩ := h.h6 hm
  rw [hv] at g1; cases g1
  refine ⟨?_, ?_, ?_, ?_, ?_, ?_, fun i hi => ?_, fun i hi => ?_⟩
  · rw [upd_k (by (first | lia | omega))]; exact c.c0
  · rw [upd_k (by (first | lia | omega))]; exact c.c1
  · rw [upd_k (by (first | lia | omega))]; exact c.c2
  · rw [upd_k (by (first | lia | omega))]; exact c.c3
  · rw [upd_k (by (first | lia | omega))]; exact c.c4
  · rw [upd_k (by (first | lia | omega))]; exact c.c5.tle q
  · show Rows _ _ (upd S.pl m (S.pl m ++ [e]) i)
    by_cases z : i = m
    · subst z; rw [upd_self, upd_self]; exact (g2.tle q).app (Rows.one (q _ _ hx))
    · rw [upd_k (by (first | lia | omega)), upd_ne z]; exact (c.c6 i hi).tle q
  · rw [upd_k (by (first | lia | omega))]; exact c.c9 i hi
theorem Wat.app5 {vs : List V} {x : Addr} {e : Ent} (h : Wat H K w A S) (hv : H (A.q 5) = some (.list vs)) (hx : H x = some (.tup [.int e.1, .bytes e.2])) : Wat (H.set (A.q 5) (.list (vs ++ [.ref x]))) K w A { S with su := S.su ++ [e] } := by
  refine h.list (by (first | lia | omega)) (fun ct c => ?_) rfl rfl
  have q := tle_set (o' := .list (vs ++ [.ref x])) hv (fun _ z => by cases z)
  obtain ⟨us, g1, g2⟩ := h.h5
  rw [hv] at g1; cases g1
  exact ⟨c.c0, c.c1, c.c2, c.c3, c.c4, (g2.tle q).app (Rows.one (q _ _ hx)), fun i hi => by rw [upd_k (by (first | lia | omega))]; exact (c.c6 i hi).tle q, fun i hi => by rw [upd_k (by (first | lia | omega))]; exact c.c9 i hi⟩
/-- a list of its own is put in the place of another: k: 0 (plain) or 3 (marks); i: which list -/
theorem Wat.swap {k i : Nat} {vs us : List V} {S' : Sta} (hk : k = 0 ∨ k = 3) (hi : 6 ≤ i ∧ i < 12) (hn : H n = none) (h : Wat H K w A S) (hv : H (A.q k) = some (.list us)) (us' : List V)
    (hc : ∀ H' ct, (∀ a vs, H a = some (.tup vs) → H' a = some (.tup vs)) → Cont H' A.q S ct → Cont H' (upd A.q i n) S' (upd (upd ct i vs) k us')) (e1 : S'.lo = S.lo) (e2 : S'.lc = S.lc) :
    Wat ((H.set n (.list vs)).set (A.q k) (.list us')) K w { A with q := upd A.q i n } S' := by
  have hk' : k < 12 := by (first | lia | omega)
  have h' := h.le (Hp.Le.set (.list vs) hn)
  obtain ⟨ct, h1, h2⟩ := h.ct
  have fre : ∀ m, m < 12 → A.q m ≠ n := fun m hm q => by have := h1 m hm; rw [q, hn] at this; cases this
  have nk : n ≠ A.q k := Ne.symm (fre k hk')
  have ne : ∀ {b : Addr} {x : MO}, H b = some x → (∀ vs, x ≠ .list vs) → b ≠ A.q k := fun e n z => by rw [z, hv] at e; cases e; exact n _ rfl
  have kp : ∀ {b : Addr} {x : MO}, H b = some x → b ≠ A.q k → ((H.set n (.list vs)).set (A.q k) (.list us')) b = some x := fun e n => hs_ne n (hs_new hn e)
  have tl : ∀ a ws, H a = some (.tup ws) → ((H.set n (.list vs)).set (A.q k) (.list us')) a = some (.tup ws) := fun a ws e => kp e (ne e fun _ q => by cases q)
  have q0 : ∀ m, m < 6 → upd A.q i n m = A.q m := fun m hm => upd_ne (by (first | lia | omega))
  refine ⟨?_, kp h.lg (h.lgx k hk'), ⟨_, fun m hm => ?_, hc _ ct tl (h2.le tl)⟩, fun m hm => ?_, fun a b ha hb e => ?_, fun m hm => ?_, h.rinj, h.uinj, fun b x e => ?_, fun m hm => ?_, h.Kr, h.Ku⟩
  · show _ = some (MO.tup [.ref A.lg, .ref (upd A.q i n 0), .ref (upd A.q i n 1), .ref (upd A.q i n 2), .ref (upd A.q i n 3), .ref (upd A.q i n 4), .ref (upd A.q i n 5)])
    rw [q0 0 (by decide), q0 1 (by decide), q0 2 (by decide), q0 3 (by decide), q0 4 (by decide), q0 5 (by decide)]
    exact kp h.w (ne h.w fun _ q => by cases q)
  · show _ = some (MO.list (upd (upd ct i vs) k us' m))
    show ((H.set n (.list vs)).set (A.q k) (.list us')) (upd A.q i n m) = _
    by_cases z : m = k
    · subst z; rw [upd_self, upd_ne (by (first | lia | omega)), hs_self]
    · rw [upd_ne z]
      by_cases y : m = i
      · subst y; rw [upd_self, upd_self]; exact hs_ne nk hs_self
      · rw [upd_ne y, upd_ne y]; exact kp (h1 m hm) fun x => z (h.inj _ _ hm hk' x)
  · rw [e1, e2]
    obtain ⟨el, vs1, mc, g1, g2, ⟨hd, cf, sn, sl, g3, g4, g5⟩, g6⟩ := (h.lo m hm).ex
    have inX : A.X (A.q k) := ⟨k, hk', rfl⟩
    have out : ∀ {b : Addr} {x : MO}, H b = some x → ¬ A.X b → ¬ WA.X { A with q := upd A.q i n } b := fun e nx ⟨p, hp, q⟩ => by
      have q : _ = upd A.q i n p := q
      by_cases z : p = i
      · subst z; rw [upd_self] at q; rw [q, hn] at e; cases e
      · rw [upd_ne z] at q; exact nx ⟨p, hp, q⟩
    refine ⟨⟨el, vs1, mc, kp g1 (ne g1 fun _ q => by cases q), ⟨kp g2.u (ne g2.u fun _ q => by cases q), kp g2.l (fun z => g6 (z ▸ inX)), g2.e.le fun a fs e => kp e (ne e fun _ q => by cases q), g2.z⟩,
      ⟨hd, cf, sn, sl, kp g3 (ne g3 fun _ q => by cases q), kp g4 (fun z => g5 (z ▸ inX)), out g4 g5⟩, out g2.l g6⟩, fun a ⟨p, hp, q⟩ => ?_⟩
    have q : a = upd A.q i n p := q
    by_cases z : p = i
    · subst z; rw [upd_self] at q; subst q; exact ⟨_, hs_ne nk hs_self⟩
    · rw [upd_ne z] at q; subst q
      by_cases y : p = k
      · subst y; exact ⟨_, hs_self⟩
      · exact ⟨_, kp (h1 p hp) fun x => y (h.inj _ _ hp hk' x)⟩
  · have e : upd A.q i n a = upd A.q i n b := e
    by_cases z : a = i
    · by_cases y : b = i
      · (first | lia | omega)
      · subst z; rw [upd_self, upd_ne y] at e; exact absurd e.symm (fre b hb)
    · by_cases y : b = i
      · subst y; rw [upd_self, upd_ne z] at e; exact absurd e (fre a ha)
      · rw [upd_ne z, upd_ne y] at e; exact h.inj _ _ ha hb e
  · show A.lg ≠ upd A.q i n m
    by_cases z : m = i
    · subst z; rw [upd_self]; intro q; have := h.lg; rw [q, hn] at this; cases this
    · rw [upd_ne z]; exact h.lgx m hm
  · exact kp (h.Kl _ _ e) (fun z => by rw [z, h.Kq k hk'] at e; cases e)
  · show K (upd A.q i n m) = none
    by_cases z : m = i
    · subst z; rw [upd_self]
      cases q : K n with
      | none => rfl
      | some o => have := h.Kl _ _ q; rw [hn] at this; cases this
    · rw [upd_ne z]; exact h.Kq m hm
theorem upd_tri {q : Nat → Addr} {b i : Nat} {n : Addr} (h : i < 3) : (tri fun k => .ref (q (b + k))).set (i : Int).toNat (.ref n) = tri fun k => .ref (upd q (b + i) n (b + k)) := by
  rw [tri_set h]
  refine tri_ext fun k hk => ?_
  unfold upd
  by_cases z : k = i
  · subst z; simp
  · rw [if_neg z, if_neg (by (first | lia | omega))]
theorem Wat.swap9 (hm : m < 3) (hn : H n = none) (h : Wat H K w A S) (g : Nat → Int) :
    Wat ((H.set n (.list (tri fun i => .int (g i)))).set (A.q 3) (.list ((tri fun i => .ref (A.q (9 + i))).set (m : Int).toNat (.ref n)))) K w { A with q := upd A.q (9 + m) n } { S with ak := upd S.ak m g } := by
  refine h.swap (.inr rfl) (by (first | lia | omega)) hn h.h3 _ (fun H' ct l c => ?_) rfl rfl
  rw [upd_tri hm]
  refine ⟨?_, ?_, ?_, ?_, ?_, ?_, fun i hi => ?_, fun i hi => ?_⟩
  · rw [upd_k (by (first | lia | omega)), upd_k (by (first | lia | omega)), c.c0]
    exact tri_ext fun i hi => by rw [upd_k (by (first | lia | omega))]
  · rw [upd_k (by (first | lia | omega)), upd_k (by (first | lia | omega))]; exact c.c1
  · rw [upd_k (by (first | lia | omega)), upd_k (by (first | lia | omega))]; exact c.c2
  · exact upd_self
  · rw [upd_k (by (first | lia | omega)), upd_k (by (first | lia | omega))]; exact c.c4
  · rw [upd_k (by (first | lia | omega)), upd_k (by (first | lia | omega))]; exact c.c5
  · rw [upd_k (by (first | lia | omega)), upd_k (by (first | lia | omega))]; exact (c.c6 i hi)
  · rw [upd_k (by (first | lia | omega))]
    show _ = tri fun j => .int (upd S.ak m g i j)
    by_cases z : i = m
    · subst z; rw [upd_self, upd_self]
    · rw [upd_k (by (first | lia | omega)), upd_ne z]; exact c.c9 i hi
theorem Wat.swap6 {vs : List V} {es : List Ent} (hm : m < 3) (hn : H n = none) (h : Wat H K w A S) (hr : Rows H vs es) :
    Wat ((H.set n (.list vs)).set (A.q 0) (.list ((tri fun i => .ref (A.q (6 + i))).set (m : Int).toNat (.ref n)))) K w { A with q := upd A.q (6 + m) n } { S with pl := upd S.pl m es } := by
  refine h.swap (.inl rfl) (by (first | lia | omega)) hn h.h0 _ (fun H' ct l c => ?_) rfl rfl
  rw [upd_tri hm]
  refine ⟨?_, ?_, ?_, ?_, ?_, ?_, fun i hi => ?_, fun i hi => ?_⟩
  · exact upd_self
  · rw [upd_k (by (first | lia | omega)), upd_k (by (first | lia | omega))]; exact c.c1
  · rw [upd_k (by (first | lia | omega)), upd_k (by (first | lia | omega))]; exact c.c2
  · rw [upd_k (by (first | lia | omega)), upd_k (by (first | lia | omega)), c.c3]
    exact tri_ext fun i hi => by rw [upd_k (by (first | lia | omega))]
  · rw [upd_k (by (first | lia | omega)), upd_k (by (first | lia | omega))]; exact c.c4
  · rw [upd_k (by (first | lia | omega)), upd_k (by (first | lia | omega))]; exact c.c5
  · rw [upd_k (by (first | lia | omega))]
    show Rows _ _ (upd S.pl m es i)
    by_cases z : i = m
    · subst z; rw [upd_self, upd_self]; exact hr.tle l
    · rw [upd_k (by (first | lia | omega)), upd_ne z]; exact c.c6 i hi
  · rw [upd_k (by (first | lia | omega)), upd_k (by (first | lia | omega))]; exact c.c9 i hi
end

end Rk
namespace Rk

section
variable {D : Wd} {d : Nat} {c : Cx} {E : Value → Shared → Prop} {σ : St} {H H' K K' : Hp} {w a n x xl : Addr} {A : WA} {S : Sta} {o o' : MO} {m j : Nat} {t i k : Int} {e : Ent} {b : Array UInt8} {mm : Str → Option V} {N : Unit → St → Prop} {P : Value → List V → St → Prop} {Q : V → Hp → Prop} {Qs : V → St → Prop} {xs : List V} {ns : List Ent}
theorem wm_last_index (hD : IsD c.D) (hw : Wat σ.H K w A S) (hm : m < 3) (h : P (.ref 543) [.ref (A.r m)] σ) : c.Meth E (.ref (A.r m)) "last_index" P σ := by obtain ⟨mc, hr⟩ := (hw.lo m hm).rr; exact me_RaftLog_last_index hD hr h
theorem wm_last_term (hD : IsD c.D) (hw : Wat σ.H K w A S) (hm : m < 3) (h : P (.ref 550) [.ref (A.r m)] σ) : c.Meth E (.ref (A.r m)) "last_term" P σ := by obtain ⟨mc, hr⟩ := (hw.lo m hm).rr; exact me_RaftLog_last_term hD hr h
theorem wm_up_to_date (hD : IsD c.D) (hw : Wat σ.H K w A S) (hm : m < 3) (h : P (.ref 578) [.ref (A.r m)] σ) : c.Meth E (.ref (A.r m)) "up_to_date" P σ := by obtain ⟨mc, hr⟩ := (hw.lo m hm).rr; exact me_RaftLog_up_to_date hD hr h
theorem wm_maybe_append (hD : IsD c.D) (hw : Wat σ.H K w A S) (hm : m < 3) (h : P (.ref 585) [.ref (A.r m)] σ) : c.Meth E (.ref (A.r m)) "maybe_append" P σ := by obtain ⟨mc, hr⟩ := (hw.lo m hm).rr; exact me_RaftLog_maybe_append hD hr h
theorem wm_append (hD : IsD c.D) (hw : Wat σ.H K w A S) (hm : m < 3) (h : P (.ref 592) [.ref (A.r m)] σ) : c.Meth E (.ref (A.r m)) "append" P σ := by obtain ⟨mc, hr⟩ := (hw.lo m hm).rr; exact me_RaftLog_append hD hr h
theorem wm_maybe_commit (hD : IsD c.D) (hw : Wat σ.H K w A S) (hm : m < 3) (h : P (.ref 627) [.ref (A.r m)] σ) : c.Meth E (.ref (A.r m)) "maybe_commit" P σ := by obtain ⟨mc, hr⟩ := (hw.lo m hm).rr; exact me_RaftLog_maybe_commit hD hr h
theorem wm_unstable_entries (hD : IsD c.D) (hw : Wat σ.H K w A S) (hm : m < 3) (h : P (.ref 655) [.ref (A.r m)] σ) : c.Meth E (.ref (A.r m)) "unstable_entries" P σ := by obtain ⟨mc, hr⟩ := (hw.lo m hm).rr; exact me_RaftLog_unstable_entries hD hr h
theorem wg_committed {Q : V → St → Prop} (hD : IsD c.D) (hw : Wat σ.H K w A S) (hm : m < 3) (h : Q (.int (S.lc m)) σ) : c.Get E (.ref (A.r m)) "committed" Q σ := by obtain ⟨mc, hr⟩ := (hw.lo m hm).rr; exact gfG hD hr rfl rfl rfl h
/-- stores -/
theorem ws_1 (hw : Wat H K w A S) (hm : m < 3) (h : ∀ H', Wat H' K w A { S with tm := upd S.tm m t } → N () ⟨mm, H'⟩) : c.Seti E (.ref (A.q 1)) (.int (m : Int)) (.int t) N ⟨mm, H⟩ := set_item hw.h1 (by (first | lia | omega)) (by simp; (first | lia | omega)) (by (first | lia | omega)) (h _ (hw.set1 hm))
theorem ws_2 (hw : Wat H K w A S) (hm : m < 3) (h : ∀ H', Wat H' K w A { S with ld := upd S.ld m t } → N () ⟨mm, H'⟩) : c.Seti E (.ref (A.q 2)) (.int (m : Int)) (.int t) N ⟨mm, H⟩ := set_item hw.h2 (by (first | lia | omega)) (by simp; (first | lia | omega)) (by (first | lia | omega)) (h _ (hw.set2 hm))
theorem ws_4 (hw : Wat H K w A S) (hm : m < 3) (h : ∀ H', Wat H' K w A { S with co := upd S.co m t } → N () ⟨mm, H'⟩) : c.Seti E (.ref (A.q 4)) (.int (m : Int)) (.int t) N ⟨mm, H⟩ := set_item hw.h4 (by (first | lia | omega)) (by simp; (first | lia | omega)) (by (first | lia | omega)) (h _ (hw.set4 hm))
theorem ws_9 (hw : Wat H K w A S) (hm : m < 3) (hj : j < 3) (h : ∀ H', Wat H' K w A { S with ak := upd S.ak m (upd (S.ak m) j t) } → N () ⟨mm, H'⟩) : c.Seti E (.ref (A.q (9 + m))) (.int (j : Int)) (.int t) N ⟨mm, H⟩ := set_item (hw.h9 hm) (by (first | lia | omega)) (by simp; (first | lia | omega)) (by (first | lia | omega)) (h _ (hw.set9 hm hj))
theorem wa_6 (hw : Wat H K w A S) (hm : m < 3) (hz : (S.pl m).length ≤ 100) (hx : H x = some (.tup [.int t, .bytes b])) (h : ∀ H', Wat H' K w A { S with pl := upd S.pl m (S.pl m ++ [(t, b)]) } → Qs .none ⟨mm, H'⟩) : c.Call E (.builtin "list.append") [.ref (A.q (6 + m)), .ref x] Qs ⟨mm, H⟩ := by
  obtain ⟨vs, h1, h2⟩ := hw.h6 hm
  have := h2.length
  exact c_append h1 (by (first | lia | omega)) (h _ (hw.app6 (e := (t, b)) hm h1 hx))
theorem wa_5 (hw : Wat H K w A S) (hz : S.su.length ≤ 100) (hx : H x = some (.tup [.int t, .bytes b])) (h : ∀ H', Wat H' K w A { S with su := S.su ++ [(t, b)] } → Qs .none ⟨mm, H'⟩) : c.Call E (.builtin "list.append") [.ref (A.q 5), .ref x] Qs ⟨mm, H⟩ := by
  obtain ⟨vs, h1, h2⟩ := hw.h5
  have := h2.length
  exact c_append h1 (by (first | lia | omega)) (h _ (hw.app5 (e := (t, b)) h1 hx))
theorem wp_6 (hw : Wat σ.H K w A S) (hm : m < 3) (h : P (.builtin "list.append") [.ref (A.q (6 + m))] σ) : c.Meth E (.ref (A.q (6 + m))) "append" P σ := by obtain ⟨vs, h1, _⟩ := hw.h6 hm; exact m_append h1 h
theorem wp_5 (hw : Wat σ.H K w A S) (h : P (.builtin "list.append") [.ref (A.q 5)] σ) : c.Meth E (.ref (A.q 5)) "append" P σ := by obtain ⟨vs, h1, _⟩ := hw.h5; exact m_append h1 h
theorem wl_6 (hw : Wat σ.H K w A S) (hm : m < 3) (hz : (S.pl m).length ≤ 100) (h : Qs (.int (S.pl m).length) σ) : c.Call E (.builtin "len") [.ref (A.q (6 + m))] Qs σ := by
  obtain ⟨vs, h1, h2⟩ := hw.h6 hm
  have := h2.length
  exact f_len h1 (by (first | lia | omega)) (by rw [this]; exact h)
theorem wl_5 (hw : Wat σ.H K w A S) (hz : S.su.length ≤ 100) (h : Qs (.int S.su.length) σ) : c.Call E (.builtin "len") [.ref (A.q 5)] Qs σ := by
  obtain ⟨vs, h1, h2⟩ := hw.h5
  have := h2.length
  exact f_len h1 (by (first | lia | omega)) (by rw [this]; exact h)
theorem nwc_Entry (hD : IsD c.D) (r : c.Room 2) (h : ∀ n, H n = none → Qs (.ref n) ⟨mm, H.set n (.inst 189 (EntryFs (.int t) (.int i) (.int k) (.bytes b)))⟩) : c.Call E (.ref 189) [.int t, .int i, .int k, .bytes b] Qs ⟨mm, H⟩ :=
  nw_Entry hD (d := 1) r fun n hn => fn_Entry hD hs_self fun H' e => by
    subst e
    refine ⟨rfl, ?_⟩
    have q : (H.set n (.inst 189 [])).set n (.inst 189 (EntryFs (.int t) (.int i) (.int k) (.bytes b))) = H.set n (.inst 189 (EntryFs (.int t) (.int i) (.int k) (.bytes b))) := by
      funext y; simp only [Hp.set]; by_cases z : y = n <;> simp [z]
    rw [q]; exact h n hn
theorem Wat.shrink (l : K'.Le K) (h : Wat H K w A S) : Wat H K' w A S := by
  have k : ∀ b, K b = none → K' b = none := fun b e => by
    cases q : K' b with
    | none => rfl
    | some o => rw [l _ _ q] at e; cases e
  exact ⟨h.w, h.lg, h.ct, h.lo, h.inj, h.lgx, h.rinj, h.uinj, l.trans h.Kl, fun i hi => k _ (h.Kq i hi), fun i hi => k _ (h.Kr i hi), fun i hi => k _ (h.Ku i hi)⟩
theorem Wat.new0 (hn : H n = none) (h : Wat H K w A S) : Wat (H.set n o) K w A S := h.le (Hp.Le.set _ hn)
theorem Wat.non (h : Wat H K w A S) (hn : H n = none) : K n = none := by
  cases q : K n with
  | none => rfl
  | some o => rw [h.Kl _ _ q] at hn; cases hn
theorem Wat.s (e : K a = none) (h : Wat H (K.set a o) w A S) : Wat H K w A S := h.shrink (Hp.Le.set _ e)
theorem Wat.re {S' : Sta} (h : Wat H K w A S) (e : S = S') : Wat H K w A S' := e ▸ h
theorem hg_wat (h : Wat H K w A S) (e : K a = some o) : H a = some o := h.Kl _ _ e
theorem upd_same {α : Type} {f : Nat → α} : upd f m (f m) = f := by
  funext i; unfold upd; split
  · rename_i q; rw [q]
  · rfl
theorem fw_append (hD : IsD D) (hw : Wat H K w A S) (hm : m < 3) (hx : H xl = some (.list xs)) (hn : EntV H k xs ns) (hk : 1 ≤ ns.length → 1 ≤ k ∧ k ≤ (S.lo m).length + 1 ∧ S.lc m < k) (hz : (S.lo m).length + ns.length ≤ 100)
    (h : ∀ H', Wat H' K w A { S with lo := upd S.lo m (appE (S.lo m) ns k) } → Q (.int (appE (S.lo m) ns k).length) H') : Fn D 3 592 [.ref (A.r m), .ref xl] Q H :=
  fn_append hD (hw.lo m hm) hx hn hk hz fun H' c l => h H' (by have z := hw.chg hm c l; rw [upd_same] at z; exact z)
end
section
variable {D : Wd} {d : Nat} {H H' K K' : Hp} {w a n x xl : Addr} {A : WA} {S : Sta} {m j : Nat} {t i k : Int} {Q : V → Hp → Prop}
noncomputable def putS (S : Sta) (m : Nat) (t : Int) : Sta := { S with pl := upd S.pl m (S.pl m ++ [(S.ld m, byteArr [t])]), lo := upd S.lo m (S.lo m ++ [(S.ld m, byteArr [t])]) }
theorem fn_put (hD : IsD D) (hw : Wat H K w A S) (hm : m < 3) (ht : 0 ≤ t ∧ t < 256) (hz : (S.pl m).length ≤ 50) (hs : (S.lo m).length = (S.pl m).length) (hc : S.lc m ≤ (S.pl m).length) (h : ∀ H', Wat H' K w A (putS S m t) → Q (.bool true) H') : Fn D 4 751 [.ref w, .int m, .int t] Q H := by
  refine fn_def (hK := by rw [hD.k]; k_is) (hcd := by rw [hD.k]; k_is) (ns := ["w", "m", "tag"]) ?_ ?_ ?_ rfl rfl rfl ?_
  · exact fun _ _ _ => rfl
  · decide
  · decide
  intro c cD cn cs cc cr
  subst cD
  with_reducible refine' s_cons (s_assignT ?_)
  refine' w_local rfl ?_
  refine' as_tup (Wat.w ‹_›) rfl ?_
  with_reducible refine' as_cons ?_
  refine' st_local (lof ‹_› ⟨rfl, rfl⟩) ?_
  with_reducible refine' as_cons ?_
  refine' st_local (lof ‹_› ⟨rfl, rfl⟩) ?_
  with_reducible refine' as_cons ?_
  refine' st_local (lof ‹_› ⟨rfl, rfl⟩) ?_
  with_reducible refine' as_cons ?_
  refine' st_local (lof ‹_› ⟨rfl, rfl⟩) ?_
  with_reducible refine' as_cons ?_
  refine' st_local (lof ‹_› ⟨rfl, rfl⟩) ?_
  with_reducible refine' as_cons ?_
  refine' st_local (lof ‹_› ⟨rfl, rfl⟩) ?_
  with_reducible refine' as_cons ?_
  refine' st_local (lof ‹_› ⟨rfl, rfl⟩) ?_
  with_reducible refine' as_nil (th_next (s_cons (s_assign (w_call ?_))))
  refine' gl_bytes ‹_› (kof ‹_› rfl) ?_
  refine' cv_raw rfl ?_
  with_reducible refine' w_es_cons (w_list (w_es_cons ?_))
  refine' w_local rfl ?_
  with_reducible refine' w_es_nil ?_
  refine' ⟨(Nat.le_of_ble_eq_true rfl), ?_⟩
  with_reducible refine' fun _ _ => w_es_nil ?_
  refine' f_bytes hg_self (by lia) ?_
  refine' st_local (lof ‹_› ⟨rfl, rfl⟩) ?_
  with_reducible refine' th_next (s_cons (s_ex (w_meth (w_sub ?_))))
  refine' w_local rfl ?_
  refine' w_local rfl ?_
  refine' i_list (hg_up (hg_new (by with_reducible assumption) (Wat.h0 ‹_›))) (by lia) (by lia) (tri_at ‹_›) ?_
  with_reducible refine' wp_6 (Wat.new0 (by with_reducible assumption) hw) hm ?_
  refine' cm_one rfl ?_
  with_reducible refine' w_es_cons (w_tuple (w_es_cons (w_sub ?_)))
  refine' w_local rfl ?_
  refine' w_local rfl ?_
  refine' i_list (hg_up (hg_new (by with_reducible assumption) (Wat.h2 ‹_›))) (by lia) (by lia) (tri_at ‹_›) ?_
  with_reducible refine' w_es_cons ?_
  refine' w_local rfl ?_
  with_reducible refine' w_es_nil ?_
  refine' ⟨(Nat.le_of_ble_eq_true rfl), ?_⟩
  with_reducible refine' fun _ _ => w_es_nil ?_
  refine' wa_6 (Wat.new0 (by with_reducible assumption) (Wat.new0 (by with_reducible assumption) hw)) hm (by lia) hg_self ?_
  with_reducible refine' fun _ _ => ?_
  refine' ⟨rfl, ?_⟩
  with_reducible refine' th_next (s_cons (s_assign (w_call ?_)))
  refine' gl_len ‹_› (kof ‹_› rfl) ?_
  refine' cv_raw rfl ?_
  with_reducible refine' w_es_cons (w_sub ?_)
  refine' w_local rfl ?_
  refine' w_local rfl ?_
  refine' i_list (Wat.h0 ‹_›) (by lia) (by lia) (tri_at ‹_›) ?_
  with_reducible refine' w_es_nil ?_
  refine' wl_6 (by with_reducible assumption) hm (by simp only [upd_self, List.length_append, List.length_cons, List.length_nil]; exact (by lia)) ?_
  refine' st_local (lof ‹_› ⟨rfl, rfl⟩) ?_
  with_reducible refine' th_next (s_one (s_ret (w_cmp (w_meth (w_sub ?_)))))
  refine' w_local rfl ?_
  refine' w_local rfl ?_
  refine' i_list (Wat.lg ‹_›) (by lia) (by lia) (tri_at ‹_›) ?_
  with_reducible refine' wm_append ‹_› (by with_reducible assumption) hm ?_
  refine' cm_one (kp_of ‹_› rfl) ?_
  with_reducible refine' w_es_cons (w_list (w_es_cons (w_call ?_)))
  refine' gl_Entry ‹_› (kof ‹_› rfl) ?_
  refine' cv_ref (kp_of ‹_› rfl) ?_
  with_reducible refine' w_es_cons (w_sub ?_)
  refine' w_local rfl ?_
  refine' w_local rfl ?_
  refine' i_list (Wat.h2 ‹_›) (by lia) (by lia) (tri_at ‹_›) ?_
  with_reducible refine' w_es_cons ?_
  refine' w_local rfl ?_
  with_reducible refine' w_es_cons ?_
  refine' gl_ENTRY_NORMAL ‹_› (kof ‹_› rfl) ?_
  with_reducible refine' w_es_cons ?_
  refine' w_local rfl ?_
  with_reducible refine' w_es_nil ?_
  refine' nwc_Entry ‹_› (Room.le ‹_› (by decide)) ?_
  with_reducible refine' fun _ _ => w_es_nil ?_
  refine' ⟨(Nat.le_of_ble_eq_true rfl), ?_⟩
  with_reducible refine' fun _ _ => w_es_nil ?_
  rename_i hw2 n4 hn4 n5 hn5
  have e1 : ((upd S.pl m (S.pl m ++ [(S.ld m, byteArr [t])]) m).length : Int) = (S.pl m).length + 1 := by rw [upd_self, List.length_append]; rfl
  refine Fn.go (fw_append hD (Wat.new0 hn5 (Wat.new0 hn4 hw2)) hm hs_self (ns := [(S.ld m, byteArr [t])]) (k := (S.pl m).length + 1) ?_ ?_ ?_ ?_) (Room.le ‹_› (by decide))
  · refine ⟨⟨_, rfl, ?_⟩, trivial⟩
    rw [← e1]
    exact hs_new hn5 hs_self
  · intro _
    refine ⟨by (first | lia | omega), ?_, ?_⟩
    · show _ ≤ ((S.lo m).length : Int) + 1; (first | lia | omega)
    · show S.lc m < _; (first | lia | omega)
  · show (S.lo m).length + 1 ≤ 100; (first | lia | omega)
  · intro H' hw'
    have e2 : appE (S.lo m) [(S.ld m, byteArr [t])] ((S.pl m).length + 1) = S.lo m ++ [(S.ld m, byteArr [t])] := by
      rw [appE, if_neg (by simp), show ((((S.pl m).length : Int) + 1) - 1).toNat = (S.lo m).length by (first | lia | omega), List.take_length]
    have e3 : ((appE (S.lo m) [(S.ld m, byteArr [t])] ((S.pl m).length + 1)).length : Int) = (S.pl m).length + 1 := by rw [e2, List.length_append]; simp; (first | lia | omega)
    refine' w_local rfl ?_
    with_reducible refine' c_eq ?_
    have z := h H' (hw'.re (by rw [putS, ← e2]))
    have e4 : (((appE (S.lo m) [(S.ld m, byteArr [t])] ((S.pl m).length + 1)).length : Int) == ((upd S.pl m (S.pl m ++ [(S.ld m, byteArr [t])]) m).length : Int)) = true := by rw [e3, e1]; simp
    have z2 : Q (.bool (((appE (S.lo m) [(S.ld m, byteArr [t])] ((S.pl m).length + 1)).length : Int) == ((upd S.pl m (S.pl m ++ [(S.ld m, byteArr [t])]) m).length : Int))) H' := by rw [e4]; exact z
    exact z2
end

end Rk
namespace Rk

noncomputable def mxT (S : Sta) : Int := max (max (S.tm 0) (S.tm 1)) (S.tm 2)
section
variable {D : Wd} {d : Nat} {c : Cx} {E : Value → Shared → Prop} {σ : St} {H H' K K' : Hp} {w a b n x xl hl : Addr} {A : WA} {S : Sta} {m j : Nat} {t i k : Int} {Q : V → Hp → Prop} {Qs : V → St → Prop} {js : List Nat}
theorem wmax (hw : Wat σ.H K w A S) (h : Qs (.int (mxT S)) σ) (hh : c.A.handled = none := by exact Cx.Room.hh (by assumption)) : c.Call E (.builtin "max") [.ref (A.q 1)] Qs σ :=
  f_maxl (ns := [S.tm 0, S.tm 1, S.tm 2]) hw.h1 (by simp) (hh := hh) fun M h1 h2 => by
    have e : M = mxT S := by
      unfold mxT
      have a0 := h2 (S.tm 0) (by simp)
      have a1 := h2 (S.tm 1) (by simp)
      have a2 := h2 (S.tm 2) (by simp)
      simp only [List.mem_cons, List.not_mem_nil, or_false] at h1
      exact mx3 h1 a0 a1 a2
    rw [e]; exact h
theorem c_neP {x y x' y' : Int} (r : c.Room d) (e : σ.H a = some (.tup [.int x, .int y])) (e' : σ.H b = some (.tup [.int x', .int y'])) (h : Qs (.bool (!(x == x' && y == y'))) σ) : c.Cmp E .NotEq (.ref a) (.ref b) Qs σ := by
  refine c_neT r (ds := [.int x, .int y]) (es := [.int x', .int y']) ?_ ?_ (by simp [likds, likd]) (by simp [deps, dep]) ?_
  · unfold DIs; exact ⟨a, _, rfl, e, by simp [DsIs, DIs]⟩
  · unfold DIs; exact ⟨b, _, rfl, e', by simp [DsIs, DIs]⟩
  · simpa [eqds, eqd] using h
theorem rowD_inj {e f : Ent} (h : rowD e = rowD f) : e = f := by
  obtain ⟨a, b⟩ := e
  obtain ⟨c, d⟩ := f
  simp only [rowD, Dt.tup.injEq, List.cons.injEq, Dt.int.injEq, Dt.bytes.injEq, and_true] at h
  rw [h.1, h.2]
theorem rows_inj : ∀ {es fs : List Ent}, es.map rowD = fs.map rowD → es = fs
  | [], [], _ => rfl
  | [], _ :: _, h => by simp at h
  | _ :: _, [], h => by simp at h
  | e :: es, f :: fs, h => by
    simp only [List.map_cons, List.cons.injEq] at h
    rw [rowD_inj h.1, rows_inj h.2]
theorem rows_lik : ∀ {es fs : List Ent}, likds (es.map rowD) (fs.map rowD) = true
  | [], _ => by simp [likds]
  | _ :: _, [] => by simp [likds]
  | e :: es, f :: fs => by
    simp only [List.map_cons, likds, rows_lik (es := es) (fs := fs), Bool.and_true]
    simp [rowD, likd, likds]
theorem rows_deps : ∀ {es : List Ent}, deps (es.map rowD) ≤ 1
  | [] => by simp [deps]
  | e :: es => by
    have := rows_deps (es := es)
    simp only [List.map_cons, deps]
    have : dep (rowD e) = 1 := by simp [rowD, dep, deps]
    (first | lia | omega)
theorem rows_eq {es fs : List Ent} : eqds (es.map rowD) (fs.map rowD) = decide (es = fs) := by
  by_cases h : es = fs
  · subst h; rw [eqds_refl]; simp
  · rw [decide_eq_false h]
    cases q : eqds (es.map rowD) (fs.map rowD) with
    | false => rfl
    | true => exact absurd (rows_inj (eqds_eq _ _ q)) h
theorem rows_is {H : Hp} {a : Addr} {vs : List V} {es : List Ent} (h : H a = some (.list vs)) (r : Rows H vs es) : DIs H (.ref a) (.list (es.map rowD)) := by unfold DIs; exact ⟨a, vs, rfl, h, r⟩
theorem c_neR {vs us : List V} {es fs : List Ent} (r : c.Room d) (e : σ.H a = some (.list vs)) (hr : Rows σ.H vs es) (e' : σ.H b = some (.list us)) (hr' : Rows σ.H us fs) (h : Qs (.bool (!decide (es = fs))) σ) : c.Cmp E .NotEq (.ref a) (.ref b) Qs σ :=
  c_neL r (rows_is e hr) (rows_is e' hr') rows_lik (Nat.le_trans rows_deps (by decide)) (by rw [rows_eq]; exact h)
theorem c_eqR {vs us : List V} {es fs : List Ent} (r : c.Room d) (e : σ.H a = some (.list vs)) (hr : Rows σ.H vs es) (e' : σ.H b = some (.list us)) (hr' : Rows σ.H us fs) (h : Qs (.bool (decide (es = fs))) σ) : c.Cmp E .Eq (.ref a) (.ref b) Qs σ :=
  c_eqL r (rows_is e hr) (rows_is e' hr') rows_lik (Nat.le_trans rows_deps (by decide)) (by rw [rows_eq]; exact h)
theorem fw_end (hD : IsD D) (hw : Wat H K w A S) (hm : m < 3) (hz : (S.pl m).length ≤ 100) (h : ∀ n, H n = none → Q (.ref n) (H.set n (.tup [.int (lastT (S.pl m)), .int (S.pl m).length]))) : Fn D 1 739 [.ref (A.q (6 + m))] Q H := by
  obtain ⟨vs, h1, h2⟩ := hw.h6 hm
  exact fn_law_end hD h1 h2 hz h
theorem upt_pge {x y x' y' : Int} : (decide (x' < x) || (x == x' && decide (y' ≤ y))) = pge x y x' y' := by
  rw [Bool.eq_iff_iff]
  simp only [pge, Bool.or_eq_true, Bool.and_eq_true, decide_eq_true_eq, beq_iff_eq]
  by_cases h : x = x'
  · subst h
    by_cases h2 : y = y'
    · subst h2; simp
    · simp [h2]
  · simp [h]; (first | lia | omega)
/-- what stays where it stood -/
structure Same (A A' : WA) (k : Nat) : Prop where
  lg : A'.lg = A.lg
  r : A'.r = A.r
  u : A'.u = A.u
  st : A'.st = A.st
  q : ∀ i, i ≠ k → A'.q i = A.q i
theorem ws_3 {N : Unit → St → Prop} {mm : Str → Option V} (hw : Wat H K w A S) (hn : H n = none) (hm : m < 3) (h : Hold (∀ H' A', Same A A' (9 + m) → Wat H' K w A' { S with ak := upd S.ak m (fun _ => 0) } → N () ⟨mm, H'⟩)) : c.Seti E (.ref (A.q 3)) (.int (m : Int)) (.ref n) N ⟨mm, H.set n (.list [.int 0, .int 0, .int 0])⟩ :=
  set_item (hs_new hn hw.h3) (by (first | lia | omega)) (by simp; (first | lia | omega)) (by (first | lia | omega)) (h _ { A with q := upd A.q (9 + m) n } ⟨rfl, rfl, rfl, rfl, fun i hi => upd_ne hi⟩ (hw.swap9 hm hn fun _ => 0))
/-- who hears of the new term -/
noncomputable def hearS (S : Sta) (T : Int) : List Nat → Sta
  | [] => S
  | j :: r => hearS { S with tm := upd S.tm j T, ld := upd S.ld j 0 } T r
noncomputable def okB (S : Sta) (m j : Nat) : Bool := pge (lastT (S.pl m)) (S.pl m).length (lastT (S.pl j)) (S.pl j).length
noncomputable def votes (S : Sta) (m : Nat) : List Nat → Int
  | [] => 0
  | j :: r => (if okB S m j then 1 else 0) + votes S m r
noncomputable def standS (S : Sta) (m : Nat) (js : List Nat) : Sta :=
  if 1 + votes S m js < 2 then hearS { S with tm := upd S.tm m (mxT S + 1), ld := upd S.ld m 0 } (mxT S + 1) js
  else putS (let S₂ := hearS { S with tm := upd S.tm m (mxT S + 1), ld := upd S.ld m 0 } (mxT S + 1) js; { S₂ with ld := upd S₂.ld m (mxT S + 1), ak := upd S₂.ak m (fun _ => 0) }) m (S.pl m).length
theorem hearS_pl {T : Int} : ∀ {js : List Nat} {S : Sta}, (hearS S T js).pl = S.pl
  | [], _ => rfl
  | j :: r, S => hearS_pl (js := r)
theorem hearS_lo {T : Int} : ∀ {js : List Nat} {S : Sta}, (hearS S T js).lo = S.lo
  | [], _ => rfl
  | j :: r, S => hearS_lo (js := r)
theorem hearS_lc {T : Int} : ∀ {js : List Nat} {S : Sta}, (hearS S T js).lc = S.lc
  | [], _ => rfl
  | j :: r, S => hearS_lc (js := r)
theorem hearS_su {T : Int} : ∀ {js : List Nat} {S : Sta}, (hearS S T js).su = S.su
  | [], _ => rfl
  | j :: r, S => hearS_su (js := r)
theorem hearS_snoc {T : Int} {j : Nat} : ∀ {js : List Nat} {S : Sta}, hearS S T (js ++ [j]) = { hearS S T js with tm := upd (hearS S T js).tm j T, ld := upd (hearS S T js).ld j 0 }
  | [], _ => rfl
  | i :: r, S => hearS_snoc (js := r)
theorem votes_snoc {m j : Nat} {S : Sta} : ∀ {js : List Nat}, votes S m (js ++ [j]) = votes S m js + if okB S m j then 1 else 0
  | [] => by simp [votes]
  | i :: r => by rw [List.cons_append, votes, votes, votes_snoc (js := r)]; (first | lia | omega)
theorem set_set {H : Hp} {a : Addr} {o o' : MO} : (H.set a o).set a o' = H.set a o' := by
  funext y; simp only [Hp.set]; by_cases z : y = a <;> simp [z]
theorem del_set {H : Hp} {a : Addr} {o : MO} (e : H a = none) : (H.set a o).del a = H := by
  funext y; simp only [Hp.set, Hp.del]; by_cases z : y = a
  · rw [if_pos z, z, e]
  · rw [if_neg z, if_neg z]
theorem take_snoc {α : Type} {l : List α} {j : Nat} {x : α} (h : l[j]? = some x) : l.take (j + 1) = l.take j ++ [x] := by
  rw [List.take_succ, h]; rfl
theorem fn_stand (hD : IsD D) (hw : Wat H K w A S) (hm : m < 3) (hh : K hl = some (.list (js.map fun (j : Nat) => V.int (j : Int)))) (hj : ∀ j ∈ js, j < 3) (hl3 : js.length ≤ 3) (hz : ∀ i, i < 3 → (S.pl i).length ≤ 40) (hy : ∀ i, i < 3 → S.lo i = S.pl i) (hc : ∀ i, i < 3 → S.lc i ≤ (S.pl i).length) (hzs : S.su.length ≤ 40)
    (hs : 2 ≤ 1 + votes S m js → (S.pl m).take S.su.length = S.su) (h : ∀ H' A', Wat H' K w A' (standS S m js) → Q (.bool true) H') : Fn D 6 758 [.ref w, .int m, .ref hl] Q H := by
  refine fn_def (hK := by rw [hD.k]; k_is) (hcd := by rw [hD.k]; k_is) (ns := ["w", "m", "helpers"]) ?_ ?_ ?_ rfl rfl rfl ?_
  · exact fun _ _ _ => rfl
  · decide
  · decide
  intro c cD cn cs cc cr
  subst cD
  have hzm := hz m hm
  have hym := hy m hm
  with_reducible refine' s_cons (s_assignT ?_)
  refine' w_local rfl ?_
  refine' as_tup (Wat.w ‹_›) rfl ?_
  with_reducible refine' as_cons ?_
  refine' st_local (lof ‹_› ⟨rfl, rfl⟩) ?_
  with_reducible refine' as_cons ?_
  refine' st_local (lof ‹_› ⟨rfl, rfl⟩) ?_
  with_reducible refine' as_cons ?_
  refine' st_local (lof ‹_› ⟨rfl, rfl⟩) ?_
  with_reducible refine' as_cons ?_
  refine' st_local (lof ‹_› ⟨rfl, rfl⟩) ?_
  with_reducible refine' as_cons ?_
  refine' st_local (lof ‹_› ⟨rfl, rfl⟩) ?_
  with_reducible refine' as_cons ?_
  refine' st_local (lof ‹_› ⟨rfl, rfl⟩) ?_
  with_reducible refine' as_cons ?_
  refine' st_local (lof ‹_› ⟨rfl, rfl⟩) ?_
  with_reducible refine' as_nil (th_next (s_cons (s_assign (w_bin (w_call ?_)))))
  refine' gl_max ‹_› (kof ‹_› rfl) ?_
  refine' cv_raw rfl ?_
  with_reducible refine' w_es_cons ?_
  refine' w_local rfl ?_
  with_reducible refine' w_es_nil (wmax hw (w_int (b_add ?_)))
  refine' st_local (lof ‹_› ⟨rfl, rfl⟩) ?_
  with_reducible refine' th_next (s_cons (s_assignS ?_))
  refine' w_local rfl ?_
  refine' w_local rfl ?_
  refine' w_local rfl ?_
  with_reducible refine' ws_1 hw hm (fun _ _ => th_next (s_cons (s_assignS (w_int ?_))))
  refine' w_local rfl ?_
  refine' w_local rfl ?_
  with_reducible refine' ws_2 (by with_reducible assumption) hm (fun _ _ => th_next (s_cons (s_assign (w_meth (w_sub ?_)))))
  refine' w_local rfl ?_
  refine' w_local rfl ?_
  refine' i_list (Wat.lg ‹_›) (by lia) (by lia) (tri_at ‹_›) ?_
  with_reducible refine' wm_last_index ‹_› (by with_reducible assumption) hm ?_
  refine' cm_one (kp_of ‹_› rfl) ?_
  with_reducible refine' w_es_nil ?_
  refine' Fn.go (fn_last_index ‹_› (Wat.lo (by with_reducible assumption) _ hm) ?_) (Room.le ‹_› (by decide))
  refine' st_local (lof ‹_› ⟨rfl, rfl⟩) ?_
  with_reducible refine' th_next (s_cons (s_assign (w_meth (w_sub ?_))))
  refine' w_local rfl ?_
  refine' w_local rfl ?_
  refine' i_list (Wat.lg ‹_›) (by lia) (by lia) (tri_at ‹_›) ?_
  with_reducible refine' wm_last_term ‹_› (by with_reducible assumption) hm ?_
  refine' cm_one (kp_of ‹_› rfl) ?_
  with_reducible refine' w_es_nil ?_
  refine' Fn.go (fn_last_term ‹_› (Wat.lo (by with_reducible assumption) _ hm) ?_) (Room.le ‹_› (by decide))
  refine' st_local (lof ‹_› ⟨rfl, rfl⟩) ?_
  with_reducible refine' th_next (s_cons (s_if (t_cmp (w_tuple (w_es_cons ?_)))))
  refine' w_local rfl ?_
  with_reducible refine' w_es_cons ?_
  refine' w_local rfl ?_
  with_reducible refine' w_es_nil ?_
  refine' ⟨(Nat.le_of_ble_eq_true rfl), ?_⟩
  with_reducible refine' fun _ _ => w_call ?_
  refine' gl__law_end ‹_› (kof ‹_› rfl) ?_
  refine' cv_ref (kp_of ‹_› rfl) ?_
  with_reducible refine' w_es_cons (w_sub ?_)
  refine' w_local rfl ?_
  refine' w_local rfl ?_
  refine' i_list (hg_new (by with_reducible assumption) (Wat.h0 ‹_›)) (by lia) (by lia) (tri_at ‹_›) ?_
  with_reducible refine' w_es_nil ?_
  refine' Fn.go (fw_end ‹_› (Wat.new0 (by with_reducible assumption) (by with_reducible assumption)) hm (by simp only [upd_self, List.length_append, List.length_cons, List.length_nil]; exact (by lia)) ?_) (Room.le ‹_› (by decide))
  with_reducible refine' fun _ _ => c_neP ‹_› (hs_new (by with_reducible assumption) hg_self) hs_self (tr_bool (br_nb ?_ ?_))
  with_reducible refine' fun _ => s_one (s_ret (w_bool (th_ret ?_)))
  rotate_left
  with_reducible refine' fun _ => s_nil (th_next (s_cons (s_assign (w_int ?_))))
  refine' st_local (lof ‹_› ⟨rfl, rfl⟩) ?_
  with_reducible refine' th_next (s_cons (s_for ?_))
  refine' w_local rfl ?_
  with_reducible refine' it_list (hg_up (hs_new (by with_reducible assumption) (hg_new (by with_reducible assumption) (hg_wat (by with_reducible assumption) hh)))) (fun _ _ => itx ?_)
  rotate_left
  · rename_i H1 hw1 H2 hw2 n1 hn1 n2 hn2 hq
    exfalso
    revert hq
    simp [hym]
  rename_i H1 hw1 H2 hw2 n1 hn1 n2 hn2 hq it hit
  have hw3 := Wat.new0 (o := .tup [.int (lastT (S.lo m)), .int (S.lo m).length]) hn1 hw2
  have hw4 := Wat.new0 (o := .tup [.int (lastT (S.pl m)), .int (S.pl m).length]) hn2 hw3
  have kit : K it = none := hw4.non hit
  have hw5 := Wat.new (o := .li hl 0) hit hw4
  have lj : (js.map fun (j : Nat) => V.int (j : Int)).length = js.length := List.length_map ..
  refine loop_list (l := hl) (vs := js.map fun (j : Nat) => V.int (j : Int)) (fun j σ => Nms σ.m [("w", .ref w), ("m", .int m), ("logs", .ref A.lg), ("plain", .ref (A.q 0)), ("terms", .ref (A.q 1)), ("leads", .ref (A.q 2)), ("acks", .ref (A.q 3)), ("sure", .ref (A.q 5)),
      ("term", .int (mxT S + 1)), ("last", .int (S.lo m).length), ("last_term", .int (lastT (S.lo m))), ("count", .int (1 + votes S m (js.take j)))] ∧
      Wat σ.H (K.set it (.li hl j)) w A (hearS { S with tm := upd S.tm m (mxT S + 1), ld := upd S.ld m 0 } (mxT S + 1) (js.take j))) ?_ ?_ ?_ (by with_unfolding_all rfl) (Nat.zero_le _) ⟨(nmk12 rfl rfl rfl rfl rfl rfl rfl rfl rfl rfl rfl rfl), hw5⟩
  · rintro j σ ⟨_, h⟩
    exact ⟨h.Kl _ _ hs_self, h.Kl _ _ (hs_new kit hh)⟩
  · rintro p v ⟨mm, H3⟩ lt hv ⟨hN1, hw6⟩
    refine nel12 hN1 fun m1 m2 m3 m4 m5 m6 m7 m8 m9 m10 m11 m12 => ?_
    clear hN1
    rw [List.getElem?_map] at hv
    obtain ⟨j, hj1, rfl⟩ := Option.map_eq_some_iff.mp hv
    have hj3 : j < 3 := hj j (List.mem_of_getElem? hj1)
    have hw7 := Wat.put (o' := .li hl (p + 1)) hs_self rfl hw6
    rw [set_set] at hw7
    have zj := hz j hj3
    have yj := hy j hj3
    generalize hS3 : hearS { S with tm := upd S.tm m (mxT S + 1), ld := upd S.ld m 0 } (mxT S + 1) (js.take p) = S3 at hw7
    have e1 : S3.pl = S.pl := by rw [← hS3, hearS_pl]
    have e2 : S3.lo = S.lo := by rw [← hS3, hearS_lo]
    rw [← e1] at zj hzm
    have key : (decide (lastT (S3.lo j) < lastT (S.lo m)) || (lastT (S.lo m) == lastT (S3.lo j) && decide (((S3.lo j).length : Int) ≤ (S.lo m).length))) = okB S m j := by rw [upt_pge, okB, e2, yj, hym]
    have key2 : pge (lastT (S3.pl m)) (S3.pl m).length (lastT (S3.pl j)) (S3.pl j).length = okB S m j := by rw [e1]; rfl
    with_reducible refine' as_name ?_
    refine' st_local (lof ‹_› ⟨rfl, rfl⟩) ?_
    with_reducible refine' s_cons (s_assignS ?_)
    refine' w_local m9 ?_
    refine' w_local m5 ?_
    refine' w_local rfl ?_
    with_reducible refine' ws_1 hw7 hj3 (fun _ _ => th_next (s_cons (s_assignS (w_int ?_))))
    refine' w_local m6 ?_
    refine' w_local rfl ?_
    with_reducible refine' ws_2 (by with_reducible assumption) hj3 (fun _ _ => th_next (s_cons (s_assign (w_meth (w_sub ?_)))))
    refine' w_local m3 ?_
    refine' w_local rfl ?_
    refine' i_list (Wat.lg ‹_›) (by lia) (by lia) (tri_at ‹_›) ?_
    with_reducible refine' wm_up_to_date ‹_› (by with_reducible assumption) hj3 ?_
    refine' cm_one (kp_of ‹_› rfl) ?_
    with_reducible refine' w_es_cons ?_
    refine' w_local m10 ?_
    with_reducible refine' w_es_cons ?_
    refine' w_local m11 ?_
    with_reducible refine' w_es_nil ?_
    refine' Fn.go (fn_up_to_date ‹_› (Wat.lo (by with_reducible assumption) _ hj3) ?_) (Room.le ‹_› (by decide))
    refine' st_local (lof ‹_› ⟨rfl, rfl⟩) ?_
    with_reducible refine' th_next (s_cons (s_if (t_cmp ?_)))
    refine' w_local rfl ?_
    with_reducible refine' w_cmp (w_call ?_)
    refine' gl__law_end ‹_› (kof ‹_› rfl) ?_
    refine' cv_ref (kp_of ‹_› rfl) ?_
    with_reducible refine' w_es_cons (w_sub ?_)
    refine' w_local m4 ?_
    refine' w_local m2 ?_
    refine' i_list (Wat.h0 ‹_›) (by lia) (by lia) (tri_at ‹_›) ?_
    with_reducible refine' w_es_nil ?_
    refine' Fn.go (fw_end ‹_› (by with_reducible assumption) hm (by simp only [upd_self, List.length_append, List.length_cons, List.length_nil]; exact (by lia)) ?_) (Room.le ‹_› (by decide))
    with_reducible refine' fun _ _ => w_call ?_
    refine' gl__law_end ‹_› (kof ‹_› rfl) ?_
    refine' cv_ref (kp_of ‹_› rfl) ?_
    with_reducible refine' w_es_cons (w_sub ?_)
    refine' w_local m4 ?_
    refine' w_local rfl ?_
    refine' i_list (hg_new (by with_reducible assumption) (Wat.h0 ‹_›)) (by lia) (by lia) (tri_at ‹_›) ?_
    with_reducible refine' w_es_nil ?_
    refine' Fn.go (fw_end ‹_› (Wat.new0 (by with_reducible assumption) (by with_reducible assumption)) hj3 (by simp only [upd_self, List.length_append, List.length_cons, List.length_nil]; exact (by lia)) ?_) (Room.le ‹_› (by decide))
    with_reducible refine' fun _ _ => c_geP ‹_› (hs_new (by with_reducible assumption) hg_self) hs_self (c_neb (tr_bool (br_b ?_ ?_)))
    with_reducible refine' fun _ => s_one (s_ret (w_bool (th_ret (tu_ret (th_ret ?_)))))
    rotate_left
    with_reducible refine' fun _ => s_nil (th_next (s_one (s_if (t_val ?_))))
    refine' w_local rfl ?_
    with_reducible refine' tr_bool (br_b ?_ ?_)
    with_reducible refine' fun _ => s_one ?_
    refine' s_aug m12 ?_
    with_reducible refine' w_int (a_add ?_)
    refine' st_local (lof ‹_› ⟨rfl, rfl⟩) ?_
    with_reducible refine' tu_next ?_
    rotate_left
    with_reducible refine' fun _ => s_nil (tu_next ?_)
    rotate_left
    · rename_i hq
      exfalso
      have z : ((decide (lastT (S3.lo j) < lastT (S.lo m)) || (lastT (S.lo m) == lastT (S3.lo j) && decide (((S3.lo j).length : Int) ≤ (S.lo m).length))) != pge (lastT (S3.pl m)) (S3.pl m).length (lastT (S3.pl j)) (S3.pl j).length) = true := hq
      rw [key, key2] at z
      simp at z
    · rename_i H8 hw8 H9 hw9 n1 hn1 n2 hn2 hq1 hq2
      have ok := key.symm.trans hq2
      rw [take_snoc hj1, hearS_snoc, votes_snoc, hS3, if_pos ok]
      refine ⟨⟨m1, m2, m3, m4, m5, m6, m7, m8, m9, m10, m11, ?_, trivial⟩, Wat.new0 hn2 (Wat.new0 hn1 hw9)⟩
      show some (V.int _) = some (V.int _)
      congr 2
      (first | lia | omega)
    · rename_i H8 hw8 H9 hw9 n1 hn1 n2 hn2 hq1 hq2
      have ok := key.symm.trans hq2
      rw [take_snoc hj1, hearS_snoc, votes_snoc, hS3, if_neg (by rw [ok]; decide), Int.add_zero]
      exact ⟨(nmk12 m1 m2 m3 m4 m5 m6 m7 m8 m9 m10 m11 m12), Wat.new0 hn2 (Wat.new0 hn1 hw9)⟩
  · rintro ⟨mm, H3⟩ ⟨hN2, hw6⟩
    refine nel12 hN2 fun m1 m2 m3 m4 m5 m6 m7 m8 m9 m10 m11 m12 => ?_
    clear hN2
    have hw7 := Wat.del hs_self rfl hw6
    rw [del_set kit, lj, List.take_length] at hw7
    rw [lj, List.take_length] at m12
    generalize hS3 : hearS { S with tm := upd S.tm m (mxT S + 1), ld := upd S.ld m 0 } (mxT S + 1) js = S3 at hw7
    have e1 : S3.pl = S.pl := by rw [← hS3, hearS_pl]
    have e2 : S3.lo = S.lo := by rw [← hS3, hearS_lo]
    have e3 : S3.lc = S.lc := by rw [← hS3, hearS_lc]
    have e4 : S3.su = S.su := by rw [← hS3, hearS_su]
    have hzs3 : S3.su.length ≤ 40 := by rw [e4]; exact hzs
    with_reducible refine' th_next (s_cons (s_if (t_cmp ?_)))
    refine' w_local m12 ?_
    with_reducible refine' w_int (c_lt (tr_bool (br_d ?_ ?_)))
    with_reducible refine' fun _ => s_one (s_ret (w_bool (th_ret ?_)))
    rotate_left
    with_reducible refine' fun _ => s_nil (th_next (s_cons (s_assignS ?_)))
    refine' w_local m9 ?_
    refine' w_local m6 ?_
    refine' w_local m2 ?_
    with_reducible refine' ws_2 hw7 hm (fun _ _ => th_next (s_cons (s_assignS (w_list (w_es_cons (w_int (w_es_cons (w_int (w_es_cons (w_int (w_es_nil ?_)))))))))))
    refine' ⟨(Nat.le_of_ble_eq_true rfl), ?_⟩
    with_reducible refine' fun _ _ => ?_
    refine' w_local m7 ?_
    refine' w_local m2 ?_
    with_reducible refine' ws_3 (by with_reducible assumption) (by with_reducible assumption) hm ?_
    rotate_left
    · rename_i hq
      exact h _ A (by rw [standS, if_pos hq, hS3]; exact hw7)
    · rename_i hq H4 hw8 n3 hn3
      intro H5 A5 sm hw9
      rw [← sm.lg] at m3
      rw [← sm.q 0 (by (first | lia | omega))] at m4
      rw [← sm.q 5 (by (first | lia | omega))] at m8
      with_reducible refine' th_next (s_cons (s_if (t_cmp (w_slice (w_call ?_)))))
      refine' gl__law_rows ‹_› (kof ‹_› rfl) ?_
      refine' cv_ref (kp_of ‹_› rfl) ?_
      with_reducible refine' w_es_cons (w_sub ?_)
      refine' w_local m3 ?_
      refine' w_local m2 ?_
      refine' i_list (Wat.lg ‹_›) (by lia) (by lia) (tri_at ‹_›) ?_
      with_reducible refine' w_es_nil ?_
      refine' Fn.go (fn_law_rows ‹_› (Wat.lo hw9 _ hm) ?_) (Room.le ‹_› (by decide))
      intro H6 n6 vs6 l6 hn6 hv6 hr6
      have hw10 := hw9.le l6
      have lv6 : vs6.length = (S3.lo m).length := hr6.length
      have z6 : (S3.lo m).length ≤ 40 := by rw [e2, hym]; exact hzm
      with_reducible refine' p_none (p_some (w_call ?_))
      refine' gl_len ‹_› (kof ‹_› rfl) ?_
      refine' cv_raw rfl ?_
      with_reducible refine' w_es_cons ?_
      refine' w_local m8 ?_
      with_reducible refine' w_es_nil ?_
      refine' wl_5 hw10 (by simp only [upd_self, List.length_append, List.length_cons, List.length_nil]; exact (by lia)) ?_
      refine' slx hv6 (by lia) bdn (bdi (by first | lia | omega)) ?_
      with_reducible refine' fun _ _ => ?_
      refine' w_local m8 ?_
      rename_i n7 hn7
      have hw11 := Wat.new0 (o := .list (slc vs6 none (some (S3.su.length : Int)))) hn7 hw10
      obtain ⟨vs5, h5a, h5b⟩ := hw11.h5
      refine c_neR (by assumption) hs_self ((hr6.take S3.su.length).le (Hp.Le.set _ hn7)) h5a h5b ?_
      have e6 : (S3.lo m).take S3.su.length = S3.su := by
        rw [e2, hym, e4]; exact hs (by (first | lia | omega))
      have e7 : (!decide ((S3.lo m).take S3.su.length = S3.su)) = false := by rw [e6]; simp
      have zz : (S3.pl m).length ≤ 40 := by rw [e1]; exact hzm
      with_reducible refine' tr_bool (br_nd ?_ ?_)
      with_reducible refine' fun _ => s_one (s_ret (w_bool (th_ret ?_)))
      rotate_left
      with_reducible refine' fun _ => s_nil (th_next (s_one (s_ret (w_call ?_))))
      refine' gl__law_put ‹_› (kof ‹_› rfl) ?_
      refine' cv_ref (kp_of ‹_› rfl) ?_
      with_reducible refine' w_es_cons ?_
      refine' w_local m1 ?_
      with_reducible refine' w_es_cons ?_
      refine' w_local m2 ?_
      with_reducible refine' w_es_cons (w_call ?_)
      refine' gl_len ‹_› (kof ‹_› rfl) ?_
      refine' cv_raw rfl ?_
      with_reducible refine' w_es_cons (w_sub ?_)
      refine' w_local m4 ?_
      refine' w_local m2 ?_
      refine' i_list (Wat.h0 ‹_›) (by lia) (by lia) (tri_at ‹_›) ?_
      with_reducible refine' w_es_nil ?_
      refine' wl_6 hw11 hm (by simp only [upd_self, List.length_append, List.length_cons, List.length_nil]; exact (by lia)) ?_
      with_reducible refine' w_es_nil ?_
      rotate_left
      · rename_i hq
        exact absurd e6 hq
      · refine Fn.go (fn_put hD hw11 hm ⟨by (first | lia | omega), ?_⟩ ?_ ?_ ?_ ?_) (Room.le ‹_› (by decide))
        · show ((S3.pl m).length : Int) < 256; (first | lia | omega)
        · show (S3.pl m).length ≤ 50; (first | lia | omega)
        · show (S3.lo m).length = (S3.pl m).length; rw [e2, e1, hym]
        · show S3.lc m ≤ ((S3.pl m).length : Int); rw [e3, e1]; exact hc m hm
        · intro H8 hw12
          refine h H8 A5 (hw12.re ?_)
          have e9 : ((S.pl m).length : Int) = (S3.pl m).length := by rw [e1]
          rw [standS, if_neg (by (first | lia | omega)), hS3, e9]
end

end Rk
namespace Rk

section
variable {D : Wd} {d : Nat} {c : Cx} {E : Value → Shared → Prop} {σ : St} {H H' K K' : Hp} {w a b n x xl hl ml ol : Addr} {A : WA} {S : Sta} {m j p q : Nat} {t i k : Int} {Q : V → Hp → Prop} {Qs : V → St → Prop} {vs us : List V} {es fs : List Ent}
/-- the entry before is held by both -/
noncomputable def fitsB (es fs : List Ent) (p : Int) : Bool := p == 0 || (decide (p ≤ fs.length) && tmE fs p == tmE es p)
theorem Rows.tm {p : Int} (h : Rows H vs es) (hp : 1 ≤ p ∧ p ≤ es.length) : ∃ x, vs[(p - 1).toNat]? = some (.ref x) ∧ ∃ b, H x = some (.tup [.int (tmE es p), .bytes b]) := by
  have lt : (p - 1).toNat < es.length := by (first | omega | lia)
  obtain ⟨x, h1, h2⟩ := h.get (List.getElem?_eq_getElem lt)
  refine ⟨x, h1, es[(p - 1).toNat].2, ?_⟩
  unfold tmE
  rw [List.getElem?_eq_getElem lt]
  exact h2
theorem fn_fits {p : Int} (hD : IsD D) (hm : H ml = some (.list vs)) (hr : Rows H vs es) (ho : H ol = some (.list us)) (hs : Rows H us fs) (hz : es.length ≤ 100 ∧ fs.length ≤ 100) (hp : 0 ≤ p ∧ p ≤ es.length) (h : Q (.bool (fitsB es fs p)) H) : Fn D 1 765 [.ref ml, .ref ol, .int p] Q H := by
  refine fn_def (hK := by rw [hD.k]; k_is) (hcd := by rw [hD.k]; k_is) (ns := ["mine", "other", "at"]) ?_ ?_ ?_ rfl rfl rfl ?_
  · exact fun _ _ _ => rfl
  · decide
  · decide
  intro c cD cn cs cc cr
  subst cD
  have l1 := hr.length
  have l2 := hs.length
  by_cases h1 : 1 ≤ p ∧ p ≤ fs.length
  · obtain ⟨x, g1, b, g2⟩ := hr.tm (p := p) (by (first | omega | lia))
    obtain ⟨y, g3, b', g4⟩ := hs.tm (p := p) (by (first | omega | lia))
    with_reducible refine' s_one (s_ret (w_or2 (w_cmp ?_)))
    refine' w_local rfl ?_
    with_reducible refine' w_int (c_eq (tr_bool (br_eq ?_ ?_)))
    with_reducible refine' fun _ => ?_
    exact False.elim (by lia)
    with_reducible refine' fun _ => w_and2 (w_cmp ?_)
    refine' w_local rfl ?_
    with_reducible refine' w_call ?_
    refine' gl_len ‹_› (kof ‹_› rfl) ?_
    refine' cv_raw rfl ?_
    with_reducible refine' w_es_cons ?_
    refine' w_local rfl ?_
    with_reducible refine' w_es_nil ?_
    refine' f_len ho (by lia) ?_
    with_reducible refine' c_le (tr_bool (br_d ?_ ?_))
    with_reducible refine' fun _ => w_cmp (w_sub (w_sub ?_))
    refine' w_local rfl ?_
    with_reducible refine' w_bin ?_
    refine' w_local rfl ?_
    with_reducible refine' w_int (b_sub ?_)
    refine' i_list ho (by lia) (by lia) g3 ?_
    with_reducible refine' w_int ?_
    refine' i_tup g4 (by decide) (by decide) rfl ?_
    with_reducible refine' w_sub (w_sub ?_)
    refine' w_local rfl ?_
    with_reducible refine' w_bin ?_
    refine' w_local rfl ?_
    with_reducible refine' w_int (b_sub ?_)
    refine' i_list hm (by lia) (by lia) g1 ?_
    with_reducible refine' w_int ?_
    refine' i_tup g2 (by decide) (by decide) rfl ?_
    with_reducible refine' c_eq ?_
    rotate_left
    with_reducible refine' fun _ => ?_
    exact False.elim (by lia)
    · have z : fitsB es fs p = (tmE fs p == tmE es p) := by rw [fitsB, beq_eq_false_iff_ne.mpr (by (first | omega | lia)), decide_eq_true (by (first | omega | lia))]; rfl
      rw [z] at h; exact h
  · with_reducible refine' s_one (s_ret (w_or2 (w_cmp ?_)))
    refine' w_local rfl ?_
    with_reducible refine' w_int (c_eq (tr_bool (br_eq ?_ ?_)))
    with_reducible refine' fun _ => ?_
    rotate_left
    with_reducible refine' fun _ => w_and2 (w_cmp ?_)
    refine' w_local rfl ?_
    with_reducible refine' w_call ?_
    refine' gl_len ‹_› (kof ‹_› rfl) ?_
    refine' cv_raw rfl ?_
    with_reducible refine' w_es_cons ?_
    refine' w_local rfl ?_
    with_reducible refine' w_es_nil ?_
    refine' f_len ho (by lia) ?_
    with_reducible refine' c_le (tr_bool (br_d ?_ ?_))
    with_reducible refine' fun _ => ?_
    exact False.elim (by lia)
    with_reducible refine' fun _ => ?_
    rotate_left
    · rename_i q
      subst q
      exact h
    · have z : fitsB es fs p = false := by rw [fitsB, beq_eq_false_iff_ne.mpr (by (first | omega | lia)), decide_eq_false (by (first | omega | lia))]; rfl
      rw [z] at h
      have e : decide (p ≤ (us.length : Int)) = false := decide_eq_false (by (first | omega | lia))
      show Q (.bool (decide (p ≤ (us.length : Int)))) H
      rw [e]; exact h
theorem fw_fits {p : Int} (hD : IsD D) (hw : Wat H K w A S) (hm : m < 3) (hj : j < 3) (hz : (S.pl m).length ≤ 100) (hz2 : (S.pl j).length ≤ 100) (hp : 0 ≤ p ∧ p ≤ (S.pl m).length) (h : Q (.bool (fitsB (S.pl m) (S.pl j) p)) H) : Fn D 1 765 [.ref (A.q (6 + m)), .ref (A.q (6 + j)), .int p] Q H := by
  obtain ⟨vs, h1, h2⟩ := hw.h6 hm
  obtain ⟨us, h3, h4⟩ := hw.h6 hj
  exact fn_fits hD h1 h2 h3 h4 ⟨hz, hz2⟩ hp h
theorem fits_held {p : Int} (h : p ≠ 0) : fitsB es fs p = held0 fs p (tmE es p) := by
  rw [fitsB, held0, if_neg h, beq_eq_false_iff_ne.mpr h, mtch, Bool.false_or]
theorem seg_ent {x y : Int} {k l : Nat} (h : EntV H 1 vs es) (h1 : x = k) (h2 : y = l) : EntV H (x + 1) (slc vs (some x) (some y)) ((es.take l).drop k) := by
  have z := (h.take l).drop k
  rw [h1, h2, slc]
  show EntV H _ ((vs.take ((l : Int)).toNat).drop ((k : Int)).toNat) _
  rw [Int.toNat_natCast, Int.toNat_natCast, show ((k : Int) + 1) = 1 + k by (first | lia | omega)]
  exact z
theorem c_neE {x x' : Int} {y y' : Array UInt8} (r : c.Room d) (e : σ.H a = some (.tup [.int x, .bytes y])) (e' : σ.H b = some (.tup [.int x', .bytes y'])) (h : Qs (.bool (!decide (((x, y) : Ent) = (x', y')))) σ) : c.Cmp E .NotEq (.ref a) (.ref b) Qs σ := by
  refine c_neT r (ds := [.int x, .bytes y]) (es := [.int x', .bytes y']) ?_ ?_ (by simp [likds, likd]) (by simp [deps, dep]) ?_
  · unfold DIs; exact ⟨a, _, rfl, e, by simp [DsIs, DIs]⟩
  · unfold DIs; exact ⟨b, _, rfl, e', by simp [DsIs, DIs]⟩
  · have z : eqds [.int x, .bytes y] [.int x', .bytes y'] = decide (((x, y) : Ent) = (x', y')) := by
      rw [Bool.eq_iff_iff, decide_eq_true_iff, Prod.mk.injEq]
      simp [eqds, eqd]
    rw [z]; exact h
theorem seti_hold {N : Unit → St → Prop} {v i : V} (h : Hold (c.Seti E (.ref (A.q 0)) i v N σ)) : c.Seti E (.ref (A.q 0)) i v N σ := h
theorem ws_0 {N : Unit → St → Prop} {mm : Str → Option V} (hw : Wat H K w A S) (hn : H n = none) (hm : m < 3) (hr : Rows H vs es) (h : ∀ H' A', Same A A' (6 + m) → Wat H' K w A' { S with pl := upd S.pl m es } → N () ⟨mm, H'⟩) : Hold (c.Seti E (.ref (A.q 0)) (.int (m : Int)) (.ref n) N ⟨mm, H.set n (.list vs)⟩) :=
  set_item (hs_new hn hw.h0) (by (first | lia | omega)) (by simp; (first | lia | omega)) (by (first | lia | omega)) (h _ { A with q := upd A.q (6 + m) n } ⟨rfl, rfl, rfl, rfl, fun i hi => upd_ne hi⟩ (hw.swap6 hm hn hr))
theorem slc_len {lo hi : Option Int} : (slc vs lo hi).length ≤ vs.length := by
  unfold slc
  rw [List.length_drop]
  cases hi with
  | none => exact Nat.sub_le _ _
  | some y => exact Nat.le_trans (Nat.sub_le _ _) (by rw [List.length_take]; exact Nat.min_le_right _ _)
theorem filt_head {P : Nat → Bool} {u : Nat} {r : List Nat} : ∀ {n a : Nat}, filt P a n = u :: r → a ≤ u ∧ u < a + n
  | 0, a, h => by cases h
  | n + 1, a, h => by
    rw [filt] at h
    split at h
    · cases h; (first | lia | omega)
    · have := filt_head h; (first | lia | omega)
theorem filt_len {P : Nat → Bool} : ∀ {n a : Nat}, (filt P a n).length ≤ n
  | 0, a => Nat.le_refl _
  | n + 1, a => by
    rw [filt]
    have := filt_len (P := P) (n := n) (a := a + 1)
    split
    · simp only [List.length_cons]; (first | lia | omega)
    · (first | lia | omega)
noncomputable def med3 (a b c : Int) : Int := max (min a b) (min (max a b) c)
theorem sort3 {a b c : Int} {l : List Int} (p : l.Perm [a, b, c]) (s : l.Pairwise (· ≤ ·)) : ∃ x z, l = [x, med3 a b c, z] := by
  have key : ∀ l' : List Int, l'.Perm [a, b, c] → l'.Pairwise (· ≤ ·) → l = l' := fun l' p' s' => (p.trans p'.symm).eq_of_pairwise (fun x y _ _ h1 h2 => Int.le_antisymm h1 h2) s s'
  have s3 : ∀ u v w : Int, [u, v, w].Perm [a, b, c] → u ≤ v → v ≤ w → v = med3 a b c → ∃ x z, l = [x, med3 a b c, z] := fun u v w p h k e => ⟨u, w, by rw [← e]; exact key [u, v, w] p (pw3 h k)⟩
  have r : ∀ x : Int, x ≤ x := Int.le_refl
  rcases Int.le_total a b with h1 | h1 <;> rcases Int.le_total b c with h2 | h2
  · exact s3 a b c (List.Perm.refl _) h1 h2 (Int.le_antisymm (mdl12 (r _) h2) (mdu01 h1 (r _)))
  · rcases Int.le_total a c with h3 | h3
    · exact s3 a c b (List.Perm.cons _ (List.Perm.swap _ _ _)) h3 h2 (Int.le_antisymm (mdl12 h2 (r _)) (mdu02 h3 (r _)))
    · exact s3 c a b ((List.Perm.swap _ _ _).trans (List.Perm.cons _ (List.Perm.swap _ _ _))) h3 h1 (Int.le_antisymm (mdl01 (r _) h1) (mdu02 (r _) h3))
  · rcases Int.le_total a c with h3 | h3
    · exact s3 b a c (List.Perm.swap _ _ _) h1 h3 (Int.le_antisymm (mdl02 (r _) h3) (mdu01 (r _) h1))
    · exact s3 b c a ((List.Perm.cons _ (List.Perm.swap _ _ _)).trans (List.Perm.swap _ _ _)) h2 h3 (Int.le_antisymm (mdl02 h3 (r _)) (mdu12 h2 (r _)))
  · exact s3 c b a ((List.Perm.cons _ (List.Perm.swap _ _ _)).trans ((List.Perm.swap _ _ _).trans (List.Perm.cons _ (List.Perm.swap _ _ _)))) h2 h1 (Int.le_antisymm (mdl01 h1 (r _)) (mdu12 (r _) h2))
theorem wsorted (hw : Wat σ.H K w A S) (hm : m < 3) (h : ∀ n x z, σ.H n = none → Qs (.ref n) (σ.set n (.list [.int x, .int (med3 (S.ak m 0) (S.ak m 1) (S.ak m 2)), .int z]))) : c.Call E (.builtin "sorted") [.ref (A.q (9 + m))] Qs σ :=
  f_sorted (ns := [S.ak m 0, S.ak m 1, S.ak m 2]) (hw.h9 hm) (by simp) fun n ns' hn p s => by
    obtain ⟨x, z, e⟩ := sort3 p s
    subst e
    exact h n x z hn
theorem upd_upd {α : Type} {f : Nat → α} {v v' : α} : upd (upd f m v) m v' = upd f m v' := by
  funext i; unfold upd; split <;> rfl
/-- the place that is gone back to -/
noncomputable def backN (es fs : List Ent) : Nat → Nat
  | 0 => 0
  | n + 1 => if fitsB es fs ((n + 1 : Nat) : Int) then n + 1 else backN es fs n
theorem backN_le : ∀ {p : Nat}, backN es fs p ≤ p
  | 0 => Nat.le_refl _
  | n + 1 => by
    rw [backN]
    split
    · exact Nat.le_refl _
    · exact Nat.le_trans backN_le (Nat.le_succ _)
/-- the places at which two lists are unlike -/
noncomputable def unl (es fs : List Ent) : Nat → Nat → List Nat := filt fun x => decide (fs.length ≤ x ∨ fs[x]? ≠ es[x]?)
noncomputable def befE (es : List Ent) (b : Nat) : Int := if b = 0 then 0 else tmE es b
noncomputable def newN (S : Sta) (m j p q : Nat) : Nat := min (backN (S.pl m) (S.pl j) p + q) (S.pl m).length
noncomputable def segN (S : Sta) (m j p q : Nat) : List Ent := ((S.pl m).take (newN S m j p q)).drop (backN (S.pl m) (S.pl j) p)
noncomputable def tellP (S : Sta) (m j p q : Nat) : List Ent := match unl (S.pl m) (S.pl j) (backN (S.pl m) (S.pl j) p) (newN S m j p q - backN (S.pl m) (S.pl j) p) with
  | [] => S.pl j
  | u :: _ => (S.pl j).take u ++ ((S.pl m).take (newN S m j p q)).drop u
noncomputable def tellK (S : Sta) (m j p q : Nat) : Nat → Int := upd (upd (S.ak m) j (max (S.ak m j) (newN S m j p q))) m (S.pl m).length
noncomputable def twoE (g : Nat → Int) : Int := med3 (g 0) (g 1) (g 2)
noncomputable def newsB (S : Sta) (m j p q : Nat) : Bool := decide (S.co m < twoE (tellK S m j p q)) && (tmE (S.pl m) (twoE (tellK S m j p q)) == S.ld m)
noncomputable def tellS (S : Sta) (m j p q : Nat) : Sta :=
  if S.ld m < S.tm j then S else
  { S with
    pl := upd S.pl j (tellP S m j p q)
    lo := upd S.lo j (mrg (S.lo j) (backN (S.pl m) (S.pl j) p) (segN S m j p q))
    lc := if newsB S m j p q then upd (upd S.lc j (max (S.lc j) (min (S.co m) (newN S m j p q)))) m (twoE (tellK S m j p q)) else upd S.lc j (max (S.lc j) (min (S.co m) (newN S m j p q)))
    tm := upd S.tm j (S.ld m)
    ld := upd S.ld j 0
    co := if newsB S m j p q then upd (upd S.co j (max (S.co j) (min (S.co m) (newN S m j p q)))) m (twoE (tellK S m j p q)) else upd S.co j (max (S.co j) (min (S.co m) (newN S m j p q)))
    ak := upd S.ak m (tellK S m j p q) }
set_option maxHeartbeats 4000000 in
theorem fn_tell (hD : IsD D) (hw : Wat H K w A S) (hm : m < 3) (hj : j < 3) (hmj : m ≠ j) (hT : 0 < S.ld m) (hp : p ≤ (S.pl m).length) (hq : q ≤ 50) (hz : ∀ i, i < 3 → (S.pl i).length ≤ 40) (hy : ∀ i, i < 3 → S.lo i = S.pl i) (hc : ∀ i, i < 3 → S.lc i = S.co i ∧ 0 ≤ S.co i) (hak : ∀ i, i < 3 → 0 ≤ S.ak m i ∧ S.ak m i ≤ (S.pl m).length)
    (hfc : S.tm j ≤ S.ld m → fc (S.pl j) (backN (S.pl m) (S.pl j) p + 1) (segN S m j p q) = 0 ∨ S.co j < fc (S.pl j) (backN (S.pl m) (S.pl j) p + 1) (segN S m j p q))
    (h : ∀ H' A', Wat H' K w A' (tellS S m j p q) → Q (.bool true) H') : Fn D 8 770 [.ref w, .int m, .int j, .int p, .int q] Q H := by
  refine fn_defC (hK := by rw [hD.k]; k_is) (hcd := by rw [hD.k]; k_is) (ns := ["w", "m", "j", "at", "count"]) ?_ ?_ ?_ ?_ rfl rfl rfl ?_
  · exact fun _ _ _ _ _ => rfl
  · intro n x hx
    simp only [List.mem_cons, List.not_mem_nil, or_false] at hx
    rcases hx with rfl | rfl | rfl | rfl | rfl <;> first | exact .inl rfl | exact .inr ⟨rfl, rfl⟩
  · decide
  · decide
  intro c n cD cn cs cc hn cr
  subst cD
  have n0 : H n = none := hn n (Nat.le_refl _)
  have n1 : H (n + 1) = none := hn _ (Nat.le_succ _)
  have n2 : H (n + 1 + 1) = none := hn _ (Nat.le_trans (Nat.le_succ _) (Nat.le_succ _))
  have cc : c.cl = ([("mine", n + 1 + 1), ("plain", n + 1), ("j", n)] : List (Str × Addr)) := cc
  show c.Ss Nope _ _ ⟨mOf ["w", "m", "at", "count"] [.ref w, .int m, .int p, .int q] fun _ => none, ((H.set n (.cell (some (.int j)))).set (n + 1) (.cell none)).set (n + 1 + 1) (.cell none)⟩
  have d1 : n ≠ n + 1 := by (first | lia | omega)
  have d2 : n ≠ n + 1 + 1 := by (first | lia | omega)
  have d3 : n + 1 ≠ n + 1 + 1 := by (first | lia | omega)
  generalize n + 1 + 1 = cm at n2 cc d2 d3 ⊢
  generalize n + 1 = cp at n1 cc d1 d3 ⊢
  have n1' : (H.set n (.cell (some (.int j)))) cp = none := (Hp.set_ne _ _ (Ne.symm d1)).trans n1
  have n2' : ((H.set n (.cell (some (.int j)))).set cp (.cell none)) cm = none := (Hp.set_ne _ _ (Ne.symm d3)).trans ((Hp.set_ne _ _ (Ne.symm d2)).trans n2)
  have hw0 := Wat.new (o := .cell none) n2' (Wat.new (o := .cell none) n1' (Wat.new (o := .cell (some (.int j))) n0 hw))
  have lk0 : K.Le ((((K.set n (.cell (some (.int j)))).set cp (.cell none)).set cm (.cell none)).set cp (.cell (some (.ref (A.q 0))))) := Hp.Le.setN (hw.non n1) (Hp.Le.setN (hw.non n2) (Hp.Le.setN (hw.non n1) (Hp.Le.setN (hw.non n0) (Hp.Le.refl _))))
  let Nx1 : St → Prop := fun σ => Nms σ.m [("w", .ref w), ("m", .int m), ("at", .int p), ("count", .int q), ("logs", .ref A.lg), ("terms", .ref (A.q 1)), ("leads", .ref (A.q 2)), ("acks", .ref (A.q 3)), ("coms", .ref (A.q 4)), ("sure", .ref (A.q 5))] ∧
    ∃ K1, K.Le K1 ∧ K1 n = some (.cell (some (.int j))) ∧ K1 cp = some (.cell (some (.ref (A.q 0)))) ∧ K1 cm = some (.cell none) ∧ Wat σ.H K1 w A S
  refine ss_mid Nx1 ?_ ?_
  · with_reducible refine' s_assignT ?_
    refine' w_local rfl ?_
    refine' as_tup (Wat.w ‹_›) rfl ?_
    with_reducible refine' as_cons ?_
    refine' st_local (lof ‹_› ⟨rfl, rfl⟩) ?_
    with_reducible refine' as_cons ?_
    refine' st_cell (kof ‹_› rfl) (clof ‹_› rfl) (hg_wat hw0 (hs_ne d3 hs_self)) ?_
    with_reducible refine' as_cons ?_
    refine' st_local (lof ‹_› ⟨rfl, rfl⟩) ?_
    with_reducible refine' as_cons ?_
    refine' st_local (lof ‹_› ⟨rfl, rfl⟩) ?_
    with_reducible refine' as_cons ?_
    refine' st_local (lof ‹_› ⟨rfl, rfl⟩) ?_
    with_reducible refine' as_cons ?_
    refine' st_local (lof ‹_› ⟨rfl, rfl⟩) ?_
    with_reducible refine' as_cons ?_
    refine' st_local (lof ‹_› ⟨rfl, rfl⟩) ?_
    with_reducible refine' as_nil (md_next ?_)
    exact ⟨(nmk10 rfl rfl rfl rfl rfl rfl rfl rfl rfl rfl), _, lk0, hs_ne d1 (hs_ne d2 (hs_ne d1 hs_self)), hs_self, hs_ne (Ne.symm d3) hs_self, Wat.put (o' := .cell (some (.ref (A.q 0)))) (hs_ne d3 hs_self) rfl hw0⟩
  · rintro ⟨mm, H1⟩ ⟨hN3, K1, lk, k1, k2, k3, hw1⟩
    refine nel10 hN3 fun m1 m2 m3 m4 m5 m6 m7 m8 m9 m10 => ?_
    clear hN3
    with_reducible refine' s_cons (s_assign (w_sub ?_))
    refine' w_local m7 ?_
    refine' w_local m2 ?_
    refine' i_list (Wat.h2 ‹_›) (by lia) (by lia) (tri_at ‹_›) ?_
    refine' st_local (lof ‹_› ⟨rfl, rfl⟩) ?_
    with_reducible refine' th_next (s_cons (s_if (t_cmp (w_sub ?_))))
    refine' w_local m6 ?_
    refine' w_cell (clof ‹_› rfl) (hg_wat hw1 k1) (kof ‹_› rfl) ?_
    refine' i_list (Wat.h1 ‹_›) (by lia) (by lia) (tri_at ‹_›) ?_
    refine' w_local rfl ?_
    with_reducible refine' c_gt (tr_bool (br_d ?_ ?_))
    with_reducible refine' fun _ => s_one (s_ret (w_bool (th_ret ?_)))
    rotate_left
    with_reducible refine' fun _ => s_nil (th_next (s_cons (s_assignS ?_)))
    refine' w_local rfl ?_
    refine' w_local m6 ?_
    refine' w_cell (clof ‹_› rfl) (hg_wat hw1 k1) (kof ‹_› rfl) ?_
    with_reducible refine' ws_1 hw1 hj (fun _ _ => th_next (s_cons (s_assignS (w_int ?_))))
    refine' w_local m7 ?_
    refine' w_cell (clof ‹_› rfl) (hg_wat (by with_reducible assumption) k1) (kof ‹_› rfl) ?_
    with_reducible refine' ws_2 (by with_reducible assumption) hj (fun _ _ => th_next (s_cons (s_assign (w_sub ?_))))
    refine' w_cell (clof ‹_› rfl) (hg_wat (by with_reducible assumption) k2) (kof ‹_› rfl) ?_
    refine' w_local m2 ?_
    refine' i_list (Wat.h0 ‹_›) (by lia) (by lia) (tri_at ‹_›) ?_
    refine' st_cell (kof ‹_› rfl) (clof ‹_› rfl) (hg_wat (by with_reducible assumption) k3) ?_
    with_reducible refine' th_next (s_cons (s_assign (w_meth (w_sub ?_))))
    refine' w_local m5 ?_
    refine' w_local m2 ?_
    refine' i_list (hg_put (hg_wat (by with_reducible assumption) k3) (Wat.lg ‹_›) (by intro h; cases h)) (by lia) (by lia) (tri_at ‹_›) ?_
    refine' wm_unstable_entries ‹_› (Wat.put k3 rfl (by with_reducible assumption)) hm ?_
    refine' cm_one (kp_of ‹_› rfl) ?_
    with_reducible refine' w_es_nil ?_
    refine' Fn.go (fn_unstable_entries ‹_› (Wat.lo (Wat.put k3 rfl (by with_reducible assumption)) _ hm) ?_) (Room.le ‹_› (by decide))
    with_reducible refine' fun _ _ => fun _ _ => ?_
    refine' st_local (lof ‹_› ⟨rfl, rfl⟩) ?_
    with_reducible refine' th_next (s_consW ?_)
    rotate_left
    · rename_i hq1
      exact h _ A (by rw [tellS, if_pos hq1]; exact hw1.shrink lk)
    · rename_i q1 H2 hw2 H3 hw3 hl vsH hnl hvH
      have hb1 := Wat.put (o' := .cell (some (.ref (A.q (6 + m))))) k3 rfl (hw3.re (S' := { S with tm := upd S.tm j (S.ld m), ld := upd S.ld j 0 }) rfl)
      have hb2 := Wat.new0 (o := .list vsH) hnl hb1
      have kk1 : (K1.set cm (.cell (some (.ref (A.q (6 + m)))))) n = some (.cell (some (.int j))) := hs_ne d2 k1
      have kk2 : (K1.set cm (.cell (some (.ref (A.q (6 + m)))))) cp = some (.cell (some (.ref (A.q 0)))) := hs_ne d3 k2
      have kk3 : (K1.set cm (.cell (some (.ref (A.q (6 + m)))))) cm = some (.cell (some (.ref (A.q (6 + m))))) := hs_self
      have lk2 : K.Le (K1.set cm (.cell (some (.ref (A.q (6 + m)))))) := fun b o e => by
        by_cases z : b = cm
        · have z2 := lk _ _ e; rw [z, k3] at z2; rw [z] at e; rw [hw.non n2] at e; cases e
        · exact hs_ne z (lk _ _ e)
      have hbe : EntV ((H3.set cm (.cell (some (.ref (A.q (6 + m)))))).set hl (.list vsH)) 1 vsH (S.pl m) := by
        rw [← hy m hm]; exact hvH.le (fun a fs e => hs_new hnl e)
      have hbh : ((H3.set cm (.cell (some (.ref (A.q (6 + m)))))).set hl (.list vsH)) hl = some (.list vsH) := hs_self
      obtain ⟨Hb, eHb⟩ : ∃ Hb, Hb = (H3.set cm (.cell (some (.ref (A.q (6 + m)))))).set hl (.list vsH) := ⟨_, rfl⟩
      generalize K1.set cm (.cell (some (.ref (A.q (6 + m))))) = K2 at hb2 kk1 kk2 kk3 lk2
      rw [← eHb] at hb2 hbe hbh
      have lvH := hbe.length
      refine hold_mid (fun σ => Nms σ.m [("w", .ref w), ("m", .int m), ("at", .int (backN (S.pl m) (S.pl j) p)), ("count", .int q), ("logs", .ref A.lg), ("acks", .ref (A.q 3)), ("coms", .ref (A.q 4)), ("term", .int (S.ld m)), ("held", .ref hl)] ∧
        fitsB (S.pl m) (S.pl j) (backN (S.pl m) (S.pl j) p) = true ∧ Hb.Le σ.H) ?_ ?_
      · with_reducible refine' s_while ?_
        refine wl_down (k := p) (fun k σ => Nms σ.m [("w", .ref w), ("m", .int m), ("at", .int k), ("count", .int q), ("logs", .ref A.lg), ("acks", .ref (A.q 3)), ("coms", .ref (A.q 4)), ("term", .int (S.ld m)), ("held", .ref hl)] ∧
          backN (S.pl m) (S.pl j) k = backN (S.pl m) (S.pl j) p ∧ k ≤ p ∧ Hb.Le σ.H) ?_ ⟨(nmk9 m1 m2 m3 m4 m5 m8 m9 rfl rfl), rfl, Nat.le_refl _, by rw [eHb]; exact Hp.Le.refl _⟩
        clear m1 m2 m3 m4 m5 m6 m7 m8 m9 m10 hw2 hw3 hb1
        rintro k ⟨mm2, H4⟩ ⟨hN4, bk, kp, l4⟩
        refine nel9 hN4 fun m1 m2 m3 m4 m5 m6 m7 m8 m9 => ?_
        clear hN4
        have hw4 := hb2.le l4
        have zm := hz m hm
        have zj := hz j hj
        have hpk : 0 ≤ (k : Int) ∧ (k : Int) ≤ (S.pl m).length := by (first | lia | omega)
        have hbe4 : EntV H4 1 vsH (S.pl m) := hbe.le fun a fs => l4 _ _
        have hbh4 : H4 hl = some (.list vsH) := l4 _ _ hbh
        have kc1 : H4 cm = some (.cell (some (.ref (A.q (6 + m))))) := hw4.Kl _ _ kk3
        obtain ⟨vs, hv, hr⟩ := hw4.h6 hm
        have hr : Rows H4 vs (S.pl m) := hr
        with_reducible refine' t_not (t_val (w_call ?_))
        refine' gl__law_fits ‹_› (kof ‹_› rfl) ?_
        refine' cv_ref (kp_of ‹_› rfl) ?_
        with_reducible refine' w_es_cons ?_
        refine' w_cell (clof ‹_› rfl) (hg_wat hw4 kk3) (kof ‹_› rfl) ?_
        with_reducible refine' w_es_cons (w_sub ?_)
        refine' w_cell (clof ‹_› rfl) (hg_wat hw4 kk2) (kof ‹_› rfl) ?_
        refine' w_cell (clof ‹_› rfl) (hg_wat hw4 kk1) (kof ‹_› rfl) ?_
        refine' i_list (Wat.h0 ‹_›) (by lia) (by lia) (tri_at ‹_›) ?_
        with_reducible refine' w_es_cons ?_
        refine' w_local m3 ?_
        with_reducible refine' w_es_nil ?_
        refine' Fn.go (fw_fits ‹_› hw4 hm hj (by simp only [upd_self, List.length_append, List.length_cons, List.length_nil]; exact (by lia)) (by simp only [upd_self, List.length_append, List.length_cons, List.length_nil]; exact (by lia)) hpk ?_) (Room.le ‹_› (by decide))
        with_reducible refine' tr_bool (br_nb ?_ ?_)
        with_reducible refine' fun _ => ?_
        rotate_left
        with_reducible refine' fun _ => md_next ?_
        rotate_left
        · rename_i hq
          obtain ⟨k', rfl⟩ : ∃ k', k = k' + 1 := by
            cases k with
            | zero => exact absurd hq (by simp [fitsB])
            | succ k' => exact ⟨k', rfl⟩
          refine ⟨k', rfl, ?_⟩
          obtain ⟨x, g1, bb, g2⟩ := hr.tm (p := ((k' + 1 : Nat) : Int)) (by (first | lia | omega))
          have hq : fitsB (S.pl m) (S.pl j) ((k' + 1 : Nat) : Int) = false := hq
          have hf : held0 (S.lo j) ((k' + 1 : Nat) : Int) (tmE (S.pl m) ((k' + 1 : Nat) : Int)) = false := by rw [hy j hj, ← fits_held (by (first | lia | omega))]; exact hq
          have l9 : (((S.pl m).take (k' + 1 + q)).drop (k' + 1)).length ≤ 40 := by rw [List.length_drop, List.length_take]; exact Nat.le_trans (Nat.sub_le _ _) (Nat.le_trans (Nat.min_le_right _ _) zm)
          with_reducible refine' s_cons (s_if (t_cmp (w_meth (w_sub ?_))))
          refine' w_local m5 ?_
          refine' w_cell (clof ‹_› rfl) (hg_wat hw4 kk1) (kof ‹_› rfl) ?_
          refine' i_list (Wat.lg ‹_›) (by lia) (by lia) (tri_at ‹_›) ?_
          with_reducible refine' wm_maybe_append ‹_› hw4 hj ?_
          refine' cm_one (kp_of ‹_› rfl) ?_
          with_reducible refine' w_es_cons ?_
          refine' w_local m3 ?_
          with_reducible refine' w_es_cons (w_sub (w_sub ?_))
          refine' w_cell (clof ‹_› rfl) (hg_wat hw4 kk3) (kof ‹_› rfl) ?_
          with_reducible refine' w_bin ?_
          refine' w_local m3 ?_
          with_reducible refine' w_int (b_sub ?_)
          refine' i_list hv (by lia) (by lia) g1 ?_
          with_reducible refine' w_int ?_
          refine' i_tup g2 (by decide) (by decide) rfl ?_
          with_reducible refine' w_es_cons (w_sub ?_)
          refine' w_local m7 ?_
          refine' w_local m2 ?_
          refine' i_list (Wat.h4 ‹_›) (by lia) (by lia) (tri_at ‹_›) ?_
          with_reducible refine' w_es_cons (w_slice ?_)
          refine' w_local m9 ?_
          with_reducible refine' p_some ?_
          refine' w_local m3 ?_
          with_reducible refine' p_some (w_bin ?_)
          refine' w_local m3 ?_
          refine' w_local m4 ?_
          with_reducible refine' b_add ?_
          refine' slx hbh4 (by lia) (bdi (by first | lia | omega)) (bdi (by first | lia | omega)) ?_
          with_reducible refine' fun _ _ => w_es_nil ?_
          rename_i n5 hn5
          have hn5' : H4 n5 = none := hn5
          refine Fn.go (fn_maybe_append hD ((hw4.lo j hj).le (Hp.Le.set _ hn5')) hs_self (seg_ent (k := k' + 1) (l := k' + 1 + q) (hbe4.le fun a fs => hs_new hn5') (by (first | lia | omega)) (by (first | lia | omega))) ⟨by (first | lia | omega), by (first | lia | omega)⟩ ?_ (fun z => absurd (z.symm.trans hf) (by decide)) ?_ (fun z => absurd (z.symm.trans hf) (by decide))) (Room.le ‹_› (by decide))
          · rw [← hy j hj] at zj
            show (S.lo j).length + _ ≤ 100
            (first | lia | omega)
          intro _
          with_reducible refine' w_none (c_isnt (tr_bool ?_))
          refine' br_F rfl ?_
          with_reducible refine' s_nil (th_next (s_one ?_))
          refine' s_aug m3 ?_
          with_reducible refine' w_int (a_sub ?_)
          refine' st_local (lof ‹_› ⟨rfl, rfl⟩) ?_
          with_reducible refine' tu_next ?_
          refine ⟨⟨m1, m2, ?_, m4, m5, m6, m7, m8, m9, trivial⟩, ?_, by (first | lia | omega), l4.trans (Hp.Le.set _ hn5')⟩
          · show some (V.int _) = some (V.int _)
            congr 2
            (first | lia | omega)
          · rw [← bk, backN, if_neg (by rw [hq]; decide)]
        · rename_i hq
          have hq : fitsB (S.pl m) (S.pl j) k = true := hq
          have e : backN (S.pl m) (S.pl j) k = k := by
            cases k with
            | zero => rfl
            | succ k' => rw [backN, if_pos hq]
          rw [← bk, e]
          exact ⟨(nmk9 m1 m2 m3 m4 m5 m6 m7 m8 m9), hq, l4⟩
      · clear m1 m2 m3 m4 m5 m6 m7 m8 m9 m10 hw2 hw3 hb1
        rintro ⟨mm2, H4⟩ ⟨hN5, bk, l4⟩
        refine nel9 hN5 fun m1 m2 m3 m4 m5 m6 m7 m8 m9 => ?_
        clear hN5
        have zm := hz m hm
        have zj := hz j hj
        have hbn := backN_le (es := S.pl m) (fs := S.pl j) (p := p)
        have hfc := hfc (by (first | lia | omega))
        generalize hB : backN (S.pl m) (S.pl j) p = B at m3 bk hbn hfc
        have hBl : B ≤ (S.pl m).length := by (first | lia | omega)
        have hh0 : held0 (S.lo j) B (befE (S.pl m) B) = true := by
          rw [hy j hj, befE]
          by_cases z : B = 0
          · rw [if_pos z, held0, if_pos (by (first | lia | omega))]; rfl
          · rw [if_neg z, ← fits_held (by (first | lia | omega))]; exact bk
        let Nx2 : St → Prop := fun σ => Nms σ.m [("w", .ref w), ("m", .int m), ("at", .int B), ("count", .int q), ("logs", .ref A.lg), ("acks", .ref (A.q 3)), ("coms", .ref (A.q 4)), ("term", .int (S.ld m)), ("held", .ref hl), ("before", .int 0)] ∧ Hb.Le σ.H
        refine ss_mid Nx2 ?_ ?_
        · with_reducible refine' s_assign (w_int ?_)
          refine' st_local (lof ‹_› ⟨rfl, rfl⟩) ?_
          with_reducible refine' md_next ?_
          exact ⟨(nmk10 m1 m2 m3 m4 m5 m6 m7 m8 m9 rfl), l4⟩
        clear m1 m2 m3 m4 m5 m6 m7 m8 m9 l4
        rintro ⟨mm2, H4⟩ ⟨hN6, l4⟩
        refine nel10 hN6 fun m1 m2 m3 m4 m5 m6 m7 m8 m9 m10 => ?_
        clear hN6
        have hw4 := hb2.le l4
        let Nx3 : St → Prop := fun σ => Nms σ.m [("w", .ref w), ("m", .int m), ("at", .int B), ("count", .int q), ("logs", .ref A.lg), ("acks", .ref (A.q 3)), ("coms", .ref (A.q 4)), ("term", .int (S.ld m)), ("held", .ref hl), ("before", .int (befE (S.pl m) B))] ∧ Hb.Le σ.H
        refine ss_mid Nx3 ?_ ?_
        · have kc1 : H4 cm = some (.cell (some (.ref (A.q (6 + m))))) := hw4.Kl _ _ kk3
          by_cases z : B = 0
          · with_reducible refine' s_if (t_cmp ?_)
            refine' w_local m3 ?_
            with_reducible refine' w_int (c_gt (tr_bool (br_d ?_ ?_)))
            with_reducible refine' fun _ => ?_
            exact False.elim (by lia)
            with_reducible refine' fun _ => s_nil (md_next ?_)
            refine ⟨⟨m1, m2, m3, m4, m5, m6, m7, m8, m9, ?_, trivial⟩, l4⟩
            rw [befE, if_pos z]; exact m10
          · obtain ⟨vs, hv, hr⟩ := hw4.h6 hm
            have hr : Rows H4 vs (S.pl m) := hr
            obtain ⟨x, g1, bb, g2⟩ := hr.tm (p := (B : Int)) (by (first | lia | omega))
            with_reducible refine' s_if (t_cmp ?_)
            refine' w_local m3 ?_
            with_reducible refine' w_int (c_gt (tr_bool (br_d ?_ ?_)))
            with_reducible refine' fun _ => s_one (s_assign (w_sub (w_sub ?_)))
            refine' w_cell (clof ‹_› rfl) (hg_wat hw4 kk3) (kof ‹_› rfl) ?_
            with_reducible refine' w_bin ?_
            refine' w_local m3 ?_
            with_reducible refine' w_int (b_sub ?_)
            refine' i_list hv (by lia) (by lia) g1 ?_
            with_reducible refine' w_int ?_
            refine' i_tup g2 (by decide) (by decide) rfl ?_
            refine' st_local (lof ‹_› ⟨rfl, rfl⟩) ?_
            with_reducible refine' md_next ?_
            rotate_left
            with_reducible refine' fun _ => ?_
            exact False.elim (by lia)
            refine ⟨⟨m1, m2, m3, m4, m5, m6, m7, m8, m9, ?_, trivial⟩, l4⟩
            rw [befE, if_neg z]; rfl
        clear m1 m2 m3 m4 m5 m6 m7 m8 m9 m10 l4 hw4
        rintro ⟨mm2, H4⟩ ⟨hN7, l4⟩
        refine nel10 hN7 fun m1 m2 m3 m4 m5 m6 m7 m8 m9 m10 => ?_
        clear hN7
        have hw4 := hb2.le l4
        have hbe4 : EntV H4 1 vsH (S.pl m) := hbe.le fun a fs => l4 _ _
        have hbh4 : H4 hl = some (.list vsH) := l4 _ _ hbh
        have kc1 : H4 cm = some (.cell (some (.ref (A.q (6 + m))))) := hw4.Kl _ _ kk3
        have kc2 : H4 cp = some (.cell (some (.ref (A.q 0)))) := hw4.Kl _ _ kk2
        have kc3 : H4 n = some (.cell (some (.int j))) := hw4.Kl _ _ kk1
        have enw : newN S m j p q = min (B + q) (S.pl m).length := by rw [newN, hB]
        have esg : segN S m j p q = ((S.pl m).take (newN S m j p q)).drop B := by rw [segN, hB]
        let Nx4 : St → Prop := fun σ => Nms σ.m [("w", .ref w), ("m", .int m), ("at", .int B), ("count", .int q), ("logs", .ref A.lg), ("acks", .ref (A.q 3)), ("coms", .ref (A.q 4)), ("term", .int (S.ld m)), ("held", .ref hl), ("before", .int (befE (S.pl m) B)), ("newest", .int (newN S m j p q))] ∧ Hb.Le σ.H
        refine ss_mid Nx4 ?_ ?_
        · with_reducible refine' s_assign (w_call ?_)
          refine' gl_min ‹_› (kof ‹_› rfl) ?_
          refine' cv_raw rfl ?_
          with_reducible refine' w_es_cons (w_bin ?_)
          refine' w_local m3 ?_
          refine' w_local m4 ?_
          with_reducible refine' b_add (w_es_cons (w_call ?_))
          refine' gl_len ‹_› (kof ‹_› rfl) ?_
          refine' cv_raw rfl ?_
          with_reducible refine' w_es_cons ?_
          refine' w_cell (clof ‹_› rfl) (hg_wat hw4 kk3) (kof ‹_› rfl) ?_
          with_reducible refine' w_es_nil ?_
          refine' wl_6 hw4 hm (by simp only [upd_self, List.length_append, List.length_cons, List.length_nil]; exact (by lia)) ?_
          with_reducible refine' w_es_nil (f_min2 ?_)
          refine' st_local (lof ‹_› ⟨rfl, rfl⟩) ?_
          with_reducible refine' md_next ?_
          refine ⟨⟨m1, m2, m3, m4, m5, m6, m7, m8, m9, m10, ?_, trivial⟩, l4⟩
          show some (V.int (min ((B : Int) + q) ((S.pl m).length : Int))) = some (V.int _)
          rw [enw]; congr 2; (first | lia | omega)
        clear m1 m2 m3 m4 m5 m6 m7 m8 m9 m10 l4 hw4 hbe4 hbh4 kc1 kc2 kc3
        rintro ⟨mm2, H4⟩ ⟨hN8, l4⟩
        refine nel11 hN8 fun m1 m2 m3 m4 m5 m6 m7 m8 m9 m10 m11 => ?_
        clear hN8
        have hw4 := hb2.le l4
        have hbe4 : EntV H4 1 vsH (S.pl m) := hbe.le fun a fs => l4 _ _
        have hbh4 : H4 hl = some (.list vsH) := l4 _ _ hbh
        have kc1 : H4 cm = some (.cell (some (.ref (A.q (6 + m))))) := hw4.Kl _ _ kk3
        have kc2 : H4 cp = some (.cell (some (.ref (A.q 0)))) := hw4.Kl _ _ kk2
        have kc3 : H4 n = some (.cell (some (.int j))) := hw4.Kl _ _ kk1
        generalize hNW : newN S m j p q = NW at m11 enw esg
        have nwl : NW ≤ (S.pl m).length := by rw [enw]; exact Nat.min_le_right _ _
        have nwq : NW ≤ B + q := by rw [enw]; exact Nat.min_le_left _ _
        have nwb : B ≤ NW := by rw [enw]; exact Nat.le_min.2 ⟨Nat.le_add_right _ _, Nat.le_trans hbn hp⟩
        clear enw
        have lsg : (segN S m j p q).length = NW - B := by rw [esg, List.length_drop, List.length_take, Nat.min_eq_left nwl]
        let Nx5 : St → Prop := fun σ => Nms σ.m [("w", .ref w), ("m", .int m), ("at", .int B), ("count", .int q), ("logs", .ref A.lg), ("acks", .ref (A.q 3)), ("coms", .ref (A.q 4)), ("term", .int (S.ld m)), ("newest", .int NW)] ∧
          Wat σ.H K2 w A { S with tm := upd S.tm j (S.ld m), ld := upd S.ld j 0, lo := upd S.lo j (mrg (S.lo j) B (segN S m j p q)), lc := upd S.lc j (max (S.lc j) (min (S.co m) NW)) }
        refine ss_mid Nx5 ?_ ?_
        · with_reducible refine' s_if (t_cmp (w_meth (w_sub ?_)))
          refine' w_local m5 ?_
          refine' w_cell (clof ‹_› rfl) (hg_wat hw4 kk1) (kof ‹_› rfl) ?_
          refine' i_list (Wat.lg ‹_›) (by lia) (by lia) (tri_at ‹_›) ?_
          with_reducible refine' wm_maybe_append ‹_› hw4 hj ?_
          refine' cm_one (kp_of ‹_› rfl) ?_
          with_reducible refine' w_es_cons ?_
          refine' w_local m3 ?_
          with_reducible refine' w_es_cons ?_
          refine' w_local m10 ?_
          with_reducible refine' w_es_cons (w_sub ?_)
          refine' w_local m7 ?_
          refine' w_local m2 ?_
          refine' i_list (Wat.h4 ‹_›) (by lia) (by lia) (tri_at ‹_›) ?_
          with_reducible refine' w_es_cons (w_slice ?_)
          refine' w_local m9 ?_
          with_reducible refine' p_some ?_
          refine' w_local m3 ?_
          with_reducible refine' p_some ?_
          refine' w_local m11 ?_
          refine' slx hbh4 (by lia) (bdi (by first | lia | omega)) (bdi (by first | lia | omega)) ?_
          with_reducible refine' fun _ _ => w_es_nil ?_
          rename_i n5 hn5
          have hn5' : H4 n5 = none := hn5
          have hent := seg_ent (x := (B : Int)) (y := (NW : Int)) (k := B) (l := NW) (hbe4.le fun a fs => hs_new (o := .list (slc vsH (some (B : Int)) (some (NW : Int)))) hn5') rfl rfl
          rw [← esg] at hent
          refine Fn.go (fn_maybe_append hD ((hw4.lo j hj).le (Hp.Le.set _ hn5')) hs_self hent ⟨by (first | lia | omega), by (first | lia | omega)⟩ ?_ (fun _ => ?_) (fun z => absurd (z.symm.trans hh0) (by decide)) (fun _ => ?_)) (Room.le ‹_› (by decide))
          · rw [← hy j hj] at zj
            show (S.lo j).length + _ ≤ 100
            (first | lia | omega)
          · show fc (S.lo j) _ _ = 0 ∨ S.lc j < fc (S.lo j) _ _
            rw [hy j hj, (hc j hj).1]; exact hfc
          · intro H' cg lg
            have hw5 := Wat.chg hj (hw4.le (Hp.Le.set _ hn5')) cg lg
            have e5 : ((B : Int) + (segN S m j p q).length) = NW := by (first | lia | omega)
            rw [e5] at hw5
            refine' w_local m11 ?_
            with_reducible refine' c_ne (tr_bool (br_ne ?_ ?_))
            with_reducible refine' fun _ => ?_
            exact False.elim (by lia)
            with_reducible refine' fun _ => s_nil (md_next ?_)
            exact ⟨(nmk9 m1 m2 m3 m4 m5 m6 m7 m8 m11), hw5⟩
        clear m1 m2 m3 m4 m5 m6 m7 m8 m9 m10 m11 l4 hw4 hbe4 hbh4 kc1 kc2 kc3
        rintro ⟨mm2, H5⟩ ⟨hN9, hw5⟩
        refine nel9 hN9 fun m1 m2 m3 m4 m5 m6 m7 m8 m9 => ?_
        clear hN9
        clear hbe hbh hb2 eHb hvH hnl
        let Nx6 : St → Prop := fun σ => Nms σ.m [("w", .ref w), ("m", .int m), ("at", .int B), ("count", .int q), ("logs", .ref A.lg), ("acks", .ref (A.q 3)), ("coms", .ref (A.q 4)), ("term", .int (S.ld m)), ("newest", .int NW)] ∧
          Wat σ.H K2 w A { S with tm := upd S.tm j (S.ld m), ld := upd S.ld j 0, lo := upd S.lo j (mrg (S.lo j) B (segN S m j p q)), lc := upd S.lc j (max (S.lc j) (min (S.co m) NW)) } ∧
          ∃ ul, σ.m "unlike" = some (.ref ul) ∧ σ.H ul = some (.list ((unl (S.pl m) (S.pl j) B (NW - B)).map fun (i : Nat) => V.int (i : Int)))
        refine ss_mid Nx6 ?_ ?_
        · refine s_comp (cl := [("plain", cp), ("mine", cm), ("j", n)]) ?_ ?_ ?_
          · exact clos_of cc (by with_unfolding_all rfl)
          · with_reducible refine' w_call ?_
            refine' gl_range ‹_› (kof ‹_› rfl) ?_
            refine' cv_raw rfl ?_
            with_reducible refine' w_es_cons ?_
            refine' w_local m3 ?_
            with_reducible refine' w_es_cons ?_
            refine' w_local m9 ?_
            with_reducible refine' w_es_nil (f_range2 (fun _ _ => ?_))
            refine' it_rgN hg_self (by lia) ?_
            with_reducible refine' fun _ _ => ?_
            rename_i rg hrg it hit
            have hw6 := Wat.new0 (o := .rg (B : Int) NW) hrg hw5
            have hit' : (H5.set rg (.rg (B : Int) NW)) it = none := hit
            have kB : ∀ b : Addr, b = rg ∨ b = it → True := fun _ _ => trivial
            refine block_rgf (fun x => decide ((S.pl j).length ≤ x ∨ (S.pl j)[x]? ≠ (S.pl m)[x]?)) hit' (by (first | lia | omega)) (relb cs (by with_unfolding_all rfl)) (by exact ⟨rfl, rfl⟩) ?_ ?_
            · intro c' cD' cs' cc' cr' i m' H1 l1 hi1 hi2
              have hD' : IsD c'.D := by rw [cD']; exact hD
              have cr2 := cr' _ cr
              have hw7 := hw6.le l1
              have zm := hz m hm
              have zj := hz j hj
              obtain ⟨vs, hv, hr⟩ := hw7.h6 hm
              obtain ⟨us, hu, hru⟩ := hw7.h6 hj
              have hr : Rows H1 vs (S.pl m) := hr
              have hru : Rows H1 us (S.pl j) := hru
              have hiL : i < (S.pl m).length := by (first | lia | omega)
              obtain ⟨x1, g1, g2⟩ := hr.get (List.getElem?_eq_getElem hiL)
              have g1' : vs[((i : Nat) : Int).toNat]? = some (.ref x1) := g1
              by_cases hij : (S.pl j).length ≤ i
              · with_reducible refine' t_bool (a_or (t_cmp ?_))
                refine' w_local rfl ?_
                with_reducible refine' w_call ?_
                refine' gl_len ‹_› (kof ‹_› rfl) ?_
                refine' cv_raw rfl ?_
                with_reducible refine' w_es_cons (w_sub ?_)
                refine' w_cell (clof ‹_› rfl) (hg_wat hw7 kk2) (kof ‹_› rfl) ?_
                refine' w_cell (clof ‹_› rfl) (hg_wat hw7 kk1) (kof ‹_› rfl) ?_
                refine' i_list (Wat.h0 ‹_›) (by lia) (by lia) (tri_at ‹_›) ?_
                with_reducible refine' w_es_nil ?_
                refine' wl_6 hw7 hj (by simp only [upd_self, List.length_append, List.length_cons, List.length_nil]; exact (by lia)) ?_
                with_reducible refine' c_ge (tr_bool (br_d ?_ ?_))
                with_reducible refine' fun _ => ?_
                rotate_left
                with_reducible refine' fun _ => a_or (t_cmp (w_sub (w_sub ?_)))
                refine' w_cell (clof ‹_› rfl) (hg_wat hw7 kk2) (kof ‹_› rfl) ?_
                refine' w_cell (clof ‹_› rfl) (hg_wat hw7 kk1) (kof ‹_› rfl) ?_
                refine' i_list (Wat.h0 ‹_›) (by lia) (by lia) (tri_at ‹_›) ?_
                refine' w_local rfl ?_
                rotate_left
                · exact ⟨(decide_eq_true (.inl hij)).symm, Hp.Le.refl _, rfl⟩
                · rename_i hq
                  exact absurd (show ((S.pl j).length : Int) ≤ i by (first | lia | omega)) hq
              · have hiL2 : i < (S.pl j).length := by (first | lia | omega)
                obtain ⟨x2, g3, g4⟩ := hru.get (List.getElem?_eq_getElem hiL2)
                have g3' : us[((i : Nat) : Int).toNat]? = some (.ref x2) := g3
                with_reducible refine' t_bool (a_or (t_cmp ?_))
                refine' w_local rfl ?_
                with_reducible refine' w_call ?_
                refine' gl_len ‹_› (kof ‹_› rfl) ?_
                refine' cv_raw rfl ?_
                with_reducible refine' w_es_cons (w_sub ?_)
                refine' w_cell (clof ‹_› rfl) (hg_wat hw7 kk2) (kof ‹_› rfl) ?_
                refine' w_cell (clof ‹_› rfl) (hg_wat hw7 kk1) (kof ‹_› rfl) ?_
                refine' i_list (Wat.h0 ‹_›) (by lia) (by lia) (tri_at ‹_›) ?_
                with_reducible refine' w_es_nil ?_
                refine' wl_6 hw7 hj (by simp only [upd_self, List.length_append, List.length_cons, List.length_nil]; exact (by lia)) ?_
                with_reducible refine' c_ge (tr_bool (br_d ?_ ?_))
                with_reducible refine' fun _ => ?_
                rotate_left
                with_reducible refine' fun _ => a_or (t_cmp (w_sub (w_sub ?_)))
                refine' w_cell (clof ‹_› rfl) (hg_wat hw7 kk2) (kof ‹_› rfl) ?_
                refine' w_cell (clof ‹_› rfl) (hg_wat hw7 kk1) (kof ‹_› rfl) ?_
                refine' i_list (Wat.h0 ‹_›) (by lia) (by lia) (tri_at ‹_›) ?_
                refine' w_local rfl ?_
                refine' i_list hu (by lia) (by lia) g3' ?_
                with_reducible refine' w_sub ?_
                refine' w_cell (clof ‹_› rfl) (hg_wat hw7 kk3) (kof ‹_› rfl) ?_
                refine' w_local rfl ?_
                refine' i_list hv (by lia) (by lia) g1' ?_
                with_reducible refine' c_neE ‹_› g4 g2 (tr_bool (br_nd ?_ ?_))
                with_reducible refine' fun _ => ?_
                rotate_left
                with_reducible refine' fun _ => a_or_nil ?_
                rotate_left
                · rename_i hq
                  have hq : ((S.pl j).length : Int) ≤ i := hq
                  (first | lia | omega)
                · rename_i hq1 hq
                  refine ⟨(decide_eq_true (.inr ?_)).symm, Hp.Le.refl _, rfl⟩
                  rw [List.getElem?_eq_getElem hiL, List.getElem?_eq_getElem hiL2]
                  exact fun z => hq (Option.some.inj z)
                · rename_i hq1 hq
                  refine ⟨(decide_eq_false ?_).symm, Hp.Le.refl _, rfl⟩
                  rw [List.getElem?_eq_getElem hiL, List.getElem?_eq_getElem hiL2]
                  exact fun z => z.elim hij fun y => y (congrArg some hq)
            · intro acc H' l1 ha hl
              refine ⟨lof cs ⟨rfl, rfl⟩, (nmk9 m1 m2 m3 m4 m5 m6 m7 m8 m9), hw6.le l1, acc, rfl, ?_⟩
              rw [show ((NW : Int) - B).toNat = NW - B by (first | lia | omega)] at hl
              exact hl
          · exact swap_of cs (by with_unfolding_all rfl)
        clear m1 m2 m3 m4 m5 m6 m7 m8 m9 hw5
        rintro ⟨mm2, H5⟩ ⟨hN10, hw5, ul, m10, hul⟩
        refine nel9 hN10 fun m1 m2 m3 m4 m5 m6 m7 m8 m9 => ?_
        clear hN10
        have zm := hz m hm
        have zj := hz j hj
        have etp : tellP S m j p q = match unl (S.pl m) (S.pl j) B (NW - B) with
            | [] => S.pl j
            | u :: _ => (S.pl j).take u ++ ((S.pl m).take NW).drop u := by rw [tellP, hB, hNW]
        let Nx7 : St → Prop := fun σ => ∃ A5, Nms σ.m [("w", .ref w), ("m", .int m), ("logs", .ref A5.lg), ("acks", .ref (A5.q 3)), ("coms", .ref (A5.q 4)), ("term", .int (S.ld m)), ("newest", .int NW)] ∧
          K2 cp = some (.cell (some (.ref (A5.q 0)))) ∧ K2 cm = some (.cell (some (.ref (A5.q (6 + m))))) ∧
          Wat σ.H K2 w A5 { S with pl := upd S.pl j (tellP S m j p q), tm := upd S.tm j (S.ld m), ld := upd S.ld j 0, lo := upd S.lo j (mrg (S.lo j) B (segN S m j p q)), lc := upd S.lc j (max (S.lc j) (min (S.co m) NW)) }
        refine ss_mid Nx7 ?_ ?_
        · have ll : (unl (S.pl m) (S.pl j) B (NW - B)).length ≤ NW - B := filt_len
          cases hU : unl (S.pl m) (S.pl j) B (NW - B) with
          | nil =>
            rw [hU] at hul etp
            have hul : H5 ul = some (.list []) := hul
            have lul : ([] : List V).length = 0 := rfl
            generalize ([] : List V) = UL at hul lul
            with_reducible refine' s_if (t_cmp (w_call ?_))
            refine' gl_len ‹_› (kof ‹_› rfl) ?_
            refine' cv_raw rfl ?_
            with_reducible refine' w_es_cons ?_
            refine' w_local m10 ?_
            with_reducible refine' w_es_nil ?_
            refine' f_len hul (by lia) ?_
            with_reducible refine' w_int (c_gt (tr_bool (br_d ?_ ?_)))
            with_reducible refine' fun _ => ?_
            exact False.elim (by lia)
            with_reducible refine' fun _ => s_nil (md_next ?_)
            refine ⟨A, (nmk7 m1 m2 m5 m6 m7 m8 m9), kk2, kk3, hw5.re ?_⟩
            rw [etp]
            dsimp only
            rw [upd_same]
          | cons u ur =>
            rw [hU] at hul etp ll
            have ub := filt_head hU
            have hul : H5 ul = some (.list (V.int u :: ur.map fun (i : Nat) => V.int (i : Int))) := hul
            have hul0 : (V.int u :: ur.map fun (i : Nat) => V.int (i : Int))[(0 : Int).toNat]? = some (.int u) := rfl
            have lul : (V.int u :: ur.map fun (i : Nat) => V.int (i : Int)).length ≤ 40 := by
              simp only [List.length_cons, List.length_map] at ll ⊢; (first | lia | omega)
            have lul2 : 0 < (V.int u :: ur.map fun (i : Nat) => V.int (i : Int)).length := by simp
            obtain ⟨vs, hv, hr⟩ := hw5.h6 hm
            obtain ⟨us, hu, hru⟩ := hw5.h6 hj
            have hr : Rows H5 vs (S.pl m) := hr
            have hru : Rows H5 us (S.pl j) := hru
            have lv := hr.length
            have lu := hru.length
            have kc1 : H5 cm = some (.cell (some (.ref (A.q (6 + m))))) := hw5.Kl _ _ kk3
            have kc2 : H5 cp = some (.cell (some (.ref (A.q 0)))) := hw5.Kl _ _ kk2
            have kc3 : H5 n = some (.cell (some (.int j))) := hw5.Kl _ _ kk1
            generalize V.int u :: ur.map (fun (i : Nat) => V.int (i : Int)) = UL at hul hul0 lul lul2
            have ls1 := slc_len (vs := us) (lo := none) (hi := some (u : Int))
            have ls2 := slc_len (vs := vs) (lo := some (u : Int)) (hi := some (NW : Int))
            with_reducible refine' s_if (t_cmp (w_call ?_))
            refine' gl_len ‹_› (kof ‹_› rfl) ?_
            refine' cv_raw rfl ?_
            with_reducible refine' w_es_cons ?_
            refine' w_local m10 ?_
            with_reducible refine' w_es_nil ?_
            refine' f_len hul (by lia) ?_
            with_reducible refine' w_int (c_gt (tr_bool (br_d ?_ ?_)))
            with_reducible refine' fun _ => s_one (s_assignS (w_bin (w_slice (w_sub ?_))))
            refine' w_cell (clof ‹_› rfl) (hg_wat hw5 kk2) (kof ‹_› rfl) ?_
            refine' w_cell (clof ‹_› rfl) (hg_wat hw5 kk1) (kof ‹_› rfl) ?_
            refine' i_list (Wat.h0 ‹_›) (by lia) (by lia) (tri_at ‹_›) ?_
            with_reducible refine' p_none (p_some (w_sub ?_))
            refine' w_local m10 ?_
            with_reducible refine' w_int ?_
            refine' i_list hul (by decide) (by decide) hul0 ?_
            refine' slx hu (by lia) bdn (bdi (by first | lia | omega)) ?_
            with_reducible refine' fun _ _ => w_slice ?_
            refine' w_cell (clof ‹_› rfl) (hg_new (by with_reducible assumption) (hg_wat hw5 kk3)) (kof ‹_› rfl) ?_
            with_reducible refine' p_some (w_sub ?_)
            refine' w_local m10 ?_
            with_reducible refine' w_int ?_
            refine' i_list (hg_new (by with_reducible assumption) hul) (by decide) (by decide) hul0 ?_
            with_reducible refine' p_some ?_
            refine' w_local m9 ?_
            refine' slx (hg_new (by with_reducible assumption) hv) (by lia) (bdi (by first | lia | omega)) (bdi (by first | lia | omega)) ?_
            with_reducible refine' fun _ _ => ?_
            refine' b_addl (hg_new (by with_reducible assumption) hg_self) hg_self (by lia) ?_
            with_reducible refine' fun _ _ => ?_
            refine' w_cell (clof ‹_› rfl) (hg_new (by with_reducible assumption) (hg_new (by with_reducible assumption) (hg_new (by with_reducible assumption) (hg_wat hw5 kk2)))) (kof ‹_› rfl) ?_
            refine' w_cell (clof ‹_› rfl) (hg_new (by with_reducible assumption) (hg_new (by with_reducible assumption) (hg_new (by with_reducible assumption) (hg_wat hw5 kk1)))) (kof ‹_› rfl) ?_
            with_reducible refine' seti_hold ?_
            rotate_left
            with_reducible refine' fun _ => ?_
            exact False.elim (by lia)
            rename_i hq n1 hn1 n2 hn2 n3 hn3
            refine ws_0 (Wat.new0 hn2 (Wat.new0 hn1 hw5)) hn3 hj (es := tellP S m j p q) ?_ ?_
            · rw [etp]
              dsimp only
              have l12 := (Hp.Le.set (o := .list (slc us none (some (u : Int)))) hn1).trans (Hp.Le.set (o := .list (slc vs (some (u : Int)) (some (NW : Int)))) hn2)
              exact ((hru.take u).le l12).app (((hr.take NW).drop u).le l12)
            · intro H6 A6 sm hw6
              with_reducible refine' md_next ?_
              refine ⟨A6, ⟨m1, m2, ?_, ?_, ?_, m8, m9, trivial⟩, ?_, ?_, hw6⟩
              · rw [sm.lg]; exact m5
              · rw [sm.q 3 (by (first | lia | omega))]; exact m6
              · rw [sm.q 4 (by (first | lia | omega))]; exact m7
              · rw [sm.q 0 (by (first | lia | omega))]; exact kk2
              · rw [sm.q (6 + m) (by (first | lia | omega))]; exact kk3
        clear m1 m2 m3 m4 m5 m6 m7 m8 m9 m10 hw5 hul kk2 kk3 etp
        rintro ⟨mm2, H5⟩ ⟨A5, hN11, kk2, kk3, hw5⟩
        refine nel7 hN11 fun m1 m2 m3 m4 m5 m6 m7 => ?_
        clear hN11
        have kc3 : H5 n = some (.cell (some (.int j))) := hw5.Kl _ _ kk1
        let Nx8 : St → Prop := fun σ => Nms σ.m [("w", .ref w), ("m", .int m), ("logs", .ref A5.lg), ("acks", .ref (A5.q 3)), ("coms", .ref (A5.q 4)), ("term", .int (S.ld m)), ("newest", .int NW)] ∧
          Wat σ.H K2 w A5 { S with pl := upd S.pl j (tellP S m j p q), tm := upd S.tm j (S.ld m), ld := upd S.ld j 0, lo := upd S.lo j (mrg (S.lo j) B (segN S m j p q)), lc := upd S.lc j (max (S.lc j) (min (S.co m) NW)), co := upd S.co j (max (S.co j) (min (S.co m) NW)) }
        refine ss_mid Nx8 ?_ ?_
        · with_reducible refine' s_assignS (w_call ?_)
          refine' gl_max ‹_› (kof ‹_› rfl) ?_
          refine' cv_raw rfl ?_
          with_reducible refine' w_es_cons (w_sub ?_)
          refine' w_local m5 ?_
          refine' w_cell (clof ‹_› rfl) (hg_wat hw5 kk1) (kof ‹_› rfl) ?_
          refine' i_list (Wat.h4 ‹_›) (by lia) (by lia) (tri_at ‹_›) ?_
          with_reducible refine' w_es_cons (w_call ?_)
          refine' gl_min ‹_› (kof ‹_› rfl) ?_
          refine' cv_raw rfl ?_
          with_reducible refine' w_es_cons (w_sub ?_)
          refine' w_local m5 ?_
          refine' w_local m2 ?_
          refine' i_list (Wat.h4 ‹_›) (by lia) (by lia) (tri_at ‹_›) ?_
          with_reducible refine' w_es_cons ?_
          refine' w_local m7 ?_
          with_reducible refine' w_es_nil (f_min2 (w_es_nil (f_max2 ?_)))
          refine' w_local m5 ?_
          refine' w_cell (clof ‹_› rfl) (hg_wat hw5 kk1) (kof ‹_› rfl) ?_
          with_reducible refine' ws_4 hw5 hj (fun _ _ => md_next ?_)
          exact ⟨(nmk7 m1 m2 m3 m4 m5 m6 m7), by assumption⟩
        clear m1 m2 m3 m4 m5 m6 m7 hw5 kc3
        rintro ⟨mm2, H5⟩ ⟨hN12, hw5⟩
        refine nel7 hN12 fun m1 m2 m3 m4 m5 m6 m7 => ?_
        clear hN12
        have kc3 : H5 n = some (.cell (some (.int j))) := hw5.Kl _ _ kk1
        have kc1 : H5 cm = some (.cell (some (.ref (A5.q (6 + m))))) := hw5.Kl _ _ kk3
        have epm : upd S.pl j (tellP S m j p q) m = S.pl m := upd_ne hmj
        have zm2 : (upd S.pl j (tellP S m j p q) m).length ≤ 40 := by rw [epm]; exact zm
        let Nx9 : St → Prop := fun σ => Nms σ.m [("w", .ref w), ("m", .int m), ("logs", .ref A5.lg), ("acks", .ref (A5.q 3)), ("coms", .ref (A5.q 4)), ("term", .int (S.ld m))] ∧
          Wat σ.H K2 w A5 { S with pl := upd S.pl j (tellP S m j p q), tm := upd S.tm j (S.ld m), ld := upd S.ld j 0, lo := upd S.lo j (mrg (S.lo j) B (segN S m j p q)), lc := upd S.lc j (max (S.lc j) (min (S.co m) NW)), co := upd S.co j (max (S.co j) (min (S.co m) NW)), ak := upd S.ak m (upd (S.ak m) j (max (S.ak m j) NW)) }
        refine ss_mid Nx9 ?_ ?_
        · with_reducible refine' s_assignS (w_call ?_)
          refine' gl_max ‹_› (kof ‹_› rfl) ?_
          refine' cv_raw rfl ?_
          with_reducible refine' w_es_cons (w_sub (w_sub ?_))
          refine' w_local m4 ?_
          refine' w_local m2 ?_
          refine' i_list (Wat.h3 ‹_›) (by lia) (by lia) (tri_at ‹_›) ?_
          refine' w_cell (clof ‹_› rfl) (hg_wat hw5 kk1) (kof ‹_› rfl) ?_
          refine' i_list (Wat.h9 ‹_› ‹_›) (by lia) (by lia) (tri_at ‹_›) ?_
          with_reducible refine' w_es_cons ?_
          refine' w_local m7 ?_
          with_reducible refine' w_es_nil (f_max2 (w_sub ?_))
          refine' w_local m4 ?_
          refine' w_local m2 ?_
          refine' i_list (Wat.h3 ‹_›) (by lia) (by lia) (tri_at ‹_›) ?_
          refine' w_cell (clof ‹_› rfl) (hg_wat hw5 kk1) (kof ‹_› rfl) ?_
          with_reducible refine' ws_9 hw5 hm hj (fun _ _ => md_next ?_)
          exact ⟨(nmk6 m1 m2 m3 m4 m5 m6), by assumption⟩
        clear m1 m2 m3 m4 m5 m6 m7 hw5 kc3 kc1
        rintro ⟨mm2, H5⟩ ⟨hN13, hw5⟩
        refine nel6 hN13 fun m1 m2 m3 m4 m5 m6 => ?_
        clear hN13
        have kc1 : H5 cm = some (.cell (some (.ref (A5.q (6 + m))))) := hw5.Kl _ _ kk3
        let Nx10 : St → Prop := fun σ => Nms σ.m [("w", .ref w), ("m", .int m), ("logs", .ref A5.lg), ("acks", .ref (A5.q 3)), ("coms", .ref (A5.q 4)), ("term", .int (S.ld m))] ∧
          Wat σ.H K2 w A5 { S with pl := upd S.pl j (tellP S m j p q), tm := upd S.tm j (S.ld m), ld := upd S.ld j 0, lo := upd S.lo j (mrg (S.lo j) B (segN S m j p q)), lc := upd S.lc j (max (S.lc j) (min (S.co m) NW)), co := upd S.co j (max (S.co j) (min (S.co m) NW)), ak := upd S.ak m (tellK S m j p q) }
        refine ss_mid Nx10 ?_ ?_
        · with_reducible refine' s_assignS (w_call ?_)
          refine' gl_len ‹_› (kof ‹_› rfl) ?_
          refine' cv_raw rfl ?_
          with_reducible refine' w_es_cons ?_
          refine' w_cell (clof ‹_› rfl) (hg_wat hw5 kk3) (kof ‹_› rfl) ?_
          with_reducible refine' w_es_nil ?_
          refine' wl_6 hw5 hm (by simp only [upd_self, List.length_append, List.length_cons, List.length_nil]; exact (by lia)) ?_
          with_reducible refine' w_sub ?_
          refine' w_local m4 ?_
          refine' w_local m2 ?_
          refine' i_list (Wat.h3 ‹_›) (by lia) (by lia) (tri_at ‹_›) ?_
          refine' w_local m2 ?_
          with_reducible refine' ws_9 hw5 hm hm (fun _ _ => md_next ?_)
          rename_i H6 hw6
          have e : upd (upd S.ak m (upd (S.ak m) j (max (S.ak m j) NW))) m (upd (upd S.ak m (upd (S.ak m) j (max (S.ak m j) NW)) m) m ((upd S.pl j (tellP S m j p q) m).length)) = upd S.ak m (tellK S m j p q) := by rw [upd_upd, upd_self, epm, tellK, hNW]
          exact ⟨(nmk6 m1 m2 m3 m4 m5 m6), hw6.re (by first | (rw [← e]; done) | (rw [← e]; rfl))⟩
        clear m1 m2 m3 m4 m5 m6 hw5 kc1
        rintro ⟨mm2, H5⟩ ⟨hN14, hw5⟩
        refine nel6 hN14 fun m1 m2 m3 m4 m5 m6 => ?_
        clear hN14
        have kc1 : H5 cm = some (.cell (some (.ref (A5.q (6 + m))))) := hw5.Kl _ _ kk3
        have e0 : upd S.ak m (tellK S m j p q) m = tellK S m j p q := upd_self
        have e2 : med3 (upd S.ak m (tellK S m j p q) m 0) (upd S.ak m (tellK S m j p q) m 1) (upd S.ak m (tellK S m j p q) m 2) = twoE (tellK S m j p q) := by rw [e0]; rfl
        have ecm : upd S.co j (max (S.co j) (min (S.co m) NW)) m = S.co m := upd_ne hmj
        have elm : upd S.lc j (max (S.lc j) (min (S.co m) NW)) m = S.lc m := upd_ne hmj
        have eom : upd S.lo j (mrg (S.lo j) B (segN S m j p q)) m = S.pl m := by rw [upd_ne hmj, hy m hm]
        have bt : ∀ i, i < 3 → 0 ≤ tellK S m j p q i ∧ tellK S m j p q i ≤ (S.pl m).length := fun i hi => by
          have e : newN S m j p q ≤ (S.pl m).length := Nat.min_le_right _ _
          unfold tellK upd
          split
          · exact ⟨Int.natCast_nonneg _, Int.le_refl _⟩
          · split
            · exact mxrg (hak j hj) (Int.ofNat_le.2 e)
            · exact hak i hi
        have bT : 0 ≤ twoE (tellK S m j p q) ∧ twoE (tellK S m j p q) ≤ (S.pl m).length := by
          exact ⟨mdl01 (bt 0 (by decide)).1 (bt 1 (by decide)).1, mdu02 (bt 0 (by decide)).2 (bt 2 (by decide)).2⟩
        have hcm := hc m hm
        let Nx11 : St → Prop := fun σ => Nms σ.m [("w", .ref w), ("m", .int m), ("logs", .ref A5.lg), ("coms", .ref (A5.q 4)), ("term", .int (S.ld m)), ("two", .int (twoE (tellK S m j p q)))] ∧
          Wat σ.H K2 w A5 { S with pl := upd S.pl j (tellP S m j p q), tm := upd S.tm j (S.ld m), ld := upd S.ld j 0, lo := upd S.lo j (mrg (S.lo j) B (segN S m j p q)), lc := upd S.lc j (max (S.lc j) (min (S.co m) NW)), co := upd S.co j (max (S.co j) (min (S.co m) NW)), ak := upd S.ak m (tellK S m j p q) }
        refine ss_mid Nx11 ?_ ?_
        · with_reducible refine' s_assign (w_sub (w_call ?_))
          refine' gl_sorted ‹_› (kof ‹_› rfl) ?_
          refine' cv_raw rfl ?_
          with_reducible refine' w_es_cons (w_sub ?_)
          refine' w_local m4 ?_
          refine' w_local m2 ?_
          refine' i_list (Wat.h3 ‹_›) (by lia) (by lia) (tri_at ‹_›) ?_
          with_reducible refine' w_es_nil (wsorted hw5 hm (fun _ _ => fun _ _ => w_int ?_))
          refine' i_list hg_self (by decide) (by decide) rfl ?_
          refine' st_local (lof ‹_› ⟨rfl, rfl⟩) ?_
          with_reducible refine' md_next ?_
          rename_i n1 x1 z1 hn1
          refine ⟨⟨m1, m2, m3, m5, m6, ?_, trivial⟩, Wat.new0 hn1 hw5⟩
          rw [← e2]; rfl
        clear m1 m2 m3 m4 m5 m6 hw5 kc1
        rintro ⟨mm2, H5⟩ ⟨hN15, hw5⟩
        refine nel6 hN15 fun m1 m2 m3 m4 m5 m6 => ?_
        clear hN15
        have kc1 : H5 cm = some (.cell (some (.ref (A5.q (6 + m))))) := hw5.Kl _ _ kk3
        have enb : newsB S m j p q = (decide (S.co m < twoE (tellK S m j p q)) && (tmE (S.pl m) (twoE (tellK S m j p q)) == S.ld m)) := rfl
        refine ss_mid (fun σ => Nms σ.m [("w", .ref w), ("m", .int m), ("logs", .ref A5.lg), ("coms", .ref (A5.q 4)), ("term", .int (S.ld m)), ("two", .int (twoE (tellK S m j p q))), ("news", .bool (newsB S m j p q))] ∧
          Wat σ.H K2 w A5 { S with pl := upd S.pl j (tellP S m j p q), tm := upd S.tm j (S.ld m), ld := upd S.ld j 0, lo := upd S.lo j (mrg (S.lo j) B (segN S m j p q)), lc := upd S.lc j (max (S.lc j) (min (S.co m) NW)), co := upd S.co j (max (S.co j) (min (S.co m) NW)), ak := upd S.ak m (tellK S m j p q) }) ?_ ?_
        · by_cases hnt : S.co m < twoE (tellK S m j p q)
          · obtain ⟨vs, hv, hr⟩ := hw5.h6 hm
            have hr : Rows H5 vs (upd S.pl j (tellP S m j p q) m) := hr
            rw [epm] at hr
            obtain ⟨x, g1, bb, g2⟩ := hr.tm (p := twoE (tellK S m j p q)) ⟨Int.lt_of_le_of_lt hcm.2 hnt, bT.2⟩
            with_reducible refine' s_assign (w_and2 (w_cmp ?_))
            refine' w_local m6 ?_
            with_reducible refine' w_sub ?_
            refine' w_local m4 ?_
            refine' w_local m2 ?_
            refine' i_list (Wat.h4 ‹_›) (by lia) (by lia) (tri_at ‹_›) ?_
            with_reducible refine' c_gt (tr_bool (br_d ?_ ?_))
            with_reducible refine' fun _ => w_cmp (w_sub (w_sub ?_))
            refine' w_cell (clof ‹_› rfl) (hg_wat hw5 kk3) (kof ‹_› rfl) ?_
            with_reducible refine' w_bin ?_
            refine' w_local m6 ?_
            with_reducible refine' w_int (b_sub ?_)
            refine' i_list hv (by lia) (by lia) g1 ?_
            with_reducible refine' w_int ?_
            refine' i_tup g2 (by decide) (by decide) rfl ?_
            refine' w_local m5 ?_
            with_reducible refine' c_eq ?_
            refine' st_local (lof ‹_› ⟨rfl, rfl⟩) ?_
            with_reducible refine' md_next ?_
            rotate_left
            with_reducible refine' fun _ => ?_
            refine' st_local (lof ‹_› ⟨rfl, rfl⟩) ?_
            with_reducible refine' md_next ?_
            rotate_left
            · refine ⟨⟨m1, m2, m3, m4, m5, m6, ?_, trivial⟩, hw5⟩
              rw [enb, decide_eq_true hnt, Bool.true_and]; rfl
            · rename_i hq
              exact absurd (show upd S.co j (max (S.co j) (min (S.co m) NW)) m < twoE (tellK S m j p q) by rw [ecm]; exact hnt) hq
          · with_reducible refine' s_assign (w_and2 (w_cmp ?_))
            refine' w_local m6 ?_
            with_reducible refine' w_sub ?_
            refine' w_local m4 ?_
            refine' w_local m2 ?_
            refine' i_list (Wat.h4 ‹_›) (by lia) (by lia) (tri_at ‹_›) ?_
            with_reducible refine' c_gt (tr_bool (br_d ?_ ?_))
            with_reducible refine' fun _ => w_cmp (w_sub (w_sub ?_))
            refine' w_cell (clof ‹_› rfl) (hg_wat hw5 kk3) (kof ‹_› rfl) ?_
            with_reducible refine' w_bin ?_
            refine' w_local m6 ?_
            with_reducible refine' w_int (b_sub ?_)
            rotate_left
            with_reducible refine' fun _ => ?_
            refine' st_local (lof ‹_› ⟨rfl, rfl⟩) ?_
            with_reducible refine' md_next ?_
            rotate_left
            · rename_i hq
              have hq : upd S.co j (max (S.co j) (min (S.co m) NW)) m < twoE (tellK S m j p q) := hq
              rw [ecm] at hq
              exact absurd hq hnt
            · refine ⟨⟨m1, m2, m3, m4, m5, m6, ?_, trivial⟩, hw5⟩
              rw [enb, decide_eq_false hnt, Bool.false_and]
              show some (V.bool (decide (upd S.co j (max (S.co j) (min (S.co m) NW)) m < twoE (tellK S m j p q)))) = _
              rw [ecm, decide_eq_false hnt]
        clear m1 m2 m3 m4 m5 m6 hw5 kc1
        rintro ⟨mm2, H5⟩ ⟨hN16, hw5⟩
        refine nel7 hN16 fun m1 m2 m3 m4 m5 m6 m7 => ?_
        clear hN16
        refine ss_mid (fun σ => Nms σ.m [("w", .ref w), ("m", .int m), ("coms", .ref (A5.q 4)), ("two", .int (twoE (tellK S m j p q))), ("news", .bool (newsB S m j p q))] ∧
          Wat σ.H K2 w A5 { S with pl := upd S.pl j (tellP S m j p q), tm := upd S.tm j (S.ld m), ld := upd S.ld j 0, lo := upd S.lo j (mrg (S.lo j) B (segN S m j p q)), lc := if newsB S m j p q then upd (upd S.lc j (max (S.lc j) (min (S.co m) NW))) m (twoE (tellK S m j p q)) else upd S.lc j (max (S.lc j) (min (S.co m) NW)), co := upd S.co j (max (S.co j) (min (S.co m) NW)), ak := upd S.ak m (tellK S m j p q) }) ?_ ?_
        · with_reducible refine' s_if (t_cmp (w_meth (w_sub ?_)))
          refine' w_local m3 ?_
          refine' w_local m2 ?_
          refine' i_list (Wat.lg ‹_›) (by lia) (by lia) (tri_at ‹_›) ?_
          with_reducible refine' wm_maybe_commit ‹_› hw5 hm ?_
          refine' cm_one (kp_of ‹_› rfl) ?_
          with_reducible refine' w_es_cons ?_
          refine' w_local m6 ?_
          with_reducible refine' w_es_cons ?_
          refine' w_local m5 ?_
          with_reducible refine' w_es_nil ?_
          refine Fn.go (fn_maybe_commit hD (hw5.lo m hm) ⟨bT.1, ?_, ?_⟩ ?_ ?_) (Room.le ‹_› (by decide))
          · show _ ≤ ((upd S.lo j (mrg (S.lo j) B (segN S m j p q)) m).length : Int)
            rw [eom]; exact bT.2
          · show 0 ≤ upd S.lc j (max (S.lc j) (min (S.co m) NW)) m
            rw [elm, hcm.1]; exact hcm.2
          · show _ ≤ upd S.lc j (max (S.lc j) (min (S.co m) NW)) m ∨ _ ∨ tmE (upd S.lo j (mrg (S.lo j) B (segN S m j p q)) m) _ ≠ _ → _
            rw [elm, eom]
            intro hq
            have enf : newsB S m j p q = false := by
              rw [enb]
              rcases hq with hq | hq | hq
              · rw [decide_eq_false (by (first | lia | omega)), Bool.false_and]
              · (first | lia | omega)
              · rw [beq_eq_false_iff_ne.mpr hq, Bool.and_false]
            rw [enf] at m7 ⊢
            refine' w_local m7 ?_
            with_reducible refine' c_neb (tr_bool ?_)
            refine' br_F rfl ?_
            with_reducible refine' s_nil (md_next ?_)
            exact ⟨(nmk5 m1 m2 m4 m6 m7), hw5⟩
          · show upd S.lc j (max (S.lc j) (min (S.co m) NW)) m < _ → _ → tmE (upd S.lo j (mrg (S.lo j) B (segN S m j p q)) m) _ = _ → _
            rw [elm, eom]
            intro q1 q2 q3 H' cg lg
            have ent : newsB S m j p q = true := by
              rw [enb, q3, decide_eq_true (by (first | lia | omega)), beq_self_eq_true]; rfl
            rw [ent] at m7 ⊢
            have hw6 := Wat.chg hm hw5 cg lg
            have e8 : upd (upd S.lo j (mrg (S.lo j) B (segN S m j p q))) m (upd S.lo j (mrg (S.lo j) B (segN S m j p q)) m) = upd S.lo j (mrg (S.lo j) B (segN S m j p q)) := upd_same
            refine' w_local m7 ?_
            with_reducible refine' c_neb (tr_bool ?_)
            refine' br_F rfl ?_
            with_reducible refine' s_nil (md_next ?_)
            refine ⟨(nmk5 m1 m2 m4 m6 m7), hw6.re ?_⟩
            show ({ S with pl := _, tm := _, ld := _, lo := upd (upd S.lo j (mrg (S.lo j) B (segN S m j p q))) m (upd S.lo j (mrg (S.lo j) B (segN S m j p q)) m), lc := _, co := _, ak := _ } : Sta) = _
            rw [e8, if_pos rfl]
        clear m1 m2 m3 m4 m5 m6 m7 hw5
        rintro ⟨mm2, H5⟩ ⟨hN17, hw5⟩
        refine nel5 hN17 fun m1 m2 m3 m4 m5 => ?_
        clear hN17
        have fin : tellS S m j p q = { S with pl := upd S.pl j (tellP S m j p q), tm := upd S.tm j (S.ld m), ld := upd S.ld j 0, lo := upd S.lo j (mrg (S.lo j) B (segN S m j p q)), lc := if newsB S m j p q then upd (upd S.lc j (max (S.lc j) (min (S.co m) NW))) m (twoE (tellK S m j p q)) else upd S.lc j (max (S.lc j) (min (S.co m) NW)), co := if newsB S m j p q then upd (upd S.co j (max (S.co j) (min (S.co m) NW))) m (twoE (tellK S m j p q)) else upd S.co j (max (S.co j) (min (S.co m) NW)), ak := upd S.ak m (tellK S m j p q) } := by
          rw [tellS, if_neg q1, hB, hNW]
        cases hnb : newsB S m j p q with
        | true =>
          rw [hnb] at fin hw5 m5
          with_reducible refine' s_cons (s_if (t_val ?_))
          refine' w_local m5 ?_
          with_reducible refine' tr_bool (br_t (s_one (s_assignS ?_)))
          refine' w_local m4 ?_
          refine' w_local m3 ?_
          refine' w_local m2 ?_
          with_reducible refine' ws_4 hw5 hm (fun _ _ => th_next (s_one (s_ret (w_bool ?_))))
          rename_i H6 hw6
          refine h H6 A5 ((hw6.shrink lk2).re ?_)
          rw [fin]; rfl
        | false =>
          rw [hnb] at fin hw5 m5
          with_reducible refine' s_cons (s_if (t_val ?_))
          refine' w_local m5 ?_
          with_reducible refine' tr_bool (br_f (s_nil (th_next (s_one (s_ret (w_bool ?_))))))
          refine h H5 A5 ((hw5.shrink lk2).re ?_)
          rw [fin]; rfl
end

end Rk
namespace Rk

section
variable {D : Wd} {d : Nat} {c : Cx} {E : Value → Shared → Prop} {σ : St} {H H' K K' : Hp} {w a b n x xl hl ml ol : Addr} {A : WA} {S : Sta} {m j p q : Nat} {t i k : Int} {Q : V → Hp → Prop} {Qs : V → St → Prop} {vs us : List V} {es fs : List Ent}
/-- all that is not the state's own is the frame's -/
theorem Wat.max (h : Wat H K w A S) : ∃ K', K.Le K' ∧ Wat H K' w A S ∧ (∀ a o, H a = some o → (∀ n, n < 12 → a ≠ A.q n) → (∀ i, i < 3 → a ≠ A.r i ∧ a ≠ A.u i) → K' a = some o) ∧ ∀ a vs, H a = some (.tup vs) → K' a = some (.tup vs) := by
  classical
  let F : Addr → Prop := fun a => (∃ n, n < 12 ∧ a = A.q n) ∨ ∃ i, i < 3 ∧ (a = A.r i ∨ a = A.u i)
  have hf : ∀ a o, H a = some o → ¬ F a → (fun b => if F b then none else H b : Hp) a = some o := fun a o e z => by
    show (if F a then none else H a) = some o
    rw [if_neg z]; exact e
  refine ⟨fun b => if F b then none else H b, fun a o e => hf a o (h.Kl _ _ e) ?_, ?_, fun a o e h1 h2 => hf a o e ?_, fun a vs e => hf a _ e ?_⟩
  · rintro (⟨n, hn, rfl⟩ | ⟨i, hi, rfl | rfl⟩)
    · rw [h.Kq n hn] at e; cases e
    · rw [h.Kr i hi] at e; cases e
    · rw [h.Ku i hi] at e; cases e
  · refine ⟨h.w, h.lg, h.ct, h.lo, h.inj, h.lgx, h.rinj, h.uinj, fun b x e => ?_, fun i hi => if_pos (.inl ⟨i, hi, rfl⟩), fun i hi => if_pos (.inr ⟨i, hi, .inl rfl⟩), fun i hi => if_pos (.inr ⟨i, hi, .inr rfl⟩)⟩
    have e : (if F b then none else H b) = some x := e
    split at e
    · cases e
    · exact e
  · rintro (⟨n, hn, rfl⟩ | ⟨i, hi, z⟩)
    · exact h1 n hn rfl
    · exact z.elim (h2 i hi).1 (h2 i hi).2
  · rintro (⟨n, hn, rfl⟩ | ⟨i, hi, rfl | rfl⟩)
    · obtain ⟨ct, h1, _⟩ := h.ct
      rw [h1 n hn] at e; cases e
    · obtain ⟨mc, hr⟩ := (h.lo i hi).rr
      rw [hr] at e; cases e
    · obtain ⟨mc, hr⟩ := (h.lo i hi).uu
      rw [hr] at e; cases e
theorem Wat.fresh (h : Wat H K w A S) (hn : H a = none) : (∀ n, n < 12 → a ≠ A.q n) ∧ ∀ i, i < 3 → a ≠ A.r i ∧ a ≠ A.u i := by
  refine ⟨fun n hn' z => ?_, fun i hi => ⟨fun z => ?_, fun z => ?_⟩⟩
  · obtain ⟨ct, h1, _⟩ := h.ct
    rw [z, h1 n hn'] at hn; cases hn
  · obtain ⟨mc, hr⟩ := (h.lo i hi).rr
    rw [z, hr] at hn; cases hn
  · obtain ⟨mc, hr⟩ := (h.lo i hi).uu
    rw [z, hr] at hn; cases hn
noncomputable def partS (S : Sta) (j : Nat) : List Ent := (S.lo j).take (S.lc j).toNat
noncomputable def sureS (S : Sta) : Nat → List Ent
  | 0 => S.su
  | j + 1 => sureS S j ++ (partS S j).drop (sureS S j).length
set_option maxHeartbeats 4000000 in
theorem fn_safe (hD : IsD D) (hw : Wat H K w A S) (hz : ∀ i, i < 3 → (S.lo i).length ≤ 40) (hy : ∀ i, i < 3 → S.lo i = S.pl i ∧ S.lc i = S.co i ∧ 0 ≤ S.lc i) (hzs : ∀ i, i ≤ 3 → (sureS S i).length ≤ 40)
    (hs : ∀ i, i < 3 → (partS S i).take (sureS S i).length = (sureS S i).take (partS S i).length) (h : ∀ H', Wat H' K w A { S with su := sureS S 3 } → Q (.bool true) H') : Fn D 6 777 [.ref w] Q H := by
  refine fn_def (hK := by rw [hD.k]; k_is) (hcd := by rw [hD.k]; k_is) (ns := ["w"]) ?_ ?_ ?_ rfl rfl rfl ?_
  · exact fun _ => rfl
  · decide
  · decide
  intro c cD cn cs cc cr
  subst cD
  with_reducible refine' s_cons (s_assignT ?_)
  refine' w_local rfl ?_
  refine' as_tup (Wat.w ‹_›) rfl ?_
  with_reducible refine' as_cons ?_
  refine' st_local (lof ‹_› ⟨rfl, rfl⟩) ?_
  with_reducible refine' as_cons ?_
  refine' st_local (lof ‹_› ⟨rfl, rfl⟩) ?_
  with_reducible refine' as_cons ?_
  refine' st_local (lof ‹_› ⟨rfl, rfl⟩) ?_
  with_reducible refine' as_cons ?_
  refine' st_local (lof ‹_› ⟨rfl, rfl⟩) ?_
  with_reducible refine' as_cons ?_
  refine' st_local (lof ‹_› ⟨rfl, rfl⟩) ?_
  with_reducible refine' as_cons ?_
  refine' st_local (lof ‹_› ⟨rfl, rfl⟩) ?_
  with_reducible refine' as_cons ?_
  refine' st_local (lof ‹_› ⟨rfl, rfl⟩) ?_
  with_reducible refine' as_nil (th_next (s_cons (s_for (w_call ?_))))
  refine' gl_range ‹_› (kof ‹_› rfl) ?_
  refine' cv_raw rfl ?_
  with_reducible refine' w_es_cons (w_int (w_es_nil (f_range1 (fun _ _ => ?_))))
  refine' it_rgN hg_self (by lia) ?_
  with_reducible refine' fun _ _ => itx ?_
  rename_i rg hrg it hit
  have hw0 := Wat.new0 (o := .rg 0 3) hrg hw
  have kit : K it = none := hw0.non hit
  have hw1 := Wat.new (o := .ri 0 ((3 - 0 : Int).toNat : Int)) hit hw0
  let Ix1 : Int → Nat → St → Prop := fun x n σ => ∃ i : Nat, x = i ∧ i + n = 3 ∧ Nms σ.m [("w", .ref w), ("logs", .ref A.lg), ("plain", .ref (A.q 0)), ("coms", .ref (A.q 4)), ("sure", .ref (A.q 5))] ∧ Wat σ.H (K.set it (.ri x n)) w A { S with su := sureS S i }
  refine loop_rg (n := 3) Ix1 ?_ ?_ ?_ (by with_unfolding_all rfl) ⟨0, rfl, rfl, (nmk5 rfl rfl rfl rfl rfl), hw1⟩
  · rintro x n σ ⟨i, _, _, _, h⟩
    exact h.Kl _ _ hs_self
  · rintro x n ⟨mm, H3⟩ ⟨j, rfl, e, hN18, hw2⟩
    refine nel5 hN18 fun m1 m2 m3 m4 m5 => ?_
    clear hN18
    have hj : j < 3 := by (first | lia | omega)
    have hw3 := Wat.put (o' := .ri ((j : Int) + 1) n) hs_self rfl hw2
    rw [set_set] at hw3
    with_reducible refine' as_name ?_
    refine' st_local (lof ‹_› ⟨rfl, rfl⟩) ?_
    with_reducible refine' s_cons (s_assign (w_call ?_))
    refine' gl__law_rows ‹_› (kof ‹_› rfl) ?_
    refine' cv_ref (kp_of ‹_› rfl) ?_
    with_reducible refine' w_es_cons (w_sub ?_)
    refine' w_local m2 ?_
    refine' w_local rfl ?_
    refine' i_list (Wat.lg ‹_›) (by lia) (by lia) (tri_at ‹_›) ?_
    with_reducible refine' w_es_nil ?_
    refine' Fn.go (fn_law_rows ‹_› (Wat.lo hw3 _ hj) ?_) (Room.le ‹_› (by decide))
    intro H6 n6 vs6 l6 hn6 hv6 hr6
    have hw4 := hw3.le l6
    have fr := hw3.fresh hn6
    generalize hS3 : ({ S with su := sureS S j } : Sta) = S3 at hw4 hr6
    have e1 : S3.lo = S.lo := by rw [← hS3]
    have e2 : S3.lc = S.lc := by rw [← hS3]
    have e3 : S3.pl = S.pl := by rw [← hS3]
    have e4 : S3.co = S.co := by rw [← hS3]
    have e5 : S3.su = sureS S j := by rw [← hS3]
    obtain ⟨K6, lk6, hw5, km, kt⟩ := hw4.max
    have k6 : K6 n6 = some (.list vs6) := km _ _ hv6 fr.1 fr.2
    have hrK : Rows K6 vs6 (S3.lo j) := hr6.tle kt
    obtain ⟨vs5, h5a, h5b⟩ := hw5.h5
    have lv6 := hr6.length
    have lv5 := h5b.length
    have z1 := hz j hj
    rw [← e1] at z1
    have z2 := hzs j (by (first | lia | omega))
    rw [← e5] at z2
    obtain ⟨y1, y2, y3⟩ := hy j hj
    rw [← e2] at y3
    clear hw2 hw3 hw4
    have ls1 := slc_len (vs := vs6) (lo := none) (hi := some (S3.lc j))
    refine st_local (lof cs ⟨rfl, rfl⟩) ?_
    refine th_next ?_
    let Nx2 : St → Prop := fun σ => ∃ n7, Nms σ.m [("w", .ref w), ("logs", .ref A.lg), ("plain", .ref (A.q 0)), ("coms", .ref (A.q 4)), ("sure", .ref (A.q 5)), ("j", .int j), ("rows", .ref n6), ("part", .ref n7)] ∧ H6 n7 = none ∧ σ.H n7 = some (.list (slc vs6 none (some (S3.lc j)))) ∧ H6.Le σ.H
    refine ss_mid Nx2 ?_ ?_
    · with_reducible refine' s_assign (w_slice ?_)
      refine' w_local rfl ?_
      with_reducible refine' p_none (p_some (att (w_sub ?_)))
      refine' w_local m2 ?_
      refine' w_local rfl ?_
      refine' i_list (Wat.lg ‹_›) (by lia) (by lia) (tri_at ‹_›) ?_
      with_reducible refine' wg_committed ‹_› hw5 hj ?_
      refine' slx (hg_wat hw5 k6) (by lia) bdn (bdi (by first | lia | omega)) ?_
      with_reducible refine' fun _ _ => ?_
      refine' st_local (lof ‹_› ⟨rfl, rfl⟩) ?_
      with_reducible refine' md_next ?_
      rename_i n7 hn7
      exact ⟨n7, (nmk8 m1 m2 m3 m4 m5 rfl rfl rfl), hn7, hs_self, Hp.Le.set _ hn7⟩
    clear m1 m2 m3 m4 m5
    rintro ⟨mm2, H7⟩ ⟨n7, hN19, hn7, k7, l7⟩
    refine nel8 hN19 fun m1 m2 m3 m4 m5 m6 m7 m8 => ?_
    clear hN19
    have hw6 := hw5.le l7
    have hrp : Rows H7 (slc vs6 none (some (S3.lc j))) (partS S3 j) := (hr6.take (S3.lc j).toNat).le l7
    have fr7 := hw5.fresh hn7
    have h5c := l7 _ _ h5a
    have h5d := h5b.le l7
    have ls1 := Nat.le_trans ls1 (Nat.le_of_eq lv6)
    have ls1 := Nat.le_trans ls1 z1
    clear fr lv6
    generalize slc vs6 none (some (S3.lc j)) = ps at k7 hrp ls1
    have lps := hrp.length
    have hsj : (partS S3 j).take S3.su.length = S3.su.take (partS S3 j).length := by
      have z := hs j hj
      rw [← e5] at z
      show (((S3.lo j).take (S3.lc j).toNat)).take _ = _
      rw [e1, e2]
      show _ = S3.su.take ((S3.lo j).take (S3.lc j).toNat).length
      rw [e1, e2]; exact z
    let Nx3 : St → Prop := fun σ => Nms σ.m [("w", .ref w), ("logs", .ref A.lg), ("plain", .ref (A.q 0)), ("coms", .ref (A.q 4)), ("sure", .ref (A.q 5)), ("j", .int j), ("rows", .ref n6), ("part", .ref n7)] ∧ H7.Le σ.H
    refine ss_mid Nx3 ?_ ?_
    · with_reducible refine' s_if (t_cmp (w_slice ?_))
      refine' w_local m8 ?_
      with_reducible refine' p_none (p_some (w_call ?_))
      refine' gl_len ‹_› (kof ‹_› rfl) ?_
      refine' cv_raw rfl ?_
      with_reducible refine' w_es_cons ?_
      refine' w_local m5 ?_
      with_reducible refine' w_es_nil ?_
      refine' wl_5 hw6 (by lia) ?_
      refine' slx k7 (by lia) bdn (bdi (by first | lia | omega)) ?_
      with_reducible refine' fun _ _ => w_slice ?_
      refine' w_local m5 ?_
      with_reducible refine' p_none (p_some (w_call ?_))
      refine' gl_len ‹_› (kof ‹_› rfl) ?_
      refine' cv_raw rfl ?_
      with_reducible refine' w_es_cons ?_
      refine' w_local m8 ?_
      with_reducible refine' w_es_nil ?_
      refine' f_len (hg_new (by with_reducible assumption) k7) (by lia) ?_
      refine' slx (hg_new (by with_reducible assumption) h5c) (by lia) bdn (bdi (by first | lia | omega)) ?_
      with_reducible refine' fun _ _ => ?_
      rename_i n8 hn8 n9 hn9
      have l89 := (Hp.Le.set (o := .list (slc ps none (some (S3.su.length : Int)))) hn8).trans (Hp.Le.set (o := .list (slc vs5 none (some (ps.length : Int)))) hn9)
      refine c_neR (by assumption) (hs_new hn9 hs_self) ((hrp.take S3.su.length).le l89) hs_self ((h5d.take ps.length).le l89) ?_
      with_reducible refine' tr_bool (br_nd ?_ ?_)
      with_reducible refine' fun _ => s_one (s_ret (w_bool (md_ret (tu_ret (th_ret ?_)))))
      rotate_left
      with_reducible refine' fun _ => s_nil (md_next ?_)
      rotate_left
      · rename_i hq
        rw [lps] at hq
        exact absurd hsj hq
      · exact ⟨(nmk8 m1 m2 m3 m4 m5 m6 m7 m8), l89⟩
    clear m1 m2 m3 m4 m5 m6 m7 m8
    rintro ⟨mm2, H8⟩ ⟨hN20, l8⟩
    refine nel8 hN20 fun m1 m2 m3 m4 m5 m6 m7 m8 => ?_
    clear hN20
    have hw7 := hw6.le l8
    have k8 := l8 _ _ k7
    have hrp8 := hrp.le l8
    obtain ⟨K8, lk8, hw8, km8, kt8⟩ := hw7.max
    have hrK8 : Rows K8 ps (partS S3 j) := hrp8.tle kt8
    have lpj : (partS S3 j).length ≤ 40 := by (first | lia | omega)
    with_reducible refine' s_cons (s_for (w_slice ?_))
    refine' w_local m8 ?_
    with_reducible refine' p_some (w_call ?_)
    refine' gl_len ‹_› (kof ‹_› rfl) ?_
    refine' cv_raw rfl ?_
    with_reducible refine' w_es_cons ?_
    refine' w_local m5 ?_
    with_reducible refine' w_es_nil ?_
    refine' wl_5 hw8 (by lia) ?_
    with_reducible refine' p_none ?_
    refine' slx k8 (by lia) (bdi (by first | lia | omega)) bdn ?_
    with_reducible refine' fun _ _ => it_list hg_self (fun _ _ => itx ?_)
    rename_i tl htl it2 hit2
    have hw9 := Wat.new (o := .list (slc ps (some (S3.su.length : Int)) none)) htl hw8
    have hw10 := Wat.new (o := .li tl 0) hit2 hw9
    have ktl : K8 tl = none := hw8.non htl
    have kit2 : (K8.set tl (.list (slc ps (some (S3.su.length : Int)) none))) it2 = none := hw9.non hit2
    have kit3 : K8 it2 = none := none_set kit2
    have hrt : Rows K8 (slc ps (some (S3.su.length : Int)) none) ((partS S3 j).drop S3.su.length) := hrK8.drop _
    generalize slc ps (some (S3.su.length : Int)) none = ts at hw9 hw10 kit2 hrt ⊢
    have lts := hrt.length
    have ex3 : ({ S3 with su := S3.su ++ ((partS S3 j).drop S3.su.length).take 0 } : Sta) = S3 := by rw [List.take_zero, List.append_nil]
    let Ix4 : Nat → St → Prop := fun p σ => Nms σ.m [("w", .ref w), ("logs", .ref A.lg), ("plain", .ref (A.q 0)), ("coms", .ref (A.q 4)), ("sure", .ref (A.q 5)), ("j", .int j), ("rows", .ref n6)] ∧
      Wat σ.H ((K8.set tl (.list ts)).set it2 (.li tl p)) w A { S3 with su := S3.su ++ ((partS S3 j).drop S3.su.length).take p }
    refine loop_list (l := tl) (vs := ts) Ix4 ?_ ?_ ?_ (by with_unfolding_all rfl) (Nat.zero_le _) ⟨(nmk7 m1 m2 m3 m4 m5 m6 m7), hw10.re ex3.symm⟩
    · rintro p σ ⟨_, hh⟩
      exact ⟨hh.Kl _ _ hs_self, hh.Kl _ _ (hs_new kit2 hs_self)⟩
    · clear m1 m2 m3 m4 m5 m6 m7 m8
      rintro p v ⟨mm3, H9⟩ lt hv ⟨hN21, hw11⟩
      refine nel7 hN21 fun m1 m2 m3 m4 m5 m6 m7 => ?_
      clear hN21
      have hw12 := Wat.put (o' := .li tl (p + 1)) hs_self rfl hw11
      rw [set_set] at hw12
      have lt2 : p < ((partS S3 j).drop S3.su.length).length := by (first | lia | omega)
      have ge := List.getElem?_eq_getElem lt2
      obtain ⟨x, g1, g2⟩ := hrt.get ge
      rw [g1] at hv
      cases hv
      have g3 := hw12.Kl _ _ (hs_new kit2 (hs_new ktl g2))
      have lz : (S3.su ++ ((partS S3 j).drop S3.su.length).take p).length ≤ 100 := by rw [List.length_append, List.length_take, List.length_drop]; (first | lia | omega)
      have ts1 := take_snoc ge
      with_reducible refine' as_name ?_
      refine' st_local (lof ‹_› ⟨rfl, rfl⟩) ?_
      with_reducible refine' s_one (s_ex (w_meth ?_))
      refine' w_local m5 ?_
      with_reducible refine' wp_5 hw12 ?_
      refine' cm_one rfl ?_
      with_reducible refine' w_es_cons ?_
      refine' w_local rfl ?_
      with_reducible refine' w_es_nil ?_
      refine' wa_5 hw12 (by simp only [List.length_append, List.length_cons, List.length_nil, List.length_map, List.length_set, List.length_take, List.length_drop, List.length_replicate]; exact (by lia)) (hg_wat hw12 (hs_new kit2 (hs_new ktl g2))) ?_
      with_reducible refine' fun _ _ => ?_
      refine' ⟨rfl, ?_⟩
      with_reducible refine' tu_next ?_
      rename_i H10 hw13
      refine ⟨(nmk7 m1 m2 m3 m4 m5 m6 m7), hw13.re ?_⟩
      rw [ts1]
      show ({ S3 with su := _ } : Sta) = _
      rw [List.append_assoc]
    · clear m1 m2 m3 m4 m5 m6 m7 m8
      rintro ⟨mm3, H9⟩ ⟨hN22, hw11⟩
      refine nel7 hN22 fun m1 m2 m3 m4 m5 m6 m7 => ?_
      clear hN22
      have hw12 := Wat.del hs_self rfl hw11
      rw [del_set kit2] at hw12
      rw [lts, List.take_length] at hw12
      have k6a := hw12.Kl _ _ (hs_new ktl (lk8 _ _ k6))
      have hr6a := ((hrK.le lk8).le (Hp.Le.set (o := .list ts) ktl)).le hw12.Kl
      obtain ⟨us, h6a, h6b⟩ := hw12.h6 hj
      have y1' : S3.lo j = S3.pl j := by rw [e1, e3]; exact y1
      have y2' : S3.lc j = S3.co j := by rw [e2, e4]; exact y2
      have lkf : (K.set it (.ri ((j : Int) + 1) n)).Le (K8.set tl (.list ts)) := (lk6.trans lk8).trans (Hp.Le.set _ ktl)
      with_reducible refine' th_next (s_one (s_if (t_bool (a_or (t_cmp ?_)))))
      refine' w_local m7 ?_
      with_reducible refine' w_sub ?_
      refine' w_local m3 ?_
      refine' w_local m6 ?_
      refine' i_list (Wat.h0 ‹_›) (by lia) (by lia) (tri_at ‹_›) ?_
      refine c_neR (by assumption) k6a hr6a h6a h6b ?_
      with_reducible refine' tr_bool (br_nd ?_ ?_)
      with_reducible refine' fun _ => br_t (s_one (s_ret (w_bool (tu_ret (th_ret ?_)))))
      rotate_left
      with_reducible refine' fun _ => a_or (t_cmp (att (w_sub ?_)))
      refine' w_local m2 ?_
      refine' w_local m6 ?_
      refine' i_list (Wat.lg ‹_›) (by lia) (by lia) (tri_at ‹_›) ?_
      with_reducible refine' wg_committed ‹_› hw12 hj (w_sub ?_)
      refine' w_local m4 ?_
      refine' w_local m6 ?_
      refine' i_list (Wat.h4 ‹_›) (by lia) (by lia) (tri_at ‹_›) ?_
      with_reducible refine' c_ne (tr_bool (br_ne ?_ ?_))
      with_reducible refine' fun _ => br_t (s_one (s_ret (w_bool (tu_ret (th_ret ?_)))))
      rotate_left
      with_reducible refine' fun _ => a_or_nil (br_f (s_nil (tu_next ?_)))
      rotate_left
      · rename_i hq
        exact absurd y1' hq
      · rename_i hq1 hq2
        exact absurd y2' hq2
      · refine ⟨j + 1, by (first | lia | omega), by (first | lia | omega), (nmk5 m1 m2 m3 m4 m5), (hw12.shrink lkf).re ?_⟩
        rw [← hS3]
        rfl
  · rintro x ⟨mm, H3⟩ ⟨i, rfl, e, hN23, hw2⟩
    refine nel5 hN23 fun m1 m2 m3 m4 m5 => ?_
    clear hN23
    have hw3 := Wat.del hs_self rfl hw2
    rw [del_set kit] at hw3
    with_reducible refine' th_next (s_one (s_ret (w_bool ?_)))
    have : i = 3 := by (first | lia | omega)
    subst this
    exact h _ hw3
end

end Rk
namespace Rk

section
variable {D : Wd} {d : Nat} {c : Cx} {E : Value → Shared → Prop} {σ : St} {H H' K K' : Hp} {w a b n x xl hl ml ol : Addr} {A : WA} {S : Sta} {m j p q : Nat} {t i k : Int} {Q : V → Hp → Prop} {Qs : V → St → Prop} {vs us : List V} {es fs : List Ent}
theorem filt_mem {P : Nat → Bool} {x : Nat} : ∀ {n a : Nat}, x ∈ filt P a n → P x = true ∧ a ≤ x ∧ x < a + n
  | 0, a, h => by simp [filt] at h
  | n + 1, a, h => by
    rw [filt] at h
    split at h
    · rename_i q
      rcases List.mem_cons.mp h with rfl | h
      · exact ⟨q, Nat.le_refl _, by (first | lia | omega)⟩
      · have := filt_mem h; exact ⟨this.1, by (first | lia | omega), by (first | lia | omega)⟩
    · have := filt_mem h; exact ⟨this.1, by (first | lia | omega), by (first | lia | omega)⟩
noncomputable def termAt (es : List Ent) (i : Nat) : Int := ((es[i]?).map (·.1)).getD 0
set_option maxHeartbeats 4000000 in
theorem fn_alike (hD : IsD D) (hm : H ml = some (.list vs)) (hr : Rows H vs es) (ho : H ol = some (.list us)) (hs : Rows H us fs) (hz : es.length ≤ 40 ∧ fs.length ≤ 40) (ha : ∀ i, i < es.length → i < fs.length → termAt es i = termAt fs i → es.take (i + 1) = fs.take (i + 1))
    (h : Hold (∀ H', H.Le H' → Q (.bool true) H')) : Fn D 3 782 [.ref ml, .ref ol] Q H := by
  refine fn_defC (hK := by rw [hD.k]; k_is) (hcd := by rw [hD.k]; k_is) (ns := ["one", "other"]) ?_ ?_ ?_ ?_ rfl rfl rfl ?_
  · exact fun _ _ => rfl
  · intro n x hx
    simp only [List.mem_cons, List.not_mem_nil, or_false] at hx
    rcases hx with rfl | rfl <;> first | exact .inl rfl | exact .inr ⟨rfl, rfl⟩
  · decide
  · decide
  intro c n cD cn cs cc hn cr
  subst cD
  have n0 : H n = none := hn n (Nat.le_refl _)
  have n1 : H (n + 1) = none := hn _ (Nat.le_succ _)
  have cc : c.cl = ([("other", n + 1), ("one", n)] : List (Str × Addr)) := cc
  show c.Ss Nope _ _ ⟨fun _ => none, (H.set n (.cell (some (.ref ml)))).set (n + 1) (.cell (some (.ref ol)))⟩
  have d1 : n ≠ n + 1 := by (first | lia | omega)
  generalize n + 1 = cp at n1 cc d1 ⊢
  have l0 : H.Le ((H.set n (.cell (some (.ref ml)))).set cp (.cell (some (.ref ol)))) := Hp.Le.setN n1 (Hp.Le.set _ n0)
  have k0 : ((H.set n (.cell (some (.ref ml)))).set cp (.cell (some (.ref ol)))) n = some (.cell (some (.ref ml))) := hs_ne d1 hs_self
  have k1 : ((H.set n (.cell (some (.ref ml)))).set cp (.cell (some (.ref ol)))) cp = some (.cell (some (.ref ol))) := hs_self
  generalize (H.set n (.cell (some (.ref ml)))).set cp (.cell (some (.ref ol))) = H0 at l0 k0 k1 ⊢
  have hm0 := l0 _ _ hm
  have ho0 := l0 _ _ ho
  have hr0 := hr.le l0
  have hs0 := hs.le l0
  have lv := hr.length
  have lu := hs.length
  have ls1 : vs.length ≤ 40 := by (first | lia | omega)
  have ls2 : us.length ≤ 40 := by (first | lia | omega)
  let Nx1 : St → Prop := fun σ => H0.Le σ.H ∧ ∃ ul, σ.m "same" = some (.ref ul) ∧ σ.H ul = some (.list ((filt (fun i => termAt es i == termAt fs i) 0 (min es.length fs.length)).map fun (i : Nat) => V.int (i : Int)))
  refine ss_mid Nx1 ?_ ?_
  · refine s_comp (cl := [("other", cp), ("one", n)]) ?_ ?_ ?_
    · exact clos_of cc (by with_unfolding_all rfl)
    · with_reducible refine' w_call ?_
      refine' gl_range ‹_› (kof ‹_› rfl) ?_
      refine' cv_raw rfl ?_
      with_reducible refine' w_es_cons (w_call ?_)
      refine' gl_min ‹_› (kof ‹_› rfl) ?_
      refine' cv_raw rfl ?_
      with_reducible refine' w_es_cons (w_call ?_)
      refine' gl_len ‹_› (kof ‹_› rfl) ?_
      refine' cv_raw rfl ?_
      with_reducible refine' w_es_cons ?_
      refine' w_cell (clof ‹_› rfl) k0 (kof ‹_› rfl) ?_
      with_reducible refine' w_es_nil ?_
      refine' f_len hm0 (by lia) ?_
      with_reducible refine' w_es_cons (w_call ?_)
      refine' gl_len ‹_› (kof ‹_› rfl) ?_
      refine' cv_raw rfl ?_
      with_reducible refine' w_es_cons ?_
      refine' w_cell (clof ‹_› rfl) k1 (kof ‹_› rfl) ?_
      with_reducible refine' w_es_nil ?_
      refine' f_len ho0 (by lia) ?_
      with_reducible refine' w_es_nil (f_min2 (w_es_nil (f_range1 (fun _ _ => ?_))))
      refine' it_rgN hg_self (by lia) ?_
      with_reducible refine' fun _ _ => ?_
      rename_i rg hrg it hit
      have hit' : (H0.set rg (.rg 0 (min (vs.length : Int) us.length))) it = none := hit
      have e0 : ((min (vs.length : Int) us.length) - 0).toNat = min es.length fs.length := by (first | lia | omega)
      rw [e0]
      have lr := Hp.Le.set (o := .rg 0 (min (vs.length : Int) us.length)) (show H0 rg = none from hrg)
      refine block_rgf (a := 0) (fun i => termAt es i == termAt fs i) hit' (by (first | lia | omega)) (relb cs (by with_unfolding_all rfl)) (by exact ⟨rfl, rfl⟩) ?_ ?_
      · intro c' cD' cs' cc' cr' i m' H1 l1 hi1 hi2
        have hD' : IsD c'.D := by rw [cD']; exact hD
        have cr2 := cr' _ cr
        have l2 := lr.trans l1
        have kk0 := l2 _ _ k0
        have kk1 := l2 _ _ k1
        have hm1 := l2 _ _ hm0
        have ho1 := l2 _ _ ho0
        have iv : i < es.length := by (first | lia | omega)
        have iu : i < fs.length := by (first | lia | omega)
        obtain ⟨x1, g1, g2⟩ := (hr0.le l2).get (List.getElem?_eq_getElem iv)
        obtain ⟨x2, g3, g4⟩ := (hs0.le l2).get (List.getElem?_eq_getElem iu)
        have g1' : vs[((i : Nat) : Int).toNat]? = some (.ref x1) := g1
        have g3' : us[((i : Nat) : Int).toNat]? = some (.ref x2) := g3
        have t1 : termAt es i = es[i].1 := by rw [termAt, List.getElem?_eq_getElem iv]; rfl
        have t2 : termAt fs i = fs[i].1 := by rw [termAt, List.getElem?_eq_getElem iu]; rfl
        with_reducible refine' t_cmp (w_sub (w_sub ?_))
        refine' w_cell (clof ‹_› rfl) kk0 (kof ‹_› rfl) ?_
        refine' w_local rfl ?_
        refine' i_list hm1 (by lia) (by lia) g1' ?_
        with_reducible refine' w_int ?_
        refine' i_tup g2 (by decide) (by decide) rfl ?_
        with_reducible refine' w_sub (w_sub ?_)
        refine' w_cell (clof ‹_› rfl) kk1 (kof ‹_› rfl) ?_
        refine' w_local rfl ?_
        refine' i_list ho1 (by lia) (by lia) g3' ?_
        with_reducible refine' w_int ?_
        refine' i_tup g4 (by decide) (by decide) rfl ?_
        with_reducible refine' c_eq (tr_bool ?_)
        exact ⟨by rw [t1, t2], Hp.Le.refl _, rfl⟩
      · intro acc H' l1 ha hl
        exact ⟨lof cs ⟨rfl, rfl⟩, lr.trans l1, acc, rfl, hl⟩
    · exact swap_of cs (by with_unfolding_all rfl)
  rintro ⟨mm, H1⟩ ⟨l1, ul, m1, hul⟩
  have kk0 := l1 _ _ k0
  have kk1 := l1 _ _ k1
  have hm1 := l1 _ _ hm0
  have ho1 := l1 _ _ ho0
  have hr1 := hr0.le l1
  have hs1 := hs0.le l1
  have fl := filt_len (P := fun i => termAt es i == termAt fs i) (n := min es.length fs.length) (a := 0)
  generalize hF : filt (fun i => termAt es i == termAt fs i) 0 (min es.length fs.length) = F at hul fl
  have lF : (F.map fun (i : Nat) => V.int (i : Int)).length = F.length := List.length_map ..
  by_cases z : F.length = 0
  · have z2 : F = [] := List.length_eq_zero_iff.mp z
    subst z2
    have lul : ([] : List V).length = 0 := rfl
    have hul : H1 ul = some (.list []) := hul
    generalize ([] : List V) = UL at hul lul
    with_reducible refine' s_one (s_ret (w_or2 (w_cmp (w_call ?_))))
    refine' gl_len ‹_› (kof ‹_› rfl) ?_
    refine' cv_raw rfl ?_
    with_reducible refine' w_es_cons ?_
    refine' w_local m1 ?_
    with_reducible refine' w_es_nil ?_
    refine' f_len hul (by lia) ?_
    with_reducible refine' w_int (c_eq (tr_bool (br_eq ?_ ?_)))
    with_reducible refine' fun _ => ?_
    rotate_left
    with_reducible refine' fun _ => ?_
    exact False.elim (by lia)
    have e : (((UL.length : Nat) : Int) == 0) = true := by rw [lul]; rfl
    show Q (.bool (((UL.length : Nat) : Int) == 0)) H1
    rw [e]; exact h H1 (l0.trans l1)
  · obtain ⟨u, hu⟩ : ∃ u, F[F.length - 1]? = some u := ⟨_, List.getElem?_eq_getElem (by (first | lia | omega))⟩
    have hu2 : (F.map fun (i : Nat) => V.int (i : Int))[((-1 : Int) + ((F.map fun (i : Nat) => V.int (i : Int)).length : Nat)).toNat]? = some (.int u) := by
      rw [lF, show ((-1 : Int) + (F.length : Nat)).toNat = F.length - 1 by (first | lia | omega), List.getElem?_map, hu]; rfl
    have um := filt_mem (hF ▸ List.mem_of_getElem? hu)
    have ha2 := ha u (by (first | lia | omega)) (by (first | lia | omega)) (by simpa using um.1)
    generalize F.map (fun (i : Nat) => V.int (i : Int)) = UL at hul hu2 lF
    with_reducible refine' s_one (s_ret (w_or2 (w_cmp (w_call ?_))))
    refine' gl_len ‹_› (kof ‹_› rfl) ?_
    refine' cv_raw rfl ?_
    with_reducible refine' w_es_cons ?_
    refine' w_local m1 ?_
    with_reducible refine' w_es_nil ?_
    refine' f_len hul (by lia) ?_
    with_reducible refine' w_int (c_eq (tr_bool (br_eq ?_ ?_)))
    with_reducible refine' fun _ => ?_
    exact False.elim (by lia)
    with_reducible refine' fun _ => w_cmp (w_slice ?_)
    refine' w_cell (clof ‹_› rfl) kk0 (kof ‹_› rfl) ?_
    with_reducible refine' p_none (p_some (w_bin (w_sub ?_)))
    refine' w_local m1 ?_
    with_reducible refine' w_una (w_int (n_neg ?_))
    refine' i_listN hul (by decide) (by lia) (by decide) hu2 ?_
    with_reducible refine' w_int (b_add ?_)
    refine' slx hm1 (by lia) bdn (bdi (by first | lia | omega)) ?_
    with_reducible refine' fun _ _ => w_slice ?_
    refine' w_cell (clof ‹_› rfl) (hg_new (by with_reducible assumption) kk1) (kof ‹_› rfl) ?_
    with_reducible refine' p_none (p_some (w_bin (w_sub ?_)))
    refine' w_local m1 ?_
    with_reducible refine' w_una (w_int (n_neg ?_))
    refine' i_listN (hg_new (by with_reducible assumption) hul) (by decide) (by lia) (by decide) hu2 ?_
    with_reducible refine' w_int (b_add ?_)
    refine' slx (hg_new (by with_reducible assumption) ho1) (by lia) bdn (bdi (by first | lia | omega)) ?_
    with_reducible refine' fun _ _ => ?_
    rename_i hq n8 hn8 n9 hn9
    have l89 := (Hp.Le.set (o := .list (slc vs none (some ((u : Int) + 1)))) (show H1 n8 = none from hn8)).trans (Hp.Le.set (o := .list (slc us none (some ((u : Int) + 1)))) hn9)
    refine c_eqR (by assumption) (hs_new hn9 hs_self) ((hr1.take (u + 1)).le l89) hs_self ((hs1.take (u + 1)).le l89) ?_
    have z := h _ ((l0.trans l1).trans l89)
    rw [decide_eq_true ha2]
    skip
    exact z
end

end Rk
namespace Rk

section
variable {D : Wd} {d : Nat} {c : Cx} {E : Value → Shared → Prop} {σ : St} {H H' K K' : Hp} {w a b n x xl hl ml ol : Addr} {A : WA} {S : Sta} {m j p q : Nat} {t i k : Int} {Q : V → Hp → Prop} {Qs : V → St → Prop} {vs us : List V} {es fs : List Ent}
noncomputable def leadsL (S : Sta) : List Nat := filt (fun j => decide (0 < S.ld j)) 0 3
noncomputable def helpL (m y : Nat) : List Nat := if y % 3 = 0 then [(m + 1) % 3, (m + 2) % 3] else if y % 3 = 1 then [(m + 1) % 3] else [(m + 2) % 3]
noncomputable def actM (S : Sta) (n : Nat) : Nat := if S.ld (n / 4 % 3) = 0 then (leadsL S).getD (n / 12 % (leadsL S).length) 0 else n / 4 % 3
noncomputable def actS (S : Sta) (n : Nat) (tag : Int) : Sta :=
  if n % 4 = 0 ∨ (leadsL S).length = 0 then standS S (n / 4 % 3) (helpL (n / 4 % 3) (n / 12))
  else if n % 4 = 1 then putS S (actM S n) tag
  else tellS S (actM S n) ((actM S n + n % 4 - 1) % 3) ((S.pl (actM S n)).length - n / 12 % 4) (1 + n / 12 / 4 % 3)
structure Ready (S : Sta) : Prop where
  hz : ∀ i, i < 3 → (S.pl i).length ≤ 30
  hzs : S.su.length ≤ 30
  hy : ∀ i, i < 3 → S.lo i = S.pl i
  hc : ∀ i, i < 3 → S.lc i = S.co i ∧ 0 ≤ S.co i ∧ S.co i ≤ (S.pl i).length
  hld : ∀ i, i < 3 → 0 ≤ S.ld i
  hs : ∀ m js, m < 3 → (∀ j ∈ js, j < 3 ∧ j ≠ m) → 2 ≤ 1 + votes S m js → (S.pl m).take S.su.length = S.su
  hak : ∀ m, m < 3 → 0 < S.ld m → ∀ i, i < 3 → 0 ≤ S.ak m i ∧ S.ak m i ≤ (S.pl m).length
  hfc : ∀ m j p q, m < 3 → j < 3 → m ≠ j → 0 < S.ld m → S.tm j ≤ S.ld m → p ≤ (S.pl m).length → fc (S.pl j) (backN (S.pl m) (S.pl j) p + 1) (segN S m j p q) = 0 ∨ S.co j < fc (S.pl j) (backN (S.pl m) (S.pl j) p + 1) (segN S m j p q)
theorem nmod {n k : Nat} (h : 0 < k) : (n : Int).fmod k = ((n % k : Nat) : Int) := by
  rw [Int.fmod_eq_emod_of_nonneg _ (by (first | lia | omega))]; exact (Int.natCast_emod n k).symm
theorem ndiv {n k : Nat} : (n : Int).fdiv k = ((n / k : Nat) : Int) := by
  rw [Int.fdiv_eq_ediv_of_nonneg _ (by (first | lia | omega))]; exact (Int.natCast_ediv n k).symm
set_option maxHeartbeats 4000000 in
theorem fn_act {nn : Nat} (hD : IsD D) (hw : Wat H K w A S) (hR : Ready S) (ht : 0 ≤ t ∧ t < 256) (hb : nn < 100000000) (h : ∀ H' A', Wat H' K w A' (actS S nn t) → Q (.bool true) H') : Fn D 10 787 [.ref w, .int nn, .int t] Q H := by
  refine fn_defC (hK := by rw [hD.k]; k_is) (hcd := by rw [hD.k]; k_is) (ns := ["w", "n", "tag"]) ?_ ?_ ?_ ?_ rfl rfl rfl ?_
  · exact fun _ _ _ => rfl
  · intro n x hx
    simp only [List.mem_cons, List.not_mem_nil, or_false] at hx
    rcases hx with rfl | rfl | rfl <;> first | exact .inl rfl | exact .inr ⟨rfl, rfl⟩
  · decide
  · decide
  intro c n cD cn cs cc hn cr
  subst cD
  have n0 : H n = none := hn n (Nat.le_refl _)
  have cc : c.cl = ([("leads", n)] : List (Str × Addr)) := cc
  show c.Ss Nope _ _ ⟨mOf ["w", "n", "tag"] [.ref w, .int nn, .int t] fun _ => none, H.set n (.cell none)⟩
  have hw0 := Wat.new (o := .cell none) n0 hw
  have lk0 : K.Le (K.set n (.cell (some (.ref (A.q 2))))) := Hp.Le.set _ (hw.non n0)
  refine ss_mid (fun σ => Nms σ.m [("w", .ref w), ("n", .int nn), ("tag", .int t), ("plain", .ref (A.q 0))] ∧ Wat σ.H (K.set n (.cell (some (.ref (A.q 2))))) w A S) ?_ ?_
  · with_reducible refine' s_assignT ?_
    refine' w_local rfl ?_
    refine' as_tup (Wat.w ‹_›) rfl ?_
    with_reducible refine' as_cons ?_
    refine' st_local (lof ‹_› ⟨rfl, rfl⟩) ?_
    with_reducible refine' as_cons ?_
    refine' st_local (lof ‹_› ⟨rfl, rfl⟩) ?_
    with_reducible refine' as_cons ?_
    refine' st_local (lof ‹_› ⟨rfl, rfl⟩) ?_
    with_reducible refine' as_cons ?_
    refine' st_cell (kof ‹_› rfl) (clof ‹_› rfl) (hg_wat hw0 hs_self) ?_
    with_reducible refine' as_cons ?_
    refine' st_local (lof ‹_› ⟨rfl, rfl⟩) ?_
    with_reducible refine' as_cons ?_
    refine' st_local (lof ‹_› ⟨rfl, rfl⟩) ?_
    with_reducible refine' as_cons ?_
    refine' st_local (lof ‹_› ⟨rfl, rfl⟩) ?_
    with_reducible refine' as_nil (md_next ?_)
    refine ⟨(nmk4 rfl rfl rfl rfl), ?_⟩
    have z := Wat.put (o' := .cell (some (.ref (A.q 2)))) hs_self rfl hw0
    rw [set_set (H := K)] at z
    exact z
  have kk : (K.set n (.cell (some (.ref (A.q 2))))) n = some (.cell (some (.ref (A.q 2)))) := hs_self
  generalize K.set n (.cell (some (.ref (A.q 2)))) = K1 at lk0 kk ⊢
  clear hw0
  rintro ⟨mm, H1⟩ ⟨hN24, hw1⟩
  refine nel4 hN24 fun m1 m2 m3 m4 => ?_
  clear hN24
  have q4 : ((nn : Int).fmod 4) = ((nn % 4 : Nat) : Int) := nmod (by decide)
  have d4 : ((nn : Int).fdiv 4) = ((nn / 4 : Nat) : Int) := ndiv
  have d43 : (((nn / 4 : Nat) : Int).fmod 3) = ((nn / 4 % 3 : Nat) : Int) := nmod (by decide)
  have d12 : ((nn : Int).fdiv 12) = ((nn / 12 : Nat) : Int) := ndiv
  let Nx1 : St → Prop := fun σ => Nms σ.m [("w", .ref w), ("n", .int nn), ("tag", .int t), ("plain", .ref (A.q 0)), ("k", .int (nn % 4 : Nat))] ∧ Wat σ.H K1 w A S
  refine ss_mid Nx1 ?_ ?_
  · with_reducible refine' s_assign (w_bin ?_)
    refine' w_local m2 ?_
    with_reducible refine' w_int (b_mod (by decide) ?_)
    refine' st_local (lof ‹_› ⟨rfl, rfl⟩) ?_
    with_reducible refine' md_next ?_
    exact ⟨⟨m1, m2, m3, m4, by rw [← q4]; rfl, trivial⟩, hw1⟩
  clear m1 m2 m3 m4 hw1
  rintro ⟨mm, H1⟩ ⟨hN25, hw1⟩
  refine nel5 hN25 fun m1 m2 m3 m4 m5 => ?_
  clear hN25
  let Nx2 : St → Prop := fun σ => Nms σ.m [("w", .ref w), ("n", .int nn), ("tag", .int t), ("plain", .ref (A.q 0)), ("k", .int (nn % 4 : Nat)), ("m", .int (nn / 4 % 3 : Nat))] ∧ Wat σ.H K1 w A S
  refine ss_mid Nx2 ?_ ?_
  · with_reducible refine' s_assign (w_bin (w_bin ?_))
    refine' w_local m2 ?_
    with_reducible refine' w_int (b_div (by decide) (w_int (b_mod (by decide) ?_)))
    refine' st_local (lof ‹_› ⟨rfl, rfl⟩) ?_
    with_reducible refine' md_next ?_
    exact ⟨⟨m1, m2, m3, m4, m5, by rw [← d43, ← d4]; rfl, trivial⟩, hw1⟩
  clear m1 m2 m3 m4 m5 hw1
  rintro ⟨mm, H1⟩ ⟨hN26, hw1⟩
  refine nel6 hN26 fun m1 m2 m3 m4 m5 m6 => ?_
  clear hN26
  let Nx3 : St → Prop := fun σ => Nms σ.m [("w", .ref w), ("n", .int nn), ("tag", .int t), ("plain", .ref (A.q 0)), ("k", .int (nn % 4 : Nat)), ("m", .int (nn / 4 % 3 : Nat)), ("y", .int (nn / 12 : Nat))] ∧ Wat σ.H K1 w A S
  refine ss_mid Nx3 ?_ ?_
  · with_reducible refine' s_assign (w_bin ?_)
    refine' w_local m2 ?_
    with_reducible refine' w_int (b_div (by decide) ?_)
    refine' st_local (lof ‹_› ⟨rfl, rfl⟩) ?_
    with_reducible refine' md_next ?_
    exact ⟨⟨m1, m2, m3, m4, m5, m6, by rw [← d12]; rfl, trivial⟩, hw1⟩
  clear m1 m2 m3 m4 m5 m6 hw1
  rintro ⟨mm, H1⟩ ⟨hN27, hw1⟩
  refine nel7 hN27 fun m1 m2 m3 m4 m5 m6 m7 => ?_
  clear hN27
  have hm3 : nn / 4 % 3 < 3 := Nat.mod_lt _ (by decide)
  generalize hM : nn / 4 % 3 = M at m6 hm3
  have b1 : (((M : Int) + 1).fmod 3) = (((M + 1) % 3 : Nat) : Int) := nmod (n := M + 1) (by decide)
  have b2 : (((M : Int) + 2).fmod 3) = (((M + 2) % 3 : Nat) : Int) := nmod (n := M + 2) (by decide)
  let Nx4 : St → Prop := fun σ => Nms σ.m [("w", .ref w), ("n", .int nn), ("tag", .int t), ("plain", .ref (A.q 0)), ("k", .int (nn % 4 : Nat)), ("m", .int M), ("y", .int (nn / 12 : Nat))] ∧ ∃ bl K2, σ.m "both" = some (.ref bl) ∧ K1.Le K2 ∧ K2 bl = some (.list ([(M + 1) % 3, (M + 2) % 3].map fun (j : Nat) => V.int (j : Int))) ∧ Wat σ.H K2 w A S
  refine ss_mid Nx4 ?_ ?_
  · with_reducible refine' s_assign (w_list (w_es_cons (w_bin (w_bin ?_))))
    refine' w_local m6 ?_
    with_reducible refine' w_int (b_add (w_int (b_mod (by decide) (w_es_cons (w_bin (w_bin ?_))))))
    refine' w_local m6 ?_
    with_reducible refine' w_int (b_add (w_int (b_mod (by decide) (w_es_nil ?_))))
    refine' ⟨(Nat.le_of_ble_eq_true rfl), ?_⟩
    with_reducible refine' fun _ _ => ?_
    refine' st_local (lof ‹_› ⟨rfl, rfl⟩) ?_
    with_reducible refine' md_next ?_
    rename_i bl hbl
    have z := Wat.new (o := .list [V.int (((M : Int) + 1).fmod 3), V.int (((M : Int) + 2).fmod 3)]) hbl hw1
    have eB : [V.int (((M : Int) + 1).fmod 3), V.int (((M : Int) + 2).fmod 3)] = [(M + 1) % 3, (M + 2) % 3].map fun (j : Nat) => V.int (j : Int) := by rw [b1, b2]; rfl
    exact ⟨(nmk7 m1 m2 m3 m4 m5 m6 m7), bl, K1.set bl (.list [V.int (((M : Int) + 1).fmod 3), V.int (((M : Int) + 2).fmod 3)]), rfl, Hp.Le.set _ (hw1.non hbl), by rw [eB]; exact hs_self, z⟩
  clear m1 m2 m3 m4 m5 m6 m7 hw1
  rintro ⟨mm, H1⟩ ⟨hN28, bl, K2, m8, lk2, kbl, hw1⟩
  refine nel7 hN28 fun m1 m2 m3 m4 m5 m6 m7 => ?_
  clear hN28
  have lk := lk0.trans lk2
  replace kk := lk2 _ _ kk
  clear lk0 lk2 b1 b2
  have kc := hw1.Kl _ _ kk
  let Nx5 : St → Prop := fun σ => Nms σ.m [("w", .ref w), ("n", .int nn), ("tag", .int t), ("plain", .ref (A.q 0)), ("k", .int (nn % 4 : Nat)), ("m", .int M), ("y", .int (nn / 12 : Nat)), ("both", .ref bl)] ∧ Wat σ.H K2 w A S ∧ ∃ ll, σ.m "leading" = some (.ref ll) ∧ σ.H ll = some (.list ((leadsL S).map fun (j : Nat) => V.int (j : Int)))
  refine ss_mid Nx5 ?_ ?_
  · refine s_comp (cl := [("leads", n)]) ?_ ?_ ?_
    · exact clos_of cc (by with_unfolding_all rfl)
    · with_reducible refine' w_call ?_
      refine' gl_range ‹_› (kof ‹_› rfl) ?_
      refine' cv_raw rfl ?_
      with_reducible refine' w_es_cons (w_int (w_es_nil (f_range1 (fun _ _ => ?_))))
      refine' it_rgN hg_self (by lia) ?_
      with_reducible refine' fun _ _ => ?_
      rename_i rg hrg it hit
      have hw2 := Wat.new0 (o := .rg 0 3) hrg hw1
      refine block_rgf (a := 0) (n := 3) (fun j => decide (0 < S.ld j)) hit (by decide) (relb cs (by with_unfolding_all rfl)) (by exact ⟨rfl, rfl⟩) ?_ ?_
      · intro c' cD' cs' cc' cr' i m' H1 l1 hi1 hi2
        have hD' : IsD c'.D := by rw [cD']; exact hD
        have cr2 := cr' _ cr
        have hw3 := hw2.le l1
        have hi3 : i < 3 := by (first | lia | omega)
        have kk1 := hw3.Kl _ _ kk
        with_reducible refine' t_cmp (w_sub ?_)
        refine' w_cell (clof ‹_› rfl) (hg_wat hw3 kk) (kof ‹_› rfl) ?_
        refine' w_local rfl ?_
        refine' i_list (Wat.h2 ‹_›) (by lia) (by lia) (tri_at ‹_›) ?_
        with_reducible refine' w_int (c_gt (tr_bool ?_))
        refine' ⟨rfl, ?_⟩
        exact ⟨Hp.Le.refl _, rfl⟩
      · intro acc H' l1 ha hl
        exact ⟨lof cs ⟨rfl, rfl⟩, (nmk8 m1 m2 m3 m4 m5 m6 m7 m8), hw2.le l1, acc, rfl, hl⟩
    · exact swap_of cs (by with_unfolding_all rfl)
  clear m1 m2 m3 m4 m5 m6 m7 m8 hw1 kc
  rintro ⟨mm, H1⟩ ⟨hN29, hw1, ll, m9, kll⟩
  refine nel8 hN29 fun m1 m2 m3 m4 m5 m6 m7 m8 => ?_
  clear hN29
  have kc := hw1.Kl _ _ kk
  have kb := hw1.Kl _ _ kbl
  have lll : ((leadsL S).map fun (j : Nat) => V.int (j : Int)).length = (leadsL S).length := List.length_map ..
  have ll3 : (leadsL S).length ≤ 3 := filt_len
  by_cases hA : nn % 4 = 0 ∨ (leadsL S).length = 0
  · have r3 : (((nn / 12 : Nat) : Int).fmod 3) = ((nn / 12 % 3 : Nat) : Int) := nmod (by decide)
    have hst : ∀ Hx hx (js : List Nat), helpL M (nn / 12) = js → (∀ j ∈ js, j < 3 ∧ j ≠ M) → js.length ≤ 3 → ∀ K3, K2.Le K3 → Wat Hx K3 w A S → K3 hx = some (.list (js.map fun (j : Nat) => V.int (j : Int))) → Fn c.D 6 758 [.ref w, .int M, .ref hx] Q Hx := by
      intro Hx hx js ej hjs hjl K3 lk3 hwx hkx
      refine fn_stand hD hwx hm3 hkx (fun j hj => (hjs j hj).1) hjl (fun i hi => ?_) hR.hy (fun i hi => ?_) ?_ (hR.hs M js hm3 hjs) ?_
      · have := hR.hz i hi; (first | lia | omega)
      · have := hR.hc i hi; (first | lia | omega)
      · have := hR.hzs; (first | lia | omega)
      · intro H' A' hw'
        refine h H' A' ((hw'.shrink (lk.trans lk3)).re ?_)
        rw [actS, if_pos hA, hM, ej]
    have hMod := Nat.mod_lt (nn / 12) (show 0 < 3 by decide)
    have kcase : ((nn % 4 : Nat) : Int) = 0 ∨ (((leadsL S).map fun (j : Nat) => V.int (j : Int)).length : Int) = 0 := by
      rcases hA with z | z
      · left; (first | lia | omega)
      · right; (first | lia | omega)
    generalize (leadsL S).map (fun (j : Nat) => V.int (j : Int)) = LL at kll lll kcase
    have lLL : LL.length ≤ 3 := by (first | lia | omega)
    by_cases r0 : nn / 12 % 3 = 0
    · have ej : helpL M (nn / 12) = [(M + 1) % 3, (M + 2) % 3] := by rw [helpL, if_pos r0]
      with_reducible refine' s_cons (s_if (t_bool (a_or (t_cmp ?_))))
      refine' w_local m5 ?_
      with_reducible refine' w_int (c_eq (tr_bool (br_eq ?_ ?_)))
      with_reducible refine' fun _ => br_t (s_cons (s_assign ?_))
      refine' w_local m8 ?_
      refine' st_local (lof ‹_› ⟨rfl, rfl⟩) ?_
      with_reducible refine' th_next (s_cons (s_if (t_cmp (w_bin ?_))))
      refine' w_local m7 ?_
      with_reducible refine' w_int (b_mod (by decide) (w_int (c_gt (tr_bool (br_d ?_ ?_)))))
      with_reducible refine' fun _ => ?_
      exact False.elim (by lia)
      with_reducible refine' fun _ => s_nil (th_next (s_one (s_ret (w_call ?_))))
      refine' gl__law_stand ‹_› (kof ‹_› rfl) ?_
      refine' cv_ref (kp_of ‹_› rfl) ?_
      with_reducible refine' w_es_cons ?_
      refine' w_local m1 ?_
      with_reducible refine' w_es_cons ?_
      refine' w_local m6 ?_
      with_reducible refine' w_es_cons ?_
      refine' w_local rfl ?_
      with_reducible refine' w_es_nil ?_
      rotate_left
      with_reducible refine' fun _ => a_or (t_cmp (w_call ?_))
      refine' gl_len ‹_› (kof ‹_› rfl) ?_
      refine' cv_raw rfl ?_
      with_reducible refine' w_es_cons ?_
      refine' w_local m9 ?_
      with_reducible refine' w_es_nil ?_
      refine' f_len kll (by lia) ?_
      with_reducible refine' w_int (c_eq (tr_bool (br_eq ?_ ?_)))
      with_reducible refine' fun _ => br_t (s_cons (s_assign ?_))
      refine' w_local m8 ?_
      refine' st_local (lof ‹_› ⟨rfl, rfl⟩) ?_
      with_reducible refine' th_next (s_cons (s_if (t_cmp (w_bin ?_))))
      refine' w_local m7 ?_
      with_reducible refine' w_int (b_mod (by decide) (w_int (c_gt (tr_bool (br_d ?_ ?_)))))
      with_reducible refine' fun _ => ?_
      exact False.elim (by lia)
      with_reducible refine' fun _ => s_nil (th_next (s_one (s_ret (w_call ?_))))
      refine' gl__law_stand ‹_› (kof ‹_› rfl) ?_
      refine' cv_ref (kp_of ‹_› rfl) ?_
      with_reducible refine' w_es_cons ?_
      refine' w_local m1 ?_
      with_reducible refine' w_es_cons ?_
      refine' w_local m6 ?_
      with_reducible refine' w_es_cons ?_
      refine' w_local rfl ?_
      with_reducible refine' w_es_nil ?_
      rotate_left
      with_reducible refine' fun _ => ?_
      exact False.elim (by lia)
      all_goals exact Fn.go (hst _ bl _ ej (by simp; (first | lia | omega)) (by simp) K2 (Hp.Le.refl _) hw1 kbl) (Room.le ‹_› (by decide))
    · by_cases r1 : nn / 12 % 3 = 1
      · have ej : helpL M (nn / 12) = [(M + 1) % 3] := by rw [helpL, if_neg r0, if_pos r1]
        have hx1 : ([(M + 1) % 3, (M + 2) % 3].map fun (j : Nat) => V.int (j : Int))[((((nn / 12 : Nat) : Int)).fmod 3 - 1).toNat]? = some (.int ((M + 1) % 3 : Nat)) := by rw [r3, r1]; rfl
        generalize [(M + 1) % 3, (M + 2) % 3].map (fun (j : Nat) => V.int (j : Int)) = BL at kb kbl hx1
        with_reducible refine' s_cons (s_if (t_bool (a_or (t_cmp ?_))))
        refine' w_local m5 ?_
        with_reducible refine' w_int (c_eq (tr_bool (br_eq ?_ ?_)))
        with_reducible refine' fun _ => br_t (s_cons (s_assign ?_))
        refine' w_local m8 ?_
        refine' st_local (lof ‹_› ⟨rfl, rfl⟩) ?_
        with_reducible refine' th_next (s_cons (s_if (t_cmp (w_bin ?_))))
        refine' w_local m7 ?_
        with_reducible refine' w_int (b_mod (by decide) (w_int (c_gt (tr_bool (br_d ?_ ?_)))))
        with_reducible refine' fun _ => s_one (s_assign (w_list (w_es_cons (w_sub ?_))))
        refine' w_local m8 ?_
        with_reducible refine' w_bin (w_bin ?_)
        refine' w_local m7 ?_
        with_reducible refine' w_int (b_mod (by decide) (w_int (b_sub ?_)))
        refine' i_list (hg_wat hw1 kbl) (by lia) (by lia) hx1 ?_
        with_reducible refine' w_es_nil ?_
        refine' ⟨(Nat.le_of_ble_eq_true rfl), ?_⟩
        with_reducible refine' fun _ _ => ?_
        refine' st_local (lof ‹_› ⟨rfl, rfl⟩) ?_
        with_reducible refine' th_next (s_one (s_ret (w_call ?_)))
        refine' gl__law_stand ‹_› (kof ‹_› rfl) ?_
        refine' cv_ref (kp_of ‹_› rfl) ?_
        with_reducible refine' w_es_cons ?_
        refine' w_local m1 ?_
        with_reducible refine' w_es_cons ?_
        refine' w_local m6 ?_
        with_reducible refine' w_es_cons ?_
        refine' w_local rfl ?_
        with_reducible refine' w_es_nil ?_
        rotate_left
        with_reducible refine' fun _ => ?_
        exact False.elim (by lia)
        with_reducible refine' fun _ => a_or (t_cmp (w_call ?_))
        refine' gl_len ‹_› (kof ‹_› rfl) ?_
        refine' cv_raw rfl ?_
        with_reducible refine' w_es_cons ?_
        refine' w_local m9 ?_
        with_reducible refine' w_es_nil ?_
        refine' f_len kll (by lia) ?_
        with_reducible refine' w_int (c_eq (tr_bool (br_eq ?_ ?_)))
        with_reducible refine' fun _ => br_t (s_cons (s_assign ?_))
        refine' w_local m8 ?_
        refine' st_local (lof ‹_› ⟨rfl, rfl⟩) ?_
        with_reducible refine' th_next (s_cons (s_if (t_cmp (w_bin ?_))))
        refine' w_local m7 ?_
        with_reducible refine' w_int (b_mod (by decide) (w_int (c_gt (tr_bool (br_d ?_ ?_)))))
        with_reducible refine' fun _ => s_one (s_assign (w_list (w_es_cons (w_sub ?_))))
        refine' w_local m8 ?_
        with_reducible refine' w_bin (w_bin ?_)
        refine' w_local m7 ?_
        with_reducible refine' w_int (b_mod (by decide) (w_int (b_sub ?_)))
        refine' i_list (hg_wat hw1 kbl) (by lia) (by lia) hx1 ?_
        with_reducible refine' w_es_nil ?_
        refine' ⟨(Nat.le_of_ble_eq_true rfl), ?_⟩
        with_reducible refine' fun _ _ => ?_
        refine' st_local (lof ‹_› ⟨rfl, rfl⟩) ?_
        with_reducible refine' th_next (s_one (s_ret (w_call ?_)))
        refine' gl__law_stand ‹_› (kof ‹_› rfl) ?_
        refine' cv_ref (kp_of ‹_› rfl) ?_
        with_reducible refine' w_es_cons ?_
        refine' w_local m1 ?_
        with_reducible refine' w_es_cons ?_
        refine' w_local m6 ?_
        with_reducible refine' w_es_cons ?_
        refine' w_local rfl ?_
        with_reducible refine' w_es_nil ?_
        rotate_left
        with_reducible refine' fun _ => ?_
        exact False.elim (by lia)
        with_reducible refine' fun _ => ?_
        exact False.elim (by lia)
        all_goals rename_i hx hhx
        all_goals exact Fn.go (hst _ hx _ ej (by simp; (first | lia | omega)) (by simp) _ (Hp.Le.set _ (hw1.non hhx)) (Wat.new hhx hw1) hs_self) (Room.le ‹_› (by decide))
      · have r2 : nn / 12 % 3 = 2 := by (first | lia | omega)
        have ej : helpL M (nn / 12) = [(M + 2) % 3] := by rw [helpL, if_neg r0, if_neg r1]
        have hx1 : ([(M + 1) % 3, (M + 2) % 3].map fun (j : Nat) => V.int (j : Int))[((((nn / 12 : Nat) : Int)).fmod 3 - 1).toNat]? = some (.int ((M + 2) % 3 : Nat)) := by rw [r3, r2]; rfl
        generalize [(M + 1) % 3, (M + 2) % 3].map (fun (j : Nat) => V.int (j : Int)) = BL at kb kbl hx1
        with_reducible refine' s_cons (s_if (t_bool (a_or (t_cmp ?_))))
        refine' w_local m5 ?_
        with_reducible refine' w_int (c_eq (tr_bool (br_eq ?_ ?_)))
        with_reducible refine' fun _ => br_t (s_cons (s_assign ?_))
        refine' w_local m8 ?_
        refine' st_local (lof ‹_› ⟨rfl, rfl⟩) ?_
        with_reducible refine' th_next (s_cons (s_if (t_cmp (w_bin ?_))))
        refine' w_local m7 ?_
        with_reducible refine' w_int (b_mod (by decide) (w_int (c_gt (tr_bool (br_d ?_ ?_)))))
        with_reducible refine' fun _ => s_one (s_assign (w_list (w_es_cons (w_sub ?_))))
        refine' w_local m8 ?_
        with_reducible refine' w_bin (w_bin ?_)
        refine' w_local m7 ?_
        with_reducible refine' w_int (b_mod (by decide) (w_int (b_sub ?_)))
        refine' i_list (hg_wat hw1 kbl) (by lia) (by lia) hx1 ?_
        with_reducible refine' w_es_nil ?_
        refine' ⟨(Nat.le_of_ble_eq_true rfl), ?_⟩
        with_reducible refine' fun _ _ => ?_
        refine' st_local (lof ‹_› ⟨rfl, rfl⟩) ?_
        with_reducible refine' th_next (s_one (s_ret (w_call ?_)))
        refine' gl__law_stand ‹_› (kof ‹_› rfl) ?_
        refine' cv_ref (kp_of ‹_› rfl) ?_
        with_reducible refine' w_es_cons ?_
        refine' w_local m1 ?_
        with_reducible refine' w_es_cons ?_
        refine' w_local m6 ?_
        with_reducible refine' w_es_cons ?_
        refine' w_local rfl ?_
        with_reducible refine' w_es_nil ?_
        rotate_left
        with_reducible refine' fun _ => ?_
        exact False.elim (by lia)
        with_reducible refine' fun _ => a_or (t_cmp (w_call ?_))
        refine' gl_len ‹_› (kof ‹_› rfl) ?_
        refine' cv_raw rfl ?_
        with_reducible refine' w_es_cons ?_
        refine' w_local m9 ?_
        with_reducible refine' w_es_nil ?_
        refine' f_len kll (by lia) ?_
        with_reducible refine' w_int (c_eq (tr_bool (br_eq ?_ ?_)))
        with_reducible refine' fun _ => br_t (s_cons (s_assign ?_))
        refine' w_local m8 ?_
        refine' st_local (lof ‹_› ⟨rfl, rfl⟩) ?_
        with_reducible refine' th_next (s_cons (s_if (t_cmp (w_bin ?_))))
        refine' w_local m7 ?_
        with_reducible refine' w_int (b_mod (by decide) (w_int (c_gt (tr_bool (br_d ?_ ?_)))))
        with_reducible refine' fun _ => s_one (s_assign (w_list (w_es_cons (w_sub ?_))))
        refine' w_local m8 ?_
        with_reducible refine' w_bin (w_bin ?_)
        refine' w_local m7 ?_
        with_reducible refine' w_int (b_mod (by decide) (w_int (b_sub ?_)))
        refine' i_list (hg_wat hw1 kbl) (by lia) (by lia) hx1 ?_
        with_reducible refine' w_es_nil ?_
        refine' ⟨(Nat.le_of_ble_eq_true rfl), ?_⟩
        with_reducible refine' fun _ _ => ?_
        refine' st_local (lof ‹_› ⟨rfl, rfl⟩) ?_
        with_reducible refine' th_next (s_one (s_ret (w_call ?_)))
        refine' gl__law_stand ‹_› (kof ‹_› rfl) ?_
        refine' cv_ref (kp_of ‹_› rfl) ?_
        with_reducible refine' w_es_cons ?_
        refine' w_local m1 ?_
        with_reducible refine' w_es_cons ?_
        refine' w_local m6 ?_
        with_reducible refine' w_es_cons ?_
        refine' w_local rfl ?_
        with_reducible refine' w_es_nil ?_
        rotate_left
        with_reducible refine' fun _ => ?_
        exact False.elim (by lia)
        with_reducible refine' fun _ => ?_
        exact False.elim (by lia)
        all_goals rename_i hx hhx
        all_goals exact Fn.go (hst _ hx _ ej (by simp; (first | lia | omega)) (by simp) _ (Hp.Le.set _ (hw1.non hhx)) (Wat.new hhx hw1) hs_self) (Room.le ‹_› (by decide))
  · have hk0 : nn % 4 ≠ 0 := fun z => hA (.inl z)
    have hL0 : (leadsL S).length ≠ 0 := fun z => hA (.inr z)
    have qy : (((nn / 12 : Nat) : Int).fmod ((leadsL S).length : Int)) = ((nn / 12 % (leadsL S).length : Nat) : Int) := nmod (by (first | lia | omega))
    have hlt : nn / 12 % (leadsL S).length < (leadsL S).length := Nat.mod_lt _ (by (first | lia | omega))
    have hlx : ((leadsL S).map fun (j : Nat) => V.int (j : Int))[(((nn / 12 : Nat) : Int).fmod (((leadsL S).map fun (j : Nat) => V.int (j : Int)).length : Int)).toNat]? = some (.int ((leadsL S).getD (nn / 12 % (leadsL S).length) 0 : Nat)) := by
      rw [lll, qy, List.getElem?_map, Int.toNat_natCast, List.getD_eq_getElem?_getD, List.getElem?_eq_getElem hlt]; rfl
    have hbd : 0 ≤ (((nn / 12 : Nat) : Int).fmod (((leadsL S).map fun (j : Nat) => V.int (j : Int)).length : Int)) ∧ (((nn / 12 : Nat) : Int).fmod (((leadsL S).map fun (j : Nat) => V.int (j : Int)).length : Int)) ≤ 3 := by
      rw [lll, qy]; (first | lia | omega)
    have hAm : actM S nn < 3 ∧ 0 < S.ld (actM S nn) := by
      rw [actM, hM]
      by_cases z : S.ld M = 0
      · rw [if_pos z]
        have mem : (leadsL S).getD (nn / 12 % (leadsL S).length) 0 ∈ leadsL S := by
          rw [List.getD_eq_getElem?_getD, List.getElem?_eq_getElem hlt]; exact List.getElem_mem hlt
        have fm := filt_mem mem
        exact ⟨by (first | lia | omega), by simpa using fm.1⟩
      · rw [if_neg z]
        have := hR.hld M hm3
        exact ⟨hm3, by (first | lia | omega)⟩
    have eAm : actM S nn = if S.ld M = 0 then (leadsL S).getD (nn / 12 % (leadsL S).length) 0 else M := by rw [actM, hM]
    generalize (leadsL S).map (fun (j : Nat) => V.int (j : Int)) = LL at kll lll hlx hbd
    have lLL : LL.length ≤ 3 := by (first | lia | omega)
    have lLL0 : LL.length ≠ 0 := by (first | lia | omega)
    let Nx6 : St → Prop := fun σ => Nms σ.m [("w", .ref w), ("n", .int nn), ("tag", .int t), ("plain", .ref (A.q 0)), ("k", .int (nn % 4 : Nat)), ("m", .int M), ("y", .int (nn / 12 : Nat)), ("leading", .ref ll)] ∧ σ.H = H1
    refine ss_mid Nx6 ?_ ?_
    · with_reducible refine' s_if (t_bool (a_or (t_cmp ?_)))
      refine' w_local m5 ?_
      with_reducible refine' w_int (c_eq (tr_bool (br_eq ?_ ?_)))
      with_reducible refine' fun _ => ?_
      exact False.elim (by lia)
      with_reducible refine' fun _ => a_or (t_cmp (w_call ?_))
      refine' gl_len ‹_› (kof ‹_› rfl) ?_
      refine' cv_raw rfl ?_
      with_reducible refine' w_es_cons ?_
      refine' w_local m9 ?_
      with_reducible refine' w_es_nil ?_
      refine' f_len kll (by lia) ?_
      with_reducible refine' w_int (c_eq (tr_bool (br_eq ?_ ?_)))
      with_reducible refine' fun _ => ?_
      exact False.elim (by lia)
      with_reducible refine' fun _ => a_or_nil (br_f (s_nil (md_next ?_)))
      exact ⟨(nmk8 m1 m2 m3 m4 m5 m6 m7 m9), rfl⟩
    clear m1 m2 m3 m4 m5 m6 m7 m8 m9
    rintro ⟨mm, H2⟩ ⟨hN30, eH⟩
    refine nel8 hN30 fun m1 m2 m3 m4 m5 m6 m7 m9 => ?_
    clear hN30
    have eH : H2 = H1 := eH
    subst eH
    refine ss_mid (fun σ => Nms σ.m [("w", .ref w), ("tag", .int t), ("plain", .ref (A.q 0)), ("k", .int (nn % 4 : Nat)), ("m", .int (actM S nn)), ("y", .int (nn / 12 : Nat))] ∧ Wat σ.H K2 w A S) ?_ ?_
    · by_cases z : S.ld M = 0
      · rw [if_pos z] at eAm
        rw [eAm]
        with_reducible refine' s_if (t_cmp (w_sub ?_))
        refine' w_cell (clof ‹_› rfl) (hg_wat hw1 kk) (kof ‹_› rfl) ?_
        refine' w_local m6 ?_
        refine' i_list (Wat.h2 ‹_›) (by lia) (by lia) (tri_at ‹_›) ?_
        with_reducible refine' w_int (c_eq (tr_bool (br_eq ?_ ?_)))
        with_reducible refine' fun _ => s_one (s_assign (w_sub ?_))
        refine' w_local m9 ?_
        with_reducible refine' w_bin ?_
        refine' w_local m7 ?_
        with_reducible refine' w_call ?_
        refine' gl_len ‹_› (kof ‹_› rfl) ?_
        refine' cv_raw rfl ?_
        with_reducible refine' w_es_cons ?_
        refine' w_local m9 ?_
        with_reducible refine' w_es_nil ?_
        refine' f_len kll (by lia) ?_
        refine' b_mod (by lia) ?_
        refine' i_list kll (by lia) (by lia) hlx ?_
        refine' st_local (lof ‹_› ⟨rfl, rfl⟩) ?_
        with_reducible refine' md_next ?_
        rotate_left
        with_reducible refine' fun _ => ?_
        exact False.elim (by lia)
        exact ⟨(nmk6 m1 m3 m4 m5 rfl m7), hw1⟩
      · rw [if_neg z] at eAm
        rw [eAm]
        with_reducible refine' s_if (t_cmp (w_sub ?_))
        refine' w_cell (clof ‹_› rfl) (hg_wat hw1 kk) (kof ‹_› rfl) ?_
        refine' w_local m6 ?_
        refine' i_list (Wat.h2 ‹_›) (by lia) (by lia) (tri_at ‹_›) ?_
        with_reducible refine' w_int (c_eq (tr_bool (br_eq ?_ ?_)))
        with_reducible refine' fun _ => ?_
        exact False.elim (by lia)
        with_reducible refine' fun _ => s_nil (md_next ?_)
        exact ⟨(nmk6 m1 m3 m4 m5 m6 m7), hw1⟩
    clear m1 m2 m3 m4 m5 m6 m7 m9 hw1 kc kb kll hbd hlx
    rintro ⟨mm, H2⟩ ⟨hN31, hw1⟩
    refine nel6 hN31 fun m1 m2 m3 m4 m5 m6 => ?_
    clear hN31
    generalize hAM : actM S nn = M' at m5 hAm
    have zm := hR.hz M' hAm.1
    by_cases k1 : nn % 4 = 1
    · with_reducible refine' s_cons (s_if (t_cmp ?_))
      refine' w_local m4 ?_
      with_reducible refine' w_int (c_eq (tr_bool (br_eq ?_ ?_)))
      with_reducible refine' fun _ => s_one (s_ret (w_call ?_))
      refine' gl__law_put ‹_› (kof ‹_› rfl) ?_
      refine' cv_ref (kp_of ‹_› rfl) ?_
      with_reducible refine' w_es_cons ?_
      refine' w_local m1 ?_
      with_reducible refine' w_es_cons ?_
      refine' w_local m5 ?_
      with_reducible refine' w_es_cons ?_
      refine' w_local m2 ?_
      with_reducible refine' w_es_nil ?_
      rotate_left
      with_reducible refine' fun _ => ?_
      exact False.elim (by lia)
      refine Fn.go (fn_put hD hw1 hAm.1 ht ?_ ?_ ?_ ?_) (Room.le ‹_› (by decide))
      · (first | lia | omega)
      · rw [hR.hy _ hAm.1]
      · have := hR.hc _ hAm.1; (first | lia | omega)
      · intro H' hw'
        refine h H' A ((hw'.shrink lk).re ?_)
        rw [actS, if_neg hA, if_pos k1, hAM]
    · have q3 : ((M' : Int) + ((nn % 4 : Nat) : Int) - 1).fmod 3 = (((M' + nn % 4 - 1) % 3 : Nat) : Int) := by
        rw [show (M' : Int) + ((nn % 4 : Nat) : Int) - 1 = ((M' + nn % 4 - 1 : Nat) : Int) by (first | lia | omega)]; exact nmod (by decide)
      have y4 : (((nn / 12 : Nat) : Int).fmod 4) = ((nn / 12 % 4 : Nat) : Int) := nmod (by decide)
      have y43 : ((((nn / 12 : Nat) : Int).fdiv 4).fmod 3) = ((nn / 12 / 4 % 3 : Nat) : Int) := by rw [show ((nn / 12 : Nat) : Int).fdiv 4 = ((nn / 12 / 4 : Nat) : Int) from ndiv]; exact nmod (by decide)
      obtain ⟨hM1, hM2⟩ := hAm
      have hx4 : max 0 (((S.pl M').length : Int) - (((nn / 12 : Nat) : Int).fmod 4)) = (((S.pl M').length - nn / 12 % 4 : Nat) : Int) := by rw [y4]; (first | lia | omega)
      have hx5 : (1 : Int) + (((nn / 12 : Nat) : Int).fdiv 4).fmod 3 = ((1 + nn / 12 / 4 % 3 : Nat) : Int) := by rw [y43]; (first | lia | omega)
      have hj3 : (M' + nn % 4 - 1) % 3 < 3 := Nat.mod_lt _ (by decide)
      have hmj : M' ≠ (M' + nn % 4 - 1) % 3 := by (first | lia | omega)
      with_reducible refine' s_cons (s_if (t_cmp ?_))
      refine' w_local m4 ?_
      with_reducible refine' w_int (c_eq (tr_bool (br_eq ?_ ?_)))
      with_reducible refine' fun _ => ?_
      exact False.elim (by lia)
      with_reducible refine' fun _ => s_nil (th_next (s_cons (s_assign (w_call ?_))))
      refine' gl_max ‹_› (kof ‹_› rfl) ?_
      refine' cv_raw rfl ?_
      with_reducible refine' w_es_cons (w_int (w_es_cons (w_bin (w_call ?_))))
      refine' gl_len ‹_› (kof ‹_› rfl) ?_
      refine' cv_raw rfl ?_
      with_reducible refine' w_es_cons (w_sub ?_)
      refine' w_local m3 ?_
      refine' w_local m5 ?_
      refine' i_list (Wat.h0 ‹_›) (by lia) (by lia) (tri_at ‹_›) ?_
      with_reducible refine' w_es_nil ?_
      refine' wl_6 hw1 hM1 (by lia) ?_
      with_reducible refine' w_bin ?_
      refine' w_local m6 ?_
      with_reducible refine' w_int (b_mod (by decide) (b_sub (w_es_nil (f_max2 ?_))))
      refine' st_local (lof ‹_› ⟨rfl, rfl⟩) ?_
      with_reducible refine' th_next (s_one (s_ret (w_call ?_)))
      refine' gl__law_tell ‹_› (kof ‹_› rfl) ?_
      refine' cv_ref (kp_of ‹_› rfl) ?_
      with_reducible refine' w_es_cons ?_
      refine' w_local m1 ?_
      with_reducible refine' w_es_cons ?_
      refine' w_local m5 ?_
      with_reducible refine' w_es_cons (w_bin (w_bin (w_bin ?_)))
      refine' w_local m5 ?_
      refine' w_local m4 ?_
      with_reducible refine' b_add (w_int (b_sub (w_int (b_mod (by decide) (w_es_cons ?_)))))
      refine' w_local rfl ?_
      with_reducible refine' w_es_cons (w_bin (w_int (w_bin (w_bin ?_))))
      refine' w_local m6 ?_
      with_reducible refine' w_int (b_div (by decide) (w_int (b_mod (by decide) (b_add (w_es_nil ?_)))))
      rw [q3, hx4, hx5]
      refine Fn.go (fn_tell hD hw1 hM1 hj3 hmj hM2 (by (first | lia | omega)) (by (first | lia | omega)) (fun i hi => ?_) hR.hy (fun i hi => ⟨(hR.hc i hi).1, (hR.hc i hi).2.1⟩) (hR.hak _ hM1 hM2) (fun q => hR.hfc _ _ _ _ hM1 hj3 hmj hM2 q (by (first | lia | omega))) ?_) (Room.le ‹_› (by decide))
      · have := hR.hz i hi; (first | lia | omega)
      · intro H' A' hw'
        refine h H' A' ((hw'.shrink lk).re ?_)
        rw [actS, if_neg hA, if_neg k1, hAM]
end

end Rk
namespace Rk

section
variable {D : Wd} {d : Nat} {o o' : MO} {c : Cx} {E : Value → Shared → Prop} {σ : St} {H H' K K' : Hp} {w a b n x xl hl ml ol r u st cf : Addr} {A : WA} {S : Sta} {m j p q : Nat} {t i k com : Int} {Q : V → Hp → Prop} {Qs : V → St → Prop} {vs us : List V} {es fs : List Ent} {X : Addr → Prop} {v0 v1 v2 v3 v4 : V} {by0 : Array UInt8}
theorem fn_HardState (hD : IsD D) (ha : H a = some (.inst 245 [])) (h : Q .none (H.set a (.inst 245 (HardStateFs v0 v1 v2)))) : Fn D 1 214 [.ref a, v0, v1, v2] Q H := by
  refine fn_def (hK := by rw [hD.k]; k_is) (hcd := by rw [hD.k]; k_is) (ns := ["self", "term", "vote", "commit"]) ?_ ?_ ?_ rfl rfl rfl ?_
  · exact fun _ _ _ _ => rfl
  · decide
  · decide
  intro c cD cn cs cc cr
  subst cD
  with_reducible refine' s_cons (s_assignA ?_)
  refine' w_local rfl ?_
  refine' w_local rfl ?_
  with_reducible refine' pi_HardState_term ‹_› ha (th_next (s_cons (s_assignA ?_)))
  refine' w_local rfl ?_
  refine' w_local rfl ?_
  with_reducible refine' pi_HardState_vote ‹_› hg_self (th_next (s_one (s_assignA ?_)))
  refine' w_local rfl ?_
  refine' w_local rfl ?_
  with_reducible refine' pi_HardState_commit ‹_› hg_self ?_
  simp only [set_set]
  exact h
theorem fn_Snapshot (hD : IsD D) (ha : H a = some (.inst 322 [])) (h : Q .none (H.set a (.inst 322 (SnapshotFs v0 v1 v2 v3)))) : Fn D 1 298 [.ref a, v0, v1, v2, v3] Q H := by
  refine fn_def (hK := by rw [hD.k]; k_is) (hcd := by rw [hD.k]; k_is) (ns := ["self", "index", "term", "conf", "data"]) ?_ ?_ ?_ rfl rfl rfl ?_
  · exact fun _ _ _ _ _ => rfl
  · decide
  · decide
  intro c cD cn cs cc cr
  subst cD
  with_reducible refine' s_cons (s_assignA ?_)
  refine' w_local rfl ?_
  refine' w_local rfl ?_
  with_reducible refine' pi_Snapshot_index ‹_› ha (th_next (s_cons (s_assignA ?_)))
  refine' w_local rfl ?_
  refine' w_local rfl ?_
  with_reducible refine' pi_Snapshot_term ‹_› hg_self (th_next (s_cons (s_assignA ?_)))
  refine' w_local rfl ?_
  refine' w_local rfl ?_
  with_reducible refine' pi_Snapshot_conf ‹_› hg_self (th_next (s_one (s_assignA ?_)))
  refine' w_local rfl ?_
  refine' w_local rfl ?_
  with_reducible refine' pi_Snapshot_data ‹_› hg_self ?_
  simp only [set_set]
  exact h
theorem ne_ob (h : H a = some o) (k : H b = some o') (n : o ≠ o') : a ≠ b := fun q => n (by rw [q, k] at h; cases h; rfl)
/-- one object is changed -/
noncomputable def Ch1 (H H' : Hp) (a : Addr) : Prop := ∀ b o, H b = some o → b ≠ a → H' b = some o
theorem Ch1.new {o : MO} (hn : H n = none) (k : Ch1 (H.set n o) H' n) : H.Le H' := fun b x e => k b x (hs_new hn e) fun q => by rw [q, hn] at e; cases e
theorem Ch1.le (l : H.Le H') : Ch1 H H' a := fun b o e _ => l _ _ e
theorem Ch1.set {o : MO} (k : Ch1 H H' a) : Ch1 H (H'.set a o) a := fun b x e n => hs_ne n (k b x e n)
theorem Ch1.add {o : MO} (k : Ch1 H H' a) (hn : H' n = none) : Ch1 H (H'.set n o) a := fun b x e m => hs_new hn (k b x e m)
theorem Ch1.refl : Ch1 H H a := fun _ _ e _ => e
theorem Ch1.trans {H'' : Hp} (k : Ch1 H H' a) (l : H'.Le H'') : Ch1 H H'' a := fun b x e m => l _ _ (k b x e m)
theorem Ch1.non (k : Ch1 H H' a) (e : H a = some o) (e' : H' a = some o') (hn : H' n = none) : H n = none := by
  cases q : H n with
  | none => rfl
  | some x =>
    by_cases z : n = a
    · rw [z, e'] at hn; cases hn
    · rw [k n x q z] at hn; cases hn
theorem fn_Unstable (hD : IsD D) (ha : H a = some (.inst 511 [])) (h : ∀ H' el, Ch1 H H' a → H el = none → H' a = some (.inst 511 (UnstableFs .none (.ref el) (.int i))) → H' el = some (.list []) → Q .none H') : Fn D 1 445 [.ref a, .int i] Q H := by
  refine fn_def (hK := by rw [hD.k]; k_is) (hcd := by rw [hD.k]; k_is) (ns := ["self", "offset"]) ?_ ?_ ?_ rfl rfl rfl ?_
  · exact fun _ _ => rfl
  · decide
  · decide
  intro c cD cn cs cc cr
  subst cD
  with_reducible refine' s_cons (s_assignA (w_none ?_))
  refine' w_local rfl ?_
  with_reducible refine' pi_Unstable_snapshot ‹_› ha (th_next (s_cons (s_assignA (w_list (w_es_nil ?_)))))
  refine' ⟨(Nat.le_of_ble_eq_true rfl), ?_⟩
  with_reducible refine' fun _ _ => ?_
  refine' w_local rfl ?_
  with_reducible refine' pi_Unstable_entries ‹_› (hg_new (by with_reducible assumption) hg_self) (th_next (s_one (s_assignA ?_)))
  refine' w_local rfl ?_
  refine' w_local rfl ?_
  with_reducible refine' pi_Unstable_offset ‹_› hg_self ?_
  rename_i n hn
  have hn2 : (H.set a (.inst 511 [("snapshot", .none)])) n = none := hn
  have na : n ≠ a := fun q => by rw [q, Hp.set_self] at hn2; cases hn2
  exact h _ n ((Ch1.refl.set).add hn2 |>.set |>.set) (none_set hn2) hs_self (hs_ne na (hs_ne na hs_self))
theorem fn_rising (hD : IsD D) (hx : H xl = some (.list [])) (h : Hold (∀ H' n, H.Le H' → H n = none → H' n = some (.list []) → Q (.ref n) H')) : Fn D 2 144 [.ref xl] Q H := by
  refine fn_def (hK := by rw [hD.k]; k_is) (hcd := by rw [hD.k]; k_is) (ns := ["ids"]) ?_ ?_ ?_ rfl rfl rfl ?_
  · exact fun _ => rfl
  · decide
  · decide
  intro c cD cn cs cc cr
  subst cD
  with_reducible refine' s_cons (s_assign (w_list (w_es_nil ?_)))
  refine' ⟨(Nat.le_of_ble_eq_true rfl), ?_⟩
  with_reducible refine' fun _ _ => ?_
  refine' st_local (lof ‹_› ⟨rfl, rfl⟩) ?_
  with_reducible refine' th_next (s_cons (s_for (w_call ?_)))
  refine' gl_sorted ‹_› (kof ‹_› rfl) ?_
  refine' cv_raw rfl ?_
  with_reducible refine' w_es_cons ?_
  refine' w_local rfl ?_
  with_reducible refine' w_es_nil ?_
  rename_i n1 hn1
  have hn1' : H n1 = none := hn1
  have hx1 : (H.set n1 (.list [])) xl = some (.list []) := hs_new hn1' hx
  refine f_sorted (ns := []) hx1 (by decide) fun n2 ns' hn2 pm _ => ?_
  have : ns' = [] := pm.eq_nil
  subst this
  have hn2' : (H.set n1 (.list [])) n2 = none := hn2
  show c.Itr _ _ _ (St.set _ n2 (.list []))
  with_reducible refine' it_list hg_self (fun _ _ => itx ?_)
  rename_i it hit
  have hit' : ((H.set n1 (.list [])).set n2 (.list [])) it = none := hit
  have lt : ((H.set n1 (.list [])).set n2 (.list [])).Le (((H.set n1 (.list [])).set n2 (.list [])).set it (.li n2 0)) := Hp.Le.set _ hit'
  have n1a : ((H.set n1 (.list [])).set n2 (.list [])) n1 = some (.list []) := hs_new hn2' hs_self
  let Ix1 : Nat → St → Prop := fun j σ => σ.m "out" = some (.ref n1) ∧ σ.H = ((H.set n1 (.list [])).set n2 (.list [])).set it (.li n2 j)
  refine loop_list (l := n2) (vs := []) Ix1 ?_ ?_ ?_ (by with_unfolding_all rfl) (Nat.zero_le _) ⟨rfl, rfl⟩
  · rintro j ⟨mm, H3⟩ ⟨_, e⟩
    have e : H3 = _ := e
    subst e
    exact ⟨hs_self, hs_new hit' hs_self⟩
  · intro j v σ lt; cases lt
  · rintro ⟨mm, H3⟩ ⟨m1, e⟩
    have e : H3 = _ := e
    subst e
    have m1 : mm "out" = some (.ref n1) := m1
    have hd : (((H.set n1 (.list [])).set n2 (.list [])).set it (.li n2 ([] : List V).length)).del it = (H.set n1 (.list [])).set n2 (.list []) := del_set hit'
    with_reducible refine' th_next (s_one (s_ret ?_))
    refine' w_local m1 ?_
    have z := h _ n1 ((Hp.Le.set _ hn1').trans (Hp.Le.set _ hn2')) hn1' n1a
    rw [← hd] at z
    exact z
theorem fn_ConfState (hD : IsD D) (ha : H a = some (.inst 280 [])) (h1 : H hl = some (.list [])) (h2 : H ml = some (.list [])) (h3 : H ol = some (.list [])) (h4 : H xl = some (.list []))
    (h : Hold (∀ H' x0 x1 x2 x3, Ch1 H H' a → H' a = some (.inst 280 (ConfStateFs (.ref x0) (.ref x1) (.ref x2) (.ref x3) v4)) → H' x0 = some (.list []) → Q .none H')) : Fn D 3 263 [.ref a, .ref hl, .ref ml, .ref ol, .ref xl, v4] Q H := by
  refine fn_def (hK := by rw [hD.k]; k_is) (hcd := by rw [hD.k]; k_is) (ns := ["self", "voters", "learners", "outgoing", "learners_next", "auto_leave"]) ?_ ?_ ?_ rfl rfl rfl ?_
  · exact fun _ _ _ _ _ _ => rfl
  · decide
  · decide
  intro c cD cn cs cc cr
  subst cD
  have ne : ∀ {x : Addr} {H₂ : Hp} {fs : List (Str × V)}, H₂ a = some (.inst 280 fs) → H₂ x = some (.list []) → x ≠ a := fun e1 e2 q => by rw [q, e1] at e2; cases e2
  with_reducible refine' s_cons (s_assignA (w_call ?_))
  refine' gl_rising ‹_› (kof ‹_› rfl) ?_
  refine' cv_ref (kp_of ‹_› rfl) ?_
  with_reducible refine' w_es_cons ?_
  refine' w_local rfl ?_
  with_reducible refine' w_es_nil ?_
  refine' Fn.go (fn_rising ‹_› h1 ?_) (Room.le ‹_› (by decide))
  intro H1 x0 l1 n0 e0
  have ha1 := l1 _ _ ha
  have h21 := l1 _ _ h2
  have h31 := l1 _ _ h3
  have h41 := l1 _ _ h4
  have h22 := hs_ne (o := .inst 280 [("voters", .ref x0)]) (ne ha1 h21) h21
  refine' w_local rfl ?_
  with_reducible refine' pi_ConfState_voters ‹_› ha1 (th_next (s_cons (s_assignA (w_call ?_))))
  refine' gl_rising ‹_› (kof ‹_› rfl) ?_
  refine' cv_ref (kp_of ‹_› rfl) ?_
  with_reducible refine' w_es_cons ?_
  refine' w_local rfl ?_
  with_reducible refine' w_es_nil ?_
  refine' Fn.go (fn_rising ‹_› h22 ?_) (Room.le ‹_› (by decide))
  intro H2 x1 l2 n1 e1
  have ha2 := l2 _ _ (hs_self (H := H1) (a := a) (o := .inst 280 [("voters", .ref x0)]))
  have e02 := l2 _ _ (hs_ne (ne ha1 e0) e0)
  have h32 := l2 _ _ (hs_ne (ne ha1 h31) h31)
  have h42 := l2 _ _ (hs_ne (ne ha1 h41) h41)
  have k2 : Ch1 H H2 a := ((Ch1.le l1).set).trans l2
  have h33 := hs_ne (o := .inst 280 [("voters", .ref x0), ("learners", .ref x1)]) (ne ha2 h32) h32
  refine' w_local rfl ?_
  with_reducible refine' pi_ConfState_learners ‹_› ha2 (th_next (s_cons (s_assignA (w_call ?_))))
  refine' gl_rising ‹_› (kof ‹_› rfl) ?_
  refine' cv_ref (kp_of ‹_› rfl) ?_
  with_reducible refine' w_es_cons ?_
  refine' w_local rfl ?_
  with_reducible refine' w_es_nil ?_
  refine' Fn.go (fn_rising ‹_› h33 ?_) (Room.le ‹_› (by decide))
  intro H3 x2 l3 n2 e2
  have ha3 := l3 _ _ (hs_self (H := H2) (a := a) (o := .inst 280 [("voters", .ref x0), ("learners", .ref x1)]))
  have e03 := l3 _ _ (hs_ne (ne ha2 e02) e02)
  have h43 := l3 _ _ (hs_ne (ne ha2 h42) h42)
  have k3 : Ch1 H H3 a := (k2.set).trans l3
  have h44 := hs_ne (o := .inst 280 [("voters", .ref x0), ("learners", .ref x1), ("outgoing", .ref x2)]) (ne ha3 h43) h43
  refine' w_local rfl ?_
  with_reducible refine' pi_ConfState_outgoing ‹_› ha3 (th_next (s_cons (s_assignA (w_call ?_))))
  refine' gl_rising ‹_› (kof ‹_› rfl) ?_
  refine' cv_ref (kp_of ‹_› rfl) ?_
  with_reducible refine' w_es_cons ?_
  refine' w_local rfl ?_
  with_reducible refine' w_es_nil ?_
  refine' Fn.go (fn_rising ‹_› h44 ?_) (Room.le ‹_› (by decide))
  intro H4 x3 l4 n3 e3
  have ha4 := l4 _ _ (hs_self (H := H3) (a := a) (o := .inst 280 [("voters", .ref x0), ("learners", .ref x1), ("outgoing", .ref x2)]))
  have e04 := l4 _ _ (hs_ne (ne ha3 e03) e03)
  have k4 : Ch1 H H4 a := (k3.set).trans l4
  refine' w_local rfl ?_
  with_reducible refine' pi_ConfState_learners_next ‹_› ha4 (th_next (s_one (s_assignA ?_)))
  refine' w_local rfl ?_
  refine' w_local rfl ?_
  with_reducible refine' pi_ConfState_auto_leave ‹_› hg_self ?_
  have hx0 : x0 ≠ a := ne ha4 e04
  exact h _ x0 x1 x2 x3 (k4.set.set) hs_self (hs_ne hx0 (hs_ne hx0 e04))
theorem nwc_ConfState {mm : Str → Option V} (hD : IsD c.D) (r : c.Room 4) (h1 : H hl = some (.list [])) (h2 : H ml = some (.list [])) (h3 : H ol = some (.list [])) (h4 : H xl = some (.list []))
    (h : Hold (∀ H' n x0 x1 x2 x3, H.Le H' → H n = none → H' n = some (.inst 280 (ConfStateFs (.ref x0) (.ref x1) (.ref x2) (.ref x3) v4)) → H' x0 = some (.list []) → Qs (.ref n) ⟨mm, H'⟩)) : c.Call E (.ref 280) [.ref hl, .ref ml, .ref ol, .ref xl, v4] Qs ⟨mm, H⟩ :=
  nw_ConfState hD (d := 3) r fun n hn => fn_ConfState hD hs_self (hs_new hn h1) (hs_new hn h2) (hs_new hn h3) (hs_new hn h4) fun H' x0 x1 x2 x3 k e0 e1 => ⟨rfl, h H' n x0 x1 x2 x3 (k.new hn) hn e0 e1⟩
theorem nwc_HardState {mm : Str → Option V} (hD : IsD c.D) (r : c.Room 2) (h : Hold (∀ H' n, H.Le H' → H n = none → Qs (.ref n) ⟨mm, H'⟩)) : c.Call E (.ref 245) [v0, v1, v2] Qs ⟨mm, H⟩ :=
  nw_HardState hD (d := 1) r fun n hn => fn_HardState hD hs_self ⟨rfl, h _ n (Ch1.new (o := .inst 245 []) hn Ch1.refl.set) hn⟩
theorem nwc_Snapshot {mm : Str → Option V} (hD : IsD c.D) (r : c.Room 2) (h : Hold (∀ H' n, H.Le H' → H n = none → Qs (.ref n) ⟨mm, H'⟩)) : c.Call E (.ref 322) [v0, v1, v2, v3] Qs ⟨mm, H⟩ :=
  nw_Snapshot hD (d := 1) r fun n hn => fn_Snapshot hD hs_self ⟨rfl, h _ n (Ch1.new (o := .inst 322 []) hn Ch1.refl.set) hn⟩
theorem nwc_Unstable {mm : Str → Option V} (hD : IsD c.D) (r : c.Room 2) (h : Hold (∀ H' n el, H.Le H' → H n = none → H el = none → H' n = some (.inst 511 (UnstableFs .none (.ref el) (.int i))) → H' el = some (.list []) → Qs (.ref n) ⟨mm, H'⟩)) : c.Call E (.ref 511) [.int i] Qs ⟨mm, H⟩ :=
  nw_Unstable hD (d := 1) r fun n hn => fn_Unstable hD hs_self fun H' el k hel e1 e2 => ⟨rfl, h H' n el (k.new hn) hn (none_set hel) e1 e2⟩
theorem fn_MemoryStorage (hD : IsD D) (ha : H a = some (.inst 427 [])) {x0 x1 x2 x3 : Addr} (hcf : H cf = some (.inst 280 (ConfStateFs (.ref x0) (.ref x1) (.ref x2) (.ref x3) v4))) {LZ : List V} (h0 : H x0 = some (.list LZ)) (lz : LZ.length = 0)
    (h : Hold (∀ H' hd sn el, Ch1 H H' a → H el = none → H' a = some (.inst 427 (MemoryStorageFs hd (.ref cf) sn (.int 0) (.int 0) (.ref el))) → H' el = some (.list []) → Q .none H')) : Fn D 3 340 [.ref a, .ref cf] Q H := by
  refine fn_def (hK := by rw [hD.k]; k_is) (hcd := by rw [hD.k]; k_is) (ns := ["self", "conf"]) ?_ ?_ ?_ rfl rfl rfl ?_
  · exact fun _ _ => rfl
  · decide
  · decide
  intro c cD cn cs cc cr
  subst cD
  let Nx2 : St → Prop := fun σ => Nms σ.m [("self", .ref a), ("conf", .ref cf), ("begin", .int 0)] ∧ σ.H = H
  refine ss_mid Nx2 ?_ ?_
  · with_reducible refine' s_assign (w_int ?_)
    refine' st_local (lof ‹_› ⟨rfl, rfl⟩) ?_
    with_reducible refine' md_next ?_
    exact ⟨(nmk3 rfl rfl rfl), rfl⟩
  rintro ⟨mm, H1⟩ ⟨hN32, e⟩
  refine nel3 hN32 fun m1 m2 m3 => ?_
  clear hN32
  have e : H1 = H := e
  subst e
  let Nx3 : St → Prop := fun σ => Nms σ.m [("self", .ref a), ("conf", .ref cf), ("begin", .int 0)] ∧ σ.H = H1
  refine ss_mid Nx3 ?_ ?_
  · with_reducible refine' s_if (t_cmp (w_call ?_))
    refine' gl_len ‹_› (kof ‹_› rfl) ?_
    refine' cv_raw rfl ?_
    with_reducible refine' w_es_cons (att ?_)
    refine' w_local m2 ?_
    refine' gfG ‹_› hcf rfl rfl rfl ?_
    with_reducible refine' w_es_nil ?_
    refine' f_len h0 (by lia) ?_
    with_reducible refine' w_int (c_gt (tr_bool (br_d ?_ ?_)))
    with_reducible refine' fun _ => ?_
    exact False.elim (by lia)
    with_reducible refine' fun _ => s_nil (md_next ?_)
    exact ⟨(nmk3 m1 m2 m3), rfl⟩
  clear m1 m2 m3
  rintro ⟨mm, H2⟩ ⟨hN33, e⟩
  refine nel3 hN33 fun m1 m2 m3 => ?_
  clear hN33
  have e : H2 = H1 := e
  subst e
  let Nx4 : St → Prop := fun σ => Nms σ.m [("self", .ref a), ("conf", .ref cf), ("begin", .int 0)] ∧ Ch1 H2 σ.H a ∧ ∃ hd, σ.H a = some (.inst 427 [("hard", hd)])
  refine ss_mid Nx4 ?_ ?_
  · with_reducible refine' s_assignA (w_call ?_)
    refine' gl_HardState ‹_› (kof ‹_› rfl) ?_
    refine' cv_ref (kp_of ‹_› rfl) ?_
    with_reducible refine' w_es_cons ?_
    refine' w_local m3 ?_
    with_reducible refine' w_es_cons (w_int (w_es_cons ?_))
    refine' w_local m3 ?_
    with_reducible refine' w_es_nil ?_
    refine' nwc_HardState ‹_› (Room.le ‹_› (by decide)) ?_
    intro H3 n1 l1 _
    have ha1 := l1 _ _ ha
    refine' w_local m1 ?_
    with_reducible refine' pi_MemoryStorage_hard ‹_› ha1 (md_next ?_)
    exact ⟨(nmk3 m1 m2 m3), (Ch1.le l1).set, _, hs_self⟩
  clear m1 m2 m3
  rintro ⟨mm, H3⟩ ⟨hN34, k1, hd, ha1⟩
  refine nel3 hN34 fun m1 m2 m3 => ?_
  clear hN34
  let Nx5 : St → Prop := fun σ => Nms σ.m [("self", .ref a), ("conf", .ref cf), ("begin", .int 0)] ∧ Ch1 H2 σ.H a ∧ σ.H a = some (.inst 427 [("hard", hd), ("conf", .ref cf)])
  refine ss_mid Nx5 ?_ ?_
  · with_reducible refine' s_assignA ?_
    refine' w_local m2 ?_
    refine' w_local m1 ?_
    with_reducible refine' pi_MemoryStorage_conf ‹_› ha1 (md_next ?_)
    exact ⟨(nmk3 m1 m2 m3), k1.set, hs_self⟩
  clear m1 m2 m3 ha1 k1
  rintro ⟨mm, H3⟩ ⟨hN35, k1, ha1⟩
  refine nel3 hN35 fun m1 m2 m3 => ?_
  clear hN35
  let Nx6 : St → Prop := fun σ => Nms σ.m [("self", .ref a), ("conf", .ref cf), ("begin", .int 0)] ∧ Ch1 H2 σ.H a ∧ ∃ sn, σ.H a = some (.inst 427 [("hard", hd), ("conf", .ref cf), ("snap", sn)])
  refine ss_mid Nx6 ?_ ?_
  · with_reducible refine' s_assignA (w_call ?_)
    refine' gl_Snapshot ‹_› (kof ‹_› rfl) ?_
    refine' cv_ref (kp_of ‹_› rfl) ?_
    with_reducible refine' w_es_cons ?_
    refine' w_local m3 ?_
    with_reducible refine' w_es_cons ?_
    refine' w_local m3 ?_
    with_reducible refine' w_es_cons ?_
    refine' w_local m2 ?_
    with_reducible refine' w_es_cons (w_bytes (w_es_nil ?_))
    refine' nwc_Snapshot ‹_› (Room.le ‹_› (by decide)) ?_
    intro H4 n1 l1 _
    have ha2 := l1 _ _ ha1
    refine' w_local m1 ?_
    with_reducible refine' pi_MemoryStorage_snap ‹_› ha2 (md_next ?_)
    exact ⟨(nmk3 m1 m2 m3), (k1.trans l1).set, _, hs_self⟩
  clear m1 m2 m3 ha1 k1
  rintro ⟨mm, H3⟩ ⟨hN36, k1, sn, ha1⟩
  refine nel3 hN36 fun m1 m2 m3 => ?_
  clear hN36
  let Nx7 : St → Prop := fun σ => Nms σ.m [("self", .ref a), ("conf", .ref cf), ("begin", .int 0)] ∧ Ch1 H2 σ.H a ∧ σ.H a = some (.inst 427 [("hard", hd), ("conf", .ref cf), ("snap", sn), ("base_index", .int 0)])
  refine ss_mid Nx7 ?_ ?_
  · with_reducible refine' s_assignA ?_
    refine' w_local m3 ?_
    refine' w_local m1 ?_
    with_reducible refine' pi_MemoryStorage_base_index ‹_› ha1 (md_next ?_)
    exact ⟨(nmk3 m1 m2 m3), k1.set, hs_self⟩
  clear m1 m2 m3 ha1 k1
  rintro ⟨mm, H3⟩ ⟨hN37, k1, ha1⟩
  refine nel3 hN37 fun m1 m2 m3 => ?_
  clear hN37
  let Nx8 : St → Prop := fun σ => Nms σ.m [("self", .ref a), ("conf", .ref cf), ("begin", .int 0)] ∧ Ch1 H2 σ.H a ∧ σ.H a = some (.inst 427 [("hard", hd), ("conf", .ref cf), ("snap", sn), ("base_index", .int 0), ("base_term", .int 0)])
  refine ss_mid Nx8 ?_ ?_
  · with_reducible refine' s_assignA ?_
    refine' w_local m3 ?_
    refine' w_local m1 ?_
    with_reducible refine' pi_MemoryStorage_base_term ‹_› ha1 (md_next ?_)
    exact ⟨(nmk3 m1 m2 m3), k1.set, hs_self⟩
  clear m1 m2 m3
  rintro ⟨mm, H4⟩ ⟨hN38, k2, ha2⟩
  refine nel3 hN38 fun m1 m2 m3 => ?_
  clear hN38
  with_reducible refine' s_one (s_assignA (w_list (w_es_nil ?_)))
  refine' ⟨(Nat.le_of_ble_eq_true rfl), ?_⟩
  with_reducible refine' fun _ _ => ?_
  refine' w_local m1 ?_
  with_reducible refine' pi_MemoryStorage_entries ‹_› (hg_new (by with_reducible assumption) ha2) ?_
  rename_i el hel
  have hel' : H4 el = none := hel
  have nea : el ≠ a := ne_of hel' ha2
  exact h _ hd sn el ((k2.add hel').set) (k2.non ha ha2 hel') hs_self (hs_ne nea hs_self)
theorem nwc_MemoryStorage {mm : Str → Option V} (hD : IsD c.D) (r : c.Room 4) {x0 x1 x2 x3 : Addr} (hcf : H cf = some (.inst 280 (ConfStateFs (.ref x0) (.ref x1) (.ref x2) (.ref x3) v4))) {LZ : List V} (h0 : H x0 = some (.list LZ)) (lz : LZ.length = 0)
    (h : Hold (∀ H' n hd sn el, H.Le H' → H n = none → H el = none → H' n = some (.inst 427 (MemoryStorageFs hd (.ref cf) sn (.int 0) (.int 0) (.ref el))) → H' el = some (.list []) → Qs (.ref n) ⟨mm, H'⟩)) : c.Call E (.ref 427) [.ref cf] Qs ⟨mm, H⟩ :=
  nw_MemoryStorage hD (d := 3) r fun n hn => fn_MemoryStorage hD hs_self (hs_new hn hcf) (hs_new hn h0) lz fun H' hd sn el k hel e1 e2 => ⟨rfl, h H' n hd sn el (k.new hn) hn (none_set hel) e1 e2⟩
theorem fn_RaftLog (hD : IsD D) (ha : H a = some (.inst 721 [])) {hd cf' sn : V} {sl : Addr} (hs1 : H st = some (.inst 427 (MemoryStorageFs hd cf' sn (.int 0) (.int 0) (.ref sl)))) (hs2 : H sl = some (.list []))
    (h : Hold (∀ H' u el, Ch1 H H' a → H u = none → H el = none → H' a = some (.inst 721 (RaftLogFs (.ref st) (.int i) (.ref u) (.int 0) (.int 0))) → H' u = some (.inst 511 (UnstableFs .none (.ref el) (.int 1))) → H' el = some (.list []) → Q .none H')) : Fn D 3 529 [.ref a, .ref st, .int i] Q H := by
  have hS : Sto H (fun _ => False) st := ⟨hd, cf', sn, sl, hs1, hs2, fun z => z⟩
  refine fn_def (hK := by rw [hD.k]; k_is) (hcd := by rw [hD.k]; k_is) (ns := ["self", "storage", "max_committed"]) ?_ ?_ ?_ rfl rfl rfl ?_
  · exact fun _ _ _ => rfl
  · decide
  · decide
  intro c cD cn cs cc cr
  subst cD
  let Nx9 : St → Prop := fun σ => Nms σ.m [("self", .ref a), ("storage", .ref st), ("max_committed", .int i)] ∧ Ch1 H σ.H a ∧ σ.H a = some (.inst 721 [("storage", .ref st)])
  refine ss_mid Nx9 ?_ ?_
  · with_reducible refine' s_assignA ?_
    refine' w_local rfl ?_
    refine' w_local rfl ?_
    with_reducible refine' pi_RaftLog_storage ‹_› ha (md_next ?_)
    exact ⟨(nmk3 rfl rfl rfl), Ch1.refl.set, hs_self⟩
  have nst : st ≠ a := fun q => by rw [q, ha] at hs1; cases hs1
  have nsl : sl ≠ a := fun q => by rw [q, ha] at hs2; cases hs2
  rintro ⟨mm, H1⟩ ⟨hN39, k1, ha1⟩
  refine nel3 hN39 fun m1 m2 m3 => ?_
  clear hN39
  let Nx10 : St → Prop := fun σ => Nms σ.m [("self", .ref a), ("storage", .ref st), ("max_committed", .int i)] ∧ Ch1 H σ.H a ∧ σ.H a = some (.inst 721 [("storage", .ref st), ("max_committed", .int i)])
  refine ss_mid Nx10 ?_ ?_
  · with_reducible refine' s_assignA ?_
    refine' w_local m3 ?_
    refine' w_local m1 ?_
    with_reducible refine' pi_RaftLog_max_committed ‹_› ha1 (md_next ?_)
    exact ⟨(nmk3 m1 m2 m3), k1.set, hs_self⟩
  clear m1 m2 m3 ha1 k1
  rintro ⟨mm, H1⟩ ⟨hN40, k1, ha1⟩
  refine nel3 hN40 fun m1 m2 m3 => ?_
  clear hN40
  have hs11 := k1 _ _ hs1 nst
  have hS1 : Sto H1 (fun _ => False) st := ⟨hd, cf', sn, sl, hs11, k1 _ _ hs2 nsl, fun z => z⟩
  let Nx11 : St → Prop := fun σ => Nms σ.m [("self", .ref a), ("storage", .ref st), ("max_committed", .int i), ("first", .int 1)] ∧ σ.H = H1
  refine ss_mid Nx11 ?_ ?_
  · with_reducible refine' s_assign (w_meth ?_)
    refine' w_local m2 ?_
    with_reducible refine' me_MemoryStorage_first_index ‹_› hs11 ?_
    refine' cm_one (kp_of ‹_› rfl) ?_
    with_reducible refine' w_es_nil ?_
    refine' Fn.go (fn_st_first ‹_› hS1 ?_) (Room.le ‹_› (by decide))
    refine' st_local (lof ‹_› ⟨rfl, rfl⟩) ?_
    with_reducible refine' md_next ?_
    exact ⟨(nmk4 m1 m2 m3 rfl), rfl⟩
  clear m1 m2 m3
  rintro ⟨mm, H2⟩ ⟨hN41, e⟩
  refine nel4 hN41 fun m1 m2 m3 m4 => ?_
  clear hN41
  have e : H2 = H1 := e
  subst e
  let Nx12 : St → Prop := fun σ => Nms σ.m [("self", .ref a), ("first", .int 1)] ∧ ∃ u el, Ch1 H σ.H a ∧ H u = none ∧ H el = none ∧ σ.H a = some (.inst 721 [("storage", .ref st), ("max_committed", .int i), ("unstable", .ref u)]) ∧ σ.H u = some (.inst 511 (UnstableFs .none (.ref el) (.int 1))) ∧ σ.H el = some (.list [])
  refine ss_mid Nx12 ?_ ?_
  · with_reducible refine' s_assignA (w_call ?_)
    refine' gl_Unstable ‹_› (kof ‹_› rfl) ?_
    refine' cv_ref (kp_of ‹_› rfl) ?_
    with_reducible refine' w_es_cons (w_bin (w_meth ?_))
    refine' w_local m2 ?_
    with_reducible refine' me_MemoryStorage_last_index ‹_› hs11 ?_
    refine' cm_one (kp_of ‹_› rfl) ?_
    with_reducible refine' w_es_nil ?_
    refine' Fn.go (fn_st_last ‹_› hS1 ?_) (Room.le ‹_› (by decide))
    with_reducible refine' w_int (b_add (w_es_nil ?_))
    refine' nwc_Unstable ‹_› (Room.le ‹_› (by decide)) ?_
    intro H3 u el l1 hu hel e1 e2
    have ha2 := l1 _ _ ha1
    refine' w_local m1 ?_
    with_reducible refine' pi_RaftLog_unstable ‹_› ha2 (md_next ?_)
    have nu : u ≠ a := ne_ob e1 ha2 fun q => by cases q
    have nel : el ≠ a := ne_ob e2 ha2 fun q => by cases q
    exact ⟨(nmk2 m1 m4), u, el, (k1.trans l1).set, k1.non ha ha1 hu, k1.non ha ha1 hel, hs_self, hs_ne nu e1, hs_ne nel e2⟩
  clear m1 m2 m3 m4 ha1 k1
  rintro ⟨mm, H3⟩ ⟨hN42, u, el, k2, hu, hel, ha2, e1, e2⟩
  refine nel2 hN42 fun m1 m2 => ?_
  clear hN42
  have nu : u ≠ a := ne_ob e1 ha2 fun q => by cases q
  have nel : el ≠ a := ne_ob e2 ha2 fun q => by cases q
  with_reducible refine' s_cons (s_assignA (w_bin ?_))
  refine' w_local m2 ?_
  with_reducible refine' w_int (b_sub ?_)
  refine' w_local m1 ?_
  with_reducible refine' pi_RaftLog_committed ‹_› ha2 (th_next (s_one (s_assignA (w_bin ?_))))
  refine' w_local m2 ?_
  with_reducible refine' w_int (b_sub ?_)
  refine' w_local m1 ?_
  with_reducible refine' pi_RaftLog_applied ‹_› hg_self ?_
  exact h _ u el (k2.set.set) hu hel hs_self (hs_ne nu (hs_ne nu e1)) (hs_ne nel (hs_ne nel e2))
theorem nwc_RaftLog {mm : Str → Option V} (hD : IsD c.D) (r : c.Room 4) {hd cf' sn : V} {sl : Addr} (hs1 : H st = some (.inst 427 (MemoryStorageFs hd cf' sn (.int 0) (.int 0) (.ref sl)))) (hs2 : H sl = some (.list []))
    (h : Hold (∀ H' n u el, H.Le H' → H n = none → H u = none → H el = none → H' n = some (.inst 721 (RaftLogFs (.ref st) (.int i) (.ref u) (.int 0) (.int 0))) → H' u = some (.inst 511 (UnstableFs .none (.ref el) (.int 1))) → H' el = some (.list []) → Qs (.ref n) ⟨mm, H'⟩)) : c.Call E (.ref 721) [.ref st, .int i] Qs ⟨mm, H⟩ :=
  nw_RaftLog hD (d := 3) r fun n hn => fn_RaftLog hD hs_self (hs_new hn hs1) (hs_new hn hs2) fun H' u el k hu hel e1 e2 e3 => ⟨rfl, h H' n u el (k.new hn) hn (none_set hu) (none_set hel) e1 e2 e3⟩
end

end Rk
namespace Rk

/-- what the law's own def runs, whatever its text is -/
structure Runs (D : Wd) (f : Addr) (P : List Stmt → Scope → Str → Prop) : Prop where
  run : ∀ {oc : Value} {od : Option Addr} {osl : Array (Option Value)} {name qual : Str} {params : Arguments} {body : List Stmt} {scope : Scope} {dV kV doc pm cdv ct : Value} {an : Option Addr},
  D.K.lookup f = some ⟨oc, od, .func (fnX name qual params body scope [] dV kV doc pm an cdv ct), osl⟩ → P body scope qual
theorem runs_of {D : Wd} {f : Addr} {P : List Stmt → Scope → Str → Prop} {oc : Value} {od : Option Addr} {osl : Array (Option Value)} {name qual : Str} {params : Arguments} {body : List Stmt} {scope : Scope} {dV kV doc pm cdv ct : Value} {an : Option Addr}
    (hK : D.K.lookup f = some ⟨oc, od, .func (fnX name qual params body scope [] dV kV doc pm an cdv ct), osl⟩) (h : P body scope qual) : Runs D f P := by
  constructor
  intro oc' od' osl' name' qual' params' body' scope' dV' kV' doc' pm' cdv' ct' an' hK'
  rw [hK] at hK'
  simp only [fnX, Option.some.injEq, Obj.mk.injEq, Data.func.injEq, FuncData.mk.injEq] at hK'
  obtain ⟨_, _, hh, _⟩ := hK'
  obtain ⟨_, q1, _, q3, q4, _⟩ := hh
  subst q1 q4
  injection q3 with q3
  subst q3
  exact h
structure SafeOk (S : Sta) : Prop where
  hz : ∀ i, i < 3 → (S.lo i).length ≤ 40
  hy : ∀ i, i < 3 → S.lo i = S.pl i ∧ S.lc i = S.co i ∧ 0 ≤ S.lc i
  hzs : ∀ i, i ≤ 3 → (sureS S i).length ≤ 40
  hs : ∀ i, i < 3 → (partS S i).take (sureS S i).length = (sureS S i).take (partS S i).length
structure TellOk (S : Sta) (m j p q : Nat) : Prop where
  hT : 0 < S.ld m
  hp : p ≤ (S.pl m).length
  hq : q ≤ 50
  hz : ∀ i, i < 3 → (S.pl i).length ≤ 40
  hy : ∀ i, i < 3 → S.lo i = S.pl i
  hc : ∀ i, i < 3 → S.lc i = S.co i ∧ 0 ≤ S.co i
  hak : ∀ i, i < 3 → 0 ≤ S.ak m i ∧ S.ak m i ≤ (S.pl m).length
  hfc : S.tm j ≤ S.ld m → fc (S.pl j) (backN (S.pl m) (S.pl j) p + 1) (segN S m j p q) = 0 ∨ S.co j < fc (S.pl j) (backN (S.pl m) (S.pl j) p + 1) (segN S m j p q)
structure StandOk (S : Sta) (m : Nat) (js : List Nat) : Prop where
  hz : ∀ i, i < 3 → (S.pl i).length ≤ 40
  hy : ∀ i, i < 3 → S.lo i = S.pl i
  hc : ∀ i, i < 3 → S.lc i ≤ (S.pl i).length
  hzs : S.su.length ≤ 40
  hs : 2 ≤ 1 + votes S m js → (S.pl m).take S.su.length = S.su
noncomputable def sured (S : Sta) : Sta := { S with su := sureS S 3 }
noncomputable def AlikeOk (S : Sta) : Prop := ∀ i j k, i < 3 → j < 3 → k < (S.lo i).length → k < (S.lo j).length → termAt (S.lo i) k = termAt (S.lo j) k → (S.lo i).take (k + 1) = (S.lo j).take (k + 1)
structure FinOk (S : Sta) (m : Nat) (S1 S2 S3 S4 : Sta) (z : Nat) : Prop where
  e1 : S1 = standS S m [(m + 1) % 3, (m + 2) % 3]
  e2 : S2 = tellS S1 m ((m + 1) % 3) z z
  e3 : S3 = tellS (sured S2) m ((m + 2) % 3) z z
  e4 : S4 = tellS S3 m ((m + 1) % 3) z z
  ez : z = (S1.pl m).length
  st : StandOk S m [(m + 1) % 3, (m + 2) % 3]
  win : S1.ld m = mxT S1
  z40 : z ≤ 40
  t1 : TellOk S1 m ((m + 1) % 3) z z
  s2 : SafeOk S2
  t2 : TellOk (sured S2) m ((m + 2) % 3) z z
  t3 : TellOk S3 m ((m + 1) % 3) z z
  s4 : SafeOk S4
  en : ∀ i, i < 3 → S4.pl i = S4.pl m ∧ S4.co i = z
noncomputable def sta0 : Sta := ⟨fun _ => [], fun _ => [], fun _ => 0, fun _ => 0, fun _ => 0, fun _ => 0, fun _ _ => 0, []⟩
structure Plan (G : Nat → Sta → Prop) : Prop where
  g0 : G 0 sta0
  ready : ∀ i S, i < 8 → G i S → Ready S
  safe : ∀ i S n, i < 8 → G i S → SafeOk (actS S n (100 + (i : Int)))
  step : ∀ i S n, i < 8 → G i S → G (i + 1) (sured (actS S n (100 + (i : Int))))
  hz : ∀ i S, G i S → ∀ j, j < 3 → (S.lo j).length ≤ 40 ∧ S.lo j = S.pl j
  alike : ∀ S, G 8 S → AlikeOk S
  fin : ∀ S m, G 8 S → m < 3 → (∀ i, i < 3 → okB S m i = true) → ∃ S1 S2 S3 S4 z, FinOk S m S1 S2 S3 S4 z
section
variable {D : Wd} {d : Nat} {c : Cx} {E : Value → Shared → Prop} {σ : St} {H H' K K' : Hp} {w a b n x xl hl ml ol sl : Addr} {A : WA} {S : Sta} {m j p q : Nat} {t i k : Int} {Q : V → Hp → Prop} {Qs : V → St → Prop} {vs us : List V} {es fs : List Ent} {ns : List Int}
/-- the script is read -/
noncomputable def Script (c : Cx) (sl : Addr) (ns : List Int) : Prop := ∀ σ s, Rel c σ s → ∃ ws : List Value, s.heap.IsList sl ws.toArray ∧ IntsAre ws ns
theorem w_script {y : Str} {yp ip sp pos : Pos} {kd : Nat} (hs : Script c sl ns) (hz : ns.length ≤ 100) (e : σ.m y = some (.ref sl)) (h : ∀ n, σ.H n = none → Qs (.ref n) (σ.set n (.list ((ns.take 8).map V.int)))) :
    c.Ev E (.Subscript (.Name y yp) (.Slice none (some (.Constant (.int 8) kd ip)) none sp) pos) Qs σ := fun s R => by
  refine Subscript_ (wpAny_mono (w_local (c := c) (E := E) (v := .ref sl) (Q := fun v σ₁ => v = .ref sl ∧ σ₁ = σ) e ⟨rfl, rfl⟩ s R) (fun o s₁ ⟨v, _, hv, R₁, q1, q2⟩ => ?_) fun _ _ e => e)
  rw [q2] at R₁
  subst q1
  cases hv
  refine wpAny_Slice (wpAny_mono (p_none (c := c) (E := E) (Q := fun v σ₁ => v = .none ∧ σ₁ = σ) ⟨rfl, rfl⟩ s₁ R₁) (fun l s₂ ⟨_, _, hl, R₂, q1, q2⟩ => wpAny_mono (w_int (c := c) (E := E) (k := kd) (pos := ip) (Q := fun v σ₁ => v = .int 8 ∧ σ₁ = σ) ⟨rfl, rfl⟩ s₂ (by rw [q2] at R₂; exact R₂)) (fun u s₃ ⟨_, _, hu, R₃, q3, q4⟩ => ?_) fun _ _ e => e) fun _ _ e => e)
  rw [q4] at R₃
  rw [q1] at hl
  rw [q3] at hu
  cases hl
  obtain ⟨tk, rfl⟩ := hu
  refine wpAny_pure ?_
  obtain ⟨ws, hg, hi⟩ := hs _ _ R₃
  have lw := hi.length
  have hsl := Heap.IsSliceOf.new s₃.heap .none (.int 8 tk) .none
  have hL := hg.push ({ cls := .type "slice", data := .fields #[.none, .int 8 tk, .none] } : Obj)
  refine tail_any (Heap.IsList.typeIs (s := { s₃ with heap := s₃.heap.push { cls := .type "slice", data := .fields #[.none, .int 8 tk, .none] } }) hL) slot_list_getitem.lookup (ops := [.ref s₃.heap.objs.size, .ref sl]) ?_ rfl
  refine wpAny_getItem_list_slice hL hsl .none (.int 8 tk) .none (by simp) ?_ (by have := sizeLine_eq; simp; (first | lia | omega))
  have n0 : s₃.heap.objs.size ≤ (s₃.heap.push ({ cls := .type "slice", data := .fields #[.none, .int 8 tk, .none] } : Obj)).objs.size := by rw [Heap.size_push]; exact Nat.le_succ _
  refine ⟨.ref _, _, rfl, R₃.new (tk := s₃.toks) n0 (fun b z e => Heap.get?_push_of_some _ (Heap.get?_push_of_some _ e)) (fun d => mkl (Heap.get?_push_size _ rfl) (by rw [pick_is ws.toArray none (some 8) (fun _ e => by cases e) (fun _ e => by cases e; decide)]; exact slc_rel (VsRel.ofInts hi) none (some 8))) rfl, ?_⟩
  have z := h _ (R₃.non n0)
  rw [List.map_take] at z
  exact z
end

end Rk
namespace Rk

section
variable {D : Wd} {d : Nat} {c : Cx} {E : Value → Shared → Prop} {σ : St} {H H' K K' : Hp} {w a b n x xl hl ml ol sl it acc : Addr} {A : WA} {S : Sta} {m j p q : Nat} {t i k com : Int} {Q : V → Hp → Prop} {Qs : V → St → Prop} {vs us : List V} {es fs : List Ent} {ns : List Int} {X X' : Addr → Prop} {r u st : Addr} {o o' : MO}
theorem LogAt.setX (h : LogAt H X r u st es com) (e : H a = some o) (hx : X a) (ho : ∀ C fs, o ≠ .inst C fs) : LogAt (H.set a o') X r u st es com := by
  obtain ⟨el, vs, mc, h1, h2, ⟨hd, cf, sn, sl, h3, h4, h5⟩, h6⟩ := h.ex
  have ne : ∀ {b : Addr} {C : Addr} {fs : List (Str × V)}, H b = some (.inst C fs) → b ≠ a := fun q z => by rw [z, e] at q; cases q; exact ho _ _ rfl
  refine ⟨⟨el, vs, mc, hs_ne (ne h1) h1, ⟨hs_ne (ne h2.u) h2.u, hs_ne (fun z => h6 (z ▸ hx)) h2.l, h2.e.le fun a fs e => hs_ne (ne e) e, h2.z⟩, ⟨hd, cf, sn, sl, hs_ne (ne h3) h3, hs_ne (fun z => h5 (z ▸ hx)) h4, h5⟩, h6⟩, fun b q => ?_⟩
  by_cases z : b = a
  · subst z; exact ⟨_, hs_self⟩
  · obtain ⟨o, e⟩ := h.fx b q; exact ⟨o, hs_ne z e⟩
theorem LogAt.delX (h : LogAt H X r u st es com) (e : H a = some o) (hx : X a) (ho : ∀ C fs, o ≠ .inst C fs) : LogAt (H.del a) (fun b => X b ∧ b ≠ a) r u st es com := by
  obtain ⟨el, vs, mc, h1, h2, ⟨hd, cf, sn, sl, h3, h4, h5⟩, h6⟩ := h.ex
  have ne : ∀ {b : Addr} {C : Addr} {fs : List (Str × V)}, H b = some (.inst C fs) → b ≠ a := fun q z => by rw [z, e] at q; cases q; exact ho _ _ rfl
  exact ⟨⟨el, vs, mc, hs_del (ne h1) h1, ⟨hs_del (ne h2.u) h2.u, hs_del (fun z => h6 (z ▸ hx)) h2.l, h2.e.le fun a fs e => hs_del (ne e) e, h2.z⟩, ⟨hd, cf, sn, sl, hs_del (ne h3) h3, hs_del (fun z => h5 (z ▸ hx)) h4, fun z => h5 z.1⟩, fun z => h6 z.1⟩, fun b q => let ⟨o, e⟩ := h.fx b q.1; ⟨o, hs_del q.2 e⟩⟩
theorem LogAt.mono (h : LogAt H X r u st es com) (k : ∀ a, X' a → X a) : LogAt H X' r u st es com := by
  obtain ⟨el, vs, mc, h1, h2, ⟨hd, cf, sn, sl, h3, h4, h5⟩, h6⟩ := h.ex
  exact ⟨⟨el, vs, mc, h1, h2, ⟨hd, cf, sn, sl, h3, h4, fun z => h5 (k _ z)⟩, fun z => h6 (k _ z)⟩, fun a q => h.fx a (k a q)⟩
theorem LogAt.newW (h : LogAt H X r u st es com) (l : ∀ b x, H b = some x → x.isWalk = false → H' b = some x) (hx : ∀ a, X' a → H a = none) (fx : ∀ a, X' a → ∃ o, H' a = some o) : LogAt H' X' r u st es com := by
  obtain ⟨el, vs, mc, h1, h2, ⟨hd, cf, sn, sl, h3, h4, h5⟩, h6⟩ := h.ex
  exact ⟨⟨el, vs, mc, l _ _ h1 rfl, ⟨l _ _ h2.u rfl, l _ _ h2.l rfl, h2.e.le fun a fs e => l _ _ e rfl, h2.z⟩, ⟨hd, cf, sn, sl, l _ _ h3 rfl, l _ _ h4 rfl, fun z => by rw [hx _ z] at h4; cases h4⟩, fun z => by have := h2.l; rw [hx _ z] at this; cases this⟩, fx⟩
noncomputable def posQ (i : Nat) : Nat := [8, 7, 6, 2, 1, 0, 11, 10, 9, 5, 4, 3].getD i 0
theorem posQ_inj : ∀ i, i < 12 → ∀ j, j < 12 → posQ i = posQ j → i = j := by decide
theorem posQ_lt : ∀ i, i < 12 → posQ i < 12 := by decide
theorem wat_start {H1 H2 H3 : Hp} {lg n nl w p0 p1 p2 pl q1 q2 q3 q4 q5 a0 a1 a2 : Addr} {rr uu ss : Nat → Addr} {NL : List V} (klg : H1 lg = some (.list (tri fun i => .ref (rr i)))) (knl : H1 nl = some (.list NL)) (kn1 : H1 n = some (.cell none))
    (hlo : ∀ i, i < 3 → LogAt H1 (fun _ => False) (rr i) (uu i) (ss i) [] 0) (dr : ∀ i j, i < 3 → j < 3 → rr i = rr j → i = j) (du : ∀ i j, i < 3 → j < 3 → uu i = uu j → i = j)
    (ch : Ch1 H1 H2 n) (kn2 : H2 n = some (.cell (some (.ref pl)))) (kpl : H2 pl = some (.list [.ref p0, .ref p1, .ref p2])) (kp0 : H2 p0 = some (.list [])) (kp1 : H2 p1 = some (.list [])) (kp2 : H2 p2 = some (.list [])) (fr : ∀ y ∈ [pl, p2, p1, p0], H1 y = none)
    (l3 : H2.Le H3) (e1 : H3 q1 = some (.list [.int 0, .int 0, .int 0])) (e2 : H3 q2 = some (.list [.int 0, .int 0, .int 0])) (e3 : H3 q3 = some (.list [.ref a0, .ref a1, .ref a2])) (e4 : H3 q4 = some (.list [.int 0, .int 0, .int 0])) (e5 : H3 q5 = some (.list []))
    (f0 : H3 a0 = some (.list [.int 0, .int 0, .int 0])) (f1 : H3 a1 = some (.list [.int 0, .int 0, .int 0])) (f2 : H3 a2 = some (.list [.int 0, .int 0, .int 0])) (ew : H3 w = some (.tup [.ref lg, .ref pl, .ref q1, .ref q2, .ref q3, .ref q4, .ref q5]))
    (nd : [q5, q4, q3, a2, a1, a0, q2, q1, pl, p2, p1, p0].Nodup) (fr2 : ∀ y ∈ [q5, q4, q3, a2, a1, a0, q2, q1], H2 y = none) :
    ∃ A K, Wat H3 K w A sta0 ∧ A.lg = lg ∧ A.q 0 = pl ∧ K w = some (.tup [.ref A.lg, .ref (A.q 0), .ref (A.q 1), .ref (A.q 2), .ref (A.q 3), .ref (A.q 4), .ref (A.q 5)]) ∧ K nl = some (.list NL) ∧ K n = some (.cell (some (.ref pl))) := by
  have keep : ∀ b x, H1 b = some x → b ≠ n → H3 b = some x := fun b x e z => l3 _ _ (ch b x e z)
  have nn : ∀ {b : Addr} {x : MO}, H1 b = some x → (∀ v, x ≠ .cell v) → b ≠ n := fun e z q => by rw [q, kn1] at e; cases e; exact z _ rfl
  have fr1 : ∀ y ∈ [q5, q4, q3, a2, a1, a0, q2, q1, pl, p2, p1, p0], H1 y = none := fun y hy => by
    have hy : y ∈ [q5, q4, q3, a2, a1, a0, q2, q1] ++ [pl, p2, p1, p0] := hy
    rcases List.mem_append.mp hy with hy | hy
    · have z := fr2 y hy
      cases q : H1 y with
      | none => rfl
      | some o =>
        by_cases yn : y = n
        · rw [yn, kn2] at z; cases z
        · rw [ch y o q yn] at z; cases z
    · exact fr y hy
  let qs : Nat → Addr := fun i => [q5, q4, q3, a2, a1, a0, q2, q1, pl, p2, p1, p0].getD (posQ i) 0
  have qmem : ∀ i, i < 12 → qs i ∈ [q5, q4, q3, a2, a1, a0, q2, q1, pl, p2, p1, p0] := fun i hi => by
    show List.getD _ _ _ ∈ _
    rw [List.getD_eq_getElem?_getD, List.getElem?_eq_getElem (by exact posQ_lt i hi)]
    exact List.getElem_mem _
  have ql : ∀ i, i < 12 → ∃ vs, H3 (qs i) = some (.list vs) := fun i hi => by
    have z := qmem i hi
    generalize qs i = y at z
    simp only [List.mem_cons, List.not_mem_nil, or_false] at z
    rcases z with rfl | rfl | rfl | rfl | rfl | rfl | rfl | rfl | rfl | rfl | rfl | rfl
    · exact ⟨_, e5⟩
    · exact ⟨_, e4⟩
    · exact ⟨_, e3⟩
    · exact ⟨_, f2⟩
    · exact ⟨_, f1⟩
    · exact ⟨_, f0⟩
    · exact ⟨_, e2⟩
    · exact ⟨_, e1⟩
    · exact ⟨_, l3 _ _ kpl⟩
    · exact ⟨_, l3 _ _ kp2⟩
    · exact ⟨_, l3 _ _ kp1⟩
    · exact ⟨_, l3 _ _ kp0⟩
  have qn1 : ∀ i, i < 12 → H1 (qs i) = none := fun i hi => fr1 _ (qmem i hi)
  have knl3 := keep _ _ knl (nn knl fun _ q => by cases q)
  have kn3 := l3 _ _ kn2
  have klg3 := keep _ _ klg (nn klg fun _ q => by cases q)
  let K : Hp := fun b => if b = w ∨ b = nl ∨ b = n then H3 b else none
  have kin : ∀ {b : Addr} {x : MO}, H3 b = some x → (b = w ∨ b = nl ∨ b = n) → K b = some x := fun e z => by
    show (if _ then _ else _) = _
    rw [if_pos z]; exact e
  have kout : ∀ {b : Addr}, b ≠ w → b ≠ nl → b ≠ n → K b = none := fun z1 z2 z3 => by
    show (if _ then _ else _) = _
    rw [if_neg]
    rintro (z | z | z)
    · exact z1 z
    · exact z2 z
    · exact z3 z
  let A : WA := ⟨lg, qs, rr, uu, ss⟩
  have wk : ∀ b x, H1 b = some x → x.isWalk = false → H3 b = some x := fun b x e z => keep b x e (nn e fun v q => by rw [q] at z; cases z)
  have ctf : ∀ i, i < 12 → H3 (qs i) = some (.list (([[.ref p0, .ref p1, .ref p2], [.int 0, .int 0, .int 0], [.int 0, .int 0, .int 0], [.ref a0, .ref a1, .ref a2], [.int 0, .int 0, .int 0], [], [], [], [], [.int 0, .int 0, .int 0], [.int 0, .int 0, .int 0], [.int 0, .int 0, .int 0]] : List (List V)).getD i [])) := fun i hi => by
    match i, hi with
    | 0, _ => exact l3 _ _ kpl
    | 1, _ => exact e1
    | 2, _ => exact e2
    | 3, _ => exact e3
    | 4, _ => exact e4
    | 5, _ => exact e5
    | 6, _ => exact l3 _ _ kp0
    | 7, _ => exact l3 _ _ kp1
    | 8, _ => exact l3 _ _ kp2
    | 9, _ => exact f0
    | 10, _ => exact f1
    | 11, _ => exact f2
    | i + 12, h => exact absurd h (by (first | lia | omega))
  refine ⟨A, K, ⟨ew, klg3, ⟨_, ctf, ⟨rfl, rfl, rfl, rfl, rfl, trivial, fun i hi => ?_, fun i hi => ?_⟩⟩, fun i hi => (hlo i hi).newW wk (fun a ⟨k, hk, q⟩ => q ▸ qn1 k hk) (fun a ⟨k, hk, q⟩ => ?_), fun i j hi hj q => ?_, fun i hi q => ?_, dr, du, fun b x e => ?_, fun i hi => ?_, fun i hi => ?_, fun i hi => ?_⟩, rfl, rfl, ?_, ?_, ?_⟩
  · match i, hi with
    | 0, _ => exact trivial
    | 1, _ => exact trivial
    | 2, _ => exact trivial
  · match i, hi with
    | 0, _ => rfl
    | 1, _ => rfl
    | 2, _ => rfl
  · obtain ⟨vs, e⟩ := ql k hk
    exact ⟨_, by rw [q]; exact e⟩
  · have q : qs i = qs j := q
    have z : posQ i = posQ j := by
      have h1 : posQ i < ([q5, q4, q3, a2, a1, a0, q2, q1, pl, p2, p1, p0] : List Addr).length := posQ_lt i hi
      have h2 : posQ j < ([q5, q4, q3, a2, a1, a0, q2, q1, pl, p2, p1, p0] : List Addr).length := posQ_lt j hj
      refine (List.getElem?_inj h1 nd).mp ?_
      have q : List.getD _ _ _ = List.getD _ _ _ := q
      rw [List.getD_eq_getElem?_getD, List.getD_eq_getElem?_getD, List.getElem?_eq_getElem h1, List.getElem?_eq_getElem h2] at q
      rw [List.getElem?_eq_getElem h1, List.getElem?_eq_getElem h2]
      exact congrArg some q
    exact posQ_inj i hi j hj z
  · have z := qn1 i hi
    have q : lg = qs i := q
    rw [← q, klg] at z; cases z
  · have e : (if b = w ∨ b = nl ∨ b = n then H3 b else none) = some x := e
    split at e
    · exact e
    · cases e
  · obtain ⟨vs, e⟩ := ql i hi
    refine kout (fun z => ?_) (fun z => ?_) (fun z => ?_)
    · rw [show A.q i = qs i from rfl] at z; rw [z, ew] at e; cases e
    · rw [show A.q i = qs i from rfl] at z; have y := qn1 i hi; rw [z, knl] at y; cases y
    · rw [show A.q i = qs i from rfl] at z; rw [z, kn3] at e; cases e
  · obtain ⟨mc, hr⟩ := (hlo i hi).rr
    have hr3 := wk _ _ hr rfl
    refine kout (fun z => ?_) (fun z => ?_) (fun z => ?_)
    · rw [show A.r i = rr i from rfl] at z; rw [z, ew] at hr3; cases hr3
    · rw [show A.r i = rr i from rfl] at z; rw [z, knl3] at hr3; cases hr3
    · rw [show A.r i = rr i from rfl] at z; rw [z, kn3] at hr3; cases hr3
  · obtain ⟨el, hu⟩ := (hlo i hi).uu
    have hu3 := wk _ _ hu rfl
    refine kout (fun z => ?_) (fun z => ?_) (fun z => ?_)
    · rw [show A.u i = uu i from rfl] at z; rw [z, ew] at hu3; cases hu3
    · rw [show A.u i = uu i from rfl] at z; rw [z, knl3] at hu3; cases hu3
    · rw [show A.u i = uu i from rfl] at z; rw [z, kn3] at hu3; cases hu3
  · exact kin ew (.inl rfl)
  · exact kin knl3 (.inr (.inl rfl))
  · exact kin kn3 (.inr (.inr rfl))
theorem Wat.same {A₀ : WA} (h : Wat H K w A S) (kw : K w = some (.tup [.ref A₀.lg, .ref (A₀.q 0), .ref (A₀.q 1), .ref (A₀.q 2), .ref (A₀.q 3), .ref (A₀.q 4), .ref (A₀.q 5)])) : A.lg = A₀.lg ∧ A.q 0 = A₀.q 0 ∧ A.q 1 = A₀.q 1 ∧ A.q 2 = A₀.q 2 ∧ A.q 3 = A₀.q 3 ∧ A.q 4 = A₀.q 4 ∧ A.q 5 = A₀.q 5 := by
  have z := h.Kl _ _ kw
  rw [h.w] at z
  simp only [Option.some.injEq, MO.tup.injEq, List.cons.injEq, V.ref.injEq, and_true] at z
  exact z
theorem loop_tupT {it l : Addr} {vs : List V} {elts : List Expr} {kk : Nat} {tp : Pos} {body : List Stmt} {U : Fl → St → Prop} (I : Nat → St → Prop) (hI : ∀ j σ, I j σ → σ.H it = some (.ti l j) ∧ σ.H l = some (.tup vs))
    (step : ∀ j v σ, j < vs.length → vs[j]? = some v → I j σ → c.Asg Nope (.Tuple elts kk tp) v (fun _ σ₂ => c.Ss Nope body (Turned c (I (j + 1)) U) σ₂) (σ.set it (.ti l (j + 1))))
    (fin : ∀ σ, I vs.length σ → U .next ⟨σ.m, σ.H.del it⟩) : ∀ {j : Nat} {σ : St} (_ : j ≤ vs.length) (_ : I j σ) (hh : c.A.handled = none := by exact Cx.Room.hh (by assumption)), c.Loop it (.Tuple elts kk tp) body U σ := by
  have key : c.A.handled = none → ∀ (k j : Nat) (σ : St), k + j = vs.length → I j σ → c.Loop it (.Tuple elts kk tp) body U σ := by
    intro hh k
    induction k with
    | zero =>
      intro j σ e i
      obtain rfl : j = vs.length := by (first | lia | omega)
      obtain ⟨h1, h2⟩ := hI _ _ i
      exact loop_endT h1 h2 (by simp) (fin _ i) hh
    | succ k ih =>
      intro j σ e i
      obtain ⟨h1, h2⟩ := hI _ _ i
      have lt : j < vs.length := by (first | lia | omega)
      exact loop_turnT h1 h2 (List.getElem?_eq_getElem lt) ((step j _ σ lt (List.getElem?_eq_getElem lt) i).mono fun σ₂ h => h.mono fun f σ₃ h => h.mono fun σ₄ h => ih (j + 1) σ₄ (by (first | lia | omega)) h)
  intro j σ l i hh
  exact key hh (vs.length - j) j σ (by (first | lia | omega)) i
theorem block_rgm {elt iter : Expr} {scope sc' : Scope} {pos p0 : Pos} {cl : List (Str × Addr)} {x : Str} {m0 : Str → Option V} {Hb : Hp} {Qb : V → St → Prop} {it : Addr} (R : Nat → V → Hp → Prop) (Rt : ∀ j v H H', Hp.TLe H H' → R j v H → R j v H') {n : Nat} (hn : Hb it = none) (hz : n ≤ 1000)
    (hs : relabel scope c.env = sc') (hx : sc'.names.lookup x = some .local ∧ (x == ("__debug__" : Str)) = false)
    (step : ∀ c' : Cx, c'.D = c.D → c'.sc = sc' → c'.cl = cl → (∀ d, c.Room d → c'.Room d) → ∀ (i : Nat) (m' : Str → Option V) (H1 : Hp), Hb.Le H1 → i < n → c'.Ev Nope elt (fun y σ' => H1.Le σ'.H ∧ R i y σ'.H) ⟨fun y => if y = x then some (.int (i : Int)) else m' y, H1⟩)
    (fin : ∀ acc H' ws, Hb.Le H' → Hb acc = none → H' acc = some (.list ws) → ws.length = n → (∀ j y, ws[j]? = some y → R j y H') → Qb (.ref acc) ⟨m0, H'⟩) {rd : Nat} (rr : c.Room rd := by assumption) :
    c.Block (.ListComp elt [⟨.Name x p0, iter, [], 0⟩] scope pos) scope cl Qb (.ref it) ⟨m0, Hb.set it (.ri 0 (n : Int))⟩ := by
  refine ⟨it, _, rfl, hs_self, rfl, fun acc ha c' cD cs cc cr => ?_⟩
  have ha0 : (Hb.set it (.ri 0 (n : Int))) acc = none := ha
  have ha' : Hb acc = none := none_set ha0
  have nai : it ≠ acc := fun q => by rw [← q, Hp.set_self] at ha0; cases ha0
  rw [hs] at cs
  have l0 : Hb.Le ((Hb.set it (.ri 0 (n : Int))).set acc (.list [])) := Hp.Le.setN ha' (Hp.Le.setN hn (Hp.Le.refl _))
  refine cl_rg0 (fun z k σ => ∃ i : Nat, z = i ∧ i + k = n ∧ σ.H it = some (.ri z k) ∧ Hb.Le σ.H ∧ ∃ ws, σ.H acc = some (.list ws) ∧ ws.length = i ∧ ∀ j y, ws[j]? = some y → R j y σ.H) ?_ ?_ ?_ (by with_unfolding_all rfl) ⟨0, rfl, by (first | lia | omega), hs_ne nai hs_self, l0, [], hs_self, rfl, by simp⟩ (cr _ rr).hh
  · rintro z k σ ⟨i, _, _, h, _⟩; exact h
  · rintro z k ⟨mm, H1⟩ ⟨i, rfl, e1, h1, h2, ws, h3, h4, h5⟩
    have h1' : H1 it = some (.ri (i : Int) ((k + 1 : Nat) : Int)) := h1
    have h3' : H1 acc = some (.list ws) := h3
    have l1 : Hb.Le (H1.set it (.ri ((i : Int) + 1) k)) := Hp.Le.setN hn h2
    refine as_name (st_local (lof cs hx) ?_)
    refine Cx.W.mono (step c' cD cs cc cr i mm _ l1 (by (first | lia | omega))) fun y σ' ⟨k1, k2⟩ => ?_
    have a1 : σ'.H acc = some (.list ws) := k1 _ _ (hs_ne (Ne.symm nai) h3')
    refine c_append (σ := σ') a1 (by (first | lia | omega)) ?_
    refine ⟨i + 1, by (first | lia | omega), by (first | lia | omega), hs_ne nai (k1 _ _ hs_self), Hp.Le.setN ha' (l1.trans k1), ws ++ [y], hs_self, by simp [h4], fun j z hj => ?_⟩
    have t1 : Hp.TLe σ'.H (σ'.H.set acc (.list (ws ++ [y]))) := tle_set a1 fun _ q => by cases q
    rcases Nat.lt_or_ge j ws.length with q | q
    · rw [List.getElem?_append_left q] at hj
      exact Rt _ _ _ _ t1 (Rt _ _ _ _ k1.t (Rt _ _ _ _ (tle_set h1' fun _ q => by cases q) (h5 j z hj)))
    · rw [List.getElem?_append_right q] at hj
      have e2 : j - ws.length = 0 := by
        rcases Nat.eq_zero_or_pos (j - ws.length) with q1 | q1
        · exact q1
        · rw [List.getElem?_eq_none (by simp; (first | lia | omega))] at hj; cases hj
      rw [e2] at hj
      cases hj
      rw [show j = i by (first | lia | omega)]
      exact Rt _ _ _ _ t1 k2
  · rintro z ⟨mm, H1⟩ ⟨i, rfl, e1, h1, h2, ws, h3, h4, h5⟩
    have h1' : H1 it = some (.ri (i : Int) ((0 : Nat) : Int)) := h1
    have h3' : H1 acc = some (.list ws) := h3
    exact fin acc (H1.del it) ws (Hp.Le.del h2 hn) ha' (hs_del (Ne.symm nai) h3') (by (first | lia | omega)) fun j y q => Rt _ _ _ _ (tle_del h1' fun _ q => by cases q) (h5 j y q)
noncomputable def jjF (m j : Nat) : Nat := if j = 1 then (m + 2) % 3 else (m + 1) % 3
theorem jjF_lt {m j : Nat} : jjF m j < 3 := by unfold jjF; split <;> (first | lia | omega)
theorem jjF_ne {m j : Nat} (hm : m < 3) : m ≠ jjF m j := by unfold jjF; split <;> (first | lia | omega)
theorem jjF_eq {m j : Nat} (hm : m < 3) (e : jjF m j = (m + 1) % 3) : j ≠ 1 := by
  intro h; subst h
  unfold jjF at e
  rw [if_pos rfl] at e; (first | lia | omega)
noncomputable def ttF (S1 S2 S3 S4 : Sta) (j : Nat) : Sta := if j = 0 then S1 else if j = 1 then sured S2 else if j = 2 then S3 else sured S4
theorem nodup_new {L : List Addr} (hn : H a = none) (ha : ∀ y ∈ L, ∃ o, H y = some o) (nd : L.Nodup) : (a :: L).Nodup := List.nodup_cons.mpr ⟨fun q => (by obtain ⟨o, e⟩ := ha a q; rw [hn] at e; cases e), nd⟩
set_option maxHeartbeats 4000000 in
theorem law_runs (hD : IsD D) {G : Nat → Sta → Prop} (P : Plan G) : Runs D 792 (fun body scope qual => ∀ (c : Cx) (n sl : Addr) (ns : List Int), c.D = D → c.sc = scope → c.cl = ([("plain", n)] : List (Str × Addr)) → c.Room 20 → Script c sl ns → ns.length ≤ 100 →
    c.Ss Nope body (fun fl σ' => fl = .ret (.bool true)) ⟨fun y => if y = "script" then some (.ref sl) else none, Hp.set (fun _ => none) n (.cell none)⟩) := by
  refine runs_of (hK := by rw [hD.k]; k_is) ?_
  intro c n sl ns cD cs cc cr hsc hns
  subst cD
  have h8 : (ns.take 8).length ≤ 8 := by rw [List.length_take]; (first | lia | omega)
  have kn : (Hp.set (fun _ => none) n (.cell none)) n = some (.cell none) := hs_self
  generalize Hp.set (fun _ => none) n (.cell none) = H0 at kn ⊢
  let Nx1 : St → Prop := fun σ => ∃ (nl : Addr), σ.m "nums" = some (.ref nl) ∧ σ.H nl = some (.list (((ns.take 8).map fun z => z.fmod 999983).map V.int)) ∧ σ.H n = some (.cell none)
  refine ss_mid Nx1 ?_ ?_
  · refine s_comp (cl := []) ?_ ?_ ?_
    · exact clos_of cc (by with_unfolding_all rfl)
    · refine w_script hsc hns rfl fun n1 hn1 => ?_
      with_reducible refine' it_list hg_self (fun _ _ => ?_)
      rename_i it hit
      refine block_map (fun j y H' => ∃ z, (ns.take 8)[j]? = some z ∧ y = .int (z.fmod 999983)) ?_ hit hs_self (by simp; (first | lia | omega)) (relb cs (by with_unfolding_all rfl)) (by exact ⟨rfl, rfl⟩) ?_ ?_
      · rintro j v H1 H2 t hh; exact hh
      · rintro c' cD cs' cc' cr' j v m' H1 l1 lt hv
        rw [List.getElem?_map] at hv
        obtain ⟨z, hz, rfl⟩ := Option.map_eq_some_iff.mp hv
        have hD' : IsD c'.D := by rw [cD]; exact hD
        with_reducible refine' w_bin ?_
        refine' w_local rfl ?_
        with_reducible refine' w_int (b_mod (by decide) ?_)
        exact ⟨Hp.Le.refl _, z, hz, rfl⟩
      · intro acc H' ws l1 ha h1 h2 h3
        refine ⟨lof cs ⟨rfl, rfl⟩, acc, rfl, ?_, l1 _ _ (hs_new hn1 kn)⟩
        have e : ws = ((ns.take 8).map fun z => z.fmod 999983).map V.int := by
          refine List.ext_getElem? fun j => ?_
          rw [List.getElem?_map, List.getElem?_map]
          cases hw : ws[j]? with
          | none =>
            have : (ns.take 8)[j]? = none := by
              have := List.getElem?_eq_none_iff.mp hw
              rw [List.length_map] at h2
              exact List.getElem?_eq_none (by (first | lia | omega))
            rw [this]; rfl
          | some y =>
            obtain ⟨z, hz, rfl⟩ := h3 j y hw
            rw [hz]; rfl
        show H' acc = _
        rw [← e]; exact h1
    · exact swap_of cs (by with_unfolding_all rfl)
  rintro ⟨mm, H1⟩ ⟨nl, m1, knl, kn1⟩
  have hnu : ∀ z ∈ (ns.take 8).map (fun z => z.fmod 999983), 0 ≤ z ∧ z < 999983 := by
    intro z hz
    obtain ⟨y, _, rfl⟩ := List.mem_map.mp hz
    rw [Int.fmod_eq_emod_of_nonneg _ (by decide)]
    exact ⟨Int.emod_nonneg _ (by decide), Int.emod_lt_of_pos _ (by decide)⟩
  have hnl : ((ns.take 8).map (fun z => z.fmod 999983)).length ≤ 8 := by rw [List.length_map]; (first | lia | omega)
  generalize (ns.take 8).map (fun z => z.fmod 999983) = nu at knl hnu hnl
  have lnu : (nu.map V.int).length = nu.length := List.length_map ..
  let Nx2 : St → Prop := fun σ => ∃ (nl : Addr) (nu : List Int), σ.m "nums" = some (.ref nl) ∧ σ.H nl = some (.list (nu.map V.int)) ∧ σ.H n = some (.cell none) ∧ 0 < nu.length ∧ nu.length ≤ 8 ∧ ∀ z ∈ nu, 0 ≤ z ∧ z < 999983
  refine ss_mid Nx2 ?_ ?_
  · by_cases z : nu.length = 0
    · with_reducible refine' s_if (t_cmp (w_call ?_))
      refine' gl_len ‹_› (kof ‹_› rfl) ?_
      refine' cv_raw rfl ?_
      with_reducible refine' w_es_cons ?_
      refine' w_local m1 ?_
      with_reducible refine' w_es_nil ?_
      refine' f_len knl (by simp only [List.length_append, List.length_cons, List.length_nil, List.length_map, List.length_set, List.length_take, List.length_drop, List.length_replicate]; exact (by lia)) ?_
      with_reducible refine' w_int (c_eq (tr_bool (br_eq ?_ ?_)))
      with_reducible refine' fun _ => s_one (s_assign (w_list (w_es_cons (w_int (w_es_nil ?_)))))
      refine' ⟨(Nat.le_of_ble_eq_true rfl), ?_⟩
      with_reducible refine' fun _ _ => ?_
      refine' st_local (lof ‹_› ⟨rfl, rfl⟩) ?_
      with_reducible refine' md_next ?_
      rotate_left
      with_reducible refine' fun _ => ?_
      exact False.elim (by lia)
      rename_i n2 hn2
      exact ⟨n2, [5], rfl, hs_self, hs_new hn2 kn1, by simp, by simp, by simp⟩
    · with_reducible refine' s_if (t_cmp (w_call ?_))
      refine' gl_len ‹_› (kof ‹_› rfl) ?_
      refine' cv_raw rfl ?_
      with_reducible refine' w_es_cons ?_
      refine' w_local m1 ?_
      with_reducible refine' w_es_nil ?_
      refine' f_len knl (by simp only [List.length_append, List.length_cons, List.length_nil, List.length_map, List.length_set, List.length_take, List.length_drop, List.length_replicate]; exact (by lia)) ?_
      with_reducible refine' w_int (c_eq (tr_bool (br_eq ?_ ?_)))
      with_reducible refine' fun _ => ?_
      exact False.elim (by lia)
      with_reducible refine' fun _ => s_nil (md_next ?_)
      exact ⟨nl, nu, m1, knl, kn1, by (first | lia | omega), hnl, hnu⟩
  clear m1 knl kn1 hnu hnl lnu
  clear nl nu
  rintro ⟨mm, H1⟩ ⟨nl, nu, m1, knl, kn1, hn0, hn8, hnu⟩
  have lu := cr
  let Nx3 : St → Prop := fun σ => ∃ (lg : Addr) (rr uu ss : Nat → Addr), σ.m "nums" = some (.ref nl) ∧ σ.m "logs" = some (.ref lg) ∧ σ.H nl = some (.list (nu.map V.int)) ∧ σ.H n = some (.cell none) ∧ σ.H lg = some (.list (tri fun i => .ref (rr i))) ∧
    (∀ i, i < 3 → LogAt σ.H (fun _ => False) (rr i) (uu i) (ss i) [] 0) ∧ (∀ i j, i < 3 → j < 3 → rr i = rr j → i = j) ∧ (∀ i j, i < 3 → j < 3 → uu i = uu j → i = j)
  refine ss_mid Nx3 ?_ ?_
  · refine s_comp (cl := []) ?_ ?_ ?_
    · exact clos_of cc (by with_unfolding_all rfl)
    · with_reducible refine' w_call ?_
      refine' gl_range ‹_› (kof ‹_› rfl) ?_
      refine' cv_raw rfl ?_
      with_reducible refine' w_es_cons (w_int (w_es_nil (f_range1 (fun _ _ => ?_))))
      refine' it_rgN hg_self (by lia) ?_
      with_reducible refine' fun _ _ => ?_
      rename_i rg hrg it hit
      have hrg' : H1 rg = none := hrg
      have hit' : (H1.set rg (.rg 0 3)) it = none := hit
      have hit2 : H1 it = none := none_set hit'
      refine ⟨it, _, rfl, hs_self, rfl, fun acc ha c' cD' cs' cc' cr' => ?_⟩
      have ha' : ((H1.set rg (.rg 0 3)).set it (.ri 0 3)) acc = none := ha
      have ha2 : (H1.set rg (.rg 0 3)) acc = none := none_set ha'
      have hacc3 : H1 acc = none := none_set ha2
      have nai : it ≠ acc := fun q => by rw [← q, Hp.set_self] at ha'; cases ha'
      rw [relb cs (by with_unfolding_all rfl)] at cs'
      have hD' : IsD c'.D := by rw [cD']; exact hD
      have cr2 := cr' _ cr
      refine cl_rg0 (fun z k σ => ∃ i : Nat, z = i ∧ i + k = 3 ∧ σ.H it = some (.ri z k) ∧ H1.Le σ.H ∧ ∃ ls : List (Addr × Addr × Addr), ls.length = i ∧ σ.H acc = some (.list (ls.map fun p => V.ref p.1)) ∧
        (∀ p ∈ ls, LogAt σ.H (fun b => b = it ∨ b = acc) p.1 p.2.1 p.2.2 [] 0) ∧ ls.Pairwise (fun p q => p.1 ≠ q.1 ∧ p.2.1 ≠ q.2.1)) ?_ ?_ ?_ (by with_unfolding_all rfl) ⟨0, rfl, rfl, hs_ne nai hs_self, Hp.Le.setN hacc3 (Hp.Le.setN hit2 (Hp.Le.set _ hrg')), [], rfl, hs_self, by simp, .nil⟩
      · rintro z k σ ⟨i, _, _, h, _⟩; exact h
      · rintro z k ⟨mm2, H2⟩ ⟨i, rfl, e1, h1, l1, ls, e2, h2, h3, h4⟩
        have h1' : H2 it = some (.ri (i : Int) ((k + 1 : Nat) : Int)) := h1
        have h2' : H2 acc = some (.list (ls.map fun p => V.ref p.1)) := h2
        have l2 : H1.Le (H2.set it (.ri ((i : Int) + 1) k)) := Hp.Le.setN hit2 l1
        have h3' : ∀ p ∈ ls, LogAt (H2.set it (.ri ((i : Int) + 1) k)) (fun b => b = it ∨ b = acc) p.1 p.2.1 p.2.2 [] 0 := fun p hp => (h3 p hp).setX h1' (.inl rfl) (fun _ _ q => by cases q)
        have h1n : (H2.set it (.ri ((i : Int) + 1) k)) it = some (.ri ((i : Int) + 1) k) := hs_self
        have h2n : (H2.set it (.ri ((i : Int) + 1) k)) acc = some (.list (ls.map fun p => V.ref p.1)) := hs_ne (Ne.symm nai) h2'
        show c'.Asg Nope _ _ _ ⟨mm2, H2.set it (.ri ((i : Int) + 1) k)⟩
        generalize H2.set it (.ri ((i : Int) + 1) k) = H3 at l2 h3' h1n h2n ⊢
        clear h1 h1' h2 h2' h3
        with_reducible refine' as_name ?_
        refine' st_local (lof ‹_› ⟨rfl, rfl⟩) ?_
        with_reducible refine' w_call ?_
        refine' gl_RaftLog ‹_› (kof ‹_› rfl) ?_
        refine' cv_ref (kp_of ‹_› rfl) ?_
        with_reducible refine' w_es_cons (w_call ?_)
        refine' gl_MemoryStorage ‹_› (kof ‹_› rfl) ?_
        refine' cv_ref (kp_of ‹_› rfl) ?_
        with_reducible refine' w_es_cons (w_call ?_)
        refine' gl_ConfState ‹_› (kof ‹_› rfl) ?_
        refine' cv_ref (kp_of ‹_› rfl) ?_
        with_reducible refine' w_es_cons (w_list (w_es_nil ?_))
        refine' ⟨(Nat.le_of_ble_eq_true rfl), ?_⟩
        with_reducible refine' fun _ _ => w_es_cons (w_list (w_es_nil ?_))
        refine' ⟨(Nat.le_of_ble_eq_true rfl), ?_⟩
        with_reducible refine' fun _ _ => w_es_cons (w_list (w_es_nil ?_))
        refine' ⟨(Nat.le_of_ble_eq_true rfl), ?_⟩
        with_reducible refine' fun _ _ => w_es_cons (w_list (w_es_nil ?_))
        refine' ⟨(Nat.le_of_ble_eq_true rfl), ?_⟩
        with_reducible refine' fun _ _ => w_es_cons (w_bool (w_es_nil ?_))
        refine' nwc_ConfState ‹_› (Room.le ‹_› (by decide)) (hg_new (by with_reducible assumption) (hg_new (by with_reducible assumption) (hg_new (by with_reducible assumption) hg_self))) (hg_new (by with_reducible assumption) (hg_new (by with_reducible assumption) hg_self)) (hg_new (by with_reducible assumption) hg_self) hg_self ?_
        rename_i a1 ha1 a2 ha2 a3 ha3 a4 ha4
        intro H4 cf x0 x1 x2 x3 l4 ncf ecf ex0
        with_reducible refine' w_es_nil ?_
        refine nwc_MemoryStorage hD' (Room.le ‹_› (by decide)) ecf ex0 rfl ?_
        intro H5 ms hdv sn sl2 l5 nms nsl e5 e5l
        with_reducible refine' w_es_cons ?_
        refine' gl_NO_LIMIT ‹_› (kof ‹_› rfl) ?_
        with_reducible refine' w_es_nil ?_
        refine nwc_RaftLog hD' (Room.le ‹_› (by decide)) e5 e5l ?_
        intro H6 r1 u1 el l6 nr nu' nel e6 e6u e6l
        have la1 := Hp.Le.set (o := .list []) (show H3 a1 = none from ha1)
        have la2 := la1.trans (Hp.Le.set (o := .list []) (show (H3.set a1 (.list [])) a2 = none from ha2))
        have la3 := la2.trans (Hp.Le.set (o := .list []) (show ((H3.set a1 (.list [])).set a2 (.list [])) a3 = none from ha3))
        have la4 := la3.trans (Hp.Le.set (o := .list []) (show (((H3.set a1 (.list [])).set a2 (.list [])).set a3 (.list [])) a4 = none from ha4))
        have l34 : H3.Le H4 := la4.trans l4
        have l35 := l34.trans l5
        have l36 := l35.trans l6
        have old : ∀ {b : Addr} {x : MO} {H7 : Hp}, H3 b = some x → H3.Le H7 → H7 b ≠ none := fun e l q => by rw [l _ _ e] at q; cases q
        have notX : ∀ {b : Addr} {H7 : Hp}, H3.Le H7 → H7 b = none → ¬ (b = it ∨ b = acc) := fun l q z => by
          rcases z with z | z
          · rw [z] at q; exact old h1n l q
          · rw [z] at q; exact old h2n l q
        have LX : LogAt H6 (fun b => b = it ∨ b = acc) r1 u1 ms [] 0 := ⟨⟨el, [], _, e6, ⟨e6u, e6l, trivial, by simp⟩, ⟨hdv, .ref cf, sn, sl2, l6 _ _ e5, l6 _ _ e5l, notX l34 nsl⟩, notX l35 nel⟩, fun b z => by
          rcases z with z | z
          · exact ⟨_, z ▸ l36 _ _ h1n⟩
          · exact ⟨_, z ▸ l36 _ _ h2n⟩⟩
        have h3n : ∀ p ∈ ls, LogAt H6 (fun b => b = it ∨ b = acc) p.1 p.2.1 p.2.2 [] 0 := fun p hp => (h3' p hp).le l36
        have hdis : ∀ p ∈ ls, p.1 ≠ r1 ∧ p.2.1 ≠ u1 := fun p hp => by
          obtain ⟨mc, hr⟩ := (h3' p hp).rr
          obtain ⟨el2, hu⟩ := (h3' p hp).uu
          exact ⟨fun z => by rw [z] at hr; exact old hr l35 nr, fun z => by rw [z] at hu; exact old hu l35 nu'⟩
        have eacc := l36 _ _ h2n
        refine c_append (σ := ⟨_, H6⟩) eacc (by rw [List.length_map]; (first | lia | omega)) ?_
        refine ⟨i + 1, by (first | lia | omega), by (first | lia | omega), hs_ne nai (l36 _ _ h1n), Hp.Le.setN hacc3 (l2.trans l36), ls ++ [(r1, u1, ms)], by simp [e2], by rw [List.map_append]; exact hs_self, fun p hp => ?_, ?_⟩
        · have : LogAt H6 (fun b => b = it ∨ b = acc) p.1 p.2.1 p.2.2 [] 0 := by
            rcases List.mem_append.mp hp with hp | hp
            · exact h3n p hp
            · have : p = (r1, u1, ms) := by simpa using hp
              subst this; exact LX
          exact this.setX eacc (.inr rfl) (fun _ _ q => by cases q)
        · refine List.pairwise_append.mpr ⟨h4, by simp, fun p hp q hq => ?_⟩
          have : q = (r1, u1, ms) := by simpa using hq
          subst this; exact hdis p hp
      · rintro z ⟨mm2, H2⟩ ⟨i, rfl, e1, h1, l1, ls, e2, h2, h3, h4⟩
        have h1' : H2 it = some (.ri (i : Int) ((0 : Nat) : Int)) := h1
        have h2' : H2 acc = some (.list (ls.map fun p => V.ref p.1)) := h2
        have e3 : ls.length = 3 := by (first | lia | omega)
        obtain ⟨p0, p1, p2, rfl⟩ : ∃ p0 p1 p2, ls = [p0, p1, p2] := by
          match ls, e3 with
          | [x, y, z], _ => exact ⟨x, y, z, rfl⟩
        · let pp : Nat → Addr × Addr × Addr := fun i => if i = 0 then p0 else if i = 1 then p1 else p2
          have mem : ∀ i, i < 3 → pp i ∈ [p0, p1, p2] := fun i hi => by
            match i, hi with
            | 0, _ => simp [pp]
            | 1, _ => simp [pp]
            | 2, _ => simp [pp]
          simp only [List.pairwise_cons, List.mem_cons, List.not_mem_nil, or_false, forall_eq_or_imp, forall_eq] at h4
          obtain ⟨⟨⟨d1, d1'⟩, d2, d2'⟩, ⟨d3, d3'⟩, _⟩ := h4
          refine ⟨lof cs ⟨rfl, rfl⟩, acc, fun i => (pp i).1, fun i => (pp i).2.1, fun i => (pp i).2.2, m1, rfl, ?_, ?_, hs_del (Ne.symm nai) h2', fun i hi => ?_, fun i j hi hj q => ?_, fun i j hi hj q => ?_⟩
          · exact hs_del (Ne.symm (ne_of hit2 knl)) (l1 _ _ knl)
          · exact hs_del (Ne.symm (ne_of hit2 kn1)) (l1 _ _ kn1)
          · have z := ((h3 _ (mem i hi)).delX h1' (.inl rfl) (fun _ _ q => by cases q))
            exact z.mono (fun _ q => q.elim)
          · exact inj3 (f := fun i => (pp i).1) d1 d2 d3 hi hj q
          · exact inj3 (f := fun i => (pp i).2.1) d1' d2' d3' hi hj q
    · exact swap_of cs (by with_unfolding_all rfl)
  clear m1 knl kn1
  rintro ⟨mm, H1⟩ ⟨lg, rr, uu, ss, m1, m2, knl, kn1, klg, hlo, dr, du⟩
  let Nx4 : St → Prop := fun σ => ∃ p0 p1 p2 pl : Addr, σ.m "nums" = some (.ref nl) ∧ σ.m "logs" = some (.ref lg) ∧ Ch1 H1 σ.H n ∧ σ.H n = some (.cell (some (.ref pl))) ∧ σ.H pl = some (.list [.ref p0, .ref p1, .ref p2]) ∧ σ.H p0 = some (.list []) ∧ σ.H p1 = some (.list []) ∧ σ.H p2 = some (.list []) ∧
    [pl, p2, p1, p0].Nodup ∧ ∀ y ∈ [pl, p2, p1, p0], H1 y = none
  refine ss_mid Nx4 ?_ ?_
  · with_reducible refine' s_assign (w_list (w_es_cons (w_list (w_es_nil ?_))))
    refine' ⟨(Nat.le_of_ble_eq_true rfl), ?_⟩
    with_reducible refine' fun _ _ => w_es_cons (w_list (w_es_nil ?_))
    refine' ⟨(Nat.le_of_ble_eq_true rfl), ?_⟩
    with_reducible refine' fun _ _ => w_es_cons (w_list (w_es_nil ?_))
    refine' ⟨(Nat.le_of_ble_eq_true rfl), ?_⟩
    with_reducible refine' fun _ _ => w_es_nil ?_
    refine' ⟨(Nat.le_of_ble_eq_true rfl), ?_⟩
    with_reducible refine' fun _ _ => ?_
    refine' st_cell (kof ‹_› rfl) (clof ‹_› rfl) (hg_new (by with_reducible assumption) (hg_new (by with_reducible assumption) (hg_new (by with_reducible assumption) (hg_new (by with_reducible assumption) kn1)))) ?_
    with_reducible refine' md_next ?_
    rename_i p0 h0 p1 h1 p2 h2 pl hpl
    have h0 : H1 p0 = none := h0
    have h1 : (H1.set p0 (.list [])) p1 = none := h1
    have h2 : ((H1.set p0 (.list [])).set p1 (.list [])) p2 = none := h2
    have hpl : (((H1.set p0 (.list [])).set p1 (.list [])).set p2 (.list [])) pl = none := hpl
    have kn1 : H1 n = some (.cell none) := kn1
    have h1' := none_set h1
    have h2' := none_set (none_set h2)
    have hpl' := none_set (none_set (none_set hpl))
    refine ⟨p0, p1, p2, pl, m1, m2, ((((Ch1.refl.add h0).add h1).add h2).add hpl).set, hs_self, hs_ne (ne_of hpl' kn1) hs_self, hs_ne (ne_of h0 kn1) (hs_new hpl (hs_new h2 (hs_new h1 hs_self))), hs_ne (ne_of h1' kn1) (hs_new hpl (hs_new h2 hs_self)), hs_ne (ne_of h2' kn1) (hs_new hpl hs_self), ?_, ?_⟩
    · refine nodup_new hpl (fun y hy => ?_) (nodup_new h2 (fun y hy => ?_) (nodup_new h1 (fun y hy => ?_) (by simp)))
      · simp only [List.mem_cons, List.not_mem_nil, or_false] at hy
        rcases hy with rfl | rfl | rfl
        · exact ⟨_, hs_self⟩
        · exact ⟨_, hs_new h2 hs_self⟩
        · exact ⟨_, hs_new h2 (hs_new h1 hs_self)⟩
      · simp only [List.mem_cons, List.not_mem_nil, or_false] at hy
        rcases hy with rfl | rfl
        · exact ⟨_, hs_self⟩
        · exact ⟨_, hs_new h1 hs_self⟩
      · simp only [List.mem_cons, List.not_mem_nil, or_false] at hy
        subst hy; exact ⟨_, hs_self⟩
    · intro y hy
      simp only [List.mem_cons, List.not_mem_nil, or_false] at hy
      rcases hy with rfl | rfl | rfl | rfl
      · exact hpl'
      · exact h2'
      · exact h1'
      · exact h0
  clear m1 m2
  rintro ⟨mm, H2⟩ ⟨p0, p1, p2, pl, m1, m2, ch, kn2, kpl, kp0, kp1, kp2, nd, fr⟩
  let Nx5 : St → Prop := fun σ => ∃ w q1 q2 q3 q4 q5 a0 a1 a2 : Addr, σ.m "nums" = some (.ref nl) ∧ σ.m "logs" = some (.ref lg) ∧ σ.m "w" = some (.ref w) ∧ H2.Le σ.H ∧ σ.H q1 = some (.list [.int 0, .int 0, .int 0]) ∧ σ.H q2 = some (.list [.int 0, .int 0, .int 0]) ∧ σ.H q3 = some (.list [.ref a0, .ref a1, .ref a2]) ∧ σ.H q4 = some (.list [.int 0, .int 0, .int 0]) ∧ σ.H q5 = some (.list []) ∧
    σ.H a0 = some (.list [.int 0, .int 0, .int 0]) ∧ σ.H a1 = some (.list [.int 0, .int 0, .int 0]) ∧ σ.H a2 = some (.list [.int 0, .int 0, .int 0]) ∧ σ.H w = some (.tup [.ref lg, .ref pl, .ref q1, .ref q2, .ref q3, .ref q4, .ref q5]) ∧ H2 w = none ∧
    [q5, q4, q3, a2, a1, a0, q2, q1, pl, p2, p1, p0].Nodup ∧ ∀ y ∈ [q5, q4, q3, a2, a1, a0, q2, q1], H2 y = none
  refine ss_mid Nx5 ?_ ?_
  · with_reducible refine' s_assign (w_tuple (w_es_cons ?_))
    refine' w_local m2 ?_
    with_reducible refine' w_es_cons ?_
    refine' w_cell (clof ‹_› rfl) kn2 (kof ‹_› rfl) ?_
    with_reducible refine' w_es_cons (w_list (w_es_cons (w_int (w_es_cons (w_int (w_es_cons (w_int (w_es_nil ?_))))))))
    refine' ⟨(Nat.le_of_ble_eq_true rfl), ?_⟩
    with_reducible refine' fun _ _ => w_es_cons (w_list (w_es_cons (w_int (w_es_cons (w_int (w_es_cons (w_int (w_es_nil ?_))))))))
    refine' ⟨(Nat.le_of_ble_eq_true rfl), ?_⟩
    with_reducible refine' fun _ _ => w_es_cons (w_list (w_es_cons (w_list (w_es_cons (w_int (w_es_cons (w_int (w_es_cons (w_int (w_es_nil ?_))))))))))
    refine' ⟨(Nat.le_of_ble_eq_true rfl), ?_⟩
    with_reducible refine' fun _ _ => w_es_cons (w_list (w_es_cons (w_int (w_es_cons (w_int (w_es_cons (w_int (w_es_nil ?_))))))))
    refine' ⟨(Nat.le_of_ble_eq_true rfl), ?_⟩
    with_reducible refine' fun _ _ => w_es_cons (w_list (w_es_cons (w_int (w_es_cons (w_int (w_es_cons (w_int (w_es_nil ?_))))))))
    refine' ⟨(Nat.le_of_ble_eq_true rfl), ?_⟩
    with_reducible refine' fun _ _ => w_es_nil ?_
    refine' ⟨(Nat.le_of_ble_eq_true rfl), ?_⟩
    with_reducible refine' fun _ _ => w_es_cons (w_list (w_es_cons (w_int (w_es_cons (w_int (w_es_cons (w_int (w_es_nil ?_))))))))
    refine' ⟨(Nat.le_of_ble_eq_true rfl), ?_⟩
    with_reducible refine' fun _ _ => w_es_cons (w_list (w_es_nil ?_))
    refine' ⟨(Nat.le_of_ble_eq_true rfl), ?_⟩
    with_reducible refine' fun _ _ => w_es_nil ?_
    refine' ⟨(Nat.le_of_ble_eq_true rfl), ?_⟩
    with_reducible refine' fun _ _ => ?_
    refine' st_local (lof ‹_› ⟨rfl, rfl⟩) ?_
    with_reducible refine' md_next ?_
    rename_i q1 g1 q2 g2 a0 g3 a1 g4 a2 g5 q3 g6 q4 g7 q5 g8 w g9
    have g1 : H2 q1 = none := g1
    have kq1 : (H2.set q1 (.list [.int 0, .int 0, .int 0])) q1 = some (.list [.int 0, .int 0, .int 0]) := hs_self
    have kold : ∀ y ∈ [pl, p2, p1, p0], ∃ o, H2 y = some o := fun y hy => by
      simp only [List.mem_cons, List.not_mem_nil, or_false] at hy
      rcases hy with rfl | rfl | rfl | rfl
      · exact ⟨_, kpl⟩
      · exact ⟨_, kp2⟩
      · exact ⟨_, kp1⟩
      · exact ⟨_, kp0⟩
    have all : ∀ {L : List Addr} {Ha : Hp} {x : Addr} {o : MO}, Ha x = none → (∀ y ∈ L, ∃ o, Ha y = some o) → ∀ y ∈ x :: L, ∃ o', (Ha.set x o) y = some o' := fun hx ha y hy => by
      rcases List.mem_cons.mp hy with rfl | hy
      · exact ⟨_, hs_self⟩
      · obtain ⟨o, e⟩ := ha y hy; exact ⟨o, hs_new hx e⟩
    have f1 := all (o := .list [.int 0, .int 0, .int 0]) g1 kold
    have n1 := nodup_new g1 kold nd
    have f2 := all (o := .list [.int 0, .int 0, .int 0]) g2 f1
    have n2 := nodup_new g2 f1 n1
    have f3 := all (o := .list [.int 0, .int 0, .int 0]) g3 f2
    have n3 := nodup_new g3 f2 n2
    have f4 := all (o := .list [.int 0, .int 0, .int 0]) g4 f3
    have n4 := nodup_new g4 f3 n3
    have f5 := all (o := .list [.int 0, .int 0, .int 0]) g5 f4
    have n5 := nodup_new g5 f4 n4
    have f6 := all (o := .list [.ref a0, .ref a1, .ref a2]) g6 f5
    have n6 := nodup_new g6 f5 n5
    have f7 := all (o := .list [.int 0, .int 0, .int 0]) g7 f6
    have n7 := nodup_new g7 f6 n6
    have n8 := nodup_new g8 f7 n7
    have l1 := Hp.Le.set (o := .list [.int 0, .int 0, .int 0]) g1
    have l2 := l1.trans (Hp.Le.set (o := .list [.int 0, .int 0, .int 0]) g2)
    have l3 := l2.trans (Hp.Le.set (o := .list [.int 0, .int 0, .int 0]) g3)
    have l4 := l3.trans (Hp.Le.set (o := .list [.int 0, .int 0, .int 0]) g4)
    have l5 := l4.trans (Hp.Le.set (o := .list [.int 0, .int 0, .int 0]) g5)
    have l6 := l5.trans (Hp.Le.set (o := .list [.ref a0, .ref a1, .ref a2]) g6)
    have l7 := l6.trans (Hp.Le.set (o := .list [.int 0, .int 0, .int 0]) g7)
    have l8 := l7.trans (Hp.Le.set (o := .list []) g8)
    have l9 := l8.trans (Hp.Le.set (o := .tup [.ref lg, .ref pl, .ref q1, .ref q2, .ref q3, .ref q4, .ref q5]) g9)
    have nn : ∀ {Ha : Hp} {x : Addr}, H2.Le Ha → Ha x = none → H2 x = none := fun l q => by
      cases z : H2 _ with
      | none => rfl
      | some o => rw [l _ _ z] at q; cases q
    refine ⟨w, q1, q2, q3, q4, q5, a0, a1, a2, m1, m2, rfl, l9, ?_, ?_, ?_, ?_, ?_, ?_, ?_, ?_, hs_self, nn l8 g9, n8, ?_⟩
    · exact hs_new g9 (hs_new g8 (hs_new g7 (hs_new g6 (hs_new g5 (hs_new g4 (hs_new g3 (hs_new g2 hs_self)))))))
    · exact hs_new g9 (hs_new g8 (hs_new g7 (hs_new g6 (hs_new g5 (hs_new g4 (hs_new g3 hs_self))))))
    · exact hs_new g9 (hs_new g8 (hs_new g7 hs_self))
    · exact hs_new g9 (hs_new g8 hs_self)
    · exact hs_new g9 hs_self
    · exact hs_new g9 (hs_new g8 (hs_new g7 (hs_new g6 (hs_new g5 (hs_new g4 hs_self)))))
    · exact hs_new g9 (hs_new g8 (hs_new g7 (hs_new g6 (hs_new g5 hs_self))))
    · exact hs_new g9 (hs_new g8 (hs_new g7 (hs_new g6 hs_self)))
    · intro y hy
      simp only [List.mem_cons, List.not_mem_nil, or_false] at hy
      rcases hy with rfl | rfl | rfl | rfl | rfl | rfl | rfl | rfl
      · exact nn l7 g8
      · exact nn l6 g7
      · exact nn l5 g6
      · exact nn l4 g5
      · exact nn l3 g4
      · exact nn l2 g3
      · exact nn l1 g2
      · exact g1
  clear m1 m2
  rintro ⟨mm, H3⟩ ⟨w, q1, q2, q3, q4, q5, a0, a1, a2, m1, m2, m3, l3, e1, e2, e3, e4, e5, f0, f1, f2, ew, nw, nd2, fr2⟩
  obtain ⟨A, K, hw, qlg, q0, kw, knl4, kn4⟩ := wat_start klg knl kn1 hlo dr du ch kn2 kpl kp0 kp1 kp2 fr l3 e1 e2 e3 e4 e5 f0 f1 f2 ew nd2 fr2
  subst qlg q0
  clear klg knl kn1 hlo dr du ch kn2 kpl kp0 kp1 kp2 fr l3 e1 e2 e3 e4 e5 f0 f1 f2 ew nd2 fr2 nw nd
  let Nx6 : St → Prop := fun σ => Nms σ.m [("nums", .ref nl), ("logs", .ref A.lg), ("w", .ref w)] ∧ ∃ A' S, Wat σ.H K w A' S ∧ G 8 S
  refine ss_mid Nx6 ?_ ?_
  · with_reducible refine' s_for (w_call ?_)
    refine' gl_range ‹_› (kof ‹_› rfl) ?_
    refine' cv_raw rfl ?_
    with_reducible refine' w_es_cons (w_int (w_es_nil (f_range1 (fun _ _ => ?_))))
    refine' it_rgN hg_self (by lia) ?_
    with_reducible refine' fun _ _ => itx ?_
    rename_i rg hrg it hit
    have hw0 := Wat.new0 (o := .rg 0 8) hrg hw
    have kit : K it = none := hw0.non hit
    have hw1 := Wat.new (o := .ri 0 ((8 - 0 : Int).toNat : Int)) hit hw0
    let Ix7 : Int → Nat → St → Prop := fun x n σ => ∃ i : Nat, x = i ∧ i + n = 8 ∧ Nms σ.m [("nums", .ref nl), ("logs", .ref A.lg), ("w", .ref w)] ∧ ∃ A' S, Wat σ.H (K.set it (.ri x n)) w A' S ∧ G i S
    refine loop_rg (n := 8) Ix7 ?_ ?_ ?_ (by with_unfolding_all rfl) ⟨0, rfl, rfl, (nmk3 m1 m2 m3), A, sta0, hw1, P.g0⟩
    · rintro x n σ ⟨i, _, _, _, A', S, h, _⟩
      exact h.Kl _ _ hs_self
    · clear m1 m2 m3 hw hw0 hw1
      rintro x k ⟨mm2, H4⟩ ⟨i, rfl, ei, hN43, A', S, hw2, gi⟩
      refine nel3 hN43 fun m1 m2 m3 => ?_
      clear hN43
      have hw3 := Wat.put (o' := .ri ((i : Int) + 1) k) hs_self rfl hw2
      rw [set_set] at hw3
      have knl5 := hw3.Kl _ _ (hs_new kit knl4)
      have hi8 : i < 8 := by (first | lia | omega)
      have gd : 0 ≤ nu.getD (((i : Int)) % (nu.length : Int)).toNat 0 ∧ nu.getD (((i : Int)) % (nu.length : Int)).toNat 0 < 999983 := by
        have b1 := Int.emod_nonneg (i : Int) (show (nu.length : Int) ≠ 0 by (first | lia | omega))
        have b2 := Int.emod_lt_of_pos (i : Int) (show 0 < (nu.length : Int) by (first | lia | omega))
        have lt : (((i : Int)) % (nu.length : Int)).toNat < nu.length := by (first | lia | omega)
        rw [List.getD_eq_getElem?_getD, List.getElem?_eq_getElem lt]
        exact hnu _ (List.getElem_mem lt)
      have dv : 0 ≤ (i : Int) / (nu.length : Int) ∧ (i : Int) / (nu.length : Int) ≤ 8 := by
        refine ⟨Int.ediv_nonneg (by (first | lia | omega)) (by (first | lia | omega)), ?_⟩
        exact Int.le_trans (Int.ediv_le_self _ (by (first | lia | omega))) (by (first | lia | omega))
      obtain ⟨nn, hnn⟩ : ∃ nn : Nat, nu.getD (((i : Int)) % (nu.length : Int)).toNat 0 + 7919 * ((i : Int) / (nu.length : Int)) = nn := ⟨_, (Int.toNat_of_nonneg (by (first | lia | omega))).symm⟩
      with_reducible refine' as_name ?_
      refine' st_local (lof ‹_› ⟨rfl, rfl⟩) ?_
      with_reducible refine' s_one (s_if (t_bool (a_or (t_not (t_val (w_call ?_))))))
      refine' gl__law_act ‹_› (kof ‹_› rfl) ?_
      refine' cv_ref (kp_of ‹_› rfl) ?_
      with_reducible refine' w_es_cons ?_
      refine' w_local m3 ?_
      with_reducible refine' w_es_cons (w_call ?_)
      refine' gl__law_draw ‹_› (kof ‹_› rfl) ?_
      refine' cv_ref (kp_of ‹_› rfl) ?_
      with_reducible refine' w_es_cons ?_
      refine' w_local m1 ?_
      with_reducible refine' w_es_cons ?_
      refine' w_local rfl ?_
      with_reducible refine' w_es_nil ?_
      refine' Fn.go (fn_law_draw ‹_› (hg_wat hw3 (hs_new kit knl4)) (by lia) (by lia) ?_) (Room.le ‹_› (by decide))
      with_reducible refine' w_es_cons (w_bin (w_int ?_))
      refine' w_local rfl ?_
      with_reducible refine' b_add (w_es_nil ?_)
      rw [hnn]
      refine Fn.go (fn_act hD hw3 (P.ready i S hi8 gi) ⟨by (first | lia | omega), by (first | lia | omega)⟩ (by (first | lia | omega)) ?_) (Room.le ‹_› (by decide))
      intro H5 A2 hw4
      have sf := P.safe i S nn hi8 gi
      with_reducible refine' tr_bool ?_
      refine' br_F rfl ?_
      with_reducible refine' a_or (t_not (t_val (w_call ?_)))
      refine' gl__law_safe ‹_› (kof ‹_› rfl) ?_
      refine' cv_ref (kp_of ‹_› rfl) ?_
      with_reducible refine' w_es_cons ?_
      refine' w_local m3 ?_
      with_reducible refine' w_es_nil ?_
      refine Fn.go (fn_safe hD hw4 sf.hz sf.hy sf.hzs sf.hs ?_) (Room.le ‹_› (by decide))
      intro H6 hw5
      with_reducible refine' tr_bool ?_
      refine' br_F rfl ?_
      with_reducible refine' a_or_nil (br_f (s_nil (tu_next ?_)))
      exact ⟨i + 1, by (first | lia | omega), by (first | lia | omega), (nmk3 m1 m2 m3), A2, _, hw5, P.step i S nn hi8 gi⟩
    · clear m1 m2 m3 hw hw0 hw1
      rintro x ⟨mm2, H4⟩ ⟨i, rfl, ei, hN44, A', S, hw2, gi⟩
      refine nel3 hN44 fun m1 m2 m3 => ?_
      clear hN44
      have hw3 := Wat.del hs_self rfl hw2
      rw [del_set kit] at hw3
      have : i = 8 := by (first | lia | omega)
      subst this
      with_reducible refine' md_next ?_
      exact ⟨(nmk3 m1 m2 m3), A', S, hw3, gi⟩
  clear m1 m2 m3 hw
  rintro ⟨mm, H4⟩ ⟨hN45, A', S, hw, g8⟩
  refine nel3 hN45 fun m1 m2 m3 => ?_
  clear hN45
  have sme := hw.same kw
  have klg := hw.lg
  rw [sme.1] at klg
  rw [← sme.2.1] at kn4
  let Nx8 : St → Prop := fun σ => Nms σ.m [("logs", .ref A.lg), ("w", .ref w)] ∧ H4.Le σ.H
  refine ss_mid Nx8 ?_ ?_
  · with_reducible refine' s_for (w_tuple (w_es_cons (w_tuple (w_es_cons (w_int (w_es_cons (w_int (w_es_nil ?_))))))))
    refine' ⟨(Nat.le_of_ble_eq_true rfl), ?_⟩
    with_reducible refine' fun _ _ => w_es_cons (w_tuple (w_es_cons (w_int (w_es_cons (w_int (w_es_nil ?_))))))
    refine' ⟨(Nat.le_of_ble_eq_true rfl), ?_⟩
    with_reducible refine' fun _ _ => w_es_cons (w_tuple (w_es_cons (w_int (w_es_cons (w_int (w_es_nil ?_))))))
    refine' ⟨(Nat.le_of_ble_eq_true rfl), ?_⟩
    with_reducible refine' fun _ _ => w_es_nil ?_
    refine' ⟨(Nat.le_of_ble_eq_true rfl), ?_⟩
    with_reducible refine' fun _ _ => it_tup hg_self (fun _ _ => itx ?_)
    rename_i t0 g0 t1 g1 t2 g2 tt gt it hit
    have l0 := Hp.Le.set (o := .tup [.int 0, .int 1]) (show H4 t0 = none from g0)
    have l1 := l0.trans (Hp.Le.set (o := .tup [.int 0, .int 2]) g1)
    have l2 := l1.trans (Hp.Le.set (o := .tup [.int 1, .int 2]) g2)
    have l3 := l2.trans (Hp.Le.set (o := .tup [.ref t0, .ref t1, .ref t2]) gt)
    have k0 : (((((H4.set t0 (.tup [.int 0, .int 1])).set t1 (.tup [.int 0, .int 2])).set t2 (.tup [.int 1, .int 2])).set tt (.tup [.ref t0, .ref t1, .ref t2]))) t0 = some (.tup [.int ((0 : Nat) : Int), .int ((1 : Nat) : Int)]) := hs_new gt (hs_new g2 (hs_new g1 hs_self))
    have k1 : (((((H4.set t0 (.tup [.int 0, .int 1])).set t1 (.tup [.int 0, .int 2])).set t2 (.tup [.int 1, .int 2])).set tt (.tup [.ref t0, .ref t1, .ref t2]))) t1 = some (.tup [.int ((0 : Nat) : Int), .int ((2 : Nat) : Int)]) := hs_new gt (hs_new g2 hs_self)
    have k2 : (((((H4.set t0 (.tup [.int 0, .int 1])).set t1 (.tup [.int 0, .int 2])).set t2 (.tup [.int 1, .int 2])).set tt (.tup [.ref t0, .ref t1, .ref t2]))) t2 = some (.tup [.int ((1 : Nat) : Int), .int ((2 : Nat) : Int)]) := hs_new gt hs_self
    have k3 : (((((H4.set t0 (.tup [.int 0, .int 1])).set t1 (.tup [.int 0, .int 2])).set t2 (.tup [.int 1, .int 2])).set tt (.tup [.ref t0, .ref t1, .ref t2]))) tt = some (.tup [.ref t0, .ref t1, .ref t2]) := hs_self
    have hit' : (((((H4.set t0 (.tup [.int 0, .int 1])).set t1 (.tup [.int 0, .int 2])).set t2 (.tup [.int 1, .int 2])).set tt (.tup [.ref t0, .ref t1, .ref t2]))) it = none := hit
    show c.Loop it _ _ _ ⟨mm, ((((H4.set t0 (.tup [.int 0, .int 1])).set t1 (.tup [.int 0, .int 2])).set t2 (.tup [.int 1, .int 2])).set tt (.tup [.ref t0, .ref t1, .ref t2])).set it (.ti tt 0)⟩
    generalize (((H4.set t0 (.tup [.int 0, .int 1])).set t1 (.tup [.int 0, .int 2])).set t2 (.tup [.int 1, .int 2])).set tt (.tup [.ref t0, .ref t1, .ref t2]) = Hb at l3 k0 k1 k2 k3 hit' ⊢
    clear g0 g1 g2 gt hit l0 l1 l2
    let Ix9 : Nat → St → Prop := fun j σ => Nms σ.m [("logs", .ref A.lg), ("w", .ref w)] ∧ σ.H it = some (.ti tt j) ∧ Hb.Le σ.H
    refine loop_tupT (l := tt) (vs := [.ref t0, .ref t1, .ref t2]) Ix9 ?_ ?_ ?_ (Nat.zero_le _) ⟨(nmk2 m2 m3), hs_self, Hp.Le.set _ hit'⟩
    · rintro j σ ⟨_, h1, h2⟩; exact ⟨h1, h2 _ _ k3⟩
    · clear m1 m2 m3
      rintro j v ⟨mm2, H5⟩ lt hv ⟨hN46, h1, l5⟩
      refine nel2 hN46 fun m1 m2 => ?_
      clear hN46
      obtain ⟨x, y, tq, hx, hy, rfl, htq⟩ : ∃ (x y : Nat) (tq : Addr), x < 3 ∧ y < 3 ∧ v = .ref tq ∧ Hb tq = some (.tup [.int (x : Int), .int (y : Int)]) := by
        match j, lt with
        | 0, _ => cases hv; exact ⟨0, 1, t0, by decide, by decide, rfl, k0⟩
        | 1, _ => cases hv; exact ⟨0, 2, t1, by decide, by decide, rfl, k1⟩
        | 2, _ => cases hv; exact ⟨1, 2, t2, by decide, by decide, rfl, k2⟩
      have l6 : Hb.Le (H5.set it (.ti tt (j + 1))) := Hp.Le.setN hit' l5
      have h6 : (H5.set it (.ti tt (j + 1))) it = some (.ti tt (j + 1)) := hs_self
      show c.Asg Nope _ _ _ ⟨mm2, H5.set it (.ti tt (j + 1))⟩
      generalize H5.set it (.ti tt (j + 1)) = H6 at l6 h6 ⊢
      have hw2 := hw.le (l3.trans l6)
      have htq6 := l6 _ _ htq
      have klg6 := (l3.trans l6) _ _ klg
      have ex := P.hz 8 S g8 x hx
      have ey := P.hz 8 S g8 y hy
      refine' as_tup htq6 rfl ?_
      with_reducible refine' as_cons ?_
      refine' st_local (lof ‹_› ⟨rfl, rfl⟩) ?_
      with_reducible refine' as_cons ?_
      refine' st_local (lof ‹_› ⟨rfl, rfl⟩) ?_
      with_reducible refine' as_nil (s_one (s_if (t_not (t_val (w_call ?_)))))
      refine' gl__law_alike ‹_› (kof ‹_› rfl) ?_
      refine' cv_ref (kp_of ‹_› rfl) ?_
      with_reducible refine' w_es_cons (w_call ?_)
      refine' gl__law_rows ‹_› (kof ‹_› rfl) ?_
      refine' cv_ref (kp_of ‹_› rfl) ?_
      with_reducible refine' w_es_cons (w_sub ?_)
      refine' w_local m1 ?_
      refine' w_local rfl ?_
      refine' i_list klg6 (by lia) (by lia) (tri_at ‹_›) ?_
      with_reducible refine' w_es_nil ?_
      refine' Fn.go (fn_law_rows ‹_› (Wat.lo hw2 _ hx) ?_) (Room.le ‹_› (by decide))
      intro H7 n7 vs7 l7 hn7 hv7 hr7
      have hw3 := hw2.le l7
      have klg7 := l7 _ _ klg6
      with_reducible refine' w_es_cons (w_call ?_)
      refine' gl__law_rows ‹_› (kof ‹_› rfl) ?_
      refine' cv_ref (kp_of ‹_› rfl) ?_
      with_reducible refine' w_es_cons (w_sub ?_)
      refine' w_local m1 ?_
      refine' w_local rfl ?_
      refine' i_list klg7 (by lia) (by lia) (tri_at ‹_›) ?_
      with_reducible refine' w_es_nil ?_
      refine' Fn.go (fn_law_rows ‹_› (Wat.lo hw3 _ hy) ?_) (Room.le ‹_› (by decide))
      intro H8 n8 vs8 l8 hn8 hv8 hr8
      with_reducible refine' w_es_nil ?_
      refine Fn.go (fn_alike hD (l8 _ _ hv7) (hr7.le l8) hv8 hr8 ⟨ex.1, ey.1⟩ (fun k h1 h2 h3 => P.alike S g8 x y k hx hy h1 h2 h3) ?_) (Room.le ‹_› (by decide))
      intro H9 l9
      with_reducible refine' tr_bool ?_
      refine' br_F rfl ?_
      with_reducible refine' s_nil (tu_next ?_)
      exact ⟨(nmk2 m1 m2), l9 _ _ (l8 _ _ (l7 _ _ h6)), ((l6.trans l7).trans l8).trans l9⟩
    · clear m1 m2 m3
      rintro ⟨mm2, H5⟩ ⟨hN47, h1, l5⟩
      refine nel2 hN47 fun m1 m2 => ?_
      clear hN47
      exact ⟨(nmk2 m1 m2), l3.trans (Hp.Le.del l5 hit')⟩
  clear m1 m2 m3
  rintro ⟨mm, H5⟩ ⟨hN48, l5⟩
  refine nel2 hN48 fun m1 m2 => ?_
  clear hN48
  replace hw := hw.le l5
  clear klg l5
  have hz3 : ∀ i, i < 3 → (S.pl i).length ≤ 40 := fun i hi => by have z := P.hz 8 S g8 i hi; rw [← z.2]; exact z.1
  have kn5 := hw.Kl _ _ kn4
  let Nx10 : St → Prop := fun σ => Nms σ.m [("w", .ref w)] ∧ H5.Le σ.H ∧ ∃ el ad, σ.m "ends" = some (.ref el) ∧ Prs σ.H el ad (fun i => lastT (S.pl i)) (fun i => ((S.pl i).length : Int))
  refine ss_mid Nx10 ?_ ?_
  · refine s_comp (cl := [("plain", n)]) ?_ ?_ ?_
    · exact clos_of cc (by with_unfolding_all rfl)
    · with_reducible refine' w_call ?_
      refine' gl_range ‹_› (kof ‹_› rfl) ?_
      refine' cv_raw rfl ?_
      with_reducible refine' w_es_cons (w_int (w_es_nil (f_range1 (fun _ _ => ?_))))
      refine' it_rgN hg_self (by lia) ?_
      with_reducible refine' fun _ _ => ?_
      rename_i rg hrg it hit
      have hw2 := Wat.new0 (o := .rg 0 3) hrg hw
      have lr := Hp.Le.set (o := .rg 0 3) (show H5 rg = none from hrg)
      refine block_rgm (n := 3) (fun i y H' => ∃ b, y = .ref b ∧ H' b = some (.tup [.int (lastT (S.pl i)), .int (S.pl i).length])) ?_ hit (by decide) (relb cs (by with_unfolding_all rfl)) (by exact ⟨rfl, rfl⟩) ?_ ?_
      · rintro j v Ha Hb t ⟨b, e1, e2⟩; exact ⟨b, e1, t _ _ e2⟩
      · intro c' cD' cs' cc' cr' i m' H1 l1 hi3
        have hD' : IsD c'.D := by rw [cD']; exact hD
        have cr2 := cr' _ cr
        have hw3 := hw2.le l1
        have kk1 := hw3.Kl _ _ kn4
        have zi := hz3 i hi3
        with_reducible refine' w_call ?_
        refine' gl__law_end ‹_› (kof ‹_› rfl) ?_
        refine' cv_ref (kp_of ‹_› rfl) ?_
        with_reducible refine' w_es_cons (w_sub ?_)
        refine' w_cell (clof ‹_› rfl) (hg_wat hw3 kn4) (kof ‹_› rfl) ?_
        refine' w_local rfl ?_
        refine' i_list (Wat.h0 ‹_›) (by lia) (by lia) (tri_at ‹_›) ?_
        with_reducible refine' w_es_nil ?_
        refine' Fn.go (fw_end ‹_› hw3 hi3 (by lia) ?_) (Room.le ‹_› (by decide))
        with_reducible refine' fun _ _ => ?_
        exact ⟨Hp.Le.set _ ‹_›, _, rfl, hs_self⟩
      · intro acc H' ws l1 ha h1 h2 h3
        refine ⟨lof cs ⟨rfl, rfl⟩, ⟨m2, trivial⟩, lr.trans l1, acc, ?_⟩
        match ws, h2 with
        | [y0, y1, y2], _ =>
          obtain ⟨b0, rfl, k0⟩ := h3 0 y0 rfl
          obtain ⟨b1, rfl, k1⟩ := h3 1 y1 rfl
          obtain ⟨b2, rfl, k2⟩ := h3 2 y2 rfl
          refine ⟨fun i => if i = 0 then b0 else if i = 1 then b1 else b2, rfl, h1, fun i hi => ?_⟩
          match i, hi with
          | 0, _ => exact k0
          | 1, _ => exact k1
          | 2, _ => exact k2
    · exact swap_of cs (by with_unfolding_all rfl)
  clear m1 m2 kn5
  rintro ⟨mm, H6⟩ ⟨⟨m2, _⟩, l6, el, ad, m1, hP⟩
  replace hw := hw.le l6
  let Nx11 : St → Prop := fun σ => Nms σ.m [("w", .ref w)] ∧ σ.H = H6 ∧ ∃ m : Nat, m < 3 ∧ σ.m "m" = some (.int m) ∧ ∀ i, i < 3 → okB S m i = true
  refine ss_mid Nx11 ?_ ?_
  · with_reducible refine' s_assign (w_meth ?_)
    refine' w_local m1 ?_
    refine m_index hP.l ?_
    refine' cm_one rfl ?_
    with_reducible refine' w_es_cons (w_call ?_)
    refine' gl_max ‹_› (kof ‹_› rfl) ?_
    refine' cv_raw rfl ?_
    with_reducible refine' w_es_cons ?_
    refine' w_local m1 ?_
    with_reducible refine' w_es_nil ?_
    refine f_maxP (by assumption) hP fun k hk hge => ?_
    with_reducible refine' w_es_nil ?_
    refine c_indexP (by assumption) hP hk fun j hj q1 q2 => ?_
    refine' st_local (lof ‹_› ⟨rfl, rfl⟩) ?_
    with_reducible refine' md_next ?_
    refine ⟨⟨m2, trivial⟩, rfl, j, hj, rfl, fun i hi => ?_⟩
    have z := hge i hi
    have q1 : lastT (S.pl j) = lastT (S.pl k) := q1
    have q2 : ((S.pl j).length : Int) = (S.pl k).length := q2
    rw [okB, q1, q2]; exact z
  clear m1 m2 hP l6
  rintro ⟨mm, H7⟩ ⟨⟨m1, _⟩, eH, m, hm, m2, hok⟩
  have eH : H7 = H6 := eH
  subst eH
  replace m1 : mm "w" = some (.ref w) := m1
  replace m2 : mm "m" = some (.int m) := m2
  rw [sme.2.1] at kn4
  obtain ⟨S1, S2, S3, S4, z, F⟩ := P.fin S m g8 hm hok
  have b1 : (((m : Int) + 1).fmod 3) = (((m + 1) % 3 : Nat) : Int) := nmod (n := m + 1) (by decide)
  have b2 : (((m : Int) + 2).fmod 3) = (((m + 2) % 3 : Nat) : Int) := nmod (n := m + 2) (by decide)
  have ha3 : (m + 1) % 3 < 3 := Nat.mod_lt _ (by decide)
  have hb3 : (m + 2) % 3 < 3 := Nat.mod_lt _ (by decide)
  let Nx12 : St → Prop := fun σ => Nms σ.m [("w", .ref w), ("m", .int m), ("a", .int ((m + 1) % 3 : Nat))] ∧ σ.H = H7
  refine ss_mid Nx12 ?_ ?_
  · with_reducible refine' s_assign (w_bin (w_bin ?_))
    refine' w_local m2 ?_
    with_reducible refine' w_int (b_add (w_int (b_mod (by decide) ?_)))
    refine' st_local (lof ‹_› ⟨rfl, rfl⟩) ?_
    with_reducible refine' md_next ?_
    exact ⟨⟨m1, m2, by rw [← b1]; rfl, trivial⟩, rfl⟩
  clear m1 m2
  rintro ⟨mm, H8⟩ ⟨hN49, e⟩
  refine nel3 hN49 fun m1 m2 m3 => ?_
  clear hN49
  have e : H8 = H7 := e
  subst e
  let Nx13 : St → Prop := fun σ => Nms σ.m [("w", .ref w), ("m", .int m), ("a", .int ((m + 1) % 3 : Nat)), ("b", .int ((m + 2) % 3 : Nat))] ∧ σ.H = H8
  refine ss_mid Nx13 ?_ ?_
  · with_reducible refine' s_assign (w_bin (w_bin ?_))
    refine' w_local m2 ?_
    with_reducible refine' w_int (b_add (w_int (b_mod (by decide) ?_)))
    refine' st_local (lof ‹_› ⟨rfl, rfl⟩) ?_
    with_reducible refine' md_next ?_
    exact ⟨⟨m1, m2, m3, by rw [← b2]; rfl, trivial⟩, rfl⟩
  clear m1 m2 m3 b1 b2
  rintro ⟨mm, H9⟩ ⟨hN50, e⟩
  refine nel4 hN50 fun m1 m2 m3 m4 => ?_
  clear hN50
  have e : H9 = H8 := e
  subst e
  let Nx14 : St → Prop := fun σ => Nms σ.m [("w", .ref w), ("m", .int m), ("a", .int ((m + 1) % 3 : Nat)), ("b", .int ((m + 2) % 3 : Nat))] ∧ ∃ A2, Wat σ.H K w A2 S1
  refine ss_mid Nx14 ?_ ?_
  · have hw := (show Wat H9 K w A' S from hw)
    with_reducible refine' s_if (t_bool (a_or (t_not (t_val (w_call ?_)))))
    refine' gl__law_stand ‹_› (kof ‹_› rfl) ?_
    refine' cv_ref (kp_of ‹_› rfl) ?_
    with_reducible refine' w_es_cons ?_
    refine' w_local m1 ?_
    with_reducible refine' w_es_cons ?_
    refine' w_local m2 ?_
    with_reducible refine' w_es_cons (w_list (w_es_cons ?_))
    refine' w_local m3 ?_
    with_reducible refine' w_es_cons ?_
    refine' w_local m4 ?_
    with_reducible refine' w_es_nil ?_
    refine' ⟨(Nat.le_of_ble_eq_true rfl), ?_⟩
    with_reducible refine' fun _ _ => w_es_nil ?_
    rename_i hl2 hhl
    have hjs : ∀ j ∈ [(m + 1) % 3, (m + 2) % 3], j < 3 := by simp; (first | lia | omega)
    have hw2 := Wat.new (o := .list [V.int ((m + 1) % 3 : Nat), V.int ((m + 2) % 3 : Nat)]) hhl hw
    refine Fn.go (fn_stand hD hw2 hm (js := [(m + 1) % 3, (m + 2) % 3]) hs_self hjs (by simp) F.st.hz F.st.hy F.st.hc F.st.hzs F.st.hs ?_) (Room.le ‹_› (by decide))
    intro H10 A2 hw3
    have hw4 := (hw3.s (hw.non hhl)).re F.e1.symm
    with_reducible refine' tr_bool ?_
    refine' br_F rfl ?_
    with_reducible refine' a_or (t_cmp (w_sub (w_sub ?_)))
    refine' w_local m1 ?_
    with_reducible refine' w_int ?_
    refine' i_tup (Wat.w ‹_›) (by decide) (by decide) rfl ?_
    refine' w_local m2 ?_
    refine' i_list (Wat.h2 ‹_›) (by lia) (by lia) (tri_at ‹_›) ?_
    with_reducible refine' w_call ?_
    refine' gl_max ‹_› (kof ‹_› rfl) ?_
    refine' cv_raw rfl ?_
    with_reducible refine' w_es_cons (w_sub ?_)
    refine' w_local m1 ?_
    with_reducible refine' w_int ?_
    refine' i_tup (Wat.w ‹_›) (by decide) (by decide) rfl ?_
    with_reducible refine' w_es_nil (wmax hw4 (c_ne (tr_bool (br_ne ?_ ?_))))
    with_reducible refine' fun _ => br_t (s_one (s_ret (w_bool (md_ret ?_))))
    rotate_left
    with_reducible refine' fun _ => a_or_nil (br_f (s_nil (md_next ?_)))
    rotate_left
    · rename_i hq
      exact absurd F.win hq
    · exact ⟨(nmk4 m1 m2 m3 m4), A2, hw4⟩
  clear m1 m2 m3 m4 hw
  rintro ⟨mm, H10⟩ ⟨hN51, A2, hw⟩
  refine nel4 hN51 fun m1 m2 m3 m4 => ?_
  clear hN51
  have zz := F.z40
  rw [F.ez] at zz
  have sm2 := hw.same kw
  have kn5 : K n = some (.cell (some (.ref (A2.q 0)))) := by rw [sm2.2.1]; exact kn4
  let Nx15 : St → Prop := fun σ => Nms σ.m [("w", .ref w), ("m", .int m), ("a", .int ((m + 1) % 3 : Nat)), ("b", .int ((m + 2) % 3 : Nat)), ("size", .int z)] ∧ σ.H = H10
  refine ss_mid Nx15 ?_ ?_
  · have kn6 := hw.Kl _ _ kn5
    with_reducible refine' s_assign (w_call ?_)
    refine' gl_len ‹_› (kof ‹_› rfl) ?_
    refine' cv_raw rfl ?_
    with_reducible refine' w_es_cons (w_sub ?_)
    refine' w_cell (clof ‹_› rfl) (hg_wat hw kn5) (kof ‹_› rfl) ?_
    refine' w_local m2 ?_
    refine' i_list (Wat.h0 ‹_›) (by lia) (by lia) (tri_at ‹_›) ?_
    with_reducible refine' w_es_nil ?_
    refine' wl_6 hw hm (by lia) ?_
    refine' st_local (lof ‹_› ⟨rfl, rfl⟩) ?_
    with_reducible refine' md_next ?_
    refine ⟨⟨m1, m2, m3, m4, ?_, trivial⟩, rfl⟩
    rw [F.ez]; rfl
  clear m1 m2 m3 m4
  rintro ⟨mm, H11⟩ ⟨hN52, e⟩
  refine nel5 hN52 fun m1 m2 m3 m4 m5 => ?_
  clear hN52
  replace e : H11 = H10 := e
  subst e
  have Ftell : ∀ j, j < 3 → TellOk (ttF S1 S2 S3 S4 j) m (jjF m j) z z := fun j hj => by
    match j, hj with
    | 0, _ => exact F.t1
    | 1, _ => exact F.t2
    | 2, _ => exact F.t3
  have Fsafe : ∀ j, j < 3 → jjF m j = (m + 1) % 3 → SafeOk (tellS (ttF S1 S2 S3 S4 j) m (jjF m j) z z) ∧ ttF S1 S2 S3 S4 (j + 1) = sured (tellS (ttF S1 S2 S3 S4 j) m (jjF m j) z z) := fun j hj e => by
    match j, hj with
    | 0, _ => exact ⟨F.e2 ▸ F.s2, congrArg sured F.e2⟩
    | 1, _ => exact absurd rfl (jjF_eq hm e)
    | 2, _ => exact ⟨F.e4 ▸ F.s4, congrArg sured F.e4⟩
  have Fno : ∀ j, j < 3 → jjF m j ≠ (m + 1) % 3 → ttF S1 S2 S3 S4 (j + 1) = tellS (ttF S1 S2 S3 S4 j) m (jjF m j) z z := fun j hj e => by
    match j, hj with
    | 0, _ => exact absurd rfl e
    | 1, _ => exact F.e3
    | 2, _ => exact absurd rfl e
  have T0 : S1 = ttF S1 S2 S3 S4 0 := rfl
  have T3 : ttF S1 S2 S3 S4 3 = sured S4 := rfl
  let Nx16 : St → Prop := fun σ => Nms σ.m [("w", .ref w), ("m", .int m), ("a", .int ((m + 1) % 3 : Nat)), ("b", .int ((m + 2) % 3 : Nat)), ("size", .int z)] ∧ ∃ A3, Wat σ.H K w A3 (sured S4)
  refine ss_mid Nx16 ?_ ?_
  · with_reducible refine' s_for (w_tuple (w_es_cons ?_))
    refine' w_local m3 ?_
    with_reducible refine' w_es_cons ?_
    refine' w_local m4 ?_
    with_reducible refine' w_es_cons ?_
    refine' w_local m3 ?_
    with_reducible refine' w_es_nil ?_
    refine' ⟨(Nat.le_of_ble_eq_true rfl), ?_⟩
    with_reducible refine' fun _ _ => it_tup hg_self (fun _ _ => itx ?_)
    rename_i tt gt it hit
    have hwt := Wat.new (o := .tup [.int ((m + 1) % 3 : Nat), .int ((m + 2) % 3 : Nat), .int ((m + 1) % 3 : Nat)]) gt hw
    have ktt : K tt = none := hw.non gt
    have hwi := Wat.new (o := .ti tt 0) hit hwt
    have kit : (K.set tt (.tup [.int ((m + 1) % 3 : Nat), .int ((m + 2) % 3 : Nat), .int ((m + 1) % 3 : Nat)])) it = none := hwt.non hit
    have lkk : K.Le (K.set tt (.tup [.int ((m + 1) % 3 : Nat), .int ((m + 2) % 3 : Nat), .int ((m + 1) % 3 : Nat)])) := Hp.Le.set _ ktt
    have kself : (K.set tt (.tup [.int ((m + 1) % 3 : Nat), .int ((m + 2) % 3 : Nat), .int ((m + 1) % 3 : Nat)])) tt = some (.tup [.int ((m + 1) % 3 : Nat), .int ((m + 2) % 3 : Nat), .int ((m + 1) % 3 : Nat)]) := hs_self
    generalize K.set tt (.tup [.int ((m + 1) % 3 : Nat), .int ((m + 2) % 3 : Nat), .int ((m + 1) % 3 : Nat)]) = K2 at hwt hwi kit lkk kself
    have hwi := hwi.re T0
    let Ix17 : Nat → St → Prop := fun j σ => Nms σ.m [("w", .ref w), ("m", .int m), ("a", .int ((m + 1) % 3 : Nat)), ("b", .int ((m + 2) % 3 : Nat)), ("size", .int z)] ∧ ∃ A3, Wat σ.H (K2.set it (.ti tt j)) w A3 (ttF S1 S2 S3 S4 j)
    refine loop_tup (l := tt) (vs := [.int ((m + 1) % 3 : Nat), .int ((m + 2) % 3 : Nat), .int ((m + 1) % 3 : Nat)]) Ix17 ?_ ?_ ?_ (by with_unfolding_all rfl) (Nat.zero_le _) ⟨(nmk5 m1 m2 m3 m4 m5), A2, hwi⟩
    · rintro j σ ⟨_, A3, hh⟩
      exact ⟨hh.Kl _ _ hs_self, hh.Kl _ _ (hs_new kit kself)⟩
    · clear m1 m2 m3 m4 m5 hwt hwi hw kn5
      rintro j v ⟨mm3, H12⟩ lt hv ⟨hN53, A3, hw2⟩
      refine nel5 hN53 fun m1 m2 m3 m4 m5 => ?_
      clear hN53
      have hj3 : j < 3 := lt
      have ev : v = .int (jjF m j : Nat) := by
        match j, hj3 with
        | 0, _ => cases hv; rfl
        | 1, _ => cases hv; rfl
        | 2, _ => cases hv; rfl
      subst ev
      have hw3 := Wat.put (o' := .ti tt (j + 1)) hs_self rfl hw2
      rw [set_set] at hw3
      have T := Ftell j hj3
      have Fs := Fsafe j hj3
      have Fn' := Fno j hj3
      have jlt := jjF_lt (m := m) (j := j)
      have jne := jjF_ne (j := j) hm
      generalize jjF m j = J at T Fs Fn' jlt jne ⊢
      generalize ttF S1 S2 S3 S4 j = SJ at T Fs Fn' hw3
      with_reducible refine' as_name ?_
      refine' st_local (lof ‹_› ⟨rfl, rfl⟩) ?_
      with_reducible refine' s_cons (s_if (t_not (t_val (w_call ?_))))
      refine' gl__law_tell ‹_› (kof ‹_› rfl) ?_
      refine' cv_ref (kp_of ‹_› rfl) ?_
      with_reducible refine' w_es_cons ?_
      refine' w_local m1 ?_
      with_reducible refine' w_es_cons ?_
      refine' w_local m2 ?_
      with_reducible refine' w_es_cons ?_
      refine' w_local rfl ?_
      with_reducible refine' w_es_cons ?_
      refine' w_local m5 ?_
      with_reducible refine' w_es_cons ?_
      refine' w_local m5 ?_
      with_reducible refine' w_es_nil ?_
      refine Fn.go (fn_tell hD hw3 hm jlt jne T.hT T.hp T.hq T.hz T.hy T.hc T.hak T.hfc ?_) (Room.le ‹_› (by decide))
      intro H13 A4 hw4
      by_cases q : J = (m + 1) % 3
      · obtain ⟨sf, e⟩ := Fs q
        have qi : (J : Int) = ((m + 1) % 3 : Nat) := by rw [q]
        with_reducible refine' tr_bool ?_
        refine' br_F rfl ?_
        with_reducible refine' s_nil (th_next (s_one (s_if (t_bool (a_and (t_cmp ?_))))))
        refine' w_local rfl ?_
        refine' w_local m3 ?_
        with_reducible refine' c_eq (tr_bool (br_eq ?_ ?_))
        with_reducible refine' fun _ => a_and (t_not (t_val (w_call ?_)))
        refine' gl__law_safe ‹_› (kof ‹_› rfl) ?_
        refine' cv_ref (kp_of ‹_› rfl) ?_
        with_reducible refine' w_es_cons ?_
        refine' w_local m1 ?_
        with_reducible refine' w_es_nil ?_
        rotate_left
        with_reducible refine' fun _ => ?_
        exact False.elim (by lia)
        refine Fn.go (fn_safe hD hw4 sf.hz sf.hy sf.hzs sf.hs ?_) (Room.le ‹_› (by decide))
        intro H14 hw5
        with_reducible refine' tr_bool ?_
        refine' br_F rfl ?_
        with_reducible refine' br_f (s_nil (tu_next ?_))
        exact ⟨(nmk5 m1 m2 m3 m4 m5), A4, hw5.re e.symm⟩
      · have e := Fn' q
        have qi : (J : Int) ≠ ((m + 1) % 3 : Nat) := by (first | lia | omega)
        with_reducible refine' tr_bool ?_
        refine' br_F rfl ?_
        with_reducible refine' s_nil (th_next (s_one (s_if (t_bool (a_and (t_cmp ?_))))))
        refine' w_local rfl ?_
        refine' w_local m3 ?_
        with_reducible refine' c_eq (tr_bool (br_eq ?_ ?_))
        with_reducible refine' fun _ => ?_
        exact False.elim (by lia)
        with_reducible refine' fun _ => br_f (s_nil (tu_next ?_))
        exact ⟨(nmk5 m1 m2 m3 m4 m5), A4, hw4.re e.symm⟩
    · rintro ⟨mm3, H12⟩ ⟨hN54, A3, hw2⟩
      refine nel5 hN54 fun m1 m2 m3 m4 m5 => ?_
      clear hN54
      have hw3 := Wat.del hs_self rfl hw2
      rw [del_set kit] at hw3
      rw [show ([V.int ((m + 1) % 3 : Nat), .int ((m + 2) % 3 : Nat), .int ((m + 1) % 3 : Nat)] : List V).length = 3 from rfl, T3] at hw3
      exact ⟨(nmk5 m1 m2 m3 m4 m5), A3, hw3.shrink lkk⟩
  clear m1 m2 m3 m4 m5 hw
  rintro ⟨mm, H12⟩ ⟨hN55, A3, hw⟩
  refine nel5 hN55 fun m1 m2 m3 m4 m5 => ?_
  clear hN55
  have sm3 := hw.same kw
  replace kn5 : K n = some (.cell (some (.ref (A3.q 0)))) := by rw [sm3.2.1]; exact kn4
  have kn6 := hw.Kl _ _ kn5
  obtain ⟨va, hva, hra⟩ := hw.h6 ha3
  obtain ⟨vb, hvb, hrb⟩ := hw.h6 hb3
  obtain ⟨vm, hvm, hrm⟩ := hw.h6 hm
  have ea : (sured S4).pl ((m + 1) % 3) = (sured S4).pl m := (F.en _ ha3).1
  have eb : (sured S4).pl ((m + 2) % 3) = (sured S4).pl m := (F.en _ hb3).1
  refine s_one (s_ret (w_and3 ?_))
  with_reducible refine' w_cmp (w_sub ?_)
  refine' w_cell (clof ‹_› rfl) (hg_wat hw kn5) (kof ‹_› rfl) ?_
  refine' w_local m3 ?_
  refine' i_list (Wat.h0 ‹_›) (by lia) (by lia) (tri_at ‹_›) ?_
  with_reducible refine' w_sub ?_
  refine' w_cell (clof ‹_› rfl) (hg_wat hw kn5) (kof ‹_› rfl) ?_
  refine' w_local m2 ?_
  refine' i_list (Wat.h0 ‹_›) (by lia) (by lia) (tri_at ‹_›) ?_
  refine c_eqR (by assumption) hva hra hvm hrm ?_
  rw [decide_eq_true ea]
  with_reducible refine' tr_bool (br_t (w_and2 (w_cmp (w_sub ?_))))
  refine' w_cell (clof ‹_› rfl) (hg_wat hw kn5) (kof ‹_› rfl) ?_
  refine' w_local m4 ?_
  refine' i_list (Wat.h0 ‹_›) (by lia) (by lia) (tri_at ‹_›) ?_
  with_reducible refine' w_sub ?_
  refine' w_cell (clof ‹_› rfl) (hg_wat hw kn5) (kof ‹_› rfl) ?_
  refine' w_local m2 ?_
  refine' i_list (Wat.h0 ‹_›) (by lia) (by lia) (tri_at ‹_›) ?_
  refine c_eqR (by assumption) hvb hrb hvm hrm ?_
  rw [decide_eq_true eb]
  with_reducible refine' tr_bool (br_t (w_cmp (w_sub ?_)))
  refine' w_local m1 ?_
  with_reducible refine' w_int ?_
  refine' i_tup (Wat.w ‹_›) (by decide) (by decide) rfl ?_
  with_reducible refine' w_list (w_es_cons ?_)
  refine' w_local m5 ?_
  with_reducible refine' w_es_cons ?_
  refine' w_local m5 ?_
  with_reducible refine' w_es_cons ?_
  refine' w_local m5 ?_
  with_reducible refine' w_es_nil ?_
  refine' ⟨(Nat.le_of_ble_eq_true rfl), ?_⟩
  with_reducible refine' fun _ _ => ?_
  rename_i nz hnz
  have hw5 := Wat.new0 (o := .list [.int z, .int z, .int z]) hnz hw
  have c0 : (sured S4).co 0 = z := (F.en 0 (by decide)).2
  have c1 : (sured S4).co 1 = z := (F.en 1 (by decide)).2
  have c2 : (sured S4).co 2 = z := (F.en 2 (by decide)).2
  refine c_eqL (by assumption) (ds := [.int z, .int z, .int z]) (es := [.int z, .int z, .int z]) ?_ ?_ (by simp [likds, likd]) (by simp [deps, dep]) ?_
  · unfold DIs; exact ⟨_, _, rfl, hw5.h4, by simp [DsIs, DIs, c0, c1, c2]⟩
  · unfold DIs; exact ⟨_, _, rfl, hs_self, by simp [DsIs, DIs]⟩
  · have e : eqds [.int (z : Int), .int z, .int z] [.int z, .int z, .int z] = true := by simp [eqds, eqd]
    rw [e]
end

end Rk
section
set_option tactic.hygienic false
namespace Rk
theorem termAt_lt {es : List Ent} {k : Nat} (h : k < es.length) : termAt es k = (es[k]).1 := by
  unfold termAt; rw [List.getElem?_eq_getElem h]; rfl
theorem take_at {es fs : List Ent} {n k : Nat} (h : es.take n = fs.take n) (hk : k < n) : es[k]? = fs[k]? := by
  have := congrArg (fun l => l[k]?) h
  simpa [List.getElem?_take, hk] using this
theorem take_mono {es fs : List Ent} {n k : Nat} (h : es.take n = fs.take n) (hk : k ≤ n) : es.take k = fs.take k := by
  have := congrArg (fun l => l.take k) h
  simpa [List.take_take, Nat.min_eq_left hk] using this
theorem termAt_take {es fs : List Ent} {n k : Nat} (h : es.take n = fs.take n) (hk : k < n) : termAt es k = termAt fs k := by
  unfold termAt; rw [take_at h hk]
theorem take_len {es fs : List Ent} {n : Nat} (h : es.take n = fs.take n) (hn : n ≤ fs.length) : n ≤ es.length := by
  have := congrArg List.length h
  simp only [List.length_take] at this
  (first | lia | omega)
theorem take_app {es : List Ent} {x : Ent} {n : Nat} (h : n ≤ es.length) : (es ++ [x]).take n = es.take n := List.take_append_of_le_length h
theorem termAt_app {es : List Ent} {x : Ent} {k : Nat} (h : k < es.length) : termAt (es ++ [x]) k = termAt es k := by
  unfold termAt; rw [List.getElem?_append_left h]
theorem termAt_new {es : List Ent} {x : Ent} : termAt (es ++ [x]) es.length = x.1 := by
  unfold termAt; simp
theorem lastT_at {es : List Ent} (h : 0 < es.length) : lastT es = termAt es (es.length - 1) := by
  unfold lastT termAt; rw [List.getLast?_eq_getElem?]
theorem lastT_app {es : List Ent} {x : Ent} : lastT (es ++ [x]) = x.1 := by unfold lastT; simp
noncomputable def Pre (es fs : List Ent) : Prop := es.length ≤ fs.length ∧ es = fs.take es.length
theorem Pre.refl {es : List Ent} : Pre es es := ⟨Nat.le_refl _, by simp⟩
theorem Pre.take {es : List Ent} {n : Nat} : Pre (es.take n) es := by
  refine ⟨by rw [List.length_take]; exact Nat.min_le_right _ _, ?_⟩
  rw [List.length_take]
  rcases Nat.le_total n es.length with h | h
  · rw [Nat.min_eq_left h]
  · rw [Nat.min_eq_right h, List.take_of_length_le h, List.take_of_length_le (Nat.le_refl _)]
theorem Pre.eq {es fs : List Ent} (h : Pre es fs) {n : Nat} (hn : n ≤ es.length) : es.take n = fs.take n := by
  have := congrArg (fun l => l.take n) h.2
  simpa [List.take_take, Nat.min_eq_left hn] using this
theorem Pre.term {es fs : List Ent} (h : Pre es fs) {k : Nat} (hk : k < es.length) : termAt es k = termAt fs k := termAt_take (h.eq (Nat.le_refl _)) hk
structure Lg (E : Int) (pl : Nat → List Ent) : Prop where
  tp : ∀ i, i < 3 → ∀ k, k < (pl i).length → 1 ≤ termAt (pl i) k ∧ termAt (pl i) k ≤ E
  mo : ∀ i, i < 3 → ∀ k l, k ≤ l → l < (pl i).length → termAt (pl i) k ≤ termAt (pl i) l
  ml : ∀ i j, i < 3 → j < 3 → ∀ k, k < (pl i).length → k < (pl j).length → termAt (pl i) k = termAt (pl j) k → (pl i).take (k + 1) = (pl j).take (k + 1)
  st : ∀ i j, i < 3 → j < 3 → ∀ k l, k ≤ l → k < (pl i).length → l < (pl j).length → termAt (pl i) k = termAt (pl j) l → termAt (pl j) k = termAt (pl i) k
theorem Lg.pre {E : Int} {pl pl' : Nat → List Ent} (h : Lg E pl) (hp : ∀ i, i < 3 → ∃ r, r < 3 ∧ Pre (pl' i) (pl r)) : Lg E pl' := by
  refine ⟨fun i hi k hk => ?_, fun i hi k l hkl hl => ?_, fun i j hi hj k hk hk' e => ?_, fun i j hi hj k l hkl hk hl e => ?_⟩
  · obtain ⟨r, hr, p⟩ := hp i hi
    rw [p.term hk]; exact h.tp r hr k (Nat.lt_of_lt_of_le hk p.1)
  · obtain ⟨r, hr, p⟩ := hp i hi
    rw [p.term (Nat.lt_of_le_of_lt hkl hl), p.term hl]; exact h.mo r hr k l hkl (Nat.lt_of_lt_of_le hl p.1)
  · obtain ⟨r, hr, p⟩ := hp i hi
    obtain ⟨r', hr', p'⟩ := hp j hj
    rw [p.term hk, p'.term hk'] at e
    rw [p.eq hk, p'.eq hk']
    exact h.ml r r' hr hr' k (Nat.lt_of_lt_of_le hk p.1) (Nat.lt_of_lt_of_le hk' p'.1) e
  · obtain ⟨r, hr, p⟩ := hp i hi
    obtain ⟨r', hr', p'⟩ := hp j hj
    rw [p.term hk, p'.term hl] at e
    rw [p.term hk, p'.term (Nat.lt_of_le_of_lt hkl hl)]
    exact h.st r r' hr hr' k l hkl (Nat.lt_of_lt_of_le hk p.1) (Nat.lt_of_lt_of_le hl p'.1) e
theorem Lg.app {E E' : Int} {pl : Nat → List Ent} {m : Nat} {x : Ent} (h : Lg E pl) (hm : m < 3) (hE : E ≤ E') (hx : 1 ≤ x.1 ∧ x.1 ≤ E') (h1 : ∀ k, k < (pl m).length → termAt (pl m) k ≤ x.1)
    (h2 : ∀ j, j < 3 → ∀ k, k < (pl j).length → termAt (pl j) k = x.1 → k < (pl m).length ∧ termAt (pl m) k = x.1) : Lg E' (upd pl m (pl m ++ [x])) := by
  have ln : (pl m ++ [x]).length = (pl m).length + 1 := by simp
  refine ⟨fun i hi k hk => ?_, fun i hi k l hkl hl => ?_, fun i j hi hj k hk hk' e => ?_, fun i j hi hj k l hkl hk hl e => ?_⟩
  · by_cases q : i = m
    · subst q
      rw [upd_self] at hk ⊢
      by_cases z : k < (pl i).length
      · rw [termAt_app z]; have := h.tp i hi k z; (first | lia | omega)
      · have : k = (pl i).length := by (first | lia | omega)
        rw [this, termAt_new]; exact hx
    · rw [upd_ne q] at hk ⊢; have := h.tp i hi k hk; (first | lia | omega)
  · by_cases q : i = m
    · subst q
      rw [upd_self] at hl ⊢
      by_cases z : l < (pl i).length
      · rw [termAt_app z, termAt_app (by (first | lia | omega))]; exact h.mo i hi k l hkl z
      · have : l = (pl i).length := by (first | lia | omega)
        rw [this, termAt_new]
        by_cases z' : k < (pl i).length
        · rw [termAt_app z']; exact h1 k z'
        · have : k = (pl i).length := by (first | lia | omega)
          rw [this, termAt_new]; exact Int.le_refl _
    · rw [upd_ne q] at hl ⊢; exact h.mo i hi k l hkl hl
  · by_cases q : i = m <;> by_cases q' : j = m
    · rw [q, q']
    · subst q
      rw [upd_self] at hk e ⊢
      rw [upd_ne q'] at hk' e ⊢
      by_cases z : k < (pl i).length
      · rw [termAt_app z] at e
        rw [take_app z]; exact h.ml i j hi hj k z hk' e
      · have q2 : k = (pl i).length := by (first | lia | omega)
        rw [q2, termAt_new] at e
        have := (h2 j hj k hk' (by rw [q2]; exact e.symm)).1
        (first | lia | omega)
    · subst q'
      rw [upd_self] at hk' e ⊢
      rw [upd_ne q] at hk e ⊢
      by_cases z : k < (pl j).length
      · rw [termAt_app z] at e
        rw [take_app z]; exact h.ml i j hi hj k hk z e
      · have q2 : k = (pl j).length := by (first | lia | omega)
        rw [q2, termAt_new] at e
        have := (h2 i hi k hk (by rw [q2]; exact e)).1
        (first | lia | omega)
    · rw [upd_ne q] at hk e ⊢
      rw [upd_ne q'] at hk' e ⊢
      exact h.ml i j hi hj k hk hk' e
  · by_cases q : i = m <;> by_cases q' : j = m
    · rw [q, q']
    · subst q
      rw [upd_self] at hk e ⊢
      rw [upd_ne q'] at hl e ⊢
      by_cases z : k < (pl i).length
      · rw [termAt_app z] at e ⊢
        exact h.st i j hi hj k l hkl z hl e
      · have q2 : k = (pl i).length := by (first | lia | omega)
        rw [q2, termAt_new] at e
        have := (h2 j hj l hl e.symm).1
        (first | lia | omega)
    · subst q'
      rw [upd_self] at hl e ⊢
      rw [upd_ne q] at hk e ⊢
      by_cases z : l < (pl j).length
      · rw [termAt_app z] at e
        rw [termAt_app (by (first | lia | omega))]
        exact h.st i j hi hj k l hkl hk z e
      · have q2 : l = (pl j).length := by (first | lia | omega)
        rw [q2, termAt_new] at e
        have w := h2 i hi k hk e
        rw [termAt_app w.1, w.2, e]
    · rw [upd_ne q] at hk e ⊢
      rw [upd_ne q'] at hl e ⊢
      exact h.st i j hi hj k l hkl hk hl e
end Rk

end
section
namespace Rk
theorem filt_nil {P : Nat → Bool} : ∀ {n b : Nat}, filt P b n = [] → ∀ x, b ≤ x → x < b + n → P x = false
  | 0, b, h, x, h1, h2 => by (first | lia | omega)
  | n + 1, b, h, x, h1, h2 => by
    rw [filt] at h
    split at h
    · cases h
    · rename_i q
      by_cases z : x = b
      · rw [z]; simpa using q
      · exact filt_nil h x (by (first | lia | omega)) (by (first | lia | omega))
theorem filt_cons {P : Nat → Bool} : ∀ {n b u : Nat} {r : List Nat}, filt P b n = u :: r → b ≤ u ∧ u < b + n ∧ P u = true ∧ ∀ x, b ≤ x → x < u → P x = false
  | 0, b, u, r, h => by cases h
  | n + 1, b, u, r, h => by
    rw [filt] at h
    split at h
    · rename_i q
      cases h
      exact ⟨Nat.le_refl _, by (first | lia | omega), q, fun x h1 h2 => by (first | lia | omega)⟩
    · rename_i q
      obtain ⟨h1, h2, h3, h4⟩ := filt_cons h
      refine ⟨by (first | lia | omega), by (first | lia | omega), h3, fun x h5 h6 => ?_⟩
      by_cases z : x = b
      · rw [z]; simpa using q
      · exact h4 x (by (first | lia | omega)) h6
theorem take_ext {es fs : List Ent} {b n : Nat} (h : fs.take b = es.take b) (hx : ∀ x, b ≤ x → x < n → fs[x]? = es[x]?) : fs.take n = es.take n := by
  refine List.ext_getElem? fun k => ?_
  rw [List.getElem?_take, List.getElem?_take]
  by_cases z : k < n
  · rw [if_pos z, if_pos z]
    by_cases q : k < b
    · exact take_at h q
    · exact hx k (by (first | lia | omega)) z
  · rw [if_neg z, if_neg z]
structure Told (es fs P' : List Ent) (n : Nat) : Prop where
  t1 : P'.take n = es.take n
  t2 : ∀ k, k ≤ es.length → fs.take k = es.take k → P'.take k = es.take k
  t3 : P' = fs ∨ P' = es.take n
noncomputable def tellL (es fs : List Ent) (b n : Nat) : List Ent := match unl es fs b (n - b) with
  | [] => fs
  | u :: _ => fs.take u ++ (es.take n).drop u
theorem told {es fs : List Ent} {b n : Nat} (h : fs.take b = es.take b) (hb : b ≤ n) (hn : n ≤ es.length) : Told es fs (tellL es fs b n) n ∧ ((∃ u, b ≤ u ∧ u < n ∧ unl es fs b (n - b) = u :: (unl es fs b (n - b)).tail ∧ tellL es fs b n = es.take n ∧ ∀ k, k ≤ es.length → fs.take k = es.take k → k ≤ u) ∨ unl es fs b (n - b) = []) := by
  unfold tellL
  split
  · rename_i q
    refine ⟨⟨take_ext h fun x h1 h2 => ?_, fun k _ e => e, .inl rfl⟩, .inr q⟩
    have := filt_nil q x h1 (by (first | omega | lia))
    simp only [decide_eq_false_iff_not, not_or, Classical.not_not] at this
    exact this.2
  · rename_i u r q
    obtain ⟨h1, h2, h3, h4⟩ := filt_cons q
    have e1 : fs.take u = es.take u := take_ext h fun x h5 h6 => by
      have := h4 x h5 h6
      simp only [decide_eq_false_iff_not, not_or, Classical.not_not] at this
      exact this.2
    have e2 : fs.take u ++ (es.take n).drop u = es.take n := by
      have : fs.take u = (es.take n).take u := by rw [List.take_take, Nat.min_eq_left (by (first | omega | lia)), e1]
      rw [this, List.take_append_drop]
    have hu : ∀ k, k ≤ es.length → fs.take k = es.take k → k ≤ u := fun k h5 h6 => by
      refine Classical.byContradiction fun z => ?_
      simp only [decide_eq_true_eq] at h3
      have g1 := take_at h6 (show u < k by (first | omega | lia))
      have g2 : k ≤ fs.length := take_len h6 h5
      rcases h3 with h3 | h3
      · (first | omega | lia)
      · exact h3 g1
    refine ⟨⟨by rw [e2, List.take_take, Nat.min_self], fun k h5 h6 => ?_, .inr e2⟩, .inl ⟨u, h1, by (first | omega | lia), by rw [q]; rfl, e2, hu⟩⟩
    have := hu k h5 h6
    rw [e2, List.take_take, Nat.min_eq_left (by (first | omega | lia))]
theorem tmE_at {es : List Ent} {x : Nat} : tmE es ((x : Int) + 1) = termAt es x := by
  unfold tmE termAt
  rw [show ((x : Int) + 1 - 1).toNat = x by (first | lia | omega)]
theorem fcs {es fs : List Ent} : ∀ {n b : Nat}, b + n ≤ es.length → (∀ x, b ≤ x → x < b + n → x < fs.length → termAt fs x = termAt es x → fs[x]? = es[x]?) →
    fc fs ((b : Int) + 1) ((es.take (b + n)).drop b) = match unl es fs b n with | [] => 0 | u :: _ => (u : Int) + 1
  | 0, b, h, hx => by
    rw [List.drop_eq_nil_of_le (by rw [List.length_take]; (first | lia | omega))]; rfl
  | n + 1, b, h, hx => by
    rw [show b + (n + 1) = (b + 1) + n by (first | lia | omega)]
    have lt : b < (es.take (b + 1 + n)).length := by rw [List.length_take]; (first | lia | omega)
    rw [List.drop_eq_getElem_cons lt, List.getElem_take, fc]
    have ih := fcs (es := es) (fs := fs) (n := n) (b := b + 1) (by (first | lia | omega)) (fun x h1 h2 => hx x (by (first | lia | omega)) (by (first | lia | omega)))
    rw [show ((b + 1 : Nat) : Int) + 1 = (b : Int) + 1 + 1 by (first | lia | omega)] at ih
    rw [ih]
    have key : mtch fs ((b : Int) + 1) (es[b]'(by (first | lia | omega))).1 = !decide (fs.length ≤ b ∨ fs[b]? ≠ es[b]?) := by
      unfold mtch
      rw [tmE_at, ← termAt_lt (es := es) (k := b) (by (first | lia | omega))]
      by_cases z : b < fs.length
      · rw [decide_eq_true (by (first | lia | omega)), Bool.true_and]
        by_cases q : termAt fs b = termAt es b
        · have := hx b (Nat.le_refl _) (by (first | lia | omega)) z q
          rw [q, this]; simp; (first | lia | omega)
        · have : fs[b]? ≠ es[b]? := fun e => q (by unfold termAt; rw [e])
          simp [q, this]
      · rw [decide_eq_false (by (first | lia | omega)), Bool.false_and]
        simp; (first | lia | omega)
    rw [key]
    unfold unl
    rw [filt]
    cases q : decide (fs.length ≤ b ∨ fs[b]? ≠ es[b]?)
    · simp [unl]
    · simp
theorem mrgs {es fs : List Ent} {b n : Nat} (hb : b ≤ n) (hn : n ≤ es.length) (hf : fs.take b = es.take b) (hx : ∀ x, b ≤ x → x < n → x < fs.length → termAt fs x = termAt es x → fs[x]? = es[x]?) :
    mrg fs b ((es.take n).drop b) = tellL es fs b n := by
  have e := fcs (es := es) (fs := fs) (n := n - b) (b := b) (by (first | lia | omega)) (fun x h1 h2 => hx x h1 (by (first | lia | omega)))
  rw [show b + (n - b) = n by (first | lia | omega)] at e
  unfold mrg tellL
  rw [e]
  split
  · rename_i q
    rw [if_pos rfl]
  · rename_i u r q
    obtain ⟨h1, h2, h3, h4⟩ := filt_cons q
    rw [if_neg (show ¬ ((u : Int) + 1 = 0) by (first | lia | omega))]
    unfold appE
    rw [List.drop_drop, show b + ((u : Int) + 1 - ((b : Int) + 1)).toNat = u by (first | lia | omega), show ((u : Int) + 1 - 1).toNat = u by (first | lia | omega), if_neg]
    rw [List.length_drop, List.length_take]; (first | lia | omega)
end Rk

end
section
namespace Rk
theorem backs {es fs : List Ent} (hx : ∀ x, x < es.length → x < fs.length → termAt fs x = termAt es x → fs.take (x + 1) = es.take (x + 1)) : ∀ {p : Nat}, p ≤ es.length → fs.take (backN es fs p) = es.take (backN es fs p)
  | 0, h => by rw [backN]; rfl
  | p + 1, h => by
    rw [backN]
    split
    · rename_i q
      unfold fitsB at q
      simp only [Bool.or_eq_true, beq_iff_eq, Bool.and_eq_true, decide_eq_true_eq] at q
      rcases q with q | ⟨q1, q2⟩
      · (first | lia | omega)
      · rw [show ((p + 1 : Nat) : Int) = (p : Int) + 1 by (first | lia | omega), tmE_at, tmE_at] at q2
        exact hx p (by (first | lia | omega)) (by (first | lia | omega)) q2
    · exact backs hx (by (first | lia | omega))
structure J (N : Nat) (E : Int) (L a : Nat) (S : Sta) : Prop where
  lt : L < 3
  le : ∀ i, i < 3 → (S.pl i).length ≤ N
  lo : ∀ i, i < 3 → S.lo i = S.pl i
  lc : ∀ i, i < 3 → S.lc i = S.co i ∧ 0 ≤ S.co i
  e0 : 0 ≤ E
  tE : ∀ i j, i < 3 → j < 3 → i ≠ j → E ≤ S.tm i ∨ E ≤ S.tm j
  l0 : ∀ i, i < 3 → 0 ≤ S.ld i
  ld : ∀ i, i < 3 → 0 < S.ld i → S.ld i = S.tm i ∧ S.ld i ≤ E ∧ (S.ld i = E → i = L) ∧ 0 < (S.pl i).length ∧ lastT (S.pl i) = S.ld i
  un : ∀ i j, i < 3 → j < 3 → 0 < S.ld i → S.ld i = S.ld j → i = j
  lg : Lg E S.pl
  il : ∀ i, i < 3 → 0 < S.ld i → ∀ j, j < 3 → ∀ k, k < (S.pl j).length → termAt (S.pl j) k = S.ld i → k < (S.pl i).length ∧ termAt (S.pl i) k = S.ld i
  al : a ≤ (S.pl L).length
  cc : ∀ j, j < 3 → S.co j ≤ a ∧ (S.pl j).take (S.co j).toNat = (S.pl L).take (S.co j).toNat
  su : S.su.length ≤ a ∧ S.su = (S.pl L).take S.su.length
  qh : ∀ i j, i < 3 → j < 3 → i ≠ j → (S.pl i).take a = (S.pl L).take a ∨ (S.pl j).take a = (S.pl L).take a
  lk : ∀ j, j < 3 → ∀ k, k < (S.pl j).length → (0 < a → termAt (S.pl L) (a - 1) < termAt (S.pl j) k) → (S.pl j).take a = (S.pl L).take a
  ak : ∀ i, i < 3 → 0 < S.ld i → ∀ j, j < 3 → 0 ≤ S.ak i j ∧ S.ak i j ≤ (S.pl i).length
  aL : 0 < S.ld L → S.ld L = E → ∀ j, j < 3 → (S.pl j).take (S.ak L j).toNat = (S.pl L).take (S.ak L j).toNat
theorem J.zero : J 0 0 0 0 sta0 where
  lt := by decide
  le := fun i _ => Nat.le_refl _
  lo := fun i _ => rfl
  lc := fun i _ => ⟨rfl, Int.le_refl _⟩
  e0 := Int.le_refl _
  tE := fun i j _ _ _ => .inl (Int.le_refl _)
  l0 := fun i _ => Int.le_refl _
  ld := fun i _ h => absurd h (Int.lt_irrefl 0)
  un := fun i j _ _ h => absurd h (Int.lt_irrefl 0)
  lg := ⟨fun i _ k h => absurd h (Nat.not_lt_zero _), fun i _ k l _ h => absurd h (Nat.not_lt_zero _), fun i j _ _ k h => absurd h (Nat.not_lt_zero _), fun i j _ _ k l _ h => absurd h (Nat.not_lt_zero _)⟩
  il := fun i _ h => absurd h (Int.lt_irrefl 0)
  al := Nat.le_refl _
  cc := fun j _ => ⟨Int.le_refl _, rfl⟩
  su := ⟨Nat.le_refl _, rfl⟩
  qh := fun i j _ _ _ => .inl rfl
  lk := fun j _ k h => absurd h (Nat.not_lt_zero _)
  ak := fun i _ h => absurd h (Int.lt_irrefl 0)
  aL := fun h => absurd h (Int.lt_irrefl 0)
theorem J.mono {N N' : Nat} {E : Int} {L a : Nat} {S : Sta} (h : J N E L a S) (hn : N ≤ N') : J N' E L a S := { h with le := fun i hi => Nat.le_trans (h.le i hi) hn }
section
variable {N : Nat} {E : Int} {L a m j : Nat} {S : Sta}
theorem J.held (h : J N E L a S) {i : Nat} (hi : i < 3) (e : (S.pl i).take a = (S.pl L).take a) : a ≤ (S.pl i).length := take_len e h.al
theorem J.wins (h : J N E L a S) {v : Nat} (hm : m < 3) (hv : v < 3) (hmv : v ≠ m) (ok : okB S m v = true) : (S.pl m).take a = (S.pl L).take a := by
  refine (h.qh m v hm hv (Ne.symm hmv)).elim id fun hold => ?_
  by_cases a0 : a = 0
  · rw [a0]; rfl
  have va := h.held hv hold
  have v0 : 0 < (S.pl v).length := by (first | omega | lia)
  have eT : termAt (S.pl v) (a - 1) = termAt (S.pl L) (a - 1) := termAt_take hold (by (first | omega | lia))
  have hmo := h.lg.mo v hv (a - 1) ((S.pl v).length - 1) (by (first | omega | lia)) (by (first | omega | lia))
  rw [eT, ← lastT_at v0] at hmo
  have hp := (h.lg.tp v hv ((S.pl v).length - 1) (by (first | omega | lia))).1
  rw [← lastT_at v0] at hp
  unfold okB pge at ok
  have hc : lastT (S.pl v) < lastT (S.pl m) ∨ (lastT (S.pl m) = lastT (S.pl v) ∧ (S.pl v).length ≤ (S.pl m).length) := by
    split at ok
    · rename_i q
      right
      refine ⟨by simpa using q, ?_⟩
      split at ok
      · rename_i q2; have : ((S.pl m).length : Int) = (S.pl v).length := by simpa using q2
        (first | omega | lia)
      · have := of_decide_eq_true ok; (first | omega | lia)
    · rename_i q
      left
      have := of_decide_eq_true ok
      have q' : ¬ lastT (S.pl m) = lastT (S.pl v) := by simpa using q
      (first | omega | lia)
  have m0 : 0 < (S.pl m).length := by
    rcases hc with hc | hc
    · refine Nat.pos_of_ne_zero fun z => ?_
      have : lastT (S.pl m) = 0 := by rw [List.length_eq_zero_iff.mp z]; rfl
      (first | omega | lia)
    · (first | omega | lia)
  by_cases z : termAt (S.pl L) (a - 1) < lastT (S.pl m)
  · exact h.lk m hm ((S.pl m).length - 1) (by (first | omega | lia)) fun _ => by rw [← lastT_at m0]; exact z
  · have e1 : lastT (S.pl m) = lastT (S.pl v) := by rcases hc with hc | hc <;> (first | omega | lia)
    have e2 : (S.pl v).length ≤ (S.pl m).length := by rcases hc with hc | hc <;> (first | omega | lia)
    have e3 : termAt (S.pl v) (a - 1) = termAt (S.pl m) ((S.pl m).length - 1) := by rw [← lastT_at m0, eT]; (first | omega | lia)
    have e4 := h.lg.st v m hv hm (a - 1) ((S.pl m).length - 1) (by (first | omega | lia)) (by (first | omega | lia)) (by (first | omega | lia)) e3
    have e5 := h.lg.ml m v hm hv (a - 1) (by (first | omega | lia)) (by (first | omega | lia)) e4
    rw [show a - 1 + 1 = a by (first | omega | lia)] at e5
    rw [e5, hold]
theorem votes_ex : ∀ {js : List Nat}, 1 ≤ votes S m js → ∃ v, v ∈ js ∧ okB S m v = true
  | [], h => by rw [votes] at h; (first | lia | omega)
  | j :: r, h => by
    rw [votes] at h
    by_cases q : okB S m j = true
    · exact ⟨j, List.mem_cons_self .., q⟩
    · rw [if_neg q] at h
      obtain ⟨v, h1, h2⟩ := votes_ex (js := r) (by (first | lia | omega))
      exact ⟨v, List.mem_cons_of_mem _ h1, h2⟩
theorem J.winner (h : J N E L a S) {js : List Nat} (hm : m < 3) (hjs : ∀ j ∈ js, j < 3 ∧ j ≠ m) (hv : 2 ≤ 1 + votes S m js) : (S.pl m).take a = (S.pl L).take a := by
  obtain ⟨v, h1, h2⟩ := votes_ex (S := S) (m := m) (js := js) (by (first | lia | omega))
  exact h.wins hm (hjs v h1).1 (hjs v h1).2 h2
theorem J.sures (h : J N E L a S) : ∀ i, i ≤ 3 → (sureS S i).length ≤ a ∧ sureS S i = (S.pl L).take (sureS S i).length := by
  have part : ∀ i, i < 3 → partS S i = (S.pl L).take (S.co i).toNat := fun i hi => by
    unfold partS
    rw [h.lo i hi, (h.lc i hi).1, (h.cc i hi).2]
  intro i
  induction i with
  | zero => intro _; exact h.su
  | succ i ih =>
    intro hi
    obtain ⟨h1, h2⟩ := ih (by (first | lia | omega))
    have hc := (h.cc i (by (first | lia | omega))).1
    have hc0 := (h.lc i (by (first | lia | omega))).2
    have hal := h.al
    have e : sureS S (i + 1) = (S.pl L).take (max (sureS S i).length (S.co i).toNat) := by
      rw [sureS, part i (by (first | lia | omega))]
      rcases Nat.le_total (S.co i).toNat (sureS S i).length with q | q
      · rw [Nat.max_eq_left q, List.drop_eq_nil_of_le (by rw [List.length_take]; (first | lia | omega)), List.append_nil]; exact h2
      · rw [Nat.max_eq_right q]
        conv => lhs; arg 1; rw [h2]
        have : ((S.pl L).take (S.co i).toNat).take (sureS S i).length = (S.pl L).take (sureS S i).length := by rw [List.take_take, Nat.min_eq_left q]
        rw [← this, List.take_append_drop]
    have e2 : (sureS S (i + 1)).length = max (sureS S i).length (S.co i).toNat := by rw [e, List.length_take]; (first | lia | omega)
    exact ⟨by (first | lia | omega), by rw [e2]; exact e⟩
theorem J.sured (h : J N E L a S) : J N E L a (sured S) := { h with su := h.sures 3 (Nat.le_refl _) }
theorem J.safe (h : J N E L a S) (hN : N ≤ 40) : SafeOk S where
  hz := fun i hi => by rw [h.lo i hi]; exact Nat.le_trans (h.le i hi) hN
  hy := fun i hi => ⟨h.lo i hi, (h.lc i hi).1, by rw [(h.lc i hi).1]; exact (h.lc i hi).2⟩
  hzs := fun i hi => Nat.le_trans (h.sures i hi).1 (Nat.le_trans h.al (Nat.le_trans (h.le L h.lt) hN))
  hs := fun i hi => by
    have e : partS S i = (S.pl L).take (S.co i).toNat := by unfold partS; rw [h.lo i hi, (h.lc i hi).1, (h.cc i hi).2]
    have hs := h.sures i (by (first | lia | omega))
    have hal := h.al
    have hc := (h.cc i hi).1
    have l1 : (partS S i).length = (S.co i).toNat := by rw [e, List.length_take]; (first | lia | omega)
    rw [l1, e]
    generalize (sureS S i).length = x at hs
    rw [hs.2, List.take_take, List.take_take, Nat.min_comm]
end
end Rk

end
section
set_option tactic.hygienic false
namespace Rk
section
variable {pl : Nat → List Ent} {m i n k : Nat} {x : Ent}
theorem up_le : (pl i).length ≤ (upd pl m (pl m ++ [x]) i).length := by
  by_cases q : i = m
  · rw [q, upd_self]; simp
  · rw [upd_ne q]; exact Nat.le_refl _
theorem up_keep (h : n ≤ (pl i).length) : (upd pl m (pl m ++ [x]) i).take n = (pl i).take n := by
  by_cases q : i = m
  · subst q; rw [upd_self]; exact take_app h
  · rw [upd_ne q]
theorem up_term (h : k < (pl i).length) : termAt (upd pl m (pl m ++ [x]) i) k = termAt (pl i) k := termAt_take (n := k + 1) (up_keep h) (Nat.lt_succ_self _)
theorem up_new (h : k < (upd pl m (pl m ++ [x]) i).length) : k < (pl i).length ∨ (i = m ∧ k = (pl m).length ∧ termAt (upd pl m (pl m ++ [x]) i) k = x.1) := by
  by_cases z : k < (pl i).length
  · exact .inl z
  · by_cases q : i = m
    · subst q
      rw [upd_self] at h ⊢
      have : k = (pl i).length := by simp at h; (first | lia | omega)
      exact .inr ⟨rfl, this, by rw [this]; exact termAt_new⟩
    · rw [upd_ne q] at h; exact .inl h
theorem up_len (h : (pl i).length ≤ n) : (upd pl m (pl m ++ [x]) i).length ≤ n + 1 := by
  by_cases q : i = m
  · subst q; rw [upd_self]; simp; exact h
  · rw [upd_ne q]; (first | lia | omega)
end
section
variable {N : Nat} {E T : Int} {L a m j : Nat} {S : Sta} {t : Int}
theorem J.put (h : J N E L a S) (hm : m < 3) (hl : 0 < S.ld m) : J (N + 1) E L a (putS S m t) := by
  obtain ⟨d1, d2, d3, d4, d5⟩ := h.ld m hm hl
  have top : ∀ k, k < (S.pl m).length → termAt (S.pl m) k ≤ S.ld m := fun k hk => by
    have := h.lg.mo m hm k ((S.pl m).length - 1) (by (first | lia | omega)) (by (first | lia | omega))
    rw [← lastT_at d4, d5] at this; exact this
  have hold : ∀ i, (S.pl i).take a = (S.pl L).take a → (upd S.pl m (S.pl m ++ [(S.ld m, byteArr [t])]) i).take a = (upd S.pl m (S.pl m ++ [(S.ld m, byteArr [t])]) L).take a := fun i e => by
    rw [up_keep (take_len e h.al), up_keep h.al, e]
  refine ⟨h.lt, fun i hi => up_len (h.le i hi), fun i hi => ?_, h.lc, h.e0, h.tE, h.l0, fun i hi hl' => ?_, h.un, h.lg.app hm (Int.le_refl _) ⟨?_, d2⟩ top (h.il m hm hl), fun i hi hl' j hj k hk e => ?_, Nat.le_trans h.al up_le, fun j hj => ⟨(h.cc j hj).1, ?_⟩, ⟨h.su.1, ?_⟩, fun i j hi hj q => (h.qh i j hi hj q).imp (hold i) (hold j), fun j hj k hk e => ?_, fun i hi hl' j hj => ⟨(h.ak i hi hl' j hj).1, Int.le_trans (h.ak i hi hl' j hj).2 (by exact_mod_cast up_le)⟩, fun hl' hE j hj => ?_⟩
  · show upd S.lo m (S.lo m ++ _) i = upd S.pl m (S.pl m ++ _) i
    by_cases q : i = m
    · rw [q, upd_self, upd_self, h.lo m hm]
    · rw [upd_ne q, upd_ne q, h.lo i hi]
  · obtain ⟨g1, g2, g3, g4, g5⟩ := h.ld i hi hl'
    refine ⟨g1, g2, g3, Nat.lt_of_lt_of_le g4 up_le, ?_⟩
    show lastT (upd S.pl m (S.pl m ++ _) i) = S.ld i
    by_cases q : i = m
    · rw [q, upd_self, lastT_app]
    · rw [upd_ne q]; exact g5
  · show 1 ≤ S.ld m
    (first | lia | omega)
  · rcases up_new hk with z | ⟨z1, z2, z3⟩
    · replace e : termAt (upd S.pl m (S.pl m ++ _) j) k = S.ld i := e
      rw [up_term z] at e
      obtain ⟨y1, y2⟩ := h.il i hi hl' j hj k z e
      exact ⟨Nat.lt_of_lt_of_le y1 up_le, (up_term y1).trans y2⟩
    · have e' : S.ld m = S.ld i := z3.symm.trans e
      have q := h.un i m hi hm hl' e'.symm
      subst q
      subst z1
      exact ⟨hk, e⟩
  · have q := (h.cc j hj).1
    have e := (h.cc j hj).2
    have hal := h.al
    have hc := (h.lc j hj).2
    show (upd S.pl m (S.pl m ++ _) j).take (S.co j).toNat = (upd S.pl m (S.pl m ++ _) L).take (S.co j).toNat
    rw [up_keep (take_len e (by (first | lia | omega))), up_keep (by (first | lia | omega)), e]
  · show S.su = (upd S.pl m (S.pl m ++ _) L).take S.su.length
    rw [up_keep (Nat.le_trans h.su.1 h.al)]
    exact h.su.2
  · refine hold j ?_
    rcases up_new hk with z | ⟨z1, z2, z3⟩
    · refine h.lk j hj k z fun a0 => ?_
      have := e a0
      have hal := h.al
      replace this : termAt (upd S.pl m (S.pl m ++ _) L) (a - 1) < termAt (upd S.pl m (S.pl m ++ _) j) k := this
      rw [up_term z, up_term (by (first | lia | omega))] at this
      exact this
    · subst z1
      refine h.lk j hj ((S.pl j).length - 1) (by (first | lia | omega)) fun a0 => ?_
      have := e a0
      have hal := h.al
      replace this : termAt (upd S.pl j (S.pl j ++ _) L) (a - 1) < termAt (upd S.pl j (S.pl j ++ _) j) k := this
      rw [z3, up_term (by (first | lia | omega))] at this
      rw [← lastT_at d4, d5]
      exact this
  · have e := h.aL hl' hE j hj
    have q := h.ak L h.lt hl' j hj
    show (upd S.pl m (S.pl m ++ _) j).take (S.ak L j).toNat = (upd S.pl m (S.pl m ++ _) L).take (S.ak L j).toNat
    rw [up_keep (take_len e (by (first | lia | omega))), up_keep (by (first | lia | omega)), e]
theorem J.hear (h : J N E L a S) {t l : Nat → Int} (hq : ∀ i, i < 3 → S.tm i ≤ t i) (hl : ∀ i, i < 3 → l i = 0 ∨ (l i = S.ld i ∧ t i = S.tm i)) : J N E L a { S with tm := t, ld := l } := by
  have go : ∀ i, i < 3 → 0 < l i → l i = S.ld i ∧ t i = S.tm i := fun i hi z => (hl i hi).elim (fun e => by (first | lia | omega)) id
  refine ⟨h.lt, h.le, h.lo, h.lc, h.e0, fun i j hi hj q => (h.tE i j hi hj q).imp (fun e => Int.le_trans e (hq i hi)) (fun e => Int.le_trans e (hq j hj)), fun i hi => ?_, fun i hi z => ?_, fun i j hi hj z e => ?_, h.lg, fun i hi z => ?_, h.al, h.cc, h.su, h.qh, h.lk, fun i hi z => ?_, fun z e => ?_⟩
  · show 0 ≤ l i
    have := h.l0 i hi
    rcases hl i hi with z | z <;> (first | lia | omega)
  · replace z : 0 < l i := z
    obtain ⟨g1, g2⟩ := go i hi z
    have := h.ld i hi (by (first | lia | omega))
    show l i = t i ∧ l i ≤ E ∧ (l i = E → i = L) ∧ 0 < (S.pl i).length ∧ lastT (S.pl i) = l i
    rw [g1, g2]; exact this
  · replace e : l i = l j := e
    replace z : 0 < l i := z
    obtain ⟨g1, g2⟩ := go i hi z
    obtain ⟨g3, g4⟩ := go j hj (by rw [← e]; exact z)
    exact h.un i j hi hj (by (first | lia | omega)) (by (first | lia | omega))
  · replace z : 0 < l i := z
    obtain ⟨g1, g2⟩ := go i hi z
    show ∀ j, j < 3 → ∀ k, k < (S.pl j).length → termAt (S.pl j) k = l i → k < (S.pl i).length ∧ termAt (S.pl i) k = l i
    rw [g1]; exact h.il i hi (by (first | lia | omega))
  · replace z : 0 < l i := z
    obtain ⟨g1, g2⟩ := go i hi z
    exact h.ak i hi (by (first | lia | omega))
  · replace z : 0 < l L := z
    obtain ⟨g1, g2⟩ := go L h.lt z
    replace e : l L = E := e
    exact h.aL (by (first | lia | omega)) (by (first | lia | omega))
theorem J.lead (h : J N E L a S) (hm : m < 3) (hT : E < T) (hq : ∀ i j, i < 3 → j < 3 → i ≠ j → T ≤ S.tm i ∨ T ≤ S.tm j) (ht : S.tm m = T) (hh : (S.pl m).take a = (S.pl L).take a) :
    J (N + 1) T m a (putS { S with ld := upd S.ld m T, ak := upd S.ak m (fun _ => 0) } m t) := by
  have e0 := h.e0
  have hd : upd S.ld m T m = T := upd_self
  have big : ∀ j, j < 3 → ∀ k, k < (S.pl j).length → termAt (S.pl j) k < T := fun j hj k hk => by have := (h.lg.tp j hj k hk).2; (first | lia | omega)
  have ha : a ≤ (S.pl m).length := take_len hh h.al
  have hold : ∀ i, (S.pl i).take a = (S.pl L).take a → (upd S.pl m (S.pl m ++ [(upd S.ld m T m, byteArr [t])]) i).take a = (upd S.pl m (S.pl m ++ [(upd S.ld m T m, byteArr [t])]) m).take a := fun i e => by
    rw [up_keep (take_len e h.al), up_keep ha, e, hh]
  have lead : ∀ i, i ≠ m → i < 3 → 0 < S.ld i → S.ld i ≠ T := fun i _ hi z => by have := (h.ld i hi z).2.1; (first | lia | omega)
  refine ⟨hm, fun i hi => up_len (h.le i hi), fun i hi => ?_, h.lc, by (first | lia | omega), hq, fun i hi => ?_, fun i hi hl' => ?_, fun i j hi hj z e => ?_, h.lg.app hm (by (first | lia | omega)) ⟨?_, ?_⟩ (fun k hk => ?_) (fun j hj k hk e => ?_), fun i hi hl' j hj k hk e => ?_, Nat.le_trans ha up_le, fun j hj => ⟨(h.cc j hj).1, ?_⟩, ⟨h.su.1, ?_⟩, fun i j hi hj q => (h.qh i j hi hj q).imp (hold i) (hold j), fun j hj k hk e => ?_, fun i hi hl' j hj => ?_, fun hl' hE j hj => ?_⟩
  · show upd S.lo m (S.lo m ++ _) i = upd S.pl m (S.pl m ++ _) i
    by_cases q : i = m
    · rw [q, upd_self, upd_self, h.lo m hm]
    · rw [upd_ne q, upd_ne q, h.lo i hi]
  · show 0 ≤ upd S.ld m T i
    by_cases q : i = m
    · rw [q, upd_self]; (first | lia | omega)
    · rw [upd_ne q]; exact h.l0 i hi
  · show upd S.ld m T i = S.tm i ∧ upd S.ld m T i ≤ T ∧ (upd S.ld m T i = T → i = m) ∧ 0 < (upd S.pl m (S.pl m ++ _) i).length ∧ lastT (upd S.pl m (S.pl m ++ _) i) = upd S.ld m T i
    by_cases q : i = m
    · subst q
      rw [upd_self, upd_self, lastT_app]
      exact ⟨ht.symm, Int.le_refl _, fun _ => rfl, by simp, hd⟩
    · rw [upd_ne q, upd_ne q]
      replace hl' : 0 < upd S.ld m T i := hl'
      rw [upd_ne q] at hl'
      obtain ⟨g1, g2, g3, g4, g5⟩ := h.ld i hi hl'
      exact ⟨g1, by (first | lia | omega), fun e => absurd e (lead i q hi hl'), g4, g5⟩
  · replace e : upd S.ld m T i = upd S.ld m T j := e
    replace z : 0 < upd S.ld m T i := z
    by_cases q : i = m <;> by_cases q' : j = m
    · rw [q, q']
    · rw [q, upd_self, upd_ne q'] at e
      exact absurd e.symm (lead j q' hj (by (first | lia | omega)))
    · rw [q', upd_self, upd_ne q] at e
      exact absurd e (lead i q hi (by (first | lia | omega)))
    · rw [upd_ne q] at e z
      rw [upd_ne q'] at e
      exact h.un i j hi hj z e
  · show 1 ≤ upd S.ld m T m
    rw [hd]; (first | lia | omega)
  · show upd S.ld m T m ≤ T
    rw [hd]; exact Int.le_refl _
  · show _ ≤ upd S.ld m T m
    rw [hd]; exact Int.le_of_lt (big m hm k hk)
  · have e' : termAt (S.pl j) k = T := e.trans hd
    have := big j hj k hk
    (first | lia | omega)
  · replace e : termAt (upd S.pl m (S.pl m ++ [(upd S.ld m T m, byteArr [t])]) j) k = upd S.ld m T i := e
    show k < (upd S.pl m (S.pl m ++ [(upd S.ld m T m, byteArr [t])]) i).length ∧ termAt (upd S.pl m (S.pl m ++ [(upd S.ld m T m, byteArr [t])]) i) k = upd S.ld m T i
    replace hl' : 0 < upd S.ld m T i := hl'
    by_cases q : i = m
    · subst q
      replace hk : k < (upd S.pl i (S.pl i ++ [(upd S.ld i T i, byteArr [t])]) j).length := hk
      rcases up_new hk with z | ⟨z1, z2, z3⟩
      · replace z : k < (S.pl j).length := z
        rw [hd] at e
        rw [up_term z] at e
        have := big j hj k z
        (first | lia | omega)
      · subst z1
        exact ⟨hk, e⟩
    · rw [upd_ne q] at e hl' ⊢
      rcases up_new hk with z | ⟨z1, z2, z3⟩
      · rw [up_term z] at e
        obtain ⟨y1, y2⟩ := h.il i hi hl' j hj k z e
        rw [upd_ne q]; exact ⟨y1, y2⟩
      · rw [z3] at e
        replace e : upd S.ld m T m = S.ld i := e
        rw [hd] at e
        exact absurd e.symm (lead i q hi hl')
  · have q := (h.cc j hj).1
    have e := (h.cc j hj).2
    have hal := h.al
    have hc := (h.lc j hj).2
    show (upd S.pl m (S.pl m ++ _) j).take (S.co j).toNat = (upd S.pl m (S.pl m ++ _) m).take (S.co j).toNat
    rw [up_keep (take_len e (by (first | lia | omega))), up_keep (by (first | lia | omega)), e, take_mono hh (by (first | lia | omega))]
  · show S.su = (upd S.pl m (S.pl m ++ _) m).take S.su.length
    have := h.su.1
    rw [up_keep (by (first | lia | omega)), take_mono hh this]
    exact h.su.2
  · rcases up_new hk with z | ⟨z1, z2, z3⟩
    · refine hold j ?_
      refine h.lk j hj k z fun a0 => ?_
      have := e a0
      replace this : termAt (upd S.pl m (S.pl m ++ _) m) (a - 1) < termAt (upd S.pl m (S.pl m ++ _) j) k := this
      rw [up_term z, up_term (by (first | lia | omega)), termAt_take hh (by (first | lia | omega))] at this
      exact this
    · rw [z1]
  · show 0 ≤ upd S.ak m (fun _ => 0) i j ∧ upd S.ak m (fun _ => 0) i j ≤ ((upd S.pl m (S.pl m ++ _) i).length : Int)
    replace hl' : 0 < upd S.ld m T i := hl'
    by_cases q : i = m
    · rw [q, upd_self]; exact ⟨Int.le_refl _, by (first | lia | omega)⟩
    · rw [upd_ne q] at hl'
      rw [upd_ne q, upd_ne q]; exact h.ak i hi hl' j hj
  · show (upd S.pl m (S.pl m ++ _) j).take (upd S.ak m (fun _ => 0) m j).toNat = (upd S.pl m (S.pl m ++ _) m).take (upd S.ak m (fun _ => 0) m j).toNat
    rw [upd_self]; rfl
end
end Rk

end
section
namespace Rk
section
variable {N : Nat} {E T : Int} {L a m j p q : Nat} {S : Sta} {t : Int} {js : List Nat}
theorem hearS_eq : ∀ {js : List Nat} {S : Sta}, hearS S T js = { S with tm := fun i => if i ∈ js then T else S.tm i, ld := fun i => if i ∈ js then 0 else S.ld i }
  | [], S => by simp [hearS]
  | j :: r, S => by
    rw [hearS, hearS_eq (js := r)]
    congr 1
    · funext i
      by_cases z : i ∈ r
      · simp [z]
      · by_cases y : i = j <;> simp [upd, z, y]
    · funext i
      by_cases z : i ∈ r
      · simp [z]
      · by_cases y : i = j <;> simp [upd, z, y]
theorem mxT_le {i : Nat} (hi : i < 3) : S.tm i ≤ mxT S := by
  unfold mxT
  match i, hi with
  | 0, _ => exact Int.le_trans (Int.le_max_left _ _) (Int.le_max_left _ _)
  | 1, _ => exact Int.le_trans (Int.le_max_right _ _) (Int.le_max_left _ _)
  | 2, _ => exact Int.le_max_right _ _
theorem J.mx (h : J N E L a S) : E ≤ mxT S := by
  have h0 := mxT_le (S := S) (i := 0) (by decide)
  have h1 := mxT_le (S := S) (i := 1) (by decide)
  exact (h.tE 0 1 (by decide) (by decide) (by decide)).elim (fun z => Int.le_trans z h0) fun z => Int.le_trans z h1
theorem J.heard (h : J N E L a S) (hm : m < 3) : J N E L a (hearS { S with tm := upd S.tm m (mxT S + 1), ld := upd S.ld m 0 } (mxT S + 1) js) := by
  rw [hearS_eq]
  refine h.hear (t := fun i => if i ∈ js then mxT S + 1 else upd S.tm m (mxT S + 1) i) (l := fun i => if i ∈ js then 0 else upd S.ld m 0 i) (fun i hi => ?_) (fun i hi => ?_)
  · have := mxT_le (S := S) hi
    show S.tm i ≤ if i ∈ js then mxT S + 1 else upd S.tm m (mxT S + 1) i
    split
    · (first | lia | omega)
    · unfold upd; split <;> (first | lia | omega)
  · show (if i ∈ js then 0 else upd S.ld m 0 i) = 0 ∨ ((if i ∈ js then 0 else upd S.ld m 0 i) = S.ld i ∧ (if i ∈ js then mxT S + 1 else upd S.tm m (mxT S + 1) i) = S.tm i)
    split
    · exact .inl rfl
    · unfold upd; split
      · exact .inl rfl
      · exact .inr ⟨rfl, rfl⟩
theorem J.stand1 (h : J N E L a S) (hm : m < 3) (hjs : ∀ j ∈ js, j < 3 ∧ j ≠ m) (hv : 2 ≤ 1 + votes S m js) : J (N + 1) (mxT S + 1) m a (standS S m js) := by
  unfold standS
  rw [if_neg (by (first | omega | lia))]
  obtain ⟨v, h1, h2⟩ := votes_ex (S := S) (m := m) (js := js) (by (first | omega | lia))
  obtain ⟨v3, vm⟩ := hjs v h1
  have hw := h.winner hm hjs hv
  have hm' : m ∉ js := fun z => (hjs m z).2 rfl
  have mx := h.mx
  refine (h.heard hm (js := js)).lead hm (by (first | omega | lia)) (fun i j hi hj q => ?_) ?_ ?_
  · rw [hearS_eq]
    show mxT S + 1 ≤ (if i ∈ js then mxT S + 1 else upd S.tm m (mxT S + 1) i) ∨ mxT S + 1 ≤ (if j ∈ js then mxT S + 1 else upd S.tm m (mxT S + 1) j)
    by_cases z : i ∈ js
    · left; rw [if_pos z]; exact Int.le_refl _
    · by_cases y : i = m
      · left; rw [if_neg z, y, upd_self]; exact Int.le_refl _
      · right
        have iv : i ≠ v := fun e => z (e ▸ h1)
        have : j = m ∨ j = v := two_more hi hj hm v3 y iv (Ne.symm vm) q
        rcases this with e | e
        · rw [e, if_neg hm', upd_self]; exact Int.le_refl _
        · rw [e, if_pos h1]; exact Int.le_refl _
  · rw [hearS_eq]
    show (if m ∈ js then mxT S + 1 else upd S.tm m (mxT S + 1) m) = mxT S + 1
    rw [if_neg hm', upd_self]
  · rw [hearS_pl]; exact hw
theorem J.stand (h : J N E L a S) (hm : m < 3) (hjs : ∀ j ∈ js, j < 3 ∧ j ≠ m) : ∃ E' L', J (N + 1) E' L' a (standS S m js) := by
  by_cases hv : 2 ≤ 1 + votes S m js
  · exact ⟨_, _, h.stand1 hm hjs hv⟩
  · unfold standS
    rw [if_pos (by (first | lia | omega))]
    exact ⟨_, _, (h.heard hm).mono (Nat.le_succ _)⟩
theorem J.only (h : J N E L a S) (hm : m < 3) (hj : j < 3) (hmj : m ≠ j) (hl : 0 < S.ld m) (ht : S.tm j ≤ S.ld m) : m = L ∧ S.ld L = E := by
  obtain ⟨d1, d2, d3, _⟩ := h.ld m hm hl
  have : S.ld m = E := by rcases h.tE m j hm hj hmj with z | z <;> (first | lia | omega)
  have e := d3 this
  exact ⟨e, by rw [← e]; exact this⟩
theorem J.back (h : J N E L a S) (hj : j < 3) (hp : p ≤ (S.pl L).length) : (S.pl j).take (backN (S.pl L) (S.pl j) p) = (S.pl L).take (backN (S.pl L) (S.pl j) p) :=
  backs (fun x h1 h2 e => h.lg.ml j L hj h.lt x h2 h1 e) hp
theorem newN_ge (hp : p ≤ (S.pl m).length) : backN (S.pl m) (S.pl j) p ≤ newN S m j p q ∧ newN S m j p q ≤ (S.pl m).length := by
  have := backN_le (es := S.pl m) (fs := S.pl j) (p := p)
  exact ⟨Nat.le_min.2 ⟨Nat.le_add_right _ _, Nat.le_trans this hp⟩, Nat.min_le_right _ _⟩
theorem tellP_eq : tellP S m j p q = tellL (S.pl m) (S.pl j) (backN (S.pl m) (S.pl j) p) (newN S m j p q) := by
  unfold tellP tellL; rfl
theorem J.alike1 (h : J N E L a S) (hj : j < 3) : ∀ x : Nat, x < (S.pl L).length → x < (S.pl j).length → termAt (S.pl j) x = termAt (S.pl L) x → (S.pl j)[x]? = (S.pl L)[x]? := fun x h1 h2 e => take_at (h.lg.ml j L hj h.lt x h2 h1 e) (Nat.lt_succ_self _)
theorem J.told (h : J N E L a S) (hj : j < 3) (hp : p ≤ (S.pl L).length) : Told (S.pl L) (S.pl j) (tellP S L j p q) (newN S L j p q) := by
  rw [tellP_eq]
  exact (Rk.told (h.back hj hp) (newN_ge hp).1 (newN_ge hp).2).1
theorem J.mrg (h : J N E L a S) (hj : j < 3) (hp : p ≤ (S.pl L).length) : mrg (S.lo j) (backN (S.pl L) (S.pl j) p) (segN S L j p q) = tellP S L j p q := by
  rw [h.lo j hj, tellP_eq]
  have := newN_ge (S := S) (m := L) (j := j) (q := q) hp
  exact mrgs this.1 this.2 (h.back hj hp) fun x h1 h2 h3 e => h.alike1 hj x (by (first | lia | omega)) h3 e
theorem J.hfc (h : J N E L a S) (hm : m < 3) (hj : j < 3) (hmj : m ≠ j) (hl : 0 < S.ld m) (ht : S.tm j ≤ S.ld m) (hp : p ≤ (S.pl m).length) :
    fc (S.pl j) (backN (S.pl m) (S.pl j) p + 1) (segN S m j p q) = 0 ∨ S.co j < fc (S.pl j) (backN (S.pl m) (S.pl j) p + 1) (segN S m j p q) := by
  obtain ⟨rfl, hE⟩ := h.only hm hj hmj hl ht
  have hn := newN_ge (S := S) (m := m) (j := j) (q := q) hp
  have e := fcs (es := S.pl m) (fs := S.pl j) (n := newN S m j p q - backN (S.pl m) (S.pl j) p) (b := backN (S.pl m) (S.pl j) p) (by (first | lia | omega)) (fun x h1 h2 h3 e => h.alike1 hj x (by (first | lia | omega)) h3 e)
  rw [show backN (S.pl m) (S.pl j) p + (newN S m j p q - backN (S.pl m) (S.pl j) p) = newN S m j p q by (first | lia | omega)] at e
  have e' : fc (S.pl j) (backN (S.pl m) (S.pl j) p + 1) (segN S m j p q) = _ := e
  rw [e']
  rcases (Rk.told (h.back hj hp) hn.1 hn.2).2 with ⟨u, h1, h2, h3, h4, h5⟩ | h3
  · right
    rw [h3]
    have hc := h.cc j hj
    have hal := h.al
    have := h5 (S.co j).toNat (by (first | lia | omega)) hc.2
    show S.co j < (u : Int) + 1
    (first | lia | omega)
  · left; rw [h3]
theorem J.tellOk (h : J N E L a S) (hN : N ≤ 40) (hm : m < 3) (hj : j < 3) (hmj : m ≠ j) (hl : 0 < S.ld m) (hp : p ≤ (S.pl m).length) (hq : q ≤ 50) : TellOk S m j p q where
  hT := hl
  hp := hp
  hq := hq
  hz := fun i hi => Nat.le_trans (h.le i hi) hN
  hy := h.lo
  hc := fun i hi => ⟨(h.lc i hi).1, (h.lc i hi).2⟩
  hak := fun i hi => h.ak m hm hl i hi
  hfc := fun ht => h.hfc hm hj hmj hl ht hp
theorem med3_le {a b c x : Int} (h1 : a ≤ x) (h2 : b ≤ x) (h3 : c ≤ x) : med3 a b c ≤ x := mdu02 h1 h3
theorem two_le {g : Nat → Int} {x : Int} (h : ∀ i, i < 3 → g i ≤ x) : twoE g ≤ x := med3_le (h 0 (by decide)) (h 1 (by decide)) (h 2 (by decide))
theorem md01 {a b c : Int} : med3 a b c ≤ a ∨ med3 a b c ≤ b := (Int.le_total a b).elim (fun h => .inr (mdu01 h (Int.le_refl _))) (fun h => .inl (mdu01 (Int.le_refl _) h))
theorem md02 {a b c : Int} : med3 a b c ≤ a ∨ med3 a b c ≤ c := (Int.le_total a c).elim (fun h => .inr (mdu02 h (Int.le_refl _))) (fun h => .inl (mdu02 (Int.le_refl _) h))
theorem md12 {a b c : Int} : med3 a b c ≤ b ∨ med3 a b c ≤ c := (Int.le_total b c).elim (fun h => .inr (mdu12 h (Int.le_refl _))) (fun h => .inl (mdu12 (Int.le_refl _) h))
theorem mg01 {a b c x : Int} (h : x ≤ a) (k : x ≤ b) : x ≤ med3 a b c := mdl01 h k
theorem mg02 {a b c x : Int} (h : x ≤ a) (k : x ≤ c) : x ≤ med3 a b c := mdl02 h k
theorem mg12 {a b c x : Int} (h : x ≤ b) (k : x ≤ c) : x ≤ med3 a b c := mdl12 h k
theorem two_of {g : Nat → Int} {i j : Nat} (hi : i < 3) (hj : j < 3) (h : i ≠ j) : twoE g ≤ g i ∨ twoE g ≤ g j := by
  unfold twoE
  rcases lt3o hi with rfl | rfl | rfl <;> rcases lt3o hj with rfl | rfl | rfl
  · exact absurd rfl h
  · exact md01
  · exact md02
  · exact md01.symm
  · exact absurd rfl h
  · exact md12
  · exact md02.symm
  · exact md12.symm
  · exact absurd rfl h
theorem J.commit (h : J N E L a S) {x : Int} (hl : 0 < S.ld L) (hE : S.ld L = E) (hx : 0 < x ∧ x ≤ (S.pl L).length) (hq : ∀ i j, i < 3 → j < 3 → i ≠ j → x ≤ S.ak L i ∨ x ≤ S.ak L j) (ht : tmE (S.pl L) x = E) :
    J N E L (max a x.toNat) { S with lc := upd S.lc L x, co := upd S.co L x } := by
  have hal := h.al
  have hx3 : ∀ i, i < 3 → x ≤ S.ak L i → (S.pl i).take x.toNat = (S.pl L).take x.toNat := fun i hi e => take_mono (h.aL hl hE i hi) (by (first | lia | omega))
  refine ⟨h.lt, h.le, h.lo, fun i hi => ?_, h.e0, h.tE, h.l0, h.ld, h.un, h.lg, h.il, by show max a x.toNat ≤ (S.pl L).length; (first | lia | omega), fun j hj => ?_, ⟨Nat.le_trans h.su.1 (Nat.le_max_left _ _), h.su.2⟩, fun i j hi hj q => ?_, fun j hj k hk e => ?_, h.ak, h.aL⟩
  · show upd S.lc L x i = upd S.co L x i ∧ 0 ≤ upd S.co L x i
    by_cases z : i = L
    · rw [z, upd_self, upd_self]; exact ⟨rfl, by (first | lia | omega)⟩
    · rw [upd_ne z, upd_ne z]; exact h.lc i hi
  · show upd S.co L x j ≤ ((max a x.toNat : Nat) : Int) ∧ (S.pl j).take (upd S.co L x j).toNat = (S.pl L).take (upd S.co L x j).toNat
    by_cases z : j = L
    · rw [z, upd_self]; exact ⟨by (first | lia | omega), rfl⟩
    · rw [upd_ne z]; exact ⟨by have := (h.cc j hj).1; (first | lia | omega), (h.cc j hj).2⟩
  · rcases Nat.le_total x.toNat a with z | z
    · rw [Nat.max_eq_left z]; exact h.qh i j hi hj q
    · rw [Nat.max_eq_right z]; exact (hq i j hi hj q).imp (hx3 i hi) (hx3 j hj)
  · by_cases z : x.toNat ≤ a
    · rw [Nat.max_eq_left z] at e ⊢; exact h.lk j hj k hk e
    · rw [Nat.max_eq_right (by (first | lia | omega))] at e ⊢
      have e1 : termAt (S.pl L) (x.toNat - 1) < termAt (S.pl j) k := e (by (first | lia | omega))
      have e2 : termAt (S.pl L) (x.toNat - 1) = E := by
        rw [← tmE_at, show ((x.toNat - 1 : Nat) : Int) + 1 = x by (first | lia | omega)]; exact ht
      have := (h.lg.tp j hj k hk).2
      (first | lia | omega)
noncomputable def tell0 (S : Sta) (m j p q : Nat) : Sta := { S with
  pl := upd S.pl j (tellP S m j p q)
  lo := upd S.lo j (mrg (S.lo j) (backN (S.pl m) (S.pl j) p) (segN S m j p q))
  lc := upd S.lc j (max (S.lc j) (min (S.co m) (newN S m j p q)))
  tm := upd S.tm j (S.ld m)
  ld := upd S.ld j 0
  co := upd S.co j (max (S.co j) (min (S.co m) (newN S m j p q)))
  ak := upd S.ak m (tellK S m j p q) }
theorem tellS_eq (ht : ¬ S.ld m < S.tm j) (hmj : m ≠ j) : tellS S m j p q = if newsB S m j p q then { tell0 S m j p q with lc := upd (tell0 S m j p q).lc m (twoE (tellK S m j p q)), co := upd (tell0 S m j p q).co m (twoE (tellK S m j p q)) } else tell0 S m j p q := by
  unfold tellS
  rw [if_neg ht]
  split
  · rename_i z; unfold tell0; rfl
  · rename_i z; unfold tell0; rfl
theorem J.tell0 (h : J N E L a S) (hm : L < 3) (hj : j < 3) (hmj : L ≠ j) (hl : 0 < S.ld L) (hE : S.ld L = E) (ht : S.tm j ≤ S.ld L) (hp : p ≤ (S.pl L).length) : J N E L a (tell0 S L j p q) := by
  have hn := newN_ge (S := S) (m := L) (j := j) (q := q) hp
  have hT := h.told (q := q) hj hp
  have hM := h.mrg (q := q) hj hp
  have hK : ∀ i, i < 3 → 0 ≤ tellK S L j p q i ∧ tellK S L j p q i ≤ (S.pl L).length := fun i hi => by
    have h1 := h.ak L hm hl i hi
    have h2 := h.ak L hm hl j hj
    unfold tellK
    by_cases z : i = L
    · rw [z, upd_self]; exact ⟨Int.natCast_nonneg _, Int.le_refl _⟩
    · rw [upd_ne z]
      by_cases y : i = j
      · rw [y, upd_self]; exact mxrg h2 (Int.ofNat_le.2 hn.2)
      · rw [upd_ne y]; exact h1
  have gT : ∀ i, i < 3 → (upd S.pl j (tellP S L j p q) i).take (tellK S L j p q i).toNat = (S.pl L).take (tellK S L j p q i).toNat := fun i hi => by
    by_cases z : i = L
    · rw [z, upd_ne hmj]
    · have hk := h.ak L hm hl i hi
      have hL := h.aL hl hE i hi
      unfold tellK
      rw [upd_ne z]
      by_cases y : i = j
      · subst y
        rw [upd_self, upd_self]
        rcases Int.le_total (S.ak L i) (newN S L i p q) with w | w
        · rw [Int.max_eq_right w]; exact hT.t1
        · rw [Int.max_eq_left w]; exact hT.t2 _ (by (first | lia | omega)) hL
      · rw [upd_ne y, upd_ne y]; exact hL
  unfold Rk.tell0
  rw [hM]
  generalize hg : tellK S L j p q = g at hK gT ⊢
  generalize hP : tellP S L j p q = P at hT gT ⊢
  generalize hnn : newN S L j p q = n at *
  have keep : ∀ i, i < 3 → ∀ k, k ≤ (S.pl L).length → (S.pl i).take k = (S.pl L).take k → (upd S.pl j P i).take k = (upd S.pl j P L).take k := fun i hi k hk e => by
    rw [show upd S.pl j P L = S.pl L from upd_ne hmj]
    by_cases z : i = j
    · subst z; rw [upd_self]; exact hT.t2 k hk e
    · rw [upd_ne z]; exact e
  have lead : upd S.pl j P L = S.pl L := upd_ne hmj
  have pre : ∀ i, i < 3 → ∃ r, r < 3 ∧ Pre (upd S.pl j P i) (S.pl r) := fun i hi => by
    by_cases z : i = j
    · subst z
      rw [upd_self]
      rcases hT.t3 with e | e
      · exact ⟨i, hi, e ▸ Pre.refl⟩
      · exact ⟨L, hm, e ▸ Pre.take⟩
    · rw [upd_ne z]; exact ⟨i, hi, Pre.refl⟩
  have go : ∀ i, 0 < upd S.ld j 0 i → i ≠ j ∧ upd S.ld j 0 i = S.ld i ∧ upd S.pl j P i = S.pl i := fun i z => by
    have : i ≠ j := fun e => by rw [e, upd_self] at z; exact absurd z (Int.lt_irrefl 0)
    exact ⟨this, upd_ne this, upd_ne this⟩
  refine ⟨hm, fun i hi => ?_, fun i hi => ?_, fun i hi => ?_, h.e0, fun i i' hi hi' q => ?_, fun i hi => ?_, fun i hi z => ?_, fun i i' hi hi' z e => ?_, h.lg.pre pre, fun i hi z i' hi' k hk e => ?_, (by show a ≤ (upd S.pl j P L).length; rw [lead]; exact h.al), fun i hi => ?_, ⟨h.su.1, by show S.su = (upd S.pl j P L).take S.su.length; rw [lead]; exact h.su.2⟩, fun i i' hi hi' q => ?_, fun i hi k hk e => ?_, fun i hi z i' hi' => ?_, fun z e i hi => ?_⟩
  · obtain ⟨r, hr, p⟩ := pre i hi
    exact Nat.le_trans p.1 (h.le r hr)
  · show upd S.lo j P i = upd S.pl j P i
    by_cases z : i = j
    · rw [z, upd_self, upd_self]
    · rw [upd_ne z, upd_ne z]; exact h.lo i hi
  · show upd S.lc j (max (S.lc j) (min (S.co L) n)) i = upd S.co j (max (S.co j) (min (S.co L) n)) i ∧ 0 ≤ upd S.co j (max (S.co j) (min (S.co L) n)) i
    have h1 := h.lc i hi
    have h2 := h.lc j hj
    by_cases z : i = j
    · rw [z, upd_self, upd_self, h2.1]; exact ⟨rfl, Int.le_trans h2.2 (Int.le_max_left _ _)⟩
    · rw [upd_ne z, upd_ne z]; exact h1
  · show E ≤ upd S.tm j (S.ld L) i ∨ E ≤ upd S.tm j (S.ld L) i'
    have : ∀ i, E ≤ S.tm i → E ≤ upd S.tm j (S.ld L) i := fun i e => by
      unfold upd; split
      · (first | lia | omega)
      · exact e
    exact (h.tE i i' hi hi' q).imp (this i) (this i')
  · show 0 ≤ upd S.ld j 0 i
    unfold upd; split
    · exact Int.le_refl _
    · exact h.l0 i hi
  · obtain ⟨g1, g2, g3⟩ := go i z
    show upd S.ld j 0 i = upd S.tm j (S.ld L) i ∧ upd S.ld j 0 i ≤ E ∧ (upd S.ld j 0 i = E → i = L) ∧ 0 < (upd S.pl j P i).length ∧ lastT (upd S.pl j P i) = upd S.ld j 0 i
    rw [g3, upd_ne g1, upd_ne g1]
    replace z : 0 < upd S.ld j 0 i := z
    exact h.ld i hi (by rw [g2] at z; exact z)
  · obtain ⟨g1, g2, g3⟩ := go i z
    replace z : 0 < upd S.ld j 0 i := z
    replace e : upd S.ld j 0 i = upd S.ld j 0 i' := e
    obtain ⟨g4, g5, g6⟩ := go i' (by rw [← e]; exact z)
    exact h.un i i' hi hi' (by rw [g2] at z; exact z) (by rw [g2, g5] at e; exact e)
  · obtain ⟨g1, g2, g3⟩ := go i z
    replace z : 0 < upd S.ld j 0 i := z
    replace e : termAt (upd S.pl j P i') k = upd S.ld j 0 i := e
    replace hk : k < (upd S.pl j P i').length := hk
    show k < (upd S.pl j P i).length ∧ termAt (upd S.pl j P i) k = upd S.ld j 0 i
    rw [g2] at z e ⊢
    rw [g3]
    obtain ⟨r, hr, p⟩ := pre i' hi'
    rw [p.term hk] at e
    exact h.il i hi z r hr k (Nat.lt_of_lt_of_le hk p.1) e
  · show upd S.co j (max (S.co j) (min (S.co L) n)) i ≤ a ∧ (upd S.pl j P i).take (upd S.co j (max (S.co j) (min (S.co L) n)) i).toNat = (upd S.pl j P L).take (upd S.co j (max (S.co j) (min (S.co L) n)) i).toNat
    have hal := h.al
    by_cases z : i = j
    · subst z
      rw [lead, upd_self, upd_self]
      have c1 := h.cc i hi
      have c2 := h.cc L hm
      have c3 := (h.lc L hm).2
      refine ⟨Int.max_le.2 ⟨c1.1, Int.le_trans (Int.min_le_left _ _) c2.1⟩, ?_⟩
      rcases Int.le_total (S.co i) (min (S.co L) n) with w | w
      · rw [Int.max_eq_right w]; exact take_mono hT.t1 (Int.toNat_le.2 (Int.min_le_right _ _))
      · rw [Int.max_eq_left w]; exact hT.t2 _ (by (first | lia | omega)) c1.2
    · rw [lead, upd_ne z, upd_ne z]; exact h.cc i hi
  · exact (h.qh i i' hi hi' q).imp (keep i hi a h.al) (keep i' hi' a h.al)
  · replace e : 0 < a → termAt (upd S.pl j P L) (a - 1) < termAt (upd S.pl j P i) k := e
    replace hk : k < (upd S.pl j P i).length := hk
    show (upd S.pl j P i).take a = (upd S.pl j P L).take a
    rw [lead] at e ⊢
    have hal := h.al
    by_cases z : i = j
    · subst z
      rw [upd_self] at e hk ⊢
      rcases hT.t3 with y | y
      · rw [y] at e hk ⊢; exact h.lk i hi k hk e
      · by_cases a0 : a = 0
        · rw [a0]; rfl
        have kn : k < n ∧ k < (S.pl L).length := by rw [y, List.length_take] at hk; (first | lia | omega)
        have e1 := e (by (first | lia | omega))
        rw [y, termAt_take (es := (S.pl L).take n) (fs := S.pl L) (n := n) (k := k) (by rw [List.take_take, Nat.min_self]) kn.1] at e1
        have : a ≤ k := Nat.le_of_not_lt fun w => by
          have := h.lg.mo L hm k (a - 1) (by (first | lia | omega)) (by (first | lia | omega))
          (first | lia | omega)
        rw [y, List.take_take, Nat.min_eq_left (by (first | lia | omega))]
    · rw [upd_ne z] at e hk ⊢
      exact h.lk i hi k hk e
  · obtain ⟨g1, g2, g3⟩ := go i z
    replace z : 0 < upd S.ld j 0 i := z
    show 0 ≤ upd S.ak L g i i' ∧ upd S.ak L g i i' ≤ ((upd S.pl j P i).length : Int)
    rw [g3]
    by_cases y : i = L
    · rw [y, upd_self]; exact hK i' hi'
    · rw [upd_ne y]; exact h.ak i hi (by rw [g2] at z; exact z) i' hi'
  · show (upd S.pl j P i).take (upd S.ak L g L i).toNat = (upd S.pl j P L).take (upd S.ak L g L i).toNat
    rw [upd_self, lead]; exact gT i hi
theorem J.tell (h : J N E L a S) (hm : m < 3) (hj : j < 3) (hmj : m ≠ j) (hl : 0 < S.ld m) (hp : p ≤ (S.pl m).length) : ∃ a', J N E L a' (tellS S m j p q) := by
  by_cases ht : S.ld m < S.tm j
  · refine ⟨a, ?_⟩
    unfold tellS
    rw [if_pos ht]; exact h
  obtain ⟨rfl, hE⟩ := h.only hm hj hmj hl (by (first | lia | omega))
  have h0 := h.tell0 (q := q) hm hj hmj hl hE (by (first | lia | omega)) hp
  rw [tellS_eq ht hmj]
  by_cases hb : newsB S m j p q = true
  · rw [if_pos hb]
    unfold newsB at hb
    simp only [Bool.and_eq_true, decide_eq_true_eq, beq_iff_eq] at hb
    have c0 := (h.lc m hm).2
    have lead : (Rk.tell0 S m j p q).pl m = S.pl m := upd_ne hmj
    have row : (Rk.tell0 S m j p q).ak m = tellK S m j p q := upd_self
    have ldm : (Rk.tell0 S m j p q).ld m = S.ld m := upd_ne hmj
    refine ⟨_, h0.commit (x := twoE (tellK S m j p q)) (by rw [ldm]; exact hl) (by rw [ldm]; exact hE) ⟨by (first | lia | omega), two_le fun i hi => ?_⟩ (fun i j hi hj q => by rw [row]; exact two_of hi hj q) (by rw [lead, hb.2]; exact hE)⟩
    have := h0.ak m hm (by rw [ldm]; exact hl) i hi
    rw [row] at this
    exact this.2
  · rw [if_neg hb]; exact ⟨_, h0⟩
end
end Rk

end
section
namespace Rk
section
variable {N : Nat} {E T : Int} {L a m j p q n z : Nat} {S : Sta} {t : Int} {js : List Nat}
theorem leads_mem {x : Nat} (h : x ∈ leadsL S) : x < 3 ∧ 0 < S.ld x := by
  have := filt_mem h
  exact ⟨by (first | omega | lia), by simpa using this.1⟩
theorem actM_ok (h : (leadsL S).length ≠ 0) (hl : ∀ i, i < 3 → 0 ≤ S.ld i) : actM S n < 3 ∧ 0 < S.ld (actM S n) := by
  unfold actM
  split
  · have lt : n / 12 % (leadsL S).length < (leadsL S).length := Nat.mod_lt _ (Nat.pos_of_ne_zero h)
    rw [List.getD_eq_getElem?_getD, List.getElem?_eq_getElem lt]
    exact leads_mem (List.getElem_mem lt)
  · rename_i q
    have h3 : n / 4 % 3 < 3 := Nat.mod_lt _ (by decide)
    have := hl _ h3
    exact ⟨h3, by (first | lia | omega)⟩
theorem help_ok {y : Nat} (hm : m < 3) : ∀ j ∈ helpL m y, j < 3 ∧ j ≠ m := by
  intro j hj
  unfold helpL at hj
  split at hj
  · simp only [List.mem_cons, List.not_mem_nil, or_false] at hj
    exact hlp hm hj
  · split at hj
    · simp only [List.mem_cons, List.not_mem_nil, or_false] at hj
      exact hlp hm (.inl hj)
    · simp only [List.mem_cons, List.not_mem_nil, or_false] at hj
      exact hlp hm (.inr hj)
theorem J.act (h : J N E L a S) : ∃ E' L' a', J (N + 1) E' L' a' (actS S n t) := by
  unfold actS
  split
  · obtain ⟨E', L', h'⟩ := h.stand (m := n / 4 % 3) (Nat.mod_lt _ (by decide)) (help_ok (Nat.mod_lt _ (by decide)))
    exact ⟨E', L', a, h'⟩
  · rename_i q
    have hn : n % 4 ≠ 0 ∧ (leadsL S).length ≠ 0 := ⟨fun e => q (.inl e), fun e => q (.inr e)⟩
    obtain ⟨h1, h2⟩ := actM_ok (n := n) hn.2 h.l0
    split
    · exact ⟨E, L, a, h.put h1 h2⟩
    · rename_i q1
      obtain ⟨a', h'⟩ := h.tell (q := 1 + n / 12 / 4 % 3) h1 (j := (actM S n + n % 4 - 1) % 3) (Nat.mod_lt _ (by decide)) (by (first | lia | omega)) h2 (Nat.sub_le (S.pl (actM S n)).length (n / 12 % 4))
      exact ⟨E, L, a', h'.mono (Nat.le_succ _)⟩
theorem J.ready (h : J N E L a S) (hN : N ≤ 30) : Ready S where
  hz := fun i hi => Nat.le_trans (h.le i hi) hN
  hzs := Nat.le_trans h.su.1 (Nat.le_trans h.al (Nat.le_trans (h.le L h.lt) hN))
  hy := h.lo
  hc := fun i hi => ⟨(h.lc i hi).1, (h.lc i hi).2, by
    have c := h.cc i hi
    have hal := h.al
    have := take_len c.2 (by (first | lia | omega))
    (first | lia | omega)⟩
  hld := h.l0
  hs := fun m js hm hjs hv => by rw [take_mono (h.winner hm hjs hv) h.su.1]; exact h.su.2.symm
  hak := fun m hm hl i hi => h.ak m hm hl i hi
  hfc := fun m j p q hm hj hmj hl ht hp => h.hfc hm hj hmj hl ht hp
theorem two_is {g : Nat → Int} {x : Int} (hm : m < 3) (hj : j < 3) (hmj : m ≠ j) (h1 : g m = x) (h2 : g j = x) (h : ∀ i, i < 3 → g i ≤ x) : twoE g = x := by
  refine Int.le_antisymm (two_le h) ?_
  have k1 := Int.le_of_eq h1.symm
  have k2 := Int.le_of_eq h2.symm
  unfold twoE
  clear h h1 h2
  rcases lt3o hm with rfl | rfl | rfl <;> rcases lt3o hj with rfl | rfl | rfl
  · exact absurd rfl hmj
  · exact mg01 k1 k2
  · exact mg02 k1 k2
  · exact mg01 k2 k1
  · exact absurd rfl hmj
  · exact mg12 k1 k2
  · exact mg02 k2 k1
  · exact mg12 k2 k1
  · exact absurd rfl hmj
structure Full (S S' : Sta) (m j z : Nat) : Prop where
  p : S'.pl j = S.pl m
  o : ∀ i, i ≠ j → S'.pl i = S.pl i ∧ S'.ld i = S.ld i ∧ S'.tm i = S.tm i
  t : S'.tm j = S.ld m
  c : S'.co m = z
  d : S.co m = z → S'.co j = z
  e : ∀ i, i ≠ m → i ≠ j → S'.co i = S.co i
theorem J.full (h : J N E m a S) (hj : j < 3) (hmj : m ≠ j) (hl : 0 < S.ld m) (ht : S.tm j ≤ S.ld m) (hz : z = (S.pl m).length) : Full S (tellS S m j z z) m j z := by
  have hm := h.lt
  have hE := (h.only hm hj hmj hl ht).2
  obtain ⟨d1, d2, d3, d4, d5⟩ := h.ld m hm hl
  have hn : newN S m j z z = z := by unfold newN; rw [← hz]; exact Nat.min_eq_right (Nat.le_add_left _ _)
  have hT := h.told (q := z) hj (p := z) (by (first | lia | omega))
  rw [hn] at hT
  have full : (S.pl m).take z = S.pl m := List.take_of_length_le (by (first | lia | omega))
  have hP : tellP S m j z z = S.pl m := by
    rcases hT.t3 with e | e
    · have t1 := hT.t1
      rw [e] at t1 ⊢
      have e1 : z ≤ (S.pl j).length := take_len t1 (by (first | lia | omega))
      have e2 : termAt (S.pl j) (z - 1) = E := by rw [termAt_take t1 (by (first | lia | omega)), hz, ← lastT_at d4, d5, hE]
      have e3 : (S.pl j).length ≤ z := Nat.le_of_not_lt fun w => by
        have g1 := h.lg.mo j hj (z - 1) z (by (first | lia | omega)) w
        have g2 := (h.lg.tp j hj z w).2
        have := (h.il m hm hl j hj z w (by (first | lia | omega))).1
        (first | lia | omega)
      rw [← full, ← t1, List.take_of_length_le e3]
    · rw [e, full]
  have hK : ∀ i, i < 3 → tellK S m j z z i ≤ z := fun i hi => by
    have h1 := h.ak m hm hl i hi
    have h2 := h.ak m hm hl j hj
    unfold tellK
    rw [hn]
    by_cases z : i = m
    · rw [z, upd_self]; (first | lia | omega)
    · rw [upd_ne z]
      by_cases y : i = j
      · rw [y, upd_self]; (first | lia | omega)
      · rw [upd_ne y]; (first | lia | omega)
  have hK1 : tellK S m j z z m = z := by unfold tellK; rw [upd_self]; (first | lia | omega)
  have hK2 : tellK S m j z z j = z := by
    have h2 := h.ak m hm hl j hj
    unfold tellK; rw [upd_ne (Ne.symm hmj), upd_self, hn]; (first | lia | omega)
  have h2 := two_is hm hj hmj hK1 hK2 hK
  have cm := (h.cc m hm).1
  have hal := h.al
  have ht' : tmE (S.pl m) z = S.ld m := by
    rw [show (z : Int) = ((z - 1 : Nat) : Int) + 1 by (first | lia | omega), tmE_at, hz, ← lastT_at d4, d5]
  have hcj := (h.cc j hj).1
  rw [tellS_eq (by (first | lia | omega)) hmj]
  by_cases hb : newsB S m j z z = true
  · rw [if_pos hb]
    have hb' := hb
    unfold newsB at hb'
    rw [h2] at hb' ⊢
    simp only [Bool.and_eq_true, decide_eq_true_eq] at hb'
    refine ⟨?_, fun i hi => ⟨?_, ?_, ?_⟩, ?_, ?_, fun e => ?_, fun i h1 h2 => ?_⟩
    · show upd S.pl j (tellP S m j z z) j = _
      rw [upd_self, hP]
    · exact upd_ne hi
    · exact upd_ne hi
    · exact upd_ne hi
    · exact upd_self
    · exact upd_self
    · exact absurd hb'.1 (by (first | lia | omega))
    · show upd (upd S.co j _) m _ i = _
      rw [upd_ne h1, upd_ne h2]
  · rw [if_neg hb]
    have hcm : S.co m = z := by
      refine Classical.byContradiction fun w => hb ?_
      unfold newsB
      rw [h2, ht', decide_eq_true (show S.co m < z by (first | lia | omega))]
      simp
    refine ⟨?_, fun i hi => ⟨?_, ?_, ?_⟩, ?_, ?_, fun e => ?_, fun i h1 h2 => ?_⟩
    · show upd S.pl j (tellP S m j z z) j = _
      rw [upd_self, hP]
    · exact upd_ne hi
    · exact upd_ne hi
    · exact upd_ne hi
    · exact upd_self
    · exact (upd_ne hmj).trans hcm
    · show upd S.co j (max (S.co j) (min (S.co m) (newN S m j z z))) j = z
      rw [upd_self, hn, hcm, Int.min_self]; exact Int.max_eq_right (by omega)
    · exact upd_ne h2
theorem J.fin (h : J N E L a S) (hN : N ≤ 30) (hm : m < 3) (ok : ∀ i, i < 3 → okB S m i = true) : ∃ S1 S2 S3 S4 z, FinOk S m S1 S2 S3 S4 z := by
  have ha : (m + 1) % 3 < 3 := Nat.mod_lt _ (by decide)
  have hb : (m + 2) % 3 < 3 := Nat.mod_lt _ (by decide)
  have hma : m ≠ (m + 1) % 3 := (md3a m hm).2.1.symm
  have hmb : m ≠ (m + 2) % 3 := (md3a m hm).2.2.2.symm
  have hab : (m + 1) % 3 ≠ (m + 2) % 3 := by (first | omega | lia)
  have hjs : ∀ j ∈ [(m + 1) % 3, (m + 2) % 3], j < 3 ∧ j ≠ m := fun j hj => by
    simp only [List.mem_cons, List.not_mem_nil, or_false] at hj
    exact hlp hm hj
  have hv : 2 ≤ 1 + votes S m [(m + 1) % 3, (m + 2) % 3] := by
    simp only [votes, ok _ ha, ok _ hb, if_pos]; decide
  have j1 := h.stand1 hm hjs hv
  have mx := h.mx
  have e0 := h.e0
  have hrd := h.ready hN
  have hst : standS S m [(m + 1) % 3, (m + 2) % 3] = putS (let S₂ := hearS { S with tm := upd S.tm m (mxT S + 1), ld := upd S.ld m 0 } (mxT S + 1) [(m + 1) % 3, (m + 2) % 3]; { S₂ with ld := upd S₂.ld m (mxT S + 1), ak := upd S₂.ak m (fun _ => 0) }) m (S.pl m).length := by
    unfold standS
    exact if_neg (by (first | omega | lia))
  have l1 : (standS S m [(m + 1) % 3, (m + 2) % 3]).ld m = mxT S + 1 := by rw [hst]; exact upd_self
  have t1 : ∀ i, i < 3 → (standS S m [(m + 1) % 3, (m + 2) % 3]).tm i = mxT S + 1 := fun i hi => by
    rw [hst, hearS_eq]
    show (if i ∈ [(m + 1) % 3, (m + 2) % 3] then mxT S + 1 else upd S.tm m (mxT S + 1) i) = mxT S + 1
    by_cases z : i ∈ [(m + 1) % 3, (m + 2) % 3]
    · rw [if_pos z]
    · rw [if_neg z]
      have : i = m := by
        simp only [List.mem_cons, List.not_mem_nil, or_false, not_or] at z
        exact (md3b m hm i hi).resolve_right fun q => q.elim z.1 z.2
      rw [this, upd_self]
  have c1 : (standS S m [(m + 1) % 3, (m + 2) % 3]).co = S.co := by rw [hst, hearS_eq]; rfl
  have m1 : mxT (standS S m [(m + 1) % 3, (m + 2) % 3]) = mxT S + 1 := by
    conv => lhs; unfold mxT
    rw [t1 0 (by decide), t1 1 (by decide), t1 2 (by decide), Int.max_self, Int.max_self]
  generalize hS1 : standS S m [(m + 1) % 3, (m + 2) % 3] = S1 at *
  have hl1 : 0 < S1.ld m := by (first | omega | lia)
  obtain ⟨a2, j2⟩ := j1.tell (q := (S1.pl m).length) hm ha hma hl1 (Nat.le_refl _)
  have f2 := j1.full ha hma hl1 (by rw [l1, t1 _ ha]; exact Int.le_refl _) rfl
  generalize hS2 : tellS S1 m ((m + 1) % 3) (S1.pl m).length (S1.pl m).length = S2 at *
  have o2 := f2.o m hma
  have q2 : (Rk.sured S2).pl m = S1.pl m := o2.1
  have l2 : (Rk.sured S2).ld m = S1.ld m := o2.2.1
  have j2' := j2.sured
  have tb2 : (Rk.sured S2).tm ((m + 2) % 3) ≤ (Rk.sured S2).ld m := by
    rw [l2, l1]
    show S2.tm ((m + 2) % 3) ≤ _
    rw [(f2.o _ (Ne.symm hab)).2.2, t1 _ hb]; exact Int.le_refl _
  obtain ⟨a3, j3⟩ := j2'.tell (p := (S1.pl m).length) (q := (S1.pl m).length) hm hb hmb (by rw [l2]; exact hl1) (by rw [q2]; exact Nat.le_refl _)
  have f3 := j2'.full (z := (S1.pl m).length) hb hmb (by rw [l2]; exact hl1) tb2 (by rw [q2])
  have k2 : TellOk (Rk.sured S2) m ((m + 2) % 3) (S1.pl m).length (S1.pl m).length := j2'.tellOk (by (first | omega | lia)) hm hb hmb (by rw [l2]; exact hl1) (by rw [q2]; exact Nat.le_refl _) (by have := j1.le m hm; (first | omega | lia))
  have s2 := j2.safe (by (first | omega | lia))
  generalize hS3 : tellS (Rk.sured S2) m ((m + 2) % 3) (S1.pl m).length (S1.pl m).length = S3 at *
  have o3 := f3.o m hmb
  have q3 : S3.pl m = S1.pl m := o3.1.trans q2
  have l3 : S3.ld m = S1.ld m := o3.2.1.trans l2
  have tb3 : S3.tm ((m + 1) % 3) ≤ S3.ld m := by
    rw [l3, (f3.o _ hab).2.2]
    show S2.tm ((m + 1) % 3) ≤ _
    rw [f2.t]; exact Int.le_refl _
  obtain ⟨a4, j4⟩ := j3.tell (p := (S1.pl m).length) (q := (S1.pl m).length) hm ha hma (by rw [l3]; exact hl1) (by rw [q3]; exact Nat.le_refl _)
  have f4 := j3.full (z := (S1.pl m).length) ha hma (by rw [l3]; exact hl1) tb3 (by rw [q3])
  have k3 : TellOk S3 m ((m + 1) % 3) (S1.pl m).length (S1.pl m).length := j3.tellOk (by (first | omega | lia)) hm ha hma (by rw [l3]; exact hl1) (by rw [q3]; exact Nat.le_refl _) (by have := j1.le m hm; (first | omega | lia))
  have s4 := j4.safe (by (first | omega | lia))
  refine ⟨S1, S2, S3, tellS S3 m ((m + 1) % 3) (S1.pl m).length (S1.pl m).length, (S1.pl m).length, ⟨hS1.symm, hS2.symm, hS3.symm, rfl, rfl, ⟨?_, hrd.hy, fun i hi => ?_, ?_, fun _ => hrd.hs m _ hm hjs hv⟩, by rw [l1, m1], ?_, ?_, s2, k2, k3, s4, fun i hi => ?_⟩⟩
  · exact fun i hi => Nat.le_trans (hrd.hz i hi) (by decide)
  · rw [(hrd.hc i hi).1]; exact (hrd.hc i hi).2.2
  · exact Nat.le_trans hrd.hzs (by decide)
  · have := j1.le m hm; (first | omega | lia)
  · exact j1.tellOk (by (first | omega | lia)) hm ha hma hl1 (Nat.le_refl _) (by have := j1.le m hm; (first | omega | lia))
  · have o4 := f4.o m hma
    have q4 := o4.1
    have hi3 : i = m ∨ i = (m + 1) % 3 ∨ i = (m + 2) % 3 := md3b m hm i hi
    rcases hi3 with e | e | e
    · rw [e]; exact ⟨rfl, f4.c⟩
    · rw [e]; exact ⟨f4.p.trans q4.symm, f4.d f3.c⟩
    · rw [e]
      refine ⟨?_, ?_⟩
      · rw [(f4.o _ (Ne.symm hab)).1, q4, f3.p, q2, q3]
      · rw [f4.e _ (Ne.symm hmb) (Ne.symm hab)]
        exact f3.d f2.c
end
noncomputable def GG (i : Nat) (S : Sta) : Prop := i ≤ 8 ∧ ∃ E L a, J i E L a S
theorem plan : Plan GG where
  g0 := ⟨by decide, 0, 0, 0, J.zero⟩
  ready := fun i S hi ⟨_, E, L, a, h⟩ => h.ready (by (first | lia | omega))
  safe := fun i S n hi ⟨_, E, L, a, h⟩ => by
    obtain ⟨E', L', a', h'⟩ := h.act (n := n) (t := 100 + (i : Int))
    exact h'.safe (by (first | lia | omega))
  step := fun i S n hi ⟨_, E, L, a, h⟩ => by
    obtain ⟨E', L', a', h'⟩ := h.act (n := n) (t := 100 + (i : Int))
    exact ⟨by (first | lia | omega), E', L', a', h'.sured⟩
  hz := fun i S ⟨hi, E, L, a, h⟩ j hj => ⟨by rw [h.lo j hj]; have := h.le j hj; (first | lia | omega), h.lo j hj⟩
  alike := fun S ⟨_, E, L, a, h⟩ i j k hi hj hk hk' e => by
    rw [h.lo i hi, h.lo j hj] at *
    exact h.lg.ml i j hi hj k hk hk' e
  fin := fun S m ⟨_, E, L, a, h⟩ hm ok => h.fin (by decide) hm ok
end Rk

end
section
set_option tactic.hygienic false
namespace Rk
theorem law_at {D : Wd} {s₁ : Shared} {h₁ : Heap} {tk : Nat} {sl : Addr} {ws : List Value} {ns : List Int} {m : Str → Option Value} {o : Obj} {ow : Option Value} {body : List Stmt} {scope : Scope} {name : Str} {fa : Addr} {cd : Value}
    {Q : Flow → Shared → Prop} {E : Value → Shared → Prop} {n : Addr}
    (run : ∀ (c : Cx) (n sl : Addr) (ns : List Int), c.D = D → c.sc = scope → c.cl = ([("plain", n)] : List (Str × Addr)) → c.Room 20 → Script c sl ns → ns.length ≤ 100 →
      c.Ss Nope body (fun fl σ' => fl = .ret (.bool true)) ⟨fun y => if y = "script" then some (.ref sl) else none, Hp.set (fun _ => none) n (.cell none)⟩)
    (K0 : Below callerA s₁.heap [] s₁.heap) (KX : D.K.In s₁.heap) (T : Top D.p D.loose D.mean D.mg D.mb s₁.heap) (hL : s₁.heap.IsList sl ws.toArray) (hI : IntsAre ws ns) (hn : ns.length ≤ 100)
    (hg : s₁.gens = D.gens) (hd : s₁.drawn = D.drawn) (ho : s₁.os = D.os)
    (F : Fr s₁.heap s₁.heap.objs.size h₁ m) (hm : m "script" = some (.ref sl)) (hk : scope.names.lookup ("script" : Str) = some .local) (ke : scope.kind = .function) (hcl : cellsFrom (s₁.heap.objs.size + 1) scope.names [] = ([("plain", n)] : List (Str × Addr)))
    (N0 : News s₁.heap s₁.heap.objs.size h₁ [(n, o)]) (hod : o.data = .cell ow)
    (hQ : ∀ s' m', Fr s₁.heap s₁.heap.objs.size s'.heap m' → s'.gens = s₁.gens → s'.os = s₁.os → Q (.ret (.bool true)) s') :
    wpAny (model D.prog D.w) (callerA.deeper (envOfC name scope s₁.heap.objs.size fa cd)) (execs body (envOfC name scope s₁.heap.objs.size fa cd)) Q E { s₁ with heap := h₁, toks := tk } := by
  let c : Cx := { D := D, A := callerA.deeper (envOfC name scope s₁.heap.objs.size fa cd), A₀ := callerA, base := s₁.heap, h₀ := s₁.heap, outer := [], nm := name, sc := scope, L := s₁.heap.objs.size, fa := some fa, cd := cd, cl := cellsFrom (s₁.heap.objs.size + 1) scope.names [], frm := s₁.heap.objs.size, inn := false }
  have Ok : c.Ok := ⟨K0, KX, T, Around.frames_deeper K0.stack, rfl, ke, KX, T, fun a ha => by cases ha⟩
  have only : ∀ a x, (Hp.set (fun _ => none) n (.cell none)) a = some x → a = n ∧ x = .cell none := fun a x e => by
    unfold Hp.set at e
    by_cases q : a = n
    · rw [if_pos q] at e; cases e; exact ⟨q, rfl⟩
    · rw [if_neg q] at e; cases e
  have nn := N0 (n, o) (List.mem_cons_self ..)
  have R : Rel0 c ⟨fun y => if y = "script" then some (.ref sl) else none, Hp.set (fun _ => none) n (.cell none)⟩ { s₁ with heap := h₁, toks := tk } := by
    refine ⟨Ok, ⟨m, F, fun x v e => ?_⟩, ⟨fun a => a, ⟨fun a x e => ?_, fun a x e => ?_, fun a x e i => ?_, fun a b x y e e' i => ?_⟩⟩, hg, hd, ho⟩
    · by_cases q : x = "script"
      · subst q
        simp only [if_true] at e
        cases e
        exact ⟨⟨hk, by decide⟩, _, hm, rfl⟩
      · simp only [if_neg q] at e; cases e
    · obtain ⟨rfl, rfl⟩ := only a x e
      exact ⟨o, ow, nn.1, hod, trivial⟩
    · obtain ⟨rfl, rfl⟩ := only a x e
      exact nn.2
    · obtain ⟨rfl, rfl⟩ := only a x e
      cases i
    · obtain ⟨rfl, rfl⟩ := only a x e
      cases i
  have sc : Script c sl ns := by
    rintro σ s ⟨g, T', R'⟩
    obtain ⟨m', F', _⟩ := R'.loc
    obtain ⟨o', e', h'⟩ := hL
    exact ⟨ws, ⟨o', F'.keep _ _ (T'.other _ _ e' (fun q => nomatch q)), h'⟩, hI⟩
  refine wpAny_mono (run c n sl ns rfl rfl hcl ⟨by show callerA.depth + 1 + 20 ≤ 900; decide, by show callerA.units + 3 + 40 * 20 ≤ 9000; decide, rfl⟩ sc hn _ R.rel) (fun fl s' ⟨fl', σ', hf, R', hq⟩ => ?_) fun _ _ e => e.elim
  subst hq
  obtain ⟨w, rfl, hw⟩ := hf
  cases hw
  obtain ⟨g, T', R'⟩ := R'
  obtain ⟨m', F', _⟩ := R'.loc
  refine hQ s' m' ?_ (R'.g.trans hg.symm) (R'.o.trans ho.symm)
  exact ⟨F'.ns, fun b x e => F'.keep _ _ (T'.other b x e (fun q => nomatch q)), Nat.le_refl _⟩
end Rk

end
open Rk
set_option maxHeartbeats 0 in
theorem PySem.Challenge.cw_nz0371_02_holds : PySem.Challenge.rw_nz0371_02.Holds := by
  w_on
  refine holds_law Rk.said_ fun said => ?_
  refine holds_open (q := Rk.vw) (loose := []) (Xt := Rk.xt) (XP := XL Rk.vw []) (Yf := Hook.obs Rk.hk) (Ya := Hook.val Rk.hk) (YP := Hook.says Rk.hk) (N := 12298) Rk.left_ (Hook.of Rk.hk) (Hook.keeps Rk.hk) (fun s e => xl_of s (Bool.and_eq_true_iff.mp e).1) XL.keeps (by rfl) (by rfl) (by rfl) (fun s e => recFacts_of (Bool.and_eq_true_iff.mp e).2) (by rfl) said (by decide +kernel) ⟨rfl, rfl, rfl, rfl, rfl, by decide +kernel⟩ ?hw ?hc
  case hw => w_witness2
  clear said
  k_fill
  intro w s₀ s₁ mg mb G Y fa o pm cd doc dV kV ho hd hcd hD hmg hg args vals as hpre hlay hrd hwl hlo
  have KX := kIn_of Y
  have X := (Ground.X G).1
  have V := (Ground.X G).2
  refine Ground.open G ?_
  intro T B D TE TW
  try (refine guard_noD D (by decide +kernel) ?_; clear D)
  obtain ⟨_, _, M⟩ := bmod_of_top T
  have TA := at_of_top T
  try (obtain ⟨_, _, he, B0⟩ := based_of_top T rfl hmg ho hd; have he' : cd = _ := he; subst he'; clear he)
  clear hmg
  wrow_args hpre hlay hrd hwl hlo
  first | refine callC_kw (enter_call ?_) | refine enter_call ?_ | refine callC_kw (enter_callW ?_) | refine enter_callW ?_ | w_how
  w_top on
  try refine codeAny_mono ?_ (fun _ _ g => GoodW.toG g)
  have K0 := below_caller (Top.heap T)
  w_call any ho hd hcd hD T F
  clear hd TA
  k_drop
  rename Below _ _ _ _ => K0
  rename Frag.In _ _ => KX
  rename Top _ _ _ _ _ _ => T
  rename Heap.IsList _ _ _ => hL
  rename IntsAre _ _ => hI
  rename Fr _ _ _ _ => F
  rename News _ _ _ _ => N0
  rename (_ = #[]) => hg
  rename (¬ _ < _) => hlen
  rename World => wW
  refine' law_at (D := ⟨_, wW, Rk.KK wW.params, Rk.vw, looseW Rk.vw [], _, _, _, _, _, _⟩) (Runs.run (law_runs (rfl : IsD ⟨_, wW, Rk.KK wW.params, Rk.vw, looseW Rk.vw [], _, _, _, _, _, _⟩) plan) ?hK) K0 KX T hL hI (by omega) rfl rfl rfl F ?hm ?hk ?ke ?hcl N0 (by assumption) ?hQ
  case hK =>
    show (Rk.KK wW.params).lookup 792 = _
    k_is
  case hm => rfl
  case hk => rfl
  case ke => rfl
  case hcl => rfl
  case hQ =>
    intro s' m' F' h1 h2
    exact goodW_bool F' (h1.trans hg) (raisesW_false (by wrow_none_raised)) (postW_of (by wrow_shape) (by wtm_val) (by w_fin)) h2
