import PyProof.Rows.All
import Wide.All
import OpenK.AllK
import Wide.FinOn
import PySem.Challenge.RW_nz0371_01
set_option Elab.async false
set_option linter.unusedVariables false
set_option maxRecDepth 100000
set_option compiler.extract_closed false
set_option genSizeOf false
set_option genSizeOfSpec false
open PySem PySem.W PySem.Calls PyProof.Rows
section
set_option maxHeartbeats 0
noncomputable section
namespace Rk
noncomputable abbrev rp : Program := PySem.Challenge.rw_nz0371_01.row.toRowW.1
noncomputable def nth : List Stmt → Nat → Stmt
  | s :: _, 0 => s
  | _ :: r, n + 1 => nth r n
  | [], _ => .Pass ⟨0, 0, 0, 0⟩
noncomputable def cbody : Stmt → List Stmt
  | .ClassDef _ _ _ b _ _ _ _ _ _ _ => b
  | _ => []
noncomputable def s1 (i : Nat) : Stmt := nth rp.main.body i
noncomputable def s2 (i j : Nat) : Stmt := nth (cbody (s1 i)) j
noncomputable abbrev S (x : String) (t : Nat) : Value := .str (Str.ofString x) t
noncomputable abbrev I (i : Int) : Value := .int i 0
noncomputable abbrev R (a : Nat) : Value := .ref a
noncomputable def fd (qn : String) (g : Nat) (mv cv : Value) : Stmt → Data
  | .FunctionDef n a b _ _ _ sc _ _ _ => .func { name := n, qualname := Str.ofString qn, params := a, body := .stmts b, scope := sc, globals := g, closure := [], defaults := .none, kwdefaults := .none, pyModule := mv, code := cv }
  | _ => .plain
noncomputable def fo (qn : String) (s : Stmt) (mv : Value) (c : Nat) (_ : Params) : Obj := ⟨.type "function", none, fd qn 3 mv (.ref c) s, #[]⟩
noncomputable def fs (qn : String) (s : Stmt) (_ : Params) : Obj := ⟨.none, none, fd qn 0 .none .none s, #[]⟩
noncomputable def tu (l : List Value) (_ : Params) : Obj := ⟨.type "tuple", none, .seq l.toArray 0, #[]⟩
noncomputable def tn (l : List String) (t : Nat) (_ : Params) : Obj := ⟨.type "tuple", none, .seq (go l t).toArray 0, #[]⟩
where go : List String → Nat → List Value
  | [], _ => []
  | x :: r, t => S x t :: go r (t + 1)
noncomputable def fl (l : List Value) (_ : Params) : Obj := ⟨.none, none, .fields l.toArray, #[]⟩
noncomputable def ft (c : String) (l : List Value) (_ : Params) : Obj := ⟨.type c, none, .fields l.toArray, #[]⟩
noncomputable def cf (nm qn : String) (t l ac k f a tt : Nat) (_ : Params) : Obj :=
  ⟨.type "code", none, .fields #[S nm t, S qn (t + 1), S "/claim/cut.py" (t + 2), .int l 0, .int ac 0, I 0, I 0, .int f 0, R a, .bool true, .int k 0, R (a + 1), .none, R (a + 2), R (a + 3), R (a + 4), .int tt 0, .int l 0, S "/claim/cut.py" (tt + 1)], #[]⟩
noncomputable def cc (nm : String) (t l k a : Nat) (_ : Params) : Obj :=
  ⟨.type "code", none, .fields #[S nm t, S nm (t + 1), S "/claim/cut.py" (t + 2), .int l 0, I 0, I 0, I 0, I 0, R a, .bool false, .int k 0, R (a + 1), .none, .none, .none, .none, .int (t + 3 : Nat) 0, .int l 0, S "/claim/cut.py" (t + 4)], #[]⟩
noncomputable def dc (cl : Value) (es : List (String × Nat × Value)) (n : Nat) (P : Params) : Obj :=
  ⟨cl, none, .dict (es.map fun e => ⟨PyData.keyHash P (Str.ofString e.1), S e.1 e.2.1, e.2.2⟩).toArray n, #[]⟩
noncomputable def dd := dc (.type "dict")
noncomputable def ks (nm : String) (bs mro : List Value) (ns : Nat) (sb : List Value) (sl : List (Option Value)) (_ : Params) : Obj :=
  ⟨.type "type", none, .cls { name := Str.ofString nm, bases := bs, mro := mro, ns := ns, qualname := Str.ofString nm, subclasses := sb }, sl.toArray⟩
noncomputable def fr (c l : Nat) (m : Value) (_ : Params) : Obj := ⟨.type "frame", none, .plain, #[some (R c), some (R 3), some (R l), none, some m, none, some (R 0)]⟩
end Rk

namespace Rk
noncomputable def zt := tu []
noncomputable def zf := fl []
noncomputable def o13 := cc "<module>" 182 1 181 11
noncomputable def o14 := fr 13 3 (S "__main__" 164)
noncomputable def insR (P : Params) : Nat → List (Params → Obj) → BT → BT
  | _, [], t => t
  | i, o :: r, t => insR P (i + 1) r (t.ins i (o P))
noncomputable def insL (P : Params) : List (Nat × (Params → Obj)) → BT → BT
  | [], t => t
  | o :: r, t => insL P r (t.ins o.1 (o.2 P))
noncomputable def h0 (P : Params) : Heap := ⟨⟨[boot_o_0 P, boot_o_1 P, boot_o_2 P, boot_o_3 P, boot_o_4 P, boot_o_5 P, boot_o_6 P, boot_o_7 P, boot_o_8 P, boot_o_9 P, boot_o_10 P, zt P, zf P, o13 P, o14 P]⟩, {}⟩
noncomputable def T0 (P : Params) : BT := insR P 0 [boot_o_0, boot_o_1, boot_o_2, boot_o_3, boot_o_4, boot_o_5, boot_o_6, boot_o_7, boot_o_8, boot_o_9, boot_o_10, zt, zf, o13, o14] .nil
noncomputable abbrev an : Option Value := some (.ref 6)
noncomputable def en : Env := { scope := rp.main.scope, locals := mainNs, globals := mainNs, cells := [], code := .ref 13, frame := some 14 }
noncomputable abbrev cd : Code := .body (behindTheImports rp) en
noncomputable abbrev B0 : List Frame := [topFrame ⟨0, 0, 0, 0⟩]
noncomputable abbrev SE (T : Params → BT) (n k : Nat) (w : World) (os : OsState) : SharedT := ⟨T w.params, n, {}, #[], {}, k, os⟩
noncomputable def sl (i n : Nat) : List Stmt := (rp.main.body.drop i).take n
noncomputable def o2 := dc .none [("type.__subclasses__.Exception.0", 212, (I 31)), ("type.__subclasses__.Exception.n", 213, (I 1))] 2
noncomputable def o3 := dd [("__name__", 165, (S "raftkeep.errors" 194)), ("__doc__", 166, .none), ("__package__", 167, .none), ("__loader__", 168, (.builtin "__main__.__loader__#opaque")), ("__spec__", 169, .none), ("__annotations__", 170, (R 6)), ("__builtins__", 171, (R 4)), ("__file__", 173, (S "/claim/cut.py" 172)), ("__cached__", 174, .none), ("_wall", 193, (R 21)), ("KeepError", 215, (R 31)), ("StoreError", 231, (R 44)), ("BadOption", 247, (R 56))] 13
noncomputable def o12 := fl [(I 1), (I 0), (R 20), (I 5), (I 0), (R 27), (I 7), (I 0), (R 40), (I 9), (I 0), (R 52)]
noncomputable def o17 := tn ["k"] 190
noncomputable def o19 := fs "_wall" (s1 0)
noncomputable def o20 := cf "_wall" "_wall" 187 1 1 181 3 15 191
noncomputable def o21 := fo "_wall" (s1 0) (S "__main__" 164) 20
noncomputable def o22 := tu [(.type "Exception")]
noncomputable def o23 := ft "builtin_function_or_method" [(.builtin "type.__prepare__"), (.type "type")]
noncomputable def o24 := dd [("__module__", 203, (S "raftkeep.errors" 194)), ("__qualname__", 205, (S "KeepError" 204)), ("__firstlineno__", 207, (.int 5 206)), ("__static_attributes__", 208, (R 29))] 4
noncomputable def o27 := cc "KeepError" 198 5 181 25
noncomputable def o28 := fr 27 24 (S "raftkeep.errors" 194)
noncomputable def o30 := dd [("__module__", 203, (S "raftkeep.errors" 194)), ("__firstlineno__", 207, (.int 5 206)), ("__static_attributes__", 208, (R 29)), ("__weakref__", 210, (R 32)), ("__doc__", 211, .none)] 3
noncomputable def o31 := ks "KeepError" [(.type "Exception")] [(R 31), (.type "Exception"), (.type "BaseException"), (.type "object")] 30 [(R 44)] [some (R 22), none, some (S "KeepError" 196), some (S "KeepError" 204), some (.builtin "Exception.__new__"), some (.bool true)]
noncomputable def o32 := ft "getset_descriptor" [(S "__weakref__" 209), (R 31), (.builtin "ExceptionGroup.__weakref__"), .none]
noncomputable def o33 := ft "super" [(R 31), (R 31), (R 31)]
noncomputable def o34 := ft "builtin_function_or_method" [(.builtin "object.__init_subclass__"), (R 31)]
noncomputable def o35 := tu [(R 31)]
noncomputable def o36 := ft "builtin_function_or_method" [(.builtin "type.__prepare__"), (.type "type")]
noncomputable def o37 := dd [("__module__", 223, (S "raftkeep.errors" 194)), ("__qualname__", 225, (S "StoreError" 224)), ("__firstlineno__", 227, (.int 7 226)), ("__static_attributes__", 228, (R 42))] 4
noncomputable def o40 := cc "StoreError" 218 7 181 38
noncomputable def o41 := fr 40 37 (S "raftkeep.errors" 194)
noncomputable def o43 := dd [("__module__", 223, (S "raftkeep.errors" 194)), ("__firstlineno__", 227, (.int 7 226)), ("__static_attributes__", 228, (R 42)), ("__doc__", 229, .none)] 2
noncomputable def o44 := ks "StoreError" [(R 31)] [(R 44), (R 31), (.type "Exception"), (.type "BaseException"), (.type "object")] 43 [(R 56)] [some (R 35), none, some (S "StoreError" 216), some (S "StoreError" 224), some (.builtin "Exception.__new__"), some (.bool true)]
noncomputable def o45 := ft "super" [(R 44), (R 44), (R 44)]
noncomputable def o46 := ft "builtin_function_or_method" [(.builtin "object.__init_subclass__"), (R 44)]
noncomputable def o47 := tu [(R 44)]
noncomputable def o48 := ft "builtin_function_or_method" [(.builtin "type.__prepare__"), (.type "type")]
noncomputable def o49 := dd [("__module__", 239, (S "raftkeep.errors" 194)), ("__qualname__", 241, (S "BadOption" 240)), ("__firstlineno__", 243, (.int 9 242)), ("__static_attributes__", 244, (R 54))] 4
noncomputable def o52 := cc "BadOption" 234 9 181 50
noncomputable def o53 := fr 52 49 (S "raftkeep.errors" 194)
noncomputable def o55 := dd [("__module__", 239, (S "raftkeep.errors" 194)), ("__firstlineno__", 243, (.int 9 242)), ("__static_attributes__", 244, (R 54)), ("__doc__", 245, .none)] 2
noncomputable def o56 := ks "BadOption" [(R 44)] [(R 56), (R 44), (R 31), (.type "Exception"), (.type "BaseException"), (.type "object")] 55 [] [some (R 47), none, some (S "BadOption" 232), some (S "BadOption" 240), some (.builtin "Exception.__new__"), some (.bool true)]
noncomputable def o57 := ft "super" [(R 56), (R 56), (R 56)]
noncomputable def o58 := ft "builtin_function_or_method" [(.builtin "object.__init_subclass__"), (R 56)]
noncomputable def T1 (P : Params) : BT := insR P 15 [zt, zf, o17, zt, o19, o20, o21, o22, o23, o24, zt, zf, o27, o28, zt, o30, o31, o32, o33, o34, o35, o36, o37, zt, zf, o40, o41, zt, o43, o44, o45, o46, o47, o48, o49, zt, zf, o52, o53, zt, o55, o56, o57, o58] (insL P [(2, o2), (3, o3), (12, o12)] (T0 P))
theorem g1 (w : World) (os : OsState) : segRunT treeTable rp w 11 an 1 675 (SE T0 15 187 w os) (piecesOf (sl 0 5) en cd ⟨0, 0, 0, 0⟩ B0) = some (.next, SE T1 59 248 w os, cd, ⟨9, 0, 10, 8⟩) := by
  rw [PySem.W.Fast.te10110043849684766642, PySem.W.Fast.te14364793385576792824]; kernel_rfl
noncomputable def o3v1 := dd [("__name__", 165, (S "raftkeep.errors" 194)), ("__doc__", 166, .none), ("__package__", 167, .none), ("__loader__", 168, (.builtin "__main__.__loader__#opaque")), ("__spec__", 169, .none), ("__annotations__", 170, (R 6)), ("__builtins__", 171, (R 4)), ("__file__", 173, (S "/claim/cut.py" 172)), ("__cached__", 174, .none), ("_wall", 193, (R 21)), ("KeepError", 215, (R 31)), ("StoreError", 231, (R 44)), ("BadOption", 247, (R 56)), ("RaftError", 263, (R 68)), ("Compacted", 279, (R 80)), ("Unavailable", 295, (R 92))] 16
noncomputable def o12v1 := fl [(I 1), (I 0), (R 20), (I 5), (I 0), (R 27), (I 7), (I 0), (R 40), (I 9), (I 0), (R 52), (I 11), (I 0), (R 64), (I 13), (I 0), (R 76), (I 15), (I 0), (R 88)]
noncomputable def o31v1 := ks "KeepError" [(.type "Exception")] [(R 31), (.type "Exception"), (.type "BaseException"), (.type "object")] 30 [(R 44), (R 68)] [some (R 22), none, some (S "KeepError" 196), some (S "KeepError" 204), some (.builtin "Exception.__new__"), some (.bool true)]
noncomputable def o59 := tu [(R 31)]
noncomputable def o60 := ft "builtin_function_or_method" [(.builtin "type.__prepare__"), (.type "type")]
noncomputable def o61 := dd [("__module__", 255, (S "raftkeep.errors" 194)), ("__qualname__", 257, (S "RaftError" 256)), ("__firstlineno__", 259, (.int 11 258)), ("__static_attributes__", 260, (R 66))] 4
noncomputable def o64 := cc "RaftError" 250 11 181 62
noncomputable def o65 := fr 64 61 (S "raftkeep.errors" 194)
noncomputable def o67 := dd [("__module__", 255, (S "raftkeep.errors" 194)), ("__firstlineno__", 259, (.int 11 258)), ("__static_attributes__", 260, (R 66)), ("__doc__", 261, .none)] 2
noncomputable def o68 := ks "RaftError" [(R 31)] [(R 68), (R 31), (.type "Exception"), (.type "BaseException"), (.type "object")] 67 [(R 80), (R 92)] [some (R 59), none, some (S "RaftError" 248), some (S "RaftError" 256), some (.builtin "Exception.__new__"), some (.bool true)]
noncomputable def o69 := ft "super" [(R 68), (R 68), (R 68)]
noncomputable def o70 := ft "builtin_function_or_method" [(.builtin "object.__init_subclass__"), (R 68)]
noncomputable def o71 := tu [(R 68)]
noncomputable def o72 := ft "builtin_function_or_method" [(.builtin "type.__prepare__"), (.type "type")]
noncomputable def o73 := dd [("__module__", 271, (S "raftkeep.errors" 194)), ("__qualname__", 273, (S "Compacted" 272)), ("__firstlineno__", 275, (.int 13 274)), ("__static_attributes__", 276, (R 78))] 4
noncomputable def o76 := cc "Compacted" 266 13 181 74
noncomputable def o77 := fr 76 73 (S "raftkeep.errors" 194)
noncomputable def o79 := dd [("__module__", 271, (S "raftkeep.errors" 194)), ("__firstlineno__", 275, (.int 13 274)), ("__static_attributes__", 276, (R 78)), ("__doc__", 277, .none)] 2
noncomputable def o80 := ks "Compacted" [(R 68)] [(R 80), (R 68), (R 31), (.type "Exception"), (.type "BaseException"), (.type "object")] 79 [] [some (R 71), none, some (S "Compacted" 264), some (S "Compacted" 272), some (.builtin "Exception.__new__"), some (.bool true)]
noncomputable def o81 := ft "super" [(R 80), (R 80), (R 80)]
noncomputable def o82 := ft "builtin_function_or_method" [(.builtin "object.__init_subclass__"), (R 80)]
noncomputable def o83 := tu [(R 68)]
noncomputable def o84 := ft "builtin_function_or_method" [(.builtin "type.__prepare__"), (.type "type")]
noncomputable def o85 := dd [("__module__", 287, (S "raftkeep.errors" 194)), ("__qualname__", 289, (S "Unavailable" 288)), ("__firstlineno__", 291, (.int 15 290)), ("__static_attributes__", 292, (R 90))] 4
noncomputable def o88 := cc "Unavailable" 282 15 181 86
noncomputable def o89 := fr 88 85 (S "raftkeep.errors" 194)
noncomputable def o91 := dd [("__module__", 287, (S "raftkeep.errors" 194)), ("__firstlineno__", 291, (.int 15 290)), ("__static_attributes__", 292, (R 90)), ("__doc__", 293, .none)] 2
noncomputable def o92 := ks "Unavailable" [(R 68)] [(R 92), (R 68), (R 31), (.type "Exception"), (.type "BaseException"), (.type "object")] 91 [] [some (R 83), none, some (S "Unavailable" 280), some (S "Unavailable" 288), some (.builtin "Exception.__new__"), some (.bool true)]
noncomputable def o93 := ft "super" [(R 92), (R 92), (R 92)]
noncomputable def o94 := ft "builtin_function_or_method" [(.builtin "object.__init_subclass__"), (R 92)]
noncomputable def T2 (P : Params) : BT := insR P 59 [o59, o60, o61, zt, zf, o64, o65, zt, o67, o68, o69, o70, o71, o72, o73, zt, zf, o76, o77, zt, o79, o80, o81, o82, o83, o84, o85, zt, zf, o88, o89, zt, o91, o92, o93, o94] (insL P [(3, o3v1), (12, o12v1), (31, o31v1)] (T1 P))
theorem g2 (w : World) (os : OsState) : segRunT treeTable rp w 11 an 1 668 (SE T1 59 248 w os) (piecesOf (sl 5 3) en cd ⟨9, 0, 10, 8⟩ B0) = some (.next, SE T2 95 296 w os, cd, ⟨15, 0, 16, 8⟩) := by
  rw [PySem.W.Fast.te10110043849684766642, PySem.W.Fast.te14364793385576792824]; kernel_rfl
noncomputable def o3v2 := dd [("__name__", 165, (S "raftkeep.errors" 194)), ("__doc__", 166, .none), ("__package__", 167, .none), ("__loader__", 168, (.builtin "__main__.__loader__#opaque")), ("__spec__", 169, .none), ("__annotations__", 170, (R 6)), ("__builtins__", 171, (R 4)), ("__file__", 173, (S "/claim/cut.py" 172)), ("__cached__", 174, .none), ("_wall", 193, (R 21)), ("KeepError", 215, (R 31)), ("StoreError", 231, (R 44)), ("BadOption", 247, (R 56)), ("RaftError", 263, (R 68)), ("Compacted", 279, (R 80)), ("Unavailable", 295, (R 92)), ("SnapOutOfDate", 311, (R 104)), ("SnapNotReady", 327, (R 116)), ("LogGap", 343, (R 128))] 19
noncomputable def o12v2 := fl [(I 1), (I 0), (R 20), (I 5), (I 0), (R 27), (I 7), (I 0), (R 40), (I 9), (I 0), (R 52), (I 11), (I 0), (R 64), (I 13), (I 0), (R 76), (I 15), (I 0), (R 88), (I 17), (I 0), (R 100), (I 19), (I 0), (R 112), (I 21), (I 0), (R 124)]
noncomputable def o68v1 := ks "RaftError" [(R 31)] [(R 68), (R 31), (.type "Exception"), (.type "BaseException"), (.type "object")] 67 [(R 80), (R 92), (R 104), (R 116), (R 128)] [some (R 59), none, some (S "RaftError" 248), some (S "RaftError" 256), some (.builtin "Exception.__new__"), some (.bool true)]
noncomputable def o95 := tu [(R 68)]
noncomputable def o96 := ft "builtin_function_or_method" [(.builtin "type.__prepare__"), (.type "type")]
noncomputable def o97 := dd [("__module__", 303, (S "raftkeep.errors" 194)), ("__qualname__", 305, (S "SnapOutOfDate" 304)), ("__firstlineno__", 307, (.int 17 306)), ("__static_attributes__", 308, (R 102))] 4
noncomputable def o100 := cc "SnapOutOfDate" 298 17 181 98
noncomputable def o101 := fr 100 97 (S "raftkeep.errors" 194)
noncomputable def o103 := dd [("__module__", 303, (S "raftkeep.errors" 194)), ("__firstlineno__", 307, (.int 17 306)), ("__static_attributes__", 308, (R 102)), ("__doc__", 309, .none)] 2
noncomputable def o104 := ks "SnapOutOfDate" [(R 68)] [(R 104), (R 68), (R 31), (.type "Exception"), (.type "BaseException"), (.type "object")] 103 [] [some (R 95), none, some (S "SnapOutOfDate" 296), some (S "SnapOutOfDate" 304), some (.builtin "Exception.__new__"), some (.bool true)]
noncomputable def o105 := ft "super" [(R 104), (R 104), (R 104)]
noncomputable def o106 := ft "builtin_function_or_method" [(.builtin "object.__init_subclass__"), (R 104)]
noncomputable def o107 := tu [(R 68)]
noncomputable def o108 := ft "builtin_function_or_method" [(.builtin "type.__prepare__"), (.type "type")]
noncomputable def o109 := dd [("__module__", 319, (S "raftkeep.errors" 194)), ("__qualname__", 321, (S "SnapNotReady" 320)), ("__firstlineno__", 323, (.int 19 322)), ("__static_attributes__", 324, (R 114))] 4
noncomputable def o112 := cc "SnapNotReady" 314 19 181 110
noncomputable def o113 := fr 112 109 (S "raftkeep.errors" 194)
noncomputable def o115 := dd [("__module__", 319, (S "raftkeep.errors" 194)), ("__firstlineno__", 323, (.int 19 322)), ("__static_attributes__", 324, (R 114)), ("__doc__", 325, .none)] 2
noncomputable def o116 := ks "SnapNotReady" [(R 68)] [(R 116), (R 68), (R 31), (.type "Exception"), (.type "BaseException"), (.type "object")] 115 [] [some (R 107), none, some (S "SnapNotReady" 312), some (S "SnapNotReady" 320), some (.builtin "Exception.__new__"), some (.bool true)]
noncomputable def o117 := ft "super" [(R 116), (R 116), (R 116)]
noncomputable def o118 := ft "builtin_function_or_method" [(.builtin "object.__init_subclass__"), (R 116)]
noncomputable def o119 := tu [(R 68)]
noncomputable def o120 := ft "builtin_function_or_method" [(.builtin "type.__prepare__"), (.type "type")]
noncomputable def o121 := dd [("__module__", 335, (S "raftkeep.errors" 194)), ("__qualname__", 337, (S "LogGap" 336)), ("__firstlineno__", 339, (.int 21 338)), ("__static_attributes__", 340, (R 126))] 4
noncomputable def o124 := cc "LogGap" 330 21 181 122
noncomputable def o125 := fr 124 121 (S "raftkeep.errors" 194)
noncomputable def o127 := dd [("__module__", 335, (S "raftkeep.errors" 194)), ("__firstlineno__", 339, (.int 21 338)), ("__static_attributes__", 340, (R 126)), ("__doc__", 341, .none)] 2
noncomputable def o128 := ks "LogGap" [(R 68)] [(R 128), (R 68), (R 31), (.type "Exception"), (.type "BaseException"), (.type "object")] 127 [] [some (R 119), none, some (S "LogGap" 328), some (S "LogGap" 336), some (.builtin "Exception.__new__"), some (.bool true)]
noncomputable def o129 := ft "super" [(R 128), (R 128), (R 128)]
noncomputable def o130 := ft "builtin_function_or_method" [(.builtin "object.__init_subclass__"), (R 128)]
noncomputable def T3 (P : Params) : BT := insR P 95 [o95, o96, o97, zt, zf, o100, o101, zt, o103, o104, o105, o106, o107, o108, o109, zt, zf, o112, o113, zt, o115, o116, o117, o118, o119, o120, o121, zt, zf, o124, o125, zt, o127, o128, o129, o130] (insL P [(3, o3v2), (12, o12v2), (68, o68v1)] (T2 P))
theorem g3 (w : World) (os : OsState) : segRunT treeTable rp w 11 an 1 682 (SE T2 95 296 w os) (piecesOf (sl 8 3) en cd ⟨15, 0, 16, 8⟩ B0) = some (.next, SE T3 131 344 w os, cd, ⟨21, 0, 22, 8⟩) := by
  rw [PySem.W.Fast.te10110043849684766642, PySem.W.Fast.te14364793385576792824]; kernel_rfl
noncomputable def o3v3 := dd [("__name__", 165, (S "raftkeep.messages" 388)), ("__doc__", 166, .none), ("__package__", 167, .none), ("__loader__", 168, (.builtin "__main__.__loader__#opaque")), ("__spec__", 169, .none), ("__annotations__", 170, (R 6)), ("__builtins__", 171, (R 4)), ("__file__", 173, (S "/claim/cut.py" 172)), ("__cached__", 174, .none), ("_wall", 193, (R 21)), ("KeepError", 215, (R 31)), ("StoreError", 231, (R 44)), ("BadOption", 247, (R 56)), ("RaftError", 263, (R 68)), ("Compacted", 279, (R 80)), ("Unavailable", 295, (R 92)), ("SnapOutOfDate", 311, (R 104)), ("SnapNotReady", 327, (R 116)), ("LogGap", 343, (R 128)), ("CommitRegress", 359, (R 140)), ("LogPanic", 375, (R 152)), ("MAX_64", 379, (.int 18446744073709551615 378)), ("varint_length", 387, (R 161)), ("NONE", 391, (.int 0 390)), ("NO_LIMIT", 393, (.int 18446744073709551615 392)), ("ENTRY_NORMAL", 395, (.int 0 394)), ("rising", 404, (R 168))] 27
noncomputable def o12v3 := fl [(I 1), (I 0), (R 20), (I 5), (I 0), (R 27), (I 7), (I 0), (R 40), (I 9), (I 0), (R 52), (I 11), (I 0), (R 64), (I 13), (I 0), (R 76), (I 15), (I 0), (R 88), (I 17), (I 0), (R 100), (I 19), (I 0), (R 112), (I 21), (I 0), (R 124), (I 23), (I 0), (R 136), (I 25), (I 0), (R 148), (I 29), (I 0), (R 160), (I 41), (I 0), (R 167)]
noncomputable def o68v2 := ks "RaftError" [(R 31)] [(R 68), (R 31), (.type "Exception"), (.type "BaseException"), (.type "object")] 67 [(R 80), (R 92), (R 104), (R 116), (R 128), (R 140), (R 152)] [some (R 59), none, some (S "RaftError" 248), some (S "RaftError" 256), some (.builtin "Exception.__new__"), some (.bool true)]
noncomputable def o131 := tu [(R 68)]
noncomputable def o132 := ft "builtin_function_or_method" [(.builtin "type.__prepare__"), (.type "type")]
noncomputable def o133 := dd [("__module__", 351, (S "raftkeep.errors" 194)), ("__qualname__", 353, (S "CommitRegress" 352)), ("__firstlineno__", 355, (.int 23 354)), ("__static_attributes__", 356, (R 138))] 4
noncomputable def o136 := cc "CommitRegress" 346 23 181 134
noncomputable def o137 := fr 136 133 (S "raftkeep.errors" 194)
noncomputable def o139 := dd [("__module__", 351, (S "raftkeep.errors" 194)), ("__firstlineno__", 355, (.int 23 354)), ("__static_attributes__", 356, (R 138)), ("__doc__", 357, .none)] 2
noncomputable def o140 := ks "CommitRegress" [(R 68)] [(R 140), (R 68), (R 31), (.type "Exception"), (.type "BaseException"), (.type "object")] 139 [] [some (R 131), none, some (S "CommitRegress" 344), some (S "CommitRegress" 352), some (.builtin "Exception.__new__"), some (.bool true)]
noncomputable def o141 := ft "super" [(R 140), (R 140), (R 140)]
noncomputable def o142 := ft "builtin_function_or_method" [(.builtin "object.__init_subclass__"), (R 140)]
noncomputable def o143 := tu [(R 68)]
noncomputable def o144 := ft "builtin_function_or_method" [(.builtin "type.__prepare__"), (.type "type")]
noncomputable def o145 := dd [("__module__", 367, (S "raftkeep.errors" 194)), ("__qualname__", 369, (S "LogPanic" 368)), ("__firstlineno__", 371, (.int 25 370)), ("__static_attributes__", 372, (R 150))] 4
noncomputable def o148 := cc "LogPanic" 362 25 181 146
noncomputable def o149 := fr 148 145 (S "raftkeep.errors" 194)
noncomputable def o151 := dd [("__module__", 367, (S "raftkeep.errors" 194)), ("__firstlineno__", 371, (.int 25 370)), ("__static_attributes__", 372, (R 150)), ("__doc__", 373, .none)] 2
noncomputable def o152 := ks "LogPanic" [(R 68)] [(R 152), (R 68), (R 31), (.type "Exception"), (.type "BaseException"), (.type "object")] 151 [] [some (R 143), none, some (S "LogPanic" 360), some (S "LogPanic" 368), some (.builtin "Exception.__new__"), some (.bool true)]
noncomputable def o153 := ft "super" [(R 152), (R 152), (R 152)]
noncomputable def o154 := ft "builtin_function_or_method" [(.builtin "object.__init_subclass__"), (R 152)]
noncomputable def o157 := tn ["n", "count"] 383
noncomputable def o159 := fs "varint_length" (s1 15)
noncomputable def o160 := cf "varint_length" "varint_length" 380 29 1 181 3 155 385
noncomputable def o161 := fo "varint_length" (s1 15) (S "raftkeep.octets" 376) 160
noncomputable def o164 := tn ["ids", "out", "nid"] 399
noncomputable def o166 := fs "rising" (s1 20)
noncomputable def o167 := cf "rising" "rising" 396 41 1 181 3 162 402
noncomputable def o168 := fo "rising" (s1 20) (S "raftkeep.messages" 388) 167
noncomputable def T4 (P : Params) : BT := insR P 131 [o131, o132, o133, zt, zf, o136, o137, zt, o139, o140, o141, o142, o143, o144, o145, zt, zf, o148, o149, zt, o151, o152, o153, o154, zt, zf, o157, zt, o159, o160, o161, zt, zf, o164, zt, o166, o167, o168] (insL P [(3, o3v3), (12, o12v3), (68, o68v2)] (T3 P))
theorem g4 (w : World) (os : OsState) : segRunT treeTable rp w 11 an 1 570 (SE T3 131 344 w os) (piecesOf (sl 11 10) en cd ⟨21, 0, 22, 8⟩ B0) = some (.next, SE T4 169 405 w os, cd, ⟨41, 0, 46, 14⟩) := by
  rw [PySem.W.Fast.te10110043849684766642, PySem.W.Fast.te14364793385576792824]; kernel_rfl
noncomputable def o3v4 := dd [("__name__", 165, (S "raftkeep.messages" 388)), ("__doc__", 166, .none), ("__package__", 167, .none), ("__loader__", 168, (.builtin "__main__.__loader__#opaque")), ("__spec__", 169, .none), ("__annotations__", 170, (R 6)), ("__builtins__", 171, (R 4)), ("__file__", 173, (S "/claim/cut.py" 172)), ("__cached__", 174, .none), ("_wall", 193, (R 21)), ("KeepError", 215, (R 31)), ("StoreError", 231, (R 44)), ("BadOption", 247, (R 56)), ("RaftError", 263, (R 68)), ("Compacted", 279, (R 80)), ("Unavailable", 295, (R 92)), ("SnapOutOfDate", 311, (R 104)), ("SnapNotReady", 327, (R 116)), ("LogGap", 343, (R 128)), ("CommitRegress", 359, (R 140)), ("LogPanic", 375, (R 152)), ("MAX_64", 379, (.int 18446744073709551615 378)), ("varint_length", 387, (R 161)), ("NONE", 391, (.int 0 390)), ("NO_LIMIT", 393, (.int 18446744073709551615 392)), ("ENTRY_NORMAL", 395, (.int 0 394)), ("rising", 404, (R 168)), ("Entry", 469, (R 213)), ("limit_size", 480, (R 224))] 29
noncomputable def o12v4 := fl [(I 1), (I 0), (R 20), (I 5), (I 0), (R 27), (I 7), (I 0), (R 40), (I 9), (I 0), (R 52), (I 11), (I 0), (R 64), (I 13), (I 0), (R 76), (I 15), (I 0), (R 88), (I 17), (I 0), (R 100), (I 19), (I 0), (R 112), (I 21), (I 0), (R 124), (I 23), (I 0), (R 136), (I 25), (I 0), (R 148), (I 29), (I 0), (R 160), (I 41), (I 0), (R 167), (I 47), (I 0), (R 174), (I 68), (I 0), (R 223)]
noncomputable def o170 := ft "builtin_function_or_method" [(.builtin "type.__prepare__"), (.type "type")]
noncomputable def o171 := dd [("__module__", 412, (S "raftkeep.messages" 388)), ("__qualname__", 414, (S "Entry" 413)), ("__firstlineno__", 416, (.int 47 415)), ("__init__", 427, (R 182)), ("row", 434, (R 189)), ("copy", 441, (R 196)), ("payload", 448, (R 203)), ("size", 457, (R 210)), ("__static_attributes__", 462, (R 211))] 9
noncomputable def o173 := fl [(I 49), (I 4), (R 181), (I 55), (I 4), (R 188), (I 58), (I 4), (R 195), (I 61), (I 4), (R 202), (I 64), (I 4), (R 209)]
noncomputable def o174 := cc "Entry" 407 47 181 172
noncomputable def o175 := fr 174 171 (S "raftkeep.messages" 388)
noncomputable def o178 := tn ["self", "term", "index", "kind", "data"] 420
noncomputable def o180 := fs "Entry.__init__" (s2 21 0)
noncomputable def o181 := cf "__init__" "Entry.__init__" 417 49 5 181 3 176 425
noncomputable def o182 := fo "Entry.__init__" (s2 21 0) (S "raftkeep.messages" 388) 181
noncomputable def o185 := tn ["self"] 431
noncomputable def o187 := fs "Entry.row" (s2 21 1)
noncomputable def o188 := cf "row" "Entry.row" 428 55 1 181 3 183 432
noncomputable def o189 := fo "Entry.row" (s2 21 1) (S "raftkeep.messages" 388) 188
noncomputable def o192 := tn ["self"] 438
noncomputable def o194 := fs "Entry.copy" (s2 21 2)
noncomputable def o195 := cf "copy" "Entry.copy" 435 58 1 181 3 190 439
noncomputable def o196 := fo "Entry.copy" (s2 21 2) (S "raftkeep.messages" 388) 195
noncomputable def o199 := tn ["self"] 445
noncomputable def o201 := fs "Entry.payload" (s2 21 3)
noncomputable def o202 := cf "payload" "Entry.payload" 442 61 1 181 3 197 446
noncomputable def o203 := fo "Entry.payload" (s2 21 3) (S "raftkeep.messages" 388) 202
noncomputable def o206 := tn ["self", "length", "head"] 452
noncomputable def o208 := fs "Entry.size" (s2 21 4)
noncomputable def o209 := cf "size" "Entry.size" 449 64 1 181 3 204 455
noncomputable def o210 := fo "Entry.size" (s2 21 4) (S "raftkeep.messages" 388) 209
noncomputable def o211 := tn ["data", "index", "kind", "term"] 458
noncomputable def o212 := dd [("__module__", 412, (S "raftkeep.messages" 388)), ("__firstlineno__", 416, (.int 47 415)), ("__init__", 427, (R 182)), ("row", 434, (R 189)), ("copy", 441, (R 196)), ("payload", 448, (R 203)), ("size", 457, (R 210)), ("__static_attributes__", 462, (R 211)), ("__dict__", 464, (R 214)), ("__weakref__", 466, (R 215)), ("__doc__", 467, .none)] 4
noncomputable def o213 := ks "Entry" [(.type "object")] [(R 213), (.type "object")] 212 [] [none, none, some (S "Entry" 405), some (S "Entry" 413), some (.builtin "object.__new__"), some (.bool true)]
noncomputable def o214 := ft "getset_descriptor" [(S "__dict__" 463), (R 213), (.builtin "function.__dict__"), (.builtin "function.__dict__#set")]
noncomputable def o215 := ft "getset_descriptor" [(S "__weakref__" 465), (R 213), (.builtin "ExceptionGroup.__weakref__"), .none]
noncomputable def o216 := ft "super" [(R 213), (R 213), (R 213)]
noncomputable def o217 := ft "builtin_function_or_method" [(.builtin "object.__init_subclass__"), (R 213)]
noncomputable def o220 := tn ["entries", "n", "total", "kept", "entry"] 473
noncomputable def o222 := fs "limit_size" (s1 22)
noncomputable def o223 := cf "limit_size" "limit_size" 470 68 2 181 3 218 478
noncomputable def o224 := fo "limit_size" (s1 22) (S "raftkeep.messages" 388) 223
noncomputable def T5 (P : Params) : BT := insR P 169 [zt, o170, o171, zt, o173, o174, o175, zt, zf, o178, zt, o180, o181, o182, zt, zf, o185, zt, o187, o188, o189, zt, zf, o192, zt, o194, o195, o196, zt, zf, o199, zt, o201, o202, o203, zt, zf, o206, zt, o208, o209, o210, o211, o212, o213, o214, o215, o216, o217, zt, zf, o220, zt, o222, o223, o224] (insL P [(3, o3v4), (12, o12v4)] (T4 P))
theorem g5 (w : World) (os : OsState) : segRunT treeTable rp w 11 an 1 388 (SE T4 169 405 w os) (piecesOf (sl 21 2) en cd ⟨41, 0, 46, 14⟩ B0) = some (.next, SE T5 225 481 w os, cd, ⟨68, 0, 76, 15⟩) := by
  rw [PySem.W.Fast.te10110043849684766642, PySem.W.Fast.te14364793385576792824]; kernel_rfl
noncomputable def o3v5 := dd [("__name__", 165, (S "raftkeep.messages" 388)), ("__doc__", 166, .none), ("__package__", 167, .none), ("__loader__", 168, (.builtin "__main__.__loader__#opaque")), ("__spec__", 169, .none), ("__annotations__", 170, (R 6)), ("__builtins__", 171, (R 4)), ("__file__", 173, (S "/claim/cut.py" 172)), ("__cached__", 174, .none), ("_wall", 193, (R 21)), ("KeepError", 215, (R 31)), ("StoreError", 231, (R 44)), ("BadOption", 247, (R 56)), ("RaftError", 263, (R 68)), ("Compacted", 279, (R 80)), ("Unavailable", 295, (R 92)), ("SnapOutOfDate", 311, (R 104)), ("SnapNotReady", 327, (R 116)), ("LogGap", 343, (R 128)), ("CommitRegress", 359, (R 140)), ("LogPanic", 375, (R 152)), ("MAX_64", 379, (.int 18446744073709551615 378)), ("varint_length", 387, (R 161)), ("NONE", 391, (.int 0 390)), ("NO_LIMIT", 393, (.int 18446744073709551615 392)), ("ENTRY_NORMAL", 395, (.int 0 394)), ("rising", 404, (R 168)), ("Entry", 469, (R 213)), ("limit_size", 480, (R 224)), ("HardState", 542, (R 269)), ("ConfState", 593, (R 304))] 31
noncomputable def o12v5 := fl [(I 1), (I 0), (R 20), (I 5), (I 0), (R 27), (I 7), (I 0), (R 40), (I 9), (I 0), (R 52), (I 11), (I 0), (R 64), (I 13), (I 0), (R 76), (I 15), (I 0), (R 88), (I 17), (I 0), (R 100), (I 19), (I 0), (R 112), (I 21), (I 0), (R 124), (I 23), (I 0), (R 136), (I 25), (I 0), (R 148), (I 29), (I 0), (R 160), (I 41), (I 0), (R 167), (I 47), (I 0), (R 174), (I 68), (I 0), (R 223), (I 77), (I 0), (R 230), (I 95), (I 0), (R 279)]
noncomputable def o226 := ft "builtin_function_or_method" [(.builtin "type.__prepare__"), (.type "type")]
noncomputable def o227 := dd [("__module__", 488, (S "raftkeep.messages" 388)), ("__qualname__", 490, (S "HardState" 489)), ("__firstlineno__", 492, (.int 77 491)), ("__init__", 502, (R 238)), ("row", 509, (R 245)), ("empty", 516, (R 252)), ("same", 524, (R 259)), ("copy", 531, (R 266)), ("__static_attributes__", 535, (R 267))] 9
noncomputable def o229 := fl [(I 79), (I 4), (R 237), (I 84), (I 4), (R 244), (I 87), (I 4), (R 251), (I 90), (I 4), (R 258), (I 93), (I 4), (R 265)]
noncomputable def o230 := cc "HardState" 483 77 181 228
noncomputable def o231 := fr 230 227 (S "raftkeep.messages" 388)
noncomputable def o234 := tn ["self", "term", "vote", "commit"] 496
noncomputable def o236 := fs "HardState.__init__" (s2 23 0)
noncomputable def o237 := cf "__init__" "HardState.__init__" 493 79 4 181 3 232 500
noncomputable def o238 := fo "HardState.__init__" (s2 23 0) (S "raftkeep.messages" 388) 237
noncomputable def o241 := tn ["self"] 506
noncomputable def o243 := fs "HardState.row" (s2 23 1)
noncomputable def o244 := cf "row" "HardState.row" 503 84 1 181 3 239 507
noncomputable def o245 := fo "HardState.row" (s2 23 1) (S "raftkeep.messages" 388) 244
noncomputable def o248 := tn ["self"] 513
noncomputable def o250 := fs "HardState.empty" (s2 23 2)
noncomputable def o251 := cf "empty" "HardState.empty" 510 87 1 181 3 246 514
noncomputable def o252 := fo "HardState.empty" (s2 23 2) (S "raftkeep.messages" 388) 251
noncomputable def o255 := tn ["self", "other"] 520
noncomputable def o257 := fs "HardState.same" (s2 23 3)
noncomputable def o258 := cf "same" "HardState.same" 517 90 2 181 3 253 522
noncomputable def o259 := fo "HardState.same" (s2 23 3) (S "raftkeep.messages" 388) 258
noncomputable def o262 := tn ["self"] 528
noncomputable def o264 := fs "HardState.copy" (s2 23 4)
noncomputable def o265 := cf "copy" "HardState.copy" 525 93 1 181 3 260 529
noncomputable def o266 := fo "HardState.copy" (s2 23 4) (S "raftkeep.messages" 388) 265
noncomputable def o267 := tn ["commit", "term", "vote"] 532
noncomputable def o268 := dd [("__module__", 488, (S "raftkeep.messages" 388)), ("__firstlineno__", 492, (.int 77 491)), ("__init__", 502, (R 238)), ("row", 509, (R 245)), ("empty", 516, (R 252)), ("same", 524, (R 259)), ("copy", 531, (R 266)), ("__static_attributes__", 535, (R 267)), ("__dict__", 537, (R 270)), ("__weakref__", 539, (R 271)), ("__doc__", 540, .none)] 4
noncomputable def o269 := ks "HardState" [(.type "object")] [(R 269), (.type "object")] 268 [] [none, none, some (S "HardState" 481), some (S "HardState" 489), some (.builtin "object.__new__"), some (.bool true)]
noncomputable def o270 := ft "getset_descriptor" [(S "__dict__" 536), (R 269), (.builtin "function.__dict__"), (.builtin "function.__dict__#set")]
noncomputable def o271 := ft "getset_descriptor" [(S "__weakref__" 538), (R 269), (.builtin "ExceptionGroup.__weakref__"), .none]
noncomputable def o272 := ft "super" [(R 269), (R 269), (R 269)]
noncomputable def o273 := ft "builtin_function_or_method" [(.builtin "object.__init_subclass__"), (R 269)]
noncomputable def o275 := ft "builtin_function_or_method" [(.builtin "type.__prepare__"), (.type "type")]
noncomputable def o276 := dd [("__module__", 550, (S "raftkeep.messages" 388)), ("__qualname__", 552, (S "ConfState" 551)), ("__firstlineno__", 554, (.int 95 553)), ("__init__", 566, (R 287)), ("row", 573, (R 294)), ("copy", 580, (R 301)), ("__static_attributes__", 586, (R 302))] 7
noncomputable def o278 := fl [(I 97), (I 4), (R 286), (I 104), (I 4), (R 293), (I 107), (I 4), (R 300)]
noncomputable def o279 := cc "ConfState" 545 95 181 277
noncomputable def o280 := fr 279 276 (S "raftkeep.messages" 388)
noncomputable def o283 := tn ["self", "voters", "learners", "outgoing", "learners_next", "auto_leave"] 558
noncomputable def o285 := fs "ConfState.__init__" (s2 24 0)
noncomputable def o286 := cf "__init__" "ConfState.__init__" 555 97 6 181 3 281 564
noncomputable def o287 := fo "ConfState.__init__" (s2 24 0) (S "raftkeep.messages" 388) 286
noncomputable def o290 := tn ["self"] 570
noncomputable def o292 := fs "ConfState.row" (s2 24 1)
noncomputable def o293 := cf "row" "ConfState.row" 567 104 1 181 3 288 571
noncomputable def o294 := fo "ConfState.row" (s2 24 1) (S "raftkeep.messages" 388) 293
noncomputable def o297 := tn ["self"] 577
noncomputable def o299 := fs "ConfState.copy" (s2 24 2)
noncomputable def o300 := cf "copy" "ConfState.copy" 574 107 1 181 3 295 578
noncomputable def o301 := fo "ConfState.copy" (s2 24 2) (S "raftkeep.messages" 388) 300
noncomputable def o302 := tn ["auto_leave", "learners", "learners_next", "outgoing", "voters"] 581
noncomputable def o303 := dd [("__module__", 550, (S "raftkeep.messages" 388)), ("__firstlineno__", 554, (.int 95 553)), ("__init__", 566, (R 287)), ("row", 573, (R 294)), ("copy", 580, (R 301)), ("__static_attributes__", 586, (R 302)), ("__dict__", 588, (R 305)), ("__weakref__", 590, (R 306)), ("__doc__", 591, .none)] 4
noncomputable def o304 := ks "ConfState" [(.type "object")] [(R 304), (.type "object")] 303 [] [none, none, some (S "ConfState" 543), some (S "ConfState" 551), some (.builtin "object.__new__"), some (.bool true)]
noncomputable def o305 := ft "getset_descriptor" [(S "__dict__" 587), (R 304), (.builtin "function.__dict__"), (.builtin "function.__dict__#set")]
noncomputable def o306 := ft "getset_descriptor" [(S "__weakref__" 589), (R 304), (.builtin "ExceptionGroup.__weakref__"), .none]
noncomputable def o307 := ft "super" [(R 304), (R 304), (R 304)]
noncomputable def o308 := ft "builtin_function_or_method" [(.builtin "object.__init_subclass__"), (R 304)]
noncomputable def T6 (P : Params) : BT := insR P 225 [zt, o226, o227, zt, o229, o230, o231, zt, zf, o234, zt, o236, o237, o238, zt, zf, o241, zt, o243, o244, o245, zt, zf, o248, zt, o250, o251, o252, zt, zf, o255, zt, o257, o258, o259, zt, zf, o262, zt, o264, o265, o266, o267, o268, o269, o270, o271, o272, o273, zt, o275, o276, zt, o278, o279, o280, zt, zf, o283, zt, o285, o286, o287, zt, zf, o290, zt, o292, o293, o294, zt, zf, o297, zt, o299, o300, o301, o302, o303, o304, o305, o306, o307, o308] (insL P [(3, o3v5), (12, o12v5)] (T5 P))
theorem g6 (w : World) (os : OsState) : segRunT treeTable rp w 11 an 1 644 (SE T5 225 481 w os) (piecesOf (sl 23 2) en cd ⟨68, 0, 76, 15⟩ B0) = some (.next, SE T6 309 594 w os, cd, ⟨95, 0, 108, 104⟩) := by
  rw [PySem.W.Fast.te10110043849684766642, PySem.W.Fast.te14364793385576792824]; kernel_rfl
noncomputable def o3v6 := dd [("__name__", 165, (S "raftkeep.raftlog" 650)), ("__doc__", 166, .none), ("__package__", 167, .none), ("__loader__", 168, (.builtin "__main__.__loader__#opaque")), ("__spec__", 169, .none), ("__annotations__", 170, (R 6)), ("__builtins__", 171, (R 4)), ("__file__", 173, (S "/claim/cut.py" 172)), ("__cached__", 174, .none), ("_wall", 193, (R 21)), ("KeepError", 215, (R 31)), ("StoreError", 231, (R 44)), ("BadOption", 247, (R 56)), ("RaftError", 263, (R 68)), ("Compacted", 279, (R 80)), ("Unavailable", 295, (R 92)), ("SnapOutOfDate", 311, (R 104)), ("SnapNotReady", 327, (R 116)), ("LogGap", 343, (R 128)), ("CommitRegress", 359, (R 140)), ("LogPanic", 375, (R 152)), ("MAX_64", 379, (.int 18446744073709551615 378)), ("varint_length", 387, (R 161)), ("NONE", 391, (.int 0 390)), ("NO_LIMIT", 393, (.int 18446744073709551615 392)), ("ENTRY_NORMAL", 395, (.int 0 394)), ("rising", 404, (R 168)), ("Entry", 469, (R 213)), ("limit_size", 480, (R 224)), ("HardState", 542, (R 269)), ("ConfState", 593, (R 304)), ("Snapshot", 649, (R 346))] 32
noncomputable def o12v6 := fl [(I 1), (I 0), (R 20), (I 5), (I 0), (R 27), (I 7), (I 0), (R 40), (I 9), (I 0), (R 52), (I 11), (I 0), (R 64), (I 13), (I 0), (R 76), (I 15), (I 0), (R 88), (I 17), (I 0), (R 100), (I 19), (I 0), (R 112), (I 21), (I 0), (R 124), (I 23), (I 0), (R 136), (I 25), (I 0), (R 148), (I 29), (I 0), (R 160), (I 41), (I 0), (R 167), (I 47), (I 0), (R 174), (I 68), (I 0), (R 223), (I 77), (I 0), (R 230), (I 95), (I 0), (R 279), (I 109), (I 0), (R 314)]
noncomputable def o310 := ft "builtin_function_or_method" [(.builtin "type.__prepare__"), (.type "type")]
noncomputable def o311 := dd [("__module__", 601, (S "raftkeep.messages" 388)), ("__qualname__", 603, (S "Snapshot" 602)), ("__firstlineno__", 605, (.int 109 604)), ("__init__", 616, (R 322)), ("row", 623, (R 329)), ("empty", 630, (R 336)), ("copy", 637, (R 343)), ("__static_attributes__", 642, (R 344))] 8
noncomputable def o313 := fl [(I 111), (I 4), (R 321), (I 117), (I 4), (R 328), (I 120), (I 4), (R 335), (I 123), (I 4), (R 342)]
noncomputable def o314 := cc "Snapshot" 596 109 181 312
noncomputable def o315 := fr 314 311 (S "raftkeep.messages" 388)
noncomputable def o318 := tn ["self", "index", "term", "conf", "data"] 609
noncomputable def o320 := fs "Snapshot.__init__" (s2 25 0)
noncomputable def o321 := cf "__init__" "Snapshot.__init__" 606 111 5 181 3 316 614
noncomputable def o322 := fo "Snapshot.__init__" (s2 25 0) (S "raftkeep.messages" 388) 321
noncomputable def o325 := tn ["self"] 620
noncomputable def o327 := fs "Snapshot.row" (s2 25 1)
noncomputable def o328 := cf "row" "Snapshot.row" 617 117 1 181 3 323 621
noncomputable def o329 := fo "Snapshot.row" (s2 25 1) (S "raftkeep.messages" 388) 328
noncomputable def o332 := tn ["self"] 627
noncomputable def o334 := fs "Snapshot.empty" (s2 25 2)
noncomputable def o335 := cf "empty" "Snapshot.empty" 624 120 1 181 3 330 628
noncomputable def o336 := fo "Snapshot.empty" (s2 25 2) (S "raftkeep.messages" 388) 335
noncomputable def o339 := tn ["self"] 634
noncomputable def o341 := fs "Snapshot.copy" (s2 25 3)
noncomputable def o342 := cf "copy" "Snapshot.copy" 631 123 1 181 3 337 635
noncomputable def o343 := fo "Snapshot.copy" (s2 25 3) (S "raftkeep.messages" 388) 342
noncomputable def o344 := tn ["conf", "data", "index", "term"] 638
noncomputable def o345 := dd [("__module__", 601, (S "raftkeep.messages" 388)), ("__firstlineno__", 605, (.int 109 604)), ("__init__", 616, (R 322)), ("row", 623, (R 329)), ("empty", 630, (R 336)), ("copy", 637, (R 343)), ("__static_attributes__", 642, (R 344)), ("__dict__", 644, (R 347)), ("__weakref__", 646, (R 348)), ("__doc__", 647, .none)] 4
noncomputable def o346 := ks "Snapshot" [(.type "object")] [(R 346), (.type "object")] 345 [] [none, none, some (S "Snapshot" 594), some (S "Snapshot" 602), some (.builtin "object.__new__"), some (.bool true)]
noncomputable def o347 := ft "getset_descriptor" [(S "__dict__" 643), (R 346), (.builtin "function.__dict__"), (.builtin "function.__dict__#set")]
noncomputable def o348 := ft "getset_descriptor" [(S "__weakref__" 645), (R 346), (.builtin "ExceptionGroup.__weakref__"), .none]
noncomputable def o349 := ft "super" [(R 346), (R 346), (R 346)]
noncomputable def o350 := ft "builtin_function_or_method" [(.builtin "object.__init_subclass__"), (R 346)]
noncomputable def T7 (P : Params) : BT := insR P 309 [zt, o310, o311, zt, o313, o314, o315, zt, zf, o318, zt, o320, o321, o322, zt, zf, o325, zt, o327, o328, o329, zt, zf, o332, zt, o334, o335, o336, zt, zf, o339, zt, o341, o342, o343, o344, o345, o346, o347, o348, o349, o350] (insL P [(3, o3v6), (12, o12v6)] (T6 P))
theorem g7 (w : World) (os : OsState) : segRunT treeTable rp w 11 an 1 331 (SE T6 309 594 w os) (piecesOf (sl 25 2) en cd ⟨95, 0, 108, 104⟩ B0) = some (.next, SE T7 351 652 w os, cd, ⟨125, 0, 125, 8⟩) := by
  rw [PySem.W.Fast.te10110043849684766642, PySem.W.Fast.te14364793385576792824]; kernel_rfl
noncomputable def o3v7 := dd [("__name__", 165, (S "raftkeep.raftlog" 650)), ("__doc__", 166, .none), ("__package__", 167, .none), ("__loader__", 168, (.builtin "__main__.__loader__#opaque")), ("__spec__", 169, .none), ("__annotations__", 170, (R 6)), ("__builtins__", 171, (R 4)), ("__file__", 173, (S "/claim/cut.py" 172)), ("__cached__", 174, .none), ("_wall", 193, (R 21)), ("KeepError", 215, (R 31)), ("StoreError", 231, (R 44)), ("BadOption", 247, (R 56)), ("RaftError", 263, (R 68)), ("Compacted", 279, (R 80)), ("Unavailable", 295, (R 92)), ("SnapOutOfDate", 311, (R 104)), ("SnapNotReady", 327, (R 116)), ("LogGap", 343, (R 128)), ("CommitRegress", 359, (R 140)), ("LogPanic", 375, (R 152)), ("MAX_64", 379, (.int 18446744073709551615 378)), ("varint_length", 387, (R 161)), ("NONE", 391, (.int 0 390)), ("NO_LIMIT", 393, (.int 18446744073709551615 392)), ("ENTRY_NORMAL", 395, (.int 0 394)), ("rising", 404, (R 168)), ("Entry", 469, (R 213)), ("limit_size", 480, (R 224)), ("HardState", 542, (R 269)), ("ConfState", 593, (R 304)), ("Snapshot", 649, (R 346)), ("MemoryStorage", 787, (R 451))] 33
noncomputable def o12v7 := fl [(I 1), (I 0), (R 20), (I 5), (I 0), (R 27), (I 7), (I 0), (R 40), (I 9), (I 0), (R 52), (I 11), (I 0), (R 64), (I 13), (I 0), (R 76), (I 15), (I 0), (R 88), (I 17), (I 0), (R 100), (I 19), (I 0), (R 112), (I 21), (I 0), (R 124), (I 23), (I 0), (R 136), (I 25), (I 0), (R 148), (I 29), (I 0), (R 160), (I 41), (I 0), (R 167), (I 47), (I 0), (R 174), (I 68), (I 0), (R 223), (I 77), (I 0), (R 230), (I 95), (I 0), (R 279), (I 109), (I 0), (R 314), (I 126), (I 0), (R 356)]
noncomputable def o352 := ft "builtin_function_or_method" [(.builtin "type.__prepare__"), (.type "type")]
noncomputable def o353 := dd [("__module__", 659, (S "raftkeep.raftlog" 650)), ("__qualname__", 661, (S "MemoryStorage" 660)), ("__firstlineno__", 663, (.int 126 662)), ("__init__", 672, (R 364)), ("initial_state", 679, (R 371)), ("first_index", 686, (R 378)), ("last_index", 693, (R 385)), ("entries_between", 704, (R 392)), ("term_at", 712, (R 399)), ("snapshot", 719, (R 406)), ("set_hard", 727, (R 413)), ("append", 738, (R 420)), ("apply_snapshot", 746, (R 427)), ("create_snapshot", 756, (R 434)), ("compact", 764, (R 441)), ("row", 773, (R 448)), ("__static_attributes__", 780, (R 449))] 17
noncomputable def o355 := fl [(I 128), (I 4), (R 363), (I 139), (I 4), (R 370), (I 142), (I 4), (R 377), (I 145), (I 4), (R 384), (I 148), (I 4), (R 391), (I 158), (I 4), (R 398), (I 167), (I 4), (R 405), (I 172), (I 4), (R 412), (I 175), (I 4), (R 419), (I 192), (I 4), (R 426), (I 201), (I 4), (R 433), (I 204), (I 4), (R 440), (I 207), (I 4), (R 447)]
noncomputable def o356 := cc "MemoryStorage" 654 126 181 354
noncomputable def o357 := fr 356 353 (S "raftkeep.raftlog" 650)
noncomputable def o360 := tn ["self", "conf", "begin"] 667
noncomputable def o362 := fs "MemoryStorage.__init__" (s2 27 0)
noncomputable def o363 := cf "__init__" "MemoryStorage.__init__" 664 128 2 181 3 358 670
noncomputable def o364 := fo "MemoryStorage.__init__" (s2 27 0) (S "raftkeep.raftlog" 650) 363
noncomputable def o367 := tn ["self"] 676
noncomputable def o369 := fs "MemoryStorage.initial_state" (s2 27 1)
noncomputable def o370 := cf "initial_state" "MemoryStorage.initial_state" 673 139 1 181 3 365 677
noncomputable def o371 := fo "MemoryStorage.initial_state" (s2 27 1) (S "raftkeep.raftlog" 650) 370
noncomputable def o374 := tn ["self"] 683
noncomputable def o376 := fs "MemoryStorage.first_index" (s2 27 2)
noncomputable def o377 := cf "first_index" "MemoryStorage.first_index" 680 142 1 181 3 372 684
noncomputable def o378 := fo "MemoryStorage.first_index" (s2 27 2) (S "raftkeep.raftlog" 650) 377
noncomputable def o381 := tn ["self"] 690
noncomputable def o383 := fs "MemoryStorage.last_index" (s2 27 3)
noncomputable def o384 := cf "last_index" "MemoryStorage.last_index" 687 145 1 181 3 379 691
noncomputable def o385 := fo "MemoryStorage.last_index" (s2 27 3) (S "raftkeep.raftlog" 650) 384
noncomputable def o388 := tn ["self", "lo", "hi", "limit", "first"] 697
noncomputable def o390 := fs "MemoryStorage.entries_between" (s2 27 4)
noncomputable def o391 := cf "entries_between" "MemoryStorage.entries_between" 694 148 4 181 3 386 702
noncomputable def o392 := fo "MemoryStorage.entries_between" (s2 27 4) (S "raftkeep.raftlog" 650) 391
noncomputable def o395 := tn ["self", "i"] 708
noncomputable def o397 := fs "MemoryStorage.term_at" (s2 27 5)
noncomputable def o398 := cf "term_at" "MemoryStorage.term_at" 705 158 2 181 3 393 710
noncomputable def o399 := fo "MemoryStorage.term_at" (s2 27 5) (S "raftkeep.raftlog" 650) 398
noncomputable def o402 := tn ["self"] 716
noncomputable def o404 := fs "MemoryStorage.snapshot" (s2 27 6)
noncomputable def o405 := cf "snapshot" "MemoryStorage.snapshot" 713 167 1 181 3 400 717
noncomputable def o406 := fo "MemoryStorage.snapshot" (s2 27 6) (S "raftkeep.raftlog" 650) 405
noncomputable def o409 := tn ["self", "hard"] 723
noncomputable def o411 := fs "MemoryStorage.set_hard" (s2 27 7)
noncomputable def o412 := cf "set_hard" "MemoryStorage.set_hard" 720 172 2 181 3 407 725
noncomputable def o413 := fo "MemoryStorage.set_hard" (s2 27 7) (S "raftkeep.raftlog" 650) 412
noncomputable def o416 := tn ["self", "entries", "start", "k", "first"] 731
noncomputable def o418 := fs "MemoryStorage.append" (s2 27 8)
noncomputable def o419 := cf "append" "MemoryStorage.append" 728 175 2 181 3 414 736
noncomputable def o420 := fo "MemoryStorage.append" (s2 27 8) (S "raftkeep.raftlog" 650) 419
noncomputable def o423 := tn ["self", "snapshot"] 742
noncomputable def o425 := fs "MemoryStorage.apply_snapshot" (s2 27 9)
noncomputable def o426 := cf "apply_snapshot" "MemoryStorage.apply_snapshot" 739 192 2 181 3 421 744
noncomputable def o427 := fo "MemoryStorage.apply_snapshot" (s2 27 9) (S "raftkeep.raftlog" 650) 426
noncomputable def o430 := tn ["self", "i", "conf", "data"] 750
noncomputable def o432 := fs "MemoryStorage.create_snapshot" (s2 27 10)
noncomputable def o433 := cf "create_snapshot" "MemoryStorage.create_snapshot" 747 201 4 181 3 428 754
noncomputable def o434 := fo "MemoryStorage.create_snapshot" (s2 27 10) (S "raftkeep.raftlog" 650) 433
noncomputable def o437 := tn ["self", "i"] 760
noncomputable def o439 := fs "MemoryStorage.compact" (s2 27 11)
noncomputable def o440 := cf "compact" "MemoryStorage.compact" 757 204 2 181 3 435 762
noncomputable def o441 := fo "MemoryStorage.compact" (s2 27 11) (S "raftkeep.raftlog" 650) 440
noncomputable def o444 := tn ["self", "rows", "e"] 768
noncomputable def o446 := fs "MemoryStorage.row" (s2 27 12)
noncomputable def o447 := cf "row" "MemoryStorage.row" 765 207 1 181 3 442 771
noncomputable def o448 := fo "MemoryStorage.row" (s2 27 12) (S "raftkeep.raftlog" 650) 447
noncomputable def o449 := tn ["base_index", "base_term", "conf", "entries", "hard", "snap"] 774
noncomputable def o450 := dd [("__module__", 659, (S "raftkeep.raftlog" 650)), ("__firstlineno__", 663, (.int 126 662)), ("__init__", 672, (R 364)), ("initial_state", 679, (R 371)), ("first_index", 686, (R 378)), ("last_index", 693, (R 385)), ("entries_between", 704, (R 392)), ("term_at", 712, (R 399)), ("snapshot", 719, (R 406)), ("set_hard", 727, (R 413)), ("append", 738, (R 420)), ("apply_snapshot", 746, (R 427)), ("create_snapshot", 756, (R 434)), ("compact", 764, (R 441)), ("row", 773, (R 448)), ("__static_attributes__", 780, (R 449)), ("__dict__", 782, (R 452)), ("__weakref__", 784, (R 453)), ("__doc__", 785, .none)] 4
noncomputable def o451 := ks "MemoryStorage" [(.type "object")] [(R 451), (.type "object")] 450 [] [none, none, some (S "MemoryStorage" 652), some (S "MemoryStorage" 660), some (.builtin "object.__new__"), some (.bool true)]
noncomputable def o452 := ft "getset_descriptor" [(S "__dict__" 781), (R 451), (.builtin "function.__dict__"), (.builtin "function.__dict__#set")]
noncomputable def o453 := ft "getset_descriptor" [(S "__weakref__" 783), (R 451), (.builtin "ExceptionGroup.__weakref__"), .none]
noncomputable def o454 := ft "super" [(R 451), (R 451), (R 451)]
noncomputable def o455 := ft "builtin_function_or_method" [(.builtin "object.__init_subclass__"), (R 451)]
noncomputable def T8 (P : Params) : BT := insR P 351 [zt, o352, o353, zt, o355, o356, o357, zt, zf, o360, zt, o362, o363, o364, zt, zf, o367, zt, o369, o370, o371, zt, zf, o374, zt, o376, o377, o378, zt, zf, o381, zt, o383, o384, o385, zt, zf, o388, zt, o390, o391, o392, zt, zf, o395, zt, o397, o398, o399, zt, zf, o402, zt, o404, o405, o406, zt, zf, o409, zt, o411, o412, o413, zt, zf, o416, zt, o418, o419, o420, zt, zf, o423, zt, o425, o426, o427, zt, zf, o430, zt, o432, o433, o434, zt, zf, o437, zt, o439, o440, o441, zt, zf, o444, zt, o446, o447, o448, o449, o450, o451, o452, o453, o454, o455] (insL P [(3, o3v7), (12, o12v7)] (T7 P))
theorem g8 (w : World) (os : OsState) : segRunT treeTable rp w 11 an 1 618 (SE T7 351 652 w os) (piecesOf (sl 27 1) en cd ⟨125, 0, 125, 8⟩ B0) = some (.next, SE T8 456 788 w os, cd, ⟨126, 0, 211, 95⟩) := by
  rw [PySem.W.Fast.te10110043849684766642, PySem.W.Fast.te14364793385576792824]; kernel_rfl
noncomputable def o3v8 := dd [("__name__", 165, (S "raftkeep.raftlog" 650)), ("__doc__", 166, .none), ("__package__", 167, .none), ("__loader__", 168, (.builtin "__main__.__loader__#opaque")), ("__spec__", 169, .none), ("__annotations__", 170, (R 6)), ("__builtins__", 171, (R 4)), ("__file__", 173, (S "/claim/cut.py" 172)), ("__cached__", 174, .none), ("_wall", 193, (R 21)), ("KeepError", 215, (R 31)), ("StoreError", 231, (R 44)), ("BadOption", 247, (R 56)), ("RaftError", 263, (R 68)), ("Compacted", 279, (R 80)), ("Unavailable", 295, (R 92)), ("SnapOutOfDate", 311, (R 104)), ("SnapNotReady", 327, (R 116)), ("LogGap", 343, (R 128)), ("CommitRegress", 359, (R 140)), ("LogPanic", 375, (R 152)), ("MAX_64", 379, (.int 18446744073709551615 378)), ("varint_length", 387, (R 161)), ("NONE", 391, (.int 0 390)), ("NO_LIMIT", 393, (.int 18446744073709551615 392)), ("ENTRY_NORMAL", 395, (.int 0 394)), ("rising", 404, (R 168)), ("Entry", 469, (R 213)), ("limit_size", 480, (R 224)), ("HardState", 542, (R 269)), ("ConfState", 593, (R 304)), ("Snapshot", 649, (R 346)), ("MemoryStorage", 787, (R 451)), ("Unstable", 894, (R 535))] 34
noncomputable def o12v8 := fl [(I 1), (I 0), (R 20), (I 5), (I 0), (R 27), (I 7), (I 0), (R 40), (I 9), (I 0), (R 52), (I 11), (I 0), (R 64), (I 13), (I 0), (R 76), (I 15), (I 0), (R 88), (I 17), (I 0), (R 100), (I 19), (I 0), (R 112), (I 21), (I 0), (R 124), (I 23), (I 0), (R 136), (I 25), (I 0), (R 148), (I 29), (I 0), (R 160), (I 41), (I 0), (R 167), (I 47), (I 0), (R 174), (I 68), (I 0), (R 223), (I 77), (I 0), (R 230), (I 95), (I 0), (R 279), (I 109), (I 0), (R 314), (I 126), (I 0), (R 356), (I 212), (I 0), (R 461)]
noncomputable def o457 := ft "builtin_function_or_method" [(.builtin "type.__prepare__"), (.type "type")]
noncomputable def o458 := dd [("__module__", 795, (S "raftkeep.raftlog" 650)), ("__qualname__", 797, (S "Unstable" 796)), ("__firstlineno__", 799, (.int 212 798)), ("__init__", 807, (R 469)), ("maybe_first", 814, (R 476)), ("maybe_last", 821, (R 483)), ("maybe_term", 829, (R 490)), ("stable_to", 839, (R 497)), ("stable_snap_to", 847, (R 504)), ("restore", 855, (R 511)), ("truncate_and_append", 864, (R 518)), ("part", 873, (R 525)), ("row", 883, (R 532)), ("__static_attributes__", 887, (R 533))] 14
noncomputable def o460 := fl [(I 214), (I 4), (R 468), (I 219), (I 4), (R 475), (I 224), (I 4), (R 482), (I 231), (I 4), (R 489), (I 240), (I 4), (R 496), (I 249), (I 4), (R 503), (I 253), (I 4), (R 510), (I 258), (I 4), (R 517), (I 272), (I 4), (R 524), (I 279), (I 4), (R 531)]
noncomputable def o461 := cc "Unstable" 790 212 181 459
noncomputable def o462 := fr 461 458 (S "raftkeep.raftlog" 650)
noncomputable def o465 := tn ["self", "offset"] 803
noncomputable def o467 := fs "Unstable.__init__" (s2 28 0)
noncomputable def o468 := cf "__init__" "Unstable.__init__" 800 214 2 181 3 463 805
noncomputable def o469 := fo "Unstable.__init__" (s2 28 0) (S "raftkeep.raftlog" 650) 468
noncomputable def o472 := tn ["self"] 811
noncomputable def o474 := fs "Unstable.maybe_first" (s2 28 1)
noncomputable def o475 := cf "maybe_first" "Unstable.maybe_first" 808 219 1 181 3 470 812
noncomputable def o476 := fo "Unstable.maybe_first" (s2 28 1) (S "raftkeep.raftlog" 650) 475
noncomputable def o479 := tn ["self"] 818
noncomputable def o481 := fs "Unstable.maybe_last" (s2 28 2)
noncomputable def o482 := cf "maybe_last" "Unstable.maybe_last" 815 224 1 181 3 477 819
noncomputable def o483 := fo "Unstable.maybe_last" (s2 28 2) (S "raftkeep.raftlog" 650) 482
noncomputable def o486 := tn ["self", "i"] 825
noncomputable def o488 := fs "Unstable.maybe_term" (s2 28 3)
noncomputable def o489 := cf "maybe_term" "Unstable.maybe_term" 822 231 2 181 3 484 827
noncomputable def o490 := fo "Unstable.maybe_term" (s2 28 3) (S "raftkeep.raftlog" 650) 489
noncomputable def o493 := tn ["self", "i", "term", "found"] 833
noncomputable def o495 := fs "Unstable.stable_to" (s2 28 4)
noncomputable def o496 := cf "stable_to" "Unstable.stable_to" 830 240 3 181 3 491 837
noncomputable def o497 := fo "Unstable.stable_to" (s2 28 4) (S "raftkeep.raftlog" 650) 496
noncomputable def o500 := tn ["self", "i"] 843
noncomputable def o502 := fs "Unstable.stable_snap_to" (s2 28 5)
noncomputable def o503 := cf "stable_snap_to" "Unstable.stable_snap_to" 840 249 2 181 3 498 845
noncomputable def o504 := fo "Unstable.stable_snap_to" (s2 28 5) (S "raftkeep.raftlog" 650) 503
noncomputable def o507 := tn ["self", "snapshot"] 851
noncomputable def o509 := fs "Unstable.restore" (s2 28 6)
noncomputable def o510 := cf "restore" "Unstable.restore" 848 253 2 181 3 505 853
noncomputable def o511 := fo "Unstable.restore" (s2 28 6) (S "raftkeep.raftlog" 650) 510
noncomputable def o514 := tn ["self", "entries", "after"] 859
noncomputable def o516 := fs "Unstable.truncate_and_append" (s2 28 7)
noncomputable def o517 := cf "truncate_and_append" "Unstable.truncate_and_append" 856 258 2 181 3 512 862
noncomputable def o518 := fo "Unstable.truncate_and_append" (s2 28 7) (S "raftkeep.raftlog" 650) 517
noncomputable def o521 := tn ["self", "lo", "hi"] 868
noncomputable def o523 := fs "Unstable.part" (s2 28 8)
noncomputable def o524 := cf "part" "Unstable.part" 865 272 3 181 3 519 871
noncomputable def o525 := fo "Unstable.part" (s2 28 8) (S "raftkeep.raftlog" 650) 524
noncomputable def o528 := tn ["self", "rows", "e", "snap"] 877
noncomputable def o530 := fs "Unstable.row" (s2 28 9)
noncomputable def o531 := cf "row" "Unstable.row" 874 279 1 181 3 526 881
noncomputable def o532 := fo "Unstable.row" (s2 28 9) (S "raftkeep.raftlog" 650) 531
noncomputable def o533 := tn ["entries", "offset", "snapshot"] 884
noncomputable def o534 := dd [("__module__", 795, (S "raftkeep.raftlog" 650)), ("__firstlineno__", 799, (.int 212 798)), ("__init__", 807, (R 469)), ("maybe_first", 814, (R 476)), ("maybe_last", 821, (R 483)), ("maybe_term", 829, (R 490)), ("stable_to", 839, (R 497)), ("stable_snap_to", 847, (R 504)), ("restore", 855, (R 511)), ("truncate_and_append", 864, (R 518)), ("part", 873, (R 525)), ("row", 883, (R 532)), ("__static_attributes__", 887, (R 533)), ("__dict__", 889, (R 536)), ("__weakref__", 891, (R 537)), ("__doc__", 892, .none)] 4
noncomputable def o535 := ks "Unstable" [(.type "object")] [(R 535), (.type "object")] 534 [] [none, none, some (S "Unstable" 788), some (S "Unstable" 796), some (.builtin "object.__new__"), some (.bool true)]
noncomputable def o536 := ft "getset_descriptor" [(S "__dict__" 888), (R 535), (.builtin "function.__dict__"), (.builtin "function.__dict__#set")]
noncomputable def o537 := ft "getset_descriptor" [(S "__weakref__" 890), (R 535), (.builtin "ExceptionGroup.__weakref__"), .none]
noncomputable def o538 := ft "super" [(R 535), (R 535), (R 535)]
noncomputable def o539 := ft "builtin_function_or_method" [(.builtin "object.__init_subclass__"), (R 535)]
noncomputable def T9 (P : Params) : BT := insR P 456 [zt, o457, o458, zt, o460, o461, o462, zt, zf, o465, zt, o467, o468, o469, zt, zf, o472, zt, o474, o475, o476, zt, zf, o479, zt, o481, o482, o483, zt, zf, o486, zt, o488, o489, o490, zt, zf, o493, zt, o495, o496, o497, zt, zf, o500, zt, o502, o503, o504, zt, zf, o507, zt, o509, o510, o511, zt, zf, o514, zt, o516, o517, o518, zt, zf, o521, zt, o523, o524, o525, zt, zf, o528, zt, o530, o531, o532, o533, o534, o535, o536, o537, o538, o539] (insL P [(3, o3v8), (12, o12v8)] (T8 P))
theorem g9 (w : World) (os : OsState) : segRunT treeTable rp w 11 an 1 517 (SE T8 456 788 w os) (piecesOf (sl 28 1) en cd ⟨126, 0, 211, 95⟩ B0) = some (.next, SE T9 540 895 w os, cd, ⟨212, 0, 286, 47⟩) := by
  rw [PySem.W.Fast.te10110043849684766642, PySem.W.Fast.te14364793385576792824]; kernel_rfl
noncomputable def o3v9 := dd [("__name__", 165, (S "raftkeep.raftlog" 650)), ("__doc__", 166, .none), ("__package__", 167, .none), ("__loader__", 168, (.builtin "__main__.__loader__#opaque")), ("__spec__", 169, .none), ("__annotations__", 170, (R 6)), ("__builtins__", 171, (R 4)), ("__file__", 173, (S "/claim/cut.py" 172)), ("__cached__", 174, .none), ("_wall", 193, (R 21)), ("KeepError", 215, (R 31)), ("StoreError", 231, (R 44)), ("BadOption", 247, (R 56)), ("RaftError", 263, (R 68)), ("Compacted", 279, (R 80)), ("Unavailable", 295, (R 92)), ("SnapOutOfDate", 311, (R 104)), ("SnapNotReady", 327, (R 116)), ("LogGap", 343, (R 128)), ("CommitRegress", 359, (R 140)), ("LogPanic", 375, (R 152)), ("MAX_64", 379, (.int 18446744073709551615 378)), ("varint_length", 387, (R 161)), ("NONE", 391, (.int 0 390)), ("NO_LIMIT", 393, (.int 18446744073709551615 392)), ("ENTRY_NORMAL", 395, (.int 0 394)), ("rising", 404, (R 168)), ("Entry", 469, (R 213)), ("limit_size", 480, (R 224)), ("HardState", 542, (R 269)), ("ConfState", 593, (R 304)), ("Snapshot", 649, (R 346)), ("MemoryStorage", 787, (R 451)), ("Unstable", 894, (R 535)), ("RaftLog", 1152, (R 745))] 35
noncomputable def o12v9 := fl [(I 1), (I 0), (R 20), (I 5), (I 0), (R 27), (I 7), (I 0), (R 40), (I 9), (I 0), (R 52), (I 11), (I 0), (R 64), (I 13), (I 0), (R 76), (I 15), (I 0), (R 88), (I 17), (I 0), (R 100), (I 19), (I 0), (R 112), (I 21), (I 0), (R 124), (I 23), (I 0), (R 136), (I 25), (I 0), (R 148), (I 29), (I 0), (R 160), (I 41), (I 0), (R 167), (I 47), (I 0), (R 174), (I 68), (I 0), (R 223), (I 77), (I 0), (R 230), (I 95), (I 0), (R 279), (I 109), (I 0), (R 314), (I 126), (I 0), (R 356), (I 212), (I 0), (R 461), (I 287), (I 0), (R 545)]
noncomputable def o541 := ft "builtin_function_or_method" [(.builtin "type.__prepare__"), (.type "type")]
noncomputable def o542 := dd [("__module__", 902, (S "raftkeep.raftlog" 650)), ("__qualname__", 904, (S "RaftLog" 903)), ("__firstlineno__", 906, (.int 287 905)), ("__init__", 916, (R 553)), ("first_index", 924, (R 560)), ("last_index", 932, (R 567)), ("last_term", 939, (R 574)), ("term", 948, (R 581)), ("term_or_zero", 956, (R 588)), ("match_term", 965, (R 595)), ("up_to_date", 974, (R 602)), ("maybe_append", 985, (R 609)), ("append", 994, (R 616)), ("find_conflict", 1002, (R 623)), ("conflict_by_term", 1011, (R 630)), ("restore", 1019, (R 637)), ("commit_to", 1027, (R 644)), ("maybe_commit", 1036, (R 651)), ("applied_to", 1044, (R 658)), ("stable_to", 1053, (R 665)), ("stable_snap_to", 1061, (R 672)), ("unstable_entries", 1068, (R 679)), ("pending_snapshot", 1075, (R 686)), ("first_unapplied", 1082, (R 693)), ("has_next", 1089, (R 700)), ("next_committed", 1096, (R 707)), ("snapshot", 1103, (R 714)), ("entries", 1112, (R 721)), ("all_entries", 1119, (R 728)), ("slice", 1132, (R 735)), ("row", 1139, (R 742)), ("__static_attributes__", 1145, (R 743))] 32
noncomputable def o544 := fl [(I 289), (I 4), (R 552), (I 297), (I 4), (R 559), (I 303), (I 4), (R 566), (I 309), (I 4), (R 573), (I 312), (I 4), (R 580), (I 322), (I 4), (R 587), (I 325), (I 4), (R 594), (I 328), (I 4), (R 601), (I 331), (I 4), (R 608), (I 334), (I 4), (R 615), (I 345), (I 4), (R 622), (I 348), (I 4), (R 629), (I 351), (I 4), (R 636), (I 357), (I 4), (R 643), (I 364), (I 4), (R 650), (I 367), (I 4), (R 657), (I 374), (I 4), (R 664), (I 377), (I 4), (R 671), (I 380), (I 4), (R 678), (I 383), (I 4), (R 685), (I 386), (I 4), (R 692), (I 389), (I 4), (R 699), (I 394), (I 4), (R 706), (I 399), (I 4), (R 713), (I 404), (I 4), (R 720), (I 409), (I 4), (R 727), (I 412), (I 4), (R 734), (I 435), (I 4), (R 741)]
noncomputable def o545 := cc "RaftLog" 897 287 181 543
noncomputable def o546 := fr 545 542 (S "raftkeep.raftlog" 650)
noncomputable def o549 := tn ["self", "storage", "max_committed", "first"] 910
noncomputable def o551 := fs "RaftLog.__init__" (s2 29 0)
noncomputable def o552 := cf "__init__" "RaftLog.__init__" 907 289 3 181 3 547 914
noncomputable def o553 := fo "RaftLog.__init__" (s2 29 0) (S "raftkeep.raftlog" 650) 552
noncomputable def o556 := tn ["self", "i"] 920
noncomputable def o558 := fs "RaftLog.first_index" (s2 29 1)
noncomputable def o559 := cf "first_index" "RaftLog.first_index" 917 297 1 181 3 554 922
noncomputable def o560 := fo "RaftLog.first_index" (s2 29 1) (S "raftkeep.raftlog" 650) 559
noncomputable def o563 := tn ["self", "i"] 928
noncomputable def o565 := fs "RaftLog.last_index" (s2 29 2)
noncomputable def o566 := cf "last_index" "RaftLog.last_index" 925 303 1 181 3 561 930
noncomputable def o567 := fo "RaftLog.last_index" (s2 29 2) (S "raftkeep.raftlog" 650) 566
noncomputable def o570 := tn ["self"] 936
noncomputable def o572 := fs "RaftLog.last_term" (s2 29 3)
noncomputable def o573 := cf "last_term" "RaftLog.last_term" 933 309 1 181 3 568 937
noncomputable def o574 := fo "RaftLog.last_term" (s2 29 3) (S "raftkeep.raftlog" 650) 573
noncomputable def o577 := tn ["self", "i", "known"] 943
noncomputable def o579 := fs "RaftLog.term" (s2 29 4)
noncomputable def o580 := cf "term" "RaftLog.term" 940 312 2 181 3 575 946
noncomputable def o581 := fo "RaftLog.term" (s2 29 4) (S "raftkeep.raftlog" 650) 580
noncomputable def o584 := tn ["self", "i"] 952
noncomputable def o586 := fs "RaftLog.term_or_zero" (s2 29 5)
noncomputable def o587 := cf "term_or_zero" "RaftLog.term_or_zero" 949 322 2 181 3 582 954
noncomputable def o588 := fo "RaftLog.term_or_zero" (s2 29 5) (S "raftkeep.raftlog" 650) 587
noncomputable def o591 := tn ["self", "i", "t"] 960
noncomputable def o593 := fs "RaftLog.match_term" (s2 29 6)
noncomputable def o594 := cf "match_term" "RaftLog.match_term" 957 325 3 181 3 589 963
noncomputable def o595 := fo "RaftLog.match_term" (s2 29 6) (S "raftkeep.raftlog" 650) 594
noncomputable def o598 := tn ["self", "last", "term"] 969
noncomputable def o600 := fs "RaftLog.up_to_date" (s2 29 7)
noncomputable def o601 := cf "up_to_date" "RaftLog.up_to_date" 966 328 3 181 3 596 972
noncomputable def o602 := fo "RaftLog.up_to_date" (s2 29 7) (S "raftkeep.raftlog" 650) 601
noncomputable def o605 := tn ["self", "index", "log_term", "committed", "entries"] 978
noncomputable def o607 := fs "RaftLog.maybe_append" (s2 29 8)
noncomputable def o608 := cf "maybe_append" "RaftLog.maybe_append" 975 331 5 181 3 603 983
noncomputable def o609 := fo "RaftLog.maybe_append" (s2 29 8) (S "raftkeep.raftlog" 650) 608
noncomputable def o612 := tn ["self", "entries", "before"] 989
noncomputable def o614 := fs "RaftLog.append" (s2 29 9)
noncomputable def o615 := cf "append" "RaftLog.append" 986 334 2 181 3 610 992
noncomputable def o616 := fo "RaftLog.append" (s2 29 9) (S "raftkeep.raftlog" 650) 615
noncomputable def o619 := tn ["self", "entries"] 998
noncomputable def o621 := fs "RaftLog.find_conflict" (s2 29 10)
noncomputable def o622 := cf "find_conflict" "RaftLog.find_conflict" 995 345 2 181 3 617 1000
noncomputable def o623 := fo "RaftLog.find_conflict" (s2 29 10) (S "raftkeep.raftlog" 650) 622
noncomputable def o626 := tn ["self", "index", "term"] 1006
noncomputable def o628 := fs "RaftLog.conflict_by_term" (s2 29 11)
noncomputable def o629 := cf "conflict_by_term" "RaftLog.conflict_by_term" 1003 348 3 181 3 624 1009
noncomputable def o630 := fo "RaftLog.conflict_by_term" (s2 29 11) (S "raftkeep.raftlog" 650) 629
noncomputable def o633 := tn ["self", "snapshot"] 1015
noncomputable def o635 := fs "RaftLog.restore" (s2 29 12)
noncomputable def o636 := cf "restore" "RaftLog.restore" 1012 351 2 181 3 631 1017
noncomputable def o637 := fo "RaftLog.restore" (s2 29 12) (S "raftkeep.raftlog" 650) 636
noncomputable def o640 := tn ["self", "i"] 1023
noncomputable def o642 := fs "RaftLog.commit_to" (s2 29 13)
noncomputable def o643 := cf "commit_to" "RaftLog.commit_to" 1020 357 2 181 3 638 1025
noncomputable def o644 := fo "RaftLog.commit_to" (s2 29 13) (S "raftkeep.raftlog" 650) 643
noncomputable def o647 := tn ["self", "i", "term"] 1031
noncomputable def o649 := fs "RaftLog.maybe_commit" (s2 29 14)
noncomputable def o650 := cf "maybe_commit" "RaftLog.maybe_commit" 1028 364 3 181 3 645 1034
noncomputable def o651 := fo "RaftLog.maybe_commit" (s2 29 14) (S "raftkeep.raftlog" 650) 650
noncomputable def o654 := tn ["self", "i"] 1040
noncomputable def o656 := fs "RaftLog.applied_to" (s2 29 15)
noncomputable def o657 := cf "applied_to" "RaftLog.applied_to" 1037 367 2 181 3 652 1042
noncomputable def o658 := fo "RaftLog.applied_to" (s2 29 15) (S "raftkeep.raftlog" 650) 657
noncomputable def o661 := tn ["self", "i", "term"] 1048
noncomputable def o663 := fs "RaftLog.stable_to" (s2 29 16)
noncomputable def o664 := cf "stable_to" "RaftLog.stable_to" 1045 374 3 181 3 659 1051
noncomputable def o665 := fo "RaftLog.stable_to" (s2 29 16) (S "raftkeep.raftlog" 650) 664
noncomputable def o668 := tn ["self", "i"] 1057
noncomputable def o670 := fs "RaftLog.stable_snap_to" (s2 29 17)
noncomputable def o671 := cf "stable_snap_to" "RaftLog.stable_snap_to" 1054 377 2 181 3 666 1059
noncomputable def o672 := fo "RaftLog.stable_snap_to" (s2 29 17) (S "raftkeep.raftlog" 650) 671
noncomputable def o675 := tn ["self"] 1065
noncomputable def o677 := fs "RaftLog.unstable_entries" (s2 29 18)
noncomputable def o678 := cf "unstable_entries" "RaftLog.unstable_entries" 1062 380 1 181 3 673 1066
noncomputable def o679 := fo "RaftLog.unstable_entries" (s2 29 18) (S "raftkeep.raftlog" 650) 678
noncomputable def o682 := tn ["self"] 1072
noncomputable def o684 := fs "RaftLog.pending_snapshot" (s2 29 19)
noncomputable def o685 := cf "pending_snapshot" "RaftLog.pending_snapshot" 1069 383 1 181 3 680 1073
noncomputable def o686 := fo "RaftLog.pending_snapshot" (s2 29 19) (S "raftkeep.raftlog" 650) 685
noncomputable def o689 := tn ["self"] 1079
noncomputable def o691 := fs "RaftLog.first_unapplied" (s2 29 20)
noncomputable def o692 := cf "first_unapplied" "RaftLog.first_unapplied" 1076 386 1 181 3 687 1080
noncomputable def o693 := fo "RaftLog.first_unapplied" (s2 29 20) (S "raftkeep.raftlog" 650) 692
noncomputable def o696 := tn ["self"] 1086
noncomputable def o698 := fs "RaftLog.has_next" (s2 29 21)
noncomputable def o699 := cf "has_next" "RaftLog.has_next" 1083 389 1 181 3 694 1087
noncomputable def o700 := fo "RaftLog.has_next" (s2 29 21) (S "raftkeep.raftlog" 650) 699
noncomputable def o703 := tn ["self"] 1093
noncomputable def o705 := fs "RaftLog.next_committed" (s2 29 22)
noncomputable def o706 := cf "next_committed" "RaftLog.next_committed" 1090 394 1 181 3 701 1094
noncomputable def o707 := fo "RaftLog.next_committed" (s2 29 22) (S "raftkeep.raftlog" 650) 706
noncomputable def o710 := tn ["self"] 1100
noncomputable def o712 := fs "RaftLog.snapshot" (s2 29 23)
noncomputable def o713 := cf "snapshot" "RaftLog.snapshot" 1097 399 1 181 3 708 1101
noncomputable def o714 := fo "RaftLog.snapshot" (s2 29 23) (S "raftkeep.raftlog" 650) 713
noncomputable def o717 := tn ["self", "i", "limit"] 1107
noncomputable def o719 := fs "RaftLog.entries" (s2 29 24)
noncomputable def o720 := cf "entries" "RaftLog.entries" 1104 404 3 181 3 715 1110
noncomputable def o721 := fo "RaftLog.entries" (s2 29 24) (S "raftkeep.raftlog" 650) 720
noncomputable def o724 := tn ["self"] 1116
noncomputable def o726 := fs "RaftLog.all_entries" (s2 29 25)
noncomputable def o727 := cf "all_entries" "RaftLog.all_entries" 1113 409 1 181 3 722 1117
noncomputable def o728 := fo "RaftLog.all_entries" (s2 29 25) (S "raftkeep.raftlog" 650) 727
noncomputable def o731 := tn ["self", "lo", "hi", "limit", "offset", "found", "end"] 1123
noncomputable def o733 := fs "RaftLog.slice" (s2 29 26)
noncomputable def o734 := cf "slice" "RaftLog.slice" 1120 412 4 181 3 729 1130
noncomputable def o735 := fo "RaftLog.slice" (s2 29 26) (S "raftkeep.raftlog" 650) 734
noncomputable def o738 := tn ["self"] 1136
noncomputable def o740 := fs "RaftLog.row" (s2 29 27)
noncomputable def o741 := cf "row" "RaftLog.row" 1133 435 1 181 3 736 1137
noncomputable def o742 := fo "RaftLog.row" (s2 29 27) (S "raftkeep.raftlog" 650) 741
noncomputable def o743 := tn ["applied", "committed", "max_committed", "storage", "unstable"] 1140
noncomputable def o744 := dd [("__module__", 902, (S "raftkeep.raftlog" 650)), ("__firstlineno__", 906, (.int 287 905)), ("__init__", 916, (R 553)), ("first_index", 924, (R 560)), ("last_index", 932, (R 567)), ("last_term", 939, (R 574)), ("term", 948, (R 581)), ("term_or_zero", 956, (R 588)), ("match_term", 965, (R 595)), ("up_to_date", 974, (R 602)), ("maybe_append", 985, (R 609)), ("append", 994, (R 616)), ("find_conflict", 1002, (R 623)), ("conflict_by_term", 1011, (R 630)), ("restore", 1019, (R 637)), ("commit_to", 1027, (R 644)), ("maybe_commit", 1036, (R 651)), ("applied_to", 1044, (R 658)), ("stable_to", 1053, (R 665)), ("stable_snap_to", 1061, (R 672)), ("unstable_entries", 1068, (R 679)), ("pending_snapshot", 1075, (R 686)), ("first_unapplied", 1082, (R 693)), ("has_next", 1089, (R 700)), ("next_committed", 1096, (R 707)), ("snapshot", 1103, (R 714)), ("entries", 1112, (R 721)), ("all_entries", 1119, (R 728)), ("slice", 1132, (R 735)), ("row", 1139, (R 742)), ("__static_attributes__", 1145, (R 743)), ("__dict__", 1147, (R 746)), ("__weakref__", 1149, (R 747)), ("__doc__", 1150, .none)] 4
noncomputable def o745 := ks "RaftLog" [(.type "object")] [(R 745), (.type "object")] 744 [] [none, none, some (S "RaftLog" 895), some (S "RaftLog" 903), some (.builtin "object.__new__"), some (.bool true)]
noncomputable def o746 := ft "getset_descriptor" [(S "__dict__" 1146), (R 745), (.builtin "function.__dict__"), (.builtin "function.__dict__#set")]
noncomputable def o747 := ft "getset_descriptor" [(S "__weakref__" 1148), (R 745), (.builtin "ExceptionGroup.__weakref__"), .none]
noncomputable def o748 := ft "super" [(R 745), (R 745), (R 745)]
noncomputable def o749 := ft "builtin_function_or_method" [(.builtin "object.__init_subclass__"), (R 745)]
noncomputable def T10 (P : Params) : BT := insR P 540 [zt, o541, o542, zt, o544, o545, o546, zt, zf, o549, zt, o551, o552, o553, zt, zf, o556, zt, o558, o559, o560, zt, zf, o563, zt, o565, o566, o567, zt, zf, o570, zt, o572, o573, o574, zt, zf, o577, zt, o579, o580, o581, zt, zf, o584, zt, o586, o587, o588, zt, zf, o591, zt, o593, o594, o595, zt, zf, o598, zt, o600, o601, o602, zt, zf, o605, zt, o607, o608, o609, zt, zf, o612, zt, o614, o615, o616, zt, zf, o619, zt, o621, o622, o623, zt, zf, o626, zt, o628, o629, o630, zt, zf, o633, zt, o635, o636, o637, zt, zf, o640, zt, o642, o643, o644, zt, zf, o647, zt, o649, o650, o651, zt, zf, o654, zt, o656, o657, o658, zt, zf, o661, zt, o663, o664, o665, zt, zf, o668, zt, o670, o671, o672, zt, zf, o675, zt, o677, o678, o679, zt, zf, o682, zt, o684, o685, o686, zt, zf, o689, zt, o691, o692, o693, zt, zf, o696, zt, o698, o699, o700, zt, zf, o703, zt, o705, o706, o707, zt, zf, o710, zt, o712, o713, o714, zt, zf, o717, zt, o719, o720, o721, zt, zf, o724, zt, o726, o727, o728, zt, zf, o731, zt, o733, o734, o735, zt, zf, o738, zt, o740, o741, o742, o743, o744, o745, o746, o747, o748, o749] (insL P [(3, o3v9), (12, o12v9)] (T9 P))
theorem g10 (w : World) (os : OsState) : segRunT treeTable rp w 11 an 1 1100 (SE T9 540 895 w os) (piecesOf (sl 29 1) en cd ⟨212, 0, 286, 47⟩ B0) = some (.next, SE T10 750 1153 w os, cd, ⟨287, 0, 436, 66⟩) := by
  rw [PySem.W.Fast.te10110043849684766642, PySem.W.Fast.te14364793385576792824]; kernel_rfl
noncomputable def o3v10 := dd [("__name__", 165, (S "law_nz0371_01" 1153)), ("__doc__", 166, .none), ("__package__", 167, .none), ("__loader__", 168, (.builtin "__main__.__loader__#opaque")), ("__spec__", 169, .none), ("__annotations__", 170, (R 6)), ("__builtins__", 171, (R 4)), ("__file__", 173, (S "/claim/cut.py" 172)), ("__cached__", 174, .none), ("_wall", 193, (R 21)), ("KeepError", 215, (R 31)), ("StoreError", 231, (R 44)), ("BadOption", 247, (R 56)), ("RaftError", 263, (R 68)), ("Compacted", 279, (R 80)), ("Unavailable", 295, (R 92)), ("SnapOutOfDate", 311, (R 104)), ("SnapNotReady", 327, (R 116)), ("LogGap", 343, (R 128)), ("CommitRegress", 359, (R 140)), ("LogPanic", 375, (R 152)), ("MAX_64", 379, (.int 18446744073709551615 378)), ("varint_length", 387, (R 161)), ("NONE", 391, (.int 0 390)), ("NO_LIMIT", 393, (.int 18446744073709551615 392)), ("ENTRY_NORMAL", 395, (.int 0 394)), ("rising", 404, (R 168)), ("Entry", 469, (R 213)), ("limit_size", 480, (R 224)), ("HardState", 542, (R 269)), ("ConfState", 593, (R 304)), ("Snapshot", 649, (R 346)), ("MemoryStorage", 787, (R 451)), ("Unstable", 894, (R 535)), ("RaftLog", 1152, (R 745)), ("_law_orders", 1160, (R 756)), ("_law_draw", 1168, (R 763)), ("_law_begun", 1183, (R 770)), ("_law_refuses", 1192, (R 777)), ("_law_term", 1200, (R 784)), ("_law_whole", 1213, (R 791)), ("law", 1219, (R 796))] 42
noncomputable def o12v10 := fl [(I 1), (I 0), (R 20), (I 5), (I 0), (R 27), (I 7), (I 0), (R 40), (I 9), (I 0), (R 52), (I 11), (I 0), (R 64), (I 13), (I 0), (R 76), (I 15), (I 0), (R 88), (I 17), (I 0), (R 100), (I 19), (I 0), (R 112), (I 21), (I 0), (R 124), (I 23), (I 0), (R 136), (I 25), (I 0), (R 148), (I 29), (I 0), (R 160), (I 41), (I 0), (R 167), (I 47), (I 0), (R 174), (I 68), (I 0), (R 223), (I 77), (I 0), (R 230), (I 95), (I 0), (R 279), (I 109), (I 0), (R 314), (I 126), (I 0), (R 356), (I 212), (I 0), (R 461), (I 287), (I 0), (R 545), (I 438), (I 0), (R 755), (I 440), (I 0), (R 762), (I 442), (I 0), (R 769), (I 455), (I 0), (R 776), (I 462), (I 0), (R 783), (I 469), (I 0), (R 790), (I 479), (I 0), (R 795)]
noncomputable def o754 := fs "_law_orders" (s1 31)
noncomputable def o755 := cf "_law_orders" "_law_orders" 1155 438 0 181 3 750 1158
noncomputable def o756 := fo "_law_orders" (s1 31) (S "law_nz0371_01" 1153) 755
noncomputable def o759 := tn ["nums", "i"] 1164
noncomputable def o761 := fs "_law_draw" (s1 32)
noncomputable def o762 := cf "_law_draw" "_law_draw" 1161 440 2 181 3 757 1166
noncomputable def o763 := fo "_law_draw" (s1 32) (S "law_nz0371_01" 1153) 762
noncomputable def o766 := tn ["x", "conf", "stock", "begin", "n", "stored", "storage", "log", "sure"] 1172
noncomputable def o768 := fs "_law_begun" (s1 33)
noncomputable def o769 := cf "_law_begun" "_law_begun" 1169 442 3 181 3 764 1181
noncomputable def o770 := fo "_law_begun" (s1 33) (S "law_nz0371_01" 1153) 769
noncomputable def o773 := tn ["log", "snap", "row"] 1187
noncomputable def o775 := fs "_law_refuses" (s1 34)
noncomputable def o776 := cf "_law_refuses" "_law_refuses" 1184 455 2 181 3 771 1190
noncomputable def o777 := fo "_law_refuses" (s1 34) (S "law_nz0371_01" 1153) 776
noncomputable def o780 := tn ["log", "place"] 1196
noncomputable def o782 := fs "_law_term" (s1 35)
noncomputable def o783 := cf "_law_term" "_law_term" 1193 462 2 181 3 778 1198
noncomputable def o784 := fo "_law_term" (s1 35) (S "law_nz0371_01" 1153) 783
noncomputable def o787 := tn ["log", "snap", "k", "place", "left", "s", "want"] 1204
noncomputable def o789 := fs "_law_whole" (s1 36)
noncomputable def o790 := cf "_law_whole" "_law_whole" 1201 469 5 181 3 785 1211
noncomputable def o791 := fo "_law_whole" (s1 36) (S "law_nz0371_01" 1153) 790
noncomputable def o794 := fs "law" (s1 37)
noncomputable def o795 := ft "code" [(S "law" 1214), (S "law" 1215), (S "/claim/cut.py" 1216), (I 479), (I 1), (I 0), (I 0), (I 3), (R 792), (.bool true), (I 181), (R 793), .none, .none, .none, (R 794), (I 1217), (I 479), (S "/claim/cut.py" 1218)]
noncomputable def o796 := fo "law" (s1 37) (S "law_nz0371_01" 1153) 795
noncomputable def T11 (P : Params) : BT := insR P 750 [zt, zf, zt, zt, o754, o755, o756, zt, zf, o759, zt, o761, o762, o763, zt, zf, o766, zt, o768, o769, o770, zt, zf, o773, zt, o775, o776, o777, zt, zf, o780, zt, o782, o783, o784, zt, zf, o787, zt, o789, o790, o791, zt, zf, o794, o795, o796] (insL P [(3, o3v10), (12, o12v10)] (T10 P))
theorem g11 (w : World) (os : OsState) : segRunT treeTable rp w 11 an 1 227 (SE T10 750 1153 w os) (piecesOf (sl 30 8) en cd ⟨287, 0, 436, 66⟩ B0) = some (.next, SE T11 797 1220 w os, cd, ⟨479, 0, 555, 15⟩) := by
  rw [PySem.W.Fast.te10110043849684766642, PySem.W.Fast.te14364793385576792824]; kernel_rfl
noncomputable def hp (P : Params) : Heap := ⟨⟨boot_o_0 P :: boot_o_1 P :: o2 P :: o3v10 P :: boot_o_4 P :: boot_o_5 P :: boot_o_6 P :: boot_o_7 P :: boot_o_8 P :: boot_o_9 P :: boot_o_10 P :: zt P :: o12v10 P :: o13 P :: o14 P :: zt P :: zf P :: o17 P :: zt P :: o19 P :: o20 P :: o21 P :: o22 P :: o23 P :: o24 P :: zt P :: zf P :: o27 P :: o28 P :: zt P :: o30 P :: o31v1 P :: o32 P :: o33 P :: o34 P :: o35 P :: o36 P :: o37 P :: zt P :: zf P :: o40 P :: o41 P :: zt P :: o43 P :: o44 P :: o45 P :: o46 P :: o47 P :: o48 P :: o49 P :: zt P :: zf P :: o52 P :: o53 P :: zt P :: o55 P :: o56 P :: o57 P :: o58 P :: o59 P :: o60 P :: o61 P :: zt P :: zf P :: o64 P :: o65 P :: zt P :: o67 P :: o68v2 P :: o69 P :: o70 P :: o71 P :: o72 P :: o73 P :: zt P :: zf P :: o76 P :: o77 P :: zt P :: o79 P :: o80 P :: o81 P :: o82 P :: o83 P :: o84 P :: o85 P :: zt P :: zf P :: o88 P :: o89 P :: zt P :: o91 P :: o92 P :: o93 P :: o94 P :: o95 P :: o96 P :: o97 P :: zt P :: zf P :: o100 P :: o101 P :: zt P :: o103 P :: o104 P :: o105 P :: o106 P :: o107 P :: o108 P :: o109 P :: zt P :: zf P :: o112 P :: o113 P :: zt P :: o115 P :: o116 P :: o117 P :: o118 P :: o119 P :: o120 P :: o121 P :: zt P :: zf P :: o124 P :: o125 P :: zt P :: o127 P :: o128 P :: o129 P :: o130 P :: o131 P :: o132 P :: o133 P :: zt P :: zf P :: o136 P :: o137 P :: zt P :: o139 P :: o140 P :: o141 P :: o142 P :: o143 P :: o144 P :: o145 P :: zt P :: zf P :: o148 P :: o149 P :: zt P :: o151 P :: o152 P :: o153 P :: o154 P :: zt P :: zf P :: o157 P :: zt P :: o159 P :: o160 P :: o161 P :: zt P :: zf P :: o164 P :: zt P :: o166 P :: o167 P :: o168 P :: zt P :: o170 P :: o171 P :: zt P :: o173 P :: o174 P :: o175 P :: zt P :: zf P :: o178 P :: zt P :: o180 P :: o181 P :: o182 P :: zt P :: zf P :: o185 P :: zt P :: o187 P :: o188 P :: o189 P :: zt P :: zf P :: o192 P :: zt P :: o194 P :: o195 P :: o196 P :: zt P :: zf P :: o199 P :: zt P :: o201 P :: o202 P :: o203 P :: zt P :: zf P :: o206 P :: zt P :: o208 P :: o209 P :: o210 P :: o211 P :: o212 P :: o213 P :: o214 P :: o215 P :: o216 P :: o217 P :: zt P :: zf P :: o220 P :: zt P :: o222 P :: o223 P :: o224 P :: zt P :: o226 P :: o227 P :: zt P :: o229 P :: o230 P :: o231 P :: zt P :: zf P :: o234 P :: zt P :: o236 P :: o237 P :: o238 P :: zt P :: zf P :: o241 P :: zt P :: o243 P :: o244 P :: o245 P :: zt P :: zf P :: o248 P :: zt P :: o250 P :: o251 P :: o252 P :: zt P :: zf P :: o255 P :: zt P :: o257 P :: o258 P :: o259 P :: zt P :: zf P :: o262 P :: zt P :: o264 P :: o265 P :: o266 P :: o267 P :: o268 P :: o269 P :: o270 P :: o271 P :: o272 P :: o273 P :: zt P :: o275 P :: o276 P :: zt P :: o278 P :: o279 P :: o280 P :: zt P :: zf P :: o283 P :: zt P :: o285 P :: o286 P :: o287 P :: zt P :: zf P :: o290 P :: zt P :: o292 P :: o293 P :: o294 P :: zt P :: zf P :: o297 P :: zt P :: o299 P :: o300 P :: o301 P :: o302 P :: o303 P :: o304 P :: o305 P :: o306 P :: o307 P :: o308 P :: zt P :: o310 P :: o311 P :: zt P :: o313 P :: o314 P :: o315 P :: zt P :: zf P :: o318 P :: zt P :: o320 P :: o321 P :: o322 P :: zt P :: zf P :: o325 P :: zt P :: o327 P :: o328 P :: o329 P :: zt P :: zf P :: o332 P :: zt P :: o334 P :: o335 P :: o336 P :: zt P :: zf P :: o339 P :: zt P :: o341 P :: o342 P :: o343 P :: o344 P :: o345 P :: o346 P :: o347 P :: o348 P :: o349 P :: o350 P :: zt P :: o352 P :: o353 P :: zt P :: o355 P :: o356 P :: o357 P :: zt P :: zf P :: o360 P :: zt P :: o362 P :: o363 P :: o364 P :: zt P :: zf P :: o367 P :: zt P :: o369 P :: o370 P :: o371 P :: zt P :: zf P :: o374 P :: zt P :: o376 P :: o377 P :: o378 P :: zt P :: zf P :: o381 P :: zt P :: o383 P :: o384 P :: o385 P :: zt P :: zf P :: o388 P :: zt P :: o390 P :: o391 P :: o392 P :: zt P :: zf P :: o395 P :: zt P :: o397 P :: o398 P :: o399 P :: zt P :: zf P :: o402 P :: zt P :: o404 P :: o405 P :: o406 P :: zt P :: zf P :: o409 P :: zt P :: o411 P :: o412 P :: o413 P :: zt P :: zf P :: o416 P :: zt P :: o418 P :: o419 P :: o420 P :: zt P :: zf P :: o423 P :: zt P :: o425 P :: o426 P :: o427 P :: zt P :: zf P :: o430 P :: zt P :: o432 P :: o433 P :: o434 P :: zt P :: zf P :: o437 P :: zt P :: o439 P :: o440 P :: o441 P :: zt P :: zf P :: o444 P :: zt P :: o446 P :: o447 P :: o448 P :: o449 P :: o450 P :: o451 P :: o452 P :: o453 P :: o454 P :: o455 P :: zt P :: o457 P :: o458 P :: zt P :: o460 P :: o461 P :: o462 P :: zt P :: zf P :: o465 P :: zt P :: o467 P :: o468 P :: o469 P :: zt P :: zf P :: o472 P :: zt P :: o474 P :: o475 P :: o476 P :: zt P :: zf P :: o479 P :: zt P :: o481 P :: o482 P :: o483 P :: zt P :: zf P :: o486 P :: zt P :: o488 P :: o489 P :: o490 P :: zt P :: zf P :: o493 P :: zt P :: o495 P :: o496 P :: o497 P :: zt P :: zf P :: o500 P :: zt P :: o502 P :: o503 P :: o504 P :: zt P :: zf P :: o507 P :: zt P :: o509 P :: o510 P :: o511 P :: zt P :: zf P :: o514 P :: zt P :: o516 P :: o517 P :: o518 P :: zt P :: zf P :: o521 P :: zt P :: o523 P :: o524 P :: o525 P :: zt P :: zf P :: o528 P :: zt P :: o530 P :: o531 P :: o532 P :: o533 P :: o534 P :: o535 P :: o536 P :: o537 P :: o538 P :: o539 P :: zt P :: o541 P :: o542 P :: zt P :: o544 P :: o545 P :: o546 P :: zt P :: zf P :: o549 P :: zt P :: o551 P :: o552 P :: o553 P :: zt P :: zf P :: o556 P :: zt P :: o558 P :: o559 P :: o560 P :: zt P :: zf P :: o563 P :: zt P :: o565 P :: o566 P :: o567 P :: zt P :: zf P :: o570 P :: zt P :: o572 P :: o573 P :: o574 P :: zt P :: zf P :: o577 P :: zt P :: o579 P :: o580 P :: o581 P :: zt P :: zf P :: o584 P :: zt P :: o586 P :: o587 P :: o588 P :: zt P :: zf P :: o591 P :: zt P :: o593 P :: o594 P :: o595 P :: zt P :: zf P :: o598 P :: zt P :: o600 P :: o601 P :: o602 P :: zt P :: zf P :: o605 P :: zt P :: o607 P :: o608 P :: o609 P :: zt P :: zf P :: o612 P :: zt P :: o614 P :: o615 P :: o616 P :: zt P :: zf P :: o619 P :: zt P :: o621 P :: o622 P :: o623 P :: zt P :: zf P :: o626 P :: zt P :: o628 P :: o629 P :: o630 P :: zt P :: zf P :: o633 P :: zt P :: o635 P :: o636 P :: o637 P :: zt P :: zf P :: o640 P :: zt P :: o642 P :: o643 P :: o644 P :: zt P :: zf P :: o647 P :: zt P :: o649 P :: o650 P :: o651 P :: zt P :: zf P :: o654 P :: zt P :: o656 P :: o657 P :: o658 P :: zt P :: zf P :: o661 P :: zt P :: o663 P :: o664 P :: o665 P :: zt P :: zf P :: o668 P :: zt P :: o670 P :: o671 P :: o672 P :: zt P :: zf P :: o675 P :: zt P :: o677 P :: o678 P :: o679 P :: zt P :: zf P :: o682 P :: zt P :: o684 P :: o685 P :: o686 P :: zt P :: zf P :: o689 P :: zt P :: o691 P :: o692 P :: o693 P :: zt P :: zf P :: o696 P :: zt P :: o698 P :: o699 P :: o700 P :: zt P :: zf P :: o703 P :: zt P :: o705 P :: o706 P :: o707 P :: zt P :: zf P :: o710 P :: zt P :: o712 P :: o713 P :: o714 P :: zt P :: zf P :: o717 P :: zt P :: o719 P :: o720 P :: o721 P :: zt P :: zf P :: o724 P :: zt P :: o726 P :: o727 P :: o728 P :: zt P :: zf P :: o731 P :: zt P :: o733 P :: o734 P :: o735 P :: zt P :: zf P :: o738 P :: zt P :: o740 P :: o741 P :: o742 P :: o743 P :: o744 P :: o745 P :: o746 P :: o747 P :: o748 P :: o749 P :: zt P :: zf P :: zt P :: zt P :: o754 P :: o755 P :: o756 P :: zt P :: zf P :: o759 P :: zt P :: o761 P :: o762 P :: o763 P :: zt P :: zf P :: o766 P :: zt P :: o768 P :: o769 P :: o770 P :: zt P :: zf P :: o773 P :: zt P :: o775 P :: o776 P :: o777 P :: zt P :: zf P :: o780 P :: zt P :: o782 P :: o783 P :: o784 P :: zt P :: zf P :: o787 P :: zt P :: o789 P :: o790 P :: o791 P :: zt P :: zf P :: o794 P :: o795 P :: o796 P :: []⟩, {}⟩
theorem pre_ (w : World) (os : OsState) : topGo treeTable rp w 11 an 12 ⟨boot_heap w.params, #[], boot_drawn, boot_toks, os⟩ (topStub rp) = some (⟨h0 w.params, #[], {}, 187, os⟩, ⟨denote treeTable cd, cd, ⟨0, 0, 0, 0⟩, B0⟩) := by
  rw [PySem.W.Fast.te15667345088766844465, PySem.W.Fast.te11892475500146522536, PySem.W.Fast.te14364793385576792824]; kernel_rfl
theorem blk_ (w : World) (os : OsState) : segRun treeTable rp w 11 an 1 1 ⟨h0 w.params, #[], {}, 187, os⟩ (blockOf (behindTheImports rp) en cd ⟨0, 0, 0, 0⟩ B0) = some (.next, (SE T0 15 187 w os).abs, cd, ⟨0, 0, 0, 0⟩) := by kernel_rfl
theorem fin_ (w : World) (os : OsState) : topRun treeTable rp w 11 an 2 (SE T11 797 1220 w os).abs ⟨doneF .next, cd, ⟨479, 0, 555, 15⟩, B0⟩ = some ⟨hp w.params, #[], {}, 1220, os⟩ := by
  rw [PySem.W.Fast.te14082659384304107361, PySem.W.Fast.te14364793385576792824]; kernel_rfl
theorem bd_ : behindTheImports rp = sl 0 5 ++ (sl 5 3 ++ (sl 8 3 ++ (sl 11 10 ++ (sl 21 2 ++ (sl 23 2 ++ (sl 25 2 ++ (sl 27 1 ++ (sl 28 1 ++ (sl 29 1 ++ (sl 30 8 ++ [])))))))))) := by kernel_rfl
theorem run_ (w : World) (os : OsState) : topRun treeTable rp w 11 an (12 + (1 + (675 + (668 + (682 + (570 + (388 + (644 + (331 + (618 + (517 + (1100 + (227 + 2))))))))))))) ⟨boot_heap w.params, #[], boot_drawn, boot_toks, os⟩ (topStub rp) = some ⟨hp w.params, #[], {}, 1220, os⟩ :=
  go_top (pre_ w os) (piece_block (blk_ w os) (by rw [bd_]; exact (piece_app (segRun_of (g1 w os)) (piece_app (segRun_of (g2 w os)) (piece_app (segRun_of (g3 w os)) (piece_app (segRun_of (g4 w os)) (piece_app (segRun_of (g5 w os)) (piece_app (segRun_of (g6 w os)) (piece_app (segRun_of (g7 w os)) (piece_app (segRun_of (g8 w os)) (piece_app (segRun_of (g9 w os)) (piece_app (segRun_of (g10 w os)) (piece_app (segRun_of (g11 w os)) (piece_nil (fin_ w os)))))))))))))))
noncomputable def vw : Program := view rp [0, 2, 3, 4, 5, 6, 7, 8, 9, 10, 11, 12, 14, 15, 17, 18, 19, 20, 21, 22, 23, 24, 25, 27, 28, 29, 31, 32, 33, 34, 35, 36, 37]
noncomputable def KK (P : Params) : Frag := (nat_lit 2, o2 P) :: (nat_lit 3, o3v10 P) :: (nat_lit 15, zt P) :: (nat_lit 17, o17 P) :: (nat_lit 18, zt P) :: (nat_lit 20, o20 P) :: (nat_lit 21, o21 P) :: (nat_lit 22, o22 P) :: (nat_lit 29, zt P) :: (nat_lit 30, o30 P) :: (nat_lit 31, o31v1 P) :: (nat_lit 32, o32 P) :: (nat_lit 35, o35 P) :: (nat_lit 42, zt P) :: (nat_lit 43, o43 P) :: (nat_lit 44, o44 P) :: (nat_lit 47, o47 P) :: (nat_lit 54, zt P) :: (nat_lit 55, o55 P) :: (nat_lit 56, o56 P) :: (nat_lit 59, o59 P) :: (nat_lit 66, zt P) :: (nat_lit 67, o67 P) :: (nat_lit 68, o68v2 P) :: (nat_lit 71, o71 P) :: (nat_lit 78, zt P) :: (nat_lit 79, o79 P) :: (nat_lit 80, o80 P) :: (nat_lit 83, o83 P) :: (nat_lit 90, zt P) :: (nat_lit 91, o91 P) :: (nat_lit 92, o92 P) :: (nat_lit 95, o95 P) :: (nat_lit 102, zt P) :: (nat_lit 103, o103 P) :: (nat_lit 104, o104 P) :: (nat_lit 107, o107 P) :: (nat_lit 114, zt P) :: (nat_lit 115, o115 P) :: (nat_lit 116, o116 P) :: (nat_lit 119, o119 P) :: (nat_lit 126, zt P) :: (nat_lit 127, o127 P) :: (nat_lit 128, o128 P) :: (nat_lit 131, o131 P) :: (nat_lit 138, zt P) :: (nat_lit 139, o139 P) :: (nat_lit 140, o140 P) :: (nat_lit 143, o143 P) :: (nat_lit 150, zt P) :: (nat_lit 151, o151 P) :: (nat_lit 152, o152 P) :: (nat_lit 155, zt P) :: (nat_lit 157, o157 P) :: (nat_lit 158, zt P) :: (nat_lit 160, o160 P) :: (nat_lit 161, o161 P) :: (nat_lit 162, zt P) :: (nat_lit 164, o164 P) :: (nat_lit 165, zt P) :: (nat_lit 167, o167 P) :: (nat_lit 168, o168 P) :: (nat_lit 176, zt P) :: (nat_lit 178, o178 P) :: (nat_lit 179, zt P) :: (nat_lit 181, o181 P) :: (nat_lit 182, o182 P) :: (nat_lit 183, zt P) :: (nat_lit 185, o185 P) :: (nat_lit 186, zt P) :: (nat_lit 188, o188 P) :: (nat_lit 189, o189 P) :: (nat_lit 190, zt P) :: (nat_lit 192, o192 P) :: (nat_lit 193, zt P) :: (nat_lit 195, o195 P) :: (nat_lit 196, o196 P) :: (nat_lit 197, zt P) :: (nat_lit 199, o199 P) :: (nat_lit 200, zt P) :: (nat_lit 202, o202 P) :: (nat_lit 203, o203 P) :: (nat_lit 204, zt P) :: (nat_lit 206, o206 P) :: (nat_lit 207, zt P) :: (nat_lit 209, o209 P) :: (nat_lit 210, o210 P) :: (nat_lit 211, o211 P) :: (nat_lit 212, o212 P) :: (nat_lit 213, o213 P) :: (nat_lit 214, o214 P) :: (nat_lit 215, o215 P) :: (nat_lit 218, zt P) :: (nat_lit 220, o220 P) :: (nat_lit 221, zt P) :: (nat_lit 223, o223 P) :: (nat_lit 224, o224 P) :: (nat_lit 232, zt P) :: (nat_lit 234, o234 P) :: (nat_lit 235, zt P) :: (nat_lit 237, o237 P) :: (nat_lit 238, o238 P) :: (nat_lit 239, zt P) :: (nat_lit 241, o241 P) :: (nat_lit 242, zt P) :: (nat_lit 244, o244 P) :: (nat_lit 245, o245 P) :: (nat_lit 246, zt P) :: (nat_lit 248, o248 P) :: (nat_lit 249, zt P) :: (nat_lit 251, o251 P) :: (nat_lit 252, o252 P) :: (nat_lit 253, zt P) :: (nat_lit 255, o255 P) :: (nat_lit 256, zt P) :: (nat_lit 258, o258 P) :: (nat_lit 259, o259 P) :: (nat_lit 260, zt P) :: (nat_lit 262, o262 P) :: (nat_lit 263, zt P) :: (nat_lit 265, o265 P) :: (nat_lit 266, o266 P) :: (nat_lit 267, o267 P) :: (nat_lit 268, o268 P) :: (nat_lit 269, o269 P) :: (nat_lit 270, o270 P) :: (nat_lit 271, o271 P) :: (nat_lit 281, zt P) :: (nat_lit 283, o283 P) :: (nat_lit 284, zt P) :: (nat_lit 286, o286 P) :: (nat_lit 287, o287 P) :: (nat_lit 288, zt P) :: (nat_lit 290, o290 P) :: (nat_lit 291, zt P) :: (nat_lit 293, o293 P) :: (nat_lit 294, o294 P) :: (nat_lit 295, zt P) :: (nat_lit 297, o297 P) :: (nat_lit 298, zt P) :: (nat_lit 300, o300 P) :: (nat_lit 301, o301 P) :: (nat_lit 302, o302 P) :: (nat_lit 303, o303 P) :: (nat_lit 304, o304 P) :: (nat_lit 305, o305 P) :: (nat_lit 306, o306 P) :: (nat_lit 316, zt P) :: (nat_lit 318, o318 P) :: (nat_lit 319, zt P) :: (nat_lit 321, o321 P) :: (nat_lit 322, o322 P) :: (nat_lit 323, zt P) :: (nat_lit 325, o325 P) :: (nat_lit 326, zt P) :: (nat_lit 328, o328 P) :: (nat_lit 329, o329 P) :: (nat_lit 330, zt P) :: (nat_lit 332, o332 P) :: (nat_lit 333, zt P) :: (nat_lit 335, o335 P) :: (nat_lit 336, o336 P) :: (nat_lit 337, zt P) :: (nat_lit 339, o339 P) :: (nat_lit 340, zt P) :: (nat_lit 342, o342 P) :: (nat_lit 343, o343 P) :: (nat_lit 344, o344 P) :: (nat_lit 345, o345 P) :: (nat_lit 346, o346 P) :: (nat_lit 347, o347 P) :: (nat_lit 348, o348 P) :: (nat_lit 358, zt P) :: (nat_lit 360, o360 P) :: (nat_lit 361, zt P) :: (nat_lit 363, o363 P) :: (nat_lit 364, o364 P) :: (nat_lit 365, zt P) :: (nat_lit 367, o367 P) :: (nat_lit 368, zt P) :: (nat_lit 370, o370 P) :: (nat_lit 371, o371 P) :: (nat_lit 372, zt P) :: (nat_lit 374, o374 P) :: (nat_lit 375, zt P) :: (nat_lit 377, o377 P) :: (nat_lit 378, o378 P) :: (nat_lit 379, zt P) :: (nat_lit 381, o381 P) :: (nat_lit 382, zt P) :: (nat_lit 384, o384 P) :: (nat_lit 385, o385 P) :: (nat_lit 386, zt P) :: (nat_lit 388, o388 P) :: (nat_lit 389, zt P) :: (nat_lit 391, o391 P) :: (nat_lit 392, o392 P) :: (nat_lit 393, zt P) :: (nat_lit 395, o395 P) :: (nat_lit 396, zt P) :: (nat_lit 398, o398 P) :: (nat_lit 399, o399 P) :: (nat_lit 400, zt P) :: (nat_lit 402, o402 P) :: (nat_lit 403, zt P) :: (nat_lit 405, o405 P) :: (nat_lit 406, o406 P) :: (nat_lit 407, zt P) :: (nat_lit 409, o409 P) :: (nat_lit 410, zt P) :: (nat_lit 412, o412 P) :: (nat_lit 413, o413 P) :: (nat_lit 414, zt P) :: (nat_lit 416, o416 P) :: (nat_lit 417, zt P) :: (nat_lit 419, o419 P) :: (nat_lit 420, o420 P) :: (nat_lit 421, zt P) :: (nat_lit 423, o423 P) :: (nat_lit 424, zt P) :: (nat_lit 426, o426 P) :: (nat_lit 427, o427 P) :: (nat_lit 428, zt P) :: (nat_lit 430, o430 P) :: (nat_lit 431, zt P) :: (nat_lit 433, o433 P) :: (nat_lit 434, o434 P) :: (nat_lit 435, zt P) :: (nat_lit 437, o437 P) :: (nat_lit 438, zt P) :: (nat_lit 440, o440 P) :: (nat_lit 441, o441 P) :: (nat_lit 442, zt P) :: (nat_lit 444, o444 P) :: (nat_lit 445, zt P) :: (nat_lit 447, o447 P) :: (nat_lit 448, o448 P) :: (nat_lit 449, o449 P) :: (nat_lit 450, o450 P) :: (nat_lit 451, o451 P) :: (nat_lit 452, o452 P) :: (nat_lit 453, o453 P) :: (nat_lit 463, zt P) :: (nat_lit 465, o465 P) :: (nat_lit 466, zt P) :: (nat_lit 468, o468 P) :: (nat_lit 469, o469 P) :: (nat_lit 470, zt P) :: (nat_lit 472, o472 P) :: (nat_lit 473, zt P) :: (nat_lit 475, o475 P) :: (nat_lit 476, o476 P) :: (nat_lit 477, zt P) :: (nat_lit 479, o479 P) :: (nat_lit 480, zt P) :: (nat_lit 482, o482 P) :: (nat_lit 483, o483 P) :: (nat_lit 484, zt P) :: (nat_lit 486, o486 P) :: (nat_lit 487, zt P) :: (nat_lit 489, o489 P) :: (nat_lit 490, o490 P) :: (nat_lit 491, zt P) :: (nat_lit 493, o493 P) :: (nat_lit 494, zt P) :: (nat_lit 496, o496 P) :: (nat_lit 497, o497 P) :: (nat_lit 498, zt P) :: (nat_lit 500, o500 P) :: (nat_lit 501, zt P) :: (nat_lit 503, o503 P) :: (nat_lit 504, o504 P) :: (nat_lit 505, zt P) :: (nat_lit 507, o507 P) :: (nat_lit 508, zt P) :: (nat_lit 510, o510 P) :: (nat_lit 511, o511 P) :: (nat_lit 512, zt P) :: (nat_lit 514, o514 P) :: (nat_lit 515, zt P) :: (nat_lit 517, o517 P) :: (nat_lit 518, o518 P) :: (nat_lit 519, zt P) :: (nat_lit 521, o521 P) :: (nat_lit 522, zt P) :: (nat_lit 524, o524 P) :: (nat_lit 525, o525 P) :: (nat_lit 526, zt P) :: (nat_lit 528, o528 P) :: (nat_lit 529, zt P) :: (nat_lit 531, o531 P) :: (nat_lit 532, o532 P) :: (nat_lit 533, o533 P) :: (nat_lit 534, o534 P) :: (nat_lit 535, o535 P) :: (nat_lit 536, o536 P) :: (nat_lit 537, o537 P) :: (nat_lit 547, zt P) :: (nat_lit 549, o549 P) :: (nat_lit 550, zt P) :: (nat_lit 552, o552 P) :: (nat_lit 553, o553 P) :: (nat_lit 554, zt P) :: (nat_lit 556, o556 P) :: (nat_lit 557, zt P) :: (nat_lit 559, o559 P) :: (nat_lit 560, o560 P) :: (nat_lit 561, zt P) :: (nat_lit 563, o563 P) :: (nat_lit 564, zt P) :: (nat_lit 566, o566 P) :: (nat_lit 567, o567 P) :: (nat_lit 568, zt P) :: (nat_lit 570, o570 P) :: (nat_lit 571, zt P) :: (nat_lit 573, o573 P) :: (nat_lit 574, o574 P) :: (nat_lit 575, zt P) :: (nat_lit 577, o577 P) :: (nat_lit 578, zt P) :: (nat_lit 580, o580 P) :: (nat_lit 581, o581 P) :: (nat_lit 582, zt P) :: (nat_lit 584, o584 P) :: (nat_lit 585, zt P) :: (nat_lit 587, o587 P) :: (nat_lit 588, o588 P) :: (nat_lit 589, zt P) :: (nat_lit 591, o591 P) :: (nat_lit 592, zt P) :: (nat_lit 594, o594 P) :: (nat_lit 595, o595 P) :: (nat_lit 596, zt P) :: (nat_lit 598, o598 P) :: (nat_lit 599, zt P) :: (nat_lit 601, o601 P) :: (nat_lit 602, o602 P) :: (nat_lit 603, zt P) :: (nat_lit 605, o605 P) :: (nat_lit 606, zt P) :: (nat_lit 608, o608 P) :: (nat_lit 609, o609 P) :: (nat_lit 610, zt P) :: (nat_lit 612, o612 P) :: (nat_lit 613, zt P) :: (nat_lit 615, o615 P) :: (nat_lit 616, o616 P) :: (nat_lit 617, zt P) :: (nat_lit 619, o619 P) :: (nat_lit 620, zt P) :: (nat_lit 622, o622 P) :: (nat_lit 623, o623 P) :: (nat_lit 624, zt P) :: (nat_lit 626, o626 P) :: (nat_lit 627, zt P) :: (nat_lit 629, o629 P) :: (nat_lit 630, o630 P) :: (nat_lit 631, zt P) :: (nat_lit 633, o633 P) :: (nat_lit 634, zt P) :: (nat_lit 636, o636 P) :: (nat_lit 637, o637 P) :: (nat_lit 638, zt P) :: (nat_lit 640, o640 P) :: (nat_lit 641, zt P) :: (nat_lit 643, o643 P) :: (nat_lit 644, o644 P) :: (nat_lit 645, zt P) :: (nat_lit 647, o647 P) :: (nat_lit 648, zt P) :: (nat_lit 650, o650 P) :: (nat_lit 651, o651 P) :: (nat_lit 652, zt P) :: (nat_lit 654, o654 P) :: (nat_lit 655, zt P) :: (nat_lit 657, o657 P) :: (nat_lit 658, o658 P) :: (nat_lit 659, zt P) :: (nat_lit 661, o661 P) :: (nat_lit 662, zt P) :: (nat_lit 664, o664 P) :: (nat_lit 665, o665 P) :: (nat_lit 666, zt P) :: (nat_lit 668, o668 P) :: (nat_lit 669, zt P) :: (nat_lit 671, o671 P) :: (nat_lit 672, o672 P) :: (nat_lit 673, zt P) :: (nat_lit 675, o675 P) :: (nat_lit 676, zt P) :: (nat_lit 678, o678 P) :: (nat_lit 679, o679 P) :: (nat_lit 680, zt P) :: (nat_lit 682, o682 P) :: (nat_lit 683, zt P) :: (nat_lit 685, o685 P) :: (nat_lit 686, o686 P) :: (nat_lit 687, zt P) :: (nat_lit 689, o689 P) :: (nat_lit 690, zt P) :: (nat_lit 692, o692 P) :: (nat_lit 693, o693 P) :: (nat_lit 694, zt P) :: (nat_lit 696, o696 P) :: (nat_lit 697, zt P) :: (nat_lit 699, o699 P) :: (nat_lit 700, o700 P) :: (nat_lit 701, zt P) :: (nat_lit 703, o703 P) :: (nat_lit 704, zt P) :: (nat_lit 706, o706 P) :: (nat_lit 707, o707 P) :: (nat_lit 708, zt P) :: (nat_lit 710, o710 P) :: (nat_lit 711, zt P) :: (nat_lit 713, o713 P) :: (nat_lit 714, o714 P) :: (nat_lit 715, zt P) :: (nat_lit 717, o717 P) :: (nat_lit 718, zt P) :: (nat_lit 720, o720 P) :: (nat_lit 721, o721 P) :: (nat_lit 722, zt P) :: (nat_lit 724, o724 P) :: (nat_lit 725, zt P) :: (nat_lit 727, o727 P) :: (nat_lit 728, o728 P) :: (nat_lit 729, zt P) :: (nat_lit 731, o731 P) :: (nat_lit 732, zt P) :: (nat_lit 734, o734 P) :: (nat_lit 735, o735 P) :: (nat_lit 736, zt P) :: (nat_lit 738, o738 P) :: (nat_lit 739, zt P) :: (nat_lit 741, o741 P) :: (nat_lit 742, o742 P) :: (nat_lit 743, o743 P) :: (nat_lit 744, o744 P) :: (nat_lit 745, o745 P) :: (nat_lit 746, o746 P) :: (nat_lit 747, o747 P) :: (nat_lit 750, zt P) :: (nat_lit 752, zt P) :: (nat_lit 753, zt P) :: (nat_lit 755, o755 P) :: (nat_lit 756, o756 P) :: (nat_lit 757, zt P) :: (nat_lit 759, o759 P) :: (nat_lit 760, zt P) :: (nat_lit 762, o762 P) :: (nat_lit 763, o763 P) :: (nat_lit 764, zt P) :: (nat_lit 766, o766 P) :: (nat_lit 767, zt P) :: (nat_lit 769, o769 P) :: (nat_lit 770, o770 P) :: (nat_lit 771, zt P) :: (nat_lit 773, o773 P) :: (nat_lit 774, zt P) :: (nat_lit 776, o776 P) :: (nat_lit 777, o777 P) :: (nat_lit 778, zt P) :: (nat_lit 780, o780 P) :: (nat_lit 781, zt P) :: (nat_lit 783, o783 P) :: (nat_lit 784, o784 P) :: (nat_lit 785, zt P) :: (nat_lit 787, o787 P) :: (nat_lit 788, zt P) :: (nat_lit 790, o790 P) :: (nat_lit 791, o791 P) :: (nat_lit 792, zt P) :: (nat_lit 795, o795 P) :: (nat_lit 796, o796 P) :: []
noncomputable def as_ : List Addr := 2 :: 3 :: 15 :: 17 :: 18 :: 20 :: 21 :: 22 :: 29 :: 30 :: 31 :: 32 :: 35 :: 42 :: 43 :: 44 :: 47 :: 54 :: 55 :: 56 :: 59 :: 66 :: 67 :: 68 :: 71 :: 78 :: 79 :: 80 :: 83 :: 90 :: 91 :: 92 :: 95 :: 102 :: 103 :: 104 :: 107 :: 114 :: 115 :: 116 :: 119 :: 126 :: 127 :: 128 :: 131 :: 138 :: 139 :: 140 :: 143 :: 150 :: 151 :: 152 :: 155 :: 157 :: 158 :: 160 :: 161 :: 162 :: 164 :: 165 :: 167 :: 168 :: 176 :: 178 :: 179 :: 181 :: 182 :: 183 :: 185 :: 186 :: 188 :: 189 :: 190 :: 192 :: 193 :: 195 :: 196 :: 197 :: 199 :: 200 :: 202 :: 203 :: 204 :: 206 :: 207 :: 209 :: 210 :: 211 :: 212 :: 213 :: 214 :: 215 :: 218 :: 220 :: 221 :: 223 :: 224 :: 232 :: 234 :: 235 :: 237 :: 238 :: 239 :: 241 :: 242 :: 244 :: 245 :: 246 :: 248 :: 249 :: 251 :: 252 :: 253 :: 255 :: 256 :: 258 :: 259 :: 260 :: 262 :: 263 :: 265 :: 266 :: 267 :: 268 :: 269 :: 270 :: 271 :: 281 :: 283 :: 284 :: 286 :: 287 :: 288 :: 290 :: 291 :: 293 :: 294 :: 295 :: 297 :: 298 :: 300 :: 301 :: 302 :: 303 :: 304 :: 305 :: 306 :: 316 :: 318 :: 319 :: 321 :: 322 :: 323 :: 325 :: 326 :: 328 :: 329 :: 330 :: 332 :: 333 :: 335 :: 336 :: 337 :: 339 :: 340 :: 342 :: 343 :: 344 :: 345 :: 346 :: 347 :: 348 :: 358 :: 360 :: 361 :: 363 :: 364 :: 365 :: 367 :: 368 :: 370 :: 371 :: 372 :: 374 :: 375 :: 377 :: 378 :: 379 :: 381 :: 382 :: 384 :: 385 :: 386 :: 388 :: 389 :: 391 :: 392 :: 393 :: 395 :: 396 :: 398 :: 399 :: 400 :: 402 :: 403 :: 405 :: 406 :: 407 :: 409 :: 410 :: 412 :: 413 :: 414 :: 416 :: 417 :: 419 :: 420 :: 421 :: 423 :: 424 :: 426 :: 427 :: 428 :: 430 :: 431 :: 433 :: 434 :: 435 :: 437 :: 438 :: 440 :: 441 :: 442 :: 444 :: 445 :: 447 :: 448 :: 449 :: 450 :: 451 :: 452 :: 453 :: 463 :: 465 :: 466 :: 468 :: 469 :: 470 :: 472 :: 473 :: 475 :: 476 :: 477 :: 479 :: 480 :: 482 :: 483 :: 484 :: 486 :: 487 :: 489 :: 490 :: 491 :: 493 :: 494 :: 496 :: 497 :: 498 :: 500 :: 501 :: 503 :: 504 :: 505 :: 507 :: 508 :: 510 :: 511 :: 512 :: 514 :: 515 :: 517 :: 518 :: 519 :: 521 :: 522 :: 524 :: 525 :: 526 :: 528 :: 529 :: 531 :: 532 :: 533 :: 534 :: 535 :: 536 :: 537 :: 547 :: 549 :: 550 :: 552 :: 553 :: 554 :: 556 :: 557 :: 559 :: 560 :: 561 :: 563 :: 564 :: 566 :: 567 :: 568 :: 570 :: 571 :: 573 :: 574 :: 575 :: 577 :: 578 :: 580 :: 581 :: 582 :: 584 :: 585 :: 587 :: 588 :: 589 :: 591 :: 592 :: 594 :: 595 :: 596 :: 598 :: 599 :: 601 :: 602 :: 603 :: 605 :: 606 :: 608 :: 609 :: 610 :: 612 :: 613 :: 615 :: 616 :: 617 :: 619 :: 620 :: 622 :: 623 :: 624 :: 626 :: 627 :: 629 :: 630 :: 631 :: 633 :: 634 :: 636 :: 637 :: 638 :: 640 :: 641 :: 643 :: 644 :: 645 :: 647 :: 648 :: 650 :: 651 :: 652 :: 654 :: 655 :: 657 :: 658 :: 659 :: 661 :: 662 :: 664 :: 665 :: 666 :: 668 :: 669 :: 671 :: 672 :: 673 :: 675 :: 676 :: 678 :: 679 :: 680 :: 682 :: 683 :: 685 :: 686 :: 687 :: 689 :: 690 :: 692 :: 693 :: 694 :: 696 :: 697 :: 699 :: 700 :: 701 :: 703 :: 704 :: 706 :: 707 :: 708 :: 710 :: 711 :: 713 :: 714 :: 715 :: 717 :: 718 :: 720 :: 721 :: 722 :: 724 :: 725 :: 727 :: 728 :: 729 :: 731 :: 732 :: 734 :: 735 :: 736 :: 738 :: 739 :: 741 :: 742 :: 743 :: 744 :: 745 :: 746 :: 747 :: 750 :: 752 :: 753 :: 755 :: 756 :: 757 :: 759 :: 760 :: 762 :: 763 :: 764 :: 766 :: 767 :: 769 :: 770 :: 771 :: 773 :: 774 :: 776 :: 777 :: 778 :: 780 :: 781 :: 783 :: 784 :: 785 :: 787 :: 788 :: 790 :: 791 :: 792 :: 795 :: 796 :: []
theorem as_eq (P : Params) : as_ = (KK P).map (·.1) := by kernel_rfl
noncomputable def hk : Hook := kHook KK as_ as_eq
noncomputable abbrev rr : RowW := PySem.Challenge.rw_nz0371_01.row.toRowW
noncomputable def xt (s : Shared) : Bool := xlAt vw [] s && recOk (RowW.records rr) s
theorem op_ : opening rp = plainProg rp.main.scope.names := by kernel_rfl
theorem fn_ (s : Shared) : fenceModules? rp s = some s := by kernel_rfl
theorem sz_ (w : World) : ((boot_heap w.params).isNs mainGlobals && (#[] : Array GenState).size == 0, (boot_heap w.params).objs.size, (boot_heap w.params).nsMap mainGlobals "__annotations__") = (true, 11, an) := by kernel_rfl
theorem l1_ (w : World) (os : OsState) : (staticsOk (importedModules rp.main.body) (boot_heap w.params) (hp w.params) && namesBound rp (hp w.params) && gensDone ⟨hp w.params, #[], {}, 1220, os⟩ && laidKept (boot_heap w.params) (hp w.params)) = true := by kernel_rfl
theorem l3_ (w : World) (os : OsState) : Hook.obs hk ⟨hp w.params, #[], {}, 1220, os⟩ = Hook.val hk w := by kernel_rfl
theorem l2_ (w : World) (os : OsState) : openSeen vw [] (importedModules rp.main.body) xt true ⟨hp w.params, #[], {}, 1220, os⟩ = openGood vw [] := by kernel_rfl
theorem said_ : OpenLaw.wellSaid PySem.Challenge.rw_nz0371_01 = true := by kernel_rfl
theorem left_ : LeftO rp vw [] xt (Hook.obs hk) (Hook.val hk) 12944 :=
  LeftO.of_pieces (boot_open op_ (by rfl) fn_) sz_ run_ (by rfl) fun w => funext fun os => Prod.ext (l1_ w os) (Prod.ext (l2_ w os) (l3_ w os))
end Rk
end

end
theorem Rk.fillK : PySem.Challenge.rw_nz0371_01 = PySem.Challenge.rw_nz0371_01 ∧ KK = KK := by k_fill; exact ⟨rfl, rfl⟩
section
namespace Rk
theorem ent_unchain : entryFor table "proto.unchain" = some Builtin.«proto.unchain» := entryFor_of_fast (by kernel_rfl)
noncomputable def Free2 (h : Heap) (e : Addr) : Prop := ∃ o vs, h.get? e = some o ∧ o.data = .fields vs ∧ vs[2]? = some .none
theorem Free2.keep {h h' : Heap} {e : Addr} (k : ∀ o, h.get? e = some o → h'.get? e = some o) (x : Free2 h e) : Free2 h' e :=
  let ⟨o, vs, a, b, d⟩ := x; ⟨o, vs, k o a, b, d⟩
section
variable {prog : Program} {w : World} {A : Around} {E : Value → Shared → Prop} {s : Shared}
theorem raise_under {α : Type} {Q : α → Shared → Prop} {e x : Addr} {ox : Obj} {vx : Array Value} (hh : A.handled = some (.ref e)) (hf : Free2 s.heap e) (ne : e ≠ x) (hx : s.heap.get? x = some ox) (hd : ox.data = .fields vx) (hz : 2 < vx.size)
    (h : E (.ref x) { s with heap := s.heap.update x (Obj.mapFields (·.setIfInBounds 2 (.ref e))) }) : wpAny (model prog w) A (raiseNew (.ref x) : Sem α) Q E s := by
  obtain ⟨oe, ve, h1, h2, h3⟩ := hf
  unfold raiseNew
  refine wpAny_bind (wpAny_handled ?_)
  rw [hh]
  show wpAny _ _ (if (Value.ref e != Value.ref x) = true then (do let _ ← holding [Value.ref x] (runValue (.builtin "proto.unchain" ⟨[.ref x, .ref e, .ref e, .bool false], []⟩)); let r ← updateField x 2 (.ref e); (throw (Value.ref x) : Sem α)) else throw (Value.ref x)) _ _ _
  rw [if_pos (by simpa using ne)]
  refine wpAny_bind (wpAny_holding (wpAny_runValue (codeAny_builtin ent_unchain ?_)))
  show wpAny _ _ (field (.ref e) 2 >>= _) _ _ s
  refine wpAny_bind (wpAny_field h1 h2 h3 ?_)
  rw [if_pos (by decide)]
  refine wpAny_bind (wpAny_pure (wpAny_pure ?_))
  show wpAny _ _ (setField (.ref x) 2 (.ref e) >>= _) _ _ s
  exact wpAny_bind (wpAny_setField hx hd hz (wpAny_throw h))
theorem next_listE_under {it l e : Addr} {i : Nat} {items : Array Value} {Q : Option Value → Shared → Prop} (hh : A.handled = some (.ref e)) (hf : Free2 s.heap e) (hi : s.heap.IsListIter it l i) (hl : s.heap.IsList l items) (hx : items[i]? = none) (ne : e ≠ it)
    (hQ : ∀ h', Heap.ExtBut it s.heap h' → Q none { s with heap := h' }) : wpAny (model prog w) A (pyNext (.ref it)) Q E s := by
  obtain ⟨oi, g1, g2, g3⟩ := id hi
  obtain ⟨ol, k1, _, nl, k3⟩ := hl
  have hf0 := hf
  obtain ⟨oe, ve, e1, e2, e3⟩ := hf
  unfold pyNext
  refine wpAny_bind (wpAny_attempt (wpAny_callSpecial?_slot (name := Str.ofString "__next__") hi.typeIs slot_listiter_next (wpAny_call_entry slot_listiter_next hi.typeIs entry_listiter_next ?_ (args_listiter_next _))))
  show wpAny _ _ (field (.ref it) 0 >>= _) _ _ s
  refine wpAny_bind (wpAny_field g1 g3 (x := .ref l) rfl ?_)
  show wpAny _ _ (if (Value.ref l == Value.none) = true then _ else _) _ _ s
  rw [if_neg (show ¬ ((Value.ref l == Value.none) = true) from Bool.false_ne_true)]
  show wpAny _ _ (field (.ref it) 1 >>= _) _ _ s
  refine wpAny_bind (wpAny_field g1 g3 (x := .int i 0) rfl ?_)
  show wpAny _ _ (seqItems? (.ref l) >>= _) _ _ s
  refine wpAny_bind (wpAny_seqItems k1 k3 ?_)
  simp only [Int.toNat_natCast, hx]
  refine wpAny_bind (wpAny_rule (wpAny_bind (wpAny_setField g1 g3 (by simp) ?_)))
  have s1 : Heap.ExtBut it s.heap (s.heap.update it (Obj.mapFields (·.setIfInBounds 0 Value.none))) := (Heap.SameBut.update ..).extBut
  revert s1
  generalize s.heap.update it (Obj.mapFields (·.setIfInBounds 0 Value.none)) = h1
  intro s1
  have f1 : Free2 h1 e := hf0.keep fun o q => s1 e o ne q
  show wpAny _ _ (newExc (.type "StopIteration") [] >>= _) _ _ _
  refine wpAny_bind ?_
  simp only [newExc, newTuple]
  refine wpAny_bind (wpAny_newObj_type ?_ (by size_fits))
  refine wpAny_bind (m := firstArgMember _ _) (wpAny_of_eq (a := Value.none) (by first | rfl | (simp only [firstArgMember]; rfl)) ?_)
  refine wpAny_newObj_type ?_ (by size_fits)
  refine raise_under (s := ⟨_, _, _, _, _⟩) (A := A.in1) hh (f1.keep fun o q => Heap.get?_push_of_some _ (Heap.get?_push_of_some _ q)) ?_ (Heap.get?_push_size _ rfl) rfl (by simp; omega) ?_
  · obtain ⟨o, _, q, _⟩ := f1
    have := Heap.lt_size (Heap.get?_push_of_some { cls := .type "tuple", data := .seq ([] : List Value).toArray } q)
    exact fun z => absurd this (by rw [z]; exact Nat.lt_irrefl _)
  refine wpAny_bind (wpAny_isInstance (T := "StopIteration") (b := true) ⟨_, Heap.get?_update_self _ (Heap.get?_push_size _ rfl) rfl, rfl⟩ isSubtype_stop ?_)
  refine wpAny_pure (hQ _ fun b o nb q => ?_)
  have q1 := Heap.get?_push_of_some { cls := .type "tuple", data := .seq ([] : List Value).toArray } (s1 b o nb q)
  rw [Heap.get?_update_other _ _ (fun z => absurd (Heap.lt_size q1) (by rw [← z]; exact Nat.lt_irrefl _))]
  exact Heap.get?_push_of_some _ q1
end
noncomputable def Pv {α : Type} (I : Heap → Prop) : Sem α → Prop
  | .pure _ => True
  | .raise _ => True
  | .unsupported _ => True
  | .finish _ => True
  | .rule _ k => Pv I (k ())
  | .at _ k => Pv I (k ())
  | .load _ _ k => ∀ o, Pv I (k o)
  | .update a _ f k => (∀ h, I h → I (h.update a f)) ∧ Pv I (k ())
  | .alloc o k => (∀ h, I h → I (h.push o)) ∧ ∀ a, Pv I (k a)
  | .loadIfAlive _ k => ∀ o, Pv I (k o)
  | .point _ k => Pv I (k ())
  | .register _ _ => True
  | .fresh k => ∀ n, Pv I (k n)
  | .ask k => ∀ x, Pv I (k x)
  | .choose _ _ k => ∀ n, Pv I (k n)
  | .os _ _ k => ∀ r, Pv I (k r)
  | .call _ _ _ _ _ => False
  | .handled _ k => ∀ v, Pv I (k v)
  | .newGen _ k => ∀ n, Pv I (k n)
  | .genState _ k => ∀ st, Pv I (k st)
  | .resume _ _ _ _ => False
  | .yield _ _ _ _ => True
  | .stack k => ∀ l, Pv I (k l)
  | .fork _ _ => True
  | .thread k => ∀ n, Pv I (k n)
  | .await _ _ _ _ _ => True
section
variable {α β : Type} {I : Heap → Prop} {M : Model} {A : Around} {E : Value → Shared → Prop} {s : Shared}
theorem pv_wp (Γ : Ctx) {Q : α → Pos → Shared → Prop} {E : Value → Pos → Shared → Prop} (t : Sem α) (v : Pv I t) (p : Pos) (s : Shared) (h : Sem.wp M Γ t Q E p s) (hi : I s.heap) :
    Sem.wp M Γ t (fun a p s => Q a p s ∧ I s.heap) (fun e p s => E e p s ∧ I s.heap) p s := by
  induction t generalizing p s with
  | pure | raise => exact ⟨h, hi⟩
  | unsupported | finish | yield | fork | await | register => exact h
  | rule _ k ih | «at» _ k ih | point _ k ih => exact ih _ v _ _ h hi
  | loadIfAlive _ k ih | fresh k ih | ask k ih | handled _ k ih | newGen _ k ih | stack k ih | thread k ih => exact ih _ (v _) _ _ h hi
  | os _ _ k ih => exact ih _ (v _) _ _ h hi
  | load a _ k ih | genState a k ih => obtain ⟨o, ho, h⟩ := h; exact ⟨o, ho, ih _ (v _) _ _ h hi⟩
  | update a _ f k ih => exact ⟨h.1, ih _ v.2 _ _ h.2 (v.1 _ hi)⟩
  | choose _ _ k ih => exact ⟨h.1, ih _ (v _) _ _ h.2 hi⟩
  | alloc o k ih => exact ih _ (v.2 _) _ _ h (v.1 _ hi)
  | call => exact v.elim
  | resume => exact v.elim
theorem pv_any {t : Sem α} {Q : α → Shared → Prop} (h : wpAny M A t Q E s) (v : Pv I t) (hi : I s.heap) : wpAny M A t (fun a s' => Q a s' ∧ I s'.heap) (fun e s' => E e s' ∧ I s'.heap) s :=
  fun Γ p hΓ => pv_wp Γ t v p s (h Γ p hΓ) hi
theorem pv_bind : ∀ {m : Sem α} {f : α → Sem β}, Pv I m → (∀ a, Pv I (f a)) → Pv I (m >>= f) := fun {m} {f} v k => by
  show Pv I (m.bind f)
  induction m with
  | pure a => exact k a
  | raise | unsupported | finish | register | yield | fork | await => trivial
  | rule _ _ ih | «at» _ _ ih | point _ _ ih => exact ih _ v
  | load _ _ _ ih | loadIfAlive _ _ ih | fresh _ ih | ask _ ih | choose _ _ _ ih | os _ _ _ ih | handled _ _ ih | newGen _ _ ih | genState _ _ ih | stack _ ih | thread _ ih => exact fun x => ih x (v x)
  | update _ _ _ _ ih => exact ⟨v.1, ih _ v.2⟩
  | alloc _ _ ih => exact ⟨v.1, fun x => ih x (v.2 x)⟩
  | call => exact v.elim
  | resume => exact v.elim
theorem pv_load {a : Addr} : Pv I (load a) := fun _ => trivial
end
theorem free2_up {h : Heap} {a e : Addr} {f : Obj → Obj} (k : ∀ o vs, o.data = .fields vs → ∃ ws, (f o).data = .fields ws ∧ ws[2]? = vs[2]?) (x : Free2 h e) : Free2 (h.update a f) e := by
  obtain ⟨o, vs, h1, h2, h3⟩ := x
  by_cases q : a = e
  · subst q
    obtain ⟨ws, k1, k2⟩ := k o vs h2
    exact ⟨f o, ws, Heap.get?_update_self f h1 (Obj.isFreed_of_fields k1), k1, k2.trans h3⟩
  · exact ⟨o, vs, (Heap.get?_update_other h f q).trans h1, h2, h3⟩
theorem free2_push {h : Heap} {e : Addr} (o : Obj) (x : Free2 h e) : Free2 (h.push o) e := x.keep fun _ q => Heap.get?_push_of_some _ q
section
variable {e : Addr}
theorem pv_field {v : Value} {i : Nat} : Pv (Free2 · e) (field v i) := by
  unfold field fieldsOf
  refine pv_bind ?_ fun vs => ?_
  · cases v with
    | ref a =>
      refine pv_bind pv_load fun o => ?_
      split <;> exact trivial
    | _ => exact trivial
  · split <;> exact trivial
theorem pv_setField {v x : Value} {i : Nat} (hi : i ≠ 2) : Pv (Free2 · e) (setField v i x) := by
  unfold setField
  cases v with
  | ref a =>
    show Pv _ (updateField a i x)
    unfold updateField
    refine pv_bind pv_load fun o => ?_
    split
    · split
      · refine ⟨fun h y => free2_up (fun o vs q => ?_) y, trivial⟩
        exact ⟨_, Obj.data_mapFields q _, by rw [Array.getElem?_setIfInBounds_ne hi]⟩
      · exact trivial
    · exact trivial
  | _ => exact trivial
theorem pv_flight {v : Value} {f : Option Addr} : Pv (Free2 · e) (setFlight v f) := by
  unfold setFlight
  refine pv_bind pv_field fun tb => ?_
  split
  · exact pv_setField (by decide)
  · exact trivial
theorem pv_ready : ∀ l : List Env, Pv (Free2 · e) (readyFrames l)
  | [] => trivial
  | env :: outer => by
    unfold readyFrames
    split
    · refine pv_bind pv_load fun o => ?_
      split
      · exact trivial
      · refine pv_bind ?_ fun im => pv_bind ?_ fun bk => pv_bind ?_ fun _ => pv_ready outer
        · unfold behindIsImport
          split
          · exact trivial
          · split
            · exact trivial
            · exact pv_bind pv_field fun _ => trivial
        · unfold keptBack
          split
          · split
            · exact trivial
            · unfold underTheClaimsCaller
              exact pv_bind (pv_bind (fun _ => trivial) fun _ => trivial) fun _ => trivial
          · exact trivial
        · exact ⟨fun h y => free2_up (fun o vs q => ⟨vs, q, rfl⟩) y, trivial⟩
    · exact trivial
theorem pv_frameOf {env : Env} : Pv (Free2 · e) (PySem.frameOf env) := by
  unfold PySem.frameOf frameEnvs
  refine pv_bind (pv_bind (fun _ => trivial) fun _ => trivial) fun l => pv_bind ?_ fun o => ?_
  · unfold frameObject
    split
    · exact trivial
    · exact pv_bind (pv_ready _) fun _ => trivial
  · cases o <;> exact trivial
theorem pv_place {f : Addr} {b : Bool} : Pv (Free2 · e) (entryPlaceOf f b) := by
  unfold entryPlaceOf
  refine pv_bind (fun _ => trivial) fun l => ?_
  split <;> exact trivial
theorem pv_asIs {T : String} {d : Data} {o : Option Addr} : Pv (Free2 · e) (newObjAsIs (.type T) d o) := by
  unfold newObjAsIs
  exact ⟨fun h y => free2_push _ y, fun _ => trivial⟩
theorem pv_entry {a b c d f : Value} {l : List Value} : Pv (Free2 · e) (EntryCells.newEntry a b c d f l) := by
  unfold EntryCells.newEntry newFields newObj
  dsimp only
  generalize (([a, b, c, d, f] ++ if l.isEmpty = true then List.replicate 6 Value.none else l).toArray) = vs
  show Pv _ (if vs.size > sizeLine + 2 then _ else _)
  split
  · exact trivial
  · exact pv_asIs
theorem pv_note {v : Value} {env : Env} : Pv (Free2 · e) (noteFrame v env) := by
  unfold noteFrame
  split
  · rename_i f _
    refine pv_bind pv_field fun hd => ?_
    have tl : Pv (Free2 · e) (do let a ← PySem.frameOf env; let pl ← entryPlaceOf f (hd != .none); let b ← EntryCells.newEntry hd a .none (rawInt f) .none pl; setField v 1 b) :=
      pv_bind pv_frameOf fun _ => pv_bind pv_place fun _ => pv_bind pv_entry fun _ => pv_setField (by decide)
    split
    · refine pv_bind pv_field fun x => ?_
      split
      · exact trivial
      · exact pv_bind (pv_setField (by decide)) fun _ => tl
    · exact tl
  · exact trivial
theorem pv_leaving {v : Value} {env : Env} : Pv (Free2 · e) (leaving env v) := by
  unfold leaving
  exact pv_bind pv_note fun _ => pv_flight
end
end Rk

end
section
set_option tactic.hygienic false
namespace Rk

inductive V where
  | none | bool (b : Bool) | int (i : Int) | str (x : Str) | bytes (b : Array UInt8) | ref (a : Addr) | raw (w : Value)
noncomputable def VRel : V → Value → Prop
  | .none, w => w = .none
  | .bool b, w => w = .bool b
  | .int i, w => ∃ t, w = .int i t
  | .str x, w => ∃ t, w = .str x t
  | .bytes b, w => ∃ t, w = .bytes b t
  | .ref a, w => w = .ref a
  | .raw v, w => w = v
noncomputable def VsRel : List V → List Value → Prop
  | [], [] => True
  | v :: vs, w :: ws => VRel v w ∧ VsRel vs ws
  | _, _ => False
noncomputable def FsRel : List (Str × V) → List DictEntry → Prop
  | [], [] => True
  | f :: fs, e :: es => (∃ t, e.key = .str f.1 t) ∧ VRel f.2 e.val ∧ FsRel fs es
  | _, _ => False
inductive MO where
  | list (vs : List V)
  | tup (vs : List V)
  | inst (C : Addr) (fs : List (Str × V))
  | cell (v : Option V)
  | obj (o : Obj)
  | li (l : Addr) (i : Nat)
  | ti (l : Addr) (i : Nat)
  | ri (x left : Int)
  | rg (x y : Int)
  | si (x : Str) (i : Nat)
noncomputable abbrev tupOf (its : Array Value) (n : Nat) : Obj := { cls := .type "tuple", data := .seq its n }
noncomputable def MO.isInst : MO → Bool
  | .inst .. => true
  | _ => false
noncomputable def MO.isIt : MO → Bool
  | .li .. | .ti .. | .ri .. => true
  | _ => false
noncomputable def CellRel : Option V → Option Value → Prop
  | none, _ => True
  | some v, ow => ∃ w, ow = some w ∧ VRel v w
noncomputable def MOAt (h : Heap) (d a : Addr) : MO → Prop
  | .list vs => ∃ ws n, h.get? a = some (listOf ws n) ∧ VsRel vs ws.toList
  | .tup vs => ∃ ws n, h.get? a = some (tupOf ws n) ∧ VsRel vs ws.toList
  | .inst C fs => h.get? a = some (instObj C d) ∧ ∃ es n, h.get? d = some (dictOf es n) ∧ FsRel fs es
  | .cell v => ∃ o ow, h.get? a = some o ∧ o.data = .cell ow ∧ CellRel v ow
  | .obj o => h.get? a = some o
  | .li l i => h.IsListIter a l i
  | .ti l i => h.IsTupleIter a l i
  | .ri x left => IsRangeIter h a x left 1
  | .rg x y => ∃ t u v, IsRange h a x y 1 t u v
  | .si x i => ∃ t, h.IsStrIter a "str_ascii_iterator" x t i
noncomputable abbrev Hp := Addr → Option MO
noncomputable def Hp.set (H : Hp) (a : Addr) (o : MO) : Hp := fun b => if b = a then some o else H b
noncomputable def Hp.Le (H H' : Hp) : Prop := ∀ a o, H a = some o → H' a = some o
theorem Hp.set_self (H : Hp) (a : Addr) (o : MO) : H.set a o a = some o := if_pos rfl
theorem Hp.set_ne (H : Hp) {a b : Addr} (o : MO) (h : b ≠ a) : H.set a o b = H b := if_neg h
theorem Hp.Le.refl (H : Hp) : H.Le H := fun _ _ e => e
theorem Hp.Le.trans {H H' H'' : Hp} (x : H.Le H') (y : H'.Le H'') : H.Le H'' := fun a o e => y a o (x a o e)
noncomputable def Hp.del (H : Hp) (a : Addr) : Hp := fun b => if b = a then none else H b
theorem Hp.del_le (H : Hp) (a : Addr) : (H.del a).Le H := fun b o e => by
  unfold Hp.del at e
  by_cases q : b = a
  · rw [if_pos q] at e; cases e
  · rw [if_neg q] at e; exact e
theorem Hp.Le.del {H H' : Hp} {a : Addr} (l : H.Le H') (h : H a = none) : H.Le (H'.del a) := fun b o e => by
  unfold Hp.del
  rw [if_neg (fun q => by rw [q, h] at e; cases e)]
  exact l b o e
theorem Hp.Le.set {H : Hp} {n : Addr} (o : MO) (h : H n = none) : H.Le (H.set n o) := fun a x e => by
  rw [Hp.set_ne H o (fun q => by rw [q, h] at e; cases e)]; exact e

theorem VsRel.length : ∀ {vs : List V} {ws : List Value}, VsRel vs ws → ws.length = vs.length
  | [], [], _ => rfl
  | _ :: _, _ :: _, h => by rw [List.length_cons, List.length_cons, VsRel.length h.2]
  | [], _ :: _, h => h.elim
  | _ :: _, [], h => h.elim
theorem VsRel.nil {ws : List Value} (h : VsRel [] ws) : ws = [] := List.eq_nil_of_length_eq_zero h.length
theorem VsRel.inv {v : V} {vs : List V} {ws : List Value} (h : VsRel (v :: vs) ws) : ∃ x xs, ws = x :: xs ∧ VRel v x ∧ VsRel vs xs := by
  cases ws with
  | nil => exact h.elim
  | cons x xs => exact ⟨x, xs, rfl, h.1, h.2⟩
theorem vr1 {v : V} {ws : List Value} (h : VsRel [v] ws) : ∃ x, ws = [x] ∧ VRel v x := by
  obtain ⟨x, xs, rfl, h1, h⟩ := h.inv; cases h.nil; exact ⟨x, rfl, h1⟩
theorem vr2 {v u : V} {ws : List Value} (h : VsRel [v, u] ws) : ∃ x y, ws = [x, y] ∧ VRel v x ∧ VRel u y := by
  obtain ⟨x, xs, rfl, h1, h⟩ := h.inv; obtain ⟨y, rfl, h2⟩ := vr1 h; exact ⟨x, y, rfl, h1, h2⟩
noncomputable def ArF (F : List Value → Prop) : Nat → List Value → Prop
  | 0, l => F l
  | n + 1, l => ∀ a, ArF F n (l ++ [a])
theorem ar_at {F : List Value → Prop} : ∀ {vs : List V} {us xs : List Value}, ArF F vs.length us → VsRel vs xs → F (us ++ xs)
  | [], us, xs, h, r => by rw [VsRel.nil r, List.append_nil]; exact h
  | v :: vs, us, xs, h, r => by
    obtain ⟨x, xs, rfl, _, r⟩ := r.inv
    have := ar_at (us := us ++ [x]) (h x) r
    rwa [List.append_assoc] at this
theorem ar {F : List Value → Prop} {vs : List V} (h : ArF F vs.length []) (xs : List Value) (r : VsRel vs xs) : F xs := ar_at h r
theorem VsRel.append : ∀ {vs : List V} {ws : List Value} {us : List V} {xs : List Value}, VsRel vs ws → VsRel us xs → VsRel (vs ++ us) (ws ++ xs)
  | [], [], _, _, _, k => k
  | _ :: _, _ :: _, _, _, h, k => ⟨h.1, VsRel.append h.2 k⟩
  | [], _ :: _, _, _, h, _ => h.elim
  | _ :: _, [], _, _, h, _ => h.elim
theorem VsRel.get : ∀ {vs : List V} {ws : List Value}, VsRel vs ws → ∀ {i : Nat} {v : V}, vs[i]? = some v → ∃ w, ws[i]? = some w ∧ VRel v w
  | _ :: _, _ :: _, h, 0, _, e => ⟨_, rfl, by cases e; exact h.1⟩
  | _ :: _, _ :: _, h, i + 1, _, e => by
    obtain ⟨w, h1, h2⟩ := VsRel.get h.2 (i := i) (by simpa using e)
    exact ⟨w, by simpa using h1, h2⟩
  | [], [], _, _, _, e => by cases e
  | [], _ :: _, h, _, _, _ => h.elim
  | _ :: _, [], h, _, _, _ => h.elim
theorem VsRel.drop : ∀ {vs : List V} {ws : List Value} (n : Nat), VsRel vs ws → VsRel (vs.drop n) (ws.drop n)
  | _, _, 0, h => h
  | [], [], _ + 1, _ => trivial
  | _ :: _, _ :: _, n + 1, h => VsRel.drop n h.2
  | [], _ :: _, _, h => h.elim
  | _ :: _, [], _, h => h.elim
theorem VsRel.take : ∀ {vs : List V} {ws : List Value} (n : Nat), VsRel vs ws → VsRel (vs.take n) (ws.take n)
  | _, _, 0, _ => by simp [VsRel]
  | [], [], _ + 1, _ => trivial
  | _ :: _, _ :: _, n + 1, h => ⟨h.1, VsRel.take n h.2⟩
  | [], _ :: _, _, h => h.elim
  | _ :: _, [], _, h => h.elim
theorem MOAt.congr {h h' : Heap} {d a : Addr} : ∀ {o : MO}, MOAt h d a o → h'.get? a = h.get? a → (o.isInst = true → h'.get? d = h.get? d) → MOAt h' d a o
  | .list _, ⟨ws, n, e, r⟩, q, _ => ⟨ws, n, q.trans e, r⟩
  | .tup _, ⟨ws, n, e, r⟩, q, _ => ⟨ws, n, q.trans e, r⟩
  | .inst _ _, ⟨e, es, n, e', r⟩, q, q' => ⟨q.trans e, es, n, (q' rfl).trans e', r⟩
  | .cell _, ⟨o, ow, e, r⟩, q, _ => ⟨o, ow, q.trans e, r⟩
  | .obj _, e, q, _ => q.trans e
  | .li _ _, ⟨o, e, r⟩, q, _ => ⟨o, q.trans e, r⟩
  | .ti _ _, ⟨o, e, r⟩, q, _ => ⟨o, q.trans e, r⟩
  | .ri _ _, e, q, _ => q.trans e
  | .rg _ _, ⟨t, u, v, e⟩, q, _ => ⟨t, u, v, q.trans e⟩
  | .si _ _, ⟨t, o, e, r⟩, q, _ => ⟨t, o, q.trans e, r⟩
theorem MOAt.ex {h : Heap} {d a : Addr} : ∀ {o : MO}, MOAt h d a o → ∃ x, h.get? a = some x
  | .list _, ⟨_, _, e, _⟩ => ⟨_, e⟩
  | .tup _, ⟨_, _, e, _⟩ => ⟨_, e⟩
  | .inst _ _, ⟨e, _⟩ => ⟨_, e⟩
  | .cell _, ⟨o, _, e, _⟩ => ⟨o, e⟩
  | .obj o, e => ⟨o, e⟩
  | .li _ _, ⟨o, e, _⟩ => ⟨o, e⟩
  | .ti _ _, ⟨o, e, _⟩ => ⟨o, e⟩
  | .ri _ _, e => ⟨_, e⟩
  | .rg _ _, ⟨_, _, _, e⟩ => ⟨_, e⟩
  | .si _ _, ⟨_, o, e, _⟩ => ⟨o, e⟩
theorem MOAt.exD {h : Heap} {d a : Addr} : ∀ {o : MO}, MOAt h d a o → o.isInst = true → ∃ es n, h.get? d = some (dictOf es n)
  | .inst _ _, ⟨_, es, n, e, _⟩, _ => ⟨es, n, e⟩
  | .list _, _, q => by cases q
  | .tup _, _, q => by cases q
  | .cell _, _, q => by cases q
  | .li _ _, _, q => by cases q
  | .ti _ _, _, q => by cases q
  | .ri _ _, _, q => by cases q
  | .rg _ _, _, q => by cases q
  | .si _ _, _, q => by cases q
  | .obj _, _, q => by cases q

structure RelD (h₀ : Heap) (L : Addr) (δ : Addr → Addr) (H : Hp) (h : Heap) : Prop where
  at_ : ∀ a o, H a = some o → MOAt h (δ a) a o
  off : ∀ a o, H a = some o → a ≠ L ∧ h₀.get? a = none
  doff : ∀ a o, H a = some o → o.isInst = true → δ a ≠ L ∧ h₀.get? (δ a) = none ∧ ∀ b o', H b = some o' → δ a ≠ b
  inj : ∀ a b o o', H a = some o → H b = some o' → o.isInst = true → o'.isInst = true → δ a = δ b → a = b
noncomputable def RelH (h₀ : Heap) (L : Addr) (H : Hp) (h : Heap) : Prop := ∃ δ, RelD h₀ L δ H h

theorem RelD.le {h₀ h : Heap} {L : Addr} {δ : Addr → Addr} {H H' : Hp} (R : RelD h₀ L δ H' h) (l : H.Le H') : RelD h₀ L δ H h :=
  ⟨fun a o e => R.at_ a o (l a o e), fun a o e => R.off a o (l a o e), fun a o e i => ⟨(R.doff a o (l a o e) i).1, (R.doff a o (l a o e) i).2.1, fun b o' e' => (R.doff a o (l a o e) i).2.2 b o' (l b o' e')⟩,
   fun a b o o' e e' => R.inj a b o o' (l a o e) (l b o' e')⟩
theorem RelD.growK {h₀ h h' : Heap} {L : Addr} {δ : Addr → Addr} {H : Hp} (R : RelD h₀ L δ H h) (k : ∀ b o, b ≠ L → h₀.get? b = none → h.get? b = some o → h'.get? b = some o) : RelD h₀ L δ H h' :=
  ⟨fun a o e => by
    have m := R.at_ a o e
    obtain ⟨x, hx⟩ := m.ex
    refine m.congr ((k _ _ (R.off a o e).1 (R.off a o e).2 hx).trans hx.symm) fun i => ?_
    obtain ⟨es, n, hd⟩ := m.exD i
    exact (k _ _ (R.doff a o e i).1 (R.doff a o e i).2.1 hd).trans hd.symm, R.off, R.doff, R.inj⟩
theorem RelD.grow {h₀ h h' : Heap} {L : Addr} {δ : Addr → Addr} {H : Hp} (R : RelD h₀ L δ H h) (k : ∀ b o, h.get? b = some o → h'.get? b = some o) : RelD h₀ L δ H h' := R.growK fun b o _ _ => k b o
theorem RelH.grow {h₀ h h' : Heap} {L : Addr} {H : Hp} (R : RelH h₀ L H h) (k : ∀ b o, h.get? b = some o → h'.get? b = some o) : RelH h₀ L H h' := let ⟨δ, x⟩ := R; ⟨δ, x.grow k⟩
noncomputable def KeepBut (h₀ : Heap) (L x : Addr) (h h' : Heap) : Prop := ∀ b o, b ≠ x → b ≠ L → h₀.get? b = none → h.get? b = some o → h'.get? b = some o
theorem KeepBut.of {h₀ h h' : Heap} {L x : Addr} (hs : Heap.SameBut x h h') : KeepBut h₀ L x h h' := fun b o n _ _ e => (hs.2 b n).trans e
theorem RelD.other {h₀ h h' : Heap} {L x : Addr} {δ : Addr → Addr} {H : Hp} (R : RelD h₀ L δ H h) (hs : KeepBut h₀ L x h h') (h1 : H x = none) (h2 : ∀ a o, H a = some o → o.isInst = true → δ a ≠ x) : RelD h₀ L δ H h' :=
  ⟨fun a o e => by
    have m := R.at_ a o e
    obtain ⟨y, hy⟩ := m.ex
    refine m.congr ((hs _ _ (fun q => by rw [q, h1] at e; cases e) (R.off a o e).1 (R.off a o e).2 hy).trans hy.symm) fun i => ?_
    obtain ⟨es, n, hd⟩ := m.exD i
    exact (hs _ _ (h2 a o e i) (R.doff a o e i).1 (R.doff a o e i).2.1 hd).trans hd.symm, R.off, R.doff, R.inj⟩
theorem RelH.frame {h₀ h h' : Heap} {L : Addr} {H : Hp} (R : RelH h₀ L H h) (hs : Heap.SameBut L h h') : RelH h₀ L H h' := by
  obtain ⟨δ, x⟩ := R
  refine ⟨δ, x.other (KeepBut.of hs) ?_ fun a o e i => (x.doff a o e i).1⟩
  cases q : H L with
  | none => rfl
  | some o => exact absurd rfl (x.off L o q).1
theorem RelD.put {h₀ h h' : Heap} {L a : Addr} {δ : Addr → Addr} {H : Hp} {o o' : MO} (R : RelD h₀ L δ H h) (e : H a = some o) (hs : KeepBut h₀ L a h h') (m : ∀ d, MOAt h' d a o') (i : o'.isInst = false) : RelD h₀ L δ (H.set a o') h' := by
  refine ⟨fun b x q => ?_, fun b x q => ?_, fun b x q j => ?_, fun b c x y q q' j j' => ?_⟩
  · by_cases hb : b = a
    · subst hb; rw [Hp.set_self] at q; cases q; exact m _
    · rw [Hp.set_ne _ _ hb] at q
      have k := R.at_ b x q
      obtain ⟨y, hy⟩ := k.ex
      refine k.congr ((hs _ _ hb (R.off b x q).1 (R.off b x q).2 hy).trans hy.symm) fun j => ?_
      obtain ⟨es, n, hd⟩ := k.exD j
      have z := R.doff b x q j
      exact (hs _ _ (z.2.2 a o e) z.1 z.2.1 hd).trans hd.symm
  · by_cases hb : b = a
    · subst hb; exact R.off b o e
    · rw [Hp.set_ne _ _ hb] at q; exact R.off b x q
  · by_cases hb : b = a
    · subst hb; rw [Hp.set_self] at q; cases q; rw [i] at j; cases j
    · rw [Hp.set_ne _ _ hb] at q
      have z := R.doff b x q j
      refine ⟨z.1, z.2.1, fun c y q' => ?_⟩
      by_cases hc : c = a
      · subst hc; exact z.2.2 c o e
      · rw [Hp.set_ne _ _ hc] at q'; exact z.2.2 c y q'
  · by_cases hb : b = a
    · subst hb; rw [Hp.set_self] at q; cases q; rw [i] at j; cases j
    · by_cases hc : c = a
      · subst hc; rw [Hp.set_self] at q'; cases q'; rw [i] at j'; cases j'
      · rw [Hp.set_ne _ _ hb] at q; rw [Hp.set_ne _ _ hc] at q'; exact R.inj b c x y q q' j j'
theorem RelD.putI {h₀ h h' : Heap} {L a : Addr} {δ : Addr → Addr} {H : Hp} {C : Addr} {fs fs' : List (Str × V)} {es : List DictEntry} {n : Nat} (R : RelD h₀ L δ H h) (e : H a = some (.inst C fs)) (hs : KeepBut h₀ L (δ a) h h')
    (hd : h'.get? (δ a) = some (dictOf es n)) (hf : FsRel fs' es) : RelD h₀ L δ (H.set a (.inst C fs')) h' := by
  have da := R.doff a _ e rfl
  refine ⟨fun b x q => ?_, fun b x q => ?_, fun b x q j => ?_, fun b c x y q q' j j' => ?_⟩
  · by_cases hb : b = a
    · subst hb; rw [Hp.set_self] at q; cases q
      have k := (R.at_ b _ e).1
      exact ⟨hs _ _ (Ne.symm (da.2.2 b _ e)) (R.off b _ e).1 (R.off b _ e).2 k, es, n, hd, hf⟩
    · rw [Hp.set_ne _ _ hb] at q
      have k := R.at_ b x q
      obtain ⟨y, hy⟩ := k.ex
      refine k.congr ((hs _ _ (Ne.symm (da.2.2 b x q)) (R.off b x q).1 (R.off b x q).2 hy).trans hy.symm) fun j => ?_
      obtain ⟨es, n, hd⟩ := k.exD j
      have z := R.doff b x q j
      exact (hs _ _ (fun z => hb (R.inj b a x _ q e j rfl z)) z.1 z.2.1 hd).trans hd.symm
  · by_cases hb : b = a
    · subst hb; exact R.off b _ e
    · rw [Hp.set_ne _ _ hb] at q; exact R.off b x q
  · by_cases hb : b = a
    · subst hb
      refine ⟨da.1, da.2.1, fun c y q' => ?_⟩
      by_cases hc : c = b
      · subst hc; exact da.2.2 c _ e
      · rw [Hp.set_ne _ _ hc] at q'; exact da.2.2 c y q'
    · rw [Hp.set_ne _ _ hb] at q
      have z := R.doff b x q j
      refine ⟨z.1, z.2.1, fun c y q' => ?_⟩
      by_cases hc : c = a
      · subst hc; exact z.2.2 c _ e
      · rw [Hp.set_ne _ _ hc] at q'; exact z.2.2 c y q'
  · by_cases hb : b = a
    · by_cases hc : c = a
      · exact fun _ => hb.trans hc.symm
      · rw [Hp.set_ne _ _ hc] at q'
        subst hb; exact R.inj b c _ y e q' rfl j'
    · rw [Hp.set_ne _ _ hb] at q
      by_cases hc : c = a
      · subst hc; exact R.inj b c x _ q e j rfl
      · rw [Hp.set_ne _ _ hc] at q'; exact R.inj b c x y q q' j j'
noncomputable def ledg (h₀ : Heap) (L : Addr) (h : Heap) : List (Addr × Obj) := (List.range h.objs.size).filterMap fun a => if a = L then none else if (h₀.get? a).isSome then none else (h.get? a).map fun o => (a, o)
theorem ledg_mem {h₀ h : Heap} {L a : Addr} {o : Obj} : (a, o) ∈ ledg h₀ L h ↔ a ≠ L ∧ h₀.get? a = none ∧ h.get? a = some o := by
  unfold ledg
  rw [List.mem_filterMap]
  constructor
  · rintro ⟨b, hb, e⟩
    by_cases h1 : b = L
    · rw [if_pos h1] at e; cases e
    · rw [if_neg h1] at e
      by_cases h2 : (h₀.get? b).isSome = true
      · rw [if_pos h2] at e; cases e
      · rw [if_neg h2] at e
        obtain ⟨x, hx, hy⟩ := Option.map_eq_some_iff.mp e
        cases hy
        exact ⟨h1, by simpa using h2, hx⟩
  · rintro ⟨h1, h2, h3⟩
    exact ⟨a, List.mem_range.mpr (Heap.lt_size h3), by rw [if_neg h1, h2, h3]; rfl⟩
theorem ledg_news {h₀ h : Heap} {L : Addr} : News h₀ L h (ledg h₀ L h) := fun p hp => by
  have := ledg_mem.mp (show (p.1, p.2) ∈ ledg h₀ L h from hp)
  exact ⟨this.2.2, this.1, this.2.1⟩
theorem ledg_nodup (h₀ : Heap) (L : Addr) (h : Heap) : ((ledg h₀ L h).map (·.1)).Nodup := by
  unfold ledg
  rw [List.map_filterMap]
  have : ∀ (l : List Nat), l.Nodup → (l.filterMap fun x => Option.map (·.1) (if x = L then none else if (h₀.get? x).isSome then none else (h.get? x).map fun o => (x, o))).Nodup ∧ ∀ y ∈ (l.filterMap fun x => Option.map (·.1) (if x = L then none else if (h₀.get? x).isSome then none else (h.get? x).map fun o => (x, o))), y ∈ l := by
    intro l
    induction l with
    | nil => intro _; exact ⟨by simp, by simp⟩
    | cons x l ih =>
      intro hn
      rw [List.nodup_cons] at hn
      obtain ⟨i1, i2⟩ := ih hn.2
      rw [List.filterMap_cons]
      cases q : Option.map (·.1) (if x = L then none else if (h₀.get? x).isSome then none else (h.get? x).map fun o => (x, o)) with
      | none => exact ⟨i1, fun y hy => .tail _ (i2 y hy)⟩
      | some z =>
        have hz : z = x := by
          obtain ⟨p, hp, rfl⟩ := Option.map_eq_some_iff.mp q
          by_cases h1 : x = L
          · rw [if_pos h1] at hp; cases hp
          · rw [if_neg h1] at hp
            by_cases h2 : (h₀.get? x).isSome = true
            · rw [if_pos h2] at hp; cases hp
            · rw [if_neg h2] at hp
              obtain ⟨o, _, rfl⟩ := Option.map_eq_some_iff.mp hp
              rfl
        subst hz
        refine ⟨List.nodup_cons.mpr ⟨fun hm => hn.1 (i2 _ hm), i1⟩, fun y hy => ?_⟩
        rcases List.mem_cons.mp hy with rfl | hy
        · exact .head _
        · exact .tail _ (i2 y hy)
  exact (this _ List.nodup_range).1
theorem upd_of {d : Addr} {o : Obj} (o' : Obj) : ∀ {l : List (Addr × Obj)}, (l.map (·.1)).Nodup → (d, o) ∈ l → Upd d o o' l (l.map fun p => if p.1 = d then (d, o') else p)
  | [], _, h => nomatch h
  | p :: l, hn, h => by
    rw [List.map_cons, List.nodup_cons] at hn
    rw [List.map_cons]
    rcases List.mem_cons.mp h with e | h
    · subst e
      have off : ∀ q ∈ l, q.1 ≠ d := fun q hq e => hn.1 (List.mem_map.mpr ⟨q, hq, e⟩)
      have e2 : l.map (fun p => if p.1 = d then (d, o') else p) = l := by
        conv => rhs; rw [← List.map_id l]
        exact List.map_congr_left fun q hq => if_neg (off q hq)
      rw [if_pos rfl, e2]
      exact .head off
    · have hp : p.1 ≠ d := fun e => hn.1 (List.mem_map.mpr ⟨(d, o), h, e.symm⟩)
      rw [if_neg hp]
      exact .tail hp (upd_of o' hn.2 h)
theorem keep_of_upd {h₀ h h' : Heap} {L d : Addr} {o' : Obj} (N : News h₀ L h' ((ledg h₀ L h).map fun p => if p.1 = d then (d, o') else p)) : KeepBut h₀ L d h h' := fun b o hd hL h0 e => by
  have m := ledg_mem.mpr ⟨hL, h0, e⟩
  have := (N (b, o) (List.mem_map.mpr ⟨(b, o), m, if_neg hd⟩)).1
  exact this
theorem got_of_upd {h₀ h h' : Heap} {L d : Addr} {o o' : Obj} (N : News h₀ L h' ((ledg h₀ L h).map fun p => if p.1 = d then (d, o') else p)) (hL : d ≠ L) (h0 : h₀.get? d = none) (e : h.get? d = some o) : h'.get? d = some o' :=
  (N (d, o') (List.mem_map.mpr ⟨(d, o), ledg_mem.mpr ⟨hL, h0, e⟩, if_pos rfl⟩)).1
theorem RelD.none_size {h₀ h : Heap} {L : Addr} {δ : Addr → Addr} {H : Hp} (R : RelD h₀ L δ H h) {n : Addr} (hn : h.objs.size ≤ n) : H n = none := by
  cases q : H n with
  | none => rfl
  | some o =>
    obtain ⟨x, hx⟩ := (R.at_ n o q).ex
    exact absurd (Heap.lt_size hx) (Nat.not_lt.mpr hn)
theorem RelD.new {h₀ h h' : Heap} {L n : Addr} {δ : Addr → Addr} {H : Hp} {o : MO} (R : RelD h₀ L δ H h) (hn : h.objs.size ≤ n) (k : ∀ b x, b ≠ L → h₀.get? b = none → h.get? b = some x → h'.get? b = some x) (m : ∀ d, MOAt h' d n o) (i : o.isInst = false)
    (hL : n ≠ L) (h0 : h₀.get? n = none) : RelD h₀ L δ (H.set n o) h' := by
  have R' := R.growK k
  have hnone := R.none_size hn
  refine ⟨fun b x q => ?_, fun b x q => ?_, fun b x q j => ?_, fun b c x y q q' j j' => ?_⟩
  · by_cases hb : b = n
    · subst hb; rw [Hp.set_self] at q; cases q; exact m _
    · rw [Hp.set_ne _ _ hb] at q; exact R'.at_ b x q
  · by_cases hb : b = n
    · subst hb; exact ⟨hL, h0⟩
    · rw [Hp.set_ne _ _ hb] at q; exact R.off b x q
  · by_cases hb : b = n
    · subst hb; rw [Hp.set_self] at q; cases q; rw [i] at j; cases j
    · rw [Hp.set_ne _ _ hb] at q
      have z := R.doff b x q j
      refine ⟨z.1, z.2.1, fun c y q' => ?_⟩
      by_cases hc : c = n
      · subst hc
        obtain ⟨es, k, hd⟩ := (R.at_ b x q).exD j
        exact fun e => absurd (Heap.lt_size hd) (Nat.not_lt.mpr (e ▸ hn))
      · rw [Hp.set_ne _ _ hc] at q'; exact z.2.2 c y q'
  · by_cases hb : b = n
    · subst hb; rw [Hp.set_self] at q; cases q; rw [i] at j; cases j
    · by_cases hc : c = n
      · subst hc; rw [Hp.set_self] at q'; cases q'; rw [i] at j'; cases j'
      · rw [Hp.set_ne _ _ hb] at q; rw [Hp.set_ne _ _ hc] at q'; exact R.inj b c x y q q' j j'
theorem RelD.newI {h₀ h h' : Heap} {L n d : Addr} {δ : Addr → Addr} {H : Hp} {C : Addr} (R : RelD h₀ L δ H h) (hn : h.objs.size ≤ n) (hd : h.objs.size ≤ d) (nd : d ≠ n) (k : ∀ b x, h.get? b = some x → h'.get? b = some x)
    (m : h'.get? n = some (instObj C d)) {k₀ : Nat} (m' : h'.get? d = some (dictOf [] k₀)) (hL : n ≠ L) (h0 : h₀.get? n = none) (hL' : d ≠ L) (h0' : h₀.get? d = none) :
    RelD h₀ L (fun a => if a = n then d else δ a) (H.set n (.inst C [])) h' := by
  have R' := R.grow k
  have hnone := R.none_size hn
  have hdnone := R.none_size hd
  have low : ∀ b x, H b = some x → x.isInst = true → δ b < h.objs.size := fun b x q j => by
    obtain ⟨es, k, hd⟩ := (R.at_ b x q).exD j
    exact Heap.lt_size hd
  refine ⟨fun b x q => ?_, fun b x q => ?_, fun b x q j => ?_, fun b c x y q q' j j' => ?_⟩
  · by_cases hb : b = n
    · subst hb; rw [Hp.set_self] at q; cases q
      show MOAt h' (if b = b then d else δ b) b _
      rw [if_pos rfl]; exact ⟨m, [], k₀, m', trivial⟩
    · rw [Hp.set_ne _ _ hb] at q
      show MOAt h' (if b = n then d else δ b) b _
      rw [if_neg hb]; exact R'.at_ b x q
  · by_cases hb : b = n
    · subst hb; exact ⟨hL, h0⟩
    · rw [Hp.set_ne _ _ hb] at q; exact R.off b x q
  · by_cases hb : b = n
    · subst hb
      show (if b = b then d else δ b) ≠ L ∧ h₀.get? (if b = b then d else δ b) = none ∧ ∀ c o', H.set b (.inst C []) c = some o' → (if b = b then d else δ b) ≠ c
      rw [if_pos rfl]
      refine ⟨hL', h0', fun c y q' => ?_⟩
      by_cases hc : c = b
      · subst hc; exact nd
      · rw [Hp.set_ne _ _ hc] at q'
        exact fun e => by rw [← e, hdnone] at q'; cases q'
    · rw [Hp.set_ne _ _ hb] at q
      show (if b = n then d else δ b) ≠ L ∧ h₀.get? (if b = n then d else δ b) = none ∧ ∀ c o', H.set n (.inst C []) c = some o' → (if b = n then d else δ b) ≠ c
      rw [if_neg hb]
      have z := R.doff b x q j
      refine ⟨z.1, z.2.1, fun c y q' => ?_⟩
      by_cases hc : c = n
      · subst hc; exact Nat.ne_of_lt (Nat.lt_of_lt_of_le (low b x q j) hn)
      · rw [Hp.set_ne _ _ hc] at q'; exact z.2.2 c y q'
  · intro e
    (try dsimp only at e)
    by_cases hb : b = n
    · by_cases hc : c = n
      · exact hb.trans hc.symm
      · rw [if_pos hb, if_neg hc] at e
        rw [Hp.set_ne _ _ hc] at q'
        exact absurd (low c y q' j') (Nat.not_lt.mpr (e ▸ hd))
    · rw [Hp.set_ne _ _ hb] at q
      by_cases hc : c = n
      · rw [if_neg hb, if_pos hc] at e
        exact absurd (low b x q j) (Nat.not_lt.mpr (e ▸ hd))
      · rw [if_neg hb, if_neg hc] at e
        rw [Hp.set_ne _ _ hc] at q'
        exact R.inj b c x y q q' j j' e
end Rk

end
section
set_option tactic.hygienic false
namespace Rk

structure Wd where
  prog : Program
  w : World
  K : Frag
  p : Program
  loose : List Str
  mean : ExcName → Option Value
  mg : Str → Option Value
  mb : Str → Option Value
  gens : Array GenState
  drawn : Drawn
  os : OsState
structure Cx where
  D : Wd
  A : Around
  A₀ : Around
  base : Heap
  h₀ : Heap
  outer : List Env
  nm : Str
  sc : Scope
  L : Addr
  fa : Option Addr
  cd : Value
  cl : List (Str × Addr)
  /-- the frame that stands: its own, or, for a comprehension's block, the one around -/
  frm : Addr
  inn : Bool
noncomputable abbrev Cx.env (c : Cx) : Env := { scope := c.sc, locals := c.L, globals := mainGlobals, cells := c.cl, qual := c.nm ++ ".<locals>.", func := c.fa, code := c.cd, frame := some c.frm, builtins := builtinsNs }
noncomputable abbrev Cx.fl (c : Cx) : List Env := if c.inn then c.outer else c.env :: c.outer
noncomputable abbrev Cx.fs (c : Cx) : List Addr := c.outer.filterMap (·.frame)
structure Cx.Ok (c : Cx) : Prop where
  B : Below c.A₀ c.base c.outer c.h₀
  X : c.D.K.In c.h₀
  T : Top c.D.p c.D.loose c.D.mean c.D.mg c.D.mb c.h₀
  fr : c.A.frames = some c.fl
  own : if c.inn then c.A₀ = c.A else c.frm = c.L
  ke : c.sc.kind = .function
  XB : c.D.K.In c.base
  TB : Top c.D.p c.D.loose c.D.mean c.D.mg c.D.mb c.base
  ds : KtsDicts c.fs c.h₀
noncomputable def Lc (e : Env) (x : Str) : Prop := e.kindOf x = some .local ∧ (x == ("__debug__" : Str)) = false
structure St where
  m : Str → Option V
  H : Hp
noncomputable abbrev St.up (σ : St) (x : Str) (v : V) : St := ⟨fun y => if y = x then some v else σ.m y, σ.H⟩
noncomputable abbrev St.set (σ : St) (a : Addr) (o : MO) : St := ⟨σ.m, σ.H.set a o⟩
structure Rel0 (c : Cx) (σ : St) (s : Shared) : Prop where
  ok : c.Ok
  loc : ∃ m, Fr c.h₀ c.L s.heap m ∧ ∀ x v, σ.m x = some v → Lc c.env x ∧ ∃ w, m x = some w ∧ VRel v w
  hp : RelH c.h₀ c.L σ.H s.heap
  g : s.gens = c.D.gens
  d : s.drawn = c.D.drawn
  o : s.os = c.D.os
theorem Rel0.tok {c : Cx} {σ : St} {s : Shared} (R : Rel0 c σ s) (n : Nat) : Rel0 c σ { s with toks := n } := ⟨R.ok, R.loc, R.hp, R.g, R.d, R.o⟩
theorem Rel0.fr {c : Cx} {σ : St} {s : Shared} (R : Rel0 c σ s) : ∃ m, Fr c.h₀ c.L s.heap m := let ⟨m, F, _⟩ := R.loc; ⟨m, F⟩
theorem Rel0.kin {c : Cx} {σ : St} {s : Shared} (R : Rel0 c σ s) : c.D.K.In s.heap := let ⟨_, F⟩ := R.fr; R.ok.X.keeps F.keep
theorem Rel0.top {c : Cx} {σ : St} {s : Shared} (R : Rel0 c σ s) : Top c.D.p c.D.loose c.D.mean c.D.mg c.D.mb s.heap := let ⟨_, F⟩ := R.fr; R.ok.T.keeps F.keep
theorem Rel0.grow {c : Cx} {σ : St} {s : Shared} (R : Rel0 c σ s) {h' : Heap} {tk : Nat} (k : ∀ b o, s.heap.get? b = some o → h'.get? b = some o) : Rel0 c σ { s with heap := h', toks := tk } :=
  ⟨R.ok, let ⟨n, F, l⟩ := R.loc; ⟨n, F.keeps k, l⟩, R.hp.grow k, R.g, R.d, R.o⟩
theorem h0_size {h₀ h : Heap} {L : Addr} {m : Str → Option Value} (F : Fr h₀ L h m) {n : Addr} (hn : h.objs.size ≤ n) : n ≠ L ∧ h₀.get? n = none := by
  refine ⟨fun e => absurd F.ns.lt (Nat.not_lt.mpr (e ▸ hn)), ?_⟩
  cases q : h₀.get? n with
  | none => rfl
  | some o => exact absurd (Heap.lt_size (F.keep _ _ q)) (Nat.not_lt.mpr hn)
theorem Rel0.non {c : Cx} {σ : St} {s : Shared} (R : Rel0 c σ s) {n : Addr} (hn : s.heap.objs.size ≤ n) : σ.H n = none := let ⟨_, x⟩ := R.hp; x.none_size hn
theorem Rel0.new {c : Cx} {σ : St} {s : Shared} (R : Rel0 c σ s) {h' : Heap} {tk : Nat} {n : Addr} {o : MO} (hn : s.heap.objs.size ≤ n) (k : ∀ b x, s.heap.get? b = some x → h'.get? b = some x) (m : ∀ d, MOAt h' d n o) (i : o.isInst = false) :
    Rel0 c (σ.set n o) { s with heap := h', toks := tk } := by
  obtain ⟨mm, F, l⟩ := R.loc
  obtain ⟨δ, x⟩ := R.hp
  have z := h0_size F hn
  exact ⟨R.ok, ⟨mm, F.keeps k, l⟩, ⟨δ, x.new hn (fun b y _ _ => k b y) m i z.1 z.2⟩, R.g, R.d, R.o⟩
theorem Rel0.newL {c : Cx} {σ : St} {s : Shared} (R : Rel0 c σ s) {h' : Heap} {tk : Nat} {n : Addr} {o : MO} {x : Obj} {m : Str → Option Value} (hn : s.heap.objs.size ≤ n) (l : ∀ x v, σ.m x = some v → Lc c.env x ∧ ∃ w, m x = some w ∧ VRel v w)
    (F' : Fr c.h₀ c.L h' m) (N' : News c.h₀ c.L h' ((n, x) :: ledg c.h₀ c.L s.heap)) (m' : h'.get? n = some x → ∀ d, MOAt h' d n o) (i : o.isInst = false) : Rel0 c (σ.set n o) { s with heap := h', toks := tk } := by
  obtain ⟨mm, F, _⟩ := R.loc
  obtain ⟨δ, D⟩ := R.hp
  have z := h0_size F hn
  exact ⟨R.ok, ⟨m, F', l⟩, ⟨δ, D.new hn (fun b y h1 h2 h3 => (N' (b, y) (.tail _ (ledg_mem.mpr ⟨h1, h2, h3⟩))).1) (m' (N' _ (.head _)).1) i z.1 z.2⟩, R.g, R.d, R.o⟩
theorem Rel0.put {c : Cx} {σ : St} {s : Shared} (R : Rel0 c σ s) {h' : Heap} {tk : Nat} {a : Addr} {o o' : MO} (e : σ.H a = some o) (hs : Heap.SameBut a s.heap h') (m : ∀ d, MOAt h' d a o') (i : o'.isInst = false) :
    Rel0 c (σ.set a o') { s with heap := h', toks := tk } := by
  obtain ⟨mm, F, l⟩ := R.loc
  obtain ⟨δ, x⟩ := R.hp
  have z := x.off a o e
  exact ⟨R.ok, ⟨mm, F.change hs z.1 z.2, l⟩, ⟨δ, x.put e (KeepBut.of hs) m i⟩, R.g, R.d, R.o⟩
theorem Rel0.up {c : Cx} {σ : St} {s : Shared} (R : Rel0 c σ s) {h' : Heap} {tk : Nat} {x : Str} {v : V} {w : Value} {m : Str → Option Value} (F : Fr c.h₀ c.L s.heap m) (l : ∀ x v, σ.m x = some v → Lc c.env x ∧ ∃ w, m x = some w ∧ VRel v w)
    (hk : Lc c.env x) (hv : VRel v w) (F' : Fr c.h₀ c.L h' (fun y => if y = x then some w else m y)) (hs : Heap.SameBut c.L s.heap h') : Rel0 c (σ.up x v) { s with heap := h', toks := tk } := by
  refine ⟨R.ok, ⟨_, F', fun y u e => ?_⟩, R.hp.frame hs, R.g, R.d, R.o⟩
  show _ ∧ ∃ w', (if y = x then some w else m y) = some w' ∧ _
  have e' : (if y = x then some v else σ.m y) = some u := e
  by_cases q : y = x
  · subst q
    rw [if_pos rfl] at e' ⊢
    cases e'
    exact ⟨hk, w, rfl, hv⟩
  · rw [if_neg q] at e' ⊢
    exact l y u e'

theorem Rel0.del {c : Cx} {σ : St} {s : Shared} (R : Rel0 c σ s) {h' : Heap} {tk : Nat} {a : Addr} {o : MO} (e : σ.H a = some o) (he : Heap.ExtBut a s.heap h') : Rel0 c ⟨σ.m, σ.H.del a⟩ { s with heap := h', toks := tk } := by
  obtain ⟨mm, F, l⟩ := R.loc
  obtain ⟨δ, D⟩ := R.hp
  have z := D.off a o e
  refine ⟨R.ok, ⟨mm, ⟨F.ns.extBut he (Ne.symm z.1), fun b y q => he b y (fun w => by rw [w, z.2] at q; cases q) (F.keep b y q), F.above⟩, l⟩, ⟨δ, (D.le (Hp.del_le _ a)).other (fun b y h1 _ _ q => he b y h1 q) (if_pos rfl) fun b y q i => ?_⟩, R.g, R.d, R.o⟩
  have q' := Hp.del_le _ _ _ _ q
  exact (D.doff b y q' i).2.2 a o e

noncomputable def Cx.at (c : Cx) (g : Heap) : Cx := { c with h₀ := g }
noncomputable def Rel (c : Cx) (σ : St) (s : Shared) : Prop := ∃ g, KtsTurn c.fs c.h₀ g ∧ Rel0 (c.at g) σ s
theorem Rel0.rel {c : Cx} {σ : St} {s : Shared} (R : Rel0 c σ s) : Rel c σ s := ⟨c.h₀, KtsTurn.refl, R⟩
section
variable {c : Cx} {σ : St} {s : Shared}
theorem Rel.tok (R : Rel c σ s) (n : Nat) : Rel c σ { s with toks := n } := let ⟨g, T, R⟩ := R; ⟨g, T, R.tok n⟩
theorem Rel.fr (R : Rel c σ s) : ∃ g m, Fr g c.L s.heap m := let ⟨g, T, R⟩ := R; let ⟨m, F⟩ := R.fr; ⟨g, m, F⟩
theorem Rel.kin (R : Rel c σ s) : c.D.K.In s.heap := let ⟨g, T, R⟩ := R; R.kin
theorem Rel.top (R : Rel c σ s) : Top c.D.p c.D.loose c.D.mean c.D.mg c.D.mb s.heap := let ⟨g, T, R⟩ := R; R.top
theorem Rel.ke (R : Rel c σ s) : c.sc.kind = .function := let ⟨g, T, R⟩ := R; R.ok.ke
theorem Rel.grow (R : Rel c σ s) {h' : Heap} {tk : Nat} (k : ∀ b o, s.heap.get? b = some o → h'.get? b = some o) : Rel c σ { s with heap := h', toks := tk } := let ⟨g, T, R⟩ := R; ⟨g, T, R.grow k⟩
theorem Rel.non (R : Rel c σ s) {n : Addr} (hn : s.heap.objs.size ≤ n) : σ.H n = none := let ⟨g, T, R⟩ := R; R.non hn
theorem Rel.new (R : Rel c σ s) {h' : Heap} {tk : Nat} {n : Addr} {o : MO} (hn : s.heap.objs.size ≤ n) (k : ∀ b x, s.heap.get? b = some x → h'.get? b = some x) (m : ∀ d, MOAt h' d n o) (i : o.isInst = false) :
    Rel c (σ.set n o) { s with heap := h', toks := tk } := let ⟨g, T, R⟩ := R; ⟨g, T, R.new hn k m i⟩
theorem Rel.put (R : Rel c σ s) {h' : Heap} {tk : Nat} {a : Addr} {o o' : MO} (e : σ.H a = some o) (hs : Heap.SameBut a s.heap h') (m : ∀ d, MOAt h' d a o') (i : o'.isInst = false) :
    Rel c (σ.set a o') { s with heap := h', toks := tk } := let ⟨g, T, R⟩ := R; ⟨g, T, R.put e hs m i⟩
theorem Rel.del (R : Rel c σ s) {h' : Heap} {tk : Nat} {a : Addr} {o : MO} (e : σ.H a = some o) (he : Heap.ExtBut a s.heap h') : Rel c ⟨σ.m, σ.H.del a⟩ { s with heap := h', toks := tk } := let ⟨g, T, R⟩ := R; ⟨g, T, R.del e he⟩
theorem Rel.hp (R : Rel c σ s) : ∃ g δ, RelD g c.L δ σ.H s.heap := let ⟨g, T, R⟩ := R; let ⟨δ, D⟩ := R.hp; ⟨g, δ, D⟩
theorem Rel.loc (R : Rel c σ s) : ∃ g m, Fr g c.L s.heap m ∧ ∀ x v, σ.m x = some v → Lc c.env x ∧ ∃ w, m x = some w ∧ VRel v w := let ⟨g, T, R⟩ := R; let ⟨m, F, l⟩ := R.loc; ⟨g, m, F, l⟩
end

noncomputable def Cx.W (c : Cx) (E : Value → Shared → Prop) {α β : Type} (r : β → α → Prop) (t : Sem α) (Q : β → St → Prop) (σ : St) : Prop :=
  ∀ s, Rel c σ s → wpAny (model c.D.prog c.D.w) c.A t (fun a s' => ∃ b σ', r b a ∧ Rel c σ' s' ∧ Q b σ') E s
noncomputable abbrev OnE {α : Type} (a b : α) : Prop := b = a
section
variable {c : Cx} {E : Value → Shared → Prop} {α β γ ε : Type} {r : β → α → Prop} {r' : ε → γ → Prop} {σ : St}
theorem Cx.W.mono {t : Sem α} {Q Q' : β → St → Prop} (h : c.W E r t Q σ) (k : ∀ b σ', Q b σ' → Q' b σ') : c.W E r t Q' σ :=
  fun s R => wpAny_mono (h s R) (fun _ _ ⟨b, σ', x, y, z⟩ => ⟨b, σ', x, y, k b σ' z⟩) fun _ _ e => e
end
end Rk

end
section
set_option tactic.hygienic false
namespace Rk
noncomputable abbrev Nope : Value → Shared → Prop := fun _ _ => False
section
variable {c : Cx} {E : Value → Shared → Prop} {σ : St} {α β : Type} {r : β → α → Prop}
theorem Cx.W.any {t : Sem α} {Q : β → St → Prop} (h : c.W Nope r t Q σ) : c.W E r t Q σ := fun s R => wpAny_mono (h s R) (fun _ _ x => x) fun _ _ x => x.elim

noncomputable def notStar : Expr → Bool
  | .Starred .. => false
  | _ => true
theorem starEach_not {e : Expr} {rest : List Expr} {env : Env} (h : notStar e = true) : starEach (e :: rest) env = (false, eval e env) :: starEach rest env := by
  cases e <;> first | rfl | cases h
noncomputable def noStar (es : List Expr) : Bool := es.all notStar
theorem noStar_any {pos : Pos} {env : Env} : ∀ {es : List Expr}, noStar es = true → (backTo pos (starEach es env)).any (·.1) = false
  | [], _ => rfl
  | e :: r, h => by
    have := Bool.and_eq_true_iff.mp (show (notStar e && r.all notStar) = true from h)
    rw [starEach_not this.1]
    show (false || (backTo pos (starEach r env)).any (·.1)) = false
    rw [Bool.false_or]
    exact noStar_any this.2
theorem noStar_head {env : Env} {es : List Expr} (h : noStar es = true) : es = [] ∨ ∃ e rest, es = e :: rest ∧ starEach (e :: rest) env = (false, eval e env) :: starEach rest env := by
  cases es with
  | nil => exact .inl rfl
  | cons e r => exact .inr ⟨e, r, rfl, starEach_not (Bool.and_eq_true_iff.mp (show (notStar e && r.all notStar) = true from h)).1⟩
noncomputable def notCall : Expr → Bool
  | .Call (.Name ..) _ _ _ => false
  | _ => true
theorem base_not {o : Expr} {attr : Str} {env : Env} {whole : Sem Value} (h : notCall o = true) : attributeBase o attr env whole = whole := by
  cases o with
  | Call f _ _ _ => cases f <;> first | rfl | cases h
  | _ => first | rfl | cases h
noncomputable def Cx.Bin (c : Cx) (E : Value → Shared → Prop) (op : Operator) (a b : V) (Q : V → St → Prop) (σ : St) : Prop := ∀ x y, VRel a x → VRel b y → c.W E VRel (binaryOp op x y) Q σ
noncomputable def Cx.Aug (c : Cx) (E : Value → Shared → Prop) (op : Operator) (a b : V) (Q : V → St → Prop) (σ : St) : Prop := ∀ x y, VRel a x → VRel b y → c.W E VRel (inplaceOp op x y) Q σ
noncomputable def Cx.Cmp (c : Cx) (E : Value → Shared → Prop) (op : CmpOp) (a b : V) (Q : V → St → Prop) (σ : St) : Prop := ∀ x y, VRel a x → VRel b y → c.W E VRel (compareOp op x y) Q σ
noncomputable def Cx.Tru (c : Cx) (E : Value → Shared → Prop) (a : V) (Q : Bool → St → Prop) (σ : St) : Prop := ∀ x, VRel a x → c.W E OnE (truthy x) Q σ
noncomputable def Cx.Una (c : Cx) (E : Value → Shared → Prop) (op : UnaryOp) (a : V) (Q : V → St → Prop) (σ : St) : Prop := ∀ x, VRel a x → c.W E VRel (unaryOp op x) Q σ
noncomputable def Cx.Get (c : Cx) (E : Value → Shared → Prop) (a : V) (n : Str) (Q : V → St → Prop) (σ : St) : Prop := ∀ x, VRel a x → c.W E VRel (getAttr x n true) Q σ
noncomputable def Cx.Put (c : Cx) (E : Value → Shared → Prop) (a : V) (n : Str) (b : V) (Q : Unit → St → Prop) (σ : St) : Prop := ∀ x y, VRel a x → VRel b y → c.W E OnE (setAttr x n y) Q σ
noncomputable def Cx.Call (c : Cx) (E : Value → Shared → Prop) (f : Value) (as : List V) (Q : V → St → Prop) (σ : St) : Prop := ∀ xs, VsRel as xs → c.W E VRel (call f xs) Q σ
noncomputable def Cx.Seti (c : Cx) (E : Value → Shared → Prop) (a i b : V) (Q : Unit → St → Prop) (σ : St) : Prop := ∀ x y z, VRel a x → VRel i y → VRel b z → c.W E OnE (setItem x y z) Q σ
noncomputable def Cx.Store (c : Cx) (E : Value → Shared → Prop) (n : Str) (b : V) (Q : Unit → St → Prop) (σ : St) : Prop := ∀ y, VRel b y → c.W E OnE (storeName c.env n y) Q σ
inductive Fl where
  | next | brk | cont | ret (v : V)
noncomputable def FRel : Fl → Flow → Prop
  | .next, f => f = .next
  | .brk, f => f = .brk
  | .cont, f => f = .cont
  | .ret v, f => ∃ w, f = .ret w ∧ VRel v w
noncomputable abbrev Cx.Ev (c : Cx) (X : Value → Shared → Prop) (e : Expr) (Q : V → St → Prop) (σ : St) : Prop := c.W X VRel (eval e c.env) Q σ
noncomputable abbrev Cx.Es (c : Cx) (X : Value → Shared → Prop) (pos : Pos) (es : List Expr) (Q : List V → St → Prop) (σ : St) : Prop := c.W X VsRel (spliced (backTo pos (starEach es c.env))) Q σ
noncomputable abbrev Cx.Te (c : Cx) (X : Value → Shared → Prop) (e : Expr) (Q : Bool → St → Prop) (σ : St) : Prop := c.W X OnE (isTrue e c.env (eval e c.env)) Q σ
noncomputable abbrev Cx.All (c : Cx) (X : Value → Shared → Prop) (op : BoolOp) (es : List Expr) (Q : Bool → St → Prop) (σ : St) : Prop := c.W X OnE (allTrue op es c.env) Q σ
noncomputable abbrev Cx.S (c : Cx) (X : Value → Shared → Prop) (s : Stmt) (Q : Fl → St → Prop) (σ : St) : Prop := c.W X FRel (exec s c.env) Q σ
noncomputable abbrev Cx.Ss (c : Cx) (X : Value → Shared → Prop) (ss : List Stmt) (Q : Fl → St → Prop) (σ : St) : Prop := c.W X FRel (execs ss c.env) Q σ

variable {Q : V → St → Prop}
theorem w_none {k pos} (h : Q .none σ) : c.Ev E (.Constant .none k pos) Q σ := fun _ R => wpAny_Constant_none ⟨.none, σ, rfl, R, h⟩
theorem w_bool {b k pos} (h : Q (.bool b) σ) : c.Ev E (.Constant (.bool b) k pos) Q σ := fun _ R => wpAny_Constant_bool ⟨.bool b, σ, rfl, R, h⟩
theorem w_int {i k pos} (h : Q (.int i) σ) : c.Ev E (.Constant (.int i) k pos) Q σ := fun _ R => wpAny_Constant_int ⟨.int i, _, ⟨_, rfl⟩, R.tok _, h⟩
theorem w_str {x k pos} (h : Q (.str x) σ) : c.Ev E (.Constant (.str x) k pos) Q σ := fun _ R => wpAny_Constant_str ⟨.str x, _, ⟨_, rfl⟩, R.tok _, h⟩
theorem w_bytes {x k pos} (h : Q (.bytes x.toArray) σ) : c.Ev E (.Constant (.bytes x) k pos) Q σ := fun _ R _ _ _ => ⟨.bytes x.toArray, _, ⟨_, rfl⟩, R.tok _, h⟩
theorem w_local {x : Str} {pos} {v : V} (e : σ.m x = some v) (h : Q v σ) : c.Ev E (.Name x pos) Q σ := fun s R => by
  obtain ⟨g, m, F, l⟩ := R.loc
  obtain ⟨⟨hk, hd⟩, w, hm, hv⟩ := l x v e
  exact wpAny_Name (wpAny_loadName_local (env := c.env) R.ke hk F.ns hm ⟨v, σ, hv, R, h⟩) hd
theorem w_glob {x : Str} {pos} {u : Value} {v : V} (e : nsIn c.D.K mainGlobals x = some (some u)) (hv : VRel v u) (hk : c.env.kindOf x = some .globalImplicit) (h : Q v σ) (hd : (x == ("__debug__" : Str)) = false := by decide) : c.Ev E (.Name x pos) Q σ := fun s R => by
  exact Name_function_global R.ke hk (loadGlobal_global (env := c.env) (R.top.g) (mg_of R.kin R.top.g e) ⟨v, σ, hv, R, h⟩) hd
theorem w_blt {x : Str} {pos} {u : Value} (e : nsIn c.D.K mainGlobals x = some none) (hv : bootBuiltins x = some u) (hn : x ≠ "__name__") (hk : c.env.kindOf x = some .globalImplicit) (h : Q (.raw u) σ) (hd : (x == ("__debug__" : Str)) = false := by decide) : c.Ev E (.Name x pos) Q σ := fun s R => by
  exact Name_function_global R.ke hk (loadGlobal_builtin (env := c.env) R.top.g (mg_none_of R.kin R.top.g e) R.top.b ((R.top.builtins x hn).trans hv) ⟨.raw u, σ, rfl, R, h⟩) hd
theorem w_cell {x : Str} {pos} {a : Addr} {v : V} (hc : c.cl.lookup x = some a) (e : σ.H a = some (.cell (some v))) (hk : c.env.kindOf x = some .cell) (h : Q v σ) (hd : (x == ("__debug__" : Str)) = false := by decide) : c.Ev E (.Name x pos) Q σ := fun s R => by
  obtain ⟨g, δ, D⟩ := R.hp
  obtain ⟨o, ow, ho, hd', w, rfl, hv⟩ := D.at_ a _ e
  exact wpAny_Name (wpAny_loadName_cell R.ke hk hc ⟨o, ho, hd'⟩ ⟨v, σ, hv, R, h⟩) hd
theorem w_bin {l op r pos} (h : c.Ev E l (fun a σ₁ => c.Ev E r (fun b σ₂ => c.Bin E op a b Q σ₂) σ₁) σ) : c.Ev E (.BinOp l op r pos) Q σ :=
  fun s R => wpAny_BinOp (wpAny_mono (h s R) (fun x s₁ ⟨_, _, hx, R₁, h₁⟩ => wpAny_mono (h₁ s₁ R₁) (fun y s₂ ⟨_, _, hy, R₂, h₂⟩ => h₂ x y hx hy s₂ R₂) fun _ _ e => e) fun _ _ e => e)
theorem w_cmp {l op r pos} (h : c.Ev E l (fun a σ₁ => c.Ev E r (fun b σ₂ => c.Cmp E op a b Q σ₂) σ₁) σ) (hm : behindInMarks op r = false := by with_unfolding_all rfl) : c.Ev E (.Compare l [op] [r] pos) Q σ :=
  fun s R => wpAny_Compare1 (wpAny_mono (h s R) (fun x s₁ ⟨_, _, hx, R₁, h₁⟩ => wpAny_mono (h₁ s₁ R₁) (fun y s₂ ⟨_, _, hy, R₂, h₂⟩ => h₂ x y hx hy s₂ R₂) fun _ _ e => e) fun _ _ e => e) hm
theorem w_una {op x pos} (h : c.Ev E x (fun a σ₁ => c.Una E op a Q σ₁) σ) : c.Ev E (.UnaryOp op x pos) Q σ :=
  fun s R => wpAny_UnaryOp (wpAny_mono (h s R) (fun x s₁ ⟨_, _, hx, R₁, h₁⟩ => h₁ x hx s₁ R₁) fun _ _ e => e)
theorem w_and2 {x y pos} (h : c.Ev E x (fun a σ₁ => c.Tru E a (fun b σ₂ => if b then c.Ev E y Q σ₂ else Q a σ₂) σ₁) σ) : c.Ev E (.BoolOp .And [x, y] pos) Q σ :=
  fun s R => wpAny_And2 (wpAny_mono (h s R) (fun x s₁ ⟨a, _, hx, R₁, h₁⟩ => wpAny_mono (h₁ x hx s₁ R₁) (fun b s₂ ⟨b', σ₂, hb, R₂, h₂⟩ => by
    cases hb
    cases b with
    | true => rw [if_pos rfl] at h₂ ⊢; exact h₂ s₂ R₂
    | false => rw [if_neg (by decide)] at h₂ ⊢; exact ⟨a, σ₂, hx, R₂, h₂⟩) fun _ _ e => e) fun _ _ e => e)
theorem w_es_nil {pos} {Q : List V → St → Prop} (h : Q [] σ) : c.Es E pos [] Q σ := fun _ R => wpAny_items_nil ⟨[], σ, trivial, R, h⟩
theorem w_es_cons {pos e rest} {Q : List V → St → Prop} (h : c.Ev E e (fun v σ₁ => c.Es E pos rest (fun vs σ₂ => Q (v :: vs) σ₂) σ₁) σ) (he : notStar e = true := by with_unfolding_all rfl) : c.Es E pos (e :: rest) Q σ :=
  fun s R => wpAny_items_cons (wpAny_mono (h s R) (fun x s₁ ⟨v, _, hx, R₁, h₁⟩ => wpAny_mono (h₁ s₁ R₁) (fun y s₂ ⟨vs, σ₂, hy, R₂, h₂⟩ => ⟨v :: vs, σ₂, ⟨hx, hy⟩, R₂, h₂⟩) fun _ _ e => e) fun _ _ e => e) (starEach_not he)
theorem w_tuple {elts k pos} (h : c.Es E pos elts (fun vs σ₁ => vs.length ≤ 1000 ∧ ∀ n, σ₁.H n = none → Q (.ref n) (σ₁.set n (.tup vs))) σ) : c.Ev E (.Tuple elts k pos) Q σ :=
  fun s R => wpAny_Tuple (wpAny_mono (h s R) (fun xs s₁ ⟨vs, σ₁, hx, R₁, hl, h₁⟩ =>
    ⟨by rw [hx.length]; have := sizeLine_eq; (first | lia | omega), .ref s₁.heap.objs.size, σ₁.set s₁.heap.objs.size (.tup vs), rfl, R₁.new (tk := s₁.toks) (Nat.le_refl _) (fun b x e => Heap.get?_push_of_some _ e) (fun d => (show ∃ ws n, _ ∧ _ from ⟨xs.toArray, 0, Heap.get?_push_size _ rfl, by simpa using hx⟩)) rfl, h₁ _ (R₁.non (Nat.le_refl _))⟩) fun _ _ e => e)
theorem w_list {elts pos} (h : c.Es E pos elts (fun vs σ₁ => vs.length ≤ 1000 ∧ ∀ n, σ₁.H n = none → Q (.ref n) (σ₁.set n (.list vs))) σ) : c.Ev E (.List elts pos) Q σ :=
  fun s R => wpAny_List (wpAny_mono (h s R) (fun xs s₁ ⟨vs, σ₁, hx, R₁, hl, h₁⟩ =>
    ⟨by rw [hx.length]; have := sizeLine_eq; (first | lia | omega), .ref s₁.heap.objs.size, σ₁.set s₁.heap.objs.size (.list vs), rfl, R₁.new (tk := s₁.toks) (Nat.le_refl _) (fun b x e => Heap.get?_push_of_some _ e) (fun d => (show ∃ ws n, _ ∧ _ from ⟨xs.toArray, 0, Heap.get?_push_size _ rfl, by simpa using hx⟩)) rfl, h₁ _ (R₁.non (Nat.le_refl _))⟩) fun _ _ e => e)

variable {P : Bool → St → Prop}
theorem t_not {x pos} (h : c.Te E x (fun b σ₁ => P (!b) σ₁) σ) : c.Te E (.UnaryOp .Not x pos) P σ :=
  fun s R => wpAny_isTrue_Not (wpAny_mono (h s R) (fun b s₁ ⟨b', σ₁, hb, R₁, h₁⟩ => by cases hb; exact ⟨_, σ₁, rfl, R₁, h₁⟩) fun _ _ e => e)
theorem t_cmp {l op r pos} (h : c.Ev E l (fun a σ₁ => c.Ev E r (fun b σ₂ => c.Cmp E op a b (fun v σ₃ => c.Tru E v P σ₃) σ₂) σ₁) σ) (hm : behindInMarks op r = false := by with_unfolding_all rfl) : c.Te E (.Compare l [op] [r] pos) P σ :=
  fun s R => wpAny_isTrue_Compare1 (wpAny_mono (h s R) (fun x s₁ ⟨_, _, hx, R₁, h₁⟩ => wpAny_mono (h₁ s₁ R₁) (fun y s₂ ⟨_, _, hy, R₂, h₂⟩ => wpAny_mono (h₂ x y hx hy s₂ R₂) (fun z s₃ ⟨_, _, hz, R₃, h₃⟩ => h₃ z hz s₃ R₃) fun _ _ e => e) fun _ _ e => e) fun _ _ e => e) hm
noncomputable def plainTest : Expr → Bool
  | .UnaryOp .. | .BoolOp .. | .IfExp .. | .Compare .. => false
  | _ => true
theorem test_not {e : Expr} {env : Env} {whole : Sem Value} (h : plainTest e = true) : isTrue e env whole = (do let v ← whole; standAt e.pos; holding [v] (truthy v)) := by
  cases e <;> first | rfl | cases h
theorem t_val {e : Expr} (h : c.Ev E e (fun v σ₁ => c.Tru E v P σ₁) σ) (he : plainTest e = true := by with_unfolding_all rfl) : c.Te E e P σ :=
  fun s R => wpAny_isTrue_value (wpAny_mono (h s R) (fun x s₁ ⟨_, _, hx, R₁, h₁⟩ => h₁ x hx s₁ R₁) fun _ _ e => e) (test_not he)
theorem t_bool {op values pos} (h : c.All E op values P σ) : c.Te E (.BoolOp op values pos) P σ := fun s R => wpAny_isTrue_BoolOp (h s R)
theorem a_and_nil (h : P true σ) : c.All E .And [] P σ := fun _ R => wpAny_allTrue_And_nil ⟨_, σ, rfl, R, h⟩
theorem a_or_nil (h : P false σ) : c.All E .Or [] P σ := fun _ R => wpAny_allTrue_Or_nil ⟨_, σ, rfl, R, h⟩
theorem a_and {x rest} (h : c.Te E x (fun b σ₁ => if b then c.All E .And rest P σ₁ else P false σ₁) σ) : c.All E .And (x :: rest) P σ :=
  fun s R => wpAny_allTrue_And_cons (wpAny_mono (h s R) (fun b s₁ ⟨b', σ₁, hb, R₁, h₁⟩ => by
    cases hb
    cases b with
    | true => rw [if_pos rfl] at h₁ ⊢; exact h₁ s₁ R₁
    | false => rw [if_neg (by decide)] at h₁ ⊢; exact ⟨_, σ₁, rfl, R₁, h₁⟩) fun _ _ e => e)
theorem a_or {x rest} (h : c.Te E x (fun b σ₁ => if b then P true σ₁ else c.All E .Or rest P σ₁) σ) : c.All E .Or (x :: rest) P σ :=
  fun s R => wpAny_allTrue_Or_cons (wpAny_mono (h s R) (fun b s₁ ⟨b', σ₁, hb, R₁, h₁⟩ => by
    cases hb
    cases b with
    | true => rw [if_pos rfl] at h₁ ⊢; exact ⟨_, σ₁, rfl, R₁, h₁⟩
    | false => rw [if_neg (by decide)] at h₁ ⊢; exact h₁ s₁ R₁) fun _ _ e => e)

variable {U : Fl → St → Prop}
theorem s_nil (h : U .next σ) : c.Ss E [] U σ := fun _ R => wpAny_execs_nil ⟨.next, σ, rfl, R, h⟩
noncomputable def Cx.Then (c : Cx) (E : Value → Shared → Prop) (rest : List Stmt) (U : Fl → St → Prop) : Fl → St → Prop
  | .next, σ => c.Ss E rest U σ
  | f, σ => U f σ
theorem th_next {rest} (h : c.Ss E rest U σ) : c.Then E rest U .next σ := h
theorem th_ret {rest} {v : V} (h : U (.ret v) σ) : c.Then E rest U (.ret v) σ := h
theorem s_cons {st rest} (h : c.S E st (c.Then E rest U) σ) : c.Ss E (st :: rest) U σ :=
  fun s R => wpAny_execs_cons (wpAny_mono (h s R) (fun f s₁ ⟨f', σ₁, hf, R₁, h₁⟩ => by
    cases f' with
    | next => cases hf; exact h₁ s₁ R₁
    | brk => cases hf; exact ⟨.brk, σ₁, rfl, R₁, h₁⟩
    | cont => cases hf; exact ⟨.cont, σ₁, rfl, R₁, h₁⟩
    | ret v => obtain ⟨w, rfl, hw⟩ := hf; exact ⟨.ret v, σ₁, ⟨w, rfl, hw⟩, R₁, h₁⟩) fun _ _ e => e)
theorem s_one {st} (h : c.S E st U σ) : c.Ss E [st] U σ := s_cons (h.mono fun f σ' x => by cases f <;> first | exact s_nil x | exact x)
theorem s_if {test body orelse pos} (h : c.Te E test (fun b σ₁ => if b then c.Ss E body U σ₁ else c.Ss E orelse U σ₁) σ) : c.S E (.If test body orelse pos) U σ :=
  fun s R => wpAny_If (wpAny_mono (h s R) (fun b s₁ ⟨b', σ₁, hb, R₁, h₁⟩ => by
    cases hb
    cases b with
    | true => rw [if_pos rfl] at h₁ ⊢; exact h₁ s₁ R₁
    | false => rw [if_neg (by decide)] at h₁ ⊢; exact h₁ s₁ R₁) fun _ _ e => e)
theorem s_ret {e pos} (h : c.Ev E e (fun v σ₁ => U (.ret v) σ₁) σ) : c.S E (.Return (some e) pos) U σ :=
  fun s R => wpAny_Return_some (wpAny_mono (h s R) (fun x s₁ ⟨v, σ₁, hx, R₁, h₁⟩ => ⟨.ret v, σ₁, ⟨x, rfl, hx⟩, R₁, h₁⟩) fun _ _ e => e)
theorem s_ret0 {pos} (h : U (.ret .none) σ) : c.S E (.Return none pos) U σ := fun _ R => wpAny_Return_none ⟨.ret .none, σ, ⟨_, rfl, rfl⟩, R, h⟩
noncomputable def notComp : Expr → Bool
  | .ListComp .. | .SetComp .. | .DictComp .. => false
  | _ => true
theorem swaps_not {e : Expr} {t : Option Expr} {n : Nat} {env : Env} (h : notComp e = true) : swapsWith e t n env = pure false := by
  cases e <;> first | rfl | cases h
theorem s_expr {e pos} (h : c.Ev E e (fun v σ₁ => (∀ a, v ≠ .ref a) ∧ (∀ w, v ≠ .raw w) ∧ U .next σ₁) σ) (hs : notComp e = true := by with_unfolding_all rfl) : c.S E (.Expr e pos) U σ :=
  fun s R => wpAny_Expr (wpAny_mono (h s R) (fun x s₁ ⟨v, σ₁, hx, R₁, h₁, h₂, h₃⟩ => by
    cases v with
    | none => cases hx; exact ⟨.next, σ₁, rfl, R₁, h₃⟩
    | bool b => cases hx; exact ⟨.next, σ₁, rfl, R₁, h₃⟩
    | int i => obtain ⟨t, rfl⟩ := hx; exact ⟨.next, σ₁, rfl, R₁, h₃⟩
    | str i => obtain ⟨t, rfl⟩ := hx; exact ⟨.next, σ₁, rfl, R₁, h₃⟩
    | bytes i => obtain ⟨t, rfl⟩ := hx; exact ⟨.next, σ₁, rfl, R₁, h₃⟩
    | ref a => exact absurd rfl (h₁ a)
    | raw w => exact absurd rfl (h₂ w)) fun _ _ e => e) (by show (c.sc.kind == .module && _) = false; rw [R.ke]; rfl) (swaps_not hs)
theorem s_assign {x p' value pos} (h : c.Ev E value (fun v σ₁ => c.Store E x v (fun _ σ₂ => U .next σ₂) σ₁) σ) (hs : notComp value = true := by with_unfolding_all rfl) : c.S E (.Assign [.Name x p'] value pos) U σ :=
  fun s R => wpAny_Assign_Name (wpAny_mono (h s R) (fun x s₁ ⟨_, _, hx, R₁, h₁⟩ => wpAny_mono (h₁ x hx s₁ R₁) (fun _ s₂ ⟨_, σ₂, _, R₂, h₂⟩ => ⟨.next, σ₂, rfl, R₂, h₂⟩) fun _ _ e => e) fun _ _ e => e) (swaps_not hs)
theorem s_assignA {o attr p' value pos} (h : c.Ev E value (fun v σ₁ => c.Ev E o (fun a σ₂ => c.Put E a attr v (fun _ σ₃ => U .next σ₃) σ₂) σ₁) σ) (hs : notComp value = true := by with_unfolding_all rfl) : c.S E (.Assign [.Attribute o attr p'] value pos) U σ :=
  fun s R => plainObj_wpAny_Assign_Attribute (wpAny_mono (h s R) (fun x s₁ ⟨_, _, hx, R₁, h₁⟩ => wpAny_mono (h₁ s₁ R₁) (fun y s₂ ⟨_, _, hy, R₂, h₂⟩ => wpAny_mono (h₂ y x hy hx s₂ R₂) (fun _ s₃ ⟨_, σ₃, _, R₃, h₃⟩ => ⟨.next, σ₃, rfl, R₃, h₃⟩) fun _ _ e => e) fun _ _ e => e) fun _ _ e => e) (swaps_not hs)
theorem s_aug {x p' op value pos} {v : V} (e : σ.m x = some v) (h : c.Ev E value (fun b σ₁ => c.Aug E op v b (fun r σ₂ => c.Store E x r (fun _ σ₃ => U .next σ₃) σ₂) σ₁) σ) : c.S E (.AugAssign (.Name x p') op value pos) U σ := fun s R => by
  obtain ⟨g, m, F, l⟩ := R.loc
  obtain ⟨⟨hk, _⟩, w, hm, hv⟩ := l x v e
  refine wpAny_AugAssign_Name (wpAny_loadName_local (env := c.env) R.ke hk F.ns hm ?_)
  exact wpAny_mono (h s R) (fun x s₁ ⟨_, _, hx, R₁, h₁⟩ => wpAny_mono (h₁ w x hv hx s₁ R₁) (fun y s₂ ⟨_, _, hy, R₂, h₂⟩ => wpAny_mono (h₂ y hy s₂ R₂) (fun _ s₃ ⟨_, σ₃, _, R₃, h₃⟩ => ⟨.next, σ₃, rfl, R₃, h₃⟩) fun _ _ e => e) fun _ _ e => e) fun _ _ e => e

variable {N : Unit → St → Prop}
theorem st_local {x : Str} {v : V} (hk : Lc c.env x) (h : N () (σ.up x v)) : c.Store E x v N σ := fun y hy s R => by
  obtain ⟨g, T, R⟩ := R
  obtain ⟨m, F, l⟩ := R.loc
  refine wpAny_storeName_local (env := c.env) hk.1 F.ns (fun h' hn hs => ⟨(), _, rfl, ⟨g, T, R.up F l hk hy (F.set hn hs) hs⟩, h⟩) ?_
  show (c.sc.kind == .class || (c.sc.kind == .module && c.L != mainGlobals)) = false
  rw [show c.sc.kind = .function from R.ok.ke]; rfl
theorem st_cell {x : Str} {a : Addr} {v : V} {o : Option V} (hk : c.env.kindOf x = some .cell) (hc : c.cl.lookup x = some a) (e : σ.H a = some (.cell o)) (h : N () (σ.set a (.cell (some v)))) : c.Store E x v N σ := fun y hy s R => by
  obtain ⟨g, δ, D⟩ := R.hp
  obtain ⟨ob, ow, ho, hd', _⟩ := D.at_ a _ e
  refine wpAny_storeName_cell (env := c.env) R.ke hk hc ⟨ob, ho, hd'⟩ fun h' hi hs => ⟨(), _, rfl, R.put (tk := s.toks) e hs (fun d => ?_) rfl, h⟩
  obtain ⟨o', h1, h2⟩ := hi
  exact ⟨o', some y, h1, h2, y, rfl, hy⟩

theorem b_add {i j : Int} (h : Q (.int (i + j)) σ) : c.Bin E .Add (.int i) (.int j) Q σ := by rintro _ _ ⟨t, rfl⟩ ⟨u, rfl⟩ s R; exact PyProof.Rows.add_int ⟨.int _, σ, ⟨_, rfl⟩, R.tok _, h⟩
theorem b_sub {i j : Int} (h : Q (.int (i - j)) σ) : c.Bin E .Sub (.int i) (.int j) Q σ := by rintro _ _ ⟨t, rfl⟩ ⟨u, rfl⟩ s R; exact PyProof.Rows.sub_int ⟨.int _, σ, ⟨_, rfl⟩, R.tok _, h⟩
theorem b_mod {i j : Int} (hj : j ≠ 0) (h : Q (.int (i.fmod j)) σ) : c.Bin E .Mod (.int i) (.int j) Q σ := by rintro _ _ ⟨t, rfl⟩ ⟨u, rfl⟩ s R; exact PyProof.Rows.mod_int' hj ⟨.int _, σ, ⟨_, rfl⟩, R.tok _, h⟩
theorem b_div {i j : Int} (hj : 0 < j ∧ j < 1073741824) (h : Q (.int (i.fdiv j)) σ) : c.Bin E .FloorDiv (.int i) (.int j) Q σ := by rintro _ _ ⟨t, rfl⟩ ⟨u, rfl⟩ s R; exact PyProof.Rows.floordiv_int (by (first | lia | omega)) ⟨.int _, σ, ⟨_, rfl⟩, R.tok _, h⟩ (.inl (PyProof.noPylong_small (by (first | lia | omega))))
theorem b_mul {i j : Int} (hm : IntMulOk i j) (h : Q (.int (i * j)) σ) : c.Bin E .Mult (.int i) (.int j) Q σ := by rintro _ _ ⟨t, rfl⟩ ⟨u, rfl⟩ s R; exact PyProof.Rows.mul_int ⟨.int _, σ, ⟨_, rfl⟩, R.tok _, h⟩ hm
theorem n_not {b : Bool} (h : Q (.bool (!b)) σ) : c.Una E .Not (.bool b) Q σ := by rintro _ rfl s R; exact not_value (wpAny_truthy_bool ⟨.bool _, σ, rfl, R, h⟩)
theorem n_neg {i : Int} (h : Q (.int (-i)) σ) : c.Una E .USub (.int i) Q σ := by rintro _ ⟨t, rfl⟩ s R; exact PyProof.Rows.neg_int ⟨.int _, σ, ⟨_, rfl⟩, R.tok _, h⟩
theorem tr_bool {b : Bool} (h : P b σ) : c.Tru E (.bool b) P σ := by rintro _ rfl s R; exact wpAny_truthy_bool ⟨b, σ, rfl, R, h⟩
theorem kof {sc : Scope} {x : Str} {k : NameKind} (h : c.sc = sc) (e : sc.names.lookup x = some k) : c.env.kindOf x = some k := by subst h; exact e
theorem lof {sc : Scope} {x : Str} (h : c.sc = sc) (e : sc.names.lookup x = some .local ∧ (x == ("__debug__" : Str)) = false) : Lc c.env x := by subst h; exact e
theorem br_t {A B : Prop} (h : A) : if (true = true) then A else B := h
theorem br_f {A B : Prop} (h : B) : if (false = true) then A else B := h
theorem br_d {p : Prop} [Decidable p] {A B : Prop} (h : p → A) (k : ¬ p → B) : if (decide p = true) then A else B := by
  by_cases q : p
  · rw [decide_eq_true q]; exact h q
  · rw [decide_eq_false q]; exact k q
theorem br_eq {i j : Int} {A B : Prop} (h : i = j → A) (k : i ≠ j → B) : if ((i == j) = true) then A else B := by
  by_cases q : i = j
  · rw [beq_iff_eq.mpr q]; exact h q
  · rw [beq_eq_false_iff_ne.mpr q]; exact k q
theorem br_ne {i j : Int} {A B : Prop} (h : i ≠ j → A) (k : i = j → B) : if ((i != j) = true) then A else B := by
  by_cases q : i = j
  · rw [q, bne_self_eq_false]; exact k q
  · rw [bne_iff_ne.mpr q]; exact h q
theorem br_b {b : Bool} {A B : Prop} (h : b = true → A) (k : b = false → B) : if (b = true) then A else B := by
  cases b
  · exact k rfl
  · exact h rfl
theorem br_nb {b : Bool} {A B : Prop} (h : b = false → A) (k : b = true → B) : if ((!b) = true) then A else B := by
  cases b
  · exact h rfl
  · exact k rfl
end
end Rk

end
section
namespace Rk
structure Plain (K : Frag) (C : Addr) : Prop where
  ga : findIn K (.ref C) "__getattribute__" = some (some (.builtin "object.__getattribute__"))
  gt : findIn K (.ref C) "__getattr__" = some none
  sa : findIn K (.ref C) "__setattr__" = some (some (.builtin "object.__setattr__"))
  po : plainOver K C = true
  hd : hasDictIn K C = true
  mks : makesIn K C = true
noncomputable def fput (n : Str) (v : V) : List (Str × V) → List (Str × V)
  | [] => [(n, v)]
  | f :: r => if f.1 == n then (f.1, v) :: r else f :: fput n v r
noncomputable def fget (n : Str) : List (Str × V) → Option V
  | [] => none
  | f :: r => if f.1 == n then some f.2 else fget n r
theorem isStr_of {e : DictEntry} {x n : Str} (h : ∃ t, e.key = .str x t) : e.key.isStr n = (x == n) := by obtain ⟨t, h⟩ := h; rw [h]; rfl
theorem fget_rel {n : Str} {v : V} : ∀ {fs : List (Str × V)} {es : List DictEntry}, FsRel fs es → fget n fs = some v → ∃ w, getL n es = some (some w) ∧ VRel v w
  | [], [], _, h => by cases h
  | f :: fs, e :: es, ⟨hk, hv, hr⟩, h => by
    unfold fget at h
    unfold getL
    rw [List.find?_cons, isStr_of hk]
    cases q : (f.1 == n) with
    | true => rw [q, if_pos rfl] at h; cases h; exact ⟨_, rfl, hv⟩
    | false =>
      rw [q, if_neg (by decide)] at h
      obtain ⟨w, h1, h2⟩ := fget_rel hr h
      refine ⟨w, ?_, h2⟩
      unfold getL at h1
      dsimp only
      split at h1
      · rename_i e' he'; rw [he']; exact h1
      · rename_i hn
        split at h1 <;> cases h1
  | [], _ :: _, h, _ => h.elim
  | _ :: _, [], h, _ => h.elim
theorem nokey_rel {n : Str} : ∀ {fs : List (Str × V)} {es : List DictEntry}, FsRel fs es → fget n fs = none → getL n es = some none
  | [], [], _, _ => rfl
  | f :: fs, e :: es, ⟨hk, hv, hr⟩, h => by
    unfold fget at h
    unfold getL
    rw [List.find?_cons, isStr_of hk]
    cases q : (f.1 == n) with
    | true => rw [q, if_pos rfl] at h; cases h
    | false =>
      rw [q, if_neg (by decide)] at h
      have h1 := nokey_rel hr h
      unfold getL at h1
      have hq : e.refKey = false := by obtain ⟨t, hk⟩ := hk; unfold DictEntry.refKey; rw [hk]
      dsimp only
      split at h1
      · cases h1
      · rename_i hn
        rw [hn]
        dsimp only
        rw [List.any_cons, hq, Bool.false_or]
        exact h1
  | [], _ :: _, h, _ => h.elim
  | _ :: _, [], h, _ => h.elim
theorem getL_some {n : Str} {fs : List (Str × V)} {es : List DictEntry} (R : FsRel fs es) : (getL n es).isSome = true := by
  cases h : fget n fs with
  | none => rw [nokey_rel R h]; rfl
  | some v => obtain ⟨w, h1, _⟩ := fget_rel R h; rw [h1]; rfl
theorem fput_rel {n : Str} {v : V} {w : Value} {hsh : Int} {t : Tok} (hv : VRel v w) : ∀ {fs : List (Str × V)} {es : List DictEntry}, FsRel fs es → FsRel (fput n v fs) (putL n hsh (.str n t) w es)
  | [], [], _ => ⟨⟨t, rfl⟩, hv, trivial⟩
  | f :: fs, e :: es, ⟨hk, hv', hr⟩ => by
    unfold fput putL
    rw [isStr_of hk]
    cases q : (f.1 == n) with
    | true => exact ⟨hk, hv, hr⟩
    | false => exact ⟨hk, hv', fput_rel hv hr⟩
  | [], _ :: _, h => h.elim
  | _ :: _, [], h => h.elim
theorem FsRel.length : ∀ {fs : List (Str × V)} {es : List DictEntry}, FsRel fs es → es.length = fs.length
  | [], [], _ => rfl
  | _ :: _, _ :: _, h => by rw [List.length_cons, List.length_cons, FsRel.length h.2.2]
  | [], _ :: _, h => h.elim
  | _ :: _, [], h => h.elim
noncomputable def V.plain : V → Bool
  | .raw _ => false
  | _ => true
theorem V.handed {v : V} {w : Value} (h : VRel v w) (p : v.plain = true) : handedIn w = true := by
  cases v with
  | raw x => cases p
  | none => cases h; rfl
  | bool b => cases h; rfl
  | int i => obtain ⟨t, rfl⟩ := h; rfl
  | str i => obtain ⟨t, rfl⟩ := h; rfl
  | bytes i => obtain ⟨t, rfl⟩ := h; rfl
  | ref a => cases h; rfl
section
variable {c : Cx} {E : Value → Shared → Prop} {σ : St} {a C : Addr} {fs : List (Str × V)} {n : Str} {v : V} {Q : V → St → Prop} {N : Unit → St → Prop}
theorem Rel0.inst {s : Shared} (R : Rel0 c σ s) (e : σ.H a = some (.inst C fs)) : ∃ d es k, InstAt s.heap a (instObj C d) C (some (dictOf es k)) ∧ FsRel fs es ∧ s.heap.get? d = some (dictOf es k) ∧ d ≠ c.L ∧ c.h₀.get? d = none ∧
    ∃ δ, RelD c.h₀ c.L δ σ.H s.heap ∧ δ a = d := by
  obtain ⟨δ, D⟩ := R.hp
  obtain ⟨h1, es, k, h2, h3⟩ := D.at_ a _ e
  have z := D.doff a _ e rfl
  exact ⟨δ a, es, k, ⟨h1, rfl, rfl, h2⟩, h3, h2, z.1, z.2.1, δ, D, rfl⟩
theorem g_field {ex : Bool} (e : σ.H a = some (.inst C fs)) (P : Plain c.D.K C) (hn : findIn c.D.K (.ref C) n = some none) (hf : fget n fs = some v) (hp : v.plain = true) (h : Q v σ) : c.W E VRel (getAttr (.ref a) n ex) Q σ := fun s R => by
  have R₀ := R
  obtain ⟨g, T, R⟩ := R
  obtain ⟨m, F⟩ := R.fr
  obtain ⟨d, es, k, I, hr, _⟩ := R.inst e
  obtain ⟨w, h1, h2⟩ := fget_rel hr hf
  exact get_own (prog := c.D.prog) (w := c.D.w) F R.ok.X I (by unfold plainGet; simp only [Cx.at]; rw [P.ga, P.gt]; rfl) P.hd hn rfl h1 (V.handed h2 hp) ⟨v, σ, h2, R₀.tok _, h⟩
theorem get_field (e : σ.H a = some (.inst C fs)) (P : Plain c.D.K C) (hn : findIn c.D.K (.ref C) n = some none) (hf : fget n fs = some v) (hp : v.plain = true) (h : Q v σ) : c.Get E (.ref a) n Q σ := by
  rintro _ rfl; exact g_field e P hn hf hp h
theorem put_field {b : V} (e : σ.H a = some (.inst C fs)) (P : Plain c.D.K C) (hn : findIn c.D.K (.ref C) n = some none) (hl : fs.length ≤ 900) (h : N () (σ.set a (.inst C (fput n b fs)))) : c.Put E (.ref a) n b N σ := by
  rintro _ y rfl hy s R
  obtain ⟨g, T, R⟩ := R
  obtain ⟨m, F, l⟩ := R.loc
  obtain ⟨d, es, k, I, hr, hd, dL, d0, δ, D, rfl⟩ := R.inst e
  have ht : takerIn c.D.K C n = some none := by unfold takerIn; rw [hn]; rfl
  have hlen : (putL n (PyData.keyHash c.D.w.params n) (.str n (s.toks + 1)) y es).length ≤ 1000 := by
    have h1 := (fput_rel (n := n) (hsh := PyData.keyHash c.D.w.params n) (t := s.toks + 1) hy hr).length
    have h2 : ∀ (fs : List (Str × V)), (fput n b fs).length ≤ fs.length + 1 := by
      intro fs
      induction fs with
      | nil => exact Nat.le_refl _
      | cons f r ih => unfold fput; split <;> simp only [List.length_cons] <;> (first | lia | omega)
    have := h2 fs
    (first | lia | omega)
  refine set_dict (prog := c.D.prog) (w := c.D.w) F R.ok.X ledg_news I rfl P.sa P.po ht P.hd (getL_some hr) rfl (upd_of _ (ledg_nodup _ _ _) (ledg_mem.mpr ⟨dL, d0, hd⟩)) hlen fun h' F' N' => ?_
  exact ⟨(), σ.set a (.inst C (fput n b fs)), rfl, ⟨g, T, R.ok, ⟨m, F', l⟩, ⟨δ, D.putI e (keep_of_upd N') (got_of_upd N' dL d0 hd) (fput_rel hy hr)⟩, R.g, R.d, R.o⟩, h⟩
theorem att {e : Expr} {attr pos} (h : c.Ev E e (fun v σ₁ => c.Get E v attr Q σ₁) σ) (hb : notCall e = true := by with_unfolding_all rfl) : c.Ev E (.Attribute e attr pos) Q σ := fun s R => by
  show wpAny _ _ (do
    let o ← attributeBase e attr c.env (eval e c.env)
    standAt pos.atName
    let r ← holding [o] (getAttr o attr true)
    letTemporaryGo e o r
    pure r) _ _ _
  rw [base_not hb]
  exact wpAny_bind (wpAny_mono (h s R) (fun x s₁ ⟨_, _, hx, R₁, h₁⟩ => wpAny_bind (wpAny_standAt (wpAny_bind (wpAny_holding (wpAny_mono (h₁ x hx s₁ R₁) (fun r s₂ h₂ => wpAny_bind (wpAny_letTemporaryGo (wpAny_pure h₂))) fun _ _ e => e))))) fun _ _ e => e)
end
end Rk

end
section
set_option tactic.hygienic false
namespace Rk
noncomputable def hid (h₀ : Heap) (L : Addr) (h : Heap) : List Addr := (List.range h.objs.size).filter fun a => !(a == L) && (h₀.get? a).isNone
noncomputable def ground (h₀ : Heap) (L : Addr) (h : Heap) : Heap := hideAll h (hid h₀ L h)
theorem hid_mem {h₀ h : Heap} {L a : Addr} : a ∈ hid h₀ L h ↔ a < h.objs.size ∧ a ≠ L ∧ h₀.get? a = none := by
  unfold hid
  rw [List.mem_filter, List.mem_range]
  constructor
  · rintro ⟨h1, h2⟩
    have := Bool.and_eq_true_iff.mp h2
    refine ⟨h1, fun e => ?_, by simpa using this.2⟩
    rw [e] at this; simp at this
  · rintro ⟨h1, h2, h3⟩
    refine ⟨h1, ?_⟩
    rw [h3, beq_eq_false_iff_ne.mpr h2]; rfl
theorem ground_base {h₀ h : Heap} {L b : Addr} {o : Obj} (k : ∀ b o, h₀.get? b = some o → h.get? b = some o) (e : h₀.get? b = some o) : (ground h₀ L h).get? b = some o :=
  hideAll_get _ (k b o e) fun m => by have := (hid_mem.mp m).2.2; rw [e] at this; cases this
theorem ground_L {h₀ h : Heap} {L : Addr} {o : Obj} (e : h.get? L = some o) : (ground h₀ L h).get? L = some o := hideAll_get _ e fun m => (hid_mem.mp m).2.1 rfl
theorem ground_none {h₀ h : Heap} {L a : Addr} (hL : a ≠ L) (h0 : h₀.get? a = none) : (ground h₀ L h).get? a = none := by
  cases q : h.get? a with
  | none =>
    cases z : (ground h₀ L h).get? a with
    | none => rfl
    | some o => rw [of_hideAll _ z] at q; cases q
  | some o => exact hideAll_none _ (hid_mem.mpr ⟨Heap.lt_size q, hL, h0⟩)
theorem ground_of {h₀ h : Heap} {L b : Addr} {o : Obj} (e : (ground h₀ L h).get? b = some o) : h.get? b = some o := of_hideAll _ e
theorem ground_size {h₀ h : Heap} {L : Addr} : (ground h₀ L h).objs.size = h.objs.size := hideAll_size _ _

noncomputable def Cx.into (c : Cx) (s : Shared) (nm : Str) (sc : Scope) (f : Addr) (cd : Value) (cl : List (Str × Addr)) (L' : Addr) : Cx :=
  { c with A := c.A.deeper (envX nm sc L' f cd cl), A₀ := c.A, h₀ := ground c.h₀ c.L s.heap, outer := c.fl, nm := nm, sc := sc, L := L', fa := some f, cd := cd, cl := cl, frm := L', inn := false }
theorem Rel0.grd {c : Cx} {σ : St} {s : Shared} (R : Rel0 c σ s) : Below c.A c.base c.fl (ground c.h₀ c.L s.heap) ∧ c.D.K.In (ground c.h₀ c.L s.heap) ∧ Top c.D.p c.D.loose c.D.mean c.D.mg c.D.mb (ground c.h₀ c.L s.heap) ∧ KtsDicts (c.fl.filterMap (·.frame)) (ground c.h₀ c.L s.heap) := by
  obtain ⟨m, F⟩ := R.fr
  have st : c.h₀.StaysIn (ground c.h₀ c.L s.heap) := fun b o e => ground_base F.keep e
  refine ⟨⟨R.ok.fr, fun b o e => st b o (R.ok.B.stays b o e), ?_⟩, R.ok.X.keeps st, R.ok.T.keeps st, ?_⟩
  · have own := R.ok.own
    unfold Cx.fl
    cases hi : c.inn with
    | true =>
      simp only [if_true]
      exact (R.ok.B.frames).of_keeps fun b o e _ => ⟨o, st b o e, rfl⟩
    | false =>
      rw [hi] at own
      simp only [Bool.false_eq_true, if_false] at own ⊢
      have B₁ := pushX (env := c.env) R.ok.B F (congrArg some own) R.ok.ke
      exact funFrames_hideAll B₁.frames fun env he b hb hf => by
        have z := hid_mem.mp hb
        cases he with
        | head => exact z.2.1 ((Option.some.inj hf).symm.trans own)
        | tail _ he =>
          obtain ⟨L₁, o₁, hf₁, ho₁⟩ := funFrames_in R.ok.B.frames env he
          rw [hf₁] at hf
          rw [← Option.some.inj hf, ho₁] at z
          cases z.2.2
  · have own := R.ok.own
    have old : KtsDicts c.fs (ground c.h₀ c.L s.heap) := fun b hb => by
      obtain ⟨o, es, n, h1, h2⟩ := R.ok.ds b hb
      exact ⟨o, es, n, st b o h1, h2⟩
    unfold Cx.fl
    cases hi : c.inn with
    | true => simp only [if_true]; exact old
    | false =>
      rw [hi] at own
      simp only [Bool.false_eq_true, if_false] at own ⊢
      intro b hb
      have hb' : b ∈ (some c.frm).toList ++ c.fs := by simpa [Cx.env] using hb
      rcases List.mem_append.mp hb' with hb' | hb'
      · have : b = c.L := by rw [← own]; simpa using hb'
        subst this
        obtain ⟨oL, es, ep, hL, r⟩ := F.ns
        exact ⟨oL, es, ep, ground_L hL, r.1⟩
      · exact old b hb'
theorem Rel0.into_ok {c : Cx} {σ : St} {s : Shared} (R : Rel0 c σ s) {nm : Str} {sc : Scope} {f : Addr} {cd : Value} {cl : List (Str × Addr)} {L' : Addr} (hk : sc.kind = .function) : (c.into s nm sc f cd cl L').Ok :=
  ⟨R.grd.1, R.grd.2.1, R.grd.2.2.1, Around.frames_deeper R.ok.fr, rfl, hk, R.ok.XB, R.ok.TB, R.grd.2.2.2⟩
theorem Rel0.into {c : Cx} {σ : St} {s : Shared} (R : Rel0 c σ s) {nm : Str} {sc : Scope} {f : Addr} {cd : Value} {cl : List (Str × Addr)} {h₁ : Heap} {m' : Str → Option Value} {μ : Str → Option V} {tk : Nat} (hk : sc.kind = .function)
    (hns : h₁.Ns s.heap.objs.size m') (kp : ∀ b o, s.heap.get? b = some o → h₁.get? b = some o) (hm : ∀ x v, μ x = some v → Lc (envX nm sc s.heap.objs.size f cd cl) x ∧ ∃ w, m' x = some w ∧ VRel v w) :
    Rel0 (c.into s nm sc f cd cl s.heap.objs.size) ⟨μ, σ.H⟩ { s with heap := h₁, toks := tk } := by
  obtain ⟨m, F⟩ := R.fr
  obtain ⟨δ, D⟩ := R.hp
  refine ⟨R.into_ok hk, ⟨m', ⟨hns, fun b o e => kp _ _ (ground_of e), Nat.le_of_eq ground_size⟩, hm⟩, ⟨δ, (D.grow kp).at_, fun a o e => ?_, fun a o e i => ?_, D.inj⟩, R.g, R.d, R.o⟩
  · obtain ⟨x, hx⟩ := (D.at_ a o e).ex
    exact ⟨Nat.ne_of_lt (Heap.lt_size hx), ground_none (D.off a o e).1 (D.off a o e).2⟩
  · obtain ⟨es, n, hx⟩ := (D.at_ a o e).exD i
    have z := D.doff a o e i
    exact ⟨Nat.ne_of_lt (Heap.lt_size hx), ground_none z.1 z.2.1, z.2.2⟩
theorem Rel0.retreat {c : Cx} {σ : St} {s : Shared} (R : Rel0 c σ s) {g₁ : Heap} (T₁ : KtsTurn (c.fl.filterMap (·.frame)) (ground c.h₀ c.L s.heap) g₁) :
    ∃ g₂ m, KtsTurn c.fs c.h₀ g₂ ∧ (c.at g₂).Ok ∧ Fr g₂ c.L g₁ m ∧ (∀ x v, σ.m x = some v → Lc c.env x ∧ ∃ w, m x = some w ∧ VRel v w) ∧ ∀ b, g₁.get? b = none → g₂.get? b = none ∧ b ≠ c.L := by
  obtain ⟨m, F, l⟩ := R.loc
  have memL : ∀ b, b ∈ c.fl.filterMap (·.frame) → b = c.L ∨ b ∈ c.fs := fun b hb => by
    have own := R.ok.own
    unfold Cx.fl at hb
    cases hi : c.inn with
    | true => rw [hi] at hb; simp only [if_true] at hb; exact .inr hb
    | false =>
      rw [hi] at hb own
      simp only [Bool.false_eq_true, if_false] at hb own
      have hb' : b ∈ (some c.frm).toList ++ c.fs := by simpa [Cx.env] using hb
      rcases List.mem_append.mp hb' with hb' | hb'
      · exact .inl (by rw [← own]; simpa using hb')
      · exact .inr hb'
  have memF : ∀ b, b ∈ c.fs → b ∈ c.fl.filterMap (·.frame) := fun b hb => by
    unfold Cx.fl
    cases hi : c.inn with
    | true => simp only [if_true]; exact hb
    | false =>
      simp only [Bool.false_eq_true, if_false]
      rw [List.filterMap_cons]
      exact .tail _ hb
  have K := R.ok.B
  have noL : c.h₀.get? c.L = none := by
    cases q : c.h₀.get? c.L with
    | none => rfl
    | some o => exact absurd (Nat.lt_of_lt_of_le (Heap.lt_size q) F.above) (Nat.lt_irrefl _)
  obtain ⟨T, S⟩ := kts_turn_at (h := g₁) (fs := c.fs) (g := c.h₀)
    (fun b hb => by
      obtain ⟨_, o, ho, _⟩ := K.frames.mem hb
      exact ⟨o, ho⟩)
    (fun b o e nm => T₁.other b o (ground_base F.keep e) fun hm => by
      rcases memL b hm with z | z
      · rw [z, noL] at e; cases e
      · exact nm z)
    (fun b o e hm => T₁.frame b o (ground_base F.keep e) (memF b hm))
  have B₂ : Below c.A₀ c.base c.outer (ktsHeap g₁ c.fs c.h₀) := ⟨K.stack, fun b o e => T.other b o (K.stays b o e) (fun hm => by
    rw [(K.frames.mem hm).1] at e
    cases e), K.frames.of_keeps fun b o e _ => by
      obtain ⟨sl, hs⟩ := T.up e
      exact ⟨_, hs, rfl⟩⟩
  obtain ⟨oL, es, ep, hL, r⟩ := F.ns
  obtain ⟨sl, hL₁⟩ := T₁.up (ground_L hL)
  refine ⟨_, m, T, ⟨B₂, R.ok.XB.keeps B₂.stays, R.ok.TB.keeps B₂.stays, R.ok.fr, R.ok.own, R.ok.ke, R.ok.XB, R.ok.TB, R.ok.ds.turn T⟩, ⟨⟨_, es, ep, hL₁, r⟩, S, by rw [T.size]; exact F.above⟩, l, fun b e => ⟨?_, ?_⟩⟩
  · cases q : (ktsHeap g₁ c.fs c.h₀).get? b with
    | none => rfl
    | some o => rw [S b o q] at e; cases e
  · intro q; rw [q, hL₁] at e; cases e
theorem Rel0.out {c : Cx} {σ σ' : St} {s s' : Shared} (R : Rel0 c σ s) {nm : Str} {sc : Scope} {f : Addr} {cd : Value} {cl : List (Str × Addr)} {L' : Addr} (R' : Rel (c.into s nm sc f cd cl L') σ' s') : Rel c ⟨σ.m, σ'.H⟩ s' := by
  obtain ⟨g₁, T₁, R'⟩ := R'
  obtain ⟨g₂, m, T, ok, F₂, l, off⟩ := R.retreat T₁
  obtain ⟨m', F', _⟩ := R'.loc
  obtain ⟨δ, D⟩ := R'.hp
  obtain ⟨oL, es, ep, hL, r⟩ := F₂.ns
  refine ⟨g₂, T, ok, ⟨m, ⟨⟨oL, es, ep, F'.keep _ _ hL, r⟩, fun b o e => F'.keep _ _ (F₂.keep b o e), F₂.above⟩, l⟩, ⟨δ, D.at_, fun a o e => ?_, fun a o e i => ?_, D.inj⟩, R'.g, R'.d, R'.o⟩
  · have z := off a (D.off a o e).2
    exact ⟨z.2, z.1⟩
  · have z := D.doff a o e i
    have z' := off _ z.2.1
    exact ⟨z'.2, z'.1, z.2.2⟩
theorem Rel.out {c : Cx} {σ σ' : St} {s s' : Shared} {g : Heap} (T : KtsTurn c.fs c.h₀ g) (R : Rel0 (c.at g) σ s) {nm : Str} {sc : Scope} {f : Addr} {cd : Value} {cl : List (Str × Addr)} {L' : Addr} (R' : Rel ((c.at g).into s nm sc f cd cl L') σ' s') : Rel c ⟨σ.m, σ'.H⟩ s' := by
  obtain ⟨g₂, T₂, R₂⟩ := R.out R'
  exact ⟨g₂, T.trans T₂, R₂⟩

noncomputable def Fl.val : Fl → V
  | .ret v => v
  | _ => .none
noncomputable def mOf : List Str → List V → (Str → Option V) → Str → Option V
  | x :: xs, v :: vs, m => mOf xs vs fun y => if y = x then some v else m y
  | _, _, m => m
noncomputable def zOf : List Str → List Value → (Str → Option Value) → Str → Option Value
  | x :: xs, v :: vs, m => zOf xs vs fun y => if y = x then some v else m y
  | _, _, m => m
theorem zOf_eq (x : Str) : ∀ (ns : List Str) (xs : List Value) (m : Str → Option Value), zOf ns xs m x = ((ns.zip xs).reverse.lookup x).or (m x)
  | [], _, m => by cases ‹List Value› <;> rfl
  | _ :: _, [], m => rfl
  | n :: ns, w :: xs, m => by
    show zOf ns xs (fun y => if y = n then some w else m y) x = _
    rw [zOf_eq x ns xs, List.zip_cons_cons, List.reverse_cons, List.lookup_append]
    rw [Option.or_assoc]
    congr 1
    show (if x = n then some w else m x) = _
    by_cases h : x = n
    · subst h; simp [List.lookup]
    · rw [if_neg h, List.lookup_cons, beq_eq_false_iff_ne.mpr h]; rfl
theorem mOf_rel {P : Str → Prop} : ∀ {ns : List Str} {as : List V} {xs : List Value} {m : Str → Option V} {m' : Str → Option Value}, VsRel as xs → (∀ n ∈ ns, P n) → (∀ x v, m x = some v → P x ∧ ∃ w, m' x = some w ∧ VRel v w) →
    ∀ x v, mOf ns as m x = some v → P x ∧ ∃ w, zOf ns xs m' x = some w ∧ VRel v w
  | [], _, _, _, _, _, _, h => fun x v e => h x v (by cases ‹List V› <;> exact e)
  | _ :: _, [], [], _, _, _, _, h => h
  | n :: ns, a :: as, w :: xs, m, m', hx, hp, h => mOf_rel (ns := ns) hx.2 (fun y hy => hp y (.tail _ hy)) fun x v e => by
    by_cases q : x = n
    · subst q
      rw [if_pos rfl] at e ⊢
      cases e
      exact ⟨hp _ (.head _), w, rfl, hx.1⟩
    · rw [if_neg q] at e ⊢
      exact h x v e
  | _ :: _, [], _ :: _, _, _, h, _, _ => h.elim
  | _ :: _, _ :: _, [], _, _, h, _, _ => h.elim

structure Cx.Room (c : Cx) (d : Nat) : Prop where
  dep : c.A.depth + d ≤ 900
  un : c.A.units + 40 * d ≤ 9000
  hh : c.A.handled = none
noncomputable def Back (c : Cx) (m : Str → Option V) (Q : V → Hp → Prop) (r : Result) (s' : Shared) : Prop := match r with
  | .ok (.ret w) => ∃ v σ', VRel v w ∧ Rel c σ' s' ∧ σ'.m = m ∧ Q v σ'.H
  | _ => False
noncomputable def Fn (D : Wd) (d : Nat) (f : Addr) (as : List V) (Q : V → Hp → Prop) (H : Hp) : Prop :=
  ∀ (c : Cx) (m : Str → Option V), c.D = D → c.Room d → ∀ xs, VsRel as xs → ∀ s, Rel c ⟨m, H⟩ s → codeAny (model c.D.prog c.D.w) c.A (.call (.ref f) ⟨xs, []⟩) (Back c m Q) s
theorem Fn.use {c : Cx} {E : Value → Shared → Prop} {d : Nat} {f : Addr} {as : List V} {Q : V → St → Prop} {σ : St} (h : Fn c.D d f as (fun v H' => Q v ⟨σ.m, H'⟩) σ.H) (r : c.Room d) : c.Call E (.ref f) as Q σ :=
  fun xs hx s R => wpAny_call (codeAny_mono (h c σ.m rfl r xs hx s R) fun r s' b => by
    unfold Back at b
    rcases r with e | (_ | _ | _ | w)
    · exact b.elim
    · exact b.elim
    · exact b.elim
    · exact b.elim
    · obtain ⟨v, ⟨m', H'⟩, h1, h2, h3, h4⟩ := b
      cases h3
      exact ⟨v, _, h1, h2, h4⟩)

theorem fn_def {D : Wd} {d : Nat} {f : Addr} {as : List V} {Q : V → Hp → Prop} {H : Hp} {oc : Value} {od : Option Addr} {osl : Array (Option Value)} {name qual : Str} {params : Arguments} {body : List Stmt} {scope : Scope} {dV kV doc pm cdv ct : Value} {an : Option Addr}
    (hK : D.K.lookup f = some ⟨oc, od, .func (fnX name qual params body scope [] dV kV doc pm an cdv ct), osl⟩) (hcd : codeIn D.K cdv qual = true) (ns : List Str)
    (hb : ArF (fun xs => bindArgs (fnX name qual params body scope [] dV kV doc pm an cdv ct) ⟨xs, []⟩ = pure (ns.zip xs)) as.length []) (hl : ∀ n ∈ ns, scope.names.lookup n = some .local ∧ (n == ("__debug__" : Str)) = false) (hcell : ∀ x ∈ scope.names, x.2 ≠ .cell)
    (hco : scope.isCoroutine = false) (hgen : scope.isGenerator = false) (hk : scope.kind = .function)
    (h : ∀ c : Cx, c.D = D → c.nm = qual → c.sc = scope → c.cl = [] → c.Room d → c.Ss Nope body (fun fl σ' => Q fl.val σ'.H) ⟨mOf ns as fun _ => none, H⟩) : Fn D (d + 1) f as Q H := by
  intro c m hD hr xs hx s R
  subst hD
  obtain ⟨hr1, hr2, hr3⟩ := hr
  have R₀ := R
  obtain ⟨g, T, R⟩ := R
  refine codeAny_call_def (fd := fnX name qual params body scope [] dV kV doc pm an cdv ct) (body := body) (binds := ns.zip xs) (by show _ < 1000; (first | lia | omega)) (R.kin _ _ hK) rfl R.top.nolimit (codeRec_of R.kin hcd) rfl (BindsTo.of_eq (ar hb xs hx)) hcell
    (fun y hy => (hl _ (List.of_mem_zip hy).1).1) (fun h₁ hns kp => ?_) hco hgen hk
  have R₁ : Rel0 ((c.at g).into s qual scope f cdv [] s.heap.objs.size) ⟨mOf ns as fun _ => none, H⟩ { s with heap := h₁, toks := s.toks + (ns.zip xs).length } := R.into hk hns kp fun x v e => by
    obtain ⟨p, w, h1, h2⟩ := mOf_rel (P := fun n => scope.names.lookup n = some .local ∧ (n == ("__debug__" : Str)) = false) (m' := fun _ => none) hx hl (fun _ _ e => by cases e) x v e
    refine ⟨p, w, ?_, h2⟩
    rw [zOf_eq] at h1
    simpa using h1
  refine wpAny_mono (h ((c.at g).into s qual scope f cdv [] s.heap.objs.size) rfl rfl rfl rfl ⟨by show c.A.depth + 1 + d ≤ 900; (first | lia | omega), by show c.A.units + 3 + 40 * d ≤ 9000; (first | lia | omega), hr3⟩ _ R₁.rel) (fun fl s' ⟨fl', σ', hf, R', hq⟩ => ?_) fun _ _ e => e.elim
  refine (show Back c m Q (.ok (.ret _)) s' from ⟨fl'.val, ⟨m, σ'.H⟩, ?_, Rel.out T R R', rfl, hq⟩)
  cases fl' with
  | next => cases hf; rfl
  | brk => cases hf; rfl
  | cont => cases hf; rfl
  | ret v => obtain ⟨w, rfl, hw⟩ := hf; exact hw
end Rk

end
section
set_option tactic.hygienic false
namespace Rk
noncomputable def Kp (K : Frag) (f : Value) : Bool := match f with
  | .ref _ => keepIn K f
  | _ => true
theorem Kp.looks {K : Frag} {M : Model} {f : Value} (h : Kp K f = true) (hp : Heap) (X : K.In hp) : ∃ k, (k = Keeper.frame ∨ k = Keeper.machine ∨ k = Keeper.boundFrame) ∧ Looks M hp (keeperOf f) k := by
  cases f with
  | ref a => exact keeps_K (f := .ref a) (show keepIn K (.ref a) = true from h) hp X
  | _ => exact ⟨.machine, .inr (.inl rfl), Looks.of_pure rfl⟩
noncomputable def V.fn : V → Value
  | .ref a => .ref a
  | .raw w => w
  | _ => .none
noncomputable def VFn (v : V) (w : Value) : Prop := VRel v w
section
variable {c : Cx} {E : Value → Shared → Prop} {σ : St} {Q : V → St → Prop}
theorem callw {pos : Pos} {f : Value} {first : List V} {fxs : List Value} {args : List Expr} (hk : Kp c.D.K f = true) (hf : VsRel first fxs) (h : c.Es E pos args (fun vs σ₁ => c.Call E f (first ++ vs) Q σ₁) σ)
    (hs : noStar args = true) : c.W E VRel (callWith pos f fxs (backTo pos (starEach args c.env)) []) Q σ := fun s R => by
  refine callWith_of (P := c.D.K.In) (by rw [noStar_any hs]; rfl) (Kp.looks hk) ?_
  have z := h s R
  rcases noStar_head (env := c.env) hs with rfl | ⟨e, rest, rfl, he⟩
  · refine evalArgs_nil3 ⟨R.kin, ?_⟩
    have z' : wpAny (model c.D.prog c.D.w) c.A (pure [] : Sem (List Value)) (fun a s' => ∃ b σ', VsRel b a ∧ Rel c σ' s' ∧ c.Call E f (first ++ b) Q σ') E s := z
    intro Γ p hΓ
    obtain ⟨b, σ₁, hb, R₁, h₁⟩ := z' Γ p hΓ
    exact h₁ _ (hf.append hb) s R₁ Γ p hΓ
  · rw [he] at z ⊢
    refine evalArgs_plain (wpAny_mono z (fun xs s₁ ⟨vs, σ₁, hx, R₁, h₁⟩ => ⟨R₁.kin, h₁ _ (hf.append hx) s₁ R₁⟩) fun _ _ e => e)
theorem w_call {x : Str} {p pos : Pos} {args : List Expr} (h : c.Ev E (.Name x p) (fun v σ₁ => ∃ f, (∀ w, VRel v w → w = f) ∧ Kp c.D.K f = true ∧ c.Es E pos args (fun vs σ₂ => c.Call E f vs Q σ₂) σ₁) σ)
    (hs : noStar args = true := by with_unfolding_all rfl) : c.Ev E (.Call (.Name x p) args [] pos) Q σ := fun s R => by
  show wpAny _ _ (do callWith pos (← eval (.Name x p) c.env) [] (backTo pos (starEach args c.env)) []) _ _ _
  refine wpAny_bind (wpAny_mono (h s R) (fun w s₁ ⟨v, σ₁, hv, R₁, f, hf, hk, h₁⟩ => ?_) fun _ _ e => e)
  obtain rfl := hf w hv
  exact callw (first := []) (fxs := []) hk trivial h₁ hs s₁ R₁
theorem cv_ref {pos : Pos} {args : List Expr} {r : Addr} (hk : Kp c.D.K (.ref r) = true) (h : c.Es E pos args (fun vs σ₂ => c.Call E (.ref r) vs Q σ₂) σ) : ∃ f, (∀ w, VRel (.ref r) w → w = f) ∧ Kp c.D.K f = true ∧ c.Es E pos args (fun vs σ₂ => c.Call E f vs Q σ₂) σ := ⟨.ref r, fun _ x => x, hk, h⟩
theorem cv_raw {pos : Pos} {args : List Expr} {r : Value} (hk : Kp c.D.K r = true) (h : c.Es E pos args (fun vs σ₂ => c.Call E r vs Q σ₂) σ) : ∃ f, (∀ w, VRel (.raw r) w → w = f) ∧ Kp c.D.K f = true ∧ c.Es E pos args (fun vs σ₂ => c.Call E f vs Q σ₂) σ := ⟨r, fun _ x => x, hk, h⟩
noncomputable def Cx.Meth (c : Cx) (E : Value → Shared → Prop) (a : V) (n : Str) (P : Value → List V → St → Prop) (σ : St) : Prop :=
  ∀ x, VRel a x → ∀ pl : Sem Bool, c.W E (fun (b : Value × List V) (r : Value × List Value) => b.1 = r.1 ∧ VsRel b.2 r.2) (getMethod x n pl) (fun b σ' => P b.1 b.2 σ') σ
noncomputable def mOk (o : Expr) (args : List Expr) (apos pos : Pos) : Bool := notCall o && noStar args && decide (args.length < 30) && (apos.endLine == pos.line)
theorem meth_form {args : List Expr} {n : Nat} {pos : Pos} {env : Env} (h : noStar args = true) (hn : n < 30) : methodCallForm n (backTo pos (starEach args env)) (backToKw pos (keywordEach [] env)) = true := by
  have key : ∀ {es : List Expr}, noStar es = true → (backTo pos (starEach es env)).all (!·.1) = true := by
    intro es
    induction es with
    | nil => intro _; rfl
    | cons e r ih =>
      intro h
      have := Bool.and_eq_true_iff.mp (show (notStar e && r.all notStar) = true from h)
      rw [starEach_not this.1]
      show (!false && (backTo pos (starEach r env)).all (!·.1)) = true
      rw [ih this.2]; rfl
  unfold methodCallForm
  rw [key h]
  show (true && true && decide (n + 0 < 30)) = true
  simpa using hn
theorem w_meth {pos apos : Pos} {o : Expr} {name : Str} {args : List Expr} (h : c.Ev E o (fun a σ₁ => c.Meth E a name (fun f first σ₂ => Kp c.D.K f = true ∧ c.Es E pos args (fun vs σ₃ => c.Call E f (first ++ vs) Q σ₃) σ₂) σ₁) σ)
    (hm : mOk o args apos pos = true := by with_unfolding_all rfl) : c.Ev E (.Call (.Attribute o name apos) args [] pos) Q σ := fun s R => by
  obtain ⟨h123, h4⟩ := Bool.and_eq_true_iff.mp hm
  obtain ⟨h12, h3⟩ := Bool.and_eq_true_iff.mp h123
  obtain ⟨h1, h2⟩ := Bool.and_eq_true_iff.mp h12
  have hf : methodCallForm (args.length + ([] : List Keyword).length) (backTo pos (starEach args c.env)) (backToKw pos (keywordEach [] c.env)) = true := meth_form h2 (by have := of_decide_eq_true h3; simpa using this)
  refine methodCall_KW (pl := (do return (← importBound o c.env).getD true)) (wpAny_mono (h s R) (fun x s₁ ⟨a, σ₁, hx, R₁, h₁⟩ => wpAny_mono (h₁ x hx _ s₁ R₁) (fun fx s₂ ⟨⟨f, first⟩, σ₂, ⟨hf, hv⟩, R₂, hk, h₂⟩ => ?_) fun _ _ e => e) fun _ _ e => e) ?_
  · obtain ⟨f', fs⟩ := fx
    cases hf
    exact callw hk hv h₂ h2 s₂ R₂
  · show (do
      let ov ← attributeBase o name c.env (eval o c.env)
      standAt apos.atName
      methodCall o name apos pos c.env ov (args.length + ([] : List Keyword).length) (backTo pos (starEach args c.env)) (backToKw pos (keywordEach [] c.env))) = _
    rw [base_not h1]
    unfold methodCall calleeOf methodCallPos
    rw [hf, h4]
    rfl
theorem m_inst {a C f : Addr} {fs : List (Str × V)} {n : Str} {P : Value → List V → St → Prop} (e : σ.H a = some (.inst C fs)) (L : Plain c.D.K C) (hf : findIn c.D.K (.ref C) n = some (some (.ref f))) (ht : isFn c.D.K (.ref f) = true) (hn : fget n fs = none)
    (h : P (.ref f) [.ref a] σ) : c.Meth E (.ref a) n P σ := by
  rintro _ rfl pl s R
  have R₀ := R
  obtain ⟨g, T, R⟩ := R
  obtain ⟨m, F⟩ := R.fr
  obtain ⟨d, es, k, I, hr, _⟩ := R.inst e
  exact method_inst (prog := c.D.prog) (w := c.D.w) F R.ok.X I (by unfold plainGet; simp only [Cx.at]; rw [L.ga, L.gt]; rfl) hf ht (nokey_rel hr hn) ⟨(.ref f, [.ref a]), σ, ⟨rfl, rfl, trivial⟩, R₀, h⟩
theorem Rel.list {s : Shared} (R : Rel c σ s) {a : Addr} {vs : List V} (e : σ.H a = some (.list vs)) : ∃ ws k, s.heap.get? a = some (listOf ws k) ∧ VsRel vs ws.toList := by
  obtain ⟨g, δ, D⟩ := R.hp
  exact D.at_ a _ e
theorem Rel.tup {s : Shared} (R : Rel c σ s) {a : Addr} {vs : List V} (e : σ.H a = some (.tup vs)) : ∃ ws k, s.heap.get? a = some (tupOf ws k) ∧ VsRel vs ws.toList := by
  obtain ⟨g, δ, D⟩ := R.hp
  exact D.at_ a _ e
theorem m_append {a : Addr} {vs : List V} {P : Value → List V → St → Prop} (e : σ.H a = some (.list vs)) (h : P (.builtin "list.append") [.ref a] σ) : c.Meth E (.ref a) "append" P σ := by
  rintro _ rfl pl s R
  obtain ⟨ws, k, hg, _⟩ := R.list e
  exact getMethod_list_append hg rfl rfl ⟨(_, [.ref a]), σ, ⟨rfl, rfl, trivial⟩, R, h⟩
theorem c_append {a : Addr} {vs : List V} {v : V} (e : σ.H a = some (.list vs)) (hl : vs.length ≤ 100000) (h : Q .none (σ.set a (.list (vs ++ [v])))) : c.Call E (.builtin "list.append") [.ref a, v] Q σ := by
  intro xs hx s R
  replace hx := vr2 hx
  obtain ⟨x, y, rfl, hx, hy⟩ := hx
  cases hx
  obtain ⟨ws, k, hg, hr⟩ := R.list e
  obtain ⟨g, T, R⟩ := R
  obtain ⟨m, F, l⟩ := R.loc
  obtain ⟨δ, D⟩ := R.hp
  have z := D.off a _ e
  refine append_K (prog := c.D.prog) (w := c.D.w) F ledg_news (upd_of (listOf (ws.push y) (k + 1)) (ledg_nodup _ _ _) (ledg_mem.mpr ⟨z.1, z.2, hg⟩)) (fun h' F' N' => ?_) (by have := hr.length; have := sizeLine_eq; rw [← Array.length_toList]; (first | lia | omega))
  refine ⟨.none, σ.set a (.list (vs ++ [v])), rfl, ⟨g, T, R.ok, ⟨m, F', l⟩, ⟨δ, D.put e (keep_of_upd N') (fun d => ⟨ws.push y, k + 1, got_of_upd N' z.1 z.2 hg, ?_⟩) rfl⟩, R.g, R.d, R.o⟩, h⟩
  rw [Array.toList_push]
  exact hr.append ⟨hy, trivial⟩
end
end Rk

end
section
set_option tactic.hygienic false
namespace Rk
section
variable {c : Cx} {E : Value → Shared → Prop} {σ : St} {Q : V → St → Prop} {P : Bool → St → Prop} {N : Unit → St → Prop} {i j : Int} {a b : Addr} {vs us : List V}
theorem listOf_is {h : Heap} {a : Addr} {ws : Array Value} {k : Nat} (e : h.get? a = some (listOf ws k)) : h.IsList a ws := ⟨_, e, rfl, k, rfl⟩
theorem tupOf_is {h : Heap} {a : Addr} {ws : Array Value} {k : Nat} (e : h.get? a = some (tupOf ws k)) : IsTup h a ws := ⟨_, e, rfl, k, rfl⟩
theorem mkl {h : Heap} {d a : Addr} {ws : Array Value} {n : Nat} {vs : List V} (e : h.get? a = some (listOf ws n)) (r : VsRel vs ws.toList) : MOAt h d a (.list vs) := ⟨ws, n, e, r⟩
theorem mkt {h : Heap} {d a : Addr} {ws : Array Value} {n : Nat} {vs : List V} (e : h.get? a = some (tupOf ws n)) (r : VsRel vs ws.toList) : MOAt h d a (.tup vs) := ⟨ws, n, e, r⟩
theorem c_eq (h : Q (.bool (i == j)) σ) : c.Cmp E .Eq (.int i) (.int j) Q σ := by rintro _ _ ⟨t, rfl⟩ ⟨u, rfl⟩ s R; exact PyProof.Rows.eq_int ⟨.bool _, σ, rfl, R, h⟩
theorem c_ne (h : Q (.bool (i != j)) σ) : c.Cmp E .NotEq (.int i) (.int j) Q σ := by rintro _ _ ⟨t, rfl⟩ ⟨u, rfl⟩ s R; exact PyProof.Rows.ne_int ⟨.bool _, σ, rfl, R, h⟩
theorem c_lt (h : Q (.bool (decide (i < j))) σ) : c.Cmp E .Lt (.int i) (.int j) Q σ := by rintro _ _ ⟨t, rfl⟩ ⟨u, rfl⟩ s R; exact PyProof.Rows.lt_int ⟨.bool _, σ, rfl, R, h⟩
theorem c_le (h : Q (.bool (decide (i ≤ j))) σ) : c.Cmp E .LtE (.int i) (.int j) Q σ := by rintro _ _ ⟨t, rfl⟩ ⟨u, rfl⟩ s R; exact PyProof.Rows.le_int ⟨.bool _, σ, rfl, R, h⟩
theorem c_gt (h : Q (.bool (decide (j < i))) σ) : c.Cmp E .Gt (.int i) (.int j) Q σ := by rintro _ _ ⟨t, rfl⟩ ⟨u, rfl⟩ s R; exact PyProof.Rows.gt_int ⟨.bool _, σ, rfl, R, h⟩
theorem c_ge (h : Q (.bool (decide (j ≤ i))) σ) : c.Cmp E .GtE (.int i) (.int j) Q σ := by rintro _ _ ⟨t, rfl⟩ ⟨u, rfl⟩ s R; exact PyProof.Rows.ge_int ⟨.bool _, σ, rfl, R, h⟩
theorem c_neb {p q : Bool} (h : Q (.bool (p != q)) σ) : c.Cmp E .NotEq (.bool p) (.bool q) Q σ := by rintro _ _ rfl rfl s R; exact PyProof.Rows.ne_bool ⟨.bool _, σ, rfl, R, h⟩
noncomputable def V.isNone : V → Bool
  | .none => true
  | .raw .none => true
  | _ => false
theorem isNone_rel {v : V} {w : Value} (h : VRel v w) : (w == .none) = v.isNone := by
  cases v with
  | none => cases h; rfl
  | bool b => cases h; rfl
  | int i => obtain ⟨t, rfl⟩ := h; rfl
  | str i => obtain ⟨t, rfl⟩ := h; rfl
  | bytes i => obtain ⟨t, rfl⟩ := h; rfl
  | ref a => cases h; rfl
  | raw w => cases h; cases w <;> rfl
theorem c_is {v : V} (h : Q (.bool v.isNone) σ) : c.Cmp E .Is v .none Q σ := by rintro x _ hx rfl s R; exact is_none ⟨.bool _, σ, by rw [isNone_rel hx]; rfl, R, h⟩
theorem c_isnt {v : V} (h : Q (.bool (!v.isNone)) σ) : c.Cmp E .IsNot v .none Q σ := by rintro x _ hx rfl s R; exact isNot_none ⟨.bool _, σ, by rw [isNone_rel hx]; rfl, R, h⟩

noncomputable def Cx.Item (c : Cx) (E : Value → Shared → Prop) (value slice : Expr) (a i : V) (Q : V → St → Prop) (σ : St) : Prop := ∀ x y, VRel a x → VRel i y → c.W E VRel (subscriptTail value slice x y) Q σ
theorem w_sub {value slice pos} (h : c.Ev E value (fun a σ₁ => c.Ev E slice (fun i σ₂ => c.Item E value slice a i Q σ₂) σ₁) σ) : c.Ev E (.Subscript value slice pos) Q σ :=
  fun s R => Subscript_ (wpAny_mono (h s R) (fun x s₁ ⟨_, _, hx, R₁, h₁⟩ => wpAny_mono (h₁ s₁ R₁) (fun y s₂ ⟨_, _, hy, R₂, h₂⟩ => h₂ x y hx hy s₂ R₂) fun _ _ e => e) fun _ _ e => e)
noncomputable def notSl : Expr → Bool
  | .Slice .. => false
  | _ => true
theorem sub_not {slice : Expr} (h : notSl slice = true) (o i : Value) : subscripted slice false o i = operate [o, i] (getItem o i) := by
  cases slice <;> first | rfl | cases h
theorem i_list {value slice : Expr} {v : V} (e : σ.H a = some (.list vs)) (h0 : 0 ≤ i) (hb : i < 4611686018427387904) (hx : vs[i.toNat]? = some v) (h : Q v σ) (hn : notSl slice = true := by with_unfolding_all rfl) : c.Item E value slice (.ref a) (.int i) Q σ := by
  rintro _ _ rfl ⟨t, rfl⟩ s R
  obtain ⟨ws, k, hg, hr⟩ := R.list e
  obtain ⟨w, h1, h2⟩ := hr.get hx
  exact tail_any (listOf_is hg).typeIs slot_list_getitem.lookup (wpAny_getItem_list (x := w) (listOf_is hg) h0 (by (first | lia | omega)) (by rw [← Array.getElem?_toList]; exact h1) ⟨v, σ, h2, R, h⟩) (sub_not hn _ _)
theorem i_listN {value slice : Expr} {v : V} (e : σ.H a = some (.list vs)) (h0 : i < 0) (hl : -(vs.length : Int) ≤ i) (hb : -4611686018427387904 < i) (hx : vs[(i + vs.length).toNat]? = some v) (h : Q v σ) (hn : notSl slice = true := by with_unfolding_all rfl) : c.Item E value slice (.ref a) (.int i) Q σ := by
  rintro _ _ rfl ⟨t, rfl⟩ s R
  obtain ⟨ws, k, hg, hr⟩ := R.list e
  have hz := hr.length
  rw [Array.length_toList] at hz
  obtain ⟨w, h1, h2⟩ := hr.get hx
  exact tail_any (listOf_is hg).typeIs slot_list_getitem.lookup (wpAny_getItem_list_neg (x := w) (listOf_is hg) h0 (by (first | lia | omega)) (by (first | lia | omega)) (by rw [← Array.getElem?_toList, hz]; exact h1) ⟨v, σ, h2, R, h⟩) (sub_not hn _ _)
theorem i_tup {value slice : Expr} {v : V} (e : σ.H a = some (.tup vs)) (h0 : 0 ≤ i) (hb : i < 4611686018427387904) (hx : vs[i.toNat]? = some v) (h : Q v σ) (hn : notSl slice = true := by with_unfolding_all rfl) : c.Item E value slice (.ref a) (.int i) Q σ := by
  rintro _ _ rfl ⟨t, rfl⟩ s R
  obtain ⟨ws, k, hg, hr⟩ := R.tup e
  have hz := hr.length
  rw [Array.length_toList] at hz
  obtain ⟨w, h1, h2⟩ := hr.get hx
  have hlt : i.toNat < ws.size := by
    rw [hz]
    exact (List.getElem?_eq_some_iff.mp hx).1
  exact tail_any (tupOf_is hg).typeIs slot_tuple_getitem.lookup (getItem_tuple (x := w) (j := i.toNat) (tupOf_is hg) (by (first | lia | omega)) (by (first | lia | omega)) (by
    unfold seqIndex?
    rw [if_neg (show ¬ i < 0 by (first | lia | omega))]
    exact if_pos (by simp only [Bool.and_eq_true, decide_eq_true_eq]; (first | lia | omega))) (by rw [← Array.getElem?_toList]; exact h1) ⟨v, σ, h2, R, h⟩) (sub_not hn _ _)
noncomputable def slc (vs : List V) (lo hi : Option Int) : List V := (match hi with | some b => vs.take b.toNat | none => vs).drop (match lo with | some a => a.toNat | none => 0)
noncomputable def slW (vs : List Value) (lo hi : Option Int) : List Value := (match hi with | some b => vs.take b.toNat | none => vs).drop (match lo with | some a => a.toNat | none => 0)
theorem slc_rel {vs : List V} {ws : List Value} (h : VsRel vs ws) (lo hi : Option Int) : VsRel (slc vs lo hi) (slW ws lo hi) := by
  unfold slc slW
  cases hi with
  | none => exact h.drop _
  | some b => exact (h.take _).drop _
theorem pick_is (ws : Array Value) (lo hi : Option Int) (h1 : ∀ x, lo = some x → 0 ≤ x) (h2 : ∀ x, hi = some x → 0 ≤ x) : slicePick ws lo hi none = (slW ws.toList lo hi).toArray := by
  have cl : ∀ (x : Int), 0 ≤ x → clipAt ws.size x = min x.toNat ws.size := fun x hx => by
    obtain ⟨n, rfl⟩ := Int.eq_ofNat_of_zero_le hx
    exact clipAt_nat _ _
  rw [slicePick_plain]
  congr 1
  unfold slW
  cases hi with
  | none =>
    cases lo with
    | none => simp; exact List.take_of_length_le (by simp)
    | some x =>
      simp only [Option.elim, cl x (h1 x rfl)]
      rcases Nat.le_total x.toNat ws.size with h | h
      · rw [Nat.min_eq_left h, List.take_of_length_le (by simp)]
      · rw [Nat.min_eq_right h, List.drop_of_length_le (by simp), List.drop_of_length_le (by simpa using h)]; simp
  | some y =>
    have q : ws.toList.take y.toNat = ws.toList.take (min y.toNat ws.size) := by
      rcases Nat.le_total y.toNat ws.size with h | h
      · rw [Nat.min_eq_left h]
      · rw [Nat.min_eq_right h, List.take_of_length_le (by simpa using h), List.take_of_length_le (by simp)]
    cases lo with
    | none => simp only [Option.elim, cl y (h2 y rfl), List.drop_zero, Nat.sub_zero]; exact q.symm
    | some x =>
      simp only [Option.elim, cl x (h1 x rfl), cl y (h2 y rfl)]
      rw [q]
      rcases Nat.le_total x.toNat ws.size with h | h
      · rw [Nat.min_eq_left h, List.drop_take]
      · rw [Nat.min_eq_right h, List.drop_of_length_le (by simp), List.drop_of_length_le (by simp; (first | lia | omega))]; simp
noncomputable def Bd : V → Option Int → Prop
  | .none, x => x = none
  | .int i, x => x = some i ∧ 0 ≤ i
  | _, _ => False
theorem Bd.part {v : V} {w : Value} {x : Option Int} (h : Bd v x) (r : VRel v w) : IsPart w x ∧ ∀ y, x = some y → 0 ≤ y := by
  cases v with
  | none => cases h; cases r; exact ⟨.none, fun y e => by cases e⟩
  | int i => obtain ⟨rfl, h0⟩ := h; obtain ⟨t, rfl⟩ := r; exact ⟨.int i t, fun y e => by cases e; exact h0⟩
  | bool b => exact h.elim
  | str i => exact h.elim
  | bytes i => exact h.elim
  | ref a => exact h.elim
  | raw w => exact h.elim
noncomputable abbrev Cx.Po (c : Cx) (X : Value → Shared → Prop) (e : Option Expr) (Q : V → St → Prop) (σ : St) : Prop := c.W X VRel (evalPart e c.env) Q σ
theorem p_none (h : Q .none σ) : c.Po E none Q σ := fun s R => wpAny_pure ⟨.none, σ, rfl, R, h⟩
theorem p_some {e : Expr} (h : c.Ev E e Q σ) : c.Po E (some e) Q σ := h
theorem w_slice {value lo hi p pos} (h : c.Ev E value (fun v σ₁ => c.Po E lo (fun l σ₂ => c.Po E hi (fun u σ₃ => ∃ a vs x y, v = .ref a ∧ σ₃.H a = some (.list vs) ∧ vs.length ≤ 100000 ∧ Bd l x ∧ Bd u y ∧ ∀ n, σ₃.H n = none → Q (.ref n) (σ₃.set n (.list (slc vs x y)))) σ₂) σ₁) σ) :
    c.Ev E (.Subscript value (.Slice lo hi none p) pos) Q σ := fun s R => by
  refine Subscript_ (wpAny_mono (h s R) (fun o s₁ ⟨v, _, hv, R₁, h₁⟩ => ?_) fun _ _ e => e)
  refine wpAny_Slice (wpAny_mono (h₁ s₁ R₁) (fun l s₂ ⟨lv, _, hl, R₂, h₂⟩ => wpAny_mono (h₂ s₂ R₂) (fun u s₃ ⟨uv, σ₃, hu, R₃, h₃⟩ => ?_) fun _ _ e => e) fun _ _ e => e)
  obtain ⟨a, vs, x, y, rfl, e, hz, bl, bu, hq⟩ := h₃
  cases hv
  refine wpAny_pure ?_
  obtain ⟨ws, k, hg, hr⟩ := R₃.list e
  have hzz := hr.length
  rw [Array.length_toList] at hzz
  obtain ⟨pl, ql⟩ := bl.part hl
  obtain ⟨pu, qu⟩ := bu.part hu
  have hsl := Heap.IsSliceOf.new s₃.heap l u .none
  have hL := (listOf_is (Heap.get?_push_of_some ({ cls := .type "slice", data := .fields #[l, u, .none] } : Obj) hg))
  refine tail_any (Heap.IsList.typeIs (s := { s₃ with heap := s₃.heap.push { cls := .type "slice", data := .fields #[l, u, .none] } }) hL) slot_list_getitem.lookup (ops := [.ref s₃.heap.objs.size, .ref a]) ?_ rfl
  refine wpAny_getItem_list_slice hL hsl pl pu .none (by simp) ?_ (by have := sizeLine_eq; (first | lia | omega))
  have n0 : s₃.heap.objs.size ≤ (s₃.heap.push ({ cls := .type "slice", data := .fields #[l, u, .none] } : Obj)).objs.size := by rw [Heap.size_push]; exact Nat.le_succ _
  refine ⟨.ref _, _, rfl, R₃.new (tk := s₃.toks) n0 (fun b z e => Heap.get?_push_of_some _ (Heap.get?_push_of_some _ e)) (fun d => mkl (Heap.get?_push_size _ rfl) (by rw [pick_is ws x y ql qu]; exact slc_rel hr x y)) rfl, hq _ (R₃.non n0)⟩
theorem b_addl (e : σ.H a = some (.list vs)) (e' : σ.H b = some (.list us)) (hz : vs.length + us.length ≤ 100000) (h : ∀ n, σ.H n = none → Q (.ref n) (σ.set n (.list (vs ++ us)))) : c.Bin E .Add (.ref a) (.ref b) Q σ := by
  rintro _ _ rfl rfl s R
  obtain ⟨ws, k, hg, hr⟩ := R.list e
  obtain ⟨ws', k', hg', hr'⟩ := R.list e'
  have R₀ := R
  obtain ⟨g, T, R⟩ := R
  obtain ⟨m, F, l⟩ := R.loc
  have h1 := hr.length; rw [Array.length_toList] at h1
  have h2 := hr'.length; rw [Array.length_toList] at h2
  exact add_arrays F ledg_news (listOf_is hg) (listOf_is hg') (fun h' F' N' => ⟨.ref _, _, rfl, ⟨g, T, R.newL (o := .list (vs ++ us)) (tk := s.toks) (Nat.le_refl _) l F' N' (fun q d => mkl q (by simpa using hr.append hr')) rfl⟩, h _ (R.non (Nat.le_refl _))⟩) (by have := sizeLine_eq; (first | lia | omega))
theorem f_len (e : σ.H a = some (.list vs)) (hz : vs.length ≤ 100000) (h : Q (.int vs.length) σ) : c.Call E (.builtin "len") [.ref a] Q σ := by
  intro xs hx s R
  replace hx := vr1 hx
  obtain ⟨_, rfl, hx⟩ := hx
  cases hx
  obtain ⟨ws, k, hg, hr⟩ := R.list e
  have h1 := hr.length; rw [Array.length_toList] at h1
  refine Calls.call_len_list (listOf_is hg) (by (first | lia | omega)) ⟨.int vs.length, σ, ⟨s.toks + 1, by rw [h1]⟩, R.tok _, h⟩
theorem tr_list (e : σ.H a = some (.list vs)) (hz : vs.length ≤ 100000) (h : P (!vs.isEmpty) σ) : c.Tru E (.ref a) P σ := by
  rintro _ rfl s R
  obtain ⟨ws, k, hg, hr⟩ := R.list e
  have h1 := hr.length; rw [Array.length_toList] at h1
  have q : ws.isEmpty = vs.isEmpty := by
    cases vs with
    | nil => have : ws.size = 0 := h1; simp [Array.isEmpty, this]
    | cons v r => have : ws.size = r.length + 1 := h1; simp [Array.isEmpty, this]
  exact wpAny_truthy_list (listOf_is hg) (by (first | lia | omega)) ⟨!vs.isEmpty, σ, by rw [q], R.tok _, h⟩
end
end Rk

end
section
set_option tactic.hygienic false
namespace Rk
section
variable {c : Cx} {E : Value → Shared → Prop} {σ : St} {Q : V → St → Prop}
noncomputable def Cx.atA (c : Cx) (A' : Around) : Cx := { c with A := A', A₀ := if c.inn then A' else c.A₀ }
theorem Rel0.under {σ : St} {s : Shared} (R : Rel0 c σ s) {A' : Around} (h1 : A'.frames = c.A.frames) : Rel0 (c.atA A') σ s :=
  ⟨⟨⟨by
    have b := R.ok.B.stack
    have o := R.ok.own
    show (if c.inn then A' else c.A₀).frames = some c.outer
    cases hi : c.inn with
    | true => rw [hi] at o; simp only [if_true] at o ⊢; rw [h1, ← o]; exact b
    | false => simp only [Bool.false_eq_true, if_false]; exact b, R.ok.B.stays, R.ok.B.frames⟩, R.ok.X, R.ok.T, h1.trans R.ok.fr, by
    have o := R.ok.own
    show if c.inn then (if c.inn then A' else c.A₀) = A' else c.frm = c.L
    cases hi : c.inn with
    | true => simp
    | false => rw [hi] at o; simpa using o, R.ok.ke, R.ok.XB, R.ok.TB, R.ok.ds⟩, R.loc, R.hp, R.g, R.d, R.o⟩
theorem Rel.under {σ : St} {s : Shared} (R : Rel c σ s) {A' : Around} (h1 : A'.frames = c.A.frames) : Rel (c.atA A') σ s := let ⟨g, T, R⟩ := R; ⟨g, T, R.under h1⟩
theorem Rel.back {σ σ' : St} {s s' : Shared} {A' : Around} (R₀ : Rel c σ s) (R : Rel (c.atA A') σ' s') : Rel c σ' s' := by
  obtain ⟨g₀, T₀, R₀⟩ := R₀
  obtain ⟨g, T, R⟩ := R
  have o := R.ok
  exact ⟨g, T, ⟨⟨R₀.ok.B.stack, o.B.stays, o.B.frames⟩, o.X, o.T, R₀.ok.fr, R₀.ok.own, o.ke, o.XB, o.TB, o.ds⟩, R.loc, R.hp, R.g, R.d, R.o⟩
theorem c_new {C fI : Addr} {as : List V} {d : Nat} (L : Plain c.D.K C) (hi : findIn c.D.K (.ref C) "__init__" = some (some (.ref fI))) (hf : isFn c.D.K (.ref fI) = true) (r : c.Room (d + 1))
    (h : ∀ n, σ.H n = none → Fn c.D d fI (.ref n :: as) (fun v H' => v = .none ∧ Q (.ref n) ⟨σ.m, H'⟩) (σ.H.set n (.inst C []))) : c.Call E (.ref C) as Q σ := by
  intro xs hx s R
  refine wpAny_call ?_
  obtain ⟨hh, g, dr, t, os⟩ := s
  have X : c.D.K.In hh := R.kin
  have R₀ := R
  obtain ⟨gg, T, R⟩ := R
  refine make_core (makes_of X L.mks) (looks_findIn X hi) (fun self => bind_fn X self (beq_iff_eq.mp hf)) (.inl rfl) ?_
  obtain ⟨m, F, l⟩ := R.loc
  obtain ⟨δ, D⟩ := R.hp
  have k : ∀ b o, hh.get? b = some o → ((hh.push emptyDict).push (instObj C hh.objs.size)).get? b = some o := fun b o e => Heap.get?_push_of_some _ (Heap.get?_push_of_some _ e)
  have sz : (hh.push emptyDict).objs.size = hh.objs.size + 1 := Heap.size_push ..
  have z1 := h0_size F (n := hh.objs.size + 1) (Nat.le_succ _)
  have z2 := h0_size F (n := hh.objs.size) (Nat.le_refl _)
  have hn : σ.H (hh.objs.size + 1) = none := R.non (Nat.le_succ _)
  have g1 : ((hh.push emptyDict).push (instObj C hh.objs.size)).get? (hh.objs.size + 1) = some (instObj C hh.objs.size) := by
    rw [← sz]; exact Heap.get?_push_size _ rfl
  have g2 : ((hh.push emptyDict).push (instObj C hh.objs.size)).get? hh.objs.size = some (dictOf [] 0) := Heap.get?_push_of_some _ (Heap.get?_push_size _ rfl)
  have R1 : Rel0 (c.at gg) ⟨σ.m, σ.H.set (hh.objs.size + 1) (.inst C [])⟩ ⟨(hh.push emptyDict).push (instObj C hh.objs.size), g, dr, t, os⟩ :=
    ⟨R.ok, ⟨m, F.keeps k, l⟩, ⟨_, D.newI (Nat.le_succ _) (Nat.le_refl _) (Nat.ne_of_lt (Nat.lt_succ_self _)) k g1 g2 z1.1 z1.2 z2.1 z2.2⟩, R.g, R.d, R.o⟩
  have fr : (c.A.under (.builtin "type.__call__" ⟨.ref C :: xs, []⟩)).frames = c.A.frames := rfl
  have R2 := Rel.under ⟨gg, T, R1⟩ (A' := c.A.under (.builtin "type.__call__" ⟨.ref C :: xs, []⟩)) fr
  refine codeAny_mono (h _ hn (c.atA (c.A.under (.builtin "type.__call__" ⟨.ref C :: xs, []⟩))) σ.m rfl ⟨?_, ?_, r.hh⟩ (.ref (hh.objs.size + 1) :: xs) ⟨rfl, hx⟩ _ R2) fun rs s' b => ?_
  · show c.A.depth + 1 + d ≤ 900
    have := r.1; (first | lia | omega)
  · show c.A.units + 1 + 40 * d ≤ 9000
    have := r.2; (first | lia | omega)
  · unfold Back at b
    rcases rs with e | (_ | _ | _ | w)
    · exact b.elim
    · exact b.elim
    · exact b.elim
    · exact b.elim
    · obtain ⟨v, ⟨m', H'⟩, h1, h2, h3, h4, h5⟩ := b
      cases h3
      subst h4
      exact ⟨h1, .ref (hh.objs.size + 1), ⟨σ.m, H'⟩, rfl, Rel.back (s' := s') R₀ h2, h5⟩
end
end Rk

end
section
set_option tactic.hygienic false
namespace Rk
noncomputable def ORel : Option V → Option Value → Prop
  | none, o => o = none
  | some v, o => ∃ w, o = some w ∧ VRel v w
noncomputable def Cx.Itr (c : Cx) (E : Value → Shared → Prop) (v : V) (Q : V → St → Prop) (σ : St) : Prop := ∀ x, VRel v x → c.W E VRel (pyIter x) Q σ
noncomputable def Cx.Nx (c : Cx) (E : Value → Shared → Prop) (it : Addr) (Q : Option V → St → Prop) (σ : St) : Prop := c.W E ORel (pyNext (.ref it)) Q σ
noncomputable def Cx.Asg (c : Cx) (E : Value → Shared → Prop) (t : Expr) (v : V) (Q : Unit → St → Prop) (σ : St) : Prop := ∀ w, VRel v w → c.W E OnE (assign t c.env w) Q σ
noncomputable def LEnd (c : Cx) (U : Fl → St → Prop) (r : Result) (s' : Shared) : Prop := match r with
  | .ok f => ∃ fl σ', FRel fl f ∧ Rel c σ' s' ∧ U fl σ'
  | .error _ => False
noncomputable def Cx.Loop (c : Cx) (it : Addr) (target : Expr) (body : List Stmt) (U : Fl → St → Prop) (σ : St) : Prop :=
  ∀ s, Rel c σ s → codeAny (model c.D.prog c.D.w) c.A (.forLoop target (.ref it) body [] c.env) (LEnd c U) s
noncomputable def Cx.WLoop (c : Cx) (test : Expr) (body : List Stmt) (U : Fl → St → Prop) (σ : St) : Prop :=
  ∀ s, Rel c σ s → codeAny (model c.D.prog c.D.w) c.A (.whileLoop test body [] c.env) (LEnd c U) s
noncomputable def isNm : Expr → Bool
  | .Tuple .. | .List .. => false
  | _ => true
theorem letGo_nm {t : Expr} (h : isNm t = true) (it v : Value) : letOwnedTupleGo t it v = pure () := by cases t <;> first | rfl | cases h
noncomputable def Turned (c : Cx) (again : St → Prop) (U : Fl → St → Prop) : Fl → St → Prop
  | .next, σ => again σ
  | .cont, σ => again σ
  | .brk, σ => U .next σ
  | .ret v, σ => U (.ret v) σ
noncomputable def Cx.OTurn (c : Cx) (tgt : Expr) (U : St → Prop) (k : St → Prop) : Option V → St → Prop
  | none, σ => U σ
  | some v, σ => c.Asg Nope tgt v (fun _ σ₂ => k σ₂) σ
section
variable {c : Cx} {E : Value → Shared → Prop} {σ : St} {Q : V → St → Prop} {P : Bool → St → Prop} {N : Unit → St → Prop} {U : Fl → St → Prop} {O : Option V → St → Prop} {a it : Addr} {vs : List V} {i : Nat}
theorem LEnd.ok {fl : Fl} {f : Flow} {σ' : St} {s' : Shared} (h : FRel fl f) (R : Rel c σ' s') (u : U fl σ') : LEnd c U (.ok f) s' := ⟨fl, σ', h, R, u⟩
theorem loop_turn {target : Expr} {body : List Stmt}
    (h : c.Nx Nope it (c.OTurn target (U .next) (c.Ss Nope body (Turned c (c.Loop it target body U) U))) σ)
    (ht : isNm target = true := by with_unfolding_all rfl) : c.Loop it target body U σ := fun s R => by
  refine codeAny_of_tree ?_
  show wpAny _ c.A ((forTurn target (.ref it) body [] c.env).onRaise (fun x => do noteFrame x c.env; theTreesLotGoes x)) _ _ s
  refine wpAny_onRaise (wpAny_mono (E := Nope) ?_ (fun _ _ x => x) fun _ _ e => e.elim)
  simp only [forTurn]
  refine wpAny_bind (wpAny_standAt (wpAny_bind (wpAny_onRaise (wpAny_mono (h s R) (fun r s₁ h₁ => ?_) fun _ _ e => e.elim))))
  obtain ⟨o, σ₁, ho, R₁, h₁⟩ := h₁
  cases o with
  | none =>
    cases ho
    refine wpAny_pure ⟨rfl, codeAny_block (wpAny_execs_nil (LEnd.ok (fl := .next) rfl R₁ h₁))⟩
  | some v =>
    obtain ⟨w, rfl, hv⟩ := ho
    refine wpAny_bind (wpAny_of_eq (letGo_nm ht _ _) ?_)
    refine wpAny_bind (wpAny_mono (h₁ w hv s₁ R₁) (fun _ s₂ h₂ => ?_) fun _ _ e => e)
    obtain ⟨_, σ₂, _, R₂, h₂⟩ := h₂
    refine wpAny_bind (wpAny_mono (h₂ s₂ R₂) (fun f s₃ h₃ => ?_) fun _ _ e => e)
    obtain ⟨fl, σ₃, hf, R₃, h₃⟩ := h₃
    cases fl with
    | next => cases hf; exact wpAny_pure ⟨rfl, h₃ s₃ R₃⟩
    | cont => cases hf; exact wpAny_pure ⟨rfl, h₃ s₃ R₃⟩
    | brk => cases hf; exact wpAny_pure (LEnd.ok (fl := .next) rfl R₃ h₃)
    | ret v => obtain ⟨w, rfl, hw⟩ := hf; exact wpAny_pure (LEnd.ok (fl := .ret v) ⟨w, rfl, hw⟩ R₃ h₃)
theorem wl_turn {test : Expr} {body : List Stmt}
    (h : c.Te Nope test (fun b σ₁ => if b then c.Ss Nope body (Turned c (c.WLoop test body U) U) σ₁ else U .next σ₁) σ) : c.WLoop test body U σ := fun s R => by
  refine codeAny_of_tree ?_
  show wpAny _ c.A ((whileTurn test body [] c.env).onRaise (fun x => do noteFrame x c.env; theTreesLotGoes x)) _ _ s
  refine wpAny_onRaise (wpAny_mono (E := Nope) ?_ (fun _ _ x => x) fun _ _ e => e.elim)
  simp only [whileTurn]
  refine wpAny_bind (wpAny_mono (h s R) (fun b s₁ h₁ => ?_) fun _ _ e => e)
  obtain ⟨b', σ₁, hb, R₁, h₁⟩ := h₁
  cases hb
  cases b with
  | false =>
    simp only [Bool.false_eq_true, if_false] at h₁ ⊢
    exact wpAny_bind (wpAny_execs_nil (wpAny_pure (LEnd.ok (fl := .next) rfl R₁ h₁)))
  | true =>
    simp only [if_true] at h₁ ⊢
    refine wpAny_bind (wpAny_mono (h₁ s₁ R₁) (fun f s₃ h₃ => ?_) fun _ _ e => e)
    obtain ⟨fl, σ₃, hf, R₃, h₃⟩ := h₃
    cases fl with
    | next => cases hf; exact wpAny_pure ⟨rfl, h₃ s₃ R₃⟩
    | cont => cases hf; exact wpAny_pure ⟨rfl, h₃ s₃ R₃⟩
    | brk => cases hf; exact wpAny_pure (LEnd.ok (fl := .next) rfl R₃ h₃)
    | ret v => obtain ⟨w, rfl, hw⟩ := hf; exact wpAny_pure (LEnd.ok (fl := .ret v) ⟨w, rfl, hw⟩ R₃ h₃)
theorem s_for {target iter : Expr} {body : List Stmt} {pos : Pos} (h : c.Ev E iter (fun v σ₁ => c.Itr E v (fun u σ₂ => ∃ it, u = .ref it ∧ c.Loop it target body U σ₂) σ₁) σ)
    (hs : ∀ env x, foldedSetIterable iter env x = pure x := by intro _ _; with_unfolding_all rfl) : c.S E (.For target iter body [] pos) U σ := fun s R =>
  wpAny_For (wpAny_mono (h s R) (fun x s₁ ⟨v, σ₁, hv, R₁, h₁⟩ => wpAny_mono (h₁ x hv s₁ R₁) (fun u s₂ ⟨b, σ₂, hb, R₂, it, e, h₂⟩ => by
    subst e
    cases hb
    exact codeAny_mono (h₂ s₂ R₂) fun r s' x => by
      unfold LEnd at x
      cases r with
      | error e => exact x.elim
      | ok f => obtain ⟨fl, σ', h1, h2, h3⟩ := x; exact ⟨fl, σ', h1, h2, h3⟩) fun _ _ e => e) fun _ _ e => e) (hs _)
theorem s_while {test : Expr} {body : List Stmt} {pos : Pos} (h : c.WLoop test body U σ) : c.S E (.While test body [] pos) U σ := fun s R =>
  wpAny_While (codeAny_mono (h s R) fun r s' x => by
      unfold LEnd at x
      cases r with
      | error e => exact x.elim
      | ok f => obtain ⟨fl, σ', h1, h2, h3⟩ := x; exact ⟨fl, σ', h1, h2, h3⟩)
theorem it_list (e : σ.H a = some (.list vs)) (h : ∀ n, σ.H n = none → Q (.ref n) (σ.set n (.li a 0))) : c.Itr E (.ref a) Q σ := by
  rintro _ rfl s R
  obtain ⟨ws, k, hg, hr⟩ := R.list e
  exact wpAny_pyIter_list (listOf_is hg) ⟨.ref _, _, rfl, R.new (o := .li a 0) (tk := s.toks) (Nat.le_refl _) (fun b x e => Heap.get?_push_of_some _ e) (fun d => ⟨_, Heap.get?_push_size _ rfl, rfl, rfl⟩) rfl, h _ (R.non (Nat.le_refl _))⟩
theorem Rel.rg {x y : Int} {s : Shared} (R : Rel c σ s) (e : σ.H a = some (.rg x y)) : ∃ t u v, IsRange s.heap a x y 1 t u v := by
  obtain ⟨g, δ, D⟩ := R.hp
  exact D.at_ a _ e
theorem it_rg {x y : Int} (e : σ.H a = some (.rg x y)) (hs : Builtin.Range.small x y 1 = true) (h : ∀ n, σ.H n = none → Q (.ref n) (σ.set n (.ri x (Builtin.Range.rangeSize x y 1)))) : c.Itr E (.ref a) Q σ := by
  rintro _ rfl s R
  obtain ⟨t, u, v, hr⟩ := R.rg e
  exact wpAny_pyIter_range hr hs ⟨.ref _, _, rfl, R.new (o := .ri x (Builtin.Range.rangeSize x y 1)) (tk := s.toks) (Nat.le_refl _) (fun b x e => Heap.get?_push_of_some _ e) (fun d => Heap.get?_push_size _ rfl) rfl, h _ (R.non (Nat.le_refl _))⟩
theorem it_str {x : Str} (ha : x.cps.all (· < 128) = true) (h : ∀ n, σ.H n = none → Q (.ref n) (σ.set n (.si x 0))) : c.Itr E (.str x) Q σ := by
  rintro _ ⟨t, rfl⟩ s R
  exact wpAny_pyIter_ascii ha ⟨.ref _, _, rfl, R.new (o := .si x 0) (tk := s.toks) (Nat.le_refl _) (fun b x e => Heap.get?_push_of_some _ e) (fun d => ⟨t, _, Heap.get?_push_size _ rfl, rfl, rfl⟩) rfl, h _ (R.non (Nat.le_refl _))⟩
theorem nx_list {v : V} (e : σ.H it = some (.li a i)) (e' : σ.H a = some (.list vs)) (hx : vs[i]? = some v) (h : O (some v) (σ.set it (.li a (i + 1)))) : c.Nx E it O σ := fun s R => by
  obtain ⟨ws, k, hg, hr⟩ := R.list e'
  have hi : s.heap.IsListIter it a i := by obtain ⟨g, δ, D⟩ := R.hp; exact D.at_ it _ e
  obtain ⟨w, h1, h2⟩ := hr.get hx
  exact wpAny_pyNext_list_item hi (listOf_is hg) (x := w) (by rw [← Array.getElem?_toList]; exact h1) fun h' hi' hs => ⟨some v, _, ⟨w, rfl, h2⟩, R.put (o' := .li a (i + 1)) (tk := s.toks) e hs (fun d => hi') rfl, h⟩
theorem nx_listE (e : σ.H it = some (.li a i)) (e' : σ.H a = some (.list vs)) (hx : vs[i]? = none) (h : O none ⟨σ.m, σ.H.del it⟩) (hh : c.A.handled = none := by exact Cx.Room.hh (by assumption)) : c.Nx E it O σ := fun s R => by
  obtain ⟨ws, k, hg, hr⟩ := R.list e'
  have hi : s.heap.IsListIter it a i := by obtain ⟨g, δ, D⟩ := R.hp; exact D.at_ it _ e
  have hz := hr.length
  exact wpAny_pyNext_list_end hh hi (listOf_is hg) (by
    have := List.getElem?_eq_none_iff.mp hx
    exact Array.getElem?_eq_none (by rw [← Array.length_toList]; (first | lia | omega))) fun h' he => ⟨none, _, rfl, R.del (tk := s.toks) e he, h⟩
theorem nx_rg {x n : Int} (e : σ.H it = some (.ri x n)) (hn : 0 < n) (h : O (some (.int x)) (σ.set it (.ri (x + 1) (n - 1)))) : c.Nx E it O σ := fun s R => by
  have hi : IsRangeIter s.heap it x n 1 := by obtain ⟨g, δ, D⟩ := R.hp; exact D.at_ it _ e
  exact wpAny_pyNext_range_item hi hn fun h' hi' hs => ⟨some (.int x), _, ⟨_, rfl, _, rfl⟩, R.put (o' := .ri (x + 1) (n - 1)) (tk := s.toks + 1) e hs (fun d => hi') rfl, h⟩
theorem nx_rgE {x n : Int} (e : σ.H it = some (.ri x n)) (hn : n ≤ 0) (h : O none ⟨σ.m, σ.H.del it⟩) (hh : c.A.handled = none := by exact Cx.Room.hh (by assumption)) : c.Nx E it O σ := fun s R => by
  have hi : IsRangeIter s.heap it x n 1 := by obtain ⟨g, δ, D⟩ := R.hp; exact D.at_ it _ e
  exact wpAny_pyNext_range_end hh hi hn fun h' he => ⟨none, _, rfl, R.del (tk := s.toks) e he, h⟩
theorem nx_str {x : Str} {k : Nat} (e : σ.H it = some (.si x i)) (hx : x.cps[i]? = some k) (h : O (some (.str ⟨#[k]⟩)) (σ.set it (.si x (i + 1)))) : c.Nx E it O σ := fun s R => by
  obtain ⟨t, hi⟩ : ∃ t, s.heap.IsStrIter it "str_ascii_iterator" x t i := by obtain ⟨g, δ, D⟩ := R.hp; exact D.at_ it _ e
  exact wpAny_pyNext_ascii_item hi hx fun h' hi' hs => ⟨some (.str ⟨#[k]⟩), _, ⟨_, rfl, _, rfl⟩, R.put (o' := .si x (i + 1)) (tk := s.toks + 1) e hs (fun d => ⟨t, hi'⟩) rfl, h⟩
theorem nx_strE {x : Str} (e : σ.H it = some (.si x i)) (hx : x.cps[i]? = none) (h : O none ⟨σ.m, σ.H.del it⟩) (hh : c.A.handled = none := by exact Cx.Room.hh (by assumption)) : c.Nx E it O σ := fun s R => by
  obtain ⟨t, hi⟩ : ∃ t, s.heap.IsStrIter it "str_ascii_iterator" x t i := by obtain ⟨g, δ, D⟩ := R.hp; exact D.at_ it _ e
  exact wpAny_pyNext_ascii_end hh hi hx fun h' he => ⟨none, _, rfl, R.del (tk := s.toks) e he, h⟩
theorem as_name {x : Str} {p : Pos} {v : V} (h : c.Store E x v N σ) : c.Asg E (.Name x p) v N σ := fun w hw s R => wpAny_assign_Name (h w hw s R)
theorem f_range1 {j : Int} (h : ∀ n, σ.H n = none → Q (.ref n) (σ.set n (.rg 0 j))) : c.Call E (.type "range") [.int j] Q σ := by
  intro xs hx s R
  replace hx := vr1 hx
  obtain ⟨_, rfl, ⟨t, hx⟩⟩ := hx
  cases hx
  exact call_range_1 ⟨.ref _, _, rfl, R.new (o := .rg 0 j) (tk := s.toks + 1 + 1) (Nat.le_refl _) (fun b x e => Heap.get?_push_of_some _ e) (fun d => ⟨_, _, _, Heap.get?_push_size _ rfl⟩) rfl, h _ (R.non (Nat.le_refl _))⟩
end
end Rk

end
section
set_option tactic.hygienic false
namespace Rk
noncomputable def Cx.comp (c : Cx) (s : Shared) (scope : Scope) (cl : List (Str × Addr)) (L' : Addr) : Cx :=
  { c with A₀ := c.A, h₀ := ground c.h₀ c.L s.heap, outer := c.fl, sc := relabel scope c.env, L := L', fa := none, cl := cl, inn := true }
theorem Rel0.inC {c : Cx} {σ : St} {s : Shared} (R : Rel0 c σ s) {scope : Scope} {cl : List (Str × Addr)} {h₁ : Heap} {m' : Str → Option Value} {tk : Nat} {L' : Addr} (hL : s.heap.objs.size ≤ L') (hk : scope.kind = .function)
    (hns : h₁.Ns L' m') (kp : ∀ b o, s.heap.get? b = some o → h₁.get? b = some o) : Rel0 (c.comp s scope cl L') ⟨fun _ => none, σ.H⟩ { s with heap := h₁, toks := tk } := by
  obtain ⟨m, F⟩ := R.fr
  obtain ⟨δ, D⟩ := R.hp
  have g := R.grd
  refine ⟨⟨g.1, g.2.1, g.2.2.1, R.ok.fr, rfl, hk, R.ok.XB, R.ok.TB, g.2.2.2⟩, ⟨m', ⟨hns, fun b o e => kp _ _ (ground_of e), Nat.le_trans (Nat.le_of_eq ground_size) hL⟩, fun x v e => by cases e⟩, ⟨δ, (D.grow kp).at_, fun a o e => ?_, fun a o e i => ?_, D.inj⟩, R.g, R.d, R.o⟩
  · obtain ⟨x, hx⟩ := (D.at_ a o e).ex
    exact ⟨Nat.ne_of_lt (Nat.lt_of_lt_of_le (Heap.lt_size hx) hL), ground_none (D.off a o e).1 (D.off a o e).2⟩
  · obtain ⟨es, n, hx⟩ := (D.at_ a o e).exD i
    have z := D.doff a o e i
    exact ⟨Nat.ne_of_lt (Nat.lt_of_lt_of_le (Heap.lt_size hx) hL), ground_none z.1 z.2.1, z.2.2⟩
noncomputable def Unk (c : Cx) (σ : St) (C : Addr) (h : Heap) : Prop := (∃ δ, RelD c.h₀ c.L δ σ.H h ∧ σ.H C = none ∧ ∀ a o, σ.H a = some o → o.isInst = true → δ a ≠ C) ∧ c.h₀.get? C = none ∧ C ≠ c.L
theorem Rel0.outC {c : Cx} {σ σ' : St} {s s' : Shared} (R : Rel0 c σ s) {scope : Scope} {cl : List (Str × Addr)} {L' : Addr} (R' : Rel (c.comp s scope cl L') σ' s') :
    ∃ g₂, KtsTurn c.fs c.h₀ g₂ ∧ Rel0 (c.at g₂) ⟨σ.m, σ'.H⟩ s' ∧ Unk (c.at g₂) σ' L' s'.heap := by
  obtain ⟨g₁, T₁, R'⟩ := R'
  obtain ⟨g₂, m, T, ok, F₂, l, off⟩ := R.retreat T₁
  obtain ⟨m', F', _⟩ := R'.loc
  obtain ⟨δ, D⟩ := R'.hp
  obtain ⟨oL, es, ep, hL, r⟩ := F₂.ns
  have DD : RelD g₂ c.L δ σ'.H s'.heap := ⟨D.at_, fun a o e => by
    have z := off a (D.off a o e).2
    exact ⟨z.2, z.1⟩, fun a o e i => by
    have z := D.doff a o e i
    have z' := off _ z.2.1
    exact ⟨z'.2, z'.1, z.2.2⟩, D.inj⟩
  have gn : g₁.get? L' = none := by
    cases q : g₁.get? L' with
    | none => rfl
    | some o => exact absurd (Nat.lt_of_lt_of_le (Heap.lt_size q) F'.above) (Nat.lt_irrefl _)
  refine ⟨g₂, T, ⟨ok, ⟨m, ⟨⟨oL, es, ep, F'.keep _ _ hL, r⟩, fun b o e => F'.keep _ _ (F₂.keep b o e), F₂.above⟩, l⟩, ⟨δ, DD⟩, R'.g, R'.d, R'.o⟩, ⟨δ, DD, ?_, fun a o e i => (D.doff a o e i).1⟩, (off _ gn).1, (off _ gn).2⟩
  cases q : σ'.H L' with
  | none => rfl
  | some o => exact absurd rfl (D.off L' o q).1
theorem Rel0.unk {c : Cx} {σ : St} {s : Shared} (R : Rel0 c σ s) {C : Addr} (u : Unk c σ C s.heap) {h' : Heap} (hs : Heap.SameBut C s.heap h') : Rel0 c σ { s with heap := h' } := by
  obtain ⟨⟨δ, D, h1, h2⟩, h3, h4⟩ := u
  obtain ⟨m, F, l⟩ := R.loc
  exact ⟨R.ok, ⟨m, ⟨F.ns.sameBut hs (Ne.symm h4), fun b o e => (hs.2 b (fun q => by rw [q, h3] at e; cases e)).trans (F.keep b o e), F.above⟩, l⟩, ⟨δ, D.other (KeepBut.of hs) h1 h2⟩, R.g, R.d, R.o⟩
noncomputable def CEnd (c : Cx) (U : St → Prop) (r : Result) (s' : Shared) : Prop := match r with
  | .ok _ => ∃ σ', Rel c σ' s' ∧ U σ'
  | .error _ => False
noncomputable def Cx.CLoop (c : Cx) (e : Expr) (it acc : Addr) (U : St → Prop) (σ : St) : Prop :=
  ∀ s, Rel c σ s → codeAny (model c.D.prog c.D.w) c.A (.compLoop e 0 (.ref it) (.ref acc) c.env) (CEnd c U) s
section
variable {c : Cx} {E : Value → Shared → Prop} {σ : St} {Q : V → St → Prop} {U : St → Prop} {it acc : Addr} {elt target iter : Expr} {scope : Scope} {pos : Pos}
theorem cl_turn0 (h : c.Nx Nope it (c.OTurn target U (fun σ₂ => c.Ev Nope elt (fun x σ₃ => c.Call Nope (.builtin "list.append") [.ref acc, x] (fun _ σ₄ => c.CLoop (.ListComp elt [⟨target, iter, [], 0⟩] scope pos) it acc U σ₄) σ₃) σ₂)) σ)
    (ht : isNm target = true := by with_unfolding_all rfl) : c.CLoop (.ListComp elt [⟨target, iter, [], 0⟩] scope pos) it acc U σ := fun s R => by
  refine codeAny_of_tree ?_
  show wpAny _ c.A ((compTurn (.ListComp elt [⟨target, iter, [], 0⟩] scope pos) 0 (.ref it) (.ref acc) c.env).onRaise (fun x => do noteFrame x c.env; theTreesLotGoes x)) _ _ s
  refine wpAny_onRaise (wpAny_mono (E := Nope) ?_ (fun _ _ x => x) fun _ _ e => e.elim)
  rw [compTurn_list1]
  refine wpAny_bind (wpAny_standAt (wpAny_bind (wpAny_mono (h s R) (fun r s₁ h₁ => ?_) fun _ _ e => e)))
  obtain ⟨o, σ₁, ho, R₁, h₁⟩ := h₁
  cases o with
  | none =>
    cases ho
    exact wpAny_pure ⟨σ₁, R₁, h₁⟩
  | some v =>
    obtain ⟨w, rfl, hv⟩ := ho
    refine wpAny_bind (wpAny_of_eq (letGo_nm ht _ _) ?_)
    refine wpAny_bind (wpAny_mono (h₁ w hv s₁ R₁) (fun _ s₂ h₂ => ?_) fun _ _ e => e)
    obtain ⟨_, σ₂, _, R₂, h₂⟩ := h₂
    refine wpAny_bind (wpAny_bind (wpAny_mono (h₂ s₂ R₂) (fun x s₃ ⟨b, σ₃, hb, R₃, h₃⟩ => wpAny_bind (wpAny_mono (h₃ [.ref acc, x] ⟨rfl, hb, trivial⟩ s₃ R₃) (fun _ s₄ ⟨_, σ₄, _, R₄, h₄⟩ => wpAny_pure (wpAny_pure ?_)) fun _ _ e => e)) fun _ _ e => e))
    exact ⟨rfl, h₄ s₄ R₄⟩
theorem it_self {σ : St} {s : Shared} {o : MO} {Q : Value → Shared → Prop} (R : Rel c σ s) (e : σ.H it = some o) (ho : o.isIt = true) (h : Q (.ref it) s) : wpAny (model c.D.prog c.D.w) c.A (pyIter (.ref it)) Q E s := by
  obtain ⟨g, δ, D⟩ := R.hp
  have m := D.at_ it _ e
  cases o with
  | li l i => exact wpAny_pyIter_listiter m h
  | ti l i => exact wpAny_pyIter_tupleiter m h
  | ri x n => exact wpAny_pyIter_rangeiter m h
  | _ => cases ho
noncomputable def Cx.Block (c : Cx) (e : Expr) (scope : Scope) (cl : List (Str × Addr)) (Q : V → St → Prop) (v : V) (σ₂ : St) : Prop :=
  ∃ it o, v = .ref it ∧ σ₂.H it = some o ∧ o.isIt = true ∧ ∀ acc, σ₂.H acc = none → ∀ c' : Cx, c'.D = c.D → c'.sc = relabel scope c.env → c'.cl = cl → (∀ d, c.Room d → c'.Room d) →
    c'.CLoop e it acc (fun σ₃ => Q (.ref acc) ⟨σ₂.m, σ₃.H⟩) ⟨fun _ => none, σ₂.H.set acc (.list [])⟩
theorem block_run {cl : List (Str × Addr)} {g : Comprehension} (hg : g = ⟨target, iter, g.ifs, 0⟩) {v : V} {x : Value} {s₂ : Shared} {σ₂ : St} (hcell : ∀ y ∈ scope.names, y.2 ≠ .cell) (hk : scope.kind = .function) (hv : VRel v x) (R : Rel c σ₂ s₂)
    (h : c.Block (.ListComp elt [g] scope pos) scope cl Q v σ₂) :
    wpAny (model c.D.prog c.D.w) c.A (newList []) (fun ac s₃ => wpAny (model c.D.prog c.D.w) c.A (newFunctionEnv scope c.env.globals cl [] c.env.qual none .none (some c.env)) (fun cenv s₄ =>
      codeAny (model c.D.prog c.D.w) c.A (.compStart (.ListComp elt [g] scope pos) 0 x ac { cenv with scope := relabel scope c.env })
        (fun r s' => match r with | .error _ => False | .ok _ => (∃ m, s'.heap.Ns cenv.locals m) ∧ ∃ a σ' g', ac = .ref a ∧ KtsTurn c.fs c.h₀ g' ∧ Rel0 (c.at g') σ' s' ∧ Unk (c.at g') σ' cenv.locals s'.heap ∧ Q (.ref a) σ') s₄) E s₃) E s₂ := by
  obtain ⟨it, oi, rfl, hoi, hit, h⟩ := h
  cases hv
  refine wpAny_newObj_type (wpAny_newFunctionEnv hcell (by intro y hy; simp at hy) (fun h₁ hns₁ hsb₁ => ?_) hk)
  dsimp only at hns₁ hsb₁ ⊢
  generalize hH2 : s₂.heap.push { cls := .type "list", dict := none, data := .seq ([] : List Value).toArray } = H2 at hns₁ hsb₁ ⊢
  have hC : H2.objs.size = s₂.heap.objs.size + 1 := by rw [← hH2, Heap.size_push]
  have hHk : ∀ b o, s₂.heap.get? b = some o → H2.get? b = some o := fun b o e => hH2 ▸ Heap.get?_push_of_some _ e
  have hn := R.non (Nat.le_refl _)
  obtain ⟨gg, T, R⟩ := R
  have R₂ : Rel0 (c.at gg) (σ₂.set s₂.heap.objs.size (.list [])) { s₂ with heap := H2, toks := s₂.toks } := R.new (o := .list []) (Nat.le_refl _) hHk (fun d => mkl (ws := #[]) (hH2 ▸ Heap.get?_push_size _ rfl) trivial) rfl
  have kp : ∀ b o, H2.get? b = some o → h₁.get? b = some o := fun b o e => by
    have lt := Heap.lt_size e
    exact (hsb₁.2 b (Nat.ne_of_lt lt)).trans (Heap.get?_push_of_some _ e)
  have R₃ : Rel0 ((c.at gg).comp { s₂ with heap := H2, toks := s₂.toks } scope cl H2.objs.size) ⟨fun _ => none, (σ₂.set s₂.heap.objs.size (.list [])).H⟩ { s₂ with heap := h₁, toks := s₂.toks + ([] : List (Str × Value)).length } :=
    R₂.inC (scope := scope) (cl := cl) (tk := s₂.toks + ([] : List (Str × Value)).length) (Nat.le_refl _) hk hns₁ kp
  have key := h s₂.heap.objs.size hn ((c.at gg).comp { s₂ with heap := H2, toks := s₂.toks } scope cl H2.objs.size) rfl rfl rfl (fun d r => ⟨r.1, r.2, r.hh⟩) _ R₃.rel
  have fin : codeAny (model c.D.prog c.D.w) c.A (.compLoop (.ListComp elt [g] scope pos) 0 (.ref it) (.ref s₂.heap.objs.size) (c.comp { s₂ with heap := H2, toks := s₂.toks } scope cl H2.objs.size).env)
        (fun r s' => match r with | .error _ => False | .ok _ => (∃ m, s'.heap.Ns H2.objs.size m) ∧ ∃ a σ' g', (Value.ref s₂.heap.objs.size) = .ref a ∧ KtsTurn c.fs c.h₀ g' ∧ Rel0 (c.at g') σ' s' ∧ Unk (c.at g') σ' H2.objs.size s'.heap ∧ Q (.ref a) σ') { s₂ with heap := h₁, toks := s₂.toks + ([] : List (Str × Value)).length } :=
    codeAny_mono key fun r s' x => by
      unfold CEnd at x
      cases r with
      | error e => exact x.elim
      | ok f =>
        obtain ⟨σ', R', u⟩ := x
        obtain ⟨_, m', F'⟩ := R'.fr
        obtain ⟨g₂, T₂, R₄, U⟩ := Rel0.outC (σ := ⟨σ₂.m, (σ₂.set s₂.heap.objs.size (.list [])).H⟩) R₂ R'
        exact ⟨⟨m', F'.ns⟩, _, ⟨σ₂.m, σ'.H⟩, g₂, rfl, T.trans T₂, R₄, U, u⟩
  rw [hg] at fin ⊢
  refine codeAny_compStart_list fin ?_
  have ne : σ₂.H.set s₂.heap.objs.size (.list []) it = some oi := (Hp.set_ne _ _ (fun q => by rw [q, hn] at hoi; cases hoi)).trans hoi
  exact it_self (c := (c.at gg).comp { s₂ with heap := H2, toks := s₂.toks } scope cl H2.objs.size) R₃.rel ne hit fin
theorem w_comp {cl : List (Str × Addr)} {g : Comprehension} (hcl : closureFor scope c.env = pure cl) (h : c.Ev E g.iter (fun v σ₁ => c.Itr E v (c.Block (.ListComp elt [g] scope pos) scope cl Q) σ₁) σ)
    (hcell : ∀ y ∈ scope.names, y.2 ≠ .cell := by decide) (hk : scope.kind = .function := by rfl) (hnames : ∀ x ∈ scope.names, x.2 = .local → scope.names.lookup x.1 = some .local := by decide)
    (hg : g = ⟨g.target, g.iter, g.ifs, 0⟩ := by rfl) (hs : ∀ env x, foldedSetIterable g.iter env x = pure x := by intro _ _; with_unfolding_all rfl) : c.Ev E (.ListComp elt [g] scope pos) Q σ := fun s R => by
  show wpAny _ _ (eval (.ListComp elt [g] scope pos) c.env) _ _ _
  rw [eval_ListComp]
  have e1 : firstIter [g] c.env = eval g.iter c.env := by rw [hg]; rfl
  have e2 : firstAsync [g] = false := by rw [hg]; rfl
  rw [e1, e2]
  refine wpAny_comprehension_free (use := none) rfl (hs _) hcl hk hnames (wpAny_mono (h s R) (fun xv s₁ ⟨v, σ₁, hv, R₁, h₁⟩ => wpAny_mono (h₁ xv hv s₁ R₁) (fun x s₂ ⟨u, σ₂, hu, R₂, h₂⟩ => ?_) fun _ _ e => e) fun _ _ e => e)
  refine wpAny_mono (block_run (target := g.target) (iter := g.iter) hg hcell hk hu R₂ h₂) (fun ac s₃ h₃ => wpAny_mono h₃ (fun cenv s₄ h₄ => codeAny_mono h₄ fun r s' h₅ => ?_) fun _ _ e => e) fun _ _ e => e
  cases r with
  | error e => exact h₅.elim
  | ok f =>
    obtain ⟨⟨m, hn⟩, a, σ', g', rfl, T, R', u, q⟩ := h₅
    exact ⟨m, hn, fun h' hs' => ⟨.ref a, σ', rfl, ⟨g', T, R'.unk u hs'⟩, q⟩⟩
theorem s_comp {cl : List (Str × Addr)} {g : Comprehension} {y : Str} {py spos : Pos} {U : Fl → St → Prop} (hcl : closureFor scope c.env = pure cl) (h : c.Ev E g.iter (fun v σ₁ => c.Itr E v (c.Block (.ListComp elt [g] scope pos) scope cl (fun v σ₂ => Lc c.env y ∧ U .next (σ₂.up y v))) σ₁) σ)
    (hsw : swapsWith (.ListComp elt [g] scope pos) (some (.Name y py)) spos.line c.env = pure true)
    (hcell : ∀ y ∈ scope.names, y.2 ≠ .cell := by decide) (hk : scope.kind = .function := by rfl) (hnames : ∀ x ∈ scope.names, x.2 = .local → scope.names.lookup x.1 = some .local := by decide)
    (hg : g = ⟨g.target, g.iter, g.ifs, 0⟩ := by rfl) (hs : ∀ env x, foldedSetIterable g.iter env x = pure x := by intro _ _; with_unfolding_all rfl) : c.S E (.Assign [.Name y py] (.ListComp elt [g] scope pos) spos) U σ := fun s R => by
  show wpAny _ _ (exec (.Assign [.Name y py] (.ListComp elt [g] scope pos) spos) c.env) _ _ _
  rw [exec_Assign_Name_used _ _ _ _ hsw]
  refine wpAny_bind (wpAny_standAt (wpAny_bind ?_))
  have e1 : firstIter [g] c.env = eval g.iter c.env := by rw [hg]; rfl
  have e2 : firstAsync [g] = false := by rw [hg]; rfl
  show wpAny _ c.A (do let _ ← comprehension (.ListComp elt [g] scope pos) scope c.env _ (newList []) (firstAsync [g]) (firstIter [g] c.env) (some (assign (.Name y py) c.env))) _ _ s
  rw [e1, e2]
  refine wpAny_bind (wpAny_mono (wpAny_comprehension_free (use := some (assign (.Name y py) c.env)) (Q := fun _ s' => ∃ b σ', FRel b .next ∧ Rel c σ' s' ∧ U b σ') rfl (hs _) hcl hk hnames
    (wpAny_mono (h s R) (fun xv s₁ ⟨v, σ₁, hv, R₁, h₁⟩ => wpAny_mono (h₁ xv hv s₁ R₁) (fun x s₂ ⟨u, σ₂, hu, R₂, h₂⟩ => ?_) fun _ _ e => e) fun _ _ e => e)) (fun _ s' hq => wpAny_pure (wpAny_pure hq)) fun _ _ e => e)
  refine wpAny_mono (block_run (target := g.target) (iter := g.iter) hg hcell hk hu R₂ h₂) (fun ac s₃ h₃ => wpAny_mono h₃ (fun cenv s₄ h₄ => codeAny_mono h₄ fun r s' h₅ => ?_) fun _ _ e => e) fun _ _ e => e
  cases r with
  | error e => exact h₅.elim
  | ok f =>
    obtain ⟨⟨m, hn⟩, a, σ', g', rfl, T, R', u, hlc, q⟩ := h₅
    obtain ⟨mm, F, l⟩ := R'.loc
    obtain ⟨⟨δ, D, hU1, hU2⟩, hU3, hU4⟩ := u
    show wpAny _ c.A (assign (.Name y py) c.env (.ref a)) _ _ _
    refine wpAny_assign_Name (wpAny_storeName_local (env := c.env) hlc.1 F.ns (fun h₂ hn₂ hs₂ => ?_) (by
      show (c.sc.kind == .class || (c.sc.kind == .module && c.L != mainGlobals)) = false
      rw [R.ke]; rfl))
    have R₂ : Rel0 (c.at g') (σ'.up y (.ref a)) { s' with heap := h₂, toks := s'.toks + 1 } := R'.up F l hlc (show VRel (.ref a) (.ref a) from rfl) (F.set hn₂ hs₂) hs₂
    have u₂ : Unk (c.at g') (σ'.up y (.ref a)) cenv.locals h₂ := by
      refine ⟨⟨δ, RelD.other D (KeepBut.of hs₂) ?_ fun a o e i => (D.doff a o e i).1, hU1, hU2⟩, hU3, hU4⟩
      show σ'.H c.L = none
      cases q : σ'.H c.L with
      | none => rfl
      | some o => exact absurd rfl (D.off c.L o q).1
    exact ⟨m, hn.sameBut hs₂ hU4, fun h₃ hs₃ => ⟨.next, σ'.up y (.ref a), rfl, ⟨g', T, R₂.unk u₂ hs₃⟩, q⟩⟩
end
end Rk

end
section
open PySem PySem.W PySem.Calls PyProof.Rows PySem.SeqAt
set_option tactic.hygienic false
namespace Rk
inductive Dt where
  | none | bool (b : Bool) | int (i : Int) | str (x : Str) | bytes (b : Array UInt8) | tup (ds : List Dt) | list (ds : List Dt)
mutual
noncomputable def DIs (H : Hp) (v : V) : Dt → Prop
  | .none => v = .none
  | .bool b => v = .bool b
  | .int i => v = .int i
  | .str x => v = .str x
  | .bytes b => v = .bytes b
  | .tup ds => ∃ a vs, v = .ref a ∧ H a = some (.tup vs) ∧ DsIs H vs ds
  | .list ds => ∃ a vs, v = .ref a ∧ H a = some (.list vs) ∧ DsIs H vs ds
noncomputable def DsIs (H : Hp) : List V → List Dt → Prop
  | [], [] => True
  | v :: vs, d :: ds => DIs H v d ∧ DsIs H vs ds
  | _, _ => False
end
mutual
noncomputable def eqd : Dt → Dt → Bool
  | .none, .none => true
  | .bool a, .bool b => a == b
  | .int a, .int b => a == b
  | .str a, .str b => a == b
  | .bytes a, .bytes b => a.toList == b.toList
  | .tup ds, .tup es => eqds ds es
  | .list ds, .list es => eqds ds es
  | _, _ => false
noncomputable def eqds : List Dt → List Dt → Bool
  | [], [] => true
  | d :: ds, e :: es => eqd d e && eqds ds es
  | _, _ => false
end
mutual
noncomputable def likd : Dt → Dt → Bool
  | .none, .none => true
  | .bool _, .bool _ => true
  | .int _, .int _ => true
  | .str _, .str _ => true
  | .bytes _, .bytes _ => true
  | .tup ds, .tup es => likds ds es
  | .list ds, .list es => likds ds es
  | _, _ => false
noncomputable def likds : List Dt → List Dt → Bool
  | d :: ds, e :: es => likd d e && likds ds es
  | _, _ => true
end
mutual
noncomputable def dep : Dt → Nat
  | .tup ds => deps ds + 1
  | .list ds => deps ds + 1
  | _ => 0
noncomputable def deps : List Dt → Nat
  | [] => 0
  | d :: ds => max (dep d) (deps ds)
end
mutual
theorem eqd_refl : ∀ d, eqd d d = true
  | .none => by simp [eqd]
  | .bool _ => by simp [eqd]
  | .int _ => by simp [eqd]
  | .str _ => by simp [eqd]
  | .bytes _ => by simp [eqd]
  | .tup ds => by simp only [eqd]; exact eqds_refl ds
  | .list ds => by simp only [eqd]; exact eqds_refl ds
theorem eqds_refl : ∀ ds, eqds ds ds = true
  | [] => by simp [eqds]
  | d :: ds => by simp only [eqds, eqd_refl d, eqds_refl ds, Bool.and_self]
end
mutual
theorem likd_refl : ∀ d, likd d d = true
  | .none => by simp [likd]
  | .bool _ => by simp [likd]
  | .int _ => by simp [likd]
  | .str _ => by simp [likd]
  | .bytes _ => by simp [likd]
  | .tup ds => by simp only [likd]; exact likds_refl ds
  | .list ds => by simp only [likd]; exact likds_refl ds
theorem likds_refl : ∀ ds, likds ds ds = true
  | [] => by simp [likds]
  | d :: ds => by simp only [likds, likd_refl d, likds_refl ds, Bool.and_self]
end
mutual
theorem DIs.one {H : Hp} : ∀ {d e : Dt} {v : V}, DIs H v d → DIs H v e → d = e
  | .none, e, v, h, k => by simp only [DIs] at h; subst h; cases e <;> simp_all [DIs]
  | .bool _, e, v, h, k => by simp only [DIs] at h; subst h; cases e <;> simp_all [DIs]
  | .int _, e, v, h, k => by simp only [DIs] at h; subst h; cases e <;> simp_all [DIs]
  | .str _, e, v, h, k => by simp only [DIs] at h; subst h; cases e <;> simp_all [DIs]
  | .bytes _, e, v, h, k => by simp only [DIs] at h; subst h; cases e <;> simp_all [DIs]
  | .tup ds, e, v, h, k => by
    simp only [DIs] at h
    obtain ⟨a, vs, rfl, ha, hd⟩ := h
    cases e with
    | tup es =>
      simp only [DIs] at k
      obtain ⟨b, us, hb, hu, he⟩ := k
      cases hb
      rw [ha] at hu; cases hu
      rw [DsIs.one hd he]
    | list es =>
      simp only [DIs] at k
      obtain ⟨b, us, hb, hu, he⟩ := k
      cases hb
      rw [ha] at hu; cases hu
    | _ => simp [DIs] at k
  | .list ds, e, v, h, k => by
    simp only [DIs] at h
    obtain ⟨a, vs, rfl, ha, hd⟩ := h
    cases e with
    | list es =>
      simp only [DIs] at k
      obtain ⟨b, us, hb, hu, he⟩ := k
      cases hb
      rw [ha] at hu; cases hu
      rw [DsIs.one hd he]
    | tup es =>
      simp only [DIs] at k
      obtain ⟨b, us, hb, hu, he⟩ := k
      cases hb
      rw [ha] at hu; cases hu
    | _ => simp [DIs] at k
theorem DsIs.one {H : Hp} : ∀ {ds es : List Dt} {vs : List V}, DsIs H vs ds → DsIs H vs es → ds = es
  | [], [], [], _, _ => rfl
  | d :: ds, e :: es, v :: vs, h, k => by
    simp only [DsIs] at h k
    rw [DIs.one h.1 k.1, DsIs.one h.2 k.2]
  | [], _ :: _, [], _, k => by simp [DsIs] at k
  | [], _, _ :: _, h, _ => by simp [DsIs] at h
  | _ :: _, _, [], h, _ => by simp [DsIs] at h
  | _ :: _, [], _ :: _, _, k => by simp [DsIs] at k
end
mutual
theorem DIs.le {H H' : Hp} (l : H.Le H') : ∀ {d : Dt} {v : V}, DIs H v d → DIs H' v d
  | .none, _, h => by simpa only [DIs] using h
  | .bool _, _, h => by simpa only [DIs] using h
  | .int _, _, h => by simpa only [DIs] using h
  | .str _, _, h => by simpa only [DIs] using h
  | .bytes _, _, h => by simpa only [DIs] using h
  | .tup ds, _, h => by
    simp only [DIs] at h ⊢
    obtain ⟨a, vs, e, ha, hd⟩ := h
    exact ⟨a, vs, e, l _ _ ha, DsIs.le l hd⟩
  | .list ds, _, h => by
    simp only [DIs] at h ⊢
    obtain ⟨a, vs, e, ha, hd⟩ := h
    exact ⟨a, vs, e, l _ _ ha, DsIs.le l hd⟩
theorem DsIs.le {H H' : Hp} (l : H.Le H') : ∀ {ds : List Dt} {vs : List V}, DsIs H vs ds → DsIs H' vs ds
  | [], [], _ => by simp [DsIs]
  | d :: ds, v :: vs, h => by
    simp only [DsIs] at h ⊢
    exact ⟨DIs.le l h.1, DsIs.le l h.2⟩
  | [], _ :: _, h => by simp [DsIs] at h
  | _ :: _, [], h => by simp [DsIs] at h
end
theorem DsIs.length {H : Hp} : ∀ {ds : List Dt} {vs : List V}, DsIs H vs ds → vs.length = ds.length
  | [], [], _ => rfl
  | d :: ds, v :: vs, h => by
    simp only [DsIs] at h
    rw [List.length_cons, List.length_cons, DsIs.length h.2]
  | [], _ :: _, h => by simp [DsIs] at h
  | _ :: _, [], h => by simp [DsIs] at h
noncomputable def eqAt (ds es : List Dt) (j : Nat) : Bool := match ds[j]?, es[j]? with
  | some d, some e => eqd d e
  | _, _ => true
theorem eqAt_all : ∀ ds es : List Dt, ((List.range (min ds.length es.length)).all (eqAt ds es) && ds.length == es.length) = eqds ds es
  | [], [] => by simp [eqds]
  | [], _ :: _ => by simp [eqds]
  | _ :: _, [] => by simp [eqds]
  | d :: ds, e :: es => by
    have ih := eqAt_all ds es
    have m : min (d :: ds).length (e :: es).length = min ds.length es.length + 1 := by simp only [List.length_cons]; (first | lia | omega)
    rw [m, List.range_succ_eq_map, List.all_cons, List.all_map, eqds, ← ih, Bool.and_assoc]
    have l : ((d :: ds).length == (e :: es).length) = (ds.length == es.length) := by
      rw [Bool.eq_iff_iff]; simp
    have q : (eqAt (d :: ds) (e :: es) ∘ Nat.succ) = eqAt ds es := by
      funext j; simp [eqAt]
    rw [l, q]
    rfl
section
variable {c : Cx} {σ : St} {s : Shared}
theorem rc_bytes (A : Around) (s : Shared) (b : Array UInt8) (t : Tok) (b' : Array UInt8) (u : Tok) : RcAt A s (.bytes b t) (.bytes b' u) (b.toList == b'.toList) := fun prog w E Q h => by
  exact eq_bytes (prog := prog) (w := w) (A := A) (E := E) h
theorem ea_bytes (A : Around) (s : Shared) (b : Array UInt8) (t : Tok) (b' : Array UInt8) (u : Tok) : EqAt A s (.bytes b t) (.bytes b' u) (b.toList == b'.toList) := fun prog w E Q hq => by
  unfold eqBool
  refine wpAny_holding ?_
  refine wpAny_ite_split (fun hab => ?_) (fun _ => ?_)
  · have := eq_of_beq hab
    injection this with h1 h2
    subst h1
    exact wpAny_bind (wpAny_rule (wpAny_pure (by simpa using hq)))
  · exact wpAny_bind (rc_bytes A s b t b' u prog w E _ (wpAny_truthy_bool hq))
theorem ea_none (A : Around) (s : Shared) : EqAt A s .none .none true := EqAt.same _
theorem ea_int (A : Around) (s : Shared) (a : Int) (t : Tok) (b : Int) (u : Tok) : EqAt A s (.int a t) (.int b u) (a == b) := (PySem.MeetsSeq.EqGives.int a b t u).at A s
theorem ea_str (A : Around) (s : Shared) (a : Str) (t : Tok) (b : Str) (u : Tok) : EqAt A s (.str a t) (.str b u) (a == b) := (PyProof.Rows.eqGives_str a b t u).at A s
theorem ea_bool (A : Around) (s : Shared) (a b : Bool) : EqAt A s (.bool a) (.bool b) (a == b) := fun prog w E Q hq => by
  unfold eqBool
  refine wpAny_holding ?_
  refine wpAny_ite_split (fun hab => ?_) (fun _ => ?_)
  · have := eq_of_beq hab
    injection this with h1
    subst h1
    exact wpAny_bind (wpAny_rule (wpAny_pure (by simpa using hq)))
  · exact wpAny_bind (PyProof.Rows.eq_bool (wpAny_truthy_bool hq))
mutual
theorem deep_eq (R : Rel c σ s) : ∀ (d e : Dt) (A : Around) (v u : V) (x y : Value), DIs σ.H v d → DIs σ.H u e → VRel v x → VRel u y → likd d e = true → A.units + dep d < cLine → EqAt A s x y (eqd d e)
  | .none, e, A, v, u, x, y, h, k, hx, hy, l, hu => by
    cases e <;> simp [likd] at l
    simp only [DIs] at h k
    subst h k; cases hx; cases hy
    simp only [eqd]; exact ea_none A s
  | .bool _, e, A, v, u, x, y, h, k, hx, hy, l, hu => by
    cases e <;> simp [likd] at l
    simp only [DIs] at h k
    subst h k; cases hx; cases hy
    simp only [eqd]; exact ea_bool A s _ _
  | .int _, e, A, v, u, x, y, h, k, hx, hy, l, hu => by
    cases e <;> simp [likd] at l
    simp only [DIs] at h k
    subst h k; obtain ⟨t, rfl⟩ := hx; obtain ⟨t', rfl⟩ := hy
    simp only [eqd]; exact ea_int A s _ _ _ _
  | .str _, e, A, v, u, x, y, h, k, hx, hy, l, hu => by
    cases e <;> simp [likd] at l
    simp only [DIs] at h k
    subst h k; obtain ⟨t, rfl⟩ := hx; obtain ⟨t', rfl⟩ := hy
    simp only [eqd]; exact ea_str A s _ _ _ _
  | .bytes _, e, A, v, u, x, y, h, k, hx, hy, l, hu => by
    cases e <;> simp [likd] at l
    simp only [DIs] at h k
    subst h k; obtain ⟨t, rfl⟩ := hx; obtain ⟨t', rfl⟩ := hy
    simp only [eqd]; exact ea_bytes A s _ _ _ _
  | .tup ds, e, A, v, u, x, y, h, k, hx, hy, l, hu => by
    cases e with
    | tup es =>
      have h' := h
      have k' := k
      simp only [DIs] at h k
      obtain ⟨a, vs, rfl, ha, hd⟩ := h
      obtain ⟨b, us, rfl, hb, he⟩ := k
      cases hx; cases hy
      by_cases q : a = b
      · subst q
        rw [DIs.one h' k', eqd_refl]; exact EqAt.same _
      · refine EqAt.of_refs q ?_
        obtain ⟨xs, n, hg, hr⟩ := R.tup ha
        obtain ⟨ys, n', hg', hr'⟩ := R.tup hb
        have l1 := hr.length; rw [Array.length_toList, hd.length] at l1
        have l2 := hr'.length; rw [Array.length_toList, he.length] at l2
        simp only [eqd]
        rw [← eqAt_all, ← l1, ← l2]
        simp only [dep] at hu
        refine RcAt.tuples (tupOf_is hg) (tupOf_is hg') (by (first | lia | omega)) fun j h1 h2 => ?_
        exact deep_eq_at R ds es A.in1 vs us xs.toList ys.toList hd he hr hr' (by simpa only [likd] using l) (by show A.units + 1 + _ < _; (first | lia | omega)) j (by simpa using h1) (by simpa using h2)
    | _ => simp [likd] at l
  | .list ds, e, A, v, u, x, y, h, k, hx, hy, l, hu => by
    cases e with
    | list es =>
      have h' := h
      have k' := k
      simp only [DIs] at h k
      obtain ⟨a, vs, rfl, ha, hd⟩ := h
      obtain ⟨b, us, rfl, hb, he⟩ := k
      cases hx; cases hy
      by_cases q : a = b
      · subst q
        rw [DIs.one h' k', eqd_refl]; exact EqAt.same _
      · refine EqAt.of_refs q ?_
        obtain ⟨xs, n, hg, hr⟩ := R.list ha
        obtain ⟨ys, n', hg', hr'⟩ := R.list hb
        have l1 := hr.length; rw [Array.length_toList, hd.length] at l1
        have l2 := hr'.length; rw [Array.length_toList, he.length] at l2
        simp only [eqd]
        rw [← eqAt_all]
        simp only [dep] at hu
        by_cases qs : ds.length = es.length
        · have e2 : (ds.length == es.length) = true := by simpa using qs
          rw [e2, Bool.and_true, qs, Nat.min_self, ← qs, ← l1]
          refine RcAt.lists (listOf_is hg) (listOf_is hg') (by (first | lia | omega)) (by (first | lia | omega)) fun j h1 h2 => ?_
          exact deep_eq_at R ds es A.in1 vs us xs.toList ys.toList hd he hr hr' (by simpa only [likd] using l) (by show A.units + 1 + _ < _; (first | lia | omega)) j (by simpa using h1) (by simpa using h2)
        · have e2 : (ds.length == es.length) = false := by simpa using qs
          rw [e2, Bool.and_false]
          exact RcAt.lists_lengths (listOf_is hg) (listOf_is hg') (by simp; (first | lia | omega)) (by (first | lia | omega))
    | _ => simp [likd] at l
theorem deep_eq_at (R : Rel c σ s) : ∀ (ds es : List Dt) (A : Around) (vs us : List V) (xs ys : List Value), DsIs σ.H vs ds → DsIs σ.H us es → VsRel vs xs → VsRel us ys → likds ds es = true → A.units + deps ds < cLine →
    ∀ (j : Nat) (h1 : j < xs.length) (h2 : j < ys.length), EqAt A s xs[j] ys[j] (eqAt ds es j)
  | d :: ds, e :: es, A, v :: vs, u :: us, x :: xs, y :: ys, h, k, hx, hy, l, hu, j, h1, h2 => by
    simp only [DsIs] at h k
    simp only [likds, Bool.and_eq_true] at l
    simp only [deps] at hu
    cases j with
    | zero => simpa [eqAt] using deep_eq R d e A v u x y h.1 k.1 hx.1 hy.1 l.1 (by (first | lia | omega))
    | succ j => simpa [eqAt] using deep_eq_at R ds es A vs us xs ys h.2 k.2 hx.2 hy.2 l.2 (by (first | lia | omega)) j (by simpa using h1) (by simpa using h2)
  | [], _, _, vs, _, xs, _, h, _, hx, _, _, _, j, h1, _ => by
    cases vs with
    | nil => cases xs with
      | nil => cases h1
      | cons => exact hx.elim
    | cons => simp [DsIs] at h
  | _ :: _, [], _, _, us, _, ys, _, k, _, hy, _, _, j, _, h2 => by
    cases us with
    | nil => cases ys with
      | nil => cases h2
      | cons => exact hy.elim
    | cons => simp [DsIs] at k
  | _ :: _, _ :: _, _, [], _, _, _, h, _, _, _, _, _, _, _, _ => by simp [DsIs] at h
  | _ :: _, _ :: _, _, _ :: _, [], _, _, _, k, _, _, _, _, _, _, _ => by simp [DsIs] at k
  | _ :: _, _ :: _, _, _ :: _, _ :: _, [], _, _, _, hx, _, _, _, _, _, _ => hx.elim
  | _ :: _, _ :: _, _, _ :: _, _ :: _, _ :: _, [], _, _, _, hy, _, _, _, _, _ => hy.elim
end
variable {E : Value → Shared → Prop} {Q : V → St → Prop} {a b : Addr} {ds es : List Dt} {d : Nat}
theorem c_neL (r : c.Room d) (h : DIs σ.H (.ref a) (.list ds)) (k : DIs σ.H (.ref b) (.list es)) (l : likds ds es = true) (hd : deps ds ≤ 100) (q : Q (.bool (!eqds ds es)) σ) : c.Cmp E .NotEq (.ref a) (.ref b) Q σ := by
  rintro _ _ rfl rfl s R
  have ru := r.2
  simp only [DIs] at h k
  obtain ⟨_, vs, e1, ha, hd'⟩ := h
  obtain ⟨_, us, e2, hb, he⟩ := k
  cases e1; cases e2
  obtain ⟨xs, n, hg, hr⟩ := R.list ha
  obtain ⟨ys, n', hg', hr'⟩ := R.list hb
  have l1 := hr.length; rw [Array.length_toList, hd'.length] at l1
  have l2 := hr'.length; rw [Array.length_toList, he.length] at l2
  have cl : cLine = 9900 := rfl
  rw [← eqAt_all] at q
  by_cases qs : ds.length = es.length
  · have e2 : (ds.length == es.length) = true := by simpa using qs
    rw [e2, Bool.and_true, qs, Nat.min_self, ← qs, ← l1] at q
    exact RcNeAt.lists (listOf_is hg) (listOf_is hg') (by (first | lia | omega)) (by (first | lia | omega)) (fun j h1 h2 => deep_eq_at R ds es c.A.in1 vs us xs.toList ys.toList hd' he hr hr' l (by show c.A.units + 1 + _ < _; (first | lia | omega)) j (by simpa using h1) (by simpa using h2)) _ _ _ _ ⟨.bool _, σ, rfl, R, q⟩
  · have e2 : (ds.length == es.length) = false := by simpa using qs
    rw [e2, Bool.and_false] at q
    exact RcNeAt.lists_lengths (listOf_is hg) (listOf_is hg') (by simp; (first | lia | omega)) (by (first | lia | omega)) _ _ _ _ ⟨.bool _, σ, rfl, R, q⟩
theorem c_neT (r : c.Room d) (h : DIs σ.H (.ref a) (.tup ds)) (k : DIs σ.H (.ref b) (.tup es)) (l : likds ds es = true) (hd : deps ds ≤ 100) (q : Q (.bool (!eqds ds es)) σ) : c.Cmp E .NotEq (.ref a) (.ref b) Q σ := by
  rintro _ _ rfl rfl s R
  have ru := r.2
  simp only [DIs] at h k
  obtain ⟨_, vs, e1, ha, hd'⟩ := h
  obtain ⟨_, us, e2, hb, he⟩ := k
  cases e1; cases e2
  obtain ⟨xs, n, hg, hr⟩ := R.tup ha
  obtain ⟨ys, n', hg', hr'⟩ := R.tup hb
  have l1 := hr.length; rw [Array.length_toList, hd'.length] at l1
  have l2 := hr'.length; rw [Array.length_toList, he.length] at l2
  have cl : cLine = 9900 := rfl
  rw [← eqAt_all, ← l1, ← l2] at q
  exact RcNeAt.tuples (tupOf_is hg) (tupOf_is hg') (by (first | lia | omega)) (fun j h1 h2 => deep_eq_at R ds es c.A.in1 vs us xs.toList ys.toList hd' he hr hr' l (by show c.A.units + 1 + _ < _; (first | lia | omega)) j (by simpa using h1) (by simpa using h2)) _ _ _ _ ⟨.bool _, σ, rfl, R, q⟩
end
end Rk

end
section
open PySem PySem.W PySem.Calls PyProof.Rows PySem.SeqAt
set_option tactic.hygienic false
namespace Rk
open PySem.AutoSeq1 (wpAny_loadPart')
noncomputable def pge (a b c d : Int) : Bool := if a == c then (if b == d then true else decide (d ≤ b)) else decide (c ≤ a)
noncomputable def pgt (a b c d : Int) : Bool := if a == c then (if b == d then false else decide (d < b)) else decide (c < a)
section
variable {c : Cx} {E : Value → Shared → Prop} {σ : St} {Q : V → St → Prop} {P : Bool → St → Prop} {N : Unit → St → Prop} {i j : Int} {a b : Addr} {vs us : List V} {d : Nat}
end
end Rk

end
section
set_option tactic.hygienic false
namespace Rk
noncomputable def mL (k : Str → Option NameKind) : List Str → List V → (Str → Option V) → Str → Option V
  | x :: xs, v :: vs, m => mL k xs vs (if k x = some .local then fun y => if y = x then some v else m y else m)
  | _, _, m => m
noncomputable def mC (k : Str → Option NameKind) : List Str → List V → (Str → Option V) → Str → Option V
  | x :: xs, v :: vs, m => mC k xs vs (if k x = some .local then m else fun y => if y = x then some v else m y)
  | _, _, m => m
noncomputable def setCells (k : Str → Option V) : List (Str × Addr) → Hp → Hp
  | [], H => H
  | (x, a) :: r, H => (setCells k r H).set a (.cell (k x))
theorem RelD.add {h₀ h : Heap} {L n : Addr} {δ : Addr → Addr} {H : Hp} {o : MO} (R : RelD h₀ L δ H h) (m : ∀ d, MOAt h d n o) (i : o.isInst = false) (hL : n ≠ L) (h0 : h₀.get? n = none) (hd : ∀ b x, H b = some x → x.isInst = true → δ b ≠ n) (hn : H n = none) :
    RelD h₀ L δ (H.set n o) h := by
  refine ⟨fun b x q => ?_, fun b x q => ?_, fun b x q j => ?_, fun b c x y q q' j j' => ?_⟩
  · by_cases hb : b = n
    · subst hb; rw [Hp.set_self] at q; cases q; exact m _
    · rw [Hp.set_ne _ _ hb] at q; exact R.at_ b x q
  · by_cases hb : b = n
    · subst hb; exact ⟨hL, h0⟩
    · rw [Hp.set_ne _ _ hb] at q; exact R.off b x q
  · by_cases hb : b = n
    · subst hb; rw [Hp.set_self] at q; cases q; rw [i] at j; cases j
    · rw [Hp.set_ne _ _ hb] at q
      have z := R.doff b x q j
      refine ⟨z.1, z.2.1, fun c y q' => ?_⟩
      by_cases hc : c = n
      · subst hc; exact hd b x q j
      · rw [Hp.set_ne _ _ hc] at q'; exact z.2.2 c y q'
  · by_cases hb : b = n
    · subst hb; rw [Hp.set_self] at q; cases q; rw [i] at j; cases j
    · by_cases hc : c = n
      · subst hc; rw [Hp.set_self] at q'; cases q'; rw [i] at j'; cases j'
      · rw [Hp.set_ne _ _ hb] at q; rw [Hp.set_ne _ _ hc] at q'; exact R.inj b c x y q q' j j'
end Rk

end
section
open PySem PySem.W PySem.Calls PyProof.Rows PySem.SeqAt
set_option tactic.hygienic false
namespace Rk
theorem VsRel.ints : ∀ {ns : List Int} {ws : List Value}, VsRel (ns.map V.int) ws → IntsAre ws ns
  | [], [], _ => .nil
  | n :: ns, w :: ws, ⟨⟨t, h⟩, r⟩ => by subst h; exact .cons n t (VsRel.ints r)
  | [], _ :: _, h => h.elim
  | _ :: _, [], h => h.elim
theorem VsRel.ofInts : ∀ {ws : List Value} {ns : List Int}, IntsAre ws ns → VsRel (ns.map V.int) ws
  | _, _, .nil => trivial
  | _, _, .cons n t r => ⟨⟨t, rfl⟩, VsRel.ofInts r⟩
section
variable {c : Cx} {E : Value → Shared → Prop} {σ : St} {Q : V → St → Prop} {P : Bool → St → Prop} {N : Unit → St → Prop} {U : Fl → St → Prop} {i j : Int} {a b : Addr} {vs us : List V} {ns : List Int} {d : Nat}
theorem f_max2 (h : Q (.int (max i j)) σ) (hh : c.A.handled = none := by exact Cx.Room.hh (by assumption)) : c.Call E (.builtin "max") [.int i, .int j] Q σ := by
  intro xs hx s R
  replace hx := vr2 hx
  obtain ⟨_, _, rfl, ⟨t, hx⟩, ⟨u, hy⟩⟩ := hx
  cases hx; cases hy
  refine max_two_ints hh fun h' tk hk => ?_
  refine ⟨.int (max i j), σ, ?_, R.grow hk, h⟩
  by_cases q : j > i
  · rw [if_pos q]; exact ⟨u, by rw [show max i j = j by (first | lia | omega)]⟩
  · rw [if_neg q]; exact ⟨t, by rw [show max i j = i by (first | lia | omega)]⟩
theorem f_min2 (h : Q (.int (min i j)) σ) (hh : c.A.handled = none := by exact Cx.Room.hh (by assumption)) : c.Call E (.builtin "min") [.int i, .int j] Q σ := by
  intro xs hx s R
  replace hx := vr2 hx
  obtain ⟨_, _, rfl, ⟨t, hx⟩, ⟨u, hy⟩⟩ := hx
  cases hx; cases hy
  refine min_two_ints hh fun h' tk hk => ?_
  refine ⟨.int (min i j), σ, ?_, R.grow hk, h⟩
  by_cases q : j < i
  · rw [if_pos q]; exact ⟨u, by rw [show min i j = j by (first | lia | omega)]⟩
  · rw [if_neg q]; exact ⟨t, by rw [show min i j = i by (first | lia | omega)]⟩
theorem f_sorted (e : σ.H a = some (.list (ns.map V.int))) (hn : ns.length < 64) (h : ∀ (n : Addr) (ns' : List Int), σ.H n = none → ns'.Perm ns → ns'.Pairwise (· ≤ ·) → Q (.ref n) (σ.set n (.list (ns'.map V.int)))) : c.Call E (.builtin "sorted") [.ref a] Q σ := by
  intro xs hx s R
  replace hx := vr1 hx
  obtain ⟨_, rfl, hx⟩ := hx
  cases hx
  obtain ⟨ws, k, hg, hr⟩ := R.list e
  obtain ⟨g, T, R⟩ := R
  obtain ⟨m, F, l⟩ := R.loc
  have hl := hr.length
  refine sorted_N (vs := ws.toList) (ns := ns) F ledg_news (by rw [Array.toArray_toList]; exact listOf_is hg) hr.ints (by rw [hl]; simpa using hn) fun h' vs' ns' e' F' N' h1 h2 h3 => ?_
  exact ⟨.ref _, _, rfl, ⟨g, T, R.newL (o := .list (ns'.map V.int)) (tk := s.toks) (Nat.le_succ _) l F' N' (fun q d => mkl q (by simpa using VsRel.ofInts h1)) rfl⟩, h _ _ (R.non (Nat.le_succ _)) h2 h3⟩
theorem f_tuple (e : σ.H a = some (.list vs)) (hz : vs.length ≤ 100000) (h : ∀ n, σ.H n = none → Q (.ref n) (σ.set n (.tup vs))) : c.Call E (.type "tuple") [.ref a] Q σ := by
  intro xs hx s R
  replace hx := vr1 hx
  obtain ⟨_, rfl, hx⟩ := hx
  cases hx
  obtain ⟨ws, k, hg, hr⟩ := R.list e
  have h1 := hr.length; rw [Array.length_toList] at h1
  refine call_tuple_list (listOf_is hg) (fun h' hk => ?_) (by have := sizeLine_eq; (first | lia | omega))
  have R' : Rel c σ { s with heap := h', toks := s.toks } := R.grow hk
  exact ⟨.ref _, _, rfl, R'.new (o := .tup vs) (tk := s.toks) (Nat.le_refl _) (fun b x e => Heap.get?_push_of_some _ e) (fun d => mkt (Heap.get?_push_size _ rfl) hr) rfl, h _ (R'.non (Nat.le_refl _))⟩
theorem f_lenb {x : Array UInt8} (hz : x.size ≤ 100000) (h : Q (.int x.size) σ) : c.Call E (.builtin "len") [.bytes x] Q σ := by
  intro xs hx s R
  replace hx := vr1 hx
  obtain ⟨_, rfl, ⟨t, hx⟩⟩ := hx
  cases hx
  exact len_bytes (by (first | lia | omega)) ⟨.int x.size, σ, ⟨_, rfl⟩, R.tok _, h⟩
theorem f_lens {x : Str} (hz : x.length ≤ 100000) (h : Q (.int x.length) σ) : c.Call E (.builtin "len") [.str x] Q σ := by
  intro xs hx s R
  replace hx := vr1 hx
  obtain ⟨_, rfl, ⟨t, hx⟩⟩ := hx
  cases hx
  exact PyProof.Rows.len_str (by (first | lia | omega)) ⟨.int x.length, σ, ⟨_, rfl⟩, R.tok _, h⟩
theorem b_adds {x y : Str} (hz : x.length + y.length ≤ 1000) (h : Q (.str (x ++ y)) σ) : c.Bin E .Add (.str x) (.str y) Q σ := by
  rintro _ _ ⟨t, rfl⟩ ⟨u, rfl⟩ s R
  exact PyProof.Rows.add_str (fun t' tk => ⟨.str (x ++ y), σ, ⟨_, rfl⟩, R.tok _, h⟩) (by have := sizeLine_eq; (first | lia | omega))
theorem c_ins {x y : Str} (h : Q (.bool !(Builtin.Str.occurrences x y 0 x.length 1).isEmpty) σ) : c.Cmp E .In (.str y) (.str x) Q σ := by
  rintro _ _ ⟨t, rfl⟩ ⟨u, rfl⟩ s R
  exact PyProof.Rows.in_str ⟨.bool _, σ, rfl, R, h⟩
theorem c_nins {x y : Str} (h : Q (.bool !(!(Builtin.Str.occurrences x y 0 x.length 1).isEmpty)) σ) : c.Cmp E .NotIn (.str y) (.str x) Q σ := by
  rintro _ _ ⟨t, rfl⟩ ⟨u, rfl⟩ s R
  exact PyProof.Rows.notIn_str ⟨.bool _, σ, rfl, R, h⟩
theorem c_eqs {x y : Str} (h : Q (.bool (x == y)) σ) : c.Cmp E .Eq (.str x) (.str y) Q σ := by rintro _ _ ⟨t, rfl⟩ ⟨u, rfl⟩ s R; exact PyProof.Rows.eq_str ⟨.bool _, σ, rfl, R, h⟩
noncomputable def Cx.AsgL (c : Cx) (E : Value → Shared → Prop) (elts : List Expr) (vs : List V) (N : Unit → St → Prop) (σ : St) : Prop := ∀ ws, VsRel vs ws → c.W E OnE (assignInOrder ((assignEach elts c.env).map (·.2)) ws) N σ
theorem as_nil (h : N () σ) : c.AsgL E [] [] N σ := fun ws hw s R => by
  cases ws with
  | nil => exact assignInOrder_nil ⟨(), σ, rfl, R, h⟩
  | cons => exact hw.elim
theorem as_cons {x : Str} {p : Pos} {rest : List Expr} {v : V} (h : c.Store E x v (fun _ σ₁ => c.AsgL E rest vs N σ₁) σ) : c.AsgL E (.Name x p :: rest) (v :: vs) N σ := fun ws hw s R => by
  match ws, hw with
  | w :: ws, ⟨hw, hr⟩ =>
    exact assignInOrder_cons (PyProof.Rows.assign_Name (wpAny_mono (h w hw s R) (fun _ s₁ ⟨_, σ₁, _, R₁, h₁⟩ => h₁ ws hr s₁ R₁) fun _ _ e => e))
theorem eachLen {env : Env} : ∀ elts : List Expr, (assignEach elts env).length = elts.length
  | [] => rfl
  | e :: r => by
    cases e <;> simp [assignEach, eachLen r]
theorem as_tup {elts : List Expr} {k pos} (e : σ.H a = some (.tup vs)) (hn : elts.length = vs.length) (h : c.AsgL E elts vs N σ) (hs : noStar elts = true := by with_unfolding_all rfl) (hh : c.A.handled = none := by exact Cx.Room.hh (by assumption)) : c.Asg E (.Tuple elts k pos) (.ref a) N σ := by
  rintro _ rfl s R
  obtain ⟨ws, kk, hg, hr⟩ := R.tup e
  have h1 := hr.length; rw [Array.length_toList] at h1
  refine PyProof.Rows.assign_Tuple_tuple hh (tupOf_is hg) (by rw [eachLen, h1, hn]) ?_ fun h' he => ?_
  · have key : ∀ elts : List Expr, noStar elts = true → (assignEach elts c.env).findIdx? (·.1) = none := by
      intro elts
      induction elts with
      | nil => intro _; rfl
      | cons e r ih =>
        intro hs
        have := Bool.and_eq_true_iff.mp (show (notStar e && r.all notStar) = true from hs)
        have e1 : assignEach (e :: r) c.env = (false, assign e c.env) :: assignEach r c.env := by cases e <;> first | rfl | (cases this.1)
        rw [e1, List.findIdx?_cons, ih this.2]; rfl
    exact key elts hs
  · have R' : Rel c σ { s with heap := h', toks := s.toks } := R.grow fun b o e => he b o (Nat.ne_of_lt (Heap.lt_size e)) e
    exact h _ hr _ R'
theorem s_assignT {elts : List Expr} {k tpos value pos} (h : c.Ev E value (fun v σ₁ => c.Asg E (.Tuple elts k tpos) v (fun _ σ₂ => U .next σ₂) σ₁) σ)
    (hs : ∀ env, swapsWithSole [.Tuple elts k tpos] value pos.line env = pure false := by intro _; with_unfolding_all rfl) (hw : ∀ env, swappedStores [.Tuple elts k tpos] value env = pure none := by intro _; with_unfolding_all rfl) : c.S E (.Assign [.Tuple elts k tpos] value pos) U σ := fun s R =>
  PyProof.Rows.Assign_Tuple (wpAny_mono (h s R) (fun x s₁ ⟨v, σ₁, hx, R₁, h₁⟩ => wpAny_mono (h₁ x hx s₁ R₁) (fun _ s₂ ⟨_, σ₂, _, R₂, h₂⟩ => ⟨.next, σ₂, rfl, R₂, h₂⟩) fun _ _ e => e) fun _ _ e => e) (hs _) (hw _)
end
end Rk

end
section
open PySem PySem.W PySem.Calls PyProof.Rows PySem.SeqAt
set_option tactic.hygienic false
namespace Rk
noncomputable def Cx.Jn (c : Cx) (E : Value → Shared → Prop) (parts : List Expr) (k : Nat) (Q : St → Prop) (σ : St) : Prop :=
  ∀ acc : Str, acc.length ≤ k → ∀ s, Rel c σ s → Joins (model c.D.prog c.D.w) c.A E (evalEach parts c.env) acc (fun out s₁ => out.length ≤ sizeLine ∧ ∃ σ', Rel c σ' s₁ ∧ Q σ') s
section
variable {c : Cx} {E : Value → Shared → Prop} {σ : St} {Q : V → St → Prop} {P : St → Prop} {k : Nat}
theorem jn_nil (hk : k ≤ 100000) (h : P σ) : c.Jn E [] k P σ := fun acc ha s R => ⟨by have := sizeLine_eq; (first | lia | omega), σ, R, h⟩
theorem jn_str {x : Str} {kk pos} {rest : List Expr} (hk : k + x.length ≤ 100000) (h : c.Jn E rest (k + x.length) P σ) : c.Jn E (.Constant (.str x) kk pos :: rest) k P σ := fun acc ha s R => by
  show wpAny _ _ (eval (.Constant (.str x) kk pos) c.env) _ _ _
  refine wpAny_Constant_str ⟨x, _, rfl, by rw [strLen_append]; have := sizeLine_eq; (first | lia | omega), ?_⟩
  exact h _ (by rw [strLen_append]; (first | lia | omega)) _ (R.tok _)
theorem jn_int {e : Expr} {pos} {rest : List Expr} (hk : k ≤ 50000) (h : c.Ev E e (fun v σ₁ => ∃ i, v = .int i ∧ i.natAbs ≤ 1000 ∧ c.Jn E rest (k + 1002) P σ₁) σ) : c.Jn E (.FormattedValue e (-1) none pos :: rest) k P σ := fun acc ha s R => by
  show wpAny _ _ (eval (.FormattedValue e (-1) none pos) c.env) _ _ _
  refine wpAny_FormattedValue_plain (wpAny_mono (h s R) (fun x s₁ ⟨v, σ₁, hx, R₁, i, hv, hi, h₁⟩ => ?_) fun _ _ e => e)
  subst hv
  obtain ⟨t, rfl⟩ := hx
  have lg : i.natAbs.log2 < 1920 := by
    by_cases z : i.natAbs = 0
    · rw [z]; decide
    · refine (Nat.log2_lt z).mpr (Nat.lt_of_le_of_lt hi ?_)
      exact Nat.lt_of_lt_of_le (show 1000 < 2 ^ 10 by decide) (Nat.pow_le_pow_right (by decide) (by decide))
  refine wpAny_formatField_int lg ⟨_, _, rfl, ?_, ?_⟩
  · have := len_str_of_int i
    rw [strLen_append]
    have := sizeLine_eq
    (first | lia | omega)
  · have := len_str_of_int i
    exact h₁ _ (by rw [strLen_append]; (first | lia | omega)) _ (R₁.tok _)
theorem w_joined {v₁ v₂ : Expr} {rest : List Expr} {pos} (h : c.Jn E (v₁ :: v₂ :: rest) 0 (fun σ₁ => ∀ x, Q (.str x) σ₁) σ) : c.Ev E (.JoinedStr (v₁ :: v₂ :: rest) pos) Q σ := fun s R => by
  have key : ∀ (parts : List (Sem Value)) (acc : Str) (Q Q' : Str → Shared → Prop) (s : Shared), (∀ o s, Q o s → Q' o s) → Joins (model c.D.prog c.D.w) c.A E parts acc Q s → Joins (model c.D.prog c.D.w) c.A E parts acc Q' s := by
    intro parts
    induction parts with
    | nil => intro acc Q Q' s hq h; exact hq _ _ h
    | cons x r ih => intro acc Q Q' s hq h; exact wpAny_mono h (fun v s₁ ⟨y, t, e, l, j⟩ => ⟨y, t, e, l, ih _ _ _ _ hq j⟩) fun _ _ e => e
  exact wpAny_JoinedStr (key _ _ _ _ _ (fun o s₁ ⟨l, σ', R', q⟩ => ⟨l, .str o, σ', ⟨_, rfl⟩, R'.tok _, q o⟩) (h Str.empty (by decide) s R))
end

structure Cx.Own (c : Cx) (a : Addr) : Prop where
  fa : c.fa = some a
  cl : c.cl = []
  frm : c.frm = c.L
  inn : c.inn = false
  A : c.A = c.A₀.deeper c.env
  hh : c.A.handled = none
noncomputable def Cx.Exh (c : Cx) (P : Addr → Hp → Prop) : Value → Shared → Prop := fun ev s' => ∃ σ s₁ e C vs, ev = .ref e ∧ Rel c σ s₁ ∧ Heap.MadeExcOf s₁.heap s'.heap e (.ref C) vs ∧ s' = { s₁ with heap := s'.heap } ∧ P C σ.H
noncomputable def Cx.Exn (c : Cx) (P : Addr → St → Prop) : Value → Shared → Prop := fun ev s' => ∃ (g g₁ h₁ : Heap) (mm : Str → Option Value) (t e C L₁ : Addr) (vs : List Value) (δ : Addr → Addr) (μ : Str → Option V) (H : Hp), ev = .ref e ∧ P C ⟨μ, H⟩ ∧ KtsTurn c.fs c.h₀ g ∧ (c.at g).Ok ∧
  Fr g c.L g₁ mm ∧ (∀ x v, μ x = some v → Lc c.env x ∧ ∃ w, mm x = some w ∧ VRel v w) ∧ (∀ b, g₁.get? b = none → g.get? b = none ∧ b ≠ c.L) ∧ RelD g₁ L₁ δ H h₁ ∧ RaisedS c.base g₁ c.fl e (.ref C) t vs (ledg g₁ L₁ h₁) s'.heap ∧ g₁.UpToSlots s'.heap ∧ s'.gens = c.D.gens ∧ s'.drawn = c.D.drawn ∧ s'.os = c.D.os ∧ h₁.get? e = none ∧ Free2 s'.heap e
noncomputable def BackX (c : Cx) (m : Str → Option V) (Q : V → Hp → Prop) (P : Addr → Hp → Prop) (r : Result) (s' : Shared) : Prop := match r with
  | .ok (.ret w) => ∃ v σ', VRel v w ∧ Rel c σ' s' ∧ σ'.m = m ∧ Q v σ'.H
  | .error ev => c.Exn (fun C σ => σ.m = m ∧ P C σ.H) ev s'
  | _ => False
noncomputable def FnX (D : Wd) (d : Nat) (f : Addr) (as : List V) (Q : V → Hp → Prop) (P : Addr → Hp → Prop) (H : Hp) : Prop :=
  ∀ (c : Cx) (m : Str → Option V), c.D = D → c.Room d → ∀ xs, VsRel as xs → ∀ s, Rel c ⟨m, H⟩ s → codeAny (model c.D.prog c.D.w) c.A (.call (.ref f) ⟨xs, []⟩) (BackX c m Q P) s
theorem FnX.use {c : Cx} {d : Nat} {f : Addr} {as : List V} {Q : V → St → Prop} {P : Addr → St → Prop} {σ : St} (h : FnX c.D d f as (fun v H' => Q v ⟨σ.m, H'⟩) (fun C H' => P C ⟨σ.m, H'⟩) σ.H) (r : c.Room d) : c.Call (c.Exn P) (.ref f) as Q σ :=
  fun xs hx s R => wpAny_call (codeAny_mono (h c σ.m rfl r xs hx s R) fun r s' b => by
    unfold BackX at b
    rcases r with e | (_ | _ | _ | w)
    · obtain ⟨g, g₁, h₁, mm, t, e', C, L₁, vs, δ, μ, H, h1, ⟨h2, h2'⟩, h3⟩ := b
      cases h2
      exact ⟨g, g₁, h₁, mm, t, e', C, L₁, vs, δ, _, H, h1, h2', h3⟩
    · exact b.elim
    · exact b.elim
    · exact b.elim
    · obtain ⟨v, ⟨m', H'⟩, h1, h2, h3, h4⟩ := b
      cases h3
      exact ⟨v, _, h1, h2, h4⟩)
theorem s_raise {c : Cx} {a C : Addr} {x : Str} {B newId initId : String} {bm : List Value} {np cpos pos : Pos} {e₀ : Expr} {rest : List Expr} {P : Addr → Hp → Prop} {U : Fl → St → Prop} {σ : St} (o : c.Own a)
    (hx : nsIn c.D.K mainGlobals x = some (some (.ref C))) (hq : excIn c.D.K C bm newId = true) (FB : ExcBaseFacts B newId initId bm) (hk : c.env.kindOf x = some .globalImplicit)
    (h : c.Es (c.Exh P) cpos (e₀ :: rest) (fun vs σ₁ => vs.length ≤ 1000 ∧ P C σ₁.H) σ) (hs : noStar (e₀ :: rest) = true := by with_unfolding_all rfl) (hd : (x == ("__debug__" : Str)) = false := by decide) :
    c.S (c.Exh P) (.Raise (some (.Call (.Name x np) (e₀ :: rest) [] cpos)) none pos) U σ := fun s R => by
  have R₀ := R
  obtain ⟨g, T, R⟩ := R
  have hb := h s R₀
  obtain ⟨D, A, A₀, base, h₀, outer, nm, sc, L, fa, cd, cl, frm, inn⟩ := c
  obtain ⟨o1, o2, o3, o4, o5, o6⟩ := o
  dsimp only at o1 o2 o3 o4
  subst o1 o2 o3 o4
  obtain ⟨m, F⟩ := R.fr
  have he := starEach_not (rest := rest) (env := envOf nm sc frm a cd) (Bool.and_eq_true_iff.mp (show (notStar e₀ && rest.all notStar) = true from hs)).1
  have hp := noStar_any (pos := cpos) (env := envOf nm sc frm a cd) (Bool.and_eq_true_iff.mp (show (notStar e₀ && rest.all notStar) = true from hs)).2
  have bf : ∀ b ∈ outer.filterMap (·.frame), base.get? b = none := fun b hb => (R.ok.B.frames.mem hb).1
  have st : base.StaysIn (hideAll g (outer.filterMap (·.frame))) := fun b o e => hideAll_get _ (R.ok.B.stays b o e) fun hm => by rw [bf b hm] at e; cases e
  have F' : Fr (hideAll g (outer.filterMap (·.frame))) frm s.heap m := ⟨F.ns, fun b o e => F.keep b o (of_hideAll _ e), Nat.le_trans (Nat.le_of_eq (hideAll_size _ _)) F.above⟩
  have TB := R.ok.TB.keeps st
  refine Raise_own (B := B) (initId := initId) F' TB.g (own_of_in (R.ok.XB.keeps st) (topRead_of TB) hx hq) FB o6 ?_ he hp R.ok.ke hk hd
  refine wpAny_mono hb (fun ws s₂ ⟨vs, σ₂, hv, R₂, hl, hP⟩ => ⟨?_, ?_, ?_⟩) fun _ _ e => e
  · rw [hv.length]; have := sizeLine_eq; (first | lia | omega)
  · intro b o e
    obtain ⟨g₂, T₂, R₂⟩ := R₂
    obtain ⟨m₂, F₂⟩ := R₂.fr
    have nm : b ∉ outer.filterMap (·.frame) := fun hm => by
      rw [hideAll_none _ hm] at e; cases e
    have e' := of_hideAll _ e
    have e0 : h₀.get? b = some o := by
      cases q : h₀.get? b with
      | none => have z := T.none_ b q; rw [e'] at z; cases z
      | some o' => have z := T.other b o' q nm; rw [e'] at z; cases z; rfl
    exact F₂.keep b o (T₂.other b o e0 nm)
  · intro h' e mk
    exact ⟨σ₂, s₂, e, C, ws, rfl, R₂, mk, rfl, hP⟩
theorem fn_defX {D : Wd} {d : Nat} {f : Addr} {as : List V} {Q : V → Hp → Prop} {P : Addr → Hp → Prop} {H : Hp} {oc : Value} {od : Option Addr} {osl : Array (Option Value)} {name qual : Str} {params : Arguments} {body : List Stmt} {scope : Scope} {dV kV doc pm cdv ct : Value} {an : Option Addr}
    (hK : D.K.lookup f = some ⟨oc, od, .func (fnX name qual params body scope [] dV kV doc pm an cdv ct), osl⟩) (hcd : codeIn D.K cdv qual = true) (ns : List Str)
    (hb : ArF (fun xs => bindArgs (fnX name qual params body scope [] dV kV doc pm an cdv ct) ⟨xs, []⟩ = pure (ns.zip xs)) as.length []) (hl : ∀ n ∈ ns, scope.names.lookup n = some .local ∧ (n == ("__debug__" : Str)) = false) (hcell : ∀ x ∈ scope.names, x.2 ≠ .cell)
    (hco : scope.isCoroutine = false) (hgen : scope.isGenerator = false) (hk : scope.kind = .function)
    (h : ∀ c : Cx, c.D = D → c.nm = qual → c.sc = scope → c.cl = [] → c.Own f → c.Room d → c.Ss (c.Exh P) body (fun fl σ' => Q fl.val σ'.H) ⟨mOf ns as fun _ => none, H⟩) : FnX D (d + 1) f as Q P H := by
  intro c m hD hr xs hx s R
  subst hD
  obtain ⟨hr1, hr2, hr3⟩ := hr
  have R₀ := R
  obtain ⟨g, T, R⟩ := R
  refine codeAny_call_def (fd := fnX name qual params body scope [] dV kV doc pm an cdv ct) (body := body) (binds := ns.zip xs) (by show _ < 1000; (first | lia | omega)) (R.kin _ _ hK) rfl R.top.nolimit (codeRec_of R.kin hcd) rfl (BindsTo.of_eq (ar hb xs hx)) hcell
    (fun y hy => (hl _ (List.of_mem_zip hy).1).1) (fun h₁ hns kp => ?_) hco hgen hk
  have R₁ : Rel0 ((c.at g).into s qual scope f cdv [] s.heap.objs.size) ⟨mOf ns as fun _ => none, H⟩ { s with heap := h₁, toks := s.toks + (ns.zip xs).length } := R.into hk hns kp fun x v e => by
    obtain ⟨p, w, h1, h2⟩ := mOf_rel (P := fun n => scope.names.lookup n = some .local ∧ (n == ("__debug__" : Str)) = false) (m' := fun _ => none) hx hl (fun _ _ e => by cases e) x v e
    refine ⟨p, w, ?_, h2⟩
    rw [zOf_eq] at h1
    simpa using h1
  refine wpAny_mono (h ((c.at g).into s qual scope f cdv [] s.heap.objs.size) rfl rfl rfl rfl ⟨rfl, rfl, rfl, rfl, rfl, hr3⟩ ⟨by show c.A.depth + 1 + d ≤ 900; (first | lia | omega), by show c.A.units + 3 + 40 * d ≤ 9000; (first | lia | omega), hr3⟩ _ R₁.rel) (fun fl s' ⟨fl', σ', hf, R', hq⟩ => ?_) fun ev s' he => ?_
  · refine (show BackX c m Q P (.ok (.ret _)) s' from ⟨fl'.val, ⟨m, σ'.H⟩, ?_, Rel.out T R R', rfl, hq⟩)
    cases fl' with
    | next => cases hf; rfl
    | brk => cases hf; rfl
    | cont => cases hf; rfl
    | ret v => obtain ⟨w, rfl, hw⟩ := hf; exact hw
  · obtain ⟨σ₁, s₁, e, C, vs, rfl, R', mk, hs', hP⟩ := he
    obtain ⟨g₁, T₁, R'⟩ := R'
    obtain ⟨m₁, F₁, _⟩ := R'.loc
    obtain ⟨δ, D₁⟩ := R'.hp
    have f0 : Free2 s'.heap e := by obtain ⟨t, he, _⟩ := mk.there; exact ⟨_, _, he, rfl, rfl⟩
    refine wpAny_mono (pv_any (leave_raiseS (A := c.A) (base := c.base) (outer := c.fl) (g := g₁) (Q := fun _ s'' => ∃ h' t, s'' = { s' with heap := h' } ∧ RaisedS c.base g₁ c.fl e (.ref C) t vs (ledg g₁ s.heap.objs.size s₁.heap) h' ∧ g₁.UpToSlots h') R'.ok.B mk F₁ ledg_news (fun h' t RS _ us => ⟨h', t, rfl, RS, us⟩) hk) pv_leaving f0) (fun _ s'' ⟨⟨h', t, es, RS, us⟩, f2⟩ => ?_) fun _ _ x => x.1
    subst es
    obtain ⟨g₂, mm, T₂, ok, F₂, l, off⟩ := R.retreat T₁
    refine (show BackX c m Q P (.error (.ref e)) { s' with heap := h' } from ⟨g₂, g₁, s₁.heap, mm, t, e, C, s.heap.objs.size, vs, δ, m, σ₁.H, rfl, ⟨rfl, hP⟩, T.trans T₂, ok, F₂, l, off, D₁, RS, us, ?_, ?_, ?_, mk.new, f2⟩)
    · show s'.gens = _
      rw [hs']; exact R'.g
    · show s'.drawn = _
      rw [hs']; exact R'.d
    · show s'.os = _
      rw [hs']; exact R'.o

noncomputable def Gives (c : Cx) (suite : List Stmt) (v : V) : Prop := ∀ (A : Around) (E : Value → Shared → Prop) (Q : Flow → Shared → Prop) (s : Shared), (∀ w tk, VRel v w → Q (.ret w) { s with toks := tk }) → wpAny (model c.D.prog c.D.w) A (execs suite c.env) Q E s
theorem gv_neg {c : Cx} {i : Int} {k p p2 pos} : Gives c [.Return (some (.UnaryOp .USub (.Constant (.int i) k p) p2)) pos] (.int (-i)) := fun A E Q s h => wpAny_execs_cons (wpAny_Return_some (wpAny_UnaryOp (wpAny_Constant_int (PyProof.Rows.neg_int (h _ _ ⟨_, rfl⟩)))))
noncomputable def Hands (c : Cx) (C : Addr) (v : V) : List ExceptHandler → Prop
  | .ExceptHandler (some tt) none (b₀ :: suite) pos :: rest =>
    ((∀ L a cd, KtsTest c.D.prog c.D.w c.D.K c.D.p c.D.loose c.D.mg c.D.mb c.nm c.sc L a cd (.ref C) tt true) ∧ Gives c (b₀ :: suite) v) ∨
    ((∀ L a cd, KtsTest c.D.prog c.D.w c.D.K c.D.p c.D.loose c.D.mg c.D.mb c.nm c.sc L a cd (.ref C) tt false) ∧ Hands c C v rest)
  | _ => False
theorem Rel.caught {c : Cx} {g g' h' h₁ : Heap} {L₁ : Addr} {δ : Addr → Addr} {μ : Str → Option V} {H : Hp} {mm : Str → Option Value} {g₁ : Heap} {s : Shared} (T : KtsTurn c.fs c.h₀ g') (ok : (c.at g').Ok) (F : Fr g' c.L h' mm) (l : ∀ x v, μ x = some v → Lc c.env x ∧ ∃ w, mm x = some w ∧ VRel v w)
    (D : RelD g₁ L₁ δ H h₁) (N : News g' c.L h' (ledg g₁ L₁ h₁)) (h1 : s.gens = c.D.gens) (h2 : s.drawn = c.D.drawn) (h3 : s.os = c.D.os) (tk : Nat) : Rel c ⟨μ, H⟩ { s with heap := h', toks := tk } := by
  refine ⟨g', T, ok, ⟨mm, F, l⟩, ⟨δ, fun a o e => ?_, fun a o e => ?_, fun a o e i => ?_, D.inj⟩, h1, h2, h3⟩
  · have m := D.at_ a o e
    obtain ⟨x, hx⟩ := m.ex
    refine m.congr ((N (a, x) (ledg_mem.mpr ⟨(D.off a o e).1, (D.off a o e).2, hx⟩)).1.trans hx.symm) fun i => ?_
    obtain ⟨es, n, hd⟩ := m.exD i
    exact (N (δ a, _) (ledg_mem.mpr ⟨(D.doff a o e i).1, (D.doff a o e i).2.1, hd⟩)).1.trans hd.symm
  · obtain ⟨x, hx⟩ := (D.at_ a o e).ex
    exact (N (a, x) (ledg_mem.mpr ⟨(D.off a o e).1, (D.off a o e).2, hx⟩)).2
  · obtain ⟨es, n, hd⟩ := (D.at_ a o e).exD i
    have z := (N (δ a, _) (ledg_mem.mpr ⟨(D.doff a o e i).1, (D.doff a o e i).2.1, hd⟩)).2
    exact ⟨z.1, z.2, (D.doff a o e i).2.2⟩
theorem s_try {c : Cx} {a : Addr} {body : List Stmt} {e₀ : ExceptHandler} {es : List ExceptHandler} {pos : Pos} {U : Fl → St → Prop} {P : Addr → St → Prop} {σ : St} (o : c.Own a)
    (h : c.Ss (c.Exn P) body U σ) (k : ∀ C σ₁, P C σ₁ → ∃ v, Hands c C v (e₀ :: es) ∧ U (.ret v) σ₁) : c.S Nope (.Try body (e₀ :: es) [] [] pos) U σ := fun s R => by
  refine wpAny_Try_except (wpAny_mono (h s R) (fun f s₁ ⟨fl, σ₁, hf, R₁, h₁⟩ => ?_) fun ev s₁ he => ?_)
  · cases fl with
    | next => cases hf; exact wpAny_execs_nil ⟨.next, σ₁, rfl, R₁, h₁⟩
    | brk => cases hf; exact ⟨.brk, σ₁, rfl, R₁, h₁⟩
    | cont => cases hf; exact ⟨.cont, σ₁, rfl, R₁, h₁⟩
    | ret v => obtain ⟨w, rfl, hw⟩ := hf; exact ⟨.ret v, σ₁, ⟨w, rfl, hw⟩, R₁, h₁⟩
  · obtain ⟨g, g₁, h₁, mm, t, e, C, L₁, vs, δ, μ, H, rfl, hP, T, ok, F, l, off, D₁, RS, us, q1, q2, q3, _⟩ := he
    obtain ⟨v, hh, hU⟩ := k C _ hP
    obtain ⟨D, A, A₀, base, h₀, outer, nm, sc, L, fa, cd, cl, frm, inn⟩ := c
    obtain ⟨o1, o2, o3, o4, o5, _⟩ := o
    dsimp only at o1 o2 o3 o4
    subst o1 o2 o3 o4
    have o5' : A = A₀.deeper (envOf nm sc frm a cd) := o5
    clear o5
    subst o5'
    have main : ∀ (hs : List ExceptHandler) (s₂ : Shared), RaisedS base g₁ (envOf nm sc frm a cd :: outer) e (.ref C) t vs (ledg g₁ L₁ h₁) s₂.heap → g₁.UpToSlots s₂.heap → s₂.gens = D.gens → s₂.drawn = D.drawn → s₂.os = D.os →
        Hands { D := D, A := A₀.deeper (envOf nm sc frm a cd), A₀ := A₀, base := base, h₀ := h₀, outer := outer, nm := nm, sc := sc, L := frm, fa := some a, cd := cd, cl := [], frm := frm, inn := false } C v hs →
        wpAny (model D.prog D.w) (A₀.deeper (envOf nm sc frm a cd)) (handleBy (.ref e) (envOf nm sc frm a cd) hs)
          (fun f s' => ∃ b σ', FRel b f ∧ Rel { D := D, A := A₀.deeper (envOf nm sc frm a cd), A₀ := A₀, base := base, h₀ := h₀, outer := outer, nm := nm, sc := sc, L := frm, fa := some a, cd := cd, cl := [], frm := frm, inn := false } σ' s' ∧ U b σ') Nope s₂ := by
      intro hs
      induction hs with
      | nil => intro s₂ _ _ _ _ _ hh; exact hh.elim
      | cons hd rest ih =>
        intro s₂ RS us q1 q2 q3 hh
        obtain ⟨ty, nme, bd, ps⟩ := hd
        match ty, nme, bd, hh with
        | some tt, none, b₀ :: suite, hh =>
          rcases hh with ⟨kt, gv⟩ | ⟨kt, hr⟩
          · refine hit_S0 RS F ok.B us ok.XB ok.TB ok.ds T (kt _ _ _) (fun h' g' news₂ T' F' N₂ _ N' B' X' P' D' => ?_) PassesOwnAt.never
            refine gv _ _ _ _ fun w tk hw => ⟨.ret v, ⟨μ, H⟩, ⟨w, rfl, hw⟩, ?_, hU⟩
            exact Rel.caught (s := s₂) (c := { D := D, A := A₀.deeper (envOf nm sc frm a cd), A₀ := A₀, base := base, h₀ := h₀, outer := outer, nm := nm, sc := sc, L := frm, fa := some a, cd := cd, cl := [], frm := frm, inn := false }) (g := g) T' ⟨B', X', P', ok.fr, ok.own, ok.ke, ok.XB, ok.TB, D'⟩ F' l D₁ N' q1 q2 q3 tk
          · exact pass_S RS F ok.B us ok.XB ok.TB ok.ds (kt _ _ _) fun h' R' U' => ih _ R' U' q1 q2 q3 hr
    exact kts_lookS RS F ok.B us ok.ds fun h' R' U' => main _ _ R' U' q1 q2 q3 hh
end Rk

end
section
set_option tactic.hygienic false
namespace Rk
theorem fn_defO {D : Wd} {d : Nat} {f : Addr} {as : List V} {Q : V → Hp → Prop} {H : Hp} {oc : Value} {od : Option Addr} {osl : Array (Option Value)} {name qual : Str} {params : Arguments} {body : List Stmt} {scope : Scope} {dV kV doc pm cdv ct : Value} {an : Option Addr}
    (hK : D.K.lookup f = some ⟨oc, od, .func (fnX name qual params body scope [] dV kV doc pm an cdv ct), osl⟩) (hcd : codeIn D.K cdv qual = true) (ns : List Str)
    (hb : ArF (fun xs => bindArgs (fnX name qual params body scope [] dV kV doc pm an cdv ct) ⟨xs, []⟩ = pure (ns.zip xs)) as.length []) (hl : ∀ n ∈ ns, scope.names.lookup n = some .local ∧ (n == ("__debug__" : Str)) = false) (hcell : ∀ x ∈ scope.names, x.2 ≠ .cell)
    (hco : scope.isCoroutine = false) (hgen : scope.isGenerator = false) (hk : scope.kind = .function)
    (h : ∀ c : Cx, c.D = D → c.nm = qual → c.sc = scope → c.cl = [] → c.Own f → c.Room d → c.Ss Nope body (fun fl σ' => Q fl.val σ'.H) ⟨mOf ns as fun _ => none, H⟩) : Fn D (d + 1) f as Q H := by
  intro c m hD hr xs hx s R
  refine codeAny_mono (fn_defX (P := fun _ _ => False) hK hcd ns hb hl hcell hco hgen hk (fun c h1 h2 h3 h4 h5 h6 => (h c h1 h2 h3 h4 h5 h6).any) c m hD hr xs hx s R) fun r s' b => ?_
  unfold BackX at b
  unfold Back
  split at b
  · exact b
  · obtain ⟨_, _, _, _, _, _, _, _, _, _, _, _, _, ⟨_, h⟩, _⟩ := b
    exact h.elim
  · exact b.elim
theorem Room.le {c : Cx} {d d' : Nat} (r : c.Room d) (l : d' ≤ d) : c.Room d' := ⟨by have := r.1; (first | lia | omega), by have := r.2; (first | lia | omega), r.hh⟩
section
variable {σ : St} {a b n : Addr} {o x y : MO} {H H' : Hp} {k : Str} {v : V}
theorem hg_self : (σ.set a o).H a = some o := Hp.set_self _ _ _
theorem hg_up (h : σ.H a = some o) : (σ.up k v).H a = some o := h
theorem hg_new (hn : σ.H n = none) (h : σ.H b = some x) : (σ.set n o).H b = some x := Hp.Le.set _ hn _ _ h
theorem hg_ne (hn : b ≠ a) (h : σ.H b = some x) : (σ.set a o).H b = some x := (Hp.set_ne _ _ hn).trans h
theorem hg_put (hy : σ.H a = some y) (h : σ.H b = some x) (hn : x ≠ y) : (σ.set a o).H b = some x := (Hp.set_ne _ _ fun q => hn (by rw [q, hy] at h; cases h; rfl)).trans h
theorem hs_self : (H.set a o) a = some o := Hp.set_self _ _ _
theorem hs_new (hn : H n = none) (h : H b = some x) : (H.set n o) b = some x := Hp.Le.set _ hn _ _ h
theorem hs_ne (hn : b ≠ a) (h : H b = some x) : (H.set a o) b = some x := (Hp.set_ne _ _ hn).trans h
theorem hs_del (hn : b ≠ a) (h : H b = some x) : (H.del a) b = some x := (if_neg hn).trans h
end
noncomputable def V.imm : V → Bool
  | .ref _ => false
  | .raw _ => false
  | _ => true
section
variable {c : Cx} {E : Value → Shared → Prop} {σ : St} {Q : V → St → Prop} {U : Fl → St → Prop}
theorem s_ex {e pos} (h : c.Ev E e (fun v σ₁ => v.imm = true ∧ U .next σ₁) σ) (hs : notComp e = true := by with_unfolding_all rfl) : c.S E (.Expr e pos) U σ :=
  s_expr (Cx.W.mono (Q' := fun v σ₁ => (∀ a, v ≠ .ref a) ∧ (∀ w, v ≠ .raw w) ∧ U .next σ₁) h fun v σ' hh => ⟨fun a q => (by have h1 := hh.1; rw [q] at h1; cases h1), fun a q => (by have h1 := hh.1; rw [q] at h1; cases h1), hh.2⟩) hs
theorem cm_one {pos : Pos} {args : List Expr} {f : Value} {a : V} (hk : Kp c.D.K f = true) (h : c.Es E pos args (fun vs σ₂ => c.Call E f (a :: vs) Q σ₂) σ) : Kp c.D.K f = true ∧ c.Es E pos args (fun vs σ₂ => c.Call E f ([a] ++ vs) Q σ₂) σ := ⟨hk, h⟩
theorem br_T {b : Bool} {A B : Prop} (e : b = true) (h : A) : if (b = true) then A else B := by rw [if_pos e]; exact h
theorem br_F {b : Bool} {A B : Prop} (e : b = false) (h : B) : if (b = true) then A else B := by rw [if_neg (by rw [e]; decide)]; exact h
theorem itx {it : Addr} {P : Addr → Prop} (h : P it) : ∃ i, V.ref it = .ref i ∧ P i := ⟨it, rfl, h⟩
theorem jnx {i : Int} {P : Int → Prop} (hi : i.natAbs ≤ 1000) (h : P i) : ∃ j, V.int i = .int j ∧ j.natAbs ≤ 1000 ∧ P j := ⟨i, rfl, hi, h⟩
theorem slx {a : Addr} {vs : List V} {l u : V} {x y : Option Int} {P : Addr → List V → Option Int → Option Int → Prop} {H : Hp} (e : H a = some (.list vs)) (hl : vs.length ≤ 100000) (bl : Bd l x) (bu : Bd u y) (h : P a vs x y) :
    ∃ a' vs x y, V.ref a = .ref a' ∧ H a' = some (.list vs) ∧ vs.length ≤ 100000 ∧ Bd l x ∧ Bd u y ∧ P a' vs x y := ⟨a, vs, x, y, rfl, e, hl, bl, bu, h⟩
theorem bdn : Bd .none none := rfl
theorem bdi {i : Int} (h : 0 ≤ i) : Bd (.int i) (some i) := ⟨rfl, h⟩
variable {i j : Int}
theorem a_add (h : Q (.int (i + j)) σ) : c.Aug E .Add (.int i) (.int j) Q σ := by rintro _ _ ⟨t, rfl⟩ ⟨u, rfl⟩ s R; exact PyProof.Rows.iadd_int ⟨.int _, σ, ⟨_, rfl⟩, R.tok _, h⟩
end
theorem Fn.go {c : Cx} {E : Value → Shared → Prop} {d : Nat} {f : Addr} {as : List V} {Q : V → St → Prop} {m : Str → Option V} {H : Hp} (h : Fn c.D d f as (fun v H' => Q v ⟨m, H'⟩) H) (r : c.Room d) : c.Call E (.ref f) as Q ⟨m, H⟩ := Fn.use (σ := ⟨m, H⟩) h r
theorem FnX.go {c : Cx} {d : Nat} {f : Addr} {as : List V} {Q : V → St → Prop} {P : Addr → St → Prop} {m : Str → Option V} {H : Hp} (h : FnX c.D d f as (fun v H' => Q v ⟨m, H'⟩) (fun C H' => P C ⟨m, H'⟩) H) (r : c.Room d) : c.Call (c.Exn P) (.ref f) as Q ⟨m, H⟩ := FnX.use (σ := ⟨m, H⟩) h r
theorem c_newG {c : Cx} {E : Value → Shared → Prop} {Q : V → St → Prop} {C fI : Addr} {as : List V} {d : Nat} {m : Str → Option V} {H : Hp} (L : Plain c.D.K C) (hi : findIn c.D.K (.ref C) "__init__" = some (some (.ref fI))) (hf : isFn c.D.K (.ref fI) = true) (r : c.Room (d + 1))
    (h : ∀ n, H n = none → Fn c.D d fI (.ref n :: as) (fun v H' => v = .none ∧ Q (.ref n) ⟨m, H'⟩) (H.set n (.inst C []))) : c.Call E (.ref C) as Q ⟨m, H⟩ := c_new (σ := ⟨m, H⟩) L hi hf r h
theorem Hp.Le.setN {H H' : Hp} {a : Addr} {o : MO} (hn : H a = none) (l : H.Le H') : H.Le (H'.set a o) := fun b x e => by
  rw [Hp.set_ne _ _ (fun q => by rw [q, hn] at e; cases e)]; exact l b x e
noncomputable def Hold (P : Prop) : Prop := P
end Rk

end
section
set_option tactic.hygienic false
namespace Rk
section
variable {c : Cx} {E : Value → Shared → Prop} {σ : St} {Q : V → St → Prop} {U : Fl → St → Prop} {A A' : St → Prop}
theorem tu_next (h : A σ) : Turned c A U .next σ := h
theorem tu_ret {v : V} (h : U (.ret v) σ) : Turned c A U (.ret v) σ := h
theorem Turned.mono {fl : Fl} (k : ∀ σ, A σ → A' σ) (h : Turned c A U fl σ) : Turned c A' U fl σ := by
  cases fl with
  | next => exact k _ h
  | cont => exact k _ h
  | brk => exact h
  | ret v => exact h
theorem Cx.Ss.mono {body : List Stmt} {U U' : Fl → St → Prop} (h : c.Ss E body U σ) (k : ∀ f σ, U f σ → U' f σ) : c.Ss E body U' σ := Cx.W.mono h k
theorem Cx.Asg.mono {t : Expr} {v : V} {N N' : Unit → St → Prop} (h : c.Asg E t v N σ) (k : ∀ σ, N () σ → N' () σ) : c.Asg E t v N' σ := fun w hw => Cx.W.mono (h w hw) fun _ σ' z => k σ' z
theorem loop_list {it l : Addr} {vs : List V} {target : Expr} {body : List Stmt} (I : Nat → St → Prop) (hI : ∀ j σ, I j σ → σ.H it = some (.li l j) ∧ σ.H l = some (.list vs))
    (step : ∀ j v σ, j < vs.length → vs[j]? = some v → I j σ → c.Asg Nope target v (fun _ σ₂ => c.Ss Nope body (Turned c (I (j + 1)) U) σ₂) (σ.set it (.li l (j + 1))))
    (fin : ∀ σ, I vs.length σ → U .next ⟨σ.m, σ.H.del it⟩) (ht : isNm target = true := by with_unfolding_all rfl) : ∀ {j : Nat} {σ : St} (_ : j ≤ vs.length) (_ : I j σ) (hh : c.A.handled = none := by exact Cx.Room.hh (by assumption)), c.Loop it target body U σ := by
  have key : c.A.handled = none → ∀ (k j : Nat) (σ : St), k + j = vs.length → I j σ → c.Loop it target body U σ := by
    intro hh k
    induction k with
    | zero =>
      intro j σ e i
      obtain rfl : j = vs.length := by (first | lia | omega)
      obtain ⟨h1, h2⟩ := hI _ _ i
      exact loop_turn (nx_listE h1 h2 (by simp) (fin _ i) hh) ht
    | succ k ih =>
      intro j σ e i
      obtain ⟨h1, h2⟩ := hI _ _ i
      have lt : j < vs.length := by (first | lia | omega)
      exact loop_turn (nx_list h1 h2 (List.getElem?_eq_getElem lt) ((step j _ σ lt (List.getElem?_eq_getElem lt) i).mono fun σ₂ h => h.mono fun f σ₃ h => h.mono fun σ₄ h => ih (j + 1) σ₄ (by (first | lia | omega)) h)) ht
  intro j σ l i hh
  exact key hh (vs.length - j) j σ (by (first | lia | omega)) i
theorem loop_rg {it : Addr} {target : Expr} {body : List Stmt} (I : Int → Nat → St → Prop) (hI : ∀ x n σ, I x n σ → σ.H it = some (.ri x n))
    (step : ∀ x n σ, I x (n + 1) σ → c.Asg Nope target (.int x) (fun _ σ₂ => c.Ss Nope body (Turned c (I (x + 1) n) U) σ₂) (σ.set it (.ri (x + 1) n)))
    (fin : ∀ x σ, I x 0 σ → U .next ⟨σ.m, σ.H.del it⟩) (ht : isNm target = true := by with_unfolding_all rfl) : ∀ {n : Nat} {x : Int} {σ : St} (_ : I x n σ) (hh : c.A.handled = none := by exact Cx.Room.hh (by assumption)), c.Loop it target body U σ := by
  intro n
  induction n with
  | zero => intro x σ i hh; exact loop_turn (nx_rgE (hI _ _ _ i) (by simp) (fin _ _ i) hh) ht
  | succ n ih =>
    intro x σ i hh
    refine loop_turn (nx_rg (hI _ _ _ i) (by (first | lia | omega)) ?_) ht
    have z := step x n σ i
    rw [show (((n + 1 : Nat) : Int) - 1) = n by (first | lia | omega)]
    exact z.mono fun σ₂ h => h.mono fun f σ₃ h => h.mono fun σ₄ h => ih h hh
end
section
variable {c : Cx} {E : Value → Shared → Prop} {σ : St} {Q : V → St → Prop} {U : St → Prop} {it acc l : Addr} {elt target iter : Expr} {scope : Scope} {pos : Pos} {vs : List V}
theorem cl_list0 (I : Nat → St → Prop) (hI : ∀ j σ, I j σ → σ.H it = some (.li l j) ∧ σ.H l = some (.list vs))
    (step : ∀ j v σ, j < vs.length → vs[j]? = some v → I j σ → c.Asg Nope target v (fun _ σ₂ => c.Ev Nope elt (fun x σ₃ => c.Call Nope (.builtin "list.append") [.ref acc, x] (fun _ σ₄ => I (j + 1) σ₄) σ₃) σ₂) (σ.set it (.li l (j + 1))))
    (fin : ∀ σ, I vs.length σ → U ⟨σ.m, σ.H.del it⟩) (ht : isNm target = true := by with_unfolding_all rfl) : ∀ {j : Nat} {σ : St} (_ : j ≤ vs.length) (_ : I j σ) (hh : c.A.handled = none := by exact Cx.Room.hh (by assumption)), c.CLoop (.ListComp elt [⟨target, iter, [], 0⟩] scope pos) it acc U σ := by
  have key : c.A.handled = none → ∀ (k j : Nat) (σ : St), k + j = vs.length → I j σ → c.CLoop (.ListComp elt [⟨target, iter, [], 0⟩] scope pos) it acc U σ := by
    intro hh k
    induction k with
    | zero =>
      intro j σ e i
      obtain rfl : j = vs.length := by (first | lia | omega)
      obtain ⟨h1, h2⟩ := hI _ _ i
      exact cl_turn0 (nx_listE h1 h2 (by simp) (fin _ i) hh) ht
    | succ k ih =>
      intro j σ e i
      obtain ⟨h1, h2⟩ := hI _ _ i
      have lt : j < vs.length := by (first | lia | omega)
      refine cl_turn0 (nx_list h1 h2 (List.getElem?_eq_getElem lt) ((step j _ σ lt (List.getElem?_eq_getElem lt) i).mono fun σ₂ h => Cx.W.mono h fun x σ₃ h => fun xs hx => Cx.W.mono (h xs hx) fun _ σ₄ h => ih (j + 1) σ₄ (by (first | lia | omega)) h)) ht
  intro j σ l i hh
  exact key hh (vs.length - j) j σ (by (first | lia | omega)) i
theorem cl_rg0 (I : Int → Nat → St → Prop) (hI : ∀ x n σ, I x n σ → σ.H it = some (.ri x n))
    (step : ∀ x n σ, I x (n + 1) σ → c.Asg Nope target (.int x) (fun _ σ₂ => c.Ev Nope elt (fun y σ₃ => c.Call Nope (.builtin "list.append") [.ref acc, y] (fun _ σ₄ => I (x + 1) n σ₄) σ₃) σ₂) (σ.set it (.ri (x + 1) n)))
    (fin : ∀ x σ, I x 0 σ → U ⟨σ.m, σ.H.del it⟩) (ht : isNm target = true := by with_unfolding_all rfl) : ∀ {n : Nat} {x : Int} {σ : St} (_ : I x n σ) (hh : c.A.handled = none := by exact Cx.Room.hh (by assumption)), c.CLoop (.ListComp elt [⟨target, iter, [], 0⟩] scope pos) it acc U σ := by
  intro n
  induction n with
  | zero => intro x σ i hh; exact cl_turn0 (nx_rgE (hI _ _ _ i) (by simp) (fin _ _ i) hh) ht
  | succ n ih =>
    intro x σ i hh
    refine cl_turn0 (nx_rg (hI _ _ _ i) (by (first | lia | omega)) ?_) ht
    have z := step x n σ i
    rw [show (((n + 1 : Nat) : Int) - 1) = n by (first | lia | omega)]
    exact z.mono fun σ₂ h => Cx.W.mono h fun x σ₃ h => fun xs hx => Cx.W.mono (h xs hx) fun _ σ₄ h => ih h hh
end
end Rk

end
section
set_option tactic.hygienic false
namespace Rk
section
variable {c : Cx} {E : Value → Shared → Prop} {σ : St} {Q : V → St → Prop} {a : Addr} {x y : Int}
theorem it_rgN (e : σ.H a = some (.rg x y)) (hs : -100000 ≤ x ∧ x ≤ 100000 ∧ -100000 ≤ y ∧ y ≤ 100000) (h : ∀ n, σ.H n = none → Q (.ref n) (σ.set n (.ri x ((y - x).toNat : Int)))) : c.Itr E (.ref a) Q σ := by
  have q : Builtin.Range.rangeSize x y 1 = ((y - x).toNat : Int) := by rw [rangeSize_one]; split <;> (first | lia | omega)
  refine it_rg e (small_one (by (first | lia | omega)) (by (first | lia | omega)) (by (first | lia | omega)) (by (first | lia | omega))) ?_
  rw [q]; exact h
end
end Rk

end
section
set_option tactic.hygienic false
namespace Rk
theorem clof {c : Cx} {cl : List (Str × Addr)} {x : Str} {a : Addr} (h : c.cl = cl) (e : cl.lookup x = some a) : c.cl.lookup x = some a := by subst h; exact e
noncomputable def Hp.TLe (H H' : Hp) : Prop := ∀ a vs, H a = some (.tup vs) → H' a = some (.tup vs)
theorem Hp.Le.t {H H' : Hp} (l : H.Le H') : H.TLe H' := fun a vs e => l _ _ e
theorem tle_set {H : Hp} {a : Addr} {o o' : MO} (e : H a = some o) (h : ∀ vs, o ≠ .tup vs) : H.TLe (H.set a o') := fun b vs q => by
  rw [Hp.set_ne _ _ (fun z => by rw [z, e] at q; cases q; exact h _ rfl)]; exact q
theorem tle_del {H : Hp} {a : Addr} {o : MO} (e : H a = some o) (h : ∀ vs, o ≠ .tup vs) : H.TLe (H.del a) := fun b vs q => by
  unfold Hp.del
  rw [if_neg (fun z => by rw [z, e] at q; cases q; exact h _ rfl)]; exact q
theorem relb {c : Cx} {sc scope sc' : Scope} (h : c.sc = sc) (e : relabel scope { (default : Env) with scope := sc } = sc') : relabel scope c.env = sc' := by
  subst h; exact e
noncomputable def Mid (M : St → Prop) (U : Fl → St → Prop) : Fl → St → Prop
  | .next, σ => M σ
  | f, σ => U f σ
theorem md_next {M : St → Prop} {U : Fl → St → Prop} {σ : St} (h : M σ) : Mid M U .next σ := h
theorem md_ret {M : St → Prop} {U : Fl → St → Prop} {σ : St} {v : V} (h : U (.ret v) σ) : Mid M U (.ret v) σ := h
theorem ss_mid {c : Cx} {E : Value → Shared → Prop} {st : Stmt} {rest : List Stmt} {U : Fl → St → Prop} {σ : St} (M : St → Prop) (h : c.S E st (Mid M U) σ) (k : ∀ σ', M σ' → c.Ss E rest U σ') : c.Ss E (st :: rest) U σ :=
  s_cons (Cx.W.mono h fun f σ' x => by
    cases f with
    | next => exact k σ' x
    | brk => exact x
    | cont => exact x
    | ret v => exact x)
noncomputable def Nms (f : Str → Option V) : List (Str × V) → Prop
  | [] => True
  | (x, v) :: r => f x = some v ∧ Nms f r
section
variable {c : Cx} {Q : V → St → Prop} {it l : Addr} {elt iter : Expr} {scope sc' : Scope} {pos p : Pos} {vs : List V} {cl : List (Str × Addr)} {x : Str} {m : Str → Option V} {Hb : Hp}
theorem block_map (R : Nat → V → Hp → Prop) (Rt : ∀ j v H H', Hp.TLe H H' → R j v H → R j v H') (hn : Hb it = none) (hl : Hb l = some (.list vs)) (hz : vs.length ≤ 1000)
    (hs : relabel scope c.env = sc') (hx : sc'.names.lookup x = some .local ∧ (x == ("__debug__" : Str)) = false)
    (step : ∀ c' : Cx, c'.D = c.D → c'.sc = sc' → c'.cl = cl → (∀ d, c.Room d → c'.Room d) → ∀ (j : Nat) (v : V) (m' : Str → Option V) (H1 : Hp), Hb.Le H1 → j < vs.length → vs[j]? = some v → c'.Ev Nope elt (fun y σ' => H1.Le σ'.H ∧ R j y σ'.H) ⟨fun y => if y = x then some v else m' y, H1⟩)
    (fin : ∀ acc H' ws, Hb.Le H' → Hb acc = none → H' acc = some (.list ws) → ws.length = vs.length → (∀ j y, ws[j]? = some y → R j y H') → Q (.ref acc) ⟨m, H'⟩) {rd : Nat} (rr : c.Room rd := by assumption) :
    c.Block (.ListComp elt [⟨.Name x p, iter, [], 0⟩] scope pos) scope cl Q (.ref it) ⟨m, Hb.set it (.li l 0)⟩ := by
  refine ⟨it, _, rfl, hs_self, rfl, fun acc ha c' cD cs cc cr => ?_⟩
  have ha' : Hb acc = none := by
    have ha2 : (Hb.set it (.li l 0)) acc = none := ha
    unfold Hp.set at ha2
    split at ha2
    · cases ha2
    · exact ha2
  have nai : it ≠ acc := fun q => by
    have ha2 : (Hb.set it (.li l 0)) acc = none := ha
    rw [← q, Hp.set_self] at ha2; cases ha2
  rw [hs] at cs
  have l0 : Hb.Le ((Hb.set it (.li l 0)).set acc (.list [])) := Hp.Le.setN ha' (Hp.Le.setN hn (Hp.Le.refl _))
  refine cl_list0 (l := l) (vs := vs) (fun j σ => σ.H it = some (.li l j) ∧ Hb.Le σ.H ∧ ∃ ws, σ.H acc = some (.list ws) ∧ ws.length = j ∧ ∀ i y, ws[i]? = some y → R i y σ.H) ?_ ?_ ?_ (by with_unfolding_all rfl) (Nat.zero_le _) ⟨hs_ne nai hs_self, l0, [], hs_self, rfl, by simp⟩ (cr _ rr).hh
  · rintro j σ ⟨h1, h2, _⟩
    exact ⟨h1, h2 _ _ hl⟩
  · rintro j v ⟨mm, H1⟩ lt hv ⟨h1, h2, ws, h3, h4, h5⟩
    have h1' : H1 it = some (.li l j) := h1
    have h3' : H1 acc = some (.list ws) := h3
    have l1 : Hb.Le (H1.set it (.li l (j + 1))) := Hp.Le.setN hn h2
    refine as_name (st_local (lof cs hx) ?_)
    refine Cx.W.mono (step c' cD cs cc cr j v mm _ l1 lt hv) fun y σ' ⟨k1, k2⟩ => ?_
    have a1 : σ'.H acc = some (.list ws) := k1 _ _ (hs_ne (Ne.symm nai) h3')
    refine c_append a1 (by (first | lia | omega)) ?_
    refine ⟨?_, ?_, ws ++ [y], ?_, ?_, ?_⟩
    · exact hs_ne nai (k1 _ _ hs_self)
    · exact Hp.Le.setN ha' (l1.trans k1)
    · exact hs_self
    · simp [h4]
    · intro i z hi
      have t1 : Hp.TLe σ'.H (σ'.H.set acc (.list (ws ++ [y]))) := tle_set a1 fun _ q => by cases q
      rcases Nat.lt_or_ge i ws.length with q | q
      · rw [List.getElem?_append_left q] at hi
        refine Rt _ _ _ _ t1 (Rt _ _ _ _ k1.t (Rt _ _ _ _ (tle_set h1' fun _ q => by cases q) (h5 i z hi)))
      · rw [List.getElem?_append_right q] at hi
        have e1 : i - ws.length = 0 := by
          rcases Nat.eq_zero_or_pos (i - ws.length) with q1 | q1
          · exact q1
          · rw [List.getElem?_eq_none (by simp; (first | lia | omega))] at hi; cases hi
        rw [e1] at hi
        cases hi
        rw [show i = j by (first | lia | omega)]
        exact Rt _ _ _ _ t1 k2
  · rintro ⟨mm, H1⟩ ⟨h1, h2, ws, h3, h4, h5⟩
    have h1' : H1 it = some (.li l vs.length) := h1
    have h3' : H1 acc = some (.list ws) := h3
    exact fin acc (H1.del it) ws (Hp.Le.del h2 hn) ha' (hs_del (Ne.symm nai) h3') h4 fun j y q => Rt _ _ _ _ (tle_del h1' fun _ q => by cases q) (h5 j y q)
end
end Rk

end
section
set_option tactic.hygienic false
namespace Rk
theorem clos_of {c : Cx} {cl cl' : List (Str × Addr)} {scope : Scope} (h : c.cl = cl) (e : closureFor scope { (default : Env) with cells := cl } = pure cl') : closureFor scope c.env = pure cl' := by
  subst h; exact e
theorem swap_of {c : Cx} {sc : Scope} {v : Expr} {t : Option Expr} {k : Nat} (h : c.sc = sc) (e : swapsWith v t k { (default : Env) with scope := sc } = pure true) : swapsWith v t k c.env = pure true := by
  subst h; exact e
theorem hold_mid {c : Cx} {E : Value → Shared → Prop} {st : Stmt} {rest : List Stmt} {U : Fl → St → Prop} {σ : St} (M : St → Prop) (h : c.S E st (Mid M (c.Then E rest U)) σ) (k : ∀ σ', M σ' → c.Ss E rest U σ') : Hold (c.S E st (c.Then E rest U) σ) :=
  Cx.W.mono h fun f σ' x => by
    cases f with
    | next => exact k σ' x
    | brk => exact x
    | cont => exact x
    | ret v => exact x
noncomputable def filt (P : Nat → Bool) : Nat → Nat → List Nat
  | _, 0 => []
  | a, n + 1 => if P a then a :: filt P (a + 1) n else filt P (a + 1) n
section
variable {c : Cx} {Q : V → St → Prop} {it : Addr} {iter t : Expr} {scope sc' : Scope} {pos p p0 : Pos} {cl : List (Str × Addr)} {x : Str} {m : Str → Option V} {Hb : Hp}
end
end Rk

end
section
open PySem PySem.W PySem.Calls PyProof.Rows PySem.SeqAt
set_option tactic.hygienic false
namespace Rk
section
variable {c : Cx} {E : Value → Shared → Prop} {σ : St} {Q : V → St → Prop} {a : Addr} {d : Nat} {ad : Nat → Addr} {px py : Nat → Int} {vs : List V}
structure Prs (H : Hp) (a : Addr) (ad : Nat → Addr) (px py : Nat → Int) : Prop where
  l : H a = some (.list [.ref (ad 0), .ref (ad 1), .ref (ad 2)])
  t : ∀ i, i < 3 → H (ad i) = some (.tup [.int (px i), .int (py i)])
noncomputable def MEnd (c : Cx) (H₀ : Hp) (m₀ : Str → Option V) (ad : Nat → Addr) (px py : Nat → Int) (r : Result) (s' : Shared) : Prop := match r with
  | .ok (.ret v) => ∃ k, k < 3 ∧ v = .ref (ad k) ∧ (∀ i, i < 3 → pge (px k) (py k) (px i) (py i) = true) ∧ ∃ σ', Rel c σ' s' ∧ σ'.m = m₀ ∧ H₀.Le σ'.H
  | _ => False
open Classical in
end
end Rk

end
section
set_option tactic.hygienic false
namespace Rk
structure Runs (D : Wd) (f : Addr) (P : List Stmt → Scope → Str → Prop) : Prop where
  run : ∀ {oc : Value} {od : Option Addr} {osl : Array (Option Value)} {name qual : Str} {params : Arguments} {body : List Stmt} {scope : Scope} {dV kV doc pm cdv ct : Value} {an : Option Addr},
  D.K.lookup f = some ⟨oc, od, .func (fnX name qual params body scope [] dV kV doc pm an cdv ct), osl⟩ → P body scope qual
theorem runs_of {D : Wd} {f : Addr} {P : List Stmt → Scope → Str → Prop} {oc : Value} {od : Option Addr} {osl : Array (Option Value)} {name qual : Str} {params : Arguments} {body : List Stmt} {scope : Scope} {dV kV doc pm cdv ct : Value} {an : Option Addr}
    (hK : D.K.lookup f = some ⟨oc, od, .func (fnX name qual params body scope [] dV kV doc pm an cdv ct), osl⟩) (h : P body scope qual) : Runs D f P := by
  constructor
  intro oc' od' osl' name' qual' params' body' scope' dV' kV' doc' pm' cdv' ct' an' hK'
  rw [hK] at hK'
  simp only [fnX, Option.some.injEq, Obj.mk.injEq, Data.func.injEq, FuncData.mk.injEq] at hK'
  obtain ⟨_, _, hh, _⟩ := hK'
  obtain ⟨_, q1, _, q3, q4, _⟩ := hh
  simp only [FuncBody.stmts.injEq] at q3
  subst q1 q3 q4
  exact h
noncomputable def Hp.NLe (H H' : Hp) : Prop := ∀ a o, H a = some o → (∀ vs, o ≠ .list vs) → o.isIt = false → H' a = some o
theorem Hp.Le.n {H H' : Hp} (l : H.Le H') : H.NLe H' := fun a o e _ _ => l _ _ e
theorem nle_setL {H : Hp} {a : Addr} {vs : List V} {o' : MO} (e : H a = some (.list vs)) : H.NLe (H.set a o') := fun b o q h1 _ => by
  rw [Hp.set_ne _ _ (fun z => by rw [z, e] at q; cases q; exact h1 _ rfl)]; exact q
theorem nle_setI {H : Hp} {a : Addr} {o o' : MO} (e : H a = some o) (h : o.isIt = true) : H.NLe (H.set a o') := fun b x q _ h2 => by
  rw [Hp.set_ne _ _ (fun z => by rw [z, e] at q; cases q; rw [h] at h2; cases h2)]; exact q
theorem nle_delI {H : Hp} {a : Addr} {o : MO} (e : H a = some o) (h : o.isIt = true) : H.NLe (H.del a) := fun b x q _ h2 => by
  unfold Hp.del
  rw [if_neg (fun z => by rw [z, e] at q; cases q; rw [h] at h2; cases h2)]; exact q
section
variable {c : Cx} {E : Value → Shared → Prop} {σ : St} {Q : V → St → Prop} {it l a sl : Addr} {elt iter : Expr} {scope sc' : Scope} {pos p : Pos} {vs : List V} {cl : List (Str × Addr)} {x : Str} {m : Str → Option V} {Hb : Hp} {ns : List Int}
theorem block_rgm (R : Nat → V → Hp → Prop) (Rt : ∀ j v H H', Hp.NLe H H' → R j v H → R j v H') {n : Nat} (hn : Hb it = none) (hz : n ≤ 1000)
    (hs : relabel scope c.env = sc') (hx : sc'.names.lookup x = some .local ∧ (x == ("__debug__" : Str)) = false)
    (step : ∀ c' : Cx, c'.D = c.D → c'.sc = sc' → c'.cl = cl → (∀ d, c.Room d → c'.Room d) → ∀ (j : Nat) (m' : Str → Option V) (H1 : Hp), Hb.Le H1 → j < n → c'.Ev Nope elt (fun y σ' => H1.Le σ'.H ∧ R j y σ'.H) ⟨fun y => if y = x then some (.int (j : Int)) else m' y, H1⟩)
    (fin : ∀ acc H' ws, Hb.Le H' → Hb acc = none → H' acc = some (.list ws) → ws.length = n → (∀ j y, ws[j]? = some y → R j y H') → Q (.ref acc) ⟨m, H'⟩) {rd : Nat} (rr : c.Room rd := by assumption) :
    c.Block (.ListComp elt [⟨.Name x p, iter, [], 0⟩] scope pos) scope cl Q (.ref it) ⟨m, Hb.set it (.ri 0 (n : Int))⟩ := by
  refine ⟨it, _, rfl, hs_self, rfl, fun acc ha c' cD cs cc cr => ?_⟩
  have ha2 : (Hb.set it (.ri 0 (n : Int))) acc = none := ha
  have ha' : Hb acc = none := by
    have ha3 := ha2
    unfold Hp.set at ha3
    split at ha3
    · cases ha3
    · exact ha3
  have nai : it ≠ acc := fun q => by rw [← q, Hp.set_self] at ha2; cases ha2
  rw [hs] at cs
  have l0 : Hb.Le ((Hb.set it (.ri 0 (n : Int))).set acc (.list [])) := Hp.Le.setN ha' (Hp.Le.setN hn (Hp.Le.refl _))
  refine cl_rg0 (fun z k σ => ∃ j : Nat, z = j ∧ j + k = n ∧ σ.H it = some (.ri z k) ∧ Hb.Le σ.H ∧ ∃ ws, σ.H acc = some (.list ws) ∧ ws.length = j ∧ ∀ i y, ws[i]? = some y → R i y σ.H) ?_ ?_ ?_ (by with_unfolding_all rfl) ⟨0, rfl, by (first | lia | omega), hs_ne nai hs_self, l0, [], hs_self, rfl, by simp⟩ (cr _ rr).hh
  · rintro z k σ ⟨j, _, _, h, _⟩
    exact h
  · rintro z k ⟨mm, H1⟩ ⟨j, rfl, e1, h1, h2, ws, h3, h4, h5⟩
    have h1' : H1 it = some (.ri (j : Int) ((k + 1 : Nat) : Int)) := h1
    have h3' : H1 acc = some (.list ws) := h3
    have l1 : Hb.Le (H1.set it (.ri ((j : Int) + 1) k)) := Hp.Le.setN hn h2
    refine as_name (st_local (lof cs hx) ?_)
    refine Cx.W.mono (step c' cD cs cc cr j mm _ l1 (by (first | lia | omega))) fun y σ' ⟨k1, k2⟩ => ?_
    have a1 : σ'.H acc = some (.list ws) := k1 _ _ (hs_ne (Ne.symm nai) h3')
    refine c_append a1 (by (first | lia | omega)) ?_
    refine ⟨j + 1, by (first | lia | omega), by (first | lia | omega), ?_, Hp.Le.setN ha' (l1.trans k1), ws ++ [y], hs_self, by simp [h4], ?_⟩
    · exact hs_ne nai (k1 _ _ hs_self)
    · intro i w hi
      have t1 : Hp.NLe σ'.H (σ'.H.set acc (.list (ws ++ [y]))) := nle_setL a1
      rcases Nat.lt_or_ge i ws.length with q | q
      · rw [List.getElem?_append_left q] at hi
        exact Rt _ _ _ _ t1 (Rt _ _ _ _ k1.n (Rt _ _ _ _ (nle_setI h1' rfl) (h5 i w hi)))
      · rw [List.getElem?_append_right q] at hi
        have e1 : i - ws.length = 0 := by
          rcases Nat.eq_zero_or_pos (i - ws.length) with q1 | q1
          · exact q1
          · rw [List.getElem?_eq_none (by simp; (first | lia | omega))] at hi; cases hi
        rw [e1] at hi
        cases hi
        rw [show i = j by (first | lia | omega)]
        exact Rt _ _ _ _ t1 k2
  · rintro z ⟨mm, H1⟩ ⟨j, rfl, e1, h1, h2, ws, h3, h4, h5⟩
    have h1' : H1 it = some (.ri (j : Int) ((0 : Nat) : Int)) := h1
    have h3' : H1 acc = some (.list ws) := h3
    exact fin acc (H1.del it) ws (Hp.Le.del h2 hn) ha' (hs_del (Ne.symm nai) h3') (by (first | lia | omega)) fun j y q => Rt _ _ _ _ (nle_delI h1' rfl) (h5 j y q)
noncomputable def Script (c : Cx) (sl : Addr) (ns : List Int) : Prop := ∀ σ s, Rel c σ s → ∃ ws : List Value, s.heap.IsList sl ws.toArray ∧ IntsAre ws ns
theorem w_script {y : Str} {yp ip sp pos : Pos} {kd : Nat} (hs : Script c sl ns) (hz : ns.length ≤ 100) (e : σ.m y = some (.ref sl)) (h : ∀ n, σ.H n = none → Q (.ref n) (σ.set n (.list ((ns.take 3).map V.int)))) :
    c.Ev E (.Subscript (.Name y yp) (.Slice none (some (.Constant (.int 3) kd ip)) none sp) pos) Q σ := fun s R => by
  refine Subscript_ (wpAny_mono (w_local (c := c) (E := E) (v := .ref sl) (Q := fun v σ₁ => v = .ref sl ∧ σ₁ = σ) e ⟨rfl, rfl⟩ s R) (fun o s₁ ⟨v, _, hv, R₁, q1, q2⟩ => ?_) fun _ _ e => e)
  rw [q2] at R₁
  subst q1
  cases hv
  refine wpAny_Slice (wpAny_mono (p_none (c := c) (E := E) (Q := fun v σ₁ => v = .none ∧ σ₁ = σ) ⟨rfl, rfl⟩ s₁ R₁) (fun l s₂ ⟨_, _, hl, R₂, q1, q2⟩ => wpAny_mono (w_int (c := c) (E := E) (k := kd) (pos := ip) (Q := fun v σ₁ => v = .int 3 ∧ σ₁ = σ) ⟨rfl, rfl⟩ s₂ (by rw [q2] at R₂; exact R₂)) (fun u s₃ ⟨_, _, hu, R₃, q3, q4⟩ => ?_) fun _ _ e => e) fun _ _ e => e)
  rw [q4] at R₃
  rw [q1] at hl
  rw [q3] at hu
  cases hl
  obtain ⟨tk, rfl⟩ := hu
  refine wpAny_pure ?_
  obtain ⟨ws, hg, hi⟩ := hs _ _ R₃
  have lw := hi.length
  have hsl := Heap.IsSliceOf.new s₃.heap .none (.int 3 tk) .none
  have hL := hg.push ({ cls := .type "slice", data := .fields #[.none, .int 3 tk, .none] } : Obj)
  refine tail_any (Heap.IsList.typeIs (s := { s₃ with heap := s₃.heap.push { cls := .type "slice", data := .fields #[.none, .int 3 tk, .none] } }) hL) slot_list_getitem.lookup (ops := [.ref s₃.heap.objs.size, .ref sl]) ?_ rfl
  refine wpAny_getItem_list_slice hL hsl .none (.int 3 tk) .none (by simp) ?_ (by have := sizeLine_eq; simp; (first | lia | omega))
  have n0 : s₃.heap.objs.size ≤ (s₃.heap.push ({ cls := .type "slice", data := .fields #[.none, .int 3 tk, .none] } : Obj)).objs.size := by rw [Heap.size_push]; exact Nat.le_succ _
  refine ⟨.ref _, _, rfl, R₃.new (tk := s₃.toks) n0 (fun b z e => Heap.get?_push_of_some _ (Heap.get?_push_of_some _ e)) (fun d => mkl (Heap.get?_push_size _ rfl) (by rw [pick_is ws.toArray none (some 3) (fun _ e => by cases e) (fun _ e => by cases e; decide)]; exact slc_rel (VsRel.ofInts hi) none (some 3))) rfl, ?_⟩
  have z := h _ (R₃.non n0)
  rw [List.map_take] at z
  exact z
theorem getItem_tuple_0 {prog : Program} {w : World} {A : Around} {s : Shared} {E : Value → Shared → Prop} {t sl : Addr} {items : Array Value} {u : Tok} {Q : Value → Shared → Prop} (ht : IsTup s.heap t items) (hs : s.heap.IsSliceOf sl (.int ((0 : Nat) : Int) u) .none .none)
    (h : Q (.ref t) s) : wpAny (model prog w) A (getItem (.ref t) (.ref sl)) Q E s := by
  obtain ⟨os, hos, hcs, hds⟩ := id hs
  have hTs : s.TypeIs (.ref sl) "slice" := ⟨os, hos, hcs⟩
  unfold getItem
  try with_reducible refine wpAny_holding ?_
  first | refine wpAny_bind (wpAny_pure ?_) | skip
  refine wpAny_bind (wpAny_sequenceKey ht.typeIs (by decide) ?_)
  refine wpAny_bind (wpAny_callSpecial?_slot (name := Str.ofString "__getitem__") ht.typeIs slot_tuple_getitem
    (wpAny_call_entry slot_tuple_getitem ht.typeIs entry_tuple_getitem ?_ (args_tuple_getitem _ _)))
  show wpAny _ _ (Builtin.Tuple.tupleItemsOf (.ref t) >>= _) _ _ s
  refine wpAny_bind (tupleItemsOf_ ht ?_)
  refine wpAny_bind (wpAny_typeOf hTs ?_)
  rw [if_pos (by decide)]
  refine wpAny_bind (sliceApplied_from hs (Nat.zero_le items.size) ?_)
  show wpAny _ _ (if (((0 : Nat) : Int) == 0 && (1 : Int) == 1 && (items.size - 0) == items.size) = true then _ else _) _ _ s
  rw [if_pos (by simp)]
  unfold Builtin.Tuple.tupleIsExact
  refine wpAny_bind (wpAny_bind (wpAny_typeOf ht.typeIs (wpAny_pure ?_)))
  rw [if_pos (by decide)]
  exact wpAny_bind (wpAny_rule (wpAny_pure ⟨_, rfl, wpAny_pure h⟩))
theorem w_sliceT {value lo : Expr} {pp : Pos} {tp : Addr} {i : Nat} (h : c.Ev E value (fun v σ₁ => c.Ev E lo (fun l σ₂ => v = .ref tp ∧ l = .int (i : Int) ∧ σ₂.H tp = some (.tup vs) ∧ i ≤ vs.length ∧ vs.length ≤ 1000 ∧ (i = 0 → Q (.ref tp) σ₂) ∧ (i ≠ 0 → ∀ n, σ₂.H n = none → Q (.ref n) (σ₂.set n (.tup (vs.drop i))))) σ₁) σ) :
    c.Ev E (.Subscript value (.Slice (some lo) none none pp) pos) Q σ := fun s R => by
  refine Subscript_ (wpAny_mono (h s R) (fun o s₁ ⟨v, _, hv, R₁, h₁⟩ => ?_) fun _ _ e => e)
  refine wpAny_Slice (wpAny_mono (h₁ s₁ R₁) (fun l s₂ ⟨lv, σ₂, hl, R₂, q1, q2, e, hi, hz, k0, k1⟩ => wpAny_mono (p_none (c := c) (E := E) (Q := fun v σ₁ => v = .none ∧ σ₁ = σ₂) ⟨rfl, rfl⟩ s₂ R₂) (fun u s₃ ⟨_, _, hu, R₃, q3, q4⟩ => ?_) fun _ _ e => e) fun _ _ e => e)
  rw [q4] at R₃
  rw [q3] at hu
  subst q1 q2
  cases hv
  cases hu
  obtain ⟨tk, rfl⟩ := hl
  refine wpAny_pure ?_
  obtain ⟨ws, k, hg, hr⟩ := R₃.tup e
  have hzz := hr.length
  rw [Array.length_toList] at hzz
  have hsl := Heap.IsSliceOf.new s₃.heap (.int (i : Int) tk) .none .none
  have hL := (tupOf_is (Heap.get?_push_of_some ({ cls := .type "slice", data := .fields #[.int (i : Int) tk, .none, .none] } : Obj) hg))
  refine tail_any (IsTup.typeIs (s := { s₃ with heap := s₃.heap.push { cls := .type "slice", data := .fields #[.int (i : Int) tk, .none, .none] } }) hL) slot_tuple_getitem.lookup (ops := [.ref s₃.heap.objs.size, .ref tp]) ?_ rfl
  have n0 : s₃.heap.objs.size ≤ (s₃.heap.push ({ cls := .type "slice", data := .fields #[.int (i : Int) tk, .none, .none] } : Obj)).objs.size := by rw [Heap.size_push]; exact Nat.le_succ _
  by_cases z : i = 0
  · subst z
    refine getItem_tuple_0 (s := { s₃ with heap := s₃.heap.push { cls := .type "slice", data := .fields #[.int ((0 : Nat) : Int) tk, .none, .none] } }) hL hsl ?_
    exact ⟨.ref tp, _, rfl, R₃.grow (tk := s₃.toks) fun b y e => Heap.get?_push_of_some _ e, k0 rfl⟩
  · refine getItem_tuple_from (s := { s₃ with heap := s₃.heap.push { cls := .type "slice", data := .fields #[.int (i : Int) tk, .none, .none] } }) hL hsl (by (first | lia | omega)) (by (first | lia | omega)) ?_ (by have := sizeLine_eq; (first | lia | omega))
    refine ⟨.ref _, _, rfl, R₃.new (tk := s₃.toks) n0 (fun b y e => Heap.get?_push_of_some _ (Heap.get?_push_of_some _ e)) (fun d => mkt (Heap.get?_push_size _ rfl) ?_) rfl, k1 z _ (R₃.non n0)⟩
    simpa using hr.drop i
theorem loop_str {xs : Str} {target : Expr} {body : List Stmt} {U : Fl → St → Prop} (I : Nat → St → Prop) (hI : ∀ j σ, I j σ → σ.H it = some (.si xs j))
    (step : ∀ j k σ, j < xs.cps.size → xs.cps[j]? = some k → I j σ → c.Asg Nope target (.str ⟨#[k]⟩) (fun _ σ₂ => c.Ss Nope body (Turned c (I (j + 1)) U) σ₂) (σ.set it (.si xs (j + 1))))
    (fin : ∀ σ, I xs.cps.size σ → U .next ⟨σ.m, σ.H.del it⟩) (ht : isNm target = true := by with_unfolding_all rfl) : ∀ {j : Nat} {σ : St} (_ : j ≤ xs.cps.size) (_ : I j σ) (hh : c.A.handled = none := by exact Cx.Room.hh (by assumption)), c.Loop it target body U σ := by
  have key : c.A.handled = none → ∀ (k j : Nat) (σ : St), k + j = xs.cps.size → I j σ → c.Loop it target body U σ := by
    intro hh k
    induction k with
    | zero =>
      intro j σ e i
      obtain rfl : j = xs.cps.size := by (first | lia | omega)
      exact loop_turn (nx_strE (hI _ _ i) (by simp) (fin _ i) hh) ht
    | succ k ih =>
      intro j σ e i
      have lt : j < xs.cps.size := by (first | lia | omega)
      exact loop_turn (nx_str (hI _ _ i) (Array.getElem?_eq_getElem lt) ((step j _ σ lt (Array.getElem?_eq_getElem lt) i).mono fun σ₂ h => h.mono fun f σ₃ h => h.mono fun σ₄ h => ih (j + 1) σ₄ (by (first | lia | omega)) h)) ht
  intro j σ l i hh
  exact key hh (xs.cps.size - j) j σ (by (first | lia | omega)) i
end
end Rk

end
section
open PySem PySem.W PySem.Calls PyProof.Rows PySem.SeqAt
set_option tactic.hygienic false
namespace Rk
noncomputable def FreeO (o : Obj) : Prop := ∃ vs, o.data = .fields vs ∧ vs[2]? = some .none
noncomputable def PinH (H : Hp) (e : Addr) : Prop := ∃ o, H e = some (.obj o) ∧ FreeO o
theorem PinH.le {H H' : Hp} {e : Addr} (l : H.Le H') (h : PinH H e) : PinH H' e := let ⟨o, a, b⟩ := h; ⟨o, l _ _ a, b⟩
structure Cx.RoomU (c : Cx) (d : Nat) : Prop where
  dep : c.A.depth + d ≤ 900
  un : c.A.units + 40 * d ≤ 9000
theorem RoomU.le {c : Cx} {d d' : Nat} (r : c.RoomU d) (l : d' ≤ d) : c.RoomU d' := ⟨by have := r.1; omega, by have := r.2; omega⟩
theorem PinH.free {c : Cx} {σ : St} {s : Shared} {e : Addr} (h : PinH σ.H e) (R : Rel c σ s) : Free2 s.heap e := by
  obtain ⟨o, h1, vs, h2, h3⟩ := h
  obtain ⟨g, δ, D⟩ := R.hp
  exact ⟨o, vs, D.at_ e _ h1, h2, h3⟩
theorem nx_listU {c : Cx} {E : Value → Shared → Prop} {σ : St} {O : Option V → St → Prop} {it a e : Addr} {i : Nat} {vs : List V} (h1 : σ.H it = some (.li a i)) (h2 : σ.H a = some (.list vs)) (hx : vs[i]? = none) (hh : c.A.handled = some (.ref e)) (hp : PinH σ.H e) (h : O none ⟨σ.m, σ.H.del it⟩) : c.Nx E it O σ := fun s R => by
  obtain ⟨ws, k, hg, hr⟩ := R.list h2
  have hi : s.heap.IsListIter it a i := by obtain ⟨g, δ, D⟩ := R.hp; exact D.at_ it _ h1
  have hz := hr.length
  exact next_listE_under hh (hp.free R) hi (listOf_is hg) (by
    have := List.getElem?_eq_none_iff.mp hx
    exact Array.getElem?_eq_none (by rw [← Array.length_toList]; omega)) (fun q => by obtain ⟨o, q1, _⟩ := hp; rw [q, h1] at q1; cases q1) fun h' he => ⟨none, _, rfl, R.del (tk := s.toks) h1 he, h⟩
theorem loop_listU {c : Cx} {U : Fl → St → Prop} {it l e : Addr} {vs : List V} {target : Expr} {body : List Stmt} (hh : c.A.handled = some (.ref e)) (I : Nat → St → Prop) (hI : ∀ j σ, I j σ → σ.H it = some (.li l j) ∧ σ.H l = some (.list vs) ∧ PinH σ.H e)
    (step : ∀ j v σ, j < vs.length → vs[j]? = some v → I j σ → c.Asg Nope target v (fun _ σ₂ => c.Ss Nope body (Turned c (I (j + 1)) U) σ₂) (σ.set it (.li l (j + 1))))
    (fin : ∀ σ, I vs.length σ → U .next ⟨σ.m, σ.H.del it⟩) (ht : isNm target = true := by with_unfolding_all rfl) : ∀ {j : Nat} {σ : St}, j ≤ vs.length → I j σ → c.Loop it target body U σ := by
  have key : ∀ (k j : Nat) (σ : St), k + j = vs.length → I j σ → c.Loop it target body U σ := by
    intro k
    induction k with
    | zero =>
      intro j σ q i
      obtain rfl : j = vs.length := by omega
      obtain ⟨h1, h2, h3⟩ := hI _ _ i
      exact loop_turn (nx_listU h1 h2 (by simp) hh h3 (fin _ i)) ht
    | succ k ih =>
      intro j σ q i
      obtain ⟨h1, h2, _⟩ := hI _ _ i
      have lt : j < vs.length := by omega
      exact loop_turn (nx_list h1 h2 (List.getElem?_eq_getElem lt) ((step j _ σ lt (List.getElem?_eq_getElem lt) i).mono fun σ₂ h => h.mono fun f σ₃ h => h.mono fun σ₄ h => ih (j + 1) σ₄ (by omega) h)) ht
  intro j σ l i
  exact key (vs.length - j) j σ (by omega) i
noncomputable def FnU (D : Wd) (d : Nat) (f : Addr) (as : List V) (Q : V → Hp → Prop) (H : Hp) : Prop :=
  ∀ (c : Cx) (m : Str → Option V) (e : Addr), c.D = D → c.RoomU d → c.A.handled = some (.ref e) → PinH H e → ∀ xs, VsRel as xs → ∀ s, Rel c ⟨m, H⟩ s → codeAny (model c.D.prog c.D.w) c.A (.call (.ref f) ⟨xs, []⟩) (Back c m Q) s
theorem FnU.go {c : Cx} {E : Value → Shared → Prop} {d : Nat} {f e : Addr} {as : List V} {Q : V → St → Prop} {m : Str → Option V} {H : Hp} (h : FnU c.D d f as (fun v H' => Q v ⟨m, H'⟩) H) (r : c.RoomU d) (hh : c.A.handled = some (.ref e)) (hp : PinH H e) : c.Call E (.ref f) as Q ⟨m, H⟩ :=
  fun xs hx s R => wpAny_call (codeAny_mono (h c m e rfl r hh hp xs hx s R) fun r s' b => by
    unfold Back at b
    rcases r with x | (_ | _ | _ | w)
    · exact b.elim
    · exact b.elim
    · exact b.elim
    · exact b.elim
    · obtain ⟨v, ⟨m', H'⟩, h1, h2, h3, h4⟩ := b
      cases h3
      exact ⟨v, _, h1, h2, h4⟩)
theorem fnU_def {D : Wd} {d : Nat} {f : Addr} {as : List V} {Q : V → Hp → Prop} {H : Hp} {oc : Value} {od : Option Addr} {osl : Array (Option Value)} {name qual : Str} {params : Arguments} {body : List Stmt} {scope : Scope} {dV kV doc pm cdv ct : Value} {an : Option Addr}
    (hK : D.K.lookup f = some ⟨oc, od, .func (fnX name qual params body scope [] dV kV doc pm an cdv ct), osl⟩) (hcd : codeIn D.K cdv qual = true) (ns : List Str)
    (hb : ArF (fun xs => bindArgs (fnX name qual params body scope [] dV kV doc pm an cdv ct) ⟨xs, []⟩ = pure (ns.zip xs)) as.length []) (hl : ∀ n ∈ ns, scope.names.lookup n = some .local ∧ (n == ("__debug__" : Str)) = false) (hcell : ∀ x ∈ scope.names, x.2 ≠ .cell)
    (hco : scope.isCoroutine = false) (hgen : scope.isGenerator = false) (hk : scope.kind = .function)
    (h : ∀ (c : Cx) (e : Addr), c.D = D → c.nm = qual → c.sc = scope → c.cl = [] → c.RoomU d → c.A.handled = some (.ref e) → PinH H e → c.Ss Nope body (fun fl σ' => Q fl.val σ'.H) ⟨mOf ns as fun _ => none, H⟩) : FnU D (d + 1) f as Q H := by
  intro c m e hD hr hh hp xs hx s R
  subst hD
  obtain ⟨hr1, hr2⟩ := hr
  obtain ⟨g, T, R⟩ := R
  refine codeAny_call_def (fd := fnX name qual params body scope [] dV kV doc pm an cdv ct) (body := body) (binds := ns.zip xs) (by show _ < 1000; omega) (R.kin _ _ hK) rfl R.top.nolimit (codeRec_of R.kin hcd) rfl (BindsTo.of_eq (ar hb xs hx)) hcell
    (fun y hy => (hl _ (List.of_mem_zip hy).1).1) (fun h₁ hns kp => ?_) hco hgen hk
  have R₁ : Rel0 ((c.at g).into s qual scope f cdv [] s.heap.objs.size) ⟨mOf ns as fun _ => none, H⟩ { s with heap := h₁, toks := s.toks + (ns.zip xs).length } := R.into hk hns kp fun x v q => by
    obtain ⟨p, w, h1, h2⟩ := mOf_rel (P := fun n => scope.names.lookup n = some .local ∧ (n == ("__debug__" : Str)) = false) (m' := fun _ => none) hx hl (fun _ _ q => by cases q) x v q
    refine ⟨p, w, ?_, h2⟩
    rw [zOf_eq] at h1
    simpa using h1
  refine wpAny_mono (h ((c.at g).into s qual scope f cdv [] s.heap.objs.size) e rfl rfl rfl rfl ⟨by show c.A.depth + 1 + d ≤ 900; omega, by show c.A.units + 3 + 40 * d ≤ 9000; omega⟩ hh hp _ R₁.rel) (fun fl s' ⟨fl', σ', hf, R', hq⟩ => ?_) fun _ _ q => q.elim
  refine (show Back c m Q (.ok (.ret _)) s' from ⟨fl'.val, ⟨m, σ'.H⟩, ?_, Rel.out T R R', rfl, hq⟩)
  cases fl' with
  | next => cases hf; rfl
  | brk => cases hf; rfl
  | cont => cases hf; rfl
  | ret v => obtain ⟨w, rfl, hw⟩ := hf; exact hw
end Rk

end
section
open PySem PySem.W PySem.Calls PyProof.Rows PySem.SeqAt
set_option tactic.hygienic false
namespace Rk
theorem RelD.caught {g g' h' h₁ : Heap} {L L₁ : Addr} {δ : Addr → Addr} {H : Hp} {g₁ : Heap} (D : RelD g₁ L₁ δ H h₁) (N : News g' L h' (ledg g₁ L₁ h₁)) : RelD g' L δ H h' := by
  refine ⟨fun a o e => ?_, fun a o e => ?_, fun a o e i => ?_, D.inj⟩
  · have m := D.at_ a o e
    obtain ⟨x, hx⟩ := m.ex
    refine m.congr ((N (a, x) (ledg_mem.mpr ⟨(D.off a o e).1, (D.off a o e).2, hx⟩)).1.trans hx.symm) fun i => ?_
    obtain ⟨es, n, hd⟩ := m.exD i
    exact (N (δ a, _) (ledg_mem.mpr ⟨(D.doff a o e i).1, (D.doff a o e i).2.1, hd⟩)).1.trans hd.symm
  · obtain ⟨x, hx⟩ := (D.at_ a o e).ex
    exact (N (a, x) (ledg_mem.mpr ⟨(D.off a o e).1, (D.off a o e).2, hx⟩)).2
  · obtain ⟨es, n, hd⟩ := (D.at_ a o e).exD i
    have z := (N (δ a, _) (ledg_mem.mpr ⟨(D.doff a o e i).1, (D.doff a o e i).2.1, hd⟩)).2
    exact ⟨z.1, z.2, (D.doff a o e i).2.2⟩
theorem s_tryU {c : Cx} {a : Addr} {body suite : List Stmt} {b₀ : Stmt} {tt : Expr} {hpos pos : Pos} {U : Fl → St → Prop} {P : Addr → St → Prop} {σ : St} (o : c.Own a) (h : c.Ss (c.Exn P) body U σ)
    (k : ∀ C σ₁, P C σ₁ → (∀ L a cd, KtsTest c.D.prog c.D.w c.D.K c.D.p c.D.loose c.D.mg c.D.mb c.nm c.sc L a cd (.ref C) tt true) ∧ ∀ e oe, σ₁.H e = none → FreeO oe → (c.atA (c.A.mark (some (.ref e)))).Ss Nope (b₀ :: suite) U (σ₁.set e (.obj oe))) :
    c.S Nope (.Try body [.ExceptHandler (some tt) none (b₀ :: suite) hpos] [] [] pos) U σ := fun s R => by
  refine wpAny_Try_except (wpAny_mono (h s R) (fun f s₁ ⟨fl, σ₁, hf, R₁, h₁⟩ => ?_) fun ev s₁ he => ?_)
  · cases fl with
    | next => cases hf; exact wpAny_execs_nil ⟨.next, σ₁, rfl, R₁, h₁⟩
    | brk => cases hf; exact ⟨.brk, σ₁, rfl, R₁, h₁⟩
    | cont => cases hf; exact ⟨.cont, σ₁, rfl, R₁, h₁⟩
    | ret v => obtain ⟨w, rfl, hw⟩ := hf; exact ⟨.ret v, σ₁, ⟨w, rfl, hw⟩, R₁, h₁⟩
  · obtain ⟨g, g₁, h₁, mm, t, e, C, L₁, vs, δ, μ, H, rfl, hP, T, ok, F, l, off, D₁, RS, us, q1, q2, q3, hn, f2⟩ := he
    obtain ⟨kt, kS⟩ := k C _ hP
    obtain ⟨D, A, A₀, base, h₀, outer, nm, sc, L, fa, cd, cl, frm, inn⟩ := c
    obtain ⟨o1, o2, o3, o4, o5, _⟩ := o
    dsimp only at o1 o2 o3 o4
    subst o1 o2 o3 o4
    have o5' : A = A₀.deeper (envOf nm sc frm a cd) := o5
    clear o5
    subst o5'
    obtain ⟨⟨B, hB, hBG, hl, hfl, hnew⟩, htup⟩ := RS
    have hBe := hfl.2.1
    have hBL : B.get? frm = none := by
      obtain ⟨_, ⟨L', _, hf, hn', _⟩, _⟩ := hfl.2.2.1
      obtain rfl : frm = L' := Option.some.inj hf
      exact hn'
    refine wpAny_mono (pv_any (Q := fun _ s₂ => ∃ h₄, s₂ = { s₁ with heap := h₄ } ∧ Heap.HeldW B (envOf nm sc frm a cd :: outer) e (.ref C) (.ref t) frm h₄ ∧ s₁.heap.UpToSlots h₄) (E := fun _ _ => False) (wpAny_looks_onW (Around.frames_deeper ok.B.stack) rfl hfl fun h₄ x y => ⟨h₄, rfl, x, y⟩) pv_note f2) (fun _ s₂ ⟨⟨h₄, e4, hd4, sm4⟩, f4⟩ => ?_) fun _ _ x => x.1.elim
    subst e4
    refine wpAny_mono (pv_any (Q := fun _ s₃ => ∃ h₅, s₃ = { s₁ with heap := h₅ } ∧ Heap.FlyingW B (envOf nm sc frm a cd :: outer) e (.ref C) (.ref t) h₅ ∧ h₄.UpToSlots h₅) (E := fun _ _ => False) (wpAny_landsW hd4 fun h₅ x y => ⟨h₅, rfl, x, y⟩) pv_flight f4) (fun _ s₃ ⟨⟨h₅, e5, fl5, sm5⟩, f5⟩ => ?_) fun _ _ x => x.1.elim
    subst e5
    have us5 : g₁.UpToSlots h₅ := us.trans (sm4.trans sm5)
    obtain ⟨g₅, T₅, F₅, K₅⟩ := kts_ground ok.B F hBG fl5.1 us5
    have lk : Looks (model D.prog D.w) h₅ (typeOf (.ref e)) (.ref C) := by
      obtain ⟨ob, hob, hc⟩ := fl5.there
      rw [← hc]
      exact (Looks.ld hob).andThen .now
    refine wpAny_handleBy_cons (codeAny_handlers_test (kt _ _ _ _ _ _ _ g₅ e mm F₅ (ok.XB.keeps K₅.stays) (topRead_of (ok.TB.keeps K₅.stays)) lk fun h₆ kp => ?_)) (by intro q; cases q)
    refine codeAny_handlers_suite ?_
    refine wpAny_mono (pv_any (Q := fun _ s₃ => ∃ h₇, s₃ = { s₁ with heap := h₇ } ∧ Heap.FlyingW B (envOf nm sc frm a cd :: outer) e (.ref C) (.ref t) h₇ ∧ h₆.UpToSlots h₇) (E := fun _ _ => False) (lands_againW (s := { s₁ with heap := h₆ }) (flying_keeps fl5 kp) fun h₇ x y => ⟨h₇, rfl, x, y⟩) pv_flight (f5.keep fun o q => kp _ _ q)) (fun _ s₃ ⟨⟨h₇, e7, fl7, sm7⟩, f7⟩ => ?_) fun _ _ x => x.1.elim
    subst e7
    have us7 : g₁.UpToSlots h₇ := (us5.trans (Heap.UpToSlots.of_keeps kp)).trans sm7
    obtain ⟨g₇, T₇, F₇, K₇⟩ := kts_ground ok.B F hBG fl7.1 us7
    obtain ⟨oe, ws, hoe, hoed, hoe2⟩ := f7
    have N₇ : News g₇ frm h₇ (ledg g₁ L₁ h₁) := fun q hq => ⟨fl7.1 _ _ (hl q hq).1, (fun z => by have := (hl q hq).1; rw [z, hBL] at this; cases this), T₇.none_ _ (kts_none F.keep (hl q hq).2.1)⟩
    have He : H e = none := by
      cases q : H e with
      | none => rfl
      | some x =>
        obtain ⟨y, hy⟩ := (D₁.at_ e x q).ex
        rw [hn] at hy; cases hy
    have neL : e ≠ frm := fun q => by
      obtain ⟨oL, es, ep, hL, hd, _⟩ := F₇.ns
      rw [← q] at hL
      rw [hoe] at hL
      cases hL
      rw [hoed] at hd
      cases hd
    have ge : g₇.get? e = none := T₇.none_ _ (kts_fresh F hBG hBe fun o' ho' m => by
      obtain ⟨_, o'', ho'', hd⟩ := ok.B.frames.mem m
      rw [ho'] at ho''
      cases ho''
      obtain ⟨sl, hs⟩ := us7 _ _ (F.keep _ _ ho') hd
      rw [hoe] at hs
      cases hs
      exact hd _ hoed)
    have D₇ := D₁.caught (g := g₇) N₇
    have RR : Rel { D := D, A := A₀.deeper (envOf nm sc frm a cd), A₀ := A₀, base := base, h₀ := h₀, outer := outer, nm := nm, sc := sc, L := frm, fa := some a, cd := cd, cl := [], frm := frm, inn := false } ⟨μ, H.set e (.obj oe)⟩ { s₁ with heap := h₇ } :=
      ⟨g₇, T.trans T₇, ⟨⟨K₇, ok.XB.keeps K₇.stays, ok.TB.keeps K₇.stays, ok.fr, ok.own, ok.ke, ok.XB, ok.TB, ok.ds.turn T₇⟩, ⟨mm, F₇, l⟩, ⟨δ, D₇.add (fun _ => hoe) rfl neL ge (fun b x hb hi q => by
        obtain ⟨es, n, hd⟩ := (D₁.at_ b x hb).exD hi
        rw [q, hn] at hd; cases hd) He⟩, q1, q2, q3⟩⟩
    have R' := RR.under (A' := (A₀.deeper (envOf nm sc frm a cd)).mark (some (.ref e))) rfl
    refine wpAny_mono (kS e oe He ⟨ws, hoed, hoe2⟩ _ R') (fun f s' ⟨b, σ', hf, R'', hU⟩ => ?_) fun _ _ x => x.elim
    exact ⟨b, σ', hf, Rel.back R R'', hU⟩
theorem c_eqSU {c : Cx} {E : Value → Shared → Prop} {σ : St} {Q : V → St → Prop} {a b : Addr} {ds : List Dt} {d : Nat} (r : c.RoomU d) (h : DIs σ.H (.ref a) (.tup ds)) (k : DIs σ.H (.ref b) (.tup ds)) (hd : deps ds ≤ 100) (q : Q (.bool true) σ) : c.Cmp E .Eq (.ref a) (.ref b) Q σ := by
  rintro _ _ rfl rfl s R
  have ru := r.2
  simp only [DIs] at h k
  obtain ⟨_, vs, e1, ha, hd'⟩ := h
  obtain ⟨_, us, e2, hb, he⟩ := k
  cases e1; cases e2
  obtain ⟨xs, n, hg, hr⟩ := R.tup ha
  obtain ⟨ys, n', hg', hr'⟩ := R.tup hb
  have l1 := hr.length; rw [Array.length_toList, hd'.length] at l1
  have l2 := hr'.length; rw [Array.length_toList, he.length] at l2
  have cl : cLine = 9900 := rfl
  have q' : Q (.bool (eqds ds ds)) σ := by rw [eqds_refl]; exact q
  rw [← eqAt_all, ← l1] at q'
  exact RcAt.tuples (tupOf_is hg) (tupOf_is hg') (by omega) (fun j h1 h2 => deep_eq_at R ds ds c.A.in1 vs us xs.toList ys.toList hd' he hr hr' (likds_refl ds) (by show c.A.units + 1 + _ < _; omega) j (by simpa using h1) (by simpa using h2)) _ _ _ _ ⟨.bool _, σ, rfl, R, by rw [show ys.size = xs.size by omega]; exact q'⟩
end Rk

end
section
namespace Rk
noncomputable def IsD (D : Wd) : Prop := D.K = Rk.KK D.w.params
theorem IsD.k {D : Wd} (h : IsD D) : D.K = Rk.KK D.w.params := h
section
variable {D : Wd} {c : Cx} {E : Value → Shared → Prop} {σ : St} {a : Addr} {Q : V → St → Prop} {N : Unit → St → Prop} {P : Value → List V → St → Prop} {pos : Pos} {b : V}
theorem IsD.up {F : Frag → Prop} (h : IsD D) (p : F (Rk.KK D.w.params)) : F D.K := h.symm ▸ p
theorem meG {C f : Addr} {fs : List (Str × V)} {n : Str} (hD : IsD c.D) (L : Plain c.D.K C) (e : σ.H a = some (.inst C fs)) (hf : findIn (Rk.KK c.D.w.params) (.ref C) n = some (some (.ref f))) (ht : isFn (Rk.KK c.D.w.params) (.ref f) = true) (hn : fget n fs = none) (h : P (.ref f) [.ref a] σ) : c.Meth E (.ref a) n P σ :=
  m_inst e L (hD.up (F := fun K => findIn K (.ref C) n = some (some (.ref f))) hf) (hD.up (F := fun K => isFn K (.ref f) = true) ht) hn h
theorem nwG {C f : Addr} {as : List V} {d : Nat} {m : Str → Option V} {H : Hp} (hD : IsD c.D) (L : Plain c.D.K C) (hf : findIn (Rk.KK c.D.w.params) (.ref C) "__init__" = some (some (.ref f))) (ht : isFn (Rk.KK c.D.w.params) (.ref f) = true) (r : c.Room (d + 1)) (h : ∀ n, H n = none → Fn c.D d f (.ref n :: as) (fun v H' => v = .none ∧ Q (.ref n) ⟨m, H'⟩) (H.set n (.inst C []))) : c.Call E (.ref C) as Q ⟨m, H⟩ :=
  c_newG L (hD.up (F := fun K => findIn K (.ref C) "__init__" = some (some (.ref f))) hf) (hD.up (F := fun K => isFn K (.ref f) = true) ht) r h
theorem glG {x : Str} {u : Value} {v : V} (hD : IsD c.D) (e : nsIn (Rk.KK c.D.w.params) mainGlobals x = some (some u)) (hv : VRel v u) (hk : c.env.kindOf x = some .globalImplicit) (h : Q v σ) (hd : (x == ("__debug__" : Str)) = false) : c.Ev E (.Name x pos) Q σ :=
  w_glob (hD.up (F := fun K => nsIn K mainGlobals x = some (some u)) e) hv hk h hd
theorem gbG {x : Str} {u : Value} (hD : IsD c.D) (e : nsIn (Rk.KK c.D.w.params) mainGlobals x = some none) (hv : bootBuiltins x = some u) (hn : x ≠ "__name__") (hk : c.env.kindOf x = some .globalImplicit) (h : Q (.raw u) σ) (hd : (x == ("__debug__" : Str)) = false) : c.Ev E (.Name x pos) Q σ :=
  w_blt (hD.up (F := fun K => nsIn K mainGlobals x = some none) e) hv hn hk h hd
noncomputable abbrev EntryFs (v0 v1 v2 v3 : V) : List (Str × V) := [("term", v0), ("index", v1), ("kind", v2), ("data", v3)]
noncomputable abbrev C_Entry : Addr := 213
theorem plain_Entry (hD : IsD D) : Plain D.K 213 := hD.up (F := fun K => Plain K 213) ⟨by k_is, by k_is, by k_is, by k_is, by k_is, by k_is⟩
theorem pi_Entry_term (hD : IsD c.D) (e : σ.H a = some (.inst 213 [])) (h : N () (σ.set a (.inst 213 [("term", b)]))) : c.Put E (.ref a) "term" b N σ := put_field e (plain_Entry hD) (hD.up (F := fun K => findIn K (.ref 213) "term" = some none) (by k_is)) (Nat.le_of_ble_eq_true rfl) h
theorem pi_Entry_index {v0 : V} (hD : IsD c.D) (e : σ.H a = some (.inst 213 [("term", v0)])) (h : N () (σ.set a (.inst 213 [("term", v0), ("index", b)]))) : c.Put E (.ref a) "index" b N σ := put_field e (plain_Entry hD) (hD.up (F := fun K => findIn K (.ref 213) "index" = some none) (by k_is)) (Nat.le_of_ble_eq_true rfl) h
theorem pi_Entry_kind {v0 v1 : V} (hD : IsD c.D) (e : σ.H a = some (.inst 213 [("term", v0), ("index", v1)])) (h : N () (σ.set a (.inst 213 [("term", v0), ("index", v1), ("kind", b)]))) : c.Put E (.ref a) "kind" b N σ := put_field e (plain_Entry hD) (hD.up (F := fun K => findIn K (.ref 213) "kind" = some none) (by k_is)) (Nat.le_of_ble_eq_true rfl) h
theorem pi_Entry_data {v0 v1 v2 : V} (hD : IsD c.D) (e : σ.H a = some (.inst 213 [("term", v0), ("index", v1), ("kind", v2)])) (h : N () (σ.set a (.inst 213 [("term", v0), ("index", v1), ("kind", v2), ("data", b)]))) : c.Put E (.ref a) "data" b N σ := put_field e (plain_Entry hD) (hD.up (F := fun K => findIn K (.ref 213) "data" = some none) (by k_is)) (Nat.le_of_ble_eq_true rfl) h
theorem nw_Entry {as : List V} {d : Nat} {m : Str → Option V} {H : Hp} (hD : IsD c.D) (r : c.Room (d + 1)) (h : ∀ n, H n = none → Fn c.D d 182 (.ref n :: as) (fun v H' => v = .none ∧ Q (.ref n) ⟨m, H'⟩) (H.set n (.inst 213 []))) : c.Call E (.ref 213) as Q ⟨m, H⟩ := nwG hD (plain_Entry hD) (by k_is) (by k_is) r h
theorem me_Entry_row {v0 v1 v2 v3 : V} (hD : IsD c.D) (e : σ.H a = some (.inst 213 (EntryFs v0 v1 v2 v3))) (h : P (.ref 189) [.ref a] σ) : c.Meth E (.ref a) "row" P σ := meG hD (plain_Entry hD) e (by k_is) (by k_is) rfl h
theorem me_Entry_size {v0 v1 v2 v3 : V} (hD : IsD c.D) (e : σ.H a = some (.inst 213 (EntryFs v0 v1 v2 v3))) (h : P (.ref 210) [.ref a] σ) : c.Meth E (.ref a) "size" P σ := meG hD (plain_Entry hD) e (by k_is) (by k_is) rfl h
noncomputable abbrev HardStateFs (v0 v1 v2 : V) : List (Str × V) := [("term", v0), ("vote", v1), ("commit", v2)]
noncomputable abbrev C_HardState : Addr := 269
theorem plain_HardState (hD : IsD D) : Plain D.K 269 := hD.up (F := fun K => Plain K 269) ⟨by k_is, by k_is, by k_is, by k_is, by k_is, by k_is⟩
theorem pi_HardState_term (hD : IsD c.D) (e : σ.H a = some (.inst 269 [])) (h : N () (σ.set a (.inst 269 [("term", b)]))) : c.Put E (.ref a) "term" b N σ := put_field e (plain_HardState hD) (hD.up (F := fun K => findIn K (.ref 269) "term" = some none) (by k_is)) (Nat.le_of_ble_eq_true rfl) h
theorem pi_HardState_vote {v0 : V} (hD : IsD c.D) (e : σ.H a = some (.inst 269 [("term", v0)])) (h : N () (σ.set a (.inst 269 [("term", v0), ("vote", b)]))) : c.Put E (.ref a) "vote" b N σ := put_field e (plain_HardState hD) (hD.up (F := fun K => findIn K (.ref 269) "vote" = some none) (by k_is)) (Nat.le_of_ble_eq_true rfl) h
theorem pi_HardState_commit {v0 v1 : V} (hD : IsD c.D) (e : σ.H a = some (.inst 269 [("term", v0), ("vote", v1)])) (h : N () (σ.set a (.inst 269 [("term", v0), ("vote", v1), ("commit", b)]))) : c.Put E (.ref a) "commit" b N σ := put_field e (plain_HardState hD) (hD.up (F := fun K => findIn K (.ref 269) "commit" = some none) (by k_is)) (Nat.le_of_ble_eq_true rfl) h
theorem nw_HardState {as : List V} {d : Nat} {m : Str → Option V} {H : Hp} (hD : IsD c.D) (r : c.Room (d + 1)) (h : ∀ n, H n = none → Fn c.D d 238 (.ref n :: as) (fun v H' => v = .none ∧ Q (.ref n) ⟨m, H'⟩) (H.set n (.inst 269 []))) : c.Call E (.ref 269) as Q ⟨m, H⟩ := nwG hD (plain_HardState hD) (by k_is) (by k_is) r h
theorem me_HardState_row {v0 v1 v2 : V} (hD : IsD c.D) (e : σ.H a = some (.inst 269 (HardStateFs v0 v1 v2))) (h : P (.ref 245) [.ref a] σ) : c.Meth E (.ref a) "row" P σ := meG hD (plain_HardState hD) e (by k_is) (by k_is) rfl h
noncomputable abbrev ConfStateFs (v0 v1 v2 v3 v4 : V) : List (Str × V) := [("voters", v0), ("learners", v1), ("outgoing", v2), ("learners_next", v3), ("auto_leave", v4)]
noncomputable abbrev C_ConfState : Addr := 304
theorem plain_ConfState (hD : IsD D) : Plain D.K 304 := hD.up (F := fun K => Plain K 304) ⟨by k_is, by k_is, by k_is, by k_is, by k_is, by k_is⟩
theorem pi_ConfState_voters (hD : IsD c.D) (e : σ.H a = some (.inst 304 [])) (h : N () (σ.set a (.inst 304 [("voters", b)]))) : c.Put E (.ref a) "voters" b N σ := put_field e (plain_ConfState hD) (hD.up (F := fun K => findIn K (.ref 304) "voters" = some none) (by k_is)) (Nat.le_of_ble_eq_true rfl) h
theorem pi_ConfState_learners {v0 : V} (hD : IsD c.D) (e : σ.H a = some (.inst 304 [("voters", v0)])) (h : N () (σ.set a (.inst 304 [("voters", v0), ("learners", b)]))) : c.Put E (.ref a) "learners" b N σ := put_field e (plain_ConfState hD) (hD.up (F := fun K => findIn K (.ref 304) "learners" = some none) (by k_is)) (Nat.le_of_ble_eq_true rfl) h
theorem pi_ConfState_outgoing {v0 v1 : V} (hD : IsD c.D) (e : σ.H a = some (.inst 304 [("voters", v0), ("learners", v1)])) (h : N () (σ.set a (.inst 304 [("voters", v0), ("learners", v1), ("outgoing", b)]))) : c.Put E (.ref a) "outgoing" b N σ := put_field e (plain_ConfState hD) (hD.up (F := fun K => findIn K (.ref 304) "outgoing" = some none) (by k_is)) (Nat.le_of_ble_eq_true rfl) h
theorem pi_ConfState_learners_next {v0 v1 v2 : V} (hD : IsD c.D) (e : σ.H a = some (.inst 304 [("voters", v0), ("learners", v1), ("outgoing", v2)])) (h : N () (σ.set a (.inst 304 [("voters", v0), ("learners", v1), ("outgoing", v2), ("learners_next", b)]))) : c.Put E (.ref a) "learners_next" b N σ := put_field e (plain_ConfState hD) (hD.up (F := fun K => findIn K (.ref 304) "learners_next" = some none) (by k_is)) (Nat.le_of_ble_eq_true rfl) h
theorem pi_ConfState_auto_leave {v0 v1 v2 v3 : V} (hD : IsD c.D) (e : σ.H a = some (.inst 304 [("voters", v0), ("learners", v1), ("outgoing", v2), ("learners_next", v3)])) (h : N () (σ.set a (.inst 304 [("voters", v0), ("learners", v1), ("outgoing", v2), ("learners_next", v3), ("auto_leave", b)]))) : c.Put E (.ref a) "auto_leave" b N σ := put_field e (plain_ConfState hD) (hD.up (F := fun K => findIn K (.ref 304) "auto_leave" = some none) (by k_is)) (Nat.le_of_ble_eq_true rfl) h
theorem nw_ConfState {as : List V} {d : Nat} {m : Str → Option V} {H : Hp} (hD : IsD c.D) (r : c.Room (d + 1)) (h : ∀ n, H n = none → Fn c.D d 287 (.ref n :: as) (fun v H' => v = .none ∧ Q (.ref n) ⟨m, H'⟩) (H.set n (.inst 304 []))) : c.Call E (.ref 304) as Q ⟨m, H⟩ := nwG hD (plain_ConfState hD) (by k_is) (by k_is) r h
theorem me_ConfState_row {v0 v1 v2 v3 v4 : V} (hD : IsD c.D) (e : σ.H a = some (.inst 304 (ConfStateFs v0 v1 v2 v3 v4))) (h : P (.ref 294) [.ref a] σ) : c.Meth E (.ref a) "row" P σ := meG hD (plain_ConfState hD) e (by k_is) (by k_is) rfl h
noncomputable abbrev SnapshotFs (v0 v1 v2 v3 : V) : List (Str × V) := [("index", v0), ("term", v1), ("conf", v2), ("data", v3)]
noncomputable abbrev C_Snapshot : Addr := 346
theorem plain_Snapshot (hD : IsD D) : Plain D.K 346 := hD.up (F := fun K => Plain K 346) ⟨by k_is, by k_is, by k_is, by k_is, by k_is, by k_is⟩
theorem pi_Snapshot_index (hD : IsD c.D) (e : σ.H a = some (.inst 346 [])) (h : N () (σ.set a (.inst 346 [("index", b)]))) : c.Put E (.ref a) "index" b N σ := put_field e (plain_Snapshot hD) (hD.up (F := fun K => findIn K (.ref 346) "index" = some none) (by k_is)) (Nat.le_of_ble_eq_true rfl) h
theorem pi_Snapshot_term {v0 : V} (hD : IsD c.D) (e : σ.H a = some (.inst 346 [("index", v0)])) (h : N () (σ.set a (.inst 346 [("index", v0), ("term", b)]))) : c.Put E (.ref a) "term" b N σ := put_field e (plain_Snapshot hD) (hD.up (F := fun K => findIn K (.ref 346) "term" = some none) (by k_is)) (Nat.le_of_ble_eq_true rfl) h
theorem pi_Snapshot_conf {v0 v1 : V} (hD : IsD c.D) (e : σ.H a = some (.inst 346 [("index", v0), ("term", v1)])) (h : N () (σ.set a (.inst 346 [("index", v0), ("term", v1), ("conf", b)]))) : c.Put E (.ref a) "conf" b N σ := put_field e (plain_Snapshot hD) (hD.up (F := fun K => findIn K (.ref 346) "conf" = some none) (by k_is)) (Nat.le_of_ble_eq_true rfl) h
theorem pi_Snapshot_data {v0 v1 v2 : V} (hD : IsD c.D) (e : σ.H a = some (.inst 346 [("index", v0), ("term", v1), ("conf", v2)])) (h : N () (σ.set a (.inst 346 [("index", v0), ("term", v1), ("conf", v2), ("data", b)]))) : c.Put E (.ref a) "data" b N σ := put_field e (plain_Snapshot hD) (hD.up (F := fun K => findIn K (.ref 346) "data" = some none) (by k_is)) (Nat.le_of_ble_eq_true rfl) h
theorem nw_Snapshot {as : List V} {d : Nat} {m : Str → Option V} {H : Hp} (hD : IsD c.D) (r : c.Room (d + 1)) (h : ∀ n, H n = none → Fn c.D d 322 (.ref n :: as) (fun v H' => v = .none ∧ Q (.ref n) ⟨m, H'⟩) (H.set n (.inst 346 []))) : c.Call E (.ref 346) as Q ⟨m, H⟩ := nwG hD (plain_Snapshot hD) (by k_is) (by k_is) r h
theorem me_Snapshot_row {v0 v1 v2 v3 : V} (hD : IsD c.D) (e : σ.H a = some (.inst 346 (SnapshotFs v0 v1 v2 v3))) (h : P (.ref 329) [.ref a] σ) : c.Meth E (.ref a) "row" P σ := meG hD (plain_Snapshot hD) e (by k_is) (by k_is) rfl h
theorem me_Snapshot_empty {v0 v1 v2 v3 : V} (hD : IsD c.D) (e : σ.H a = some (.inst 346 (SnapshotFs v0 v1 v2 v3))) (h : P (.ref 336) [.ref a] σ) : c.Meth E (.ref a) "empty" P σ := meG hD (plain_Snapshot hD) e (by k_is) (by k_is) rfl h
noncomputable abbrev MemoryStorageFs (v0 v1 v2 v3 v4 v5 : V) : List (Str × V) := [("hard", v0), ("conf", v1), ("snap", v2), ("base_index", v3), ("base_term", v4), ("entries", v5)]
noncomputable abbrev C_MemoryStorage : Addr := 451
theorem plain_MemoryStorage (hD : IsD D) : Plain D.K 451 := hD.up (F := fun K => Plain K 451) ⟨by k_is, by k_is, by k_is, by k_is, by k_is, by k_is⟩
theorem pi_MemoryStorage_hard (hD : IsD c.D) (e : σ.H a = some (.inst 451 [])) (h : N () (σ.set a (.inst 451 [("hard", b)]))) : c.Put E (.ref a) "hard" b N σ := put_field e (plain_MemoryStorage hD) (hD.up (F := fun K => findIn K (.ref 451) "hard" = some none) (by k_is)) (Nat.le_of_ble_eq_true rfl) h
theorem pf_MemoryStorage_conf {v0 v1 v2 v3 v4 v5 : V} (hD : IsD c.D) (e : σ.H a = some (.inst 451 (MemoryStorageFs v0 v1 v2 v3 v4 v5))) (h : N () (σ.set a (.inst 451 (MemoryStorageFs v0 b v2 v3 v4 v5)))) : c.Put E (.ref a) "conf" b N σ := put_field e (plain_MemoryStorage hD) (hD.up (F := fun K => findIn K (.ref 451) "conf" = some none) (by k_is)) (Nat.le_of_ble_eq_true rfl) h
theorem pi_MemoryStorage_conf {v0 : V} (hD : IsD c.D) (e : σ.H a = some (.inst 451 [("hard", v0)])) (h : N () (σ.set a (.inst 451 [("hard", v0), ("conf", b)]))) : c.Put E (.ref a) "conf" b N σ := put_field e (plain_MemoryStorage hD) (hD.up (F := fun K => findIn K (.ref 451) "conf" = some none) (by k_is)) (Nat.le_of_ble_eq_true rfl) h
theorem pf_MemoryStorage_snap {v0 v1 v2 v3 v4 v5 : V} (hD : IsD c.D) (e : σ.H a = some (.inst 451 (MemoryStorageFs v0 v1 v2 v3 v4 v5))) (h : N () (σ.set a (.inst 451 (MemoryStorageFs v0 v1 b v3 v4 v5)))) : c.Put E (.ref a) "snap" b N σ := put_field e (plain_MemoryStorage hD) (hD.up (F := fun K => findIn K (.ref 451) "snap" = some none) (by k_is)) (Nat.le_of_ble_eq_true rfl) h
theorem pi_MemoryStorage_snap {v0 v1 : V} (hD : IsD c.D) (e : σ.H a = some (.inst 451 [("hard", v0), ("conf", v1)])) (h : N () (σ.set a (.inst 451 [("hard", v0), ("conf", v1), ("snap", b)]))) : c.Put E (.ref a) "snap" b N σ := put_field e (plain_MemoryStorage hD) (hD.up (F := fun K => findIn K (.ref 451) "snap" = some none) (by k_is)) (Nat.le_of_ble_eq_true rfl) h
theorem pf_MemoryStorage_base_index {v0 v1 v2 v3 v4 v5 : V} (hD : IsD c.D) (e : σ.H a = some (.inst 451 (MemoryStorageFs v0 v1 v2 v3 v4 v5))) (h : N () (σ.set a (.inst 451 (MemoryStorageFs v0 v1 v2 b v4 v5)))) : c.Put E (.ref a) "base_index" b N σ := put_field e (plain_MemoryStorage hD) (hD.up (F := fun K => findIn K (.ref 451) "base_index" = some none) (by k_is)) (Nat.le_of_ble_eq_true rfl) h
theorem pi_MemoryStorage_base_index {v0 v1 v2 : V} (hD : IsD c.D) (e : σ.H a = some (.inst 451 [("hard", v0), ("conf", v1), ("snap", v2)])) (h : N () (σ.set a (.inst 451 [("hard", v0), ("conf", v1), ("snap", v2), ("base_index", b)]))) : c.Put E (.ref a) "base_index" b N σ := put_field e (plain_MemoryStorage hD) (hD.up (F := fun K => findIn K (.ref 451) "base_index" = some none) (by k_is)) (Nat.le_of_ble_eq_true rfl) h
theorem pf_MemoryStorage_base_term {v0 v1 v2 v3 v4 v5 : V} (hD : IsD c.D) (e : σ.H a = some (.inst 451 (MemoryStorageFs v0 v1 v2 v3 v4 v5))) (h : N () (σ.set a (.inst 451 (MemoryStorageFs v0 v1 v2 v3 b v5)))) : c.Put E (.ref a) "base_term" b N σ := put_field e (plain_MemoryStorage hD) (hD.up (F := fun K => findIn K (.ref 451) "base_term" = some none) (by k_is)) (Nat.le_of_ble_eq_true rfl) h
theorem pi_MemoryStorage_base_term {v0 v1 v2 v3 : V} (hD : IsD c.D) (e : σ.H a = some (.inst 451 [("hard", v0), ("conf", v1), ("snap", v2), ("base_index", v3)])) (h : N () (σ.set a (.inst 451 [("hard", v0), ("conf", v1), ("snap", v2), ("base_index", v3), ("base_term", b)]))) : c.Put E (.ref a) "base_term" b N σ := put_field e (plain_MemoryStorage hD) (hD.up (F := fun K => findIn K (.ref 451) "base_term" = some none) (by k_is)) (Nat.le_of_ble_eq_true rfl) h
theorem pf_MemoryStorage_entries {v0 v1 v2 v3 v4 v5 : V} (hD : IsD c.D) (e : σ.H a = some (.inst 451 (MemoryStorageFs v0 v1 v2 v3 v4 v5))) (h : N () (σ.set a (.inst 451 (MemoryStorageFs v0 v1 v2 v3 v4 b)))) : c.Put E (.ref a) "entries" b N σ := put_field e (plain_MemoryStorage hD) (hD.up (F := fun K => findIn K (.ref 451) "entries" = some none) (by k_is)) (Nat.le_of_ble_eq_true rfl) h
theorem pi_MemoryStorage_entries {v0 v1 v2 v3 v4 : V} (hD : IsD c.D) (e : σ.H a = some (.inst 451 [("hard", v0), ("conf", v1), ("snap", v2), ("base_index", v3), ("base_term", v4)])) (h : N () (σ.set a (.inst 451 [("hard", v0), ("conf", v1), ("snap", v2), ("base_index", v3), ("base_term", v4), ("entries", b)]))) : c.Put E (.ref a) "entries" b N σ := put_field e (plain_MemoryStorage hD) (hD.up (F := fun K => findIn K (.ref 451) "entries" = some none) (by k_is)) (Nat.le_of_ble_eq_true rfl) h
theorem nw_MemoryStorage {as : List V} {d : Nat} {m : Str → Option V} {H : Hp} (hD : IsD c.D) (r : c.Room (d + 1)) (h : ∀ n, H n = none → Fn c.D d 364 (.ref n :: as) (fun v H' => v = .none ∧ Q (.ref n) ⟨m, H'⟩) (H.set n (.inst 451 []))) : c.Call E (.ref 451) as Q ⟨m, H⟩ := nwG hD (plain_MemoryStorage hD) (by k_is) (by k_is) r h
theorem me_MemoryStorage_first_index {v0 v1 v2 v3 v4 v5 : V} (hD : IsD c.D) (e : σ.H a = some (.inst 451 (MemoryStorageFs v0 v1 v2 v3 v4 v5))) (h : P (.ref 378) [.ref a] σ) : c.Meth E (.ref a) "first_index" P σ := meG hD (plain_MemoryStorage hD) e (by k_is) (by k_is) rfl h
theorem me_MemoryStorage_last_index {v0 v1 v2 v3 v4 v5 : V} (hD : IsD c.D) (e : σ.H a = some (.inst 451 (MemoryStorageFs v0 v1 v2 v3 v4 v5))) (h : P (.ref 385) [.ref a] σ) : c.Meth E (.ref a) "last_index" P σ := meG hD (plain_MemoryStorage hD) e (by k_is) (by k_is) rfl h
theorem me_MemoryStorage_entries_between {v0 v1 v2 v3 v4 v5 : V} (hD : IsD c.D) (e : σ.H a = some (.inst 451 (MemoryStorageFs v0 v1 v2 v3 v4 v5))) (h : P (.ref 392) [.ref a] σ) : c.Meth E (.ref a) "entries_between" P σ := meG hD (plain_MemoryStorage hD) e (by k_is) (by k_is) rfl h
theorem me_MemoryStorage_term_at {v0 v1 v2 v3 v4 v5 : V} (hD : IsD c.D) (e : σ.H a = some (.inst 451 (MemoryStorageFs v0 v1 v2 v3 v4 v5))) (h : P (.ref 399) [.ref a] σ) : c.Meth E (.ref a) "term_at" P σ := meG hD (plain_MemoryStorage hD) e (by k_is) (by k_is) rfl h
theorem me_MemoryStorage_snapshot {v0 v1 v2 v3 v4 v5 : V} (hD : IsD c.D) (e : σ.H a = some (.inst 451 (MemoryStorageFs v0 v1 v2 v3 v4 v5))) (h : P (.ref 406) [.ref a] σ) : c.Meth E (.ref a) "snapshot" P σ := meG hD (plain_MemoryStorage hD) e (by k_is) (by k_is) rfl h
theorem me_MemoryStorage_append {v0 v1 v2 v3 v4 v5 : V} (hD : IsD c.D) (e : σ.H a = some (.inst 451 (MemoryStorageFs v0 v1 v2 v3 v4 v5))) (h : P (.ref 420) [.ref a] σ) : c.Meth E (.ref a) "append" P σ := meG hD (plain_MemoryStorage hD) e (by k_is) (by k_is) rfl h
theorem me_MemoryStorage_apply_snapshot {v0 v1 v2 v3 v4 v5 : V} (hD : IsD c.D) (e : σ.H a = some (.inst 451 (MemoryStorageFs v0 v1 v2 v3 v4 v5))) (h : P (.ref 427) [.ref a] σ) : c.Meth E (.ref a) "apply_snapshot" P σ := meG hD (plain_MemoryStorage hD) e (by k_is) (by k_is) rfl h
theorem me_MemoryStorage_row {v0 v1 v2 v3 v4 v5 : V} (hD : IsD c.D) (e : σ.H a = some (.inst 451 (MemoryStorageFs v0 v1 v2 v3 v4 v5))) (h : P (.ref 448) [.ref a] σ) : c.Meth E (.ref a) "row" P σ := meG hD (plain_MemoryStorage hD) e (by k_is) (by k_is) rfl h
noncomputable abbrev UnstableFs (v0 v1 v2 : V) : List (Str × V) := [("snapshot", v0), ("entries", v1), ("offset", v2)]
noncomputable abbrev C_Unstable : Addr := 535
theorem plain_Unstable (hD : IsD D) : Plain D.K 535 := hD.up (F := fun K => Plain K 535) ⟨by k_is, by k_is, by k_is, by k_is, by k_is, by k_is⟩
theorem pf_Unstable_snapshot {v0 v1 v2 : V} (hD : IsD c.D) (e : σ.H a = some (.inst 535 (UnstableFs v0 v1 v2))) (h : N () (σ.set a (.inst 535 (UnstableFs b v1 v2)))) : c.Put E (.ref a) "snapshot" b N σ := put_field e (plain_Unstable hD) (hD.up (F := fun K => findIn K (.ref 535) "snapshot" = some none) (by k_is)) (Nat.le_of_ble_eq_true rfl) h
theorem pi_Unstable_snapshot (hD : IsD c.D) (e : σ.H a = some (.inst 535 [])) (h : N () (σ.set a (.inst 535 [("snapshot", b)]))) : c.Put E (.ref a) "snapshot" b N σ := put_field e (plain_Unstable hD) (hD.up (F := fun K => findIn K (.ref 535) "snapshot" = some none) (by k_is)) (Nat.le_of_ble_eq_true rfl) h
theorem pf_Unstable_entries {v0 v1 v2 : V} (hD : IsD c.D) (e : σ.H a = some (.inst 535 (UnstableFs v0 v1 v2))) (h : N () (σ.set a (.inst 535 (UnstableFs v0 b v2)))) : c.Put E (.ref a) "entries" b N σ := put_field e (plain_Unstable hD) (hD.up (F := fun K => findIn K (.ref 535) "entries" = some none) (by k_is)) (Nat.le_of_ble_eq_true rfl) h
theorem pi_Unstable_entries {v0 : V} (hD : IsD c.D) (e : σ.H a = some (.inst 535 [("snapshot", v0)])) (h : N () (σ.set a (.inst 535 [("snapshot", v0), ("entries", b)]))) : c.Put E (.ref a) "entries" b N σ := put_field e (plain_Unstable hD) (hD.up (F := fun K => findIn K (.ref 535) "entries" = some none) (by k_is)) (Nat.le_of_ble_eq_true rfl) h
theorem pf_Unstable_offset {v0 v1 v2 : V} (hD : IsD c.D) (e : σ.H a = some (.inst 535 (UnstableFs v0 v1 v2))) (h : N () (σ.set a (.inst 535 (UnstableFs v0 v1 b)))) : c.Put E (.ref a) "offset" b N σ := put_field e (plain_Unstable hD) (hD.up (F := fun K => findIn K (.ref 535) "offset" = some none) (by k_is)) (Nat.le_of_ble_eq_true rfl) h
theorem pi_Unstable_offset {v0 v1 : V} (hD : IsD c.D) (e : σ.H a = some (.inst 535 [("snapshot", v0), ("entries", v1)])) (h : N () (σ.set a (.inst 535 [("snapshot", v0), ("entries", v1), ("offset", b)]))) : c.Put E (.ref a) "offset" b N σ := put_field e (plain_Unstable hD) (hD.up (F := fun K => findIn K (.ref 535) "offset" = some none) (by k_is)) (Nat.le_of_ble_eq_true rfl) h
theorem nw_Unstable {as : List V} {d : Nat} {m : Str → Option V} {H : Hp} (hD : IsD c.D) (r : c.Room (d + 1)) (h : ∀ n, H n = none → Fn c.D d 469 (.ref n :: as) (fun v H' => v = .none ∧ Q (.ref n) ⟨m, H'⟩) (H.set n (.inst 535 []))) : c.Call E (.ref 535) as Q ⟨m, H⟩ := nwG hD (plain_Unstable hD) (by k_is) (by k_is) r h
theorem me_Unstable_maybe_first {v0 v1 v2 : V} (hD : IsD c.D) (e : σ.H a = some (.inst 535 (UnstableFs v0 v1 v2))) (h : P (.ref 476) [.ref a] σ) : c.Meth E (.ref a) "maybe_first" P σ := meG hD (plain_Unstable hD) e (by k_is) (by k_is) rfl h
theorem me_Unstable_maybe_last {v0 v1 v2 : V} (hD : IsD c.D) (e : σ.H a = some (.inst 535 (UnstableFs v0 v1 v2))) (h : P (.ref 483) [.ref a] σ) : c.Meth E (.ref a) "maybe_last" P σ := meG hD (plain_Unstable hD) e (by k_is) (by k_is) rfl h
theorem me_Unstable_maybe_term {v0 v1 v2 : V} (hD : IsD c.D) (e : σ.H a = some (.inst 535 (UnstableFs v0 v1 v2))) (h : P (.ref 490) [.ref a] σ) : c.Meth E (.ref a) "maybe_term" P σ := meG hD (plain_Unstable hD) e (by k_is) (by k_is) rfl h
theorem me_Unstable_stable_to {v0 v1 v2 : V} (hD : IsD c.D) (e : σ.H a = some (.inst 535 (UnstableFs v0 v1 v2))) (h : P (.ref 497) [.ref a] σ) : c.Meth E (.ref a) "stable_to" P σ := meG hD (plain_Unstable hD) e (by k_is) (by k_is) rfl h
theorem me_Unstable_stable_snap_to {v0 v1 v2 : V} (hD : IsD c.D) (e : σ.H a = some (.inst 535 (UnstableFs v0 v1 v2))) (h : P (.ref 504) [.ref a] σ) : c.Meth E (.ref a) "stable_snap_to" P σ := meG hD (plain_Unstable hD) e (by k_is) (by k_is) rfl h
theorem me_Unstable_restore {v0 v1 v2 : V} (hD : IsD c.D) (e : σ.H a = some (.inst 535 (UnstableFs v0 v1 v2))) (h : P (.ref 511) [.ref a] σ) : c.Meth E (.ref a) "restore" P σ := meG hD (plain_Unstable hD) e (by k_is) (by k_is) rfl h
theorem me_Unstable_truncate_and_append {v0 v1 v2 : V} (hD : IsD c.D) (e : σ.H a = some (.inst 535 (UnstableFs v0 v1 v2))) (h : P (.ref 518) [.ref a] σ) : c.Meth E (.ref a) "truncate_and_append" P σ := meG hD (plain_Unstable hD) e (by k_is) (by k_is) rfl h
theorem me_Unstable_part {v0 v1 v2 : V} (hD : IsD c.D) (e : σ.H a = some (.inst 535 (UnstableFs v0 v1 v2))) (h : P (.ref 525) [.ref a] σ) : c.Meth E (.ref a) "part" P σ := meG hD (plain_Unstable hD) e (by k_is) (by k_is) rfl h
theorem me_Unstable_row {v0 v1 v2 : V} (hD : IsD c.D) (e : σ.H a = some (.inst 535 (UnstableFs v0 v1 v2))) (h : P (.ref 532) [.ref a] σ) : c.Meth E (.ref a) "row" P σ := meG hD (plain_Unstable hD) e (by k_is) (by k_is) rfl h
noncomputable abbrev RaftLogFs (v0 v1 v2 v3 v4 : V) : List (Str × V) := [("storage", v0), ("max_committed", v1), ("unstable", v2), ("committed", v3), ("applied", v4)]
noncomputable abbrev C_RaftLog : Addr := 745
theorem plain_RaftLog (hD : IsD D) : Plain D.K 745 := hD.up (F := fun K => Plain K 745) ⟨by k_is, by k_is, by k_is, by k_is, by k_is, by k_is⟩
theorem pi_RaftLog_storage (hD : IsD c.D) (e : σ.H a = some (.inst 745 [])) (h : N () (σ.set a (.inst 745 [("storage", b)]))) : c.Put E (.ref a) "storage" b N σ := put_field e (plain_RaftLog hD) (hD.up (F := fun K => findIn K (.ref 745) "storage" = some none) (by k_is)) (Nat.le_of_ble_eq_true rfl) h
theorem pi_RaftLog_max_committed {v0 : V} (hD : IsD c.D) (e : σ.H a = some (.inst 745 [("storage", v0)])) (h : N () (σ.set a (.inst 745 [("storage", v0), ("max_committed", b)]))) : c.Put E (.ref a) "max_committed" b N σ := put_field e (plain_RaftLog hD) (hD.up (F := fun K => findIn K (.ref 745) "max_committed" = some none) (by k_is)) (Nat.le_of_ble_eq_true rfl) h
theorem pi_RaftLog_unstable {v0 v1 : V} (hD : IsD c.D) (e : σ.H a = some (.inst 745 [("storage", v0), ("max_committed", v1)])) (h : N () (σ.set a (.inst 745 [("storage", v0), ("max_committed", v1), ("unstable", b)]))) : c.Put E (.ref a) "unstable" b N σ := put_field e (plain_RaftLog hD) (hD.up (F := fun K => findIn K (.ref 745) "unstable" = some none) (by k_is)) (Nat.le_of_ble_eq_true rfl) h
theorem pf_RaftLog_committed {v0 v1 v2 v3 v4 : V} (hD : IsD c.D) (e : σ.H a = some (.inst 745 (RaftLogFs v0 v1 v2 v3 v4))) (h : N () (σ.set a (.inst 745 (RaftLogFs v0 v1 v2 b v4)))) : c.Put E (.ref a) "committed" b N σ := put_field e (plain_RaftLog hD) (hD.up (F := fun K => findIn K (.ref 745) "committed" = some none) (by k_is)) (Nat.le_of_ble_eq_true rfl) h
theorem pi_RaftLog_committed {v0 v1 v2 : V} (hD : IsD c.D) (e : σ.H a = some (.inst 745 [("storage", v0), ("max_committed", v1), ("unstable", v2)])) (h : N () (σ.set a (.inst 745 [("storage", v0), ("max_committed", v1), ("unstable", v2), ("committed", b)]))) : c.Put E (.ref a) "committed" b N σ := put_field e (plain_RaftLog hD) (hD.up (F := fun K => findIn K (.ref 745) "committed" = some none) (by k_is)) (Nat.le_of_ble_eq_true rfl) h
theorem pf_RaftLog_applied {v0 v1 v2 v3 v4 : V} (hD : IsD c.D) (e : σ.H a = some (.inst 745 (RaftLogFs v0 v1 v2 v3 v4))) (h : N () (σ.set a (.inst 745 (RaftLogFs v0 v1 v2 v3 b)))) : c.Put E (.ref a) "applied" b N σ := put_field e (plain_RaftLog hD) (hD.up (F := fun K => findIn K (.ref 745) "applied" = some none) (by k_is)) (Nat.le_of_ble_eq_true rfl) h
theorem pi_RaftLog_applied {v0 v1 v2 v3 : V} (hD : IsD c.D) (e : σ.H a = some (.inst 745 [("storage", v0), ("max_committed", v1), ("unstable", v2), ("committed", v3)])) (h : N () (σ.set a (.inst 745 [("storage", v0), ("max_committed", v1), ("unstable", v2), ("committed", v3), ("applied", b)]))) : c.Put E (.ref a) "applied" b N σ := put_field e (plain_RaftLog hD) (hD.up (F := fun K => findIn K (.ref 745) "applied" = some none) (by k_is)) (Nat.le_of_ble_eq_true rfl) h
theorem nw_RaftLog {as : List V} {d : Nat} {m : Str → Option V} {H : Hp} (hD : IsD c.D) (r : c.Room (d + 1)) (h : ∀ n, H n = none → Fn c.D d 553 (.ref n :: as) (fun v H' => v = .none ∧ Q (.ref n) ⟨m, H'⟩) (H.set n (.inst 745 []))) : c.Call E (.ref 745) as Q ⟨m, H⟩ := nwG hD (plain_RaftLog hD) (by k_is) (by k_is) r h
theorem me_RaftLog_first_index {v0 v1 v2 v3 v4 : V} (hD : IsD c.D) (e : σ.H a = some (.inst 745 (RaftLogFs v0 v1 v2 v3 v4))) (h : P (.ref 560) [.ref a] σ) : c.Meth E (.ref a) "first_index" P σ := meG hD (plain_RaftLog hD) e (by k_is) (by k_is) rfl h
theorem me_RaftLog_last_index {v0 v1 v2 v3 v4 : V} (hD : IsD c.D) (e : σ.H a = some (.inst 745 (RaftLogFs v0 v1 v2 v3 v4))) (h : P (.ref 567) [.ref a] σ) : c.Meth E (.ref a) "last_index" P σ := meG hD (plain_RaftLog hD) e (by k_is) (by k_is) rfl h
theorem me_RaftLog_term {v0 v1 v2 v3 v4 : V} (hD : IsD c.D) (e : σ.H a = some (.inst 745 (RaftLogFs v0 v1 v2 v3 v4))) (h : P (.ref 581) [.ref a] σ) : c.Meth E (.ref a) "term" P σ := meG hD (plain_RaftLog hD) e (by k_is) (by k_is) rfl h
theorem me_RaftLog_append {v0 v1 v2 v3 v4 : V} (hD : IsD c.D) (e : σ.H a = some (.inst 745 (RaftLogFs v0 v1 v2 v3 v4))) (h : P (.ref 616) [.ref a] σ) : c.Meth E (.ref a) "append" P σ := meG hD (plain_RaftLog hD) e (by k_is) (by k_is) rfl h
theorem me_RaftLog_restore {v0 v1 v2 v3 v4 : V} (hD : IsD c.D) (e : σ.H a = some (.inst 745 (RaftLogFs v0 v1 v2 v3 v4))) (h : P (.ref 637) [.ref a] σ) : c.Meth E (.ref a) "restore" P σ := meG hD (plain_RaftLog hD) e (by k_is) (by k_is) rfl h
theorem me_RaftLog_commit_to {v0 v1 v2 v3 v4 : V} (hD : IsD c.D) (e : σ.H a = some (.inst 745 (RaftLogFs v0 v1 v2 v3 v4))) (h : P (.ref 644) [.ref a] σ) : c.Meth E (.ref a) "commit_to" P σ := meG hD (plain_RaftLog hD) e (by k_is) (by k_is) rfl h
theorem me_RaftLog_applied_to {v0 v1 v2 v3 v4 : V} (hD : IsD c.D) (e : σ.H a = some (.inst 745 (RaftLogFs v0 v1 v2 v3 v4))) (h : P (.ref 658) [.ref a] σ) : c.Meth E (.ref a) "applied_to" P σ := meG hD (plain_RaftLog hD) e (by k_is) (by k_is) rfl h
theorem me_RaftLog_stable_to {v0 v1 v2 v3 v4 : V} (hD : IsD c.D) (e : σ.H a = some (.inst 745 (RaftLogFs v0 v1 v2 v3 v4))) (h : P (.ref 665) [.ref a] σ) : c.Meth E (.ref a) "stable_to" P σ := meG hD (plain_RaftLog hD) e (by k_is) (by k_is) rfl h
theorem me_RaftLog_stable_snap_to {v0 v1 v2 v3 v4 : V} (hD : IsD c.D) (e : σ.H a = some (.inst 745 (RaftLogFs v0 v1 v2 v3 v4))) (h : P (.ref 672) [.ref a] σ) : c.Meth E (.ref a) "stable_snap_to" P σ := meG hD (plain_RaftLog hD) e (by k_is) (by k_is) rfl h
theorem me_RaftLog_unstable_entries {v0 v1 v2 v3 v4 : V} (hD : IsD c.D) (e : σ.H a = some (.inst 745 (RaftLogFs v0 v1 v2 v3 v4))) (h : P (.ref 679) [.ref a] σ) : c.Meth E (.ref a) "unstable_entries" P σ := meG hD (plain_RaftLog hD) e (by k_is) (by k_is) rfl h
theorem me_RaftLog_pending_snapshot {v0 v1 v2 v3 v4 : V} (hD : IsD c.D) (e : σ.H a = some (.inst 745 (RaftLogFs v0 v1 v2 v3 v4))) (h : P (.ref 686) [.ref a] σ) : c.Meth E (.ref a) "pending_snapshot" P σ := meG hD (plain_RaftLog hD) e (by k_is) (by k_is) rfl h
theorem me_RaftLog_first_unapplied {v0 v1 v2 v3 v4 : V} (hD : IsD c.D) (e : σ.H a = some (.inst 745 (RaftLogFs v0 v1 v2 v3 v4))) (h : P (.ref 693) [.ref a] σ) : c.Meth E (.ref a) "first_unapplied" P σ := meG hD (plain_RaftLog hD) e (by k_is) (by k_is) rfl h
theorem me_RaftLog_has_next {v0 v1 v2 v3 v4 : V} (hD : IsD c.D) (e : σ.H a = some (.inst 745 (RaftLogFs v0 v1 v2 v3 v4))) (h : P (.ref 700) [.ref a] σ) : c.Meth E (.ref a) "has_next" P σ := meG hD (plain_RaftLog hD) e (by k_is) (by k_is) rfl h
theorem me_RaftLog_next_committed {v0 v1 v2 v3 v4 : V} (hD : IsD c.D) (e : σ.H a = some (.inst 745 (RaftLogFs v0 v1 v2 v3 v4))) (h : P (.ref 707) [.ref a] σ) : c.Meth E (.ref a) "next_committed" P σ := meG hD (plain_RaftLog hD) e (by k_is) (by k_is) rfl h
theorem me_RaftLog_snapshot {v0 v1 v2 v3 v4 : V} (hD : IsD c.D) (e : σ.H a = some (.inst 745 (RaftLogFs v0 v1 v2 v3 v4))) (h : P (.ref 714) [.ref a] σ) : c.Meth E (.ref a) "snapshot" P σ := meG hD (plain_RaftLog hD) e (by k_is) (by k_is) rfl h
theorem me_RaftLog_slice {v0 v1 v2 v3 v4 : V} (hD : IsD c.D) (e : σ.H a = some (.inst 745 (RaftLogFs v0 v1 v2 v3 v4))) (h : P (.ref 735) [.ref a] σ) : c.Meth E (.ref a) "slice" P σ := meG hD (plain_RaftLog hD) e (by k_is) (by k_is) rfl h
theorem me_RaftLog_row {v0 v1 v2 v3 v4 : V} (hD : IsD c.D) (e : σ.H a = some (.inst 745 (RaftLogFs v0 v1 v2 v3 v4))) (h : P (.ref 742) [.ref a] σ) : c.Meth E (.ref a) "row" P σ := meG hD (plain_RaftLog hD) e (by k_is) (by k_is) rfl h
theorem gl_MAX_64 (hD : IsD c.D) (hk : c.env.kindOf "MAX_64" = some .globalImplicit) (h : Q (.int 18446744073709551615) σ) : c.Ev E (.Name "MAX_64" pos) Q σ := glG hD (u := .int 18446744073709551615 378) (v := .int 18446744073709551615) (by k_is) ⟨_, rfl⟩ hk h rfl
theorem gl_varint_length (hD : IsD c.D) (hk : c.env.kindOf "varint_length" = some .globalImplicit) (h : Q (.ref 161) σ) : c.Ev E (.Name "varint_length" pos) Q σ := glG hD (u := .ref 161) (v := .ref 161) (by k_is) rfl hk h rfl
theorem gl_NO_LIMIT (hD : IsD c.D) (hk : c.env.kindOf "NO_LIMIT" = some .globalImplicit) (h : Q (.int 18446744073709551615) σ) : c.Ev E (.Name "NO_LIMIT" pos) Q σ := glG hD (u := .int 18446744073709551615 392) (v := .int 18446744073709551615) (by k_is) ⟨_, rfl⟩ hk h rfl
theorem gl_ENTRY_NORMAL (hD : IsD c.D) (hk : c.env.kindOf "ENTRY_NORMAL" = some .globalImplicit) (h : Q (.int 0) σ) : c.Ev E (.Name "ENTRY_NORMAL" pos) Q σ := glG hD (u := .int 0 394) (v := .int 0) (by k_is) ⟨_, rfl⟩ hk h rfl
theorem gl_rising (hD : IsD c.D) (hk : c.env.kindOf "rising" = some .globalImplicit) (h : Q (.ref 168) σ) : c.Ev E (.Name "rising" pos) Q σ := glG hD (u := .ref 168) (v := .ref 168) (by k_is) rfl hk h rfl
theorem gl_Entry (hD : IsD c.D) (hk : c.env.kindOf "Entry" = some .globalImplicit) (h : Q (.ref 213) σ) : c.Ev E (.Name "Entry" pos) Q σ := glG hD (u := .ref 213) (v := .ref 213) (by k_is) rfl hk h rfl
theorem gl_limit_size (hD : IsD c.D) (hk : c.env.kindOf "limit_size" = some .globalImplicit) (h : Q (.ref 224) σ) : c.Ev E (.Name "limit_size" pos) Q σ := glG hD (u := .ref 224) (v := .ref 224) (by k_is) rfl hk h rfl
theorem gl_HardState (hD : IsD c.D) (hk : c.env.kindOf "HardState" = some .globalImplicit) (h : Q (.ref 269) σ) : c.Ev E (.Name "HardState" pos) Q σ := glG hD (u := .ref 269) (v := .ref 269) (by k_is) rfl hk h rfl
theorem gl_ConfState (hD : IsD c.D) (hk : c.env.kindOf "ConfState" = some .globalImplicit) (h : Q (.ref 304) σ) : c.Ev E (.Name "ConfState" pos) Q σ := glG hD (u := .ref 304) (v := .ref 304) (by k_is) rfl hk h rfl
theorem gl_Snapshot (hD : IsD c.D) (hk : c.env.kindOf "Snapshot" = some .globalImplicit) (h : Q (.ref 346) σ) : c.Ev E (.Name "Snapshot" pos) Q σ := glG hD (u := .ref 346) (v := .ref 346) (by k_is) rfl hk h rfl
theorem gl_MemoryStorage (hD : IsD c.D) (hk : c.env.kindOf "MemoryStorage" = some .globalImplicit) (h : Q (.ref 451) σ) : c.Ev E (.Name "MemoryStorage" pos) Q σ := glG hD (u := .ref 451) (v := .ref 451) (by k_is) rfl hk h rfl
theorem gl_Unstable (hD : IsD c.D) (hk : c.env.kindOf "Unstable" = some .globalImplicit) (h : Q (.ref 535) σ) : c.Ev E (.Name "Unstable" pos) Q σ := glG hD (u := .ref 535) (v := .ref 535) (by k_is) rfl hk h rfl
theorem gl_RaftLog (hD : IsD c.D) (hk : c.env.kindOf "RaftLog" = some .globalImplicit) (h : Q (.ref 745) σ) : c.Ev E (.Name "RaftLog" pos) Q σ := glG hD (u := .ref 745) (v := .ref 745) (by k_is) rfl hk h rfl
theorem gl__law_orders (hD : IsD c.D) (hk : c.env.kindOf "_law_orders" = some .globalImplicit) (h : Q (.ref 756) σ) : c.Ev E (.Name "_law_orders" pos) Q σ := glG hD (u := .ref 756) (v := .ref 756) (by k_is) rfl hk h rfl
theorem gl__law_draw (hD : IsD c.D) (hk : c.env.kindOf "_law_draw" = some .globalImplicit) (h : Q (.ref 763) σ) : c.Ev E (.Name "_law_draw" pos) Q σ := glG hD (u := .ref 763) (v := .ref 763) (by k_is) rfl hk h rfl
theorem gl__law_begun (hD : IsD c.D) (hk : c.env.kindOf "_law_begun" = some .globalImplicit) (h : Q (.ref 770) σ) : c.Ev E (.Name "_law_begun" pos) Q σ := glG hD (u := .ref 770) (v := .ref 770) (by k_is) rfl hk h rfl
theorem gl__law_refuses (hD : IsD c.D) (hk : c.env.kindOf "_law_refuses" = some .globalImplicit) (h : Q (.ref 777) σ) : c.Ev E (.Name "_law_refuses" pos) Q σ := glG hD (u := .ref 777) (v := .ref 777) (by k_is) rfl hk h rfl
theorem gl__law_term (hD : IsD c.D) (hk : c.env.kindOf "_law_term" = some .globalImplicit) (h : Q (.ref 784) σ) : c.Ev E (.Name "_law_term" pos) Q σ := glG hD (u := .ref 784) (v := .ref 784) (by k_is) rfl hk h rfl
theorem gl__law_whole (hD : IsD c.D) (hk : c.env.kindOf "_law_whole" = some .globalImplicit) (h : Q (.ref 791) σ) : c.Ev E (.Name "_law_whole" pos) Q σ := glG hD (u := .ref 791) (v := .ref 791) (by k_is) rfl hk h rfl
theorem gl_len (hD : IsD c.D) (hk : c.env.kindOf "len" = some .globalImplicit) (h : Q (.raw (.builtin "len")) σ) : c.Ev E (.Name "len" pos) Q σ := gbG hD (u := .builtin "len") (by k_is) (by boot_by_name) (by decide) hk h rfl
theorem gl_max (hD : IsD c.D) (hk : c.env.kindOf "max" = some .globalImplicit) (h : Q (.raw (.builtin "max")) σ) : c.Ev E (.Name "max" pos) Q σ := gbG hD (u := .builtin "max") (by k_is) (by boot_by_name) (by decide) hk h rfl
theorem gl_min (hD : IsD c.D) (hk : c.env.kindOf "min" = some .globalImplicit) (h : Q (.raw (.builtin "min")) σ) : c.Ev E (.Name "min" pos) Q σ := gbG hD (u := .builtin "min") (by k_is) (by boot_by_name) (by decide) hk h rfl
theorem gl_sorted (hD : IsD c.D) (hk : c.env.kindOf "sorted" = some .globalImplicit) (h : Q (.raw (.builtin "sorted")) σ) : c.Ev E (.Name "sorted" pos) Q σ := gbG hD (u := .builtin "sorted") (by k_is) (by boot_by_name) (by decide) hk h rfl
theorem gl_range (hD : IsD c.D) (hk : c.env.kindOf "range" = some .globalImplicit) (h : Q (.raw (.type "range")) σ) : c.Ev E (.Name "range" pos) Q σ := gbG hD (u := .type "range") (by k_is) (by boot_by_name) (by decide) hk h rfl
theorem gl_tuple (hD : IsD c.D) (hk : c.env.kindOf "tuple" = some .globalImplicit) (h : Q (.raw (.type "tuple")) σ) : c.Ev E (.Name "tuple" pos) Q σ := gbG hD (u := .type "tuple") (by k_is) (by boot_by_name) (by decide) hk h rfl
noncomputable def fdT : List (Nat × Str) := [(213, "term"), (213, "index"), (213, "kind"), (213, "data"), (269, "term"), (269, "vote"), (269, "commit"), (304, "voters"), (304, "learners"), (304, "outgoing"), (304, "learners_next"), (304, "auto_leave"), (346, "index"), (346, "term"), (346, "conf"), (346, "data"), (451, "hard"), (451, "conf"), (451, "snap"), (451, "base_index"), (451, "base_term"), (451, "entries"), (535, "snapshot"), (535, "entries"), (535, "offset"), (745, "storage"), (745, "max_committed"), (745, "unstable"), (745, "committed"), (745, "applied")]
noncomputable def fdOk (C : Nat) (n : Str) : Bool := fdT.any fun p => p.1 == C && decide (p.2 = n)
noncomputable def isSN : Option (Option Value) → Bool := fun x => x.casesOn false fun y => y.casesOn true fun _ => false
theorem isSN_ : ∀ {x : Option (Option Value)}, isSN x = true → x = some none
  | some none, _ => rfl
  | none, h => nomatch h
  | some (some _), h => nomatch h
theorem fd_all (P : Params) : (fdT.all fun p => isSN (findIn (Rk.KK P) (.ref p.1) p.2)) = true := by kernel_rfl
theorem nf_of {C : Nat} {n : Str} (hD : IsD D) (h : fdOk C n = true) : findIn D.K (.ref C) n = some none := by
  obtain ⟨p, hp, h⟩ := List.any_eq_true.mp h
  rw [Bool.and_eq_true, beq_iff_eq, decide_eq_true_eq] at h
  obtain ⟨rfl, rfl⟩ := h
  exact hD.up (F := fun K => findIn K (.ref p.1) p.2 = some none) (isSN_ (List.all_eq_true.mp (fd_all _) p hp))
noncomputable def clsL : List Nat := [213, 269, 304, 346, 451, 535, 745]
theorem plain_of {C : Nat} (hD : IsD D) (h : clsL.contains C = true) : Plain D.K C := by
  have : ∀ C ∈ clsL, Plain D.K C := List.forall_mem_cons.mpr ⟨plain_Entry hD, List.forall_mem_cons.mpr ⟨plain_HardState hD, List.forall_mem_cons.mpr ⟨plain_ConfState hD, List.forall_mem_cons.mpr ⟨plain_Snapshot hD, List.forall_mem_cons.mpr ⟨plain_MemoryStorage hD, List.forall_mem_cons.mpr ⟨plain_Unstable hD, List.forall_mem_cons.mpr ⟨plain_RaftLog hD, fun _ h => nomatch h⟩⟩⟩⟩⟩⟩⟩
  exact this C (List.contains_iff_mem.mp h)
theorem gfG {C : Nat} {n : Str} {fs : List (Str × V)} {v : V} (hD : IsD c.D) (e : σ.H a = some (.inst C fs)) (hc : (clsL.contains C && fdOk C n) = true) (hf : fget n fs = some v) (hp : v.plain = true) (h : Q v σ) : c.Get E (.ref a) n Q σ := by
  rw [Bool.and_eq_true] at hc
  exact get_field e (plain_of hD hc.1) (nf_of hD hc.2) hf hp h
noncomputable def kpL : List Nat := [161, 168, 182, 189, 196, 210, 213, 224, 238, 245, 252, 266, 269, 287, 294, 301, 304, 322, 329, 336, 343, 346, 364, 378, 385, 392, 399, 406, 413, 420, 427, 448, 451, 469, 476, 483, 490, 497, 504, 511, 518, 525, 532, 535, 553, 560, 567, 581, 616, 637, 644, 658, 665, 672, 679, 686, 693, 700, 707, 714, 721, 735, 742, 745, 756, 763, 770, 777, 784, 791, 796]
theorem kp_all (P : Params) : (kpL.all fun f => Kp (Rk.KK P) (.ref f)) = true := by kernel_rfl
theorem kp_of {f : Nat} (hD : IsD D) (h : kpL.contains f = true) : Kp D.K (.ref f) = true := hD.up (F := fun K => Kp K (.ref f) = true) (List.all_eq_true.mp (kp_all _) f (List.contains_iff_mem.mp h))
end
end Rk

end
namespace Rk

noncomputable abbrev NLim : Int := 18446744073709551615
/-- entries with the terms ts, from place i on -/
noncomputable def EntV (H : Hp) : Int → List V → List Int → Prop
  | _, [], [] => True
  | i, v :: vs, t :: ts => (∃ a, v = .ref a ∧ H a = some (.inst 213 (EntryFs (.int t) (.int i) (.int 0) (.bytes #[])))) ∧ EntV H (i + 1) vs ts
  | _, _, _ => False
theorem EntV.length {H : Hp} : ∀ {i : Int} {vs : List V} {es : List Int}, EntV H i vs es → vs.length = es.length
  | _, [], [], _ => rfl
  | _, _ :: _, _ :: _, h => by rw [List.length_cons, List.length_cons, EntV.length h.2]
  | _, [], _ :: _, h => h.elim
  | _, _ :: _, [], h => h.elim
theorem EntV.map {H H' : Hp} (l : ∀ a fs, H a = some (.inst 213 fs) → H' a = some (.inst 213 fs)) : ∀ {i : Int} {vs : List V} {es : List Int}, EntV H i vs es → EntV H' i vs es
  | _, [], [], _ => trivial
  | _, _ :: _, _ :: _, h => ⟨let ⟨a, e, q⟩ := h.1; ⟨a, e, l _ _ q⟩, EntV.map l h.2⟩
  | _, [], _ :: _, h => h.elim
  | _, _ :: _, [], h => h.elim
theorem EntV.le {H H' : Hp} (l : H.Le H') {i : Int} {vs : List V} {es : List Int} (h : EntV H i vs es) : EntV H' i vs es := h.map fun a fs => l _ _
theorem EntV.get {H : Hp} : ∀ {i : Int} {vs : List V} {es : List Int}, EntV H i vs es → ∀ {k : Nat} {e : Int}, es[k]? = some e → ∃ a, vs[k]? = some (.ref a) ∧ H a = some (.inst 213 (EntryFs (.int e) (.int (i + k)) (.int 0) (.bytes #[])))
  | i, v :: vs, x :: es, h, 0, e, q => by
    cases q
    obtain ⟨a, rfl, ha⟩ := h.1
    exact ⟨a, rfl, by simpa using ha⟩
  | i, v :: vs, x :: es, h, k + 1, e, q => by
    obtain ⟨a, h1, h2⟩ := EntV.get h.2 (k := k) (by simpa using q)
    refine ⟨a, by simpa using h1, ?_⟩
    rw [h2, show i + 1 + (k : Int) = i + ((k + 1 : Nat) : Int) by push_cast; (first | lia | omega)]
  | _, [], [], _, _, _, q => by cases q
  | _, [], _ :: _, h, _, _, _ => h.elim
  | _, _ :: _, [], h, _, _, _ => h.elim
theorem EntV.app {H : Hp} : ∀ {i : Int} {vs : List V} {es : List Int} {us : List V} {fs : List Int}, EntV H i vs es → EntV H (i + es.length) us fs → EntV H i (vs ++ us) (es ++ fs)
  | _, [], [], _, _, _, k => by simpa using k
  | i, v :: vs, e :: es, _, _, h, k => ⟨h.1, EntV.app h.2 (by rw [List.length_cons] at k; push_cast at k; rw [show i + 1 + (es.length : Int) = i + (es.length + 1) by (first | lia | omega)]; exact k)⟩
  | _, [], _ :: _, _, _, h, _ => h.elim
  | _, _ :: _, [], _, _, h, _ => h.elim
theorem EntV.drop {H : Hp} : ∀ (n : Nat) {i : Int} {vs : List V} {es : List Int}, EntV H i vs es → EntV H (i + n) (vs.drop n) (es.drop n)
  | 0, _, _, _, h => by simpa using h
  | n + 1, _, [], [], _ => by simp [EntV]
  | n + 1, i, _ :: vs, _ :: es, h => by
    have := EntV.drop n h.2
    simp only [List.drop_succ_cons]
    push_cast
    rw [show i + ((n : Int) + 1) = i + 1 + n by (first | lia | omega)]; exact this
  | _ + 1, _, [], _ :: _, h => h.elim
  | _ + 1, _, _ :: _, [], h => h.elim
theorem EntV.take {H : Hp} : ∀ (n : Nat) {i : Int} {vs : List V} {es : List Int}, EntV H i vs es → EntV H i (vs.take n) (es.take n)
  | 0, _, _, _, _ => by simp [EntV]
  | n + 1, _, [], [], _ => by simp [EntV]
  | n + 1, i, _ :: vs, _ :: es, h => by
    simp only [List.take_succ_cons]
    exact ⟨h.1, EntV.take n h.2⟩
  | _ + 1, _, [], _ :: _, h => h.elim
  | _ + 1, _, _ :: _, [], h => h.elim
theorem EntV.at {H : Hp} {i : Int} {vs : List V} {es : List Int} (h : EntV H i vs es) {j : Nat} {v : V} (e : vs[j]? = some v) : ∃ x a, es[j]? = some x ∧ v = .ref a ∧ H a = some (.inst 213 (EntryFs (.int x) (.int (i + j)) (.int 0) (.bytes #[]))) := by
  have hl := h.length
  have lt : j < es.length := by rw [← hl]; exact (List.getElem?_eq_some_iff.mp e).1
  obtain ⟨a, h1, h2⟩ := h.get (List.getElem?_eq_getElem lt)
  rw [e] at h1; cases h1
  exact ⟨_, a, List.getElem?_eq_getElem lt, rfl, h2⟩
theorem EntV.first {H : Hp} {i : Int} {vs : List V} {es : List Int} (h : EntV H i vs es) (l : 1 ≤ es.length) : ∃ a e, vs[(0 : Int).toNat]? = some (.ref a) ∧ es[0]? = some e ∧ H a = some (.inst 213 (EntryFs (.int e) (.int i) (.int 0) (.bytes #[]))) := by
  obtain ⟨a, h1, h2⟩ := h.get (List.getElem?_eq_getElem (show 0 < es.length by (first | lia | omega)))
  exact ⟨a, _, h1, List.getElem?_eq_getElem (show 0 < es.length by (first | lia | omega)), by simpa using h2⟩
noncomputable def tmE (es : List Int) (j : Int) : Int := (es[j.toNat]?).getD 0
/-- a log and its storage, as far as the law asks -/
structure LS where
  com : Int
  app : Int
  off : Int
  sn : Option (Addr × Int × Int)
  es : List Int
  base : Int
  bt : Int
  ss : List Int
  sa : Addr
  si : Int
  hd : Addr
noncomputable def snv : Option (Addr × Int × Int) → V
  | none => .none
  | some p => .ref p.1
noncomputable def SnpAt (H : Hp) (p : Addr × Int × Int) : Prop := ∃ cf b, H p.1 = some (.inst 346 (SnapshotFs (.int p.2.1) (.int p.2.2) (.ref cf) b))
theorem SnpAt.le {H H' : Hp} (l : H.Le H') {p : Addr × Int × Int} (h : SnpAt H p) : SnpAt H' p := let ⟨cf, b, e⟩ := h; ⟨cf, b, l _ _ e⟩
structure StAt (K H : Hp) (st : Addr) (S : LS) : Prop where
  le : K.Le H
  ks : K st = none
  s : ∃ cf sl vs, H st = some (.inst 451 (MemoryStorageFs (.ref S.hd) (.ref cf) (.ref S.sa) (.int S.base) (.int S.bt) (.ref sl))) ∧ H sl = some (.list vs) ∧ EntV K (S.base + 1) vs S.ss
  sa : ∃ t cf b, K S.sa = some (.inst 346 (SnapshotFs (.int S.si) (.int t) (.ref cf) b))
  z : S.ss.length ≤ 10 ∧ 0 ≤ S.base ∧ S.base ≤ 50
structure At (K H : Hp) (r u st : Addr) (S : LS) : Prop where
  t : StAt K H st S
  kr : K r = none
  ku : K u = none
  r : H r = some (.inst 745 (RaftLogFs (.ref st) (.int NLim) (.ref u) (.int S.com) (.int S.app)))
  u : ∃ el vs, H u = some (.inst 535 (UnstableFs (snv S.sn) (.ref el) (.int S.off))) ∧ H el = some (.list vs) ∧ EntV K S.off vs S.es
  sn : ∀ p, S.sn = some p → SnpAt K p
  z : S.es.length ≤ 10 ∧ 0 ≤ S.off ∧ S.off ≤ 100
theorem StAt.grow {K H H' : Hp} {st : Addr} {S : LS} (h : StAt K H st S) (l : H.Le H') : StAt K H' st S := by
  obtain ⟨h1, h2, ⟨cf, sl, vs, q1, q2, q3⟩, h4, h5⟩ := h
  exact ⟨h1.trans l, h2, ⟨cf, sl, vs, l _ _ q1, l _ _ q2, q3⟩, h4, h5⟩
theorem At.le {K H H' : Hp} {r u st : Addr} {S : LS} (h : At K H r u st S) (l : H.Le H') : At K H' r u st S := by
  obtain ⟨h1, h2, h3, h4, ⟨el, vs, q1, q2, q3⟩, h6, h7⟩ := h
  exact ⟨h1.grow l, h2, h3, l _ _ h4, ⟨el, vs, l _ _ q1, l _ _ q2, q3⟩, h6, h7⟩
/-- the frame grows -/
theorem At.up {K K' H : Hp} {r u st : Addr} {S : LS} (h : At K H r u st S) (k : K.Le K') (l : K'.Le H) (n1 : K' r = none) (n2 : K' u = none) (n3 : K' st = none) : At K' H r u st S := by
  obtain ⟨⟨a1, a2, ⟨cf, sl, svs, q1', q2', q3'⟩, ⟨t, cf', b, e⟩, a5⟩, h2, h3, h4, ⟨el, vs, q1, q2, q3⟩, h6, h7⟩ := h
  exact ⟨⟨l, n3, ⟨cf, sl, svs, q1', q2', q3'.le k⟩, ⟨t, cf', b, k _ _ e⟩, a5⟩, n1, n2, h4, ⟨el, vs, q1, q2, q3.le k⟩, fun p e => (h6 p e).le k, h7⟩
theorem At.new {K H : Hp} {r u st n : Addr} {S : LS} {o : MO} (h : At K H r u st S) (hn : H n = none) : At (K.set n o) (H.set n o) r u st S := by
  have kn : K n = none := by
    cases q : K n with
    | none => rfl
    | some x => rw [h.t.le _ _ q] at hn; cases hn
  have l1 : K.Le (K.set n o) := Hp.Le.set _ kn
  have nr : r ≠ n := fun q => by have := h.r; rw [q, hn] at this; cases this
  have nu : u ≠ n := fun q => by obtain ⟨_, _, this, _⟩ := h.u; rw [q, hn] at this; cases this
  have ns : st ≠ n := fun q => by obtain ⟨_, _, _, this, _⟩ := h.t.s; rw [q, hn] at this; cases this
  refine (h.le (Hp.Le.set _ hn)).up l1 (fun a x e => ?_) ((Hp.set_ne _ _ nr).trans h.kr) ((Hp.set_ne _ _ nu).trans h.ku) ((Hp.set_ne _ _ ns).trans h.t.ks)
  by_cases q : a = n
  · subst q; rw [Hp.set_self] at e ⊢; exact e
  · rw [Hp.set_ne _ _ q] at e ⊢; exact h.t.le _ _ e
/-- something of the frame that is no instance is changed -/
theorem At.put {K H : Hp} {r u st a : Addr} {S : LS} {o o' : MO} (h : At K H r u st S) (e : K a = some o) (ho : ∀ C fs, o ≠ .inst C fs) (hl : ∀ vs, o ≠ .list vs) : At (K.set a o') (H.set a o') r u st S := by
  obtain ⟨⟨a1, a2, ⟨cf, sl, svs, q1', q2', q3'⟩, ⟨t, cf', b, e'⟩, a5⟩, h2, h3, h4, ⟨el, vs, q1, q2, q3⟩, h6, h7⟩ := h
  have eH := a1 _ _ e
  have ne : ∀ {x : Addr} {C : Addr} {fs : List (Str × V)}, H x = some (.inst C fs) → x ≠ a := fun q z => by rw [z, eH] at q; cases q; exact ho _ _ rfl
  have nl : ∀ {x : Addr} {vs : List V}, H x = some (.list vs) → x ≠ a := fun q z => by rw [z, eH] at q; cases q; exact hl _ rfl
  have nk : ∀ {x : Addr} {C : Addr} {fs : List (Str × V)}, K x = some (.inst C fs) → (K.set a o') x = some (.inst C fs) := fun q => hs_ne (ne (a1 _ _ q)) q
  have kn : ∀ {x : Addr}, K x = none → x ≠ a := fun q z => by rw [z, e] at q; cases q
  refine ⟨⟨fun x y q => ?_, (Hp.set_ne _ _ (kn a2)).trans a2, ⟨cf, sl, svs, hs_ne (ne q1') q1', hs_ne (nl q2') q2', q3'.map fun _ _ => nk⟩, ⟨t, cf', b, nk e'⟩, a5⟩, (Hp.set_ne _ _ (kn h2)).trans h2, (Hp.set_ne _ _ (kn h3)).trans h3, hs_ne (ne h4) h4, ⟨el, vs, hs_ne (ne q1) q1, hs_ne (nl q2) q2, q3.map fun _ _ => nk⟩, fun p ep => ?_, h7⟩
  · by_cases z : x = a
    · subst z; rw [Hp.set_self] at q ⊢; exact q
    · rw [Hp.set_ne _ _ z] at q ⊢; exact a1 _ _ q
  · obtain ⟨cf, b, q⟩ := h6 p ep; exact ⟨cf, b, nk q⟩
theorem At.del {K H : Hp} {r u st a : Addr} {S : LS} {o : MO} (h : At K H r u st S) (e : K a = some o) (ho : ∀ C fs, o ≠ .inst C fs) (hl : ∀ vs, o ≠ .list vs) : At (K.del a) (H.del a) r u st S := by
  obtain ⟨⟨a1, a2, ⟨cf, sl, svs, q1', q2', q3'⟩, ⟨t, cf', b, e'⟩, a5⟩, h2, h3, h4, ⟨el, vs, q1, q2, q3⟩, h6, h7⟩ := h
  have eH := a1 _ _ e
  have ne : ∀ {x : Addr} {C : Addr} {fs : List (Str × V)}, H x = some (.inst C fs) → x ≠ a := fun q z => by rw [z, eH] at q; cases q; exact ho _ _ rfl
  have nl : ∀ {x : Addr} {vs : List V}, H x = some (.list vs) → x ≠ a := fun q z => by rw [z, eH] at q; cases q; exact hl _ rfl
  have nk : ∀ {x : Addr} {C : Addr} {fs : List (Str × V)}, K x = some (.inst C fs) → (K.del a) x = some (.inst C fs) := fun q => hs_del (ne (a1 _ _ q)) q
  have kd : ∀ {x : Addr}, K x = none → (K.del a) x = none := fun {x} q => by unfold Hp.del; split; rfl; exact q
  refine ⟨⟨fun x y q => ?_, kd a2, ⟨cf, sl, svs, hs_del (ne q1') q1', hs_del (nl q2') q2', q3'.map fun _ _ => nk⟩, ⟨t, cf', b, nk e'⟩, a5⟩, kd h2, kd h3, hs_del (ne h4) h4, ⟨el, vs, hs_del (ne q1) q1, hs_del (nl q2) q2, q3.map fun _ _ => nk⟩, fun p ep => ?_, h7⟩
  · by_cases z : x = a
    · subst z; unfold Hp.del at q; rw [if_pos rfl] at q; cases q
    · exact hs_del z (a1 _ _ ((if_neg z).symm.trans q))
  · obtain ⟨cf, b, q⟩ := h6 p ep; exact ⟨cf, b, nk q⟩
theorem At.non {K H : Hp} {r u st n : Addr} {S : LS} (h : At K H r u st S) (hn : H n = none) : K n = none := by
  cases q : K n with
  | none => rfl
  | some x => rw [h.t.le _ _ q] at hn; cases hn
theorem ne_of {H : Hp} {a b : Addr} {o : MO} (h : H a = none) (k : H b = some o) : a ≠ b := fun q => by rw [q, k] at h; cases h
theorem ne_ob {H : Hp} {a n : Addr} {o o' : MO} (h : H a = some o) (k : H n = some o') (q : o ≠ o') : a ≠ n := fun e => q (by rw [e, k] at h; cases h; rfl)
theorem none_set {H : Hp} {a n : Addr} {o : MO} (h : (H.set a o) n = none) : H n = none := by
  unfold Hp.set at h
  split at h
  · cases h
  · exact h
theorem set_set {H : Hp} {a : Addr} {o o' : MO} : (H.set a o).set a o' = H.set a o' := by
  funext y; simp only [Hp.set]; by_cases z : y = a <;> simp [z]
section
variable {D : Wd} {d : Nat} {K H : Hp} {u el r st xl a n : Addr} {vs xs : List V} {ts : List Int} {i t k lo hi : Int} {Q : V → Hp → Prop} {P : Addr → Hp → Prop} {S : LS}
theorem fn_maybe_first (hD : IsD D) (hat : At K H r u st S) (h0 : S.sn = none → Q .none H) (h1 : ∀ p, S.sn = some p → Q (.int (p.2.1 + 1)) H) : Fn D 1 476 [.ref u] Q H := by
  refine fn_def (hK := by rw [hD.k]; k_is) (hcd := by rw [hD.k]; k_is) (ns := ["self"]) ?_ ?_ ?_ rfl rfl rfl ?_
  · exact fun _ => rfl
  · decide
  · decide
  intro c cD cn cs cc cr
  subst cD
  have atX := hat
  obtain ⟨⟨hle, hks, ⟨cf, sl, svs, hst, hsl, hsv⟩, ⟨sat, scf, sb, hsa⟩, hz1⟩, hkr, hku, hr, ⟨el, vs, hu, hel, hev⟩, hsn, hz2⟩ := atX
  obtain ⟨com, app, off, sn, es, base, bt, ss, sa, si, hd⟩ := S
  dsimp only at hst hsv hsa hr hu hev hsn hz1 hz2
  have lsv := hsv.length
  have lev := hev.length
  cases sn with
  | none => dsimp only [snv] at hu; (with_reducible refine' s_cons (s_if (t_cmp (att ?_))); refine' w_local rfl ?_; refine' gfG ‹_› hu rfl rfl rfl ?_; with_reducible refine' w_none (c_isnt (tr_bool ?_)); refine' br_F rfl ?_; with_reducible refine' s_nil (th_next (s_one (s_ret (w_none ?_))))); exact h0 rfl
  | some p => obtain ⟨pc, pb, hp⟩ := hsn p rfl; have hp := hle _ _ hp; dsimp only [snv] at hu; (with_reducible refine' s_cons (s_if (t_cmp (att ?_))); refine' w_local rfl ?_; refine' gfG ‹_› hu rfl rfl rfl ?_; with_reducible refine' w_none (c_isnt (tr_bool ?_)); refine' br_T rfl ?_; with_reducible refine' s_one (s_ret (w_bin (att (att ?_)))); refine' w_local rfl ?_; refine' gfG ‹_› hu rfl rfl rfl ?_; refine' gfG ‹_› hp rfl rfl rfl ?_; with_reducible refine' w_int (b_add (th_ret ?_))); exact h1 p rfl
theorem fn_maybe_last (hD : IsD D) (hat : At K H r u st S) (h0 : S.es.length = 0 → S.sn = none → Q .none H) (h1 : S.es.length = 0 → ∀ p, S.sn = some p → Q (.int (S.off - 1)) H) (h2 : S.es.length ≠ 0 → Q (.int (S.off + S.es.length - 1)) H) : Fn D 1 483 [.ref u] Q H := by
  refine fn_def (hK := by rw [hD.k]; k_is) (hcd := by rw [hD.k]; k_is) (ns := ["self"]) ?_ ?_ ?_ rfl rfl rfl ?_
  · exact fun _ => rfl
  · decide
  · decide
  intro c cD cn cs cc cr
  subst cD
  have atX := hat
  obtain ⟨⟨hle, hks, ⟨cf, sl, svs, hst, hsl, hsv⟩, ⟨sat, scf, sb, hsa⟩, hz1⟩, hkr, hku, hr, ⟨el, vs, hu, hel, hev⟩, hsn, hz2⟩ := atX
  obtain ⟨com, app, off, sn, es, base, bt, ss, sa, si, hd⟩ := S
  dsimp only at hst hsv hsa hr hu hev hsn hz1 hz2
  have lsv := hsv.length
  have lev := hev.length
  dsimp only at h0 h1 h2
  by_cases z : es.length = 0
  · have z' : vs = [] := List.length_eq_zero_iff.mp (by (first | lia | omega))
    subst z'
    cases sn with
    | none => dsimp only [snv] at hu; (with_reducible refine' s_cons (s_if (t_cmp (w_call ?_))); refine' gl_len ‹_› (kof ‹_› rfl) ?_; refine' cv_raw rfl ?_; with_reducible refine' w_es_cons (att ?_); refine' w_local rfl ?_; refine' gfG ‹_› hu rfl rfl rfl ?_; with_reducible refine' w_es_nil ?_; refine' f_len hel (by decide) ?_; with_reducible refine' w_int (c_gt (tr_bool (br_d ?_ ?_))); with_reducible refine' fun _ => ?_; exact False.elim (by lia); with_reducible refine' fun _ => s_nil (th_next (s_cons (s_if (t_cmp (att ?_))))); refine' w_local rfl ?_; refine' gfG ‹_› hu rfl rfl rfl ?_; with_reducible refine' w_none (c_isnt (tr_bool ?_)); refine' br_F rfl ?_; with_reducible refine' s_nil (th_next (s_one (s_ret (w_none ?_))))); exact h0 z rfl
    | some p => dsimp only [snv] at hu; (with_reducible refine' s_cons (s_if (t_cmp (w_call ?_))); refine' gl_len ‹_› (kof ‹_› rfl) ?_; refine' cv_raw rfl ?_; with_reducible refine' w_es_cons (att ?_); refine' w_local rfl ?_; refine' gfG ‹_› hu rfl rfl rfl ?_; with_reducible refine' w_es_nil ?_; refine' f_len hel (by decide) ?_; with_reducible refine' w_int (c_gt (tr_bool (br_d ?_ ?_))); with_reducible refine' fun _ => ?_; exact False.elim (by lia); with_reducible refine' fun _ => s_nil (th_next (s_cons (s_if (t_cmp (att ?_))))); refine' w_local rfl ?_; refine' gfG ‹_› hu rfl rfl rfl ?_; with_reducible refine' w_none (c_isnt (tr_bool ?_)); refine' br_T rfl ?_; with_reducible refine' s_one (s_ret (w_bin (att ?_))); refine' w_local rfl ?_; refine' gfG ‹_› hu rfl rfl rfl ?_; with_reducible refine' w_int (b_sub (th_ret ?_))); exact h1 z p rfl
  · with_reducible refine' s_cons (s_if (t_cmp (w_call ?_)))
    refine' gl_len ‹_› (kof ‹_› rfl) ?_
    refine' cv_raw rfl ?_
    with_reducible refine' w_es_cons (att ?_)
    refine' w_local rfl ?_
    refine' gfG ‹_› hu rfl rfl rfl ?_
    with_reducible refine' w_es_nil ?_
    refine' f_len hel (by lia) ?_
    with_reducible refine' w_int (c_gt (tr_bool (br_d ?_ ?_)))
    with_reducible refine' fun _ => s_one (s_ret (w_bin (w_bin (att ?_))))
    refine' w_local rfl ?_
    refine' gfG ‹_› hu rfl rfl rfl ?_
    with_reducible refine' w_call ?_
    refine' gl_len ‹_› (kof ‹_› rfl) ?_
    refine' cv_raw rfl ?_
    with_reducible refine' w_es_cons (att ?_)
    refine' w_local rfl ?_
    refine' gfG ‹_› hu rfl rfl rfl ?_
    with_reducible refine' w_es_nil ?_
    refine' f_len hel (by lia) ?_
    with_reducible refine' b_add (w_int (b_sub (th_ret ?_)))
    rotate_left
    with_reducible refine' fun _ => ?_
    exact False.elim (by lia)
    rw [lev]; exact h2 z
/-- the term that the unstable part knows -/
noncomputable def LS.mt (S : LS) (i : Int) : Option Int :=
  if i < S.off then (match S.sn with | some p => if p.2.1 = i then some p.2.2 else none | none => none) else if S.off + S.es.length ≤ i then none else some (tmE S.es (i - S.off))
noncomputable def oV : Option Int → V
  | none => .none
  | some i => .int i
theorem fn_maybe_term (hD : IsD D) (hat : At K H r u st S) (h : Q (oV (S.mt i)) H) : Fn D 1 490 [.ref u, .int i] Q H := by
  refine fn_def (hK := by rw [hD.k]; k_is) (hcd := by rw [hD.k]; k_is) (ns := ["self", "i"]) ?_ ?_ ?_ rfl rfl rfl ?_
  · exact fun _ _ => rfl
  · decide
  · decide
  intro c cD cn cs cc cr
  subst cD
  have atX := hat
  obtain ⟨⟨hle, hks, ⟨cf, sl, svs, hst, hsl, hsv⟩, ⟨sat, scf, sb, hsa⟩, hz1⟩, hkr, hku, hr, ⟨el, vs, hu, hel, hev⟩, hsn, hz2⟩ := atX
  obtain ⟨com, app, off, sn, es, base, bt, ss, sa, si, hd⟩ := S
  dsimp only at hst hsv hsa hr hu hev hsn hz1 hz2
  have lsv := hsv.length
  have lev := hev.length
  unfold LS.mt at h
  dsimp only at h
  by_cases q : i < off
  · rw [if_pos q] at h
    cases sn with
    | none => dsimp only [snv] at hu; (with_reducible refine' s_cons (s_if (t_cmp ?_)); refine' w_local rfl ?_; with_reducible refine' att ?_; refine' w_local rfl ?_; refine' gfG ‹_› hu rfl rfl rfl ?_; with_reducible refine' c_lt (tr_bool (br_d ?_ ?_)); with_reducible refine' fun _ => s_cons (s_if (t_bool (a_and (t_cmp (att ?_))))); refine' w_local rfl ?_; refine' gfG ‹_› hu rfl rfl rfl ?_; with_reducible refine' w_none (c_isnt (tr_bool ?_)); refine' br_F rfl ?_; with_reducible refine' br_f (s_nil (th_next (s_one (s_ret (w_none (th_ret ?_)))))); rotate_left; with_reducible refine' fun _ => ?_; exact False.elim (by lia)); exact h
    | some p =>
      obtain ⟨pc, pb, hp⟩ := hsn p rfl; have hp := hle _ _ hp
      dsimp only [snv] at h hu
      by_cases z : p.2.1 = i
      · rw [if_pos z] at h; (with_reducible refine' s_cons (s_if (t_cmp ?_)); refine' w_local rfl ?_; with_reducible refine' att ?_; refine' w_local rfl ?_; refine' gfG ‹_› hu rfl rfl rfl ?_; with_reducible refine' c_lt (tr_bool (br_d ?_ ?_)); with_reducible refine' fun _ => s_cons (s_if (t_bool (a_and (t_cmp (att ?_))))); refine' w_local rfl ?_; refine' gfG ‹_› hu rfl rfl rfl ?_; with_reducible refine' w_none (c_isnt (tr_bool ?_)); refine' br_T rfl ?_; with_reducible refine' a_and (t_cmp (att (att ?_))); refine' w_local rfl ?_; refine' gfG ‹_› hu rfl rfl rfl ?_; refine' gfG ‹_› hp rfl rfl rfl ?_; refine' w_local rfl ?_; with_reducible refine' c_eq (tr_bool (br_eq ?_ ?_)); with_reducible refine' fun _ => a_and_nil (br_t (s_one (s_ret (att (att ?_))))); refine' w_local rfl ?_; refine' gfG ‹_› hu rfl rfl rfl ?_; refine' gfG ‹_› hp rfl rfl rfl ?_; with_reducible refine' th_ret (th_ret ?_); rotate_left; with_reducible refine' fun _ => ?_; exact False.elim (by lia); with_reducible refine' fun _ => ?_; exact False.elim (by lia)); exact h
      · rw [if_neg z] at h; (with_reducible refine' s_cons (s_if (t_cmp ?_)); refine' w_local rfl ?_; with_reducible refine' att ?_; refine' w_local rfl ?_; refine' gfG ‹_› hu rfl rfl rfl ?_; with_reducible refine' c_lt (tr_bool (br_d ?_ ?_)); with_reducible refine' fun _ => s_cons (s_if (t_bool (a_and (t_cmp (att ?_))))); refine' w_local rfl ?_; refine' gfG ‹_› hu rfl rfl rfl ?_; with_reducible refine' w_none (c_isnt (tr_bool ?_)); refine' br_T rfl ?_; with_reducible refine' a_and (t_cmp (att (att ?_))); refine' w_local rfl ?_; refine' gfG ‹_› hu rfl rfl rfl ?_; refine' gfG ‹_› hp rfl rfl rfl ?_; refine' w_local rfl ?_; with_reducible refine' c_eq (tr_bool (br_eq ?_ ?_)); with_reducible refine' fun _ => ?_; exact False.elim (by lia); with_reducible refine' fun _ => br_f (s_nil (th_next (s_one (s_ret (w_none (th_ret ?_)))))); rotate_left; with_reducible refine' fun _ => ?_; exact False.elim (by lia)); exact h
  · rw [if_neg q] at h
    by_cases z : off + es.length ≤ i
    · rw [if_pos z] at h
      with_reducible refine' s_cons (s_if (t_cmp ?_))
      refine' w_local rfl ?_
      with_reducible refine' att ?_
      refine' w_local rfl ?_
      refine' gfG ‹_› hu rfl rfl rfl ?_
      with_reducible refine' c_lt (tr_bool (br_d ?_ ?_))
      with_reducible refine' fun _ => ?_
      exact False.elim (by lia)
      with_reducible refine' fun _ => s_nil (th_next (s_cons (s_if (t_cmp ?_))))
      refine' w_local rfl ?_
      with_reducible refine' w_bin (att ?_)
      refine' w_local rfl ?_
      refine' gfG ‹_› hu rfl rfl rfl ?_
      with_reducible refine' w_call ?_
      refine' gl_len ‹_› (kof ‹_› rfl) ?_
      refine' cv_raw rfl ?_
      with_reducible refine' w_es_cons (att ?_)
      refine' w_local rfl ?_
      refine' gfG ‹_› hu rfl rfl rfl ?_
      with_reducible refine' w_es_nil ?_
      refine' f_len hel (by lia) ?_
      with_reducible refine' b_add (c_ge (tr_bool (br_d ?_ ?_)))
      with_reducible refine' fun _ => s_one (s_ret (w_none (th_ret ?_)))
      rotate_left
      with_reducible refine' fun _ => ?_
      exact False.elim (by lia)
      exact h
    · rw [if_neg z] at h
      have lt : (i - off).toNat < es.length := by (first | lia | omega)
      have g : es[(i - off).toNat]? = some es[(i - off).toNat] := List.getElem?_eq_getElem lt
      obtain ⟨a, h1', h2'⟩ := hev.get g
      have h3' := hle _ _ h2'
      unfold tmE at h
      rw [g] at h
      with_reducible refine' s_cons (s_if (t_cmp ?_))
      refine' w_local rfl ?_
      with_reducible refine' att ?_
      refine' w_local rfl ?_
      refine' gfG ‹_› hu rfl rfl rfl ?_
      with_reducible refine' c_lt (tr_bool (br_d ?_ ?_))
      with_reducible refine' fun _ => ?_
      exact False.elim (by lia)
      with_reducible refine' fun _ => s_nil (th_next (s_cons (s_if (t_cmp ?_))))
      refine' w_local rfl ?_
      with_reducible refine' w_bin (att ?_)
      refine' w_local rfl ?_
      refine' gfG ‹_› hu rfl rfl rfl ?_
      with_reducible refine' w_call ?_
      refine' gl_len ‹_› (kof ‹_› rfl) ?_
      refine' cv_raw rfl ?_
      with_reducible refine' w_es_cons (att ?_)
      refine' w_local rfl ?_
      refine' gfG ‹_› hu rfl rfl rfl ?_
      with_reducible refine' w_es_nil ?_
      refine' f_len hel (by lia) ?_
      with_reducible refine' b_add (c_ge (tr_bool (br_d ?_ ?_)))
      with_reducible refine' fun _ => ?_
      exact False.elim (by lia)
      with_reducible refine' fun _ => s_nil (th_next (s_one (s_ret (att (w_sub (att ?_))))))
      refine' w_local rfl ?_
      refine' gfG ‹_› hu rfl rfl rfl ?_
      with_reducible refine' w_bin ?_
      refine' w_local rfl ?_
      with_reducible refine' att ?_
      refine' w_local rfl ?_
      refine' gfG ‹_› hu rfl rfl rfl ?_
      with_reducible refine' b_sub ?_
      refine' i_list hel (by lia) (by lia) h1' ?_
      refine' gfG ‹_› h3' rfl rfl rfl ?_
      exact h
theorem fn_maybe_term' (hD : IsD D) (hat : At K H r u st S) (h0 : S.mt i = none → Q .none H) (h1 : ∀ t, S.mt i = some t → Q (.int t) H) : Fn D 1 490 [.ref u, .int i] Q H := by
  refine fn_maybe_term hD hat ?_
  cases q : S.mt i with
  | none => exact h0 q
  | some t => exact h1 t q
theorem fn_st_first (hD : IsD D) (hs : StAt K H st S) (h : Q (.int (S.base + 1)) H) : Fn D 1 378 [.ref st] Q H := by
  refine fn_def (hK := by rw [hD.k]; k_is) (hcd := by rw [hD.k]; k_is) (ns := ["self"]) ?_ ?_ ?_ rfl rfl rfl ?_
  · exact fun _ => rfl
  · decide
  · decide
  intro c cD cn cs cc cr
  subst cD
  have stX := hs
  obtain ⟨hle, hks, ⟨cf, sl, svs, hst, hsl, hsv⟩, ⟨sat, scf, sb, hsa⟩, hz1⟩ := stX
  obtain ⟨com, app, off, sn, es, base, bt, ss, sa, si, hd⟩ := S
  dsimp only at hst hsv hsa hz1
  have lsv := hsv.length
  with_reducible refine' s_one (s_ret (w_bin (att ?_)))
  refine' w_local rfl ?_
  refine' gfG ‹_› hst rfl rfl rfl ?_
  with_reducible refine' w_int (b_add ?_)
  exact h
theorem fn_st_last (hD : IsD D) (hs : StAt K H st S) (h : Q (.int (S.base + S.ss.length)) H) : Fn D 1 385 [.ref st] Q H := by
  refine fn_def (hK := by rw [hD.k]; k_is) (hcd := by rw [hD.k]; k_is) (ns := ["self"]) ?_ ?_ ?_ rfl rfl rfl ?_
  · exact fun _ => rfl
  · decide
  · decide
  intro c cD cn cs cc cr
  subst cD
  have stX := hs
  obtain ⟨hle, hks, ⟨cf, sl, svs, hst, hsl, hsv⟩, ⟨sat, scf, sb, hsa⟩, hz1⟩ := stX
  obtain ⟨com, app, off, sn, es, base, bt, ss, sa, si, hd⟩ := S
  dsimp only at hst hsv hsa hz1
  have lsv := hsv.length
  with_reducible refine' s_one (s_ret (w_bin (att ?_)))
  refine' w_local rfl ?_
  refine' gfG ‹_› hst rfl rfl rfl ?_
  with_reducible refine' w_call ?_
  refine' gl_len ‹_› (kof ‹_› rfl) ?_
  refine' cv_raw rfl ?_
  with_reducible refine' w_es_cons (att ?_)
  refine' w_local rfl ?_
  refine' gfG ‹_› hst rfl rfl rfl ?_
  with_reducible refine' w_es_nil ?_
  refine' f_len hsl (by lia) ?_
  with_reducible refine' b_add ?_
  rw [lsv]; exact h
end

end Rk
namespace Rk

section
variable {D : Wd} {d : Nat} {K H : Hp} {u el r st xl a n : Addr} {vs xs : List V} {ts : List Int} {i t k lo hi : Int} {Q : V → Hp → Prop} {P : Addr → Hp → Prop} {S : LS}
noncomputable def LS.first (S : LS) : Int := match S.sn with
  | some p => p.2.1 + 1
  | none => S.base + 1
noncomputable def LS.last (S : LS) : Int := if S.es.length ≠ 0 then S.off + S.es.length - 1 else match S.sn with
  | some _ => S.off - 1
  | none => S.base + S.ss.length
theorem LS.first_none (q : S.sn = none) : S.first = S.base + 1 := by unfold LS.first; rw [q]
theorem LS.first_some {p : Addr × Int × Int} (q : S.sn = some p) : S.first = p.2.1 + 1 := by unfold LS.first; rw [q]
theorem LS.last_es (z : S.es.length ≠ 0) : S.last = S.off + S.es.length - 1 := by unfold LS.last; rw [if_pos z]
theorem LS.last_none (z : S.es.length = 0) (q : S.sn = none) : S.last = S.base + S.ss.length := by unfold LS.last; rw [if_neg (by (first | lia | omega)), q]
theorem LS.last_some {p : Addr × Int × Int} (z : S.es.length = 0) (q : S.sn = some p) : S.last = S.off - 1 := by unfold LS.last; rw [if_neg (by (first | lia | omega)), q]
theorem fn_first_index (hD : IsD D) (hat : At K H r u st S) (h : Q (.int S.first) H) : Fn D 2 560 [.ref r] Q H := by
  refine fn_def (hK := by rw [hD.k]; k_is) (hcd := by rw [hD.k]; k_is) (ns := ["self"]) ?_ ?_ ?_ rfl rfl rfl ?_
  · exact fun _ => rfl
  · decide
  · decide
  intro c cD cn cs cc cr
  subst cD
  have atX := hat
  obtain ⟨⟨hle, hks, ⟨cf, sl, svs, hst, hsl, hsv⟩, ⟨sat, scf, sb, hsa⟩, hz1⟩, hkr, hku, hr, ⟨el, vs, hu, hel, hev⟩, hsn, hz2⟩ := atX
  have lsv := hsv.length
  have lev := hev.length
  with_reducible refine' s_cons (s_assign (w_meth (att ?_)))
  refine' w_local rfl ?_
  refine' gfG ‹_› hr rfl rfl rfl ?_
  with_reducible refine' me_Unstable_maybe_first ‹_› hu ?_
  refine' cm_one (kp_of ‹_› rfl) ?_
  with_reducible refine' w_es_nil ?_
  refine' Fn.go (fn_maybe_first ‹_› hat ?_ ?_) (Room.le ‹_› (by decide))
  with_reducible refine' fun _ => ?_
  refine' st_local (lof ‹_› ⟨rfl, rfl⟩) ?_
  with_reducible refine' th_next (s_cons (s_if (t_cmp ?_)))
  refine' w_local rfl ?_
  with_reducible refine' w_none (c_isnt (tr_bool ?_))
  refine' br_F rfl ?_
  with_reducible refine' s_nil (th_next (s_one (s_ret (w_meth (att ?_)))))
  refine' w_local rfl ?_
  refine' gfG ‹_› hr rfl rfl rfl ?_
  with_reducible refine' me_MemoryStorage_first_index ‹_› hst ?_
  refine' cm_one (kp_of ‹_› rfl) ?_
  with_reducible refine' w_es_nil ?_
  refine' Fn.go (fn_st_first ‹_› (At.t ‹_›) ?_) (Room.le ‹_› (by decide))
  rotate_left
  with_reducible refine' fun _ _ => ?_
  refine' st_local (lof ‹_› ⟨rfl, rfl⟩) ?_
  with_reducible refine' th_next (s_cons (s_if (t_cmp ?_)))
  refine' w_local rfl ?_
  with_reducible refine' w_none (c_isnt (tr_bool ?_))
  refine' br_T rfl ?_
  with_reducible refine' s_one (s_ret ?_)
  refine' w_local rfl ?_
  with_reducible refine' th_ret ?_
  rotate_left
  · rename_i q; rw [LS.first_none q] at h; exact h
  · rename_i p q; rw [LS.first_some q] at h; exact h
theorem fn_last_index (hD : IsD D) (hat : At K H r u st S) (h : Q (.int S.last) H) : Fn D 2 567 [.ref r] Q H := by
  refine fn_def (hK := by rw [hD.k]; k_is) (hcd := by rw [hD.k]; k_is) (ns := ["self"]) ?_ ?_ ?_ rfl rfl rfl ?_
  · exact fun _ => rfl
  · decide
  · decide
  intro c cD cn cs cc cr
  subst cD
  have atX := hat
  obtain ⟨⟨hle, hks, ⟨cf, sl, svs, hst, hsl, hsv⟩, ⟨sat, scf, sb, hsa⟩, hz1⟩, hkr, hku, hr, ⟨el, vs, hu, hel, hev⟩, hsn, hz2⟩ := atX
  have lsv := hsv.length
  have lev := hev.length
  with_reducible refine' s_cons (s_assign (w_meth (att ?_)))
  refine' w_local rfl ?_
  refine' gfG ‹_› hr rfl rfl rfl ?_
  with_reducible refine' me_Unstable_maybe_last ‹_› hu ?_
  refine' cm_one (kp_of ‹_› rfl) ?_
  with_reducible refine' w_es_nil ?_
  refine' Fn.go (fn_maybe_last ‹_› hat ?_ ?_ ?_) (Room.le ‹_› (by decide))
  with_reducible refine' fun _ _ => ?_
  refine' st_local (lof ‹_› ⟨rfl, rfl⟩) ?_
  with_reducible refine' th_next (s_cons (s_if (t_cmp ?_)))
  refine' w_local rfl ?_
  with_reducible refine' w_none (c_isnt (tr_bool ?_))
  refine' br_F rfl ?_
  with_reducible refine' s_nil (th_next (s_one (s_ret (w_meth (att ?_)))))
  refine' w_local rfl ?_
  refine' gfG ‹_› hr rfl rfl rfl ?_
  with_reducible refine' me_MemoryStorage_last_index ‹_› hst ?_
  refine' cm_one (kp_of ‹_› rfl) ?_
  with_reducible refine' w_es_nil ?_
  refine' Fn.go (fn_st_last ‹_› (At.t ‹_›) ?_) (Room.le ‹_› (by decide))
  rotate_left
  with_reducible refine' fun _ _ => fun _ => ?_
  refine' st_local (lof ‹_› ⟨rfl, rfl⟩) ?_
  with_reducible refine' th_next (s_cons (s_if (t_cmp ?_)))
  refine' w_local rfl ?_
  with_reducible refine' w_none (c_isnt (tr_bool ?_))
  refine' br_T rfl ?_
  with_reducible refine' s_one (s_ret ?_)
  refine' w_local rfl ?_
  with_reducible refine' th_ret ?_
  rotate_left
  with_reducible refine' fun _ => ?_
  refine' st_local (lof ‹_› ⟨rfl, rfl⟩) ?_
  with_reducible refine' th_next (s_cons (s_if (t_cmp ?_)))
  refine' w_local rfl ?_
  with_reducible refine' w_none (c_isnt (tr_bool ?_))
  refine' br_T rfl ?_
  with_reducible refine' s_one (s_ret ?_)
  refine' w_local rfl ?_
  with_reducible refine' th_ret ?_
  rotate_left
  · rename_i z q; rw [LS.last_none z q] at h; exact h
  · rename_i z p q; rw [LS.last_some z q] at h; exact h
  · rename_i z; rw [LS.last_es z] at h; exact h
noncomputable def LS.stT (S : LS) (i : Int) : Int := if i = S.base then S.bt else tmE S.ss (i - (S.base + 1))
theorem fn_term_at (hD : IsD D) (hs : StAt K H st S) (hi : S.base ≤ i ∧ i ≤ S.base + S.ss.length) (h : Q (.int (S.stT i)) H) : Fn D 2 399 [.ref st, .int i] Q H := by
  refine fn_def (hK := by rw [hD.k]; k_is) (hcd := by rw [hD.k]; k_is) (ns := ["self", "i"]) ?_ ?_ ?_ rfl rfl rfl ?_
  · exact fun _ _ => rfl
  · decide
  · decide
  intro c cD cn cs cc cr
  subst cD
  have stX := hs
  obtain ⟨hle, hks, ⟨cf, sl, svs, hst, hsl, hsv⟩, ⟨sat, scf, sb, hsa⟩, hz1⟩ := stX
  have lsv := hsv.length
  unfold LS.stT at h
  by_cases q : i = S.base
  · rw [if_pos q] at h
    with_reducible refine' s_cons (s_if (t_cmp ?_))
    refine' w_local rfl ?_
    with_reducible refine' att ?_
    refine' w_local rfl ?_
    refine' gfG ‹_› hst rfl rfl rfl ?_
    with_reducible refine' c_lt (tr_bool (br_d ?_ ?_))
    with_reducible refine' fun _ => ?_
    exact False.elim (by lia)
    with_reducible refine' fun _ => s_nil (th_next (s_cons (s_if (t_cmp ?_))))
    refine' w_local rfl ?_
    with_reducible refine' w_meth ?_
    refine' w_local rfl ?_
    with_reducible refine' me_MemoryStorage_last_index ‹_› hst ?_
    refine' cm_one (kp_of ‹_› rfl) ?_
    with_reducible refine' w_es_nil ?_
    refine' Fn.go (fn_st_last ‹_› hs ?_) (Room.le ‹_› (by decide))
    with_reducible refine' c_gt (tr_bool (br_d ?_ ?_))
    with_reducible refine' fun _ => ?_
    exact False.elim (by lia)
    with_reducible refine' fun _ => s_nil (th_next (s_cons (s_if (t_cmp ?_))))
    refine' w_local rfl ?_
    with_reducible refine' att ?_
    refine' w_local rfl ?_
    refine' gfG ‹_› hst rfl rfl rfl ?_
    with_reducible refine' c_eq (tr_bool (br_eq ?_ ?_))
    with_reducible refine' fun _ => s_one (s_ret (att ?_))
    refine' w_local rfl ?_
    refine' gfG ‹_› hst rfl rfl rfl ?_
    with_reducible refine' th_ret ?_
    rotate_left
    with_reducible refine' fun _ => ?_
    exact False.elim (by lia)
    exact h
  · rw [if_neg q] at h
    have lt : (i - (S.base + 1)).toNat < S.ss.length := by (first | lia | omega)
    have g : S.ss[(i - (S.base + 1)).toNat]? = some S.ss[(i - (S.base + 1)).toNat] := List.getElem?_eq_getElem lt
    obtain ⟨a, h1', h2'⟩ := hsv.get g
    have h3' := hle _ _ h2'
    unfold tmE at h
    rw [g] at h
    with_reducible refine' s_cons (s_if (t_cmp ?_))
    refine' w_local rfl ?_
    with_reducible refine' att ?_
    refine' w_local rfl ?_
    refine' gfG ‹_› hst rfl rfl rfl ?_
    with_reducible refine' c_lt (tr_bool (br_d ?_ ?_))
    with_reducible refine' fun _ => ?_
    exact False.elim (by lia)
    with_reducible refine' fun _ => s_nil (th_next (s_cons (s_if (t_cmp ?_))))
    refine' w_local rfl ?_
    with_reducible refine' w_meth ?_
    refine' w_local rfl ?_
    with_reducible refine' me_MemoryStorage_last_index ‹_› hst ?_
    refine' cm_one (kp_of ‹_› rfl) ?_
    with_reducible refine' w_es_nil ?_
    refine' Fn.go (fn_st_last ‹_› hs ?_) (Room.le ‹_› (by decide))
    with_reducible refine' c_gt (tr_bool (br_d ?_ ?_))
    with_reducible refine' fun _ => ?_
    exact False.elim (by lia)
    with_reducible refine' fun _ => s_nil (th_next (s_cons (s_if (t_cmp ?_))))
    refine' w_local rfl ?_
    with_reducible refine' att ?_
    refine' w_local rfl ?_
    refine' gfG ‹_› hst rfl rfl rfl ?_
    with_reducible refine' c_eq (tr_bool (br_eq ?_ ?_))
    with_reducible refine' fun _ => ?_
    exact False.elim (by lia)
    with_reducible refine' fun _ => s_nil (th_next (s_one (s_ret (att (w_sub (att ?_))))))
    refine' w_local rfl ?_
    refine' gfG ‹_› hst rfl rfl rfl ?_
    with_reducible refine' w_bin ?_
    refine' w_local rfl ?_
    with_reducible refine' w_meth ?_
    refine' w_local rfl ?_
    with_reducible refine' me_MemoryStorage_first_index ‹_› hst ?_
    refine' cm_one (kp_of ‹_› rfl) ?_
    with_reducible refine' w_es_nil ?_
    refine' Fn.go (fn_st_first ‹_› hs ?_) (Room.le ‹_› (by decide))
    with_reducible refine' b_sub ?_
    refine' i_list hsl (by lia) (by lia) h1' ?_
    refine' gfG ‹_› h3' rfl rfl rfl ?_
    exact h
/-- what a look for a term gives: the storage is asked last -/
theorem fn_term (hD : IsD D) (hat : At K H r u st S) (hi : -100 ≤ i ∧ i ≤ 200) (hb : S.mt i = none → S.first ≤ i + 1 → i ≤ S.last → S.base ≤ i ∧ i ≤ S.base + S.ss.length) (hz : -100 ≤ S.first ∧ S.first ≤ 200 ∧ -100 ≤ S.last ∧ S.last ≤ 200)
    (h0 : ∀ t, S.mt i = some t → Q (.int t) H) (h1 : S.mt i = none → i + 1 < S.first → P 80 H) (h2 : S.mt i = none → S.first ≤ i + 1 → S.last < i → P 92 H) (h3 : S.mt i = none → S.first ≤ i + 1 → i ≤ S.last → Q (.int (S.stT i)) H) : FnX D 3 581 [.ref r, .int i] Q P H := by
  refine fn_defX (hK := by rw [hD.k]; k_is) (hcd := by rw [hD.k]; k_is) (ns := ["self", "i"]) ?_ ?_ ?_ rfl rfl rfl ?_
  · exact fun _ _ => rfl
  · decide
  · decide
  intro c cD cn cs cc co cr
  subst cD
  have atX := hat
  obtain ⟨⟨hle, hks, ⟨cf, sl, svs, hst, hsl, hsv⟩, ⟨sat, scf, sb, hsa⟩, hz1⟩, hkr, hku, hr, ⟨el, vs, hu, hel, hev⟩, hsn, hz2⟩ := atX
  have lsv := hsv.length
  have lev := hev.length
  with_reducible refine' s_cons (s_assign (w_meth (att ?_)))
  refine' w_local rfl ?_
  refine' gfG ‹_› hr rfl rfl rfl ?_
  with_reducible refine' me_Unstable_maybe_term ‹_› hu ?_
  refine' cm_one (kp_of ‹_› rfl) ?_
  with_reducible refine' w_es_cons ?_
  refine' w_local rfl ?_
  with_reducible refine' w_es_nil ?_
  refine' Fn.go (fn_maybe_term' ‹_› hat ?_ ?_) (Room.le ‹_› (by decide))
  with_reducible refine' fun _ => ?_
  refine' st_local (lof ‹_› ⟨rfl, rfl⟩) ?_
  with_reducible refine' th_next (s_cons (s_if (t_cmp ?_)))
  refine' w_local rfl ?_
  with_reducible refine' w_none (c_isnt (tr_bool ?_))
  refine' br_F rfl ?_
  with_reducible refine' s_nil (th_next (s_cons (s_if (t_cmp (w_bin ?_)))))
  refine' w_local rfl ?_
  with_reducible refine' w_int (b_add (w_meth ?_))
  refine' w_local rfl ?_
  with_reducible refine' me_RaftLog_first_index ‹_› hr ?_
  refine' cm_one (kp_of ‹_› rfl) ?_
  with_reducible refine' w_es_nil ?_
  refine' Fn.go (fn_first_index ‹_› hat ?_) (Room.le ‹_› (by decide))
  with_reducible refine' c_lt (tr_bool (br_d ?_ ?_))
  with_reducible refine' fun _ => s_one ?_
  rotate_left
  with_reducible refine' fun _ => s_nil (th_next (s_cons (s_if (t_cmp ?_))))
  refine' w_local rfl ?_
  with_reducible refine' w_meth ?_
  refine' w_local rfl ?_
  with_reducible refine' me_RaftLog_last_index ‹_› hr ?_
  refine' cm_one (kp_of ‹_› rfl) ?_
  with_reducible refine' w_es_nil ?_
  refine' Fn.go (fn_last_index ‹_› hat ?_) (Room.le ‹_› (by decide))
  with_reducible refine' c_gt (tr_bool (br_d ?_ ?_))
  with_reducible refine' fun _ => s_one ?_
  rotate_left
  with_reducible refine' fun _ => s_nil (th_next (s_one (s_ret (w_meth (att ?_)))))
  refine' w_local rfl ?_
  refine' gfG ‹_› hr rfl rfl rfl ?_
  with_reducible refine' me_MemoryStorage_term_at ‹_› hst ?_
  refine' cm_one (kp_of ‹_› rfl) ?_
  with_reducible refine' w_es_cons ?_
  refine' w_local rfl ?_
  with_reducible refine' w_es_nil ?_
  rotate_left
  with_reducible refine' fun _ _ => ?_
  refine' st_local (lof ‹_› ⟨rfl, rfl⟩) ?_
  with_reducible refine' th_next (s_cons (s_if (t_cmp ?_)))
  refine' w_local rfl ?_
  with_reducible refine' w_none (c_isnt (tr_bool ?_))
  refine' br_T rfl ?_
  with_reducible refine' s_one (s_ret ?_)
  refine' w_local rfl ?_
  with_reducible refine' th_ret ?_
  rotate_left
  · refine s_raise co (by rw [hD.k]; k_is) (by rw [hD.k]; k_exc) PySem.F.excBase_Exception (kof cs rfl) ?_
    with_reducible refine' w_es_cons (w_joined (jn_str (by decide) (jn_int (by decide) ?_)))
    refine' w_local rfl ?_
    refine' jnx (by lia) ?_
    with_reducible refine' jn_str (by decide) (jn_int (by decide) (w_meth ?_))
    refine' w_local rfl ?_
    with_reducible refine' me_RaftLog_first_index ‹_› hr ?_
    refine' cm_one (kp_of ‹_› rfl) ?_
    with_reducible refine' w_es_nil ?_
    refine' Fn.go (fn_first_index ‹_› hat ?_) (Room.le ‹_› (by decide))
    refine' jnx (by lia) ?_
    with_reducible refine' jn_nil (by decide) (fun _ => w_es_nil ?_)
    refine' ⟨(Nat.le_of_ble_eq_true rfl), ?_⟩
    exact h1 (by assumption) (by (first | lia | omega))
  · refine s_raise co (by rw [hD.k]; k_is) (by rw [hD.k]; k_exc) PySem.F.excBase_Exception (kof cs rfl) ?_
    with_reducible refine' w_es_cons (w_joined (jn_str (by decide) (jn_int (by decide) ?_)))
    refine' w_local rfl ?_
    refine' jnx (by lia) ?_
    with_reducible refine' jn_str (by decide) (jn_int (by decide) (w_meth ?_))
    refine' w_local rfl ?_
    with_reducible refine' me_RaftLog_last_index ‹_› hr ?_
    refine' cm_one (kp_of ‹_› rfl) ?_
    with_reducible refine' w_es_nil ?_
    refine' Fn.go (fn_last_index ‹_› hat ?_) (Room.le ‹_› (by decide))
    refine' jnx (by lia) ?_
    with_reducible refine' jn_nil (by decide) (fun _ => w_es_nil ?_)
    refine' ⟨(Nat.le_of_ble_eq_true rfl), ?_⟩
    exact h2 (by assumption) (by (first | lia | omega)) (by (first | lia | omega))
  · have hb := hb (by assumption) (by (first | lia | omega)) (by (first | lia | omega))
    refine' Fn.go (fn_term_at ‹_› (At.t ‹_›) (by lia) ?_) (Room.le ‹_› (by decide))
    exact h3 (by assumption) (by (first | lia | omega)) (by (first | lia | omega))
  · exact h0 _ (by assumption)
theorem fn_Snapshot_empty (hD : IsD D) {si t : Int} {cf : Addr} {b : V} (ha : H a = some (.inst 346 (SnapshotFs (.int si) (.int t) (.ref cf) b))) (h : Q (.bool (si == 0)) H) : Fn D 1 336 [.ref a] Q H := by
  refine fn_def (hK := by rw [hD.k]; k_is) (hcd := by rw [hD.k]; k_is) (ns := ["self"]) ?_ ?_ ?_ rfl rfl rfl ?_
  · exact fun _ => rfl
  · decide
  · decide
  intro c cD cn cs cc cr
  subst cD
  with_reducible refine' s_one (s_ret (w_cmp (att ?_)))
  refine' w_local rfl ?_
  refine' gfG ‹_› ha rfl rfl rfl ?_
  with_reducible refine' w_int (c_eq ?_)
  exact h
theorem fn_pending_snapshot (hD : IsD D) (hat : At K H r u st S) (hp : ∀ p, S.sn = some p → 1 ≤ p.2.1) (h : Q (.bool S.sn.isSome) H) : Fn D 2 686 [.ref r] Q H := by
  refine fn_def (hK := by rw [hD.k]; k_is) (hcd := by rw [hD.k]; k_is) (ns := ["self"]) ?_ ?_ ?_ rfl rfl rfl ?_
  · exact fun _ => rfl
  · decide
  · decide
  intro c cD cn cs cc cr
  subst cD
  have atX := hat
  obtain ⟨⟨hle, hks, ⟨cf, sl, svs, hst, hsl, hsv⟩, ⟨sat, scf, sb, hsa⟩, hz1⟩, hkr, hku, hr, ⟨el, vs, hu, hel, hev⟩, hsn, hz2⟩ := atX
  obtain ⟨com, app, off, sn, es, base, bt, ss, sa, si, hd⟩ := S
  dsimp only at hst hsv hsa hr hu hev hsn hz1 hz2
  have lsv := hsv.length
  have lev := hev.length
  dsimp only at h hp
  cases sn with
  | none => dsimp only [snv] at hu; (with_reducible refine' s_one (s_ret (w_and2 (w_cmp (att (att ?_))))); refine' w_local rfl ?_; refine' gfG ‹_› hr rfl rfl rfl ?_; refine' gfG ‹_› hu rfl rfl rfl ?_; with_reducible refine' w_none (c_isnt (tr_bool ?_)); refine' br_F rfl ?_); exact h
  | some p =>
    obtain ⟨pc, pb, hq⟩ := hsn p rfl; have hq := hle _ _ hq; dsimp only [snv] at hu
    have hp := hp p rfl
    have e : (p.2.1 == 0) = false := beq_eq_false_iff_ne.mpr (by (first | lia | omega))
    with_reducible refine' s_one (s_ret (w_and2 (w_cmp (att (att ?_)))))
    refine' w_local rfl ?_
    refine' gfG ‹_› hr rfl rfl rfl ?_
    refine' gfG ‹_› hu rfl rfl rfl ?_
    with_reducible refine' w_none (c_isnt (tr_bool ?_))
    refine' br_T rfl ?_
    with_reducible refine' w_una (w_meth (att (att ?_)))
    refine' w_local rfl ?_
    refine' gfG ‹_› hr rfl rfl rfl ?_
    refine' gfG ‹_› hu rfl rfl rfl ?_
    with_reducible refine' me_Snapshot_empty ‹_› hq ?_
    refine' cm_one (kp_of ‹_› rfl) ?_
    with_reducible refine' w_es_nil ?_
    refine' Fn.go (fn_Snapshot_empty ‹_› hq ?_) (Room.le ‹_› (by decide))
    with_reducible refine' n_not ?_
    rw [e]; exact h
theorem fn_first_unapplied (hD : IsD D) (hat : At K H r u st S) (h : Q (.int (max (S.app + 1) S.first)) H) : Fn D 3 693 [.ref r] Q H := by
  refine fn_def (hK := by rw [hD.k]; k_is) (hcd := by rw [hD.k]; k_is) (ns := ["self"]) ?_ ?_ ?_ rfl rfl rfl ?_
  · exact fun _ => rfl
  · decide
  · decide
  intro c cD cn cs cc cr
  subst cD
  have atX := hat
  obtain ⟨⟨hle, hks, ⟨cf, sl, svs, hst, hsl, hsv⟩, ⟨sat, scf, sb, hsa⟩, hz1⟩, hkr, hku, hr, ⟨el, vs, hu, hel, hev⟩, hsn, hz2⟩ := atX
  have lsv := hsv.length
  have lev := hev.length
  with_reducible refine' s_one (s_ret (w_call ?_))
  refine' gl_max ‹_› (kof ‹_› rfl) ?_
  refine' cv_raw rfl ?_
  with_reducible refine' w_es_cons (w_bin (att ?_))
  refine' w_local rfl ?_
  refine' gfG ‹_› hr rfl rfl rfl ?_
  with_reducible refine' w_int (b_add (w_es_cons (w_meth ?_)))
  refine' w_local rfl ?_
  with_reducible refine' me_RaftLog_first_index ‹_› hr ?_
  refine' cm_one (kp_of ‹_› rfl) ?_
  with_reducible refine' w_es_nil ?_
  refine' Fn.go (fn_first_index ‹_› hat ?_) (Room.le ‹_› (by decide))
  with_reducible refine' w_es_nil (f_max2 ?_)
  exact h
theorem fn_has_next (hD : IsD D) (hat : At K H r u st S) (hp : ∀ p, S.sn = some p → 1 ≤ p.2.1) (h : Q (.bool (S.sn.isNone && decide (max (S.app + 1) S.first < S.com + 1))) H) : Fn D 4 700 [.ref r] Q H := by
  refine fn_def (hK := by rw [hD.k]; k_is) (hcd := by rw [hD.k]; k_is) (ns := ["self"]) ?_ ?_ ?_ rfl rfl rfl ?_
  · exact fun _ => rfl
  · decide
  · decide
  intro c cD cn cs cc cr
  subst cD
  have atX := hat
  obtain ⟨⟨hle, hks, ⟨cf, sl, svs, hst, hsl, hsv⟩, ⟨sat, scf, sb, hsa⟩, hz1⟩, hkr, hku, hr, ⟨el, vs, hu, hel, hev⟩, hsn, hz2⟩ := atX
  have lsv := hsv.length
  have lev := hev.length
  with_reducible refine' s_cons (s_if (t_val (w_meth ?_)))
  refine' w_local rfl ?_
  with_reducible refine' me_RaftLog_pending_snapshot ‹_› hr ?_
  refine' cm_one (kp_of ‹_› rfl) ?_
  with_reducible refine' w_es_nil ?_
  refine' Fn.go (fn_pending_snapshot ‹_› hat hp ?_) (Room.le ‹_› (by decide))
  with_reducible refine' tr_bool (br_b ?_ ?_)
  with_reducible refine' fun _ => s_one (s_ret (w_bool (th_ret ?_)))
  rotate_left
  with_reducible refine' fun _ => s_nil (th_next (s_one (s_ret (w_cmp (w_bin (att ?_))))))
  refine' w_local rfl ?_
  refine' gfG ‹_› hr rfl rfl rfl ?_
  with_reducible refine' w_int (b_add (w_meth ?_))
  refine' w_local rfl ?_
  with_reducible refine' me_RaftLog_first_unapplied ‹_› hr ?_
  refine' cm_one (kp_of ‹_› rfl) ?_
  with_reducible refine' w_es_nil ?_
  refine' Fn.go (fn_first_unapplied ‹_› hat ?_) (Room.le ‹_› (by decide))
  with_reducible refine' c_gt ?_
  rotate_left
  · rename_i q
    rw [show S.sn.isNone = false by cases e : S.sn <;> simp [e] at q ⊢] at h; exact h
  · rename_i q
    rw [show S.sn.isNone = true by cases e : S.sn <;> simp [e] at q ⊢, Bool.true_and] at h; exact h
end

end Rk
namespace Rk

section
variable {D : Wd} {d : Nat} {K H H' : Hp} {u el r st xl a n b el' : Addr} {vs xs vs' : List V} {ts es' : List Int} {i t k lo hi off' com' app' : Int} {Q : V → Hp → Prop} {P : Addr → Hp → Prop} {S : LS} {o o' : MO} {sn' : Option (Addr × Int × Int)}
theorem set_comm {H : Hp} {a n : Addr} {o o' : MO} (h : n ≠ a) : (H.set a o).set n o' = (H.set n o').set a o := by
  funext y; simp only [Hp.set]; by_cases z : y = a <;> by_cases w : y = n <;> simp_all
theorem At.ru (h : At K H r u st S) : u ≠ r := by obtain ⟨_, _, q, _⟩ := h.u; exact ne_ob q h.r fun z => by cases z
theorem At.rs (h : At K H r u st S) : st ≠ r := by obtain ⟨_, _, _, q, _⟩ := h.t.s; exact ne_ob q h.r fun z => by cases z
theorem At.us (h : At K H r u st S) : st ≠ u := by obtain ⟨_, _, _, q, _⟩ := h.t.s; obtain ⟨_, _, q', _⟩ := h.u; exact ne_ob q q' fun z => by cases z
theorem At.setR (h : At K H r u st S) : At K (H.set r (.inst 745 (RaftLogFs (.ref st) (.int NLim) (.ref u) (.int com') (.int app')))) r u st { S with com := com', app := app' } := by
  have h1 := h.ru
  have h2 := h.rs
  obtain ⟨⟨a1, a2, ⟨cf, sl, svs, q1', q2', q3'⟩, e, a5⟩, h2', h3, h4, ⟨el, vs, q1, q2, q3⟩, h6, h7⟩ := h
  exact ⟨⟨Hp.Le.setN h2' a1, a2, ⟨cf, sl, svs, hs_ne h2 q1', hs_ne (ne_ob q2' h4 fun z => by cases z) q2', q3'⟩, e, a5⟩, h2', h3, hs_self, ⟨el, vs, hs_ne h1 q1, hs_ne (ne_ob q2 h4 fun z => by cases z) q2, q3⟩, h6, h7⟩
theorem At.setU (h : At K H r u st S) (hl : H el' = some (.list vs')) (he : EntV K off' vs' es') (hsn : ∀ p, sn' = some p → SnpAt K p) (hz : es'.length ≤ 10 ∧ 0 ≤ off' ∧ off' ≤ 100) : At K (H.set u (.inst 535 (UnstableFs (snv sn') (.ref el') (.int off')))) r u st { S with off := off', sn := sn', es := es' } := by
  have h1 := h.ru
  have h2 := h.us
  obtain ⟨⟨a1, a2, ⟨cf, sl, svs, q1', q2', q3'⟩, e, a5⟩, h2', h3, h4, ⟨el, vs, q1, q2, q3⟩, h6, h7⟩ := h
  exact ⟨⟨Hp.Le.setN h3 a1, a2, ⟨cf, sl, svs, hs_ne h2 q1', hs_ne (ne_ob q2' q1 fun z => by cases z) q2', q3'⟩, e, a5⟩, h2', h3, hs_ne (Ne.symm h1) h4, ⟨el', vs', hs_self, hs_ne (ne_ob hl q1 fun z => by cases z) hl, he⟩, hsn, hz⟩
theorem At.setS {hd' sa' cf' : Addr} {base' bt' : Int} (h : At K H r u st S) (hl : H el' = some (.list vs')) (he : EntV K (base' + 1) vs' es') {si' : Int} (hsa : ∃ t cf b, K sa' = some (.inst 346 (SnapshotFs (.int si') (.int t) (.ref cf) b))) (hz : es'.length ≤ 10 ∧ 0 ≤ base' ∧ base' ≤ 50) :
    At K (H.set st (.inst 451 (MemoryStorageFs (.ref hd') (.ref cf') (.ref sa') (.int base') (.int bt') (.ref el')))) r u st { S with hd := hd', sa := sa', si := si', base := base', bt := bt', ss := es' } := by
  have h1 := h.rs
  have h2 := h.us
  obtain ⟨⟨a1, a2, ⟨cf, sl, svs, q1', q2', q3'⟩, e, a5⟩, h2', h3, h4, ⟨el, vs, q1, q2, q3⟩, h6, h7⟩ := h
  exact ⟨⟨Hp.Le.setN a2 a1, a2, ⟨cf', el', vs', hs_self, hs_ne (ne_ob hl q1' fun z => by cases z) hl, he⟩, hsa, hz⟩, h2', h3, hs_ne (Ne.symm h1) h4, ⟨el, vs, hs_ne (Ne.symm h2) q1, hs_ne (ne_ob q2 q1' fun z => by cases z) q2, q3⟩, h6, h7⟩
theorem fn_commit_to (hD : IsD D) (hat : At K H r u st S) (hi : i ≤ S.last) (h : Hold (∀ H', At K H' r u st { S with com := max S.com i } → Q .none H')) : Fn D 3 644 [.ref r, .int i] Q H := by
  refine fn_def (hK := by rw [hD.k]; k_is) (hcd := by rw [hD.k]; k_is) (ns := ["self", "i"]) ?_ ?_ ?_ rfl rfl rfl ?_
  · exact fun _ _ => rfl
  · decide
  · decide
  intro c cD cn cs cc cr
  subst cD
  have atX := hat
  obtain ⟨⟨hle, hks, ⟨cf, sl, svs, hst, hsl, hsv⟩, ⟨sat, scf, sb, hsa⟩, hz1⟩, hkr, hku, hr, ⟨el, vs, hu, hel, hev⟩, hsn, hz2⟩ := atX
  have lsv := hsv.length
  have lev := hev.length
  with_reducible refine' s_cons (s_if (t_cmp ?_))
  refine' w_local rfl ?_
  with_reducible refine' att ?_
  refine' w_local rfl ?_
  refine' gfG ‹_› hr rfl rfl rfl ?_
  with_reducible refine' c_le (tr_bool (br_d ?_ ?_))
  with_reducible refine' fun _ => s_one (s_ret0 (th_ret ?_))
  rotate_left
  with_reducible refine' fun _ => s_nil (th_next (s_cons (s_if (t_cmp ?_))))
  refine' w_local rfl ?_
  with_reducible refine' w_meth ?_
  refine' w_local rfl ?_
  with_reducible refine' me_RaftLog_last_index ‹_› hr ?_
  refine' cm_one (kp_of ‹_› rfl) ?_
  with_reducible refine' w_es_nil ?_
  refine' Fn.go (fn_last_index ‹_› hat ?_) (Room.le ‹_› (by decide))
  with_reducible refine' c_gt (tr_bool (br_d ?_ ?_))
  with_reducible refine' fun _ => ?_
  exact False.elim (by lia)
  with_reducible refine' fun _ => s_nil (th_next (s_one (s_assignA ?_)))
  refine' w_local rfl ?_
  refine' w_local rfl ?_
  with_reducible refine' pf_RaftLog_committed ‹_› hr ?_
  rotate_left
  · exact h _ (by rw [show max S.com i = S.com by (first | lia | omega)]; exact hat)
  · exact h _ (by rw [show max S.com i = i by (first | lia | omega)]; exact hat.setR)
theorem fn_applied_to (hD : IsD D) (hat : At K H r u st S) (hi : 0 ≤ S.app ∧ S.app ≤ i ∧ i ≤ S.com) (h : Hold (∀ H', At K H' r u st { S with app := i } → Q .none H')) : Fn D 1 658 [.ref r, .int i] Q H := by
  refine fn_def (hK := by rw [hD.k]; k_is) (hcd := by rw [hD.k]; k_is) (ns := ["self", "i"]) ?_ ?_ ?_ rfl rfl rfl ?_
  · exact fun _ _ => rfl
  · decide
  · decide
  intro c cD cn cs cc cr
  subst cD
  have atX := hat
  obtain ⟨⟨hle, hks, ⟨cf, sl, svs, hst, hsl, hsv⟩, ⟨sat, scf, sb, hsa⟩, hz1⟩, hkr, hku, hr, ⟨el, vs, hu, hel, hev⟩, hsn, hz2⟩ := atX
  have lsv := hsv.length
  have lev := hev.length
  with_reducible refine' s_cons (s_if (t_cmp ?_))
  refine' w_local rfl ?_
  with_reducible refine' w_int (c_eq (tr_bool (br_eq ?_ ?_)))
  with_reducible refine' fun _ => s_one (s_ret0 (th_ret ?_))
  rotate_left
  with_reducible refine' fun _ => s_nil (th_next (s_cons (s_if (t_bool (a_or (t_cmp ?_))))))
  refine' w_local rfl ?_
  with_reducible refine' att ?_
  refine' w_local rfl ?_
  refine' gfG ‹_› hr rfl rfl rfl ?_
  with_reducible refine' c_gt (tr_bool (br_d ?_ ?_))
  with_reducible refine' fun _ => ?_
  exact False.elim (by lia)
  with_reducible refine' fun _ => a_or (t_cmp ?_)
  refine' w_local rfl ?_
  with_reducible refine' att ?_
  refine' w_local rfl ?_
  refine' gfG ‹_› hr rfl rfl rfl ?_
  with_reducible refine' c_lt (tr_bool (br_d ?_ ?_))
  with_reducible refine' fun _ => ?_
  exact False.elim (by lia)
  with_reducible refine' fun _ => a_or_nil (br_f (s_nil (th_next (s_one (s_assignA ?_)))))
  refine' w_local rfl ?_
  refine' w_local rfl ?_
  with_reducible refine' pf_RaftLog_applied ‹_› hr ?_
  rotate_left
  · exact h _ (by rw [show i = S.app by (first | lia | omega)]; exact hat)
  · exact h _ hat.setR
theorem fn_un_stable_snap_to (hD : IsD D) (hat : At K H r u st S) (h : Hold (∀ H', At K H' r u st { S with sn := (match S.sn with | some p => if p.2.1 = i then none else some p | none => none) } → Q .none H')) : Fn D 1 504 [.ref u, .int i] Q H := by
  refine fn_def (hK := by rw [hD.k]; k_is) (hcd := by rw [hD.k]; k_is) (ns := ["self", "i"]) ?_ ?_ ?_ rfl rfl rfl ?_
  · exact fun _ _ => rfl
  · decide
  · decide
  intro c cD cn cs cc cr
  subst cD
  have hat0 := hat
  have atX := hat
  obtain ⟨⟨hle, hks, ⟨cf, sl, svs, hst, hsl, hsv⟩, ⟨sat, scf, sb, hsa⟩, hz1⟩, hkr, hku, hr, ⟨el, vs, hu, hel, hev⟩, hsn, hz2⟩ := atX
  have lsv := hsv.length
  have lev := hev.length
  cases e : S.sn with
  | none =>
    rw [e] at h hu; dsimp only [snv] at h hu
    with_reducible refine' s_one (s_if (t_bool (a_and (t_cmp (att ?_)))))
    refine' w_local rfl ?_
    refine' gfG ‹_› hu rfl rfl rfl ?_
    with_reducible refine' w_none (c_isnt (tr_bool ?_))
    refine' br_F rfl ?_
    with_reducible refine' br_f (s_nil ?_)
    exact h _ (by rw [← e]; exact hat0)
  | some p =>
    obtain ⟨pc, pb, hq⟩ := hsn p e; have hq := hle _ _ hq
    rw [e] at h hu; dsimp only [snv] at h hu
    by_cases z : p.2.1 = i
    · rw [if_pos z] at h
      with_reducible refine' s_one (s_if (t_bool (a_and (t_cmp (att ?_)))))
      refine' w_local rfl ?_
      refine' gfG ‹_› hu rfl rfl rfl ?_
      with_reducible refine' w_none (c_isnt (tr_bool ?_))
      refine' br_T rfl ?_
      with_reducible refine' a_and (t_cmp (att (att ?_)))
      refine' w_local rfl ?_
      refine' gfG ‹_› hu rfl rfl rfl ?_
      refine' gfG ‹_› hq rfl rfl rfl ?_
      refine' w_local rfl ?_
      with_reducible refine' c_eq (tr_bool (br_eq ?_ ?_))
      with_reducible refine' fun _ => a_and_nil (br_t (s_one (s_assignA (w_none ?_))))
      refine' w_local rfl ?_
      with_reducible refine' pf_Unstable_snapshot ‹_› hu ?_
      rotate_left
      with_reducible refine' fun _ => ?_
      exact False.elim (by lia)
      exact h _ (hat0.setU (sn' := none) hel hev (fun _ q => by cases q) hz2)
    · rw [if_neg z] at h
      with_reducible refine' s_one (s_if (t_bool (a_and (t_cmp (att ?_)))))
      refine' w_local rfl ?_
      refine' gfG ‹_› hu rfl rfl rfl ?_
      with_reducible refine' w_none (c_isnt (tr_bool ?_))
      refine' br_T rfl ?_
      with_reducible refine' a_and (t_cmp (att (att ?_)))
      refine' w_local rfl ?_
      refine' gfG ‹_› hu rfl rfl rfl ?_
      refine' gfG ‹_› hq rfl rfl rfl ?_
      refine' w_local rfl ?_
      with_reducible refine' c_eq (tr_bool (br_eq ?_ ?_))
      with_reducible refine' fun _ => ?_
      exact False.elim (by lia)
      with_reducible refine' fun _ => br_f (s_nil ?_)
      exact h _ (by rw [← e]; exact hat0)
theorem fn_stable_snap_to (hD : IsD D) (hat : At K H r u st S) (h : Hold (∀ H', At K H' r u st { S with sn := (match S.sn with | some p => if p.2.1 = i then none else some p | none => none) } → Q .none H')) : Fn D 2 672 [.ref r, .int i] Q H := by
  refine fn_def (hK := by rw [hD.k]; k_is) (hcd := by rw [hD.k]; k_is) (ns := ["self", "i"]) ?_ ?_ ?_ rfl rfl rfl ?_
  · exact fun _ _ => rfl
  · decide
  · decide
  intro c cD cn cs cc cr
  subst cD
  have atX := hat
  obtain ⟨⟨hle, hks, ⟨cf, sl, svs, hst, hsl, hsv⟩, ⟨sat, scf, sb, hsa⟩, hz1⟩, hkr, hku, hr, ⟨el, vs, hu, hel, hev⟩, hsn, hz2⟩ := atX
  have lsv := hsv.length
  have lev := hev.length
  with_reducible refine' s_one (s_ex (w_meth (att ?_)))
  refine' w_local rfl ?_
  refine' gfG ‹_› hr rfl rfl rfl ?_
  with_reducible refine' me_Unstable_stable_snap_to ‹_› hu ?_
  refine' cm_one (kp_of ‹_› rfl) ?_
  with_reducible refine' w_es_cons ?_
  refine' w_local rfl ?_
  with_reducible refine' w_es_nil ?_
  refine' Fn.go (fn_un_stable_snap_to ‹_› hat ?_) (Room.le ‹_› (by decide))
  intro H' hat'
  refine' ⟨rfl, ?_⟩
  exact h _ hat'
theorem fn_un_stable_to (hD : IsD D) (hat : At K H r u st S) {m : Nat} (hm : m ≤ S.es.length) (hb : S.off + m ≤ 100) (hi : i = S.off - 1 + m) (ht : 1 ≤ m → tmE S.es ((m : Int) - 1) = t) (h : Hold (∀ H', At K H' r u st { S with off := S.off + m, es := S.es.drop m } → Q .none H')) : Fn D 2 497 [.ref u, .int i, .int t] Q H := by
  refine fn_def (hK := by rw [hD.k]; k_is) (hcd := by rw [hD.k]; k_is) (ns := ["self", "i", "term"]) ?_ ?_ ?_ rfl rfl rfl ?_
  · exact fun _ _ _ => rfl
  · decide
  · decide
  intro c cD cn cs cc cr
  subst cD
  have hat0 := hat
  have atX := hat
  obtain ⟨⟨hle, hks, ⟨cf, sl, svs, hst, hsl, hsv⟩, ⟨sat, scf, sb, hsa⟩, hz1⟩, hkr, hku, hr, ⟨el, vs, hu, hel, hev⟩, hsn, hz2⟩ := atX
  have lsv := hsv.length
  have lev := hev.length
  by_cases z : m = 0
  · subst z
    with_reducible refine' s_cons (s_if (t_cmp ?_))
    refine' w_local rfl ?_
    with_reducible refine' att ?_
    refine' w_local rfl ?_
    refine' gfG ‹_› hu rfl rfl rfl ?_
    with_reducible refine' c_lt (tr_bool (br_d ?_ ?_))
    with_reducible refine' fun _ => s_one (s_ret0 (th_ret ?_))
    rotate_left
    with_reducible refine' fun _ => ?_
    exact False.elim (by lia)
    exact h _ (by simpa using hat0)
  · have hmt : S.mt i = some t := by
      unfold LS.mt
      rw [if_neg (by (first | lia | omega)), if_neg (by (first | lia | omega)), ← ht (by (first | lia | omega)), show i - S.off = (m : Int) - 1 by (first | lia | omega)]
    have bd1 : 0 ≤ i + 1 - S.off := by (first | lia | omega)
    with_reducible refine' s_cons (s_if (t_cmp ?_))
    refine' w_local rfl ?_
    with_reducible refine' att ?_
    refine' w_local rfl ?_
    refine' gfG ‹_› hu rfl rfl rfl ?_
    with_reducible refine' c_lt (tr_bool (br_d ?_ ?_))
    with_reducible refine' fun _ => ?_
    exact False.elim (by lia)
    with_reducible refine' fun _ => s_nil (th_next (s_cons (s_assign (w_meth ?_))))
    refine' w_local rfl ?_
    with_reducible refine' me_Unstable_maybe_term ‹_› hu ?_
    refine' cm_one (kp_of ‹_› rfl) ?_
    with_reducible refine' w_es_cons ?_
    refine' w_local rfl ?_
    with_reducible refine' w_es_nil ?_
    refine' Fn.go (fn_maybe_term' ‹_› hat0 ?_ ?_) (Room.le ‹_› (by decide))
    with_reducible refine' fun _ => ?_
    refine' st_local (lof ‹_› ⟨rfl, rfl⟩) ?_
    with_reducible refine' th_next (s_cons (s_if (t_bool (a_or (t_cmp ?_)))))
    refine' w_local rfl ?_
    with_reducible refine' w_none (c_is (tr_bool ?_))
    refine' br_T rfl ?_
    with_reducible refine' br_t (s_one (s_ret0 (th_ret ?_)))
    rotate_left
    with_reducible refine' fun _ _ => ?_
    refine' st_local (lof ‹_› ⟨rfl, rfl⟩) ?_
    with_reducible refine' th_next (s_cons (s_if (t_bool (a_or (t_cmp ?_)))))
    refine' w_local rfl ?_
    with_reducible refine' w_none (c_is (tr_bool ?_))
    refine' br_F rfl ?_
    with_reducible refine' a_or (t_cmp ?_)
    refine' w_local rfl ?_
    refine' w_local rfl ?_
    with_reducible refine' c_ne (tr_bool (br_ne ?_ ?_))
    with_reducible refine' fun _ => br_t (s_one (s_ret0 (th_ret ?_)))
    rotate_left
    with_reducible refine' fun _ => a_or_nil (br_f (s_nil (th_next (s_cons (s_assignA (w_slice (att ?_)))))))
    refine' w_local rfl ?_
    refine' gfG ‹_› hu rfl rfl rfl ?_
    with_reducible refine' p_some (w_bin (w_bin ?_))
    refine' w_local rfl ?_
    with_reducible refine' w_int (b_add (att ?_))
    refine' w_local rfl ?_
    refine' gfG ‹_› hu rfl rfl rfl ?_
    with_reducible refine' b_sub (p_none ?_)
    refine' slx hel (by lia) (bdi (by first | lia | omega)) bdn ?_
    with_reducible refine' fun _ _ => ?_
    refine' w_local rfl ?_
    with_reducible refine' pf_Unstable_entries ‹_› (hg_new (by with_reducible assumption) hu) (th_next (s_one (s_assignA (w_bin ?_))))
    refine' w_local rfl ?_
    with_reducible refine' w_int (b_add ?_)
    refine' w_local rfl ?_
    with_reducible refine' pf_Unstable_offset ‹_› hg_self ?_
    rotate_left
    · rename_i q; rw [hmt] at q; cases q
    · rename_i t' q q2; rw [hmt] at q; cases q; exact absurd rfl q2
    · rename_i t' q q2 n hn
      have hn' : H n = none := hn
      have e1 : i + 1 - S.off = m := by (first | lia | omega)
      have nu : n ≠ u := ne_of hn' hu
      simp only [set_set]
      rw [show i + 1 = S.off + m by (first | lia | omega)]
      refine h _ ((hat0.le (Hp.Le.set _ hn')).setU (el' := n) hs_self ?_ hsn (by rw [List.length_drop]; (first | lia | omega)))
      have z2 := EntV.drop m hev
      rw [show S.off + (m : Int) - S.off = m by (first | lia | omega)]
      unfold slc
      dsimp only
      rw [Int.toNat_natCast]
      exact z2
theorem fn_stable_to (hD : IsD D) (hat : At K H r u st S) {m : Nat} (hm : m ≤ S.es.length) (hb : S.off + m ≤ 100) (hi : i = S.off - 1 + m) (ht : 1 ≤ m → tmE S.es ((m : Int) - 1) = t) (h : Hold (∀ H', At K H' r u st { S with off := S.off + m, es := S.es.drop m } → Q .none H')) : Fn D 3 665 [.ref r, .int i, .int t] Q H := by
  refine fn_def (hK := by rw [hD.k]; k_is) (hcd := by rw [hD.k]; k_is) (ns := ["self", "i", "term"]) ?_ ?_ ?_ rfl rfl rfl ?_
  · exact fun _ _ _ => rfl
  · decide
  · decide
  intro c cD cn cs cc cr
  subst cD
  have atX := hat
  obtain ⟨⟨hle, hks, ⟨cf, sl, svs, hst, hsl, hsv⟩, ⟨sat, scf, sb, hsa⟩, hz1⟩, hkr, hku, hr, ⟨el, vs, hu, hel, hev⟩, hsn, hz2⟩ := atX
  have lsv := hsv.length
  have lev := hev.length
  with_reducible refine' s_one (s_ex (w_meth (att ?_)))
  refine' w_local rfl ?_
  refine' gfG ‹_› hr rfl rfl rfl ?_
  with_reducible refine' me_Unstable_stable_to ‹_› hu ?_
  refine' cm_one (kp_of ‹_› rfl) ?_
  with_reducible refine' w_es_cons ?_
  refine' w_local rfl ?_
  with_reducible refine' w_es_cons ?_
  refine' w_local rfl ?_
  with_reducible refine' w_es_nil ?_
  refine' Fn.go (fn_un_stable_to ‹_› hat hm (by lia) (by lia) ht ?_) (Room.le ‹_› (by decide))
  intro H' hat'
  refine' ⟨rfl, ?_⟩
  exact h _ hat'
end

end Rk
namespace Rk

section
variable {D : Wd} {d : Nat} {c : Cx} {E : Value → Shared → Prop} {σ : St} {K H H' : Hp} {u el r st xl a n b el' : Addr} {vs xs vs' : List V} {ts es' : List Int} {i t k lo hi off' com' app' : Int} {Q : V → Hp → Prop} {Qs : V → St → Prop} {P : Addr → Hp → Prop} {S : LS} {o o' : MO} {cf : Addr} {y : V}
theorem f_lenb0 (h : Qs (.int 0) σ) : c.Call E (.builtin "len") [.bytes #[]] Qs σ := f_lenb (by decide) h
theorem fn_varint (hD : IsD D) (hi : 0 ≤ i ∧ i < 128) (h : Q (.int 1) H) : Fn D 1 161 [.int i] Q H := by
  refine fn_def (hK := by rw [hD.k]; k_is) (hcd := by rw [hD.k]; k_is) (ns := ["n"]) ?_ ?_ ?_ rfl rfl rfl ?_
  · exact fun _ => rfl
  · decide
  · decide
  intro c cD cn cs cc cr
  subst cD
  with_reducible refine' s_cons (s_if (t_bool (a_or (t_cmp ?_))))
  refine' w_local rfl ?_
  with_reducible refine' w_int (c_lt (tr_bool (br_d ?_ ?_)))
  with_reducible refine' fun _ => ?_
  exact False.elim (by lia)
  with_reducible refine' fun _ => a_or (t_cmp ?_)
  refine' w_local rfl ?_
  refine' gl_MAX_64 ‹_› (kof ‹_› rfl) ?_
  with_reducible refine' c_gt (tr_bool (br_d ?_ ?_))
  with_reducible refine' fun _ => ?_
  exact False.elim (by lia)
  with_reducible refine' fun _ => a_or_nil (br_f (s_nil (th_next (s_cons (s_assign (w_int ?_))))))
  refine' st_local (lof ‹_› ⟨rfl, rfl⟩) ?_
  with_reducible refine' th_next (s_cons (s_while ?_))
  refine wl_turn ?_
  with_reducible refine' t_cmp ?_
  refine' w_local rfl ?_
  with_reducible refine' w_int (c_ge (tr_bool (br_d ?_ ?_)))
  with_reducible refine' fun _ => ?_
  exact False.elim (by lia)
  with_reducible refine' fun _ => th_next (s_one (s_ret ?_))
  refine' w_local rfl ?_
  exact h
theorem fn_Entry_size (hD : IsD D) (ha : H a = some (.inst 213 (EntryFs (.int t) (.int i) (.int 0) (.bytes #[])))) (hb : 0 ≤ t ∧ t < 128 ∧ 0 ≤ i ∧ i < 128) (h : Q (.int 4) H) : Fn D 2 210 [.ref a] Q H := by
  refine fn_def (hK := by rw [hD.k]; k_is) (hcd := by rw [hD.k]; k_is) (ns := ["self"]) ?_ ?_ ?_ rfl rfl rfl ?_
  · exact fun _ => rfl
  · decide
  · decide
  intro c cD cn cs cc cr
  subst cD
  with_reducible refine' s_cons (s_assign (w_call ?_))
  refine' gl_len ‹_› (kof ‹_› rfl) ?_
  refine' cv_raw rfl ?_
  with_reducible refine' w_es_cons (att ?_)
  refine' w_local rfl ?_
  refine' gfG ‹_› ha rfl rfl rfl ?_
  with_reducible refine' w_es_nil (f_lenb0 ?_)
  refine' st_local (lof ‹_› ⟨rfl, rfl⟩) ?_
  with_reducible refine' th_next (s_cons (s_assign (w_bin (w_bin (w_call ?_)))))
  refine' gl_varint_length ‹_› (kof ‹_› rfl) ?_
  refine' cv_ref (kp_of ‹_› rfl) ?_
  with_reducible refine' w_es_cons (att ?_)
  refine' w_local rfl ?_
  refine' gfG ‹_› ha rfl rfl rfl ?_
  with_reducible refine' w_es_nil ?_
  refine' Fn.go (fn_varint ‹_› (by lia) ?_) (Room.le ‹_› (by decide))
  with_reducible refine' w_call ?_
  refine' gl_varint_length ‹_› (kof ‹_› rfl) ?_
  refine' cv_ref (kp_of ‹_› rfl) ?_
  with_reducible refine' w_es_cons (att ?_)
  refine' w_local rfl ?_
  refine' gfG ‹_› ha rfl rfl rfl ?_
  with_reducible refine' w_es_nil ?_
  refine' Fn.go (fn_varint ‹_› (by lia) ?_) (Room.le ‹_› (by decide))
  with_reducible refine' b_add (w_call ?_)
  refine' gl_varint_length ‹_› (kof ‹_› rfl) ?_
  refine' cv_ref (kp_of ‹_› rfl) ?_
  with_reducible refine' w_es_cons (att ?_)
  refine' w_local rfl ?_
  refine' gfG ‹_› ha rfl rfl rfl ?_
  with_reducible refine' w_es_nil ?_
  refine' Fn.go (fn_varint ‹_› (by decide) ?_) (Room.le ‹_› (by decide))
  with_reducible refine' b_add ?_
  refine' st_local (lof ‹_› ⟨rfl, rfl⟩) ?_
  with_reducible refine' th_next (s_one (s_ret (w_bin (w_bin ?_))))
  refine' w_local rfl ?_
  with_reducible refine' w_call ?_
  refine' gl_varint_length ‹_› (kof ‹_› rfl) ?_
  refine' cv_ref (kp_of ‹_› rfl) ?_
  with_reducible refine' w_es_cons ?_
  refine' w_local rfl ?_
  with_reducible refine' w_es_nil ?_
  refine' Fn.go (fn_varint ‹_› (by decide) ?_) (Room.le ‹_› (by decide))
  with_reducible refine' b_add ?_
  refine' w_local rfl ?_
  with_reducible refine' b_add ?_
  exact h
noncomputable def TB (ts : List Int) : Prop := ∀ (j : Nat) (t : Int), ts[j]? = some t → 0 ≤ t ∧ t < 128
theorem TB.drop (h : TB ts) (m : Nat) : TB (ts.drop m) := fun j t q => by rw [List.getElem?_drop] at q; exact h _ _ q
theorem TB.take (h : TB ts) (m : Nat) : TB (ts.take m) := fun j t q => h j t (by
  rw [List.getElem?_take] at q; split at q
  · exact q
  · cases q)
theorem fn_limit_size (hD : IsD D) (hx : H xl = some (.list xs)) (hn : EntV H k xs ts) (hb : TB ts) (hk : 0 ≤ k ∧ k + ts.length ≤ 120 ∧ ts.length ≤ 20)
    (h : Hold (∀ H' n, H.Le H' → H n = none → H' n = some (.list xs) → Q (.ref n) H')) : Fn D 3 224 [.ref xl, .int NLim] Q H := by
  refine fn_def (hK := by rw [hD.k]; k_is) (hcd := by rw [hD.k]; k_is) (ns := ["entries", "n"]) ?_ ?_ ?_ rfl rfl rfl ?_
  · exact fun _ _ => rfl
  · decide
  · decide
  intro c cD cn cs cc cr
  subst cD
  have hN : NLim = 18446744073709551615 := rfl
  have ln := hn.length
  with_reducible refine' s_cons (s_assign (w_int ?_))
  refine' st_local (lof ‹_› ⟨rfl, rfl⟩) ?_
  with_reducible refine' th_next (s_cons (s_assign (w_list (w_es_nil ?_))))
  refine' ⟨(Nat.le_of_ble_eq_true rfl), ?_⟩
  with_reducible refine' fun _ _ => ?_
  refine' st_local (lof ‹_› ⟨rfl, rfl⟩) ?_
  with_reducible refine' th_next (s_cons (s_for ?_))
  refine' w_local rfl ?_
  with_reducible refine' it_list (hg_up (hg_new (by with_reducible assumption) hx)) (fun _ _ => itx ?_)
  rename_i kn hkn it hit
  have hkn' : H kn = none := hkn
  have hit' : (H.set kn (.list [])) it = none := hit
  have hit2 := none_set hit'
  have nki : kn ≠ it := fun q => by rw [q, ← q, Hp.set_self] at hit'; cases hit'
  refine loop_list (l := xl) (vs := xs) (fun j σ => Nms σ.m [("total", .int (4 * (j : Int))), ("kept", .ref kn), ("n", .int NLim)] ∧ σ.H it = some (.li xl j) ∧ H.Le σ.H ∧ σ.H kn = some (.list (xs.take j))) ?_ ?_ ?_ (by with_unfolding_all rfl) (Nat.zero_le _) ⟨⟨rfl, rfl, rfl, trivial⟩, hs_self, (Hp.Le.set _ hkn').trans (Hp.Le.set _ hit'), hs_ne nki hs_self⟩
  · rintro j σ ⟨_, h2, h3, _⟩
    exact ⟨h2, h3 _ _ hx⟩
  · rintro j v ⟨m, H1⟩ lt hv ⟨⟨m1, m2, m3, _⟩, h2, h3, h4⟩
    obtain ⟨x, a, q1, rfl, q2⟩ := hn.at hv
    have m1' : m "total" = some (.int (4 * (j : Int))) := m1
    have m2' : m "kept" = some (.ref kn) := m2
    have m3' : m "n" = some (.int NLim) := m3
    have l1 : H.Le (H1.set it (.li xl (j + 1))) := Hp.Le.setN hit2 h3
    have q2' := l1 _ _ q2
    have k2 : (H1.set it (.li xl (j + 1))) kn = some (.list (xs.take j)) := hs_ne nki h4
    have bx := hb j x q1
    have lt2 : j < ts.length := by (first | lia | omega)
    have tk : xs.take (j + 1) = xs.take j ++ [.ref a] := by
      rw [List.take_add_one, hv]; rfl
    have k3 : (H1.set it (.li xl (j + 1))) it = some (.li xl (j + 1)) := hs_self
    show c.Asg Nope _ _ _ ⟨m, H1.set it (.li xl (j + 1))⟩
    generalize H1.set it (.li xl (j + 1)) = H2 at l1 q2' k2 k3 ⊢
    have e4 : 4 * (j : Int) + 4 = 4 * ((j + 1 : Nat) : Int) := by (first | lia | omega)
    have lk : (xs.take j).length ≤ 1000 := by rw [List.length_take]; (first | lia | omega)
    with_reducible refine' as_name ?_
    refine' st_local (lof ‹_› ⟨rfl, rfl⟩) ?_
    with_reducible refine' s_cons ?_
    refine' s_aug m1' ?_
    with_reducible refine' w_meth ?_
    refine' w_local rfl ?_
    with_reducible refine' me_Entry_size ‹_› q2' ?_
    refine' cm_one (kp_of ‹_› rfl) ?_
    with_reducible refine' w_es_nil ?_
    refine' Fn.go (fn_Entry_size ‹_› q2' (by lia) ?_) (Room.le ‹_› (by decide))
    with_reducible refine' a_add ?_
    refine' st_local (lof ‹_› ⟨rfl, rfl⟩) ?_
    with_reducible refine' th_next (s_cons (s_if (t_bool (a_and (t_val ?_)))))
    refine' w_local m2' ?_
    refine' tr_list k2 (by simp only [List.length_append, List.length_cons, List.length_nil, List.length_map, List.length_set, List.length_take, List.length_drop, List.length_replicate]; exact (by lia)) ?_
    with_reducible refine' br_nb ?_ ?_
    with_reducible refine' fun _ => a_and (t_cmp ?_)
    refine' w_local rfl ?_
    refine' w_local m3' ?_
    with_reducible refine' c_gt (tr_bool (br_d ?_ ?_))
    with_reducible refine' fun _ => ?_
    exact False.elim (by lia)
    with_reducible refine' fun _ => br_f (s_nil (th_next (s_one (s_ex (w_meth ?_)))))
    refine' w_local m2' ?_
    with_reducible refine' m_append k2 ?_
    refine' cm_one rfl ?_
    with_reducible refine' w_es_cons ?_
    refine' w_local rfl ?_
    with_reducible refine' w_es_nil ?_
    refine' c_append k2 (by simp only [List.length_append, List.length_cons, List.length_nil, List.length_map, List.length_set, List.length_take, List.length_drop, List.length_replicate]; exact (by lia)) ?_
    refine' ⟨rfl, ?_⟩
    with_reducible refine' tu_next ?_
    rotate_left
    with_reducible refine' fun _ => br_f (s_nil (th_next (s_one (s_ex (w_meth ?_)))))
    refine' w_local m2' ?_
    with_reducible refine' m_append k2 ?_
    refine' cm_one rfl ?_
    with_reducible refine' w_es_cons ?_
    refine' w_local rfl ?_
    with_reducible refine' w_es_nil ?_
    refine' c_append k2 (by simp only [List.length_append, List.length_cons, List.length_nil, List.length_map, List.length_set, List.length_take, List.length_drop, List.length_replicate]; exact (by lia)) ?_
    refine' ⟨rfl, ?_⟩
    with_reducible refine' tu_next ?_
    rotate_left
    all_goals
      refine ⟨⟨?_, m2', m3', trivial⟩, hs_ne (Ne.symm nki) k3, Hp.Le.setN hkn' l1, ?_⟩
      · exact congrArg (fun z => some (V.int z)) e4
      · rw [tk]; exact hs_self
  · rintro ⟨m, H1⟩ ⟨⟨m1, m2, m3, _⟩, h2, h3, h4⟩
    have m2' : m "kept" = some (.ref kn) := m2
    rw [List.take_length] at h4
    with_reducible refine' th_next (s_one (s_ret ?_))
    refine' w_local m2' ?_
    exact h _ kn (Hp.Le.del h3 hit2) hkn' (hs_del nki h4)
theorem fn_part (hD : IsD D) (hat : At K H r u st S) (hi' : S.off ≤ lo ∧ lo ≤ hi ∧ hi ≤ S.off + S.es.length) (h : Hold (∀ n vs, H n = none → EntV K lo vs ((S.es.take (hi - S.off).toNat).drop (lo - S.off).toNat) → Q (.ref n) (H.set n (.list vs)))) : Fn D 1 525 [.ref u, .int lo, .int hi] Q H := by
  refine fn_def (hK := by rw [hD.k]; k_is) (hcd := by rw [hD.k]; k_is) (ns := ["self", "lo", "hi"]) ?_ ?_ ?_ rfl rfl rfl ?_
  · exact fun _ _ _ => rfl
  · decide
  · decide
  intro c cD cn cs cc cr
  subst cD
  have atX := hat
  obtain ⟨⟨hle, hks, ⟨cf, sl, svs, hst, hsl, hsv⟩, ⟨sat, scf, sb, hsa⟩, hz1⟩, hkr, hku, hr, ⟨el, vs, hu, hel, hev⟩, hsn, hz2⟩ := atX
  have lsv := hsv.length
  have lev := hev.length
  with_reducible refine' s_cons (s_if (t_cmp ?_))
  refine' w_local rfl ?_
  refine' w_local rfl ?_
  with_reducible refine' c_gt (tr_bool (br_d ?_ ?_))
  with_reducible refine' fun _ => ?_
  exact False.elim (by lia)
  with_reducible refine' fun _ => s_nil (th_next (s_cons (s_if (t_bool (a_or (t_cmp ?_))))))
  refine' w_local rfl ?_
  with_reducible refine' att ?_
  refine' w_local rfl ?_
  refine' gfG ‹_› hu rfl rfl rfl ?_
  with_reducible refine' c_lt (tr_bool (br_d ?_ ?_))
  with_reducible refine' fun _ => ?_
  exact False.elim (by lia)
  with_reducible refine' fun _ => a_or (t_cmp ?_)
  refine' w_local rfl ?_
  with_reducible refine' w_bin (att ?_)
  refine' w_local rfl ?_
  refine' gfG ‹_› hu rfl rfl rfl ?_
  with_reducible refine' w_call ?_
  refine' gl_len ‹_› (kof ‹_› rfl) ?_
  refine' cv_raw rfl ?_
  with_reducible refine' w_es_cons (att ?_)
  refine' w_local rfl ?_
  refine' gfG ‹_› hu rfl rfl rfl ?_
  with_reducible refine' w_es_nil ?_
  refine' f_len hel (by lia) ?_
  with_reducible refine' b_add (c_gt (tr_bool (br_d ?_ ?_)))
  with_reducible refine' fun _ => ?_
  exact False.elim (by lia)
  with_reducible refine' fun _ => a_or_nil (br_f (s_nil (th_next (s_one (s_ret (w_slice (att ?_)))))))
  refine' w_local rfl ?_
  refine' gfG ‹_› hu rfl rfl rfl ?_
  with_reducible refine' p_some (w_bin ?_)
  refine' w_local rfl ?_
  with_reducible refine' att ?_
  refine' w_local rfl ?_
  refine' gfG ‹_› hu rfl rfl rfl ?_
  with_reducible refine' b_sub (p_some (w_bin ?_))
  refine' w_local rfl ?_
  with_reducible refine' att ?_
  refine' w_local rfl ?_
  refine' gfG ‹_› hu rfl rfl rfl ?_
  with_reducible refine' b_sub ?_
  refine' slx hel (by lia) (bdi (by first | lia | omega)) (bdi (by first | lia | omega)) ?_
  with_reducible refine' fun _ _ => ?_
  refine h _ _ ‹_› ?_
  have z := EntV.drop (lo - S.off).toNat (hev.take (hi - S.off).toNat)
  rw [show S.off + ((lo - S.off).toNat : Int) = lo by (first | lia | omega)] at z
  exact z
theorem fn_entries_between (hD : IsD D) (hs : StAt K H st S) (hi' : S.base + 1 ≤ lo ∧ lo < hi ∧ hi ≤ S.base + S.ss.length + 1) (hb : TB S.ss)
    (h : Hold (∀ H' n vs, H.Le H' → H n = none → H' n = some (.list vs) → EntV K lo vs ((S.ss.take (hi - (S.base + 1)).toNat).drop (lo - (S.base + 1)).toNat) → Q (.ref n) H')) : Fn D 4 392 [.ref st, .int lo, .int hi, .int NLim] Q H := by
  refine fn_def (hK := by rw [hD.k]; k_is) (hcd := by rw [hD.k]; k_is) (ns := ["self", "lo", "hi", "limit"]) ?_ ?_ ?_ rfl rfl rfl ?_
  · exact fun _ _ _ _ => rfl
  · decide
  · decide
  intro c cD cn cs cc cr
  subst cD
  have stX := hs
  obtain ⟨hle, hks, ⟨cf, sl, svs, hst, hsl, hsv⟩, ⟨sat, scf, sb, hsa⟩, hz1⟩ := stX
  have lsv := hsv.length
  with_reducible refine' s_cons (s_if (t_cmp ?_))
  refine' w_local rfl ?_
  with_reducible refine' att ?_
  refine' w_local rfl ?_
  refine' gfG ‹_› hst rfl rfl rfl ?_
  with_reducible refine' c_le (tr_bool (br_d ?_ ?_))
  with_reducible refine' fun _ => ?_
  exact False.elim (by lia)
  with_reducible refine' fun _ => s_nil (th_next (s_cons (s_if (t_cmp ?_))))
  refine' w_local rfl ?_
  with_reducible refine' w_bin (w_meth ?_)
  refine' w_local rfl ?_
  with_reducible refine' me_MemoryStorage_last_index ‹_› hst ?_
  refine' cm_one (kp_of ‹_› rfl) ?_
  with_reducible refine' w_es_nil ?_
  refine' Fn.go (fn_st_last ‹_› hs ?_) (Room.le ‹_› (by decide))
  with_reducible refine' w_int (b_add (c_gt (tr_bool (br_d ?_ ?_))))
  with_reducible refine' fun _ => ?_
  exact False.elim (by lia)
  with_reducible refine' fun _ => s_nil (th_next (s_cons (s_if (t_cmp ?_))))
  refine' w_local rfl ?_
  refine' w_local rfl ?_
  with_reducible refine' c_le (tr_bool (br_d ?_ ?_))
  with_reducible refine' fun _ => ?_
  exact False.elim (by lia)
  with_reducible refine' fun _ => s_nil (th_next (s_cons (s_assign (w_meth ?_))))
  refine' w_local rfl ?_
  with_reducible refine' me_MemoryStorage_first_index ‹_› hst ?_
  refine' cm_one (kp_of ‹_› rfl) ?_
  with_reducible refine' w_es_nil ?_
  refine' Fn.go (fn_st_first ‹_› hs ?_) (Room.le ‹_› (by decide))
  refine' st_local (lof ‹_› ⟨rfl, rfl⟩) ?_
  with_reducible refine' th_next (s_one (s_ret (w_call ?_)))
  refine' gl_limit_size ‹_› (kof ‹_› rfl) ?_
  refine' cv_ref (kp_of ‹_› rfl) ?_
  with_reducible refine' w_es_cons (w_slice (att ?_))
  refine' w_local rfl ?_
  refine' gfG ‹_› hst rfl rfl rfl ?_
  with_reducible refine' p_some (w_bin ?_)
  refine' w_local rfl ?_
  refine' w_local rfl ?_
  with_reducible refine' b_sub (p_some (w_bin ?_))
  refine' w_local rfl ?_
  refine' w_local rfl ?_
  with_reducible refine' b_sub ?_
  refine' slx hsl (by lia) (bdi (by first | lia | omega)) (bdi (by first | lia | omega)) ?_
  with_reducible refine' fun _ _ => w_es_cons ?_
  refine' w_local rfl ?_
  with_reducible refine' w_es_nil ?_
  rename_i n1 hn1
  have hn1' : H n1 = none := hn1
  have z := EntV.drop (lo - (S.base + 1)).toNat (hsv.take (hi - (S.base + 1)).toNat)
  rw [show S.base + 1 + ((lo - (S.base + 1)).toNat : Int) = lo by (first | lia | omega)] at z
  have z2 : EntV (H.set n1 (.list (slc svs (some (lo - (S.base + 1))) (some (hi - (S.base + 1)))))) lo (slc svs (some (lo - (S.base + 1))) (some (hi - (S.base + 1)))) ((S.ss.take (hi - (S.base + 1)).toNat).drop (lo - (S.base + 1)).toNat) := z.le (hle.trans (Hp.Le.set _ hn1'))
  have lz := z.length
  have lz2 : ((S.ss.take (hi - (S.base + 1)).toNat).drop (lo - (S.base + 1)).toNat).length ≤ S.ss.length := by rw [List.length_drop, List.length_take]; (first | lia | omega)
  refine Fn.go (fn_limit_size hD hs_self z2 ((hb.take _).drop _) (by (first | lia | omega)) ?_) (Room.le ‹_› (by decide))
  intro H' n l1 l2 l3
  skip
  exact h H' n _ ((Hp.Le.set _ hn1').trans l1) (none_set l2) l3 z
theorem fn_st_snapshot (hD : IsD D) (hs : StAt K H st S) (hi' : S.base ≤ S.si) (h : Q (.ref S.sa) H) : Fn D 1 406 [.ref st] Q H := by
  refine fn_def (hK := by rw [hD.k]; k_is) (hcd := by rw [hD.k]; k_is) (ns := ["self"]) ?_ ?_ ?_ rfl rfl rfl ?_
  · exact fun _ => rfl
  · decide
  · decide
  intro c cD cn cs cc cr
  subst cD
  have stX := hs
  obtain ⟨hle, hks, ⟨cf, sl, svs, hst, hsl, hsv⟩, ⟨sat, scf, sb, hsa⟩, hz1⟩ := stX
  have lsv := hsv.length
  have hsa' := hle _ _ hsa
  with_reducible refine' s_cons (s_if (t_cmp (att (att ?_))))
  refine' w_local rfl ?_
  refine' gfG ‹_› hst rfl rfl rfl ?_
  refine' gfG ‹_› hsa' rfl rfl rfl ?_
  with_reducible refine' att ?_
  refine' w_local rfl ?_
  refine' gfG ‹_› hst rfl rfl rfl ?_
  with_reducible refine' c_lt (tr_bool (br_d ?_ ?_))
  with_reducible refine' fun _ => ?_
  exact False.elim (by lia)
  with_reducible refine' fun _ => s_nil (th_next (s_one (s_ret (att ?_))))
  refine' w_local rfl ?_
  refine' gfG ‹_› hst rfl rfl rfl ?_
  exact h
theorem fn_snapshot (hD : IsD D) (hat : At K H r u st S) (hi' : S.sn = none → S.base ≤ S.si) (h0 : S.sn = none → Q (.ref S.sa) H) (h1 : ∀ p, S.sn = some p → Q (.ref p.1) H) : Fn D 2 714 [.ref r] Q H := by
  refine fn_def (hK := by rw [hD.k]; k_is) (hcd := by rw [hD.k]; k_is) (ns := ["self"]) ?_ ?_ ?_ rfl rfl rfl ?_
  · exact fun _ => rfl
  · decide
  · decide
  intro c cD cn cs cc cr
  subst cD
  have atX := hat
  obtain ⟨⟨hle, hks, ⟨cf, sl, svs, hst, hsl, hsv⟩, ⟨sat, scf, sb, hsa⟩, hz1⟩, hkr, hku, hr, ⟨el, vs, hu, hel, hev⟩, hsn, hz2⟩ := atX
  have lsv := hsv.length
  have lev := hev.length
  cases e : S.sn with
  | none =>
    rw [e] at hu; dsimp only [snv] at hu
    have hi2 := hi' e
    with_reducible refine' s_cons (s_if (t_cmp (att (att ?_))))
    refine' w_local rfl ?_
    refine' gfG ‹_› hr rfl rfl rfl ?_
    refine' gfG ‹_› hu rfl rfl rfl ?_
    with_reducible refine' w_none (c_isnt (tr_bool ?_))
    refine' br_F rfl ?_
    with_reducible refine' s_nil (th_next (s_one (s_ret (w_meth (att ?_)))))
    refine' w_local rfl ?_
    refine' gfG ‹_› hr rfl rfl rfl ?_
    with_reducible refine' me_MemoryStorage_snapshot ‹_› hst ?_
    refine' cm_one (kp_of ‹_› rfl) ?_
    with_reducible refine' w_es_nil ?_
    refine' Fn.go (fn_st_snapshot ‹_› (At.t ‹_›) (by lia) ?_) (Room.le ‹_› (by decide))
    exact h0 e
  | some p =>
    rw [e] at hu; dsimp only [snv] at hu
    with_reducible refine' s_cons (s_if (t_cmp (att (att ?_))))
    refine' w_local rfl ?_
    refine' gfG ‹_› hr rfl rfl rfl ?_
    refine' gfG ‹_› hu rfl rfl rfl ?_
    with_reducible refine' w_none (c_isnt (tr_bool ?_))
    refine' br_T rfl ?_
    with_reducible refine' s_one (s_ret (att (att ?_)))
    refine' w_local rfl ?_
    refine' gfG ‹_› hr rfl rfl rfl ?_
    refine' gfG ‹_› hu rfl rfl rfl ?_
    with_reducible refine' th_ret ?_
    exact h1 p e
theorem fn_unstable_entries (hD : IsD D) (hat : At K H r u st S) (h : Hold (∀ n vs, H n = none → EntV K S.off vs S.es → Q (.ref n) (H.set n (.list vs)))) : Fn D 1 679 [.ref r] Q H := by
  refine fn_def (hK := by rw [hD.k]; k_is) (hcd := by rw [hD.k]; k_is) (ns := ["self"]) ?_ ?_ ?_ rfl rfl rfl ?_
  · exact fun _ => rfl
  · decide
  · decide
  intro c cD cn cs cc cr
  subst cD
  have atX := hat
  obtain ⟨⟨hle, hks, ⟨cf, sl, svs, hst, hsl, hsv⟩, ⟨sat, scf, sb, hsa⟩, hz1⟩, hkr, hku, hr, ⟨el, vs, hu, hel, hev⟩, hsn, hz2⟩ := atX
  have lsv := hsv.length
  have lev := hev.length
  with_reducible refine' s_one (s_ret (w_slice (att (att ?_))))
  refine' w_local rfl ?_
  refine' gfG ‹_› hr rfl rfl rfl ?_
  refine' gfG ‹_› hu rfl rfl rfl ?_
  with_reducible refine' p_none (p_none ?_)
  refine' slx hel (by lia) bdn bdn ?_
  with_reducible refine' fun _ _ => ?_
  exact h _ vs ‹_› hev
end

end Rk
namespace Rk

section
variable {D : Wd} {d : Nat} {c : Cx} {E : Value → Shared → Prop} {σ : St} {K H H' : Hp} {u el r st xl a n b el' : Addr} {vs xs vs' : List V} {ts es' : List Int} {i t k lo hi off' com' app' : Int} {Q : V → Hp → Prop} {Qs : V → St → Prop} {P : Addr → Hp → Prop} {S : LS} {o o' : MO} {cf : Addr} {y : V} {p : Addr × Int × Int}
theorem fn_un_restore (hD : IsD D) (hat : At K H r u st S) (hp : SnpAt K p) (hb : 0 ≤ p.2.1 ∧ p.2.1 ≤ 90) (h : Hold (∀ H', At K H' r u st { S with off := p.2.1 + 1, sn := some p, es := [] } → Q .none H')) : Fn D 1 511 [.ref u, .ref p.1] Q H := by
  refine fn_def (hK := by rw [hD.k]; k_is) (hcd := by rw [hD.k]; k_is) (ns := ["self", "snapshot"]) ?_ ?_ ?_ rfl rfl rfl ?_
  · exact fun _ _ => rfl
  · decide
  · decide
  intro c cD cn cs cc cr
  subst cD
  have hp0 := hp
  have atX := hat
  obtain ⟨⟨hle, hks, ⟨cf, sl, svs, hst, hsl, hsv⟩, ⟨sat, scf, sb, hsa⟩, hz1⟩, hkr, hku, hr, ⟨el, vs, hu, hel, hev⟩, hsn, hz2⟩ := atX
  have lsv := hsv.length
  have lev := hev.length
  obtain ⟨pc, pb, hp1⟩ := hp
  have hp2 := hle _ _ hp1
  have nau : p.1 ≠ u := ne_ob hp2 hu fun q => by cases q
  with_reducible refine' s_cons (s_assignA (w_bin (att ?_)))
  refine' w_local rfl ?_
  refine' gfG ‹_› hp2 rfl rfl rfl ?_
  with_reducible refine' w_int (b_add ?_)
  refine' w_local rfl ?_
  with_reducible refine' pf_Unstable_offset ‹_› hu (th_next (s_cons (s_assignA (w_list (w_es_nil ?_)))))
  refine' ⟨(Nat.le_of_ble_eq_true rfl), ?_⟩
  with_reducible refine' fun _ _ => ?_
  refine' w_local rfl ?_
  with_reducible refine' pf_Unstable_entries ‹_› (hg_new (by with_reducible assumption) hg_self) (th_next (s_one (s_assignA ?_)))
  refine' w_local rfl ?_
  refine' w_local rfl ?_
  with_reducible refine' pf_Unstable_snapshot ‹_› hg_self ?_
  rename_i n hn
  have hn' : H n = none := none_set hn
  have nu : n ≠ u := ne_of hn' hu
  simp only [set_set]
  rw [set_comm nu, set_set]
  exact h _ ((hat.le (Hp.Le.set (o := .list []) hn')).setU (el' := n) (sn' := some p) hs_self (by simp [EntV]) (fun q e => by cases e; exact hp0) (by simp; (first | lia | omega)))
theorem fn_restore (hD : IsD D) (hat : At K H r u st S) (hp : SnpAt K p) (hb : 0 ≤ p.2.1 ∧ p.2.1 ≤ 90) (hc : S.com ≤ p.2.1) (h : Hold (∀ H', At K H' r u st { S with com := p.2.1, off := p.2.1 + 1, sn := some p, es := [] } → Q .none H')) : Fn D 2 637 [.ref r, .ref p.1] Q H := by
  refine fn_def (hK := by rw [hD.k]; k_is) (hcd := by rw [hD.k]; k_is) (ns := ["self", "snapshot"]) ?_ ?_ ?_ rfl rfl rfl ?_
  · exact fun _ _ => rfl
  · decide
  · decide
  intro c cD cn cs cc cr
  subst cD
  have atX := hat
  obtain ⟨⟨hle, hks, ⟨cf, sl, svs, hst, hsl, hsv⟩, ⟨sat, scf, sb, hsa⟩, hz1⟩, hkr, hku, hr, ⟨el, vs, hu, hel, hev⟩, hsn, hz2⟩ := atX
  have lsv := hsv.length
  have lev := hev.length
  obtain ⟨pc, pb, hp1⟩ := id hp
  have hp2 := hle _ _ hp1
  with_reducible refine' s_cons (s_if (t_cmp (att ?_)))
  refine' w_local rfl ?_
  refine' gfG ‹_› hp2 rfl rfl rfl ?_
  with_reducible refine' att ?_
  refine' w_local rfl ?_
  refine' gfG ‹_› hr rfl rfl rfl ?_
  with_reducible refine' c_lt (tr_bool (br_d ?_ ?_))
  with_reducible refine' fun _ => ?_
  exact False.elim (by lia)
  with_reducible refine' fun _ => s_nil (th_next (s_cons (s_assignA (att ?_))))
  refine' w_local rfl ?_
  refine' gfG ‹_› hp2 rfl rfl rfl ?_
  refine' w_local rfl ?_
  with_reducible refine' pf_RaftLog_committed ‹_› hr (th_next (s_one (s_ex (w_meth (att ?_)))))
  refine' w_local rfl ?_
  refine' gfG ‹_› hg_self rfl rfl rfl ?_
  refine' me_Unstable_restore ‹_› (hg_put hr hu (by intro h; cases h)) ?_
  refine' cm_one (kp_of ‹_› rfl) ?_
  with_reducible refine' w_es_cons ?_
  refine' w_local rfl ?_
  with_reducible refine' w_es_nil ?_
  refine Fn.go (fn_un_restore hD (hat.setR (com' := p.2.1) (app' := S.app)) hp hb ?_) (Room.le ‹_› (by decide))
  intro H' hat'
  refine' ⟨rfl, ?_⟩
  exact h _ hat'
theorem fn_restoreX (hD : IsD D) (hat : At K H r u st S) (hp : SnpAt H p) (hb : 0 ≤ p.2.1 ∧ p.2.1 < S.com ∧ S.com ≤ 100) (h : P 140 H) : FnX D 2 637 [.ref r, .ref p.1] Q P H := by
  refine fn_defX (hK := by rw [hD.k]; k_is) (hcd := by rw [hD.k]; k_is) (ns := ["self", "snapshot"]) ?_ ?_ ?_ rfl rfl rfl ?_
  · exact fun _ _ => rfl
  · decide
  · decide
  intro c cD cn cs cc co cr
  subst cD
  have atX := hat
  obtain ⟨⟨hle, hks, ⟨cf, sl, svs, hst, hsl, hsv⟩, ⟨sat, scf, sb, hsa⟩, hz1⟩, hkr, hku, hr, ⟨el, vs, hu, hel, hev⟩, hsn, hz2⟩ := atX
  have lsv := hsv.length
  have lev := hev.length
  obtain ⟨pc, pb, hp2⟩ := hp
  with_reducible refine' s_cons (s_if (t_cmp (att ?_)))
  refine' w_local rfl ?_
  refine' gfG ‹_› hp2 rfl rfl rfl ?_
  with_reducible refine' att ?_
  refine' w_local rfl ?_
  refine' gfG ‹_› hr rfl rfl rfl ?_
  with_reducible refine' c_lt (tr_bool (br_d ?_ ?_))
  with_reducible refine' fun _ => s_one ?_
  rotate_left
  with_reducible refine' fun _ => ?_
  exact False.elim (by lia)
  refine s_raise co (by rw [hD.k]; k_is) (by rw [hD.k]; k_exc) PySem.F.excBase_Exception (kof cs rfl) ?_
  with_reducible refine' w_es_cons (w_joined (jn_str (by decide) (jn_int (by decide) (att ?_))))
  refine' w_local rfl ?_
  refine' gfG ‹_› hp2 rfl rfl rfl ?_
  refine' jnx (by lia) ?_
  with_reducible refine' jn_str (by decide) (jn_int (by decide) (att ?_))
  refine' w_local rfl ?_
  refine' gfG ‹_› hr rfl rfl rfl ?_
  refine' jnx (by lia) ?_
  with_reducible refine' jn_nil (by decide) (fun _ => w_es_nil ?_)
  refine' ⟨(Nat.le_of_ble_eq_true rfl), ?_⟩
  exact h
theorem fn_truncate_and_append (hD : IsD D) (hat : At K H r u st S) (hx : H xl = some (.list xs)) (hn : EntV K S.off xs ts) (he : S.es = []) (hz : 1 ≤ ts.length ∧ ts.length ≤ 10) (h : Hold (∀ H', At K H' r u st { S with es := ts } → Q .none H')) : Fn D 2 518 [.ref u, .ref xl] Q H := by
  refine fn_def (hK := by rw [hD.k]; k_is) (hcd := by rw [hD.k]; k_is) (ns := ["self", "entries"]) ?_ ?_ ?_ rfl rfl rfl ?_
  · exact fun _ _ => rfl
  · decide
  · decide
  intro c cD cn cs cc cr
  subst cD
  have hat0 := hat
  have atX := hat
  obtain ⟨⟨hle, hks, ⟨cf, sl, svs, hst, hsl, hsv⟩, ⟨sat, scf, sb, hsa⟩, hz1⟩, hkr, hku, hr, ⟨el, vs, hu, hel, hev⟩, hsn, hz2⟩ := atX
  have lsv := hsv.length
  have lev := hev.length
  have ln := hn.length
  rw [he] at lev hev
  have z' : vs = [] := List.length_eq_zero_iff.mp (by simpa using lev)
  subst z'
  have ez : ([] : List V).length = 0 := rfl
  obtain ⟨a, e, f1, f2, f3⟩ := hn.first hz.1
  have f4 := hle _ _ f3
  with_reducible refine' s_cons (s_if (t_cmp (w_call ?_)))
  refine' gl_len ‹_› (kof ‹_› rfl) ?_
  refine' cv_raw rfl ?_
  with_reducible refine' w_es_cons ?_
  refine' w_local rfl ?_
  with_reducible refine' w_es_nil ?_
  refine' f_len hx (by lia) ?_
  with_reducible refine' w_int (c_eq (tr_bool (br_eq ?_ ?_)))
  with_reducible refine' fun _ => ?_
  exact False.elim (by lia)
  with_reducible refine' fun _ => s_nil (th_next (s_cons (s_assign (att (w_sub ?_)))))
  refine' w_local rfl ?_
  with_reducible refine' w_int ?_
  refine' i_list hx (by decide) (by decide) f1 ?_
  refine' gfG ‹_› f4 rfl rfl rfl ?_
  refine' st_local (lof ‹_› ⟨rfl, rfl⟩) ?_
  with_reducible refine' th_next (s_one (s_if (t_cmp ?_)))
  refine' w_local rfl ?_
  with_reducible refine' w_bin (att ?_)
  refine' w_local rfl ?_
  refine' gfG ‹_› hu rfl rfl rfl ?_
  with_reducible refine' w_call ?_
  refine' gl_len ‹_› (kof ‹_› rfl) ?_
  refine' cv_raw rfl ?_
  with_reducible refine' w_es_cons (att ?_)
  refine' w_local rfl ?_
  refine' gfG ‹_› hu rfl rfl rfl ?_
  with_reducible refine' w_es_nil ?_
  refine' f_len hel (by decide) ?_
  with_reducible refine' b_add (c_eq (tr_bool (br_eq ?_ ?_)))
  with_reducible refine' fun _ => s_one (s_assignA (w_bin (att ?_)))
  refine' w_local rfl ?_
  refine' gfG ‹_› hu rfl rfl rfl ?_
  refine' w_local rfl ?_
  refine' b_addl hel hx (by simp only [List.length_append, List.length_cons, List.length_nil, List.length_map, List.length_set, List.length_take, List.length_drop, List.length_replicate]; exact (by lia)) ?_
  with_reducible refine' fun _ _ => ?_
  refine' w_local rfl ?_
  with_reducible refine' pf_Unstable_entries ‹_› (hg_new (by with_reducible assumption) hu) ?_
  rotate_left
  with_reducible refine' fun _ => ?_
  exact False.elim (by lia)
  rename_i q1 q2 n hn'
  have hn' : H n = none := hn'
  exact h _ ((hat0.le (Hp.Le.set _ hn')).setU (el' := n) hs_self (by simpa using hn) hsn (by (first | lia | omega)))
theorem fn_append (hD : IsD D) (hat : At K H r u st S) (hx : H xl = some (.list xs)) (hn : EntV K S.off xs ts) (he : S.es = []) (hl : S.off - 1 ≤ S.last) (hc : S.com ≤ S.off - 1) (hz : ts.length ≤ 10) (h : Hold (∀ H' i, At K H' r u st { S with es := ts } → Q (.int i) H')) : Fn D 3 616 [.ref r, .ref xl] Q H := by
  refine fn_def (hK := by rw [hD.k]; k_is) (hcd := by rw [hD.k]; k_is) (ns := ["self", "entries"]) ?_ ?_ ?_ rfl rfl rfl ?_
  · exact fun _ _ => rfl
  · decide
  · decide
  intro c cD cn cs cc cr
  subst cD
  have hat0 := hat
  have atX := hat
  obtain ⟨⟨hle, hks, ⟨cf, sl, svs, hst, hsl, hsv⟩, ⟨sat, scf, sb, hsa⟩, hz1⟩, hkr, hku, hr, ⟨el, vs, hu, hel, hev⟩, hsn, hz2⟩ := atX
  have lsv := hsv.length
  have lev := hev.length
  have ln := hn.length
  by_cases z : ts.length = 0
  · have z1 : ts = [] := List.length_eq_zero_iff.mp z
    with_reducible refine' s_cons (s_if (t_cmp (w_call ?_)))
    refine' gl_len ‹_› (kof ‹_› rfl) ?_
    refine' cv_raw rfl ?_
    with_reducible refine' w_es_cons ?_
    refine' w_local rfl ?_
    with_reducible refine' w_es_nil ?_
    refine' f_len hx (by lia) ?_
    with_reducible refine' w_int (c_eq (tr_bool (br_eq ?_ ?_)))
    with_reducible refine' fun _ => s_one (s_ret (w_meth ?_))
    refine' w_local rfl ?_
    with_reducible refine' me_RaftLog_last_index ‹_› hr ?_
    refine' cm_one (kp_of ‹_› rfl) ?_
    with_reducible refine' w_es_nil ?_
    refine' Fn.go (fn_last_index ‹_› hat0 ?_) (Room.le ‹_› (by decide))
    with_reducible refine' th_ret ?_
    rotate_left
    with_reducible refine' fun _ => ?_
    exact False.elim (by lia)
    exact h _ _ (by rw [z1, ← he]; exact hat0)
  · obtain ⟨a, e, f1, f2, f3⟩ := hn.first (by (first | lia | omega))
    have f4 := hle _ _ f3
    with_reducible refine' s_cons (s_if (t_cmp (w_call ?_)))
    refine' gl_len ‹_› (kof ‹_› rfl) ?_
    refine' cv_raw rfl ?_
    with_reducible refine' w_es_cons ?_
    refine' w_local rfl ?_
    with_reducible refine' w_es_nil ?_
    refine' f_len hx (by lia) ?_
    with_reducible refine' w_int (c_eq (tr_bool (br_eq ?_ ?_)))
    with_reducible refine' fun _ => ?_
    exact False.elim (by lia)
    with_reducible refine' fun _ => s_nil (th_next (s_cons (s_assign (w_bin (att (w_sub ?_))))))
    refine' w_local rfl ?_
    with_reducible refine' w_int ?_
    refine' i_list hx (by decide) (by decide) f1 ?_
    refine' gfG ‹_› f4 rfl rfl rfl ?_
    with_reducible refine' w_int (b_sub ?_)
    refine' st_local (lof ‹_› ⟨rfl, rfl⟩) ?_
    with_reducible refine' th_next (s_cons (s_if (t_cmp ?_)))
    refine' w_local rfl ?_
    with_reducible refine' att ?_
    refine' w_local rfl ?_
    refine' gfG ‹_› hr rfl rfl rfl ?_
    with_reducible refine' c_lt (tr_bool (br_d ?_ ?_))
    with_reducible refine' fun _ => ?_
    exact False.elim (by lia)
    with_reducible refine' fun _ => s_nil (th_next (s_cons (s_if (t_cmp ?_))))
    refine' w_local rfl ?_
    with_reducible refine' w_meth ?_
    refine' w_local rfl ?_
    with_reducible refine' me_RaftLog_last_index ‹_› hr ?_
    refine' cm_one (kp_of ‹_› rfl) ?_
    with_reducible refine' w_es_nil ?_
    refine' Fn.go (fn_last_index ‹_› hat0 ?_) (Room.le ‹_› (by decide))
    with_reducible refine' c_gt (tr_bool (br_d ?_ ?_))
    with_reducible refine' fun _ => ?_
    exact False.elim (by lia)
    with_reducible refine' fun _ => s_nil (th_next (s_cons (s_ex (w_meth (att ?_)))))
    refine' w_local rfl ?_
    refine' gfG ‹_› hr rfl rfl rfl ?_
    with_reducible refine' me_Unstable_truncate_and_append ‹_› hu ?_
    refine' cm_one (kp_of ‹_› rfl) ?_
    with_reducible refine' w_es_cons ?_
    refine' w_local rfl ?_
    with_reducible refine' w_es_nil ?_
    refine Fn.go (fn_truncate_and_append hD hat hx hn he (by (first | lia | omega)) ?_) (Room.le ‹_› (by decide))
    intro H' hat'
    have hat2 := hat'
    clear hst hsl hsv hsa hr hu hel hev hle
    have atX := hat'
    obtain ⟨⟨hle, hks, ⟨cf, sl, svs, hst, hsl, hsv⟩, ⟨sat, scf, sb, hsa⟩, hz1⟩, hkr, hku, hr, ⟨el, vs, hu, hel, hev⟩, hsn, hz2⟩ := atX
    have lsv := hsv.length
    have lev := hev.length
    refine' ⟨rfl, ?_⟩
    with_reducible refine' th_next (s_one (s_ret (w_meth ?_)))
    refine' w_local rfl ?_
    with_reducible refine' me_RaftLog_last_index ‹_› hr ?_
    refine' cm_one (kp_of ‹_› rfl) ?_
    with_reducible refine' w_es_nil ?_
    refine' Fn.go (fn_last_index ‹_› hat2 ?_) (Room.le ‹_› (by decide))
    exact h _ _ hat2
theorem fn_st_append (hD : IsD D) (hat : At K H r u st S) (hx : H xl = some (.list xs)) (hn : EntV K (S.base + 1) xs ts) (he : S.ss = []) (hz : ts.length ≤ 10) (h : Hold (∀ H', At K H' r u st { S with ss := ts } → Q .none H')) : Fn D 2 420 [.ref st, .ref xl] Q H := by
  refine fn_def (hK := by rw [hD.k]; k_is) (hcd := by rw [hD.k]; k_is) (ns := ["self", "entries"]) ?_ ?_ ?_ rfl rfl rfl ?_
  · exact fun _ _ => rfl
  · decide
  · decide
  intro c cD cn cs cc cr
  subst cD
  have hat0 := hat
  have atX := hat
  obtain ⟨⟨hle, hks, ⟨cf, sl, svs, hst, hsl, hsv⟩, ⟨sat, scf, sb, hsa⟩, hz1⟩, hkr, hku, hr, ⟨el, vs, hu, hel, hev⟩, hsn, hz2⟩ := atX
  have lsv := hsv.length
  have lev := hev.length
  have ln := hn.length
  have hz2' := hat0.t.z
  by_cases z : ts.length = 0
  · have z1 : ts = [] := List.length_eq_zero_iff.mp z
    with_reducible refine' s_cons (s_if (t_cmp (w_call ?_)))
    refine' gl_len ‹_› (kof ‹_› rfl) ?_
    refine' cv_raw rfl ?_
    with_reducible refine' w_es_cons ?_
    refine' w_local rfl ?_
    with_reducible refine' w_es_nil ?_
    refine' f_len hx (by lia) ?_
    with_reducible refine' w_int (c_eq (tr_bool (br_eq ?_ ?_)))
    with_reducible refine' fun _ => s_one (s_ret0 (th_ret ?_))
    rotate_left
    with_reducible refine' fun _ => ?_
    exact False.elim (by lia)
    exact h _ (by rw [z1, ← he]; exact hat0)
  · obtain ⟨a, e, f1, f2, f3⟩ := hn.first (by (first | lia | omega))
    have f4 := hle _ _ f3
    with_reducible refine' s_cons (s_if (t_cmp (w_call ?_)))
    refine' gl_len ‹_› (kof ‹_› rfl) ?_
    refine' cv_raw rfl ?_
    with_reducible refine' w_es_cons ?_
    refine' w_local rfl ?_
    with_reducible refine' w_es_nil ?_
    refine' f_len hx (by lia) ?_
    with_reducible refine' w_int (c_eq (tr_bool (br_eq ?_ ?_)))
    with_reducible refine' fun _ => ?_
    exact False.elim (by lia)
    with_reducible refine' fun _ => s_nil (th_next (s_cons (s_assign (att (w_sub ?_)))))
    refine' w_local rfl ?_
    with_reducible refine' w_int ?_
    refine' i_list hx (by decide) (by decide) f1 ?_
    refine' gfG ‹_› f4 rfl rfl rfl ?_
    refine' st_local (lof ‹_› ⟨rfl, rfl⟩) ?_
    with_reducible refine' th_next (s_cons (s_for (w_call ?_)))
    refine' gl_range ‹_› (kof ‹_› rfl) ?_
    refine' cv_raw rfl ?_
    with_reducible refine' w_es_cons (w_call ?_)
    refine' gl_len ‹_› (kof ‹_› rfl) ?_
    refine' cv_raw rfl ?_
    with_reducible refine' w_es_cons ?_
    refine' w_local rfl ?_
    with_reducible refine' w_es_nil ?_
    refine' f_len hx (by lia) ?_
    with_reducible refine' w_es_nil (f_range1 (fun _ _ => ?_))
    refine' it_rgN hg_self (by lia) ?_
    with_reducible refine' fun _ _ => itx ?_
    rename_i rg hrg it hit
    have hrg' : H rg = none := hrg
    have hit' : (H.set rg (.rg 0 xs.length)) it = none := hit
    have hit2 : H it = none := none_set hit'
    have lz : ((xs.length : Int) - 0).toNat = ts.length := by (first | lia | omega)
    rw [lz]
    refine loop_rg (fun x n σ => x + n = ts.length ∧ 0 ≤ x ∧ Nms σ.m [("self", .ref st), ("entries", .ref xl), ("start", .int (S.base + 1))] ∧ σ.H it = some (.ri x n) ∧ H.Le σ.H) ?_ ?_ ?_ (by with_unfolding_all rfl) ⟨by (first | lia | omega), by (first | lia | omega), ⟨rfl, rfl, rfl, trivial⟩, hs_self, (Hp.Le.set _ hrg').trans (Hp.Le.set _ hit')⟩
    · rintro x n σ ⟨_, _, _, h, _⟩
      exact h
    · rintro x n ⟨m, H1⟩ ⟨z1, z2, ⟨m1, m2, m3, _⟩, _, l1⟩
      have m2' : m "entries" = some (.ref xl) := m2
      have m3' : m "start" = some (.int (S.base + 1)) := m3
      have lt : x.toNat < ts.length := by (first | lia | omega)
      obtain ⟨a, g1, g2⟩ := hn.get (List.getElem?_eq_getElem lt)
      have l2 : H.Le (H1.set it (.ri (x + 1) n)) := Hp.Le.setN hit2 l1
      have hx2 := l2 _ _ hx
      have g3 := l2 _ _ (hle _ _ g2)
      have k3 : (H1.set it (.ri (x + 1) n)) it = some (.ri (x + 1) n) := hs_self
      show c.Asg Nope _ _ _ ⟨m, H1.set it (.ri (x + 1) n)⟩
      generalize H1.set it (.ri (x + 1) n) = H2 at l2 hx2 g3 k3 ⊢
      with_reducible refine' as_name ?_
      refine' st_local (lof ‹_› ⟨rfl, rfl⟩) ?_
      with_reducible refine' s_one (s_if (t_cmp (att (w_sub ?_))))
      refine' w_local m2' ?_
      refine' w_local rfl ?_
      refine' i_list hx2 (by lia) (by lia) g1 ?_
      refine' gfG ‹_› g3 rfl rfl rfl ?_
      with_reducible refine' w_bin ?_
      refine' w_local m3' ?_
      refine' w_local rfl ?_
      with_reducible refine' b_add (c_ne (tr_bool (br_ne ?_ ?_)))
      with_reducible refine' fun _ => ?_
      exact False.elim (by lia)
      with_reducible refine' fun _ => s_nil (tu_next ?_)
      exact ⟨by (first | lia | omega), by (first | lia | omega), ⟨m1, m2', m3', trivial⟩, k3, l2⟩
    · rintro x ⟨m, H1⟩ ⟨z1, z2, ⟨m1, m2, m3, _⟩, _, l1⟩
      have m1' : m "self" = some (.ref st) := m1
      have m2' : m "entries" = some (.ref xl) := m2
      have m3' : m "start" = some (.int (S.base + 1)) := m3
      have l2 : H.Le (H1.del it) := Hp.Le.del l1 hit2
      have hx2 := l2 _ _ hx
      have hat2 := hat0.le l2
      clear hst hsl hsv hsa hr hu hel hev hle hx l1
      show c.Ss Nope _ _ ⟨m, H1.del it⟩
      generalize H1.del it = H2 at l2 hx2 hat2 ⊢
      have hat3 := hat2
      have atX := hat2
      obtain ⟨⟨hle, hks, ⟨cf, sl, svs, hst, hsl, hsv⟩, ⟨sat, scf, sb, hsa⟩, hz1⟩, hkr, hku, hr, ⟨el, vs, hu, hel, hev⟩, hsn, hz2⟩ := atX
      have lsv := hsv.length
      have lev := hev.length
      rw [he] at lsv hsv
      have z' : svs = [] := List.length_eq_zero_iff.mp (by simpa using lsv)
      subst z'
      have se : S.ss.length = 0 := by rw [he]; rfl
      with_reducible refine' s_cons (s_assign (w_meth ?_))
      refine' w_local m1' ?_
      with_reducible refine' me_MemoryStorage_first_index ‹_› hst ?_
      refine' cm_one (kp_of ‹_› rfl) ?_
      with_reducible refine' w_es_nil ?_
      refine' Fn.go (fn_st_first ‹_› (At.t ‹_›) ?_) (Room.le ‹_› (by decide))
      refine' st_local (lof ‹_› ⟨rfl, rfl⟩) ?_
      with_reducible refine' th_next (s_cons (s_if (t_cmp (w_bin (w_bin ?_)))))
      refine' w_local m3' ?_
      with_reducible refine' w_call ?_
      refine' gl_len ‹_› (kof ‹_› rfl) ?_
      refine' cv_raw rfl ?_
      with_reducible refine' w_es_cons ?_
      refine' w_local m2' ?_
      with_reducible refine' w_es_nil ?_
      refine' f_len hx2 (by lia) ?_
      with_reducible refine' b_add (w_int (b_sub ?_))
      refine' w_local rfl ?_
      with_reducible refine' c_lt (tr_bool (br_d ?_ ?_))
      with_reducible refine' fun _ => ?_
      exact False.elim (by lia)
      with_reducible refine' fun _ => s_nil (th_next (s_cons (s_if (t_cmp ?_))))
      refine' w_local m3' ?_
      with_reducible refine' w_bin (w_meth ?_)
      refine' w_local m1' ?_
      with_reducible refine' me_MemoryStorage_last_index ‹_› hst ?_
      refine' cm_one (kp_of ‹_› rfl) ?_
      with_reducible refine' w_es_nil ?_
      refine' Fn.go (fn_st_last ‹_› (At.t ‹_›) ?_) (Room.le ‹_› (by decide))
      with_reducible refine' w_int (b_add (c_gt (tr_bool (br_d ?_ ?_))))
      with_reducible refine' fun _ => ?_
      exact False.elim (by lia)
      with_reducible refine' fun _ => s_nil (th_next (s_cons (s_if (t_cmp ?_))))
      refine' w_local m3' ?_
      refine' w_local rfl ?_
      with_reducible refine' c_lt (tr_bool (br_d ?_ ?_))
      with_reducible refine' fun _ => ?_
      exact False.elim (by lia)
      with_reducible refine' fun _ => s_nil (th_next (s_one (s_assignA (w_bin (w_slice (att ?_))))))
      refine' w_local m1' ?_
      refine' gfG ‹_› hst rfl rfl rfl ?_
      with_reducible refine' p_none (p_some (w_bin ?_))
      refine' w_local m3' ?_
      refine' w_local rfl ?_
      with_reducible refine' b_sub ?_
      refine' slx hsl (by decide) bdn (bdi (by first | lia | omega)) ?_
      with_reducible refine' fun _ _ => ?_
      refine' w_local m2' ?_
      have sl0 : slc ([] : List V) none (some (S.base + 1 - (S.base + 1))) = [] := by simp [slc]
      simp only [sl0]
      rename_i n1 hn1
      have hn1' : H2 n1 = none := hn1
      have e0 : (H2.set n1 (.list [])) n1 = some (.list []) := hs_self
      have e1 := Hp.Le.set (o := .list []) hn1' _ _ hx2
      have lt0 : ([] : List V).length + xs.length ≤ 100000 := by simp; (first | lia | omega)
      have ex : ([] : List V) ++ xs = xs := rfl
      refine b_addl e0 e1 lt0 fun n2 hn2 => ?_
      have hn2' : (H2.set n1 (.list [])) n2 = none := hn2
      refine' w_local m1' ?_
      with_reducible refine' pf_MemoryStorage_entries ‹_› (hg_new hn2' (hg_new hn1' hst)) ?_
      have l3 := (Hp.Le.set (o := .list []) hn1').trans (Hp.Le.set (o := .list xs) hn2')
      refine h _ ((hat3.le l3).setS (el' := n2) hs_self hn hat3.t.sa (by (first | lia | omega)))
theorem fn_apply_snapshot (hD : IsD D) (hat : At K H r u st S) (hp : SnpAt K p) (hb : S.si < p.2.1 ∧ S.base ≤ p.2.1 ∧ p.2.1 ≤ 50 ∧ 0 ≤ S.base) (h : Hold (∀ H', At K H' r u st { S with base := p.2.1, bt := p.2.2, ss := [], sa := p.1, si := p.2.1 } → Q .none H')) : Fn D 1 427 [.ref st, .ref p.1] Q H := by
  refine fn_def (hK := by rw [hD.k]; k_is) (hcd := by rw [hD.k]; k_is) (ns := ["self", "snapshot"]) ?_ ?_ ?_ rfl rfl rfl ?_
  · exact fun _ _ => rfl
  · decide
  · decide
  intro c cD cn cs cc cr
  subst cD
  have hat0 := hat
  have atX := hat
  obtain ⟨⟨hle, hks, ⟨cf, sl, svs, hst, hsl, hsv⟩, ⟨sat, scf, sb, hsa⟩, hz1⟩, hkr, hku, hr, ⟨el, vs, hu, hel, hev⟩, hsn, hz2⟩ := atX
  have lsv := hsv.length
  have lev := hev.length
  obtain ⟨pc, pb, hp1⟩ := id hp
  have hp2 := hle _ _ hp1
  have hsa2 := hle _ _ hsa
  have nau : p.1 ≠ st := ne_ob hp2 hst fun q => by cases q
  with_reducible refine' s_cons (s_if (t_bool (a_or (t_cmp (att ?_)))))
  refine' w_local rfl ?_
  refine' gfG ‹_› hp2 rfl rfl rfl ?_
  with_reducible refine' att (att ?_)
  refine' w_local rfl ?_
  refine' gfG ‹_› hst rfl rfl rfl ?_
  refine' gfG ‹_› hsa2 rfl rfl rfl ?_
  with_reducible refine' c_le (tr_bool (br_d ?_ ?_))
  with_reducible refine' fun _ => ?_
  exact False.elim (by lia)
  with_reducible refine' fun _ => a_or (t_cmp (att ?_))
  refine' w_local rfl ?_
  refine' gfG ‹_› hp2 rfl rfl rfl ?_
  with_reducible refine' att ?_
  refine' w_local rfl ?_
  refine' gfG ‹_› hst rfl rfl rfl ?_
  with_reducible refine' c_lt (tr_bool (br_d ?_ ?_))
  with_reducible refine' fun _ => ?_
  exact False.elim (by lia)
  with_reducible refine' fun _ => a_or_nil (br_f (s_nil (th_next (s_cons (s_assignA ?_)))))
  refine' w_local rfl ?_
  refine' w_local rfl ?_
  with_reducible refine' pf_MemoryStorage_snap ‹_› hst (th_next (s_cons (s_assignA (att ?_))))
  refine' w_local rfl ?_
  refine' gfG ‹_› (hg_ne nau hp2) rfl rfl rfl ?_
  refine' w_local rfl ?_
  with_reducible refine' pf_MemoryStorage_conf ‹_› hg_self (th_next (s_cons (s_assignA (att ?_))))
  refine' w_local rfl ?_
  refine' gfG ‹_› (hg_ne nau (hg_ne nau hp2)) rfl rfl rfl ?_
  refine' w_local rfl ?_
  with_reducible refine' pf_MemoryStorage_base_index ‹_› hg_self (th_next (s_cons (s_assignA (att ?_))))
  refine' w_local rfl ?_
  refine' gfG ‹_› (hg_ne nau (hg_ne nau (hg_ne nau hp2))) rfl rfl rfl ?_
  refine' w_local rfl ?_
  with_reducible refine' pf_MemoryStorage_base_term ‹_› hg_self (th_next (s_one (s_assignA (w_list (w_es_nil ?_)))))
  refine' ⟨(Nat.le_of_ble_eq_true rfl), ?_⟩
  with_reducible refine' fun _ _ => ?_
  refine' w_local rfl ?_
  with_reducible refine' pf_MemoryStorage_entries ‹_› (hg_new (by with_reducible assumption) hg_self) ?_
  rename_i n hn
  have hn0 := hn
  simp only [set_set] at hn0 ⊢
  have hn' : H n = none := none_set hn0
  have nu : n ≠ st := ne_of hn' hst
  rw [set_comm nu, set_set]
  exact h _ ((hat0.le (Hp.Le.set (o := .list []) hn')).setS (el' := n) hs_self (by simp [EntV]) ⟨_, _, _, hp1⟩ (by simp; (first | lia | omega)))
end

end Rk
namespace Rk

section
variable {D : Wd} {d : Nat} {c : Cx} {E : Value → Shared → Prop} {σ : St} {K H H' : Hp} {u el r st xl a n b el' : Addr} {vs xs vs' : List V} {ts es' : List Int} {i t k lo hi off' com' app' : Int} {Q : V → Hp → Prop} {Qs : V → St → Prop} {P : Addr → Hp → Prop} {S : LS} {o o' : MO} {cf : Addr} {y : V} {p : Addr × Int × Int} {m : Nat}
theorem Hp.Le.non {H H' : Hp} {n : Addr} (l : H.Le H') (h : H' n = none) : H n = none := by
  cases q : H n with
  | none => rfl
  | some x => have w := l _ _ q; rw [h] at w; cases w
theorem last_of (hsn : S.sn = none) (ho : S.off = S.base + 1 + m) (hes : S.es = S.ss.drop m) (hm : m ≤ S.ss.length) : S.last = S.base + S.ss.length := by
  by_cases z : S.es.length = 0
  · exact LS.last_none z hsn
  · rw [LS.last_es z, hes, List.length_drop, ho]
    rw [hes, List.length_drop] at z
    (first | lia | omega)
theorem fn_slice (hD : IsD D) (hat : At K H r u st S) (hs0 : S.sn = none) (ho : S.off = S.base + 1 + m) (hes : S.es = S.ss.drop m) (hm : m ≤ S.ss.length) (hh : S.base + 1 < hi ∧ hi ≤ S.base + 1 + S.ss.length) (hb : TB S.ss)
    (h : Hold (∀ H' n vs, H.Le H' → H n = none → H' n = some (.list vs) → EntV K (S.base + 1) vs (S.ss.take (hi - (S.base + 1)).toNat) → Q (.ref n) H')) : Fn D 5 735 [.ref r, .int (S.base + 1), .int hi, .int NLim] Q H := by
  refine fn_defO (hK := by rw [hD.k]; k_is) (hcd := by rw [hD.k]; k_is) (ns := ["self", "lo", "hi", "limit"]) ?_ ?_ ?_ rfl rfl rfl ?_
  · exact fun _ _ _ _ => rfl
  · decide
  · decide
  intro c cD cn cs cc co cr
  subst cD
  have hat0 := hat
  have hfi : S.first = S.base + 1 := LS.first_none hs0
  have hla := last_of hs0 ho hes hm
  have hze := hat0.t.z
  have les : S.es.length = S.ss.length - m := by rw [hes, List.length_drop]
  have lss : ∀ (q : Int), (S.ss.take q.toNat).length ≤ S.ss.length := fun q => by rw [List.length_take]; (first | lia | omega)
  have atX := hat
  obtain ⟨⟨hle, hks, ⟨cf, sl, svs, hst, hsl, hsv⟩, ⟨sat, scf, sb, hsa⟩, hz1⟩, hkr, hku, hr, ⟨el, vs, hu, hel, hev⟩, hsn, hz2⟩ := atX
  have lsv := hsv.length
  have lev := hev.length
  by_cases z : m = 0
  · subst z
    have hes' : S.es = S.ss := hes
    with_reducible refine' s_cons (s_if (t_cmp ?_))
    refine' w_local rfl ?_
    refine' w_local rfl ?_
    with_reducible refine' c_gt (tr_bool (br_d ?_ ?_))
    with_reducible refine' fun _ => ?_
    exact False.elim (by lia)
    with_reducible refine' fun _ => s_nil (th_next (s_cons (s_if (t_cmp ?_))))
    refine' w_local rfl ?_
    with_reducible refine' w_meth ?_
    refine' w_local rfl ?_
    with_reducible refine' me_RaftLog_first_index ‹_› hr ?_
    refine' cm_one (kp_of ‹_› rfl) ?_
    with_reducible refine' w_es_nil ?_
    refine' Fn.go (fn_first_index ‹_› hat0 ?_) (Room.le ‹_› (by decide))
    with_reducible refine' c_lt (tr_bool (br_d ?_ ?_))
    with_reducible refine' fun _ => ?_
    exact False.elim (by lia)
    with_reducible refine' fun _ => s_nil (th_next (s_cons (s_if (t_cmp ?_))))
    refine' w_local rfl ?_
    with_reducible refine' w_bin (w_meth ?_)
    refine' w_local rfl ?_
    with_reducible refine' me_RaftLog_last_index ‹_› hr ?_
    refine' cm_one (kp_of ‹_› rfl) ?_
    with_reducible refine' w_es_nil ?_
    refine' Fn.go (fn_last_index ‹_› hat0 ?_) (Room.le ‹_› (by decide))
    with_reducible refine' w_int (b_add (c_gt (tr_bool (br_d ?_ ?_))))
    with_reducible refine' fun _ => ?_
    exact False.elim (by lia)
    with_reducible refine' fun _ => s_nil (th_next (s_cons (s_if (t_cmp ?_))))
    refine' w_local rfl ?_
    refine' w_local rfl ?_
    with_reducible refine' c_eq (tr_bool (br_eq ?_ ?_))
    with_reducible refine' fun _ => ?_
    exact False.elim (by lia)
    with_reducible refine' fun _ => s_nil (th_next (s_cons (s_assign (att (att ?_)))))
    refine' w_local rfl ?_
    refine' gfG ‹_› hr rfl rfl rfl ?_
    refine' gfG ‹_› hu rfl rfl rfl ?_
    refine' st_local (lof ‹_› ⟨rfl, rfl⟩) ?_
    with_reducible refine' th_next (s_cons (s_assign (w_list (w_es_nil ?_))))
    refine' ⟨(Nat.le_of_ble_eq_true rfl), ?_⟩
    with_reducible refine' fun _ _ => ?_
    refine' st_local (lof ‹_› ⟨rfl, rfl⟩) ?_
    with_reducible refine' th_next (s_cons (s_if (t_cmp ?_)))
    refine' w_local rfl ?_
    refine' w_local rfl ?_
    with_reducible refine' c_lt (tr_bool (br_d ?_ ?_))
    with_reducible refine' fun _ => ?_
    exact False.elim (by lia)
    with_reducible refine' fun _ => s_nil (th_next (s_cons (s_if (t_cmp ?_))))
    refine' w_local rfl ?_
    refine' w_local rfl ?_
    with_reducible refine' c_gt (tr_bool (br_d ?_ ?_))
    with_reducible refine' fun _ => s_one (s_assign (w_bin ?_))
    refine' w_local rfl ?_
    with_reducible refine' w_meth (att ?_)
    refine' w_local rfl ?_
    refine' gfG ‹_› (hg_up (hg_new (by with_reducible assumption) hr)) rfl rfl rfl ?_
    with_reducible refine' me_Unstable_part ‹_› (hg_up (hg_new (by with_reducible assumption) hu)) ?_
    refine' cm_one (kp_of ‹_› rfl) ?_
    with_reducible refine' w_es_cons (w_call ?_)
    refine' gl_max ‹_› (kof ‹_› rfl) ?_
    refine' cv_raw rfl ?_
    with_reducible refine' w_es_cons ?_
    refine' w_local rfl ?_
    with_reducible refine' w_es_cons ?_
    refine' w_local rfl ?_
    with_reducible refine' w_es_nil (f_max2 (w_es_cons ?_))
    refine' w_local rfl ?_
    with_reducible refine' w_es_nil ?_
    rotate_left
    with_reducible refine' fun _ => ?_
    exact False.elim (by lia)
    rename_i n0 hn0 hq0 hq1
    have hn0' : H n0 = none := hn0
    have l0 := Hp.Le.set (o := .list []) hn0'
    have hat1 := hat0.le l0
    rw [show max (S.base + 1) S.off = S.base + 1 by (first | lia | omega)]
    refine Fn.go (fn_part hD hat1 ⟨by (first | lia | omega), by (first | lia | omega), by (first | lia | omega)⟩ ?_) (Room.le ‹_› (by decide))
    intro n1 vs1 hn1 z1
    have e0 : ((H.set n0 (.list [])).set n1 (.list vs1)) n0 = some (.list []) := hs_new hn1 hs_self
    have e1 : ((H.set n0 (.list [])).set n1 (.list vs1)) n1 = some (.list vs1) := hs_self
    have l1 := l0.trans (Hp.Le.set (o := .list vs1) hn1)
    rw [show (S.base + 1 - S.off).toNat = 0 by (first | lia | omega), List.drop_zero, hes', show hi - S.off = hi - (S.base + 1) by (first | lia | omega)] at z1
    have lv1 := z1.length
    have lw := lss (hi - (S.base + 1))
    refine' b_addl e0 e1 (by simp only [List.length_append, List.length_cons, List.length_nil, List.length_map, List.length_set, List.length_take, List.length_drop, List.length_replicate]; exact (by lia)) ?_
    with_reducible refine' fun _ _ => ?_
    refine' st_local (lof ‹_› ⟨rfl, rfl⟩) ?_
    with_reducible refine' th_next (s_one (s_ret (w_call ?_)))
    refine' gl_limit_size ‹_› (kof ‹_› rfl) ?_
    refine' cv_ref (kp_of ‹_› rfl) ?_
    with_reducible refine' w_es_cons ?_
    refine' w_local rfl ?_
    with_reducible refine' w_es_cons ?_
    refine' w_local rfl ?_
    with_reducible refine' w_es_nil ?_
    rename_i n2 hn2
    have hn2' : ((H.set n0 (.list [])).set n1 (.list vs1)) n2 = none := hn2
    have l2 := l1.trans (Hp.Le.set (o := .list vs1) hn2')
    refine Fn.go (fn_limit_size hD (xl := n2) (xs := vs1) hs_self (z1.le (hle.trans l2)) (hb.take _) (by (first | lia | omega)) ?_) (Room.le ‹_› (by decide))
    intro H3 n3 k1 k2 k3
    skip
    exact h H3 n3 vs1 (l2.trans k1) (none_set (none_set (none_set k2))) k3 z1
  · by_cases z2 : hi ≤ S.off
    · with_reducible refine' s_cons (s_if (t_cmp ?_))
      refine' w_local rfl ?_
      refine' w_local rfl ?_
      with_reducible refine' c_gt (tr_bool (br_d ?_ ?_))
      with_reducible refine' fun _ => ?_
      exact False.elim (by lia)
      with_reducible refine' fun _ => s_nil (th_next (s_cons (s_if (t_cmp ?_))))
      refine' w_local rfl ?_
      with_reducible refine' w_meth ?_
      refine' w_local rfl ?_
      with_reducible refine' me_RaftLog_first_index ‹_› hr ?_
      refine' cm_one (kp_of ‹_› rfl) ?_
      with_reducible refine' w_es_nil ?_
      refine' Fn.go (fn_first_index ‹_› hat0 ?_) (Room.le ‹_› (by decide))
      with_reducible refine' c_lt (tr_bool (br_d ?_ ?_))
      with_reducible refine' fun _ => ?_
      exact False.elim (by lia)
      with_reducible refine' fun _ => s_nil (th_next (s_cons (s_if (t_cmp ?_))))
      refine' w_local rfl ?_
      with_reducible refine' w_bin (w_meth ?_)
      refine' w_local rfl ?_
      with_reducible refine' me_RaftLog_last_index ‹_› hr ?_
      refine' cm_one (kp_of ‹_› rfl) ?_
      with_reducible refine' w_es_nil ?_
      refine' Fn.go (fn_last_index ‹_› hat0 ?_) (Room.le ‹_› (by decide))
      with_reducible refine' w_int (b_add (c_gt (tr_bool (br_d ?_ ?_))))
      with_reducible refine' fun _ => ?_
      exact False.elim (by lia)
      with_reducible refine' fun _ => s_nil (th_next (s_cons (s_if (t_cmp ?_))))
      refine' w_local rfl ?_
      refine' w_local rfl ?_
      with_reducible refine' c_eq (tr_bool (br_eq ?_ ?_))
      with_reducible refine' fun _ => ?_
      exact False.elim (by lia)
      with_reducible refine' fun _ => s_nil (th_next (s_cons (s_assign (att (att ?_)))))
      refine' w_local rfl ?_
      refine' gfG ‹_› hr rfl rfl rfl ?_
      refine' gfG ‹_› hu rfl rfl rfl ?_
      refine' st_local (lof ‹_› ⟨rfl, rfl⟩) ?_
      with_reducible refine' th_next (s_cons (s_assign (w_list (w_es_nil ?_))))
      refine' ⟨(Nat.le_of_ble_eq_true rfl), ?_⟩
      with_reducible refine' fun _ _ => ?_
      refine' st_local (lof ‹_› ⟨rfl, rfl⟩) ?_
      with_reducible refine' th_next (s_cons (s_if (t_cmp ?_)))
      refine' w_local rfl ?_
      refine' w_local rfl ?_
      with_reducible refine' c_lt (tr_bool (br_d ?_ ?_))
      with_reducible refine' fun _ => s_cons (s_assign (w_call ?_))
      refine' gl_min ‹_› (kof ‹_› rfl) ?_
      refine' cv_raw rfl ?_
      with_reducible refine' w_es_cons ?_
      refine' w_local rfl ?_
      with_reducible refine' w_es_cons ?_
      refine' w_local rfl ?_
      with_reducible refine' w_es_nil (f_min2 ?_)
      refine' st_local (lof ‹_› ⟨rfl, rfl⟩) ?_
      with_reducible refine' th_next (s_cons ?_)
      rotate_left
      with_reducible refine' fun _ => ?_
      exact False.elim (by lia)
      rename_i n0 hn0 hq0
      have hn0' : H n0 = none := hn0
      have l0 := Hp.Le.set (o := .list []) hn0'
      have hat1 := hat0.le l0
      rw [show min hi S.off = hi by (first | lia | omega)]
      refine hold_mid (fun σ => ∃ n1 vs1, Nms σ.m [("lo", .int (S.base + 1)), ("hi", .int hi), ("offset", .int S.off), ("end", .int hi), ("limit", .int NLim), ("found", .ref n1)] ∧ H.Le σ.H ∧ H n1 = none ∧ σ.H n1 = some (.list vs1) ∧ EntV K (S.base + 1) vs1 (S.ss.take (hi - (S.base + 1)).toNat)) ?_ ?_
      · refine s_try co (P := fun _ _ => False) ?_ (fun _ _ q => q.elim)
        with_reducible refine' s_one (s_assign (w_meth (att ?_)))
        refine' w_local rfl ?_
        refine' gfG ‹_› (hg_up (hg_up (hg_new hn0' hr))) rfl rfl rfl ?_
        with_reducible refine' me_MemoryStorage_entries_between ‹_› (hg_up (hg_up (hg_new hn0' hst))) ?_
        refine' cm_one (kp_of ‹_› rfl) ?_
        with_reducible refine' w_es_cons ?_
        refine' w_local rfl ?_
        with_reducible refine' w_es_cons ?_
        refine' w_local rfl ?_
        with_reducible refine' w_es_cons ?_
        refine' w_local rfl ?_
        with_reducible refine' w_es_nil ?_
        refine Fn.go (fn_entries_between hD hat1.t ⟨by (first | lia | omega), by (first | lia | omega), by (first | lia | omega)⟩ hb ?_) (Room.le ‹_› (by decide))
        intro H1 n1 vs1 k1 k2 k3 k4
        refine' st_local (lof ‹_› ⟨rfl, rfl⟩) ?_
        with_reducible refine' md_next ?_
        rw [show (S.base + 1 - (S.base + 1)).toNat = 0 by (first | lia | omega), List.drop_zero] at k4
        exact ⟨n1, vs1, ⟨rfl, rfl, rfl, rfl, rfl, rfl, trivial⟩, l0.trans k1, none_set k2, k3, k4⟩
      · rintro ⟨mm, H1⟩ ⟨n1, vs1, ⟨m1, m2, m3, m4, m5, m6, _⟩, k1, k2, k3, k4⟩
        have lv1 := k4.length
        have lw := lss (hi - (S.base + 1))
        have lx : ((S.ss.take (hi - (S.base + 1)).toNat).length : Int) = hi - (S.base + 1) := by rw [List.length_take]; (first | lia | omega)
        with_reducible refine' s_one (s_if (t_cmp (w_call ?_)))
        refine' gl_len ‹_› (kof ‹_› rfl) ?_
        refine' cv_raw rfl ?_
        with_reducible refine' w_es_cons ?_
        refine' w_local m6 ?_
        with_reducible refine' w_es_nil ?_
        refine' f_len k3 (by lia) ?_
        with_reducible refine' w_bin ?_
        refine' w_local m4 ?_
        refine' w_local m1 ?_
        with_reducible refine' b_sub (c_lt (tr_bool (br_d ?_ ?_)))
        with_reducible refine' fun _ => ?_
        exact False.elim (by lia)
        with_reducible refine' fun _ => s_nil (th_next (s_cons (s_if (t_cmp ?_))))
        refine' w_local m2 ?_
        refine' w_local m3 ?_
        with_reducible refine' c_gt (tr_bool (br_d ?_ ?_))
        with_reducible refine' fun _ => ?_
        exact False.elim (by lia)
        with_reducible refine' fun _ => s_nil (th_next (s_one (s_ret (w_call ?_))))
        refine' gl_limit_size ‹_› (kof ‹_› rfl) ?_
        refine' cv_ref (kp_of ‹_› rfl) ?_
        with_reducible refine' w_es_cons ?_
        refine' w_local m6 ?_
        with_reducible refine' w_es_cons ?_
        refine' w_local m5 ?_
        with_reducible refine' w_es_nil ?_
        refine Fn.go (fn_limit_size hD (xl := n1) (xs := vs1) k3 (k4.le (hle.trans k1)) (hb.take _) (by (first | lia | omega)) ?_) (Room.le ‹_› (by decide))
        intro H3 n3 j1 j2 j3
        skip
        exact h H3 n3 vs1 (k1.trans j1) (k1.non j2) j3 k4
    · with_reducible refine' s_cons (s_if (t_cmp ?_))
      refine' w_local rfl ?_
      refine' w_local rfl ?_
      with_reducible refine' c_gt (tr_bool (br_d ?_ ?_))
      with_reducible refine' fun _ => ?_
      exact False.elim (by lia)
      with_reducible refine' fun _ => s_nil (th_next (s_cons (s_if (t_cmp ?_))))
      refine' w_local rfl ?_
      with_reducible refine' w_meth ?_
      refine' w_local rfl ?_
      with_reducible refine' me_RaftLog_first_index ‹_› hr ?_
      refine' cm_one (kp_of ‹_› rfl) ?_
      with_reducible refine' w_es_nil ?_
      refine' Fn.go (fn_first_index ‹_› hat0 ?_) (Room.le ‹_› (by decide))
      with_reducible refine' c_lt (tr_bool (br_d ?_ ?_))
      with_reducible refine' fun _ => ?_
      exact False.elim (by lia)
      with_reducible refine' fun _ => s_nil (th_next (s_cons (s_if (t_cmp ?_))))
      refine' w_local rfl ?_
      with_reducible refine' w_bin (w_meth ?_)
      refine' w_local rfl ?_
      with_reducible refine' me_RaftLog_last_index ‹_› hr ?_
      refine' cm_one (kp_of ‹_› rfl) ?_
      with_reducible refine' w_es_nil ?_
      refine' Fn.go (fn_last_index ‹_› hat0 ?_) (Room.le ‹_› (by decide))
      with_reducible refine' w_int (b_add (c_gt (tr_bool (br_d ?_ ?_))))
      with_reducible refine' fun _ => ?_
      exact False.elim (by lia)
      with_reducible refine' fun _ => s_nil (th_next (s_cons (s_if (t_cmp ?_))))
      refine' w_local rfl ?_
      refine' w_local rfl ?_
      with_reducible refine' c_eq (tr_bool (br_eq ?_ ?_))
      with_reducible refine' fun _ => ?_
      exact False.elim (by lia)
      with_reducible refine' fun _ => s_nil (th_next (s_cons (s_assign (att (att ?_)))))
      refine' w_local rfl ?_
      refine' gfG ‹_› hr rfl rfl rfl ?_
      refine' gfG ‹_› hu rfl rfl rfl ?_
      refine' st_local (lof ‹_› ⟨rfl, rfl⟩) ?_
      with_reducible refine' th_next (s_cons (s_assign (w_list (w_es_nil ?_))))
      refine' ⟨(Nat.le_of_ble_eq_true rfl), ?_⟩
      with_reducible refine' fun _ _ => ?_
      refine' st_local (lof ‹_› ⟨rfl, rfl⟩) ?_
      with_reducible refine' th_next (s_cons (s_if (t_cmp ?_)))
      refine' w_local rfl ?_
      refine' w_local rfl ?_
      with_reducible refine' c_lt (tr_bool (br_d ?_ ?_))
      with_reducible refine' fun _ => s_cons (s_assign (w_call ?_))
      refine' gl_min ‹_› (kof ‹_› rfl) ?_
      refine' cv_raw rfl ?_
      with_reducible refine' w_es_cons ?_
      refine' w_local rfl ?_
      with_reducible refine' w_es_cons ?_
      refine' w_local rfl ?_
      with_reducible refine' w_es_nil (f_min2 ?_)
      refine' st_local (lof ‹_› ⟨rfl, rfl⟩) ?_
      with_reducible refine' th_next (s_cons ?_)
      rotate_left
      with_reducible refine' fun _ => ?_
      exact False.elim (by lia)
      rename_i n0 hn0 hq0
      have hn0' : H n0 = none := hn0
      have l0 := Hp.Le.set (o := .list []) hn0'
      have hat1 := hat0.le l0
      rw [show min hi S.off = S.off by (first | lia | omega)]
      refine hold_mid (fun σ => ∃ n1 vs1, Nms σ.m [("self", .ref r), ("lo", .int (S.base + 1)), ("hi", .int hi), ("offset", .int S.off), ("end", .int S.off), ("limit", .int NLim), ("found", .ref n1)] ∧ H.Le σ.H ∧ H n1 = none ∧ σ.H n1 = some (.list vs1) ∧ EntV K (S.base + 1) vs1 (S.ss.take m)) ?_ ?_
      · refine s_try co (P := fun _ _ => False) ?_ (fun _ _ q => q.elim)
        with_reducible refine' s_one (s_assign (w_meth (att ?_)))
        refine' w_local rfl ?_
        refine' gfG ‹_› (hg_up (hg_up (hg_new hn0' hr))) rfl rfl rfl ?_
        with_reducible refine' me_MemoryStorage_entries_between ‹_› (hg_up (hg_up (hg_new hn0' hst))) ?_
        refine' cm_one (kp_of ‹_› rfl) ?_
        with_reducible refine' w_es_cons ?_
        refine' w_local rfl ?_
        with_reducible refine' w_es_cons ?_
        refine' w_local rfl ?_
        with_reducible refine' w_es_cons ?_
        refine' w_local rfl ?_
        with_reducible refine' w_es_nil ?_
        refine Fn.go (fn_entries_between hD hat1.t ⟨by (first | lia | omega), by (first | lia | omega), by (first | lia | omega)⟩ hb ?_) (Room.le ‹_› (by decide))
        intro H1 n1 vs1 k1 k2 k3 k4
        refine' st_local (lof ‹_› ⟨rfl, rfl⟩) ?_
        with_reducible refine' md_next ?_
        rw [show (S.base + 1 - (S.base + 1)).toNat = 0 by (first | lia | omega), List.drop_zero, show (S.off - (S.base + 1)).toNat = m by (first | lia | omega)] at k4
        exact ⟨n1, vs1, ⟨rfl, rfl, rfl, rfl, rfl, rfl, rfl, trivial⟩, l0.trans k1, none_set k2, k3, k4⟩
      · clear hst hsl hsv hsa hr hu hel hev hat1
        rintro ⟨mm, H1⟩ ⟨n1, vs1, ⟨m0, m1, m2, m3, m4, m5, m6, _⟩, k1, k2, k3, k4⟩
        have lv1 := k4.length
        have lw := lss m
        rw [Int.toNat_natCast] at lw
        have lx : (S.ss.take m).length = m := by rw [List.length_take]; (first | lia | omega)
        have hat2 := hat0.le k1
        have hat3 := hat2
        clear hat0 hat
        have atX := hat2
        obtain ⟨⟨hle, hks, ⟨cf, sl, svs, hst, hsl, hsv⟩, ⟨sat, scf, sb, hsa⟩, hz1⟩, hkr, hku, hr, ⟨el, vs, hu, hel, hev⟩, hsn, hz2⟩ := atX
        have lsv := hsv.length
        have lev := hev.length
        with_reducible refine' s_one (s_if (t_cmp (w_call ?_)))
        refine' gl_len ‹_› (kof ‹_› rfl) ?_
        refine' cv_raw rfl ?_
        with_reducible refine' w_es_cons ?_
        refine' w_local m6 ?_
        with_reducible refine' w_es_nil ?_
        refine' f_len k3 (by lia) ?_
        with_reducible refine' w_bin ?_
        refine' w_local m4 ?_
        refine' w_local m1 ?_
        with_reducible refine' b_sub (c_lt (tr_bool (br_d ?_ ?_)))
        with_reducible refine' fun _ => ?_
        exact False.elim (by lia)
        with_reducible refine' fun _ => s_nil (th_next (s_cons (s_if (t_cmp ?_))))
        refine' w_local m2 ?_
        refine' w_local m3 ?_
        with_reducible refine' c_gt (tr_bool (br_d ?_ ?_))
        with_reducible refine' fun _ => s_one (s_assign (w_bin ?_))
        refine' w_local m6 ?_
        with_reducible refine' w_meth (att ?_)
        refine' w_local m0 ?_
        refine' gfG ‹_› hr rfl rfl rfl ?_
        with_reducible refine' me_Unstable_part ‹_› hu ?_
        refine' cm_one (kp_of ‹_› rfl) ?_
        with_reducible refine' w_es_cons (w_call ?_)
        refine' gl_max ‹_› (kof ‹_› rfl) ?_
        refine' cv_raw rfl ?_
        with_reducible refine' w_es_cons ?_
        refine' w_local m1 ?_
        with_reducible refine' w_es_cons ?_
        refine' w_local m3 ?_
        with_reducible refine' w_es_nil (f_max2 (w_es_cons ?_))
        refine' w_local m2 ?_
        with_reducible refine' w_es_nil ?_
        rotate_left
        with_reducible refine' fun _ => ?_
        exact False.elim (by lia)
        rw [show max (S.base + 1) S.off = S.off by (first | lia | omega)]
        refine Fn.go (fn_part hD hat3 ⟨by (first | lia | omega), by (first | lia | omega), by (first | lia | omega)⟩ ?_) (Room.le ‹_› (by decide))
        intro n2 vs2 hn2 z1
        have e0 : (H1.set n2 (.list vs2)) n1 = some (.list vs1) := hs_new hn2 k3
        have e1 : (H1.set n2 (.list vs2)) n2 = some (.list vs2) := hs_self
        have l1 := k1.trans (Hp.Le.set (o := .list vs2) hn2)
        rw [show (S.off - S.off).toNat = 0 by (first | lia | omega), List.drop_zero] at z1
        have lv2 := z1.length
        have lw2 : (S.es.take (hi - S.off).toNat).length ≤ S.ss.length := by rw [List.length_take]; (first | lia | omega)
        refine' b_addl e0 e1 (by lia) ?_
        with_reducible refine' fun _ _ => ?_
        refine' st_local (lof ‹_› ⟨rfl, rfl⟩) ?_
        with_reducible refine' th_next (s_one (s_ret (w_call ?_)))
        refine' gl_limit_size ‹_› (kof ‹_› rfl) ?_
        refine' cv_ref (kp_of ‹_› rfl) ?_
        with_reducible refine' w_es_cons ?_
        refine' w_local rfl ?_
        with_reducible refine' w_es_cons ?_
        refine' w_local m5 ?_
        with_reducible refine' w_es_nil ?_
        rename_i n3 hn3
        have hn3' : (H1.set n2 (.list vs2)) n3 = none := hn3
        have l2 := l1.trans (Hp.Le.set (o := .list (vs1 ++ vs2)) hn3')
        have z2 : EntV K (S.base + 1) (vs1 ++ vs2) (S.ss.take (hi - (S.base + 1)).toNat) := by
          have e5 : S.ss.take (hi - (S.base + 1)).toNat = S.ss.take m ++ S.es.take (hi - S.off).toNat := by
            rw [show (hi - (S.base + 1)).toNat = m + (hi - S.off).toNat by (first | lia | omega), List.take_add, hes]
          rw [e5]
          refine k4.app ?_
          rw [lx, show S.base + 1 + (m : Int) = S.off by (first | lia | omega)]
          exact z1
        have lw3 := lss (hi - (S.base + 1))
        refine Fn.go (fn_limit_size hD (xl := n3) (xs := vs1 ++ vs2) hs_self (z2.le (hat3.t.le.trans ((Hp.Le.set (o := .list vs2) hn2).trans (Hp.Le.set (o := .list (vs1 ++ vs2)) hn3')))) (hb.take _) (by (first | lia | omega)) ?_) (Room.le ‹_› (by decide))
        intro H3 n4 j1 j2 j3
        skip
        exact h H3 n4 _ (l2.trans j1) (l2.non j2) j3 z2
theorem fn_next_committed (hD : IsD D) (hat : At K H r u st S) (hs0 : S.sn = none) (ho : S.off = S.base + 1 + m) (hes : S.es = S.ss.drop m) (hm : m ≤ S.ss.length) (hh : S.base ≤ S.com ∧ S.com ≤ S.base + S.ss.length) (hap : S.app ≤ S.base) (hb : TB S.ss)
    (h : Hold (∀ H' n vs, H.Le H' → H n = none → H' n = some (.list vs) → EntV K (S.base + 1) vs (S.ss.take (S.com - S.base).toNat) → Q (.ref n) H')) : Fn D 6 707 [.ref r] Q H := by
  refine fn_def (hK := by rw [hD.k]; k_is) (hcd := by rw [hD.k]; k_is) (ns := ["self"]) ?_ ?_ ?_ rfl rfl rfl ?_
  · exact fun _ => rfl
  · decide
  · decide
  intro c cD cn cs cc cr
  subst cD
  have hat0 := hat
  have hfi : S.first = S.base + 1 := LS.first_none hs0
  have hp : ∀ p, S.sn = some p → 1 ≤ p.2.1 := fun p q => by rw [hs0] at q; cases q
  have e1 : max (S.app + 1) S.first = S.base + 1 := by (first | lia | omega)
  have e2 : S.sn.isNone = true := by rw [hs0]; rfl
  have atX := hat
  obtain ⟨⟨hle, hks, ⟨cf, sl, svs, hst, hsl, hsv⟩, ⟨sat, scf, sb, hsa⟩, hz1⟩, hkr, hku, hr, ⟨el, vs, hu, hel, hev⟩, hsn, hz2⟩ := atX
  have lsv := hsv.length
  have lev := hev.length
  with_reducible refine' s_cons (s_if (t_not (t_val (w_meth ?_))))
  refine' w_local rfl ?_
  with_reducible refine' me_RaftLog_has_next ‹_› hr ?_
  refine' cm_one (kp_of ‹_› rfl) ?_
  with_reducible refine' w_es_nil ?_
  refine' Fn.go (fn_has_next ‹_› hat0 hp ?_) (Room.le ‹_› (by decide))
  with_reducible refine' tr_bool (br_nb ?_ ?_)
  with_reducible refine' fun _ => s_one (s_ret (w_list (w_es_nil ?_)))
  refine' ⟨(Nat.le_of_ble_eq_true rfl), ?_⟩
  with_reducible refine' fun _ _ => th_ret ?_
  rotate_left
  with_reducible refine' fun _ => s_nil (th_next (s_one (s_ret (w_meth ?_))))
  refine' w_local rfl ?_
  with_reducible refine' me_RaftLog_slice ‹_› hr ?_
  refine' cm_one (kp_of ‹_› rfl) ?_
  with_reducible refine' w_es_cons (w_meth ?_)
  refine' w_local rfl ?_
  with_reducible refine' me_RaftLog_first_unapplied ‹_› hr ?_
  refine' cm_one (kp_of ‹_› rfl) ?_
  with_reducible refine' w_es_nil ?_
  refine' Fn.go (fn_first_unapplied ‹_› hat0 ?_) (Room.le ‹_› (by decide))
  with_reducible refine' w_es_cons (w_bin (att ?_))
  refine' w_local rfl ?_
  refine' gfG ‹_› hr rfl rfl rfl ?_
  with_reducible refine' w_int (b_add (w_es_cons (att ?_)))
  refine' w_local rfl ?_
  refine' gfG ‹_› hr rfl rfl rfl ?_
  with_reducible refine' w_es_nil ?_
  rotate_left
  · rename_i q n hn
    rw [e1, e2, Bool.true_and] at q
    have q' := of_decide_eq_false q
    have hn' : H n = none := hn
    refine h _ n [] (Hp.Le.set _ hn') hn' hs_self ?_
    rw [show (S.com - S.base).toNat = 0 by (first | lia | omega), List.take_zero]
    trivial
  · rename_i q
    rw [e1, e2, Bool.true_and] at q
    have q' := of_decide_eq_true q
    rw [e1]
    refine Fn.go (fn_slice hD hat0 hs0 ho hes hm (hi := S.com + 1) ⟨by (first | lia | omega), by (first | lia | omega)⟩ hb ?_) (Room.le ‹_› (by decide))
    intro H' n vs k1 k2 k3 k4
    skip
    rw [show (S.com + 1 - (S.base + 1)) = S.com - S.base by (first | lia | omega)] at k4
    exact h H' n vs k1 k2 k3 k4
end

end Rk
namespace Rk

theorem dis_tup {H : Hp} {n : Addr} {vs : List V} {ds : List Dt} (e : H n = some (.tup vs)) (k : DsIs H vs ds) : DIs H (.ref n) (.tup ds) := by unfold DIs; exact ⟨n, vs, rfl, e, k⟩
theorem dis_int {H : Hp} {i : Int} : DIs H (.int i) (.int i) := by simp [DIs]
theorem dis_bool {H : Hp} {i : Bool} : DIs H (.bool i) (.bool i) := by simp [DIs]
theorem dis_bytes {H : Hp} {i : Array UInt8} : DIs H (.bytes i) (.bytes i) := by simp [DIs]
theorem dis_none {H : Hp} : DIs H .none .none := by simp [DIs]
theorem ds_nil {H : Hp} : DsIs H [] [] := by simp [DsIs]
theorem ds_cons {H : Hp} {v : V} {vs : List V} {d : Dt} {ds : List Dt} (h : DIs H v d) (k : DsIs H vs ds) : DsIs H (v :: vs) (d :: ds) := by simp only [DsIs]; exact ⟨h, k⟩
theorem ds_ints {H : Hp} : ∀ {l : List Int}, DsIs H (l.map V.int) (l.map Dt.int)
  | [] => ds_nil
  | _ :: _ => ds_cons dis_int ds_ints
noncomputable def entD (i t : Int) : Dt := .tup [.int t, .int i, .int 0, .bytes #[]]
noncomputable def entsD : Int → List Int → List Dt
  | _, [] => []
  | i, t :: ts => entD i t :: entsD (i + 1) ts
noncomputable def ERow (H : Hp) : Int → List V → List Int → Prop
  | _, [], [] => True
  | i, v :: vs, t :: ts => (∃ a, v = .ref a ∧ H a = some (.tup [.int t, .int i, .int 0, .bytes #[]])) ∧ ERow H (i + 1) vs ts
  | _, _, _ => False
theorem ERow.length {H : Hp} : ∀ {i : Int} {vs : List V} {es : List Int}, ERow H i vs es → vs.length = es.length
  | _, [], [], _ => rfl
  | _, _ :: _, _ :: _, h => by rw [List.length_cons, List.length_cons, ERow.length h.2]
  | _, [], _ :: _, h => h.elim
  | _, _ :: _, [], h => h.elim
theorem ERow.tle {H H' : Hp} (l : H.TLe H') : ∀ {i : Int} {vs : List V} {es : List Int}, ERow H i vs es → ERow H' i vs es
  | _, [], [], _ => trivial
  | _, _ :: _, _ :: _, h => ⟨let ⟨a, e, q⟩ := h.1; ⟨a, e, l _ _ q⟩, ERow.tle l h.2⟩
  | _, [], _ :: _, h => h.elim
  | _, _ :: _, [], h => h.elim
theorem ERow.app {H : Hp} : ∀ {i : Int} {vs : List V} {es : List Int} {us : List V} {fs : List Int}, ERow H i vs es → ERow H (i + es.length) us fs → ERow H i (vs ++ us) (es ++ fs)
  | _, [], [], _, _, _, k => by simpa using k
  | i, v :: vs, e :: es, _, _, h, k => ⟨h.1, ERow.app h.2 (by rw [List.length_cons] at k; push_cast at k; rw [show i + 1 + (es.length : Int) = i + (es.length + 1) by (first | lia | omega)]; exact k)⟩
  | _, [], _ :: _, _, _, h, _ => h.elim
  | _, _ :: _, [], _, _, h, _ => h.elim
theorem ERow.ds {H : Hp} : ∀ {i : Int} {vs : List V} {es : List Int}, ERow H i vs es → DsIs H vs (entsD i es)
  | _, [], [], _ => ds_nil
  | _, _ :: _, _ :: _, h => ds_cons (let ⟨a, e, q⟩ := h.1; by subst e; exact dis_tup q (ds_cons dis_int (ds_cons dis_int (ds_cons dis_int (ds_cons dis_bytes ds_nil))))) (ERow.ds h.2)
  | _, [], _ :: _, h => h.elim
  | _, _ :: _, [], h => h.elim
structure CS where
  v : List Int
  l : List Int
  o : List Int
  n : List Int
  al : Bool
structure CfIs (H : Hp) (a : Addr) (cz : CS) : Prop where
  ex : ∃ a1 a2 a3 a4, H a = some (.inst 304 (ConfStateFs (.ref a1) (.ref a2) (.ref a3) (.ref a4) (.bool cz.al))) ∧ H a1 = some (.list (cz.v.map V.int)) ∧ H a2 = some (.list (cz.l.map V.int)) ∧ H a3 = some (.list (cz.o.map V.int)) ∧ H a4 = some (.list (cz.n.map V.int))
  z : cz.v.length ≤ 10 ∧ cz.l.length ≤ 10 ∧ cz.o.length ≤ 10 ∧ cz.n.length ≤ 10
theorem CfIs.le {H H' : Hp} {a : Addr} {cz : CS} (l : H.Le H') (h : CfIs H a cz) : CfIs H' a cz := by
  obtain ⟨⟨a1, a2, a3, a4, h0, h1, h2, h3, h4⟩, z⟩ := h
  exact ⟨⟨a1, a2, a3, a4, l _ _ h0, l _ _ h1, l _ _ h2, l _ _ h3, l _ _ h4⟩, z⟩
noncomputable def cfD (cz : CS) : Dt := .tup [.tup (cz.v.map Dt.int), .tup (cz.l.map Dt.int), .tup (cz.o.map Dt.int), .tup (cz.n.map Dt.int), .bool cz.al]
structure SnIs (H : Hp) (p : Addr × Int × Int) (cf : Addr) (cz : CS) (b : Array UInt8) : Prop where
  a : H p.1 = some (.inst 346 (SnapshotFs (.int p.2.1) (.int p.2.2) (.ref cf) (.bytes b)))
  c : CfIs H cf cz
theorem SnIs.le {H H' : Hp} {p : Addr × Int × Int} {cf : Addr} {cz : CS} {b : Array UInt8} (l : H.Le H') (h : SnIs H p cf cz b) : SnIs H' p cf cz b := ⟨l _ _ h.a, h.c.le l⟩
theorem SnIs.at_ {H : Hp} {p : Addr × Int × Int} {cf : Addr} {cz : CS} {b : Array UInt8} (h : SnIs H p cf cz b) : SnpAt H p := ⟨_, _, h.a⟩
noncomputable def snD (i t : Int) (cz : CS) (b : Array UInt8) : Dt := .tup [.int i, .int t, cfD cz, .bytes b]
section
variable {D : Wd} {d : Nat} {c : Cx} {E : Value → Shared → Prop} {σ : St} {K H H' : Hp} {u el r st xl a n b el' cf : Addr} {vs xs vs' : List V} {ts es' : List Int} {i t k lo hi off' com' app' x1 x2 x3 : Int} {Q : V → Hp → Prop} {Qs : V → St → Prop} {P : Addr → Hp → Prop} {S : LS} {o o' : MO} {y : V} {p : Addr × Int × Int} {m : Nat} {cz : CS} {bs : Array UInt8}
theorem fn_Entry_row (hD : IsD D) (ha : H a = some (.inst 213 (EntryFs (.int t) (.int i) (.int 0) (.bytes #[])))) (h : ∀ n, H n = none → Q (.ref n) (H.set n (.tup [.int t, .int i, .int 0, .bytes #[]]))) : Fn D 1 189 [.ref a] Q H := by
  refine fn_def (hK := by rw [hD.k]; k_is) (hcd := by rw [hD.k]; k_is) (ns := ["self"]) ?_ ?_ ?_ rfl rfl rfl ?_
  · exact fun _ => rfl
  · decide
  · decide
  intro c cD cn cs cc cr
  subst cD
  with_reducible refine' s_one (s_ret (w_tuple (w_es_cons (att ?_))))
  refine' w_local rfl ?_
  refine' gfG ‹_› ha rfl rfl rfl ?_
  with_reducible refine' w_es_cons (att ?_)
  refine' w_local rfl ?_
  refine' gfG ‹_› ha rfl rfl rfl ?_
  with_reducible refine' w_es_cons (att ?_)
  refine' w_local rfl ?_
  refine' gfG ‹_› ha rfl rfl rfl ?_
  with_reducible refine' w_es_cons (att ?_)
  refine' w_local rfl ?_
  refine' gfG ‹_› ha rfl rfl rfl ?_
  with_reducible refine' w_es_nil ?_
  refine' ⟨(Nat.le_of_ble_eq_true rfl), ?_⟩
  with_reducible refine' fun _ _ => ?_
  exact h _ ‹_›
theorem fn_Hard_row (hD : IsD D) (ha : H a = some (.inst 269 (HardStateFs (.int x1) (.int x2) (.int x3)))) (h : ∀ n, H n = none → Q (.ref n) (H.set n (.tup [.int x1, .int x2, .int x3]))) : Fn D 1 245 [.ref a] Q H := by
  refine fn_def (hK := by rw [hD.k]; k_is) (hcd := by rw [hD.k]; k_is) (ns := ["self"]) ?_ ?_ ?_ rfl rfl rfl ?_
  · exact fun _ => rfl
  · decide
  · decide
  intro c cD cn cs cc cr
  subst cD
  with_reducible refine' s_one (s_ret (w_tuple (w_es_cons (att ?_))))
  refine' w_local rfl ?_
  refine' gfG ‹_› ha rfl rfl rfl ?_
  with_reducible refine' w_es_cons (att ?_)
  refine' w_local rfl ?_
  refine' gfG ‹_› ha rfl rfl rfl ?_
  with_reducible refine' w_es_cons (att ?_)
  refine' w_local rfl ?_
  refine' gfG ‹_› ha rfl rfl rfl ?_
  with_reducible refine' w_es_nil ?_
  refine' ⟨(Nat.le_of_ble_eq_true rfl), ?_⟩
  with_reducible refine' fun _ _ => ?_
  exact h _ ‹_›
theorem fn_Conf_row (hD : IsD D) (hc : CfIs H a cz) (h : Hold (∀ H' n, H.Le H' → DIs H' (.ref n) (cfD cz) → Q (.ref n) H')) : Fn D 1 294 [.ref a] Q H := by
  refine fn_def (hK := by rw [hD.k]; k_is) (hcd := by rw [hD.k]; k_is) (ns := ["self"]) ?_ ?_ ?_ rfl rfl rfl ?_
  · exact fun _ => rfl
  · decide
  · decide
  intro c cD cn cs cc cr
  subst cD
  obtain ⟨⟨a1, a2, a3, a4, h0, h1, h2, h3, h4⟩, z⟩ := hc
  have z1 : (cz.v.map V.int).length ≤ 10 := by rw [List.length_map]; (first | lia | omega)
  have z2 : (cz.l.map V.int).length ≤ 10 := by rw [List.length_map]; (first | lia | omega)
  have z3 : (cz.o.map V.int).length ≤ 10 := by rw [List.length_map]; (first | lia | omega)
  have z4 : (cz.n.map V.int).length ≤ 10 := by rw [List.length_map]; (first | lia | omega)
  with_reducible refine' s_one (s_ret (w_tuple (w_es_cons (w_call ?_))))
  refine' gl_tuple ‹_› (kof ‹_› rfl) ?_
  refine' cv_raw rfl ?_
  with_reducible refine' w_es_cons (att ?_)
  refine' w_local rfl ?_
  refine' gfG ‹_› h0 rfl rfl rfl ?_
  with_reducible refine' w_es_nil ?_
  refine' f_tuple h1 (by simp only [List.length_append, List.length_cons, List.length_nil, List.length_map, List.length_set, List.length_take, List.length_drop, List.length_replicate]; exact (by lia)) ?_
  with_reducible refine' fun _ _ => w_es_cons (w_call ?_)
  refine' gl_tuple ‹_› (kof ‹_› rfl) ?_
  refine' cv_raw rfl ?_
  with_reducible refine' w_es_cons (att ?_)
  refine' w_local rfl ?_
  refine' gfG ‹_› (hg_new (by with_reducible assumption) h0) rfl rfl rfl ?_
  with_reducible refine' w_es_nil ?_
  refine' f_tuple (hg_new (by with_reducible assumption) h2) (by simp only [List.length_append, List.length_cons, List.length_nil, List.length_map, List.length_set, List.length_take, List.length_drop, List.length_replicate]; exact (by lia)) ?_
  with_reducible refine' fun _ _ => w_es_cons (w_call ?_)
  refine' gl_tuple ‹_› (kof ‹_› rfl) ?_
  refine' cv_raw rfl ?_
  with_reducible refine' w_es_cons (att ?_)
  refine' w_local rfl ?_
  refine' gfG ‹_› (hg_new (by with_reducible assumption) (hg_new (by with_reducible assumption) h0)) rfl rfl rfl ?_
  with_reducible refine' w_es_nil ?_
  refine' f_tuple (hg_new (by with_reducible assumption) (hg_new (by with_reducible assumption) h3)) (by simp only [List.length_append, List.length_cons, List.length_nil, List.length_map, List.length_set, List.length_take, List.length_drop, List.length_replicate]; exact (by lia)) ?_
  with_reducible refine' fun _ _ => w_es_cons (w_call ?_)
  refine' gl_tuple ‹_› (kof ‹_› rfl) ?_
  refine' cv_raw rfl ?_
  with_reducible refine' w_es_cons (att ?_)
  refine' w_local rfl ?_
  refine' gfG ‹_› (hg_new (by with_reducible assumption) (hg_new (by with_reducible assumption) (hg_new (by with_reducible assumption) h0))) rfl rfl rfl ?_
  with_reducible refine' w_es_nil ?_
  refine' f_tuple (hg_new (by with_reducible assumption) (hg_new (by with_reducible assumption) (hg_new (by with_reducible assumption) h4))) (by simp only [List.length_append, List.length_cons, List.length_nil, List.length_map, List.length_set, List.length_take, List.length_drop, List.length_replicate]; exact (by lia)) ?_
  with_reducible refine' fun _ _ => w_es_cons (att ?_)
  refine' w_local rfl ?_
  refine' gfG ‹_› (hg_new (by with_reducible assumption) (hg_new (by with_reducible assumption) (hg_new (by with_reducible assumption) (hg_new (by with_reducible assumption) h0)))) rfl rfl rfl ?_
  with_reducible refine' w_es_nil ?_
  refine' ⟨(Nat.le_of_ble_eq_true rfl), ?_⟩
  with_reducible refine' fun _ _ => ?_
  rename_i n1 g1 n2 g2 n3 g3 n4 g4 n5 g5
  have g1 : H n1 = none := g1
  have l1 := Hp.Le.set (o := .tup (cz.v.map V.int)) g1
  have l2 := Hp.Le.set (o := .tup (cz.l.map V.int)) g2
  have l3 := Hp.Le.set (o := .tup (cz.o.map V.int)) g3
  have l4 := Hp.Le.set (o := .tup (cz.n.map V.int)) g4
  refine h _ n5 ((((l1.trans l2).trans l3).trans l4).trans (Hp.Le.set _ g5)) (dis_tup hs_self ?_)
  exact ds_cons (dis_tup (hs_new g5 (hs_new g4 (hs_new g3 (hs_new g2 hs_self)))) ds_ints) (ds_cons (dis_tup (hs_new g5 (hs_new g4 (hs_new g3 hs_self))) ds_ints) (ds_cons (dis_tup (hs_new g5 (hs_new g4 hs_self)) ds_ints) (ds_cons (dis_tup (hs_new g5 hs_self) ds_ints) (ds_cons dis_bool ds_nil))))
theorem fn_Snap_row (hD : IsD D) (hs : SnIs H p cf cz bs) (h : Hold (∀ H' n, H.Le H' → DIs H' (.ref n) (snD p.2.1 p.2.2 cz bs) → Q (.ref n) H')) : Fn D 2 329 [.ref p.1] Q H := by
  refine fn_def (hK := by rw [hD.k]; k_is) (hcd := by rw [hD.k]; k_is) (ns := ["self"]) ?_ ?_ ?_ rfl rfl rfl ?_
  · exact fun _ => rfl
  · decide
  · decide
  intro c cD cn cs cc cr
  subst cD
  obtain ⟨h1, h2⟩ := hs
  have h3 := h2.ex
  obtain ⟨a1, a2, a3, a4, h0, _⟩ := h3
  with_reducible refine' s_one (s_ret (w_tuple (w_es_cons (att ?_))))
  refine' w_local rfl ?_
  refine' gfG ‹_› h1 rfl rfl rfl ?_
  with_reducible refine' w_es_cons (att ?_)
  refine' w_local rfl ?_
  refine' gfG ‹_› h1 rfl rfl rfl ?_
  with_reducible refine' w_es_cons (w_meth (att ?_))
  refine' w_local rfl ?_
  refine' gfG ‹_› h1 rfl rfl rfl ?_
  with_reducible refine' me_ConfState_row ‹_› h0 ?_
  refine' cm_one (kp_of ‹_› rfl) ?_
  with_reducible refine' w_es_nil ?_
  refine' Fn.go (fn_Conf_row ‹_› h2 ?_) (Room.le ‹_› (by decide))
  intro H1 n1 l1 d1
  have h1' := l1 _ _ h1
  with_reducible refine' w_es_cons (att ?_)
  refine' w_local rfl ?_
  refine' gfG ‹_› h1' rfl rfl rfl ?_
  with_reducible refine' w_es_nil ?_
  refine' ⟨(Nat.le_of_ble_eq_true rfl), ?_⟩
  with_reducible refine' fun _ _ => ?_
  rename_i n2 g2
  have g2 : H1 n2 = none := g2
  have l2 := Hp.Le.set (o := .tup [.int p.2.1, .int p.2.2, .ref n1, .bytes bs]) g2
  refine h _ n2 (l1.trans l2) (dis_tup hs_self (ds_cons dis_int (ds_cons dis_int (ds_cons (d1.le l2) (ds_cons dis_bytes ds_nil)))))
noncomputable def unD (S : LS) : Dt := .tup [.int S.off, .tup (entsD S.off S.es), .none]
theorem fn_Un_row (hD : IsD D) (hat : At K H r u st S) (hs0 : S.sn = none) (h : Hold (∀ H' n, H.Le H' → DIs H' (.ref n) (unD S) → Q (.ref n) H')) : Fn D 2 532 [.ref u] Q H := by
  refine fn_def (hK := by rw [hD.k]; k_is) (hcd := by rw [hD.k]; k_is) (ns := ["self"]) ?_ ?_ ?_ rfl rfl rfl ?_
  · exact fun _ => rfl
  · decide
  · decide
  intro c cD cn cs cc cr
  subst cD
  have atX := hat
  obtain ⟨⟨hle, hks, ⟨cf, sl, svs, hst, hsl, hsv⟩, ⟨sat, scf, sb, hsa⟩, hz1⟩, hkr, hku, hr, ⟨el, vs, hu, hel, hev⟩, hsn, hz2⟩ := atX
  have lsv := hsv.length
  have lev := hev.length
  rw [hs0] at hu; dsimp only [snv] at hu
  with_reducible refine' s_cons (s_assign (w_list (w_es_nil ?_)))
  refine' ⟨(Nat.le_of_ble_eq_true rfl), ?_⟩
  with_reducible refine' fun _ _ => ?_
  refine' st_local (lof ‹_› ⟨rfl, rfl⟩) ?_
  with_reducible refine' th_next (s_cons (s_for (att ?_)))
  refine' w_local rfl ?_
  refine' gfG ‹_› (hg_up (hg_new (by with_reducible assumption) hu)) rfl rfl rfl ?_
  with_reducible refine' it_list (hg_up (hg_new (by with_reducible assumption) hel)) (fun _ _ => itx ?_)
  rename_i rn hrn it hit
  have hrn' : H rn = none := hrn
  have hit' : (H.set rn (.list [])) it = none := hit
  have hit2 := none_set hit'
  have nri : rn ≠ it := fun q => by rw [q, ← q, Hp.set_self] at hit'; cases hit'
  refine loop_list (l := el) (vs := vs) (fun j σ => Nms σ.m [("self", .ref u), ("rows", .ref rn)] ∧ σ.H it = some (.li el j) ∧ H.Le σ.H ∧ ∃ ws, σ.H rn = some (.list ws) ∧ ERow σ.H S.off ws (S.es.take j)) ?_ ?_ ?_ (by with_unfolding_all rfl) (Nat.zero_le _) ⟨⟨rfl, rfl, trivial⟩, hs_self, (Hp.Le.set _ hrn').trans (Hp.Le.set _ hit'), [], hs_ne nri hs_self, by simp [ERow]⟩
  · rintro j σ ⟨_, h2, h3, _⟩
    exact ⟨h2, h3 _ _ hel⟩
  · rintro j v ⟨mm, H1⟩ lt hv ⟨⟨m1, m2, _⟩, h2, h3, ws, h4, h5⟩
    obtain ⟨x, a, q1, rfl, q2⟩ := hev.at hv
    have m2' : mm "rows" = some (.ref rn) := m2
    have l1 : H.Le (H1.set it (.li el (j + 1))) := Hp.Le.setN hit2 h3
    have q2' := l1 _ _ (hle _ _ q2)
    have k2 : (H1.set it (.li el (j + 1))) rn = some (.list ws) := hs_ne nri h4
    have k3 : (H1.set it (.li el (j + 1))) it = some (.li el (j + 1)) := hs_self
    have k5 : ERow (H1.set it (.li el (j + 1))) S.off ws (S.es.take j) := h5.tle (tle_set h2 fun _ q => by cases q)
    have lw := k5.length
    have lt2 : j < S.es.length := by (first | lia | omega)
    rw [List.length_take] at lw
    show c.Asg Nope _ _ _ ⟨mm, H1.set it (.li el (j + 1))⟩
    generalize H1.set it (.li el (j + 1)) = H2 at l1 q2' k2 k3 k5 ⊢
    with_reducible refine' as_name ?_
    refine' st_local (lof ‹_› ⟨rfl, rfl⟩) ?_
    with_reducible refine' s_one (s_ex (w_meth ?_))
    refine' w_local m2' ?_
    with_reducible refine' m_append k2 ?_
    refine' cm_one rfl ?_
    with_reducible refine' w_es_cons (w_meth ?_)
    refine' w_local rfl ?_
    with_reducible refine' me_Entry_row ‹_› q2' ?_
    refine' cm_one (kp_of ‹_› rfl) ?_
    with_reducible refine' w_es_nil ?_
    refine' Fn.go (fn_Entry_row ‹_› q2' ?_) (Room.le ‹_› (by decide))
    with_reducible refine' fun _ _ => w_es_nil ?_
    refine' c_append (hg_new (by with_reducible assumption) k2) (by lia) ?_
    refine' ⟨rfl, ?_⟩
    with_reducible refine' tu_next ?_
    rename_i n3 hn3
    have hn3' : H2 n3 = none := hn3
    have e3 : (H2.set n3 (.tup [.int x, .int (S.off + j), .int 0, .bytes #[]])) rn = some (.list ws) := hs_new hn3' k2
    refine ⟨⟨m1, m2', trivial⟩, hs_ne (Ne.symm nri) (hs_new hn3' k3), Hp.Le.setN hrn' (l1.trans (Hp.Le.set _ hn3')), ws ++ [.ref n3], hs_self, ?_⟩
    rw [show S.es.take (j + 1) = S.es.take j ++ [x] by rw [List.take_add_one, q1]; rfl]
    have t1 := tle_set (o' := .list (ws ++ [.ref n3])) e3 fun _ q => by cases q
    refine ERow.app ((k5.tle (Hp.Le.set _ hn3').t).tle t1) ?_
    refine ⟨⟨n3, rfl, t1 _ _ ?_⟩, trivial⟩
    rw [List.length_take, show min j S.es.length = j by (first | lia | omega)]
    exact hs_self
  · rintro ⟨mm, H1⟩ ⟨⟨m1, m2, _⟩, h2, h3, ws, h4, h5⟩
    have m1' : mm "self" = some (.ref u) := m1
    have m2' : mm "rows" = some (.ref rn) := m2
    rw [show S.es.take vs.length = S.es by rw [lev, List.take_length]] at h5
    have lw := h5.length
    have l2 : H.Le (H1.del it) := Hp.Le.del h3 hit2
    have k4 : (H1.del it) rn = some (.list ws) := hs_del nri h4
    have k5 : ERow (H1.del it) S.off ws S.es := h5.tle (tle_del h2 fun _ q => by cases q)
    have hu2 := l2 _ _ hu
    clear h4 h5 h2 h3
    show c.Ss Nope _ _ ⟨mm, H1.del it⟩
    generalize H1.del it = H2 at l2 k4 k5 hu2 ⊢
    with_reducible refine' s_cons (s_assign (w_none ?_))
    refine' st_local (lof ‹_› ⟨rfl, rfl⟩) ?_
    with_reducible refine' th_next (s_cons (s_if (t_cmp (att ?_))))
    refine' w_local m1' ?_
    refine' gfG ‹_› hu2 rfl rfl rfl ?_
    with_reducible refine' w_none (c_isnt (tr_bool ?_))
    refine' br_F rfl ?_
    with_reducible refine' s_nil (th_next (s_one (s_ret (w_tuple (w_es_cons (att ?_))))))
    refine' w_local m1' ?_
    refine' gfG ‹_› hu2 rfl rfl rfl ?_
    with_reducible refine' w_es_cons (w_call ?_)
    refine' gl_tuple ‹_› (kof ‹_› rfl) ?_
    refine' cv_raw rfl ?_
    with_reducible refine' w_es_cons ?_
    refine' w_local m2' ?_
    with_reducible refine' w_es_nil ?_
    refine' f_tuple k4 (by lia) ?_
    with_reducible refine' fun _ _ => w_es_cons ?_
    refine' w_local rfl ?_
    with_reducible refine' w_es_nil ?_
    refine' ⟨(Nat.le_of_ble_eq_true rfl), ?_⟩
    with_reducible refine' fun _ _ => ?_
    rename_i n1 g1 n2 g2
    have g1 : H2 n1 = none := g1
    have l3 := (Hp.Le.set (o := .tup ws) g1).trans (Hp.Le.set (o := .tup [.int S.off, .ref n1, .none]) g2)
    exact h _ n2 (l2.trans l3) (dis_tup hs_self (ds_cons dis_int (ds_cons (dis_tup (hs_new g2 hs_self) (k5.tle l3.t).ds) (ds_cons dis_none ds_nil))))
noncomputable def loD (S : LS) : Dt := .tup [.int S.com, .int S.app, unD S]
theorem fn_Log_row (hD : IsD D) (hat : At K H r u st S) (hs0 : S.sn = none) (h : Hold (∀ H' n, H.Le H' → DIs H' (.ref n) (loD S) → Q (.ref n) H')) : Fn D 3 742 [.ref r] Q H := by
  refine fn_def (hK := by rw [hD.k]; k_is) (hcd := by rw [hD.k]; k_is) (ns := ["self"]) ?_ ?_ ?_ rfl rfl rfl ?_
  · exact fun _ => rfl
  · decide
  · decide
  intro c cD cn cs cc cr
  subst cD
  have atX := hat
  obtain ⟨⟨hle, hks, ⟨cf, sl, svs, hst, hsl, hsv⟩, ⟨sat, scf, sb, hsa⟩, hz1⟩, hkr, hku, hr, ⟨el, vs, hu, hel, hev⟩, hsn, hz2⟩ := atX
  have lsv := hsv.length
  have lev := hev.length
  with_reducible refine' s_one (s_ret (w_tuple (w_es_cons (att ?_))))
  refine' w_local rfl ?_
  refine' gfG ‹_› hr rfl rfl rfl ?_
  with_reducible refine' w_es_cons (att ?_)
  refine' w_local rfl ?_
  refine' gfG ‹_› hr rfl rfl rfl ?_
  with_reducible refine' w_es_cons (w_meth (att ?_))
  refine' w_local rfl ?_
  refine' gfG ‹_› hr rfl rfl rfl ?_
  with_reducible refine' me_Unstable_row ‹_› hu ?_
  refine' cm_one (kp_of ‹_› rfl) ?_
  with_reducible refine' w_es_nil ?_
  refine' Fn.go (fn_Un_row ‹_› hat hs0 ?_) (Room.le ‹_› (by decide))
  intro H1 n1 l1 d1
  have hr2 := l1 _ _ hr
  with_reducible refine' w_es_nil ?_
  refine' ⟨(Nat.le_of_ble_eq_true rfl), ?_⟩
  with_reducible refine' fun _ _ => ?_
  rename_i n2 g2
  have g2 : H1 n2 = none := g2
  have l2 := Hp.Le.set (o := .tup [.int S.com, .int S.app, .ref n1]) g2
  exact h _ n2 (l1.trans l2) (dis_tup hs_self (ds_cons dis_int (ds_cons dis_int (ds_cons (d1.le l2) ds_nil))))
end

end Rk
namespace Rk

noncomputable def Ch1 (H H' : Hp) (a : Addr) : Prop := ∀ b o, H b = some o → b ≠ a → H' b = some o
section
variable {D : Wd} {d : Nat} {o o' : MO} {c : Cx} {E : Value → Shared → Prop} {σ : St} {H H' K K' : Hp} {w a b n x xl hl ml ol r u st cf el : Addr} {m j p q : Nat} {t i k com bg : Int} {Q : V → Hp → Prop} {Qs : V → St → Prop} {vs us : List V} {v0 v1 v2 v3 v4 : V} {cz : CS} {ns n1s n2s n3s n4s : List Int} {S : LS} {mm : Str → Option V} {al : Bool}
theorem Ch1.new {o : MO} (hn : H n = none) (k : Ch1 (H.set n o) H' n) : H.Le H' := fun b x e => k b x (hs_new hn e) fun q => by rw [q, hn] at e; cases e
theorem Ch1.le (l : H.Le H') : Ch1 H H' a := fun b o e _ => l _ _ e
theorem Ch1.set {o : MO} (k : Ch1 H H' a) : Ch1 H (H'.set a o) a := fun b x e n => hs_ne n (k b x e n)
theorem Ch1.add {o : MO} (k : Ch1 H H' a) (hn : H' n = none) : Ch1 H (H'.set n o) a := fun b x e m => hs_new hn (k b x e m)
theorem Ch1.refl : Ch1 H H a := fun _ _ e _ => e
theorem Ch1.trans {H'' : Hp} (k : Ch1 H H' a) (l : H'.Le H'') : Ch1 H H'' a := fun b x e m => l _ _ (k b x e m)
theorem Ch1.non (k : Ch1 H H' a) (e : H a = some o) (e' : H' a = some o') (hn : H' n = none) : H n = none := by
  cases q : H n with
  | none => rfl
  | some x =>
    by_cases z : n = a
    · rw [z, e'] at hn; cases hn
    · rw [k n x q z] at hn; cases hn
theorem del_set {H : Hp} {a : Addr} {o : MO} (h : H a = none) : (H.set a o).del a = H := by
  funext y; simp only [Hp.set, Hp.del]; by_cases z : y = a
  · subst z; simp [h]
  · simp [z]
theorem fn_Entry (hD : IsD D) (ha : H a = some (.inst 213 [])) (h : Q .none (H.set a (.inst 213 (EntryFs v0 v1 v2 v3)))) : Fn D 1 182 [.ref a, v0, v1, v2, v3] Q H := by
  refine fn_def (hK := by rw [hD.k]; k_is) (hcd := by rw [hD.k]; k_is) (ns := ["self", "term", "index", "kind", "data"]) ?_ ?_ ?_ rfl rfl rfl ?_
  · exact fun _ _ _ _ _ => rfl
  · decide
  · decide
  intro c cD cn cs cc cr
  subst cD
  with_reducible refine' s_cons (s_assignA ?_)
  refine' w_local rfl ?_
  refine' w_local rfl ?_
  with_reducible refine' pi_Entry_term ‹_› ha (th_next (s_cons (s_assignA ?_)))
  refine' w_local rfl ?_
  refine' w_local rfl ?_
  with_reducible refine' pi_Entry_index ‹_› hg_self (th_next (s_cons (s_assignA ?_)))
  refine' w_local rfl ?_
  refine' w_local rfl ?_
  with_reducible refine' pi_Entry_kind ‹_› hg_self (th_next (s_one (s_assignA ?_)))
  refine' w_local rfl ?_
  refine' w_local rfl ?_
  with_reducible refine' pi_Entry_data ‹_› hg_self ?_
  simp only [set_set]
  exact h
theorem fn_HardState (hD : IsD D) (ha : H a = some (.inst 269 [])) (h : Q .none (H.set a (.inst 269 (HardStateFs v0 v1 v2)))) : Fn D 1 238 [.ref a, v0, v1, v2] Q H := by
  refine fn_def (hK := by rw [hD.k]; k_is) (hcd := by rw [hD.k]; k_is) (ns := ["self", "term", "vote", "commit"]) ?_ ?_ ?_ rfl rfl rfl ?_
  · exact fun _ _ _ _ => rfl
  · decide
  · decide
  intro c cD cn cs cc cr
  subst cD
  with_reducible refine' s_cons (s_assignA ?_)
  refine' w_local rfl ?_
  refine' w_local rfl ?_
  with_reducible refine' pi_HardState_term ‹_› ha (th_next (s_cons (s_assignA ?_)))
  refine' w_local rfl ?_
  refine' w_local rfl ?_
  with_reducible refine' pi_HardState_vote ‹_› hg_self (th_next (s_one (s_assignA ?_)))
  refine' w_local rfl ?_
  refine' w_local rfl ?_
  with_reducible refine' pi_HardState_commit ‹_› hg_self ?_
  simp only [set_set]
  exact h
theorem fn_Snapshot (hD : IsD D) (ha : H a = some (.inst 346 [])) (h : Q .none (H.set a (.inst 346 (SnapshotFs v0 v1 v2 v3)))) : Fn D 1 322 [.ref a, v0, v1, v2, v3] Q H := by
  refine fn_def (hK := by rw [hD.k]; k_is) (hcd := by rw [hD.k]; k_is) (ns := ["self", "index", "term", "conf", "data"]) ?_ ?_ ?_ rfl rfl rfl ?_
  · exact fun _ _ _ _ _ => rfl
  · decide
  · decide
  intro c cD cn cs cc cr
  subst cD
  with_reducible refine' s_cons (s_assignA ?_)
  refine' w_local rfl ?_
  refine' w_local rfl ?_
  with_reducible refine' pi_Snapshot_index ‹_› ha (th_next (s_cons (s_assignA ?_)))
  refine' w_local rfl ?_
  refine' w_local rfl ?_
  with_reducible refine' pi_Snapshot_term ‹_› hg_self (th_next (s_cons (s_assignA ?_)))
  refine' w_local rfl ?_
  refine' w_local rfl ?_
  with_reducible refine' pi_Snapshot_conf ‹_› hg_self (th_next (s_one (s_assignA ?_)))
  refine' w_local rfl ?_
  refine' w_local rfl ?_
  with_reducible refine' pi_Snapshot_data ‹_› hg_self ?_
  simp only [set_set]
  exact h
theorem fn_Unstable (hD : IsD D) (ha : H a = some (.inst 535 [])) (h : Hold (∀ H' el, Ch1 H H' a → H el = none → H' a = some (.inst 535 (UnstableFs .none (.ref el) (.int i))) → H' el = some (.list []) → Q .none H')) : Fn D 1 469 [.ref a, .int i] Q H := by
  refine fn_def (hK := by rw [hD.k]; k_is) (hcd := by rw [hD.k]; k_is) (ns := ["self", "offset"]) ?_ ?_ ?_ rfl rfl rfl ?_
  · exact fun _ _ => rfl
  · decide
  · decide
  intro c cD cn cs cc cr
  subst cD
  with_reducible refine' s_cons (s_assignA (w_none ?_))
  refine' w_local rfl ?_
  with_reducible refine' pi_Unstable_snapshot ‹_› ha (th_next (s_cons (s_assignA (w_list (w_es_nil ?_)))))
  refine' ⟨(Nat.le_of_ble_eq_true rfl), ?_⟩
  with_reducible refine' fun _ _ => ?_
  refine' w_local rfl ?_
  with_reducible refine' pi_Unstable_entries ‹_› (hg_new (by with_reducible assumption) hg_self) (th_next (s_one (s_assignA ?_)))
  refine' w_local rfl ?_
  refine' w_local rfl ?_
  with_reducible refine' pi_Unstable_offset ‹_› hg_self ?_
  rename_i n hn
  have hn2 : (H.set a (.inst 535 [("snapshot", .none)])) n = none := hn
  have na : n ≠ a := fun q => by rw [q, Hp.set_self] at hn2; cases hn2
  exact h _ n ((Ch1.refl.set).add hn2 |>.set |>.set) (none_set hn2) hs_self (hs_ne na (hs_ne na hs_self))
theorem nwc_Entry (hD : IsD c.D) (r : c.Room 2) (h : ∀ n, H n = none → Qs (.ref n) ⟨mm, H.set n (.inst 213 (EntryFs v0 v1 v2 v3))⟩) : c.Call E (.ref 213) [v0, v1, v2, v3] Qs ⟨mm, H⟩ :=
  nw_Entry hD (d := 1) r fun n hn => fn_Entry hD hs_self (by rw [set_set]; exact ⟨rfl, h n hn⟩)
theorem nwc_HardState (hD : IsD c.D) (r : c.Room 2) (h : ∀ n, H n = none → Qs (.ref n) ⟨mm, H.set n (.inst 269 (HardStateFs v0 v1 v2))⟩) : c.Call E (.ref 269) [v0, v1, v2] Qs ⟨mm, H⟩ :=
  nw_HardState hD (d := 1) r fun n hn => fn_HardState hD hs_self (by rw [set_set]; exact ⟨rfl, h n hn⟩)
theorem nwc_Snapshot (hD : IsD c.D) (r : c.Room 2) (h : ∀ n, H n = none → Qs (.ref n) ⟨mm, H.set n (.inst 346 (SnapshotFs v0 v1 v2 v3))⟩) : c.Call E (.ref 346) [v0, v1, v2, v3] Qs ⟨mm, H⟩ :=
  nw_Snapshot hD (d := 1) r fun n hn => fn_Snapshot hD hs_self (by rw [set_set]; exact ⟨rfl, h n hn⟩)
theorem nwc_Unstable (hD : IsD c.D) (r : c.Room 2) (h : Hold (∀ H' n el, H.Le H' → H n = none → H el = none → H' n = some (.inst 535 (UnstableFs .none (.ref el) (.int i))) → H' el = some (.list []) → Qs (.ref n) ⟨mm, H'⟩)) : c.Call E (.ref 535) [.int i] Qs ⟨mm, H⟩ :=
  nw_Unstable hD (d := 1) r fun n hn => fn_Unstable hD hs_self fun H' el k hel e1 e2 => ⟨rfl, h H' n el (k.new hn) hn (none_set hel) e1 e2⟩
theorem perm_sorted : ∀ {l l' : List Int}, l.Perm l' → l.Pairwise (· ≤ ·) → l'.Pairwise (· < ·) → l = l' := by
  intro l l' p h k
  exact p.eq_of_pairwise (fun a b _ _ h1 h2 => Int.le_antisymm h1 h2) h (k.imp fun h => Int.le_of_lt h)
theorem fn_rising (hD : IsD D) (hx : H xl = some (.list (ns.map V.int))) (hs : ns.Pairwise (· < ·)) (hz : ns.length ≤ 10) (h : Hold (∀ H' n, H.Le H' → H n = none → H' n = some (.list (ns.map V.int)) → Q (.ref n) H')) : Fn D 2 168 [.ref xl] Q H := by
  refine fn_def (hK := by rw [hD.k]; k_is) (hcd := by rw [hD.k]; k_is) (ns := ["ids"]) ?_ ?_ ?_ rfl rfl rfl ?_
  · exact fun _ => rfl
  · decide
  · decide
  intro c cD cn cs cc cr
  subst cD
  with_reducible refine' s_cons (s_assign (w_list (w_es_nil ?_)))
  refine' ⟨(Nat.le_of_ble_eq_true rfl), ?_⟩
  with_reducible refine' fun _ _ => ?_
  refine' st_local (lof ‹_› ⟨rfl, rfl⟩) ?_
  with_reducible refine' th_next (s_cons (s_for (w_call ?_)))
  refine' gl_sorted ‹_› (kof ‹_› rfl) ?_
  refine' cv_raw rfl ?_
  with_reducible refine' w_es_cons ?_
  refine' w_local rfl ?_
  with_reducible refine' w_es_nil ?_
  rename_i n1 hn1
  have hn1' : H n1 = none := hn1
  have hx1 : (H.set n1 (.list [])) xl = some (.list (ns.map V.int)) := hs_new hn1' hx
  refine f_sorted (ns := ns) hx1 (by (first | lia | omega)) fun n2 ns' hn2 pm so => ?_
  obtain rfl := perm_sorted pm so hs
  have hn2' : (H.set n1 (.list [])) n2 = none := hn2
  show c.Itr _ _ _ (St.set _ n2 (.list (ns'.map V.int)))
  with_reducible refine' it_list hg_self (fun _ _ => itx ?_)
  rename_i it hit
  have hit' : ((H.set n1 (.list [])).set n2 (.list (ns'.map V.int))) it = none := hit
  have hit0 : H it = none := none_set (none_set hit')
  have n1a : ((H.set n1 (.list [])).set n2 (.list (ns'.map V.int))) n1 = some (.list []) := hs_new hn2' hs_self
  have n12 : n1 ≠ it := Ne.symm (ne_of hit' n1a)
  have n2a : ((H.set n1 (.list [])).set n2 (.list (ns'.map V.int))) n2 = some (.list (ns'.map V.int)) := hs_self
  have l2 : H.Le ((H.set n1 (.list [])).set n2 (.list (ns'.map V.int))) := (Hp.Le.set _ hn1').trans (Hp.Le.set _ hn2')
  have nn12 : n2 ≠ n1 := fun q => by rw [q, Hp.set_self] at hn2'; cases hn2'
  refine loop_list (l := n2) (vs := ns'.map V.int) (fun j σ => σ.m "out" = some (.ref n1) ∧ σ.H it = some (.li n2 j) ∧ H.Le σ.H ∧ σ.H n2 = some (.list (ns'.map V.int)) ∧ σ.H n1 = some (.list ((ns'.take j).map V.int))) ?_ ?_ ?_ (by with_unfolding_all rfl) (Nat.zero_le _) ⟨rfl, hs_self, l2.trans (Hp.Le.set _ hit'), hs_new hit' n2a, hs_new hit' n1a⟩
  · rintro j σ ⟨_, h2, _, h4, _⟩
    exact ⟨h2, h4⟩
  · rintro j v ⟨mm, H1⟩ lt hv ⟨m1, h2, h3, h4, h5⟩
    have m1' : mm "out" = some (.ref n1) := m1
    rw [List.getElem?_map] at hv
    obtain ⟨z, hz', rfl⟩ := Option.map_eq_some_iff.mp hv
    have lj : j < ns'.length := by rw [List.length_map] at lt; exact lt
    have l3 : H.Le (H1.set it (.li n2 (j + 1))) := Hp.Le.setN hit0 h3
    have n2it : n2 ≠ it := Ne.symm (ne_of hit' n2a)
    have k1 : (H1.set it (.li n2 (j + 1))) n1 = some (.list ((ns'.take j).map V.int)) := hs_ne n12 h5
    have k2 : (H1.set it (.li n2 (j + 1))) n2 = some (.list (ns'.map V.int)) := hs_ne n2it h4
    have k3 : (H1.set it (.li n2 (j + 1))) it = some (.li n2 (j + 1)) := hs_self
    have tk : (ns'.take (j + 1)).map V.int = (ns'.take j).map V.int ++ [.int z] := by
      rw [List.take_add_one, hz', List.map_append]; rfl
    have lk : ((ns'.take j).map V.int).length = j := by rw [List.length_map, List.length_take]; (first | lia | omega)
    show c.Asg Nope _ _ _ ⟨mm, H1.set it (.li n2 (j + 1))⟩
    generalize H1.set it (.li n2 (j + 1)) = H2 at l3 k1 k2 k3 ⊢
    have fin : (σ : St) → σ.m = (fun y => if y = ("nid" : Str) then some (V.int z) else mm y) → σ.H = H2.set n1 (.list ((ns'.take j).map V.int ++ [.int z])) → σ.m "out" = some (.ref n1) ∧ σ.H it = some (.li n2 (j + 1)) ∧ H.Le σ.H ∧ σ.H n2 = some (.list (ns'.map V.int)) ∧ σ.H n1 = some (.list ((ns'.take (j + 1)).map V.int)) := by
      intro σ e1 e2
      rw [e1, e2, tk]
      exact ⟨m1', hs_ne (Ne.symm n12) k3, Hp.Le.setN hn1' l3, hs_ne nn12 k2, hs_self⟩
    by_cases z0 : j = 0
    · subst z0
      have e0 : (ns'.take 0).map V.int = [] := rfl
      rw [e0] at k1 fin
      with_reducible refine' as_name ?_
      refine' st_local (lof ‹_› ⟨rfl, rfl⟩) ?_
      with_reducible refine' s_one (s_if (t_bool (a_or (t_not (t_val ?_)))))
      refine' w_local m1' ?_
      refine' tr_list k1 (by decide) ?_
      refine' br_T rfl ?_
      with_reducible refine' br_t (s_one (s_ex (w_meth ?_)))
      refine' w_local m1' ?_
      with_reducible refine' m_append k1 ?_
      refine' cm_one rfl ?_
      with_reducible refine' w_es_cons ?_
      refine' w_local rfl ?_
      with_reducible refine' w_es_nil ?_
      refine' c_append k1 (by decide) ?_
      refine' ⟨rfl, ?_⟩
      with_reducible refine' tu_next ?_
      exact fin _ rfl rfl
    · have ge : (ns'.take j)[j - 1]? = ns'[j - 1]? := by rw [List.getElem?_take_of_lt (by (first | lia | omega))]
      obtain ⟨y, hy⟩ : ∃ y, ns'[j - 1]? = some y := ⟨_, List.getElem?_eq_getElem (by (first | lia | omega))⟩
      have lty : y < z := by
        have q1 := List.getElem?_eq_some_iff.mp hy
        have q2 := List.getElem?_eq_some_iff.mp hz'
        obtain ⟨b1, rfl⟩ := q1
        obtain ⟨b2, rfl⟩ := q2
        exact List.pairwise_iff_getElem.mp hs (j - 1) j b1 b2 (by (first | lia | omega))
      have g1 : ((ns'.take j).map V.int)[((-1 : Int) + ((ns'.take j).map V.int).length).toNat]? = some (.int y) := by
        rw [lk, show ((-1 : Int) + (j : Int)).toNat = j - 1 by (first | lia | omega), List.getElem?_map, ge, hy]; rfl
      have ne0 : (!((ns'.take j).map V.int).isEmpty) = true := by
        cases q : (ns'.take j).map V.int with
        | nil => rw [q] at lk; exact absurd lk.symm z0
        | cons => rfl
      with_reducible refine' as_name ?_
      refine' st_local (lof ‹_› ⟨rfl, rfl⟩) ?_
      with_reducible refine' s_one (s_if (t_bool (a_or (t_not (t_val ?_)))))
      refine' w_local m1' ?_
      refine' tr_list k1 (by simp only [List.length_append, List.length_cons, List.length_nil, List.length_map, List.length_set, List.length_take, List.length_drop, List.length_replicate]; exact (by lia)) ?_
      with_reducible refine' br_nb ?_ ?_
      with_reducible refine' fun _ => br_t (s_one (s_ex (w_meth ?_)))
      refine' w_local m1' ?_
      with_reducible refine' m_append k1 ?_
      refine' cm_one rfl ?_
      with_reducible refine' w_es_cons ?_
      refine' w_local rfl ?_
      with_reducible refine' w_es_nil ?_
      refine' c_append k1 (by simp only [List.length_append, List.length_cons, List.length_nil, List.length_map, List.length_set, List.length_take, List.length_drop, List.length_replicate]; exact (by lia)) ?_
      refine' ⟨rfl, ?_⟩
      with_reducible refine' tu_next ?_
      rotate_left
      with_reducible refine' fun _ => a_or (t_cmp (w_sub ?_))
      refine' w_local m1' ?_
      with_reducible refine' w_una (w_int (n_neg ?_))
      refine' i_listN k1 (by decide) (by lia) (by decide) g1 ?_
      refine' w_local rfl ?_
      with_reducible refine' c_ne (tr_bool (br_ne ?_ ?_))
      with_reducible refine' fun _ => br_t (s_one (s_ex (w_meth ?_)))
      refine' w_local m1' ?_
      with_reducible refine' m_append k1 ?_
      refine' cm_one rfl ?_
      with_reducible refine' w_es_cons ?_
      refine' w_local rfl ?_
      with_reducible refine' w_es_nil ?_
      refine' c_append k1 (by simp only [List.length_append, List.length_cons, List.length_nil, List.length_map, List.length_set, List.length_take, List.length_drop, List.length_replicate]; exact (by lia)) ?_
      refine' ⟨rfl, ?_⟩
      with_reducible refine' tu_next ?_
      rotate_left
      with_reducible refine' fun _ => ?_
      exact False.elim (by lia)
      all_goals first | exact fin _ rfl rfl | (rename_i hq; rw [hq] at ne0; cases ne0) | skip
  · rintro ⟨mm, H3⟩ ⟨m1, h2, h3, h4, h5⟩
    have m1' : mm "out" = some (.ref n1) := m1
    rw [List.length_map, List.take_length] at h5
    with_reducible refine' th_next (s_one (s_ret ?_))
    refine' w_local m1' ?_
    exact h _ n1 (Hp.Le.del h3 hit0) hn1' (hs_del n12 h5)
end

end Rk
namespace Rk

section
variable {D : Wd} {d : Nat} {o o' : MO} {c : Cx} {E : Value → Shared → Prop} {σ : St} {H H' K K' : Hp} {w a b n x xl hl ml ol r u st cf el : Addr} {m j p q : Nat} {t i k com bg x1 x2 x3 : Int} {Q : V → Hp → Prop} {Qs : V → St → Prop} {vs us : List V} {v0 v1 v2 v3 v4 : V} {cz : CS} {ns n1s n2s n3s n4s : List Int} {S : LS} {mm : Str → Option V} {al : Bool} {bs : Array UInt8}
structure CS.Ok (cz : CS) : Prop where
  s1 : cz.v.Pairwise (· < ·)
  s2 : cz.l.Pairwise (· < ·)
  s3 : cz.o.Pairwise (· < ·)
  s4 : cz.n.Pairwise (· < ·)
  z : cz.v.length ≤ 10 ∧ cz.l.length ≤ 10 ∧ cz.o.length ≤ 10 ∧ cz.n.length ≤ 10
theorem fn_ConfState (hD : IsD D) (hz : cz.Ok) (ha : H a = some (.inst 304 [])) (h1 : H hl = some (.list (cz.v.map V.int))) (h2 : H ml = some (.list (cz.l.map V.int))) (h3 : H ol = some (.list (cz.o.map V.int))) (h4 : H xl = some (.list (cz.n.map V.int)))
    (h : Hold (∀ H', Ch1 H H' a → CfIs H' a cz → Q .none H')) : Fn D 3 287 [.ref a, .ref hl, .ref ml, .ref ol, .ref xl, .bool cz.al] Q H := by
  refine fn_def (hK := by rw [hD.k]; k_is) (hcd := by rw [hD.k]; k_is) (ns := ["self", "voters", "learners", "outgoing", "learners_next", "auto_leave"]) ?_ ?_ ?_ rfl rfl rfl ?_
  · exact fun _ _ _ _ _ _ => rfl
  · decide
  · decide
  intro c cD cn cs cc cr
  subst cD
  obtain ⟨s1, s2, s3, s4, zz⟩ := hz
  have ne : ∀ {x : Addr} {H₂ : Hp} {fs : List (Str × V)} {us : List V}, H₂ a = some (.inst 304 fs) → H₂ x = some (.list us) → x ≠ a := fun e1 e2 q => by rw [q, e1] at e2; cases e2
  with_reducible refine' s_cons (s_assignA (w_call ?_))
  refine' gl_rising ‹_› (kof ‹_› rfl) ?_
  refine' cv_ref (kp_of ‹_› rfl) ?_
  with_reducible refine' w_es_cons ?_
  refine' w_local rfl ?_
  with_reducible refine' w_es_nil ?_
  refine Fn.go (fn_rising hD h1 s1 (by (first | lia | omega)) ?_) (Room.le ‹_› (by decide))
  intro H1 x0 l1 n0 e0
  have ha1 := l1 _ _ ha
  have h21 := l1 _ _ h2
  have h31 := l1 _ _ h3
  have h41 := l1 _ _ h4
  have h22 := hs_ne (o := .inst 304 [("voters", .ref x0)]) (ne ha1 h21) h21
  refine' w_local rfl ?_
  with_reducible refine' pi_ConfState_voters ‹_› ha1 (th_next (s_cons (s_assignA (w_call ?_))))
  refine' gl_rising ‹_› (kof ‹_› rfl) ?_
  refine' cv_ref (kp_of ‹_› rfl) ?_
  with_reducible refine' w_es_cons ?_
  refine' w_local rfl ?_
  with_reducible refine' w_es_nil ?_
  refine Fn.go (fn_rising hD h22 s2 (by (first | lia | omega)) ?_) (Room.le ‹_› (by decide))
  intro H2 x1 l2 n1 e1
  have ha2 := l2 _ _ (hs_self (H := H1) (a := a) (o := .inst 304 [("voters", .ref x0)]))
  have e02 := l2 _ _ (hs_ne (ne ha1 e0) e0)
  have h32 := l2 _ _ (hs_ne (ne ha1 h31) h31)
  have h42 := l2 _ _ (hs_ne (ne ha1 h41) h41)
  have k2 : Ch1 H H2 a := ((Ch1.le l1).set).trans l2
  have h33 := hs_ne (o := .inst 304 [("voters", .ref x0), ("learners", .ref x1)]) (ne ha2 h32) h32
  refine' w_local rfl ?_
  with_reducible refine' pi_ConfState_learners ‹_› ha2 (th_next (s_cons (s_assignA (w_call ?_))))
  refine' gl_rising ‹_› (kof ‹_› rfl) ?_
  refine' cv_ref (kp_of ‹_› rfl) ?_
  with_reducible refine' w_es_cons ?_
  refine' w_local rfl ?_
  with_reducible refine' w_es_nil ?_
  refine Fn.go (fn_rising hD h33 s3 (by (first | lia | omega)) ?_) (Room.le ‹_› (by decide))
  intro H3 x2 l3 n2 e2
  have ha3 := l3 _ _ (hs_self (H := H2) (a := a) (o := .inst 304 [("voters", .ref x0), ("learners", .ref x1)]))
  have e03 := l3 _ _ (hs_ne (ne ha2 e02) e02)
  have e13 := l3 _ _ (hs_ne (ne ha2 e1) e1)
  have h43 := l3 _ _ (hs_ne (ne ha2 h42) h42)
  have k3 : Ch1 H H3 a := (k2.set).trans l3
  have h44 := hs_ne (o := .inst 304 [("voters", .ref x0), ("learners", .ref x1), ("outgoing", .ref x2)]) (ne ha3 h43) h43
  refine' w_local rfl ?_
  with_reducible refine' pi_ConfState_outgoing ‹_› ha3 (th_next (s_cons (s_assignA (w_call ?_))))
  refine' gl_rising ‹_› (kof ‹_› rfl) ?_
  refine' cv_ref (kp_of ‹_› rfl) ?_
  with_reducible refine' w_es_cons ?_
  refine' w_local rfl ?_
  with_reducible refine' w_es_nil ?_
  refine Fn.go (fn_rising hD h44 s4 (by (first | lia | omega)) ?_) (Room.le ‹_› (by decide))
  intro H4 x3 l4 n3 e3
  have ha4 := l4 _ _ (hs_self (H := H3) (a := a) (o := .inst 304 [("voters", .ref x0), ("learners", .ref x1), ("outgoing", .ref x2)]))
  have e04 := l4 _ _ (hs_ne (ne ha3 e03) e03)
  have e14 := l4 _ _ (hs_ne (ne ha3 e13) e13)
  have e24 := l4 _ _ (hs_ne (ne ha3 e2) e2)
  have k4 : Ch1 H H4 a := (k3.set).trans l4
  refine' w_local rfl ?_
  with_reducible refine' pi_ConfState_learners_next ‹_› ha4 (th_next (s_one (s_assignA ?_)))
  refine' w_local rfl ?_
  refine' w_local rfl ?_
  with_reducible refine' pi_ConfState_auto_leave ‹_› hg_self ?_
  simp only [set_set]
  exact h _ k4.set ⟨⟨x0, x1, x2, x3, hs_self, hs_ne (ne ha4 e04) e04, hs_ne (ne ha4 e14) e14, hs_ne (ne ha4 e24) e24, hs_ne (ne ha4 e3) e3⟩, zz⟩
theorem nwc_ConfState (hD : IsD c.D) (hz : cz.Ok) (r : c.Room 4) (h1 : H hl = some (.list (cz.v.map V.int))) (h2 : H ml = some (.list (cz.l.map V.int))) (h3 : H ol = some (.list (cz.o.map V.int))) (h4 : H xl = some (.list (cz.n.map V.int)))
    (h : Hold (∀ H' n, H.Le H' → H n = none → CfIs H' n cz → Qs (.ref n) ⟨mm, H'⟩)) : c.Call E (.ref 304) [.ref hl, .ref ml, .ref ol, .ref xl, .bool cz.al] Qs ⟨mm, H⟩ :=
  nw_ConfState hD (d := 3) r fun n hn => fn_ConfState hD hz hs_self (hs_new hn h1) (hs_new hn h2) (hs_new hn h3) (hs_new hn h4) fun H' k e0 => ⟨rfl, h H' n (k.new hn) hn e0⟩
theorem fn_MemoryStorage (hD : IsD D) (ha : H a = some (.inst 451 [])) (hc : CfIs H cf cz) (hb : bg = if cz.v.length = 0 then 0 else 1)
    (h : Hold (∀ H' hd sn el, Ch1 H H' a → H el = none → H' a = some (.inst 451 (MemoryStorageFs (.ref hd) (.ref cf) (.ref sn) (.int bg) (.int bg) (.ref el))) → H' hd = some (.inst 269 (HardStateFs (.int bg) (.int 0) (.int bg))) → H' sn = some (.inst 346 (SnapshotFs (.int bg) (.int bg) (.ref cf) (.bytes #[]))) → H' el = some (.list []) → Q .none H')) : Fn D 3 364 [.ref a, .ref cf] Q H := by
  refine fn_def (hK := by rw [hD.k]; k_is) (hcd := by rw [hD.k]; k_is) (ns := ["self", "conf"]) ?_ ?_ ?_ rfl rfl rfl ?_
  · exact fun _ _ => rfl
  · decide
  · decide
  intro c cD cn cs cc cr
  subst cD
  refine ss_mid (fun σ => Nms σ.m [("self", .ref a), ("conf", .ref cf), ("begin", .int 0)] ∧ σ.H = H) ?_ ?_
  · with_reducible refine' s_assign (w_int ?_)
    refine' st_local (lof ‹_› ⟨rfl, rfl⟩) ?_
    with_reducible refine' md_next ?_
    exact ⟨⟨rfl, rfl, rfl, trivial⟩, rfl⟩
  rintro ⟨mm, H1⟩ ⟨⟨m1, m2, m3, _⟩, e⟩
  have e : H1 = H := e
  subst e
  refine ss_mid (fun σ => Nms σ.m [("self", .ref a), ("conf", .ref cf), ("begin", .int bg)] ∧ σ.H = H1) ?_ ?_
  · obtain ⟨⟨a1, a2, a3, a4, h0, h1, h2, h3, h4⟩, z⟩ := hc
    have lz : (cz.v.map V.int).length = cz.v.length := List.length_map ..
    have zz : (cz.v.map V.int).length ≤ 10 := by (first | lia | omega)
    by_cases q : cz.v.length = 0
    · rw [if_pos q] at hb
      subst hb
      with_reducible refine' s_if (t_cmp (w_call ?_))
      refine' gl_len ‹_› (kof ‹_› rfl) ?_
      refine' cv_raw rfl ?_
      with_reducible refine' w_es_cons (att ?_)
      refine' w_local m2 ?_
      refine' gfG ‹_› h0 rfl rfl rfl ?_
      with_reducible refine' w_es_nil ?_
      refine' f_len h1 (by simp only [List.length_append, List.length_cons, List.length_nil, List.length_map, List.length_set, List.length_take, List.length_drop, List.length_replicate]; exact (by lia)) ?_
      with_reducible refine' w_int (c_gt (tr_bool (br_d ?_ ?_)))
      with_reducible refine' fun _ => ?_
      exact False.elim (by lia)
      with_reducible refine' fun _ => s_nil (md_next ?_)
      exact ⟨⟨m1, m2, m3, trivial⟩, rfl⟩
    · rw [if_neg q] at hb
      subst hb
      with_reducible refine' s_if (t_cmp (w_call ?_))
      refine' gl_len ‹_› (kof ‹_› rfl) ?_
      refine' cv_raw rfl ?_
      with_reducible refine' w_es_cons (att ?_)
      refine' w_local m2 ?_
      refine' gfG ‹_› h0 rfl rfl rfl ?_
      with_reducible refine' w_es_nil ?_
      refine' f_len h1 (by simp only [List.length_append, List.length_cons, List.length_nil, List.length_map, List.length_set, List.length_take, List.length_drop, List.length_replicate]; exact (by lia)) ?_
      with_reducible refine' w_int (c_gt (tr_bool (br_d ?_ ?_)))
      with_reducible refine' fun _ => s_one (s_assign (w_int ?_))
      refine' st_local (lof ‹_› ⟨rfl, rfl⟩) ?_
      with_reducible refine' md_next ?_
      rotate_left
      with_reducible refine' fun _ => ?_
      exact False.elim (by lia)
      exact ⟨⟨m1, m2, rfl, trivial⟩, rfl⟩
  clear m1 m2 m3
  rintro ⟨mm, H2⟩ ⟨⟨m1, m2, m3, _⟩, e⟩
  have e : H2 = H1 := e
  subst e
  refine ss_mid (fun σ => Nms σ.m [("self", .ref a), ("conf", .ref cf), ("begin", .int bg)] ∧ Ch1 H2 σ.H a ∧ ∃ hd, hd ≠ a ∧ σ.H hd = some (.inst 269 (HardStateFs (.int bg) (.int 0) (.int bg))) ∧ σ.H a = some (.inst 451 [("hard", .ref hd)])) ?_ ?_
  · with_reducible refine' s_assignA (w_call ?_)
    refine' gl_HardState ‹_› (kof ‹_› rfl) ?_
    refine' cv_ref (kp_of ‹_› rfl) ?_
    with_reducible refine' w_es_cons ?_
    refine' w_local m3 ?_
    with_reducible refine' w_es_cons (w_int (w_es_cons ?_))
    refine' w_local m3 ?_
    with_reducible refine' w_es_nil ?_
    refine' nwc_HardState ‹_› (Room.le ‹_› (by decide)) ?_
    with_reducible refine' fun _ _ => ?_
    refine' w_local m1 ?_
    with_reducible refine' pi_MemoryStorage_hard ‹_› (hs_new (by with_reducible assumption) ha) (md_next ?_)
    rename_i n1 g1
    have g1 : H2 n1 = none := g1
    have na : n1 ≠ a := ne_of g1 ha
    exact ⟨⟨m1, m2, m3, trivial⟩, (Ch1.refl.add g1).set, n1, na, hs_ne na hs_self, hs_self⟩
  clear m1 m2 m3
  rintro ⟨mm, H3⟩ ⟨⟨m1, m2, m3, _⟩, k1, hd, nh, eh, ha1⟩
  refine ss_mid (fun σ => Nms σ.m [("self", .ref a), ("conf", .ref cf), ("begin", .int bg)] ∧ Ch1 H2 σ.H a ∧ σ.H hd = some (.inst 269 (HardStateFs (.int bg) (.int 0) (.int bg))) ∧ σ.H a = some (.inst 451 [("hard", .ref hd), ("conf", .ref cf)])) ?_ ?_
  · with_reducible refine' s_assignA ?_
    refine' w_local m2 ?_
    refine' w_local m1 ?_
    with_reducible refine' pi_MemoryStorage_conf ‹_› ha1 (md_next ?_)
    exact ⟨⟨m1, m2, m3, trivial⟩, k1.set, hs_ne nh eh, hs_self⟩
  clear m1 m2 m3 ha1 k1 eh
  rintro ⟨mm, H3⟩ ⟨⟨m1, m2, m3, _⟩, k1, eh, ha1⟩
  refine ss_mid (fun σ => Nms σ.m [("self", .ref a), ("conf", .ref cf), ("begin", .int bg)] ∧ Ch1 H2 σ.H a ∧ ∃ sn, sn ≠ a ∧ σ.H hd = some (.inst 269 (HardStateFs (.int bg) (.int 0) (.int bg))) ∧ σ.H sn = some (.inst 346 (SnapshotFs (.int bg) (.int bg) (.ref cf) (.bytes #[]))) ∧ σ.H a = some (.inst 451 [("hard", .ref hd), ("conf", .ref cf), ("snap", .ref sn)])) ?_ ?_
  · with_reducible refine' s_assignA (w_call ?_)
    refine' gl_Snapshot ‹_› (kof ‹_› rfl) ?_
    refine' cv_ref (kp_of ‹_› rfl) ?_
    with_reducible refine' w_es_cons ?_
    refine' w_local m3 ?_
    with_reducible refine' w_es_cons ?_
    refine' w_local m3 ?_
    with_reducible refine' w_es_cons ?_
    refine' w_local m2 ?_
    with_reducible refine' w_es_cons (w_bytes (w_es_nil ?_))
    refine' nwc_Snapshot ‹_› (Room.le ‹_› (by decide)) ?_
    with_reducible refine' fun _ _ => ?_
    refine' w_local m1 ?_
    with_reducible refine' pi_MemoryStorage_snap ‹_› (hs_new (by with_reducible assumption) ha1) (md_next ?_)
    rename_i n1 g1
    have g1 : H3 n1 = none := g1
    have na : n1 ≠ a := ne_of g1 ha1
    exact ⟨⟨m1, m2, m3, trivial⟩, (k1.add g1).set, n1, na, hs_ne nh (hs_new g1 eh), hs_ne na hs_self, hs_self⟩
  clear m1 m2 m3 ha1 k1 eh
  rintro ⟨mm, H3⟩ ⟨⟨m1, m2, m3, _⟩, k1, sn, nsn, eh, es, ha1⟩
  refine ss_mid (fun σ => Nms σ.m [("self", .ref a), ("conf", .ref cf), ("begin", .int bg)] ∧ Ch1 H2 σ.H a ∧ σ.H hd = some (.inst 269 (HardStateFs (.int bg) (.int 0) (.int bg))) ∧ σ.H sn = some (.inst 346 (SnapshotFs (.int bg) (.int bg) (.ref cf) (.bytes #[]))) ∧ σ.H a = some (.inst 451 [("hard", .ref hd), ("conf", .ref cf), ("snap", .ref sn), ("base_index", .int bg)])) ?_ ?_
  · with_reducible refine' s_assignA ?_
    refine' w_local m3 ?_
    refine' w_local m1 ?_
    with_reducible refine' pi_MemoryStorage_base_index ‹_› ha1 (md_next ?_)
    exact ⟨⟨m1, m2, m3, trivial⟩, k1.set, hs_ne nh eh, hs_ne nsn es, hs_self⟩
  clear m1 m2 m3 ha1 k1 eh es
  rintro ⟨mm, H3⟩ ⟨⟨m1, m2, m3, _⟩, k1, eh, es, ha1⟩
  refine ss_mid (fun σ => Nms σ.m [("self", .ref a), ("conf", .ref cf), ("begin", .int bg)] ∧ Ch1 H2 σ.H a ∧ σ.H hd = some (.inst 269 (HardStateFs (.int bg) (.int 0) (.int bg))) ∧ σ.H sn = some (.inst 346 (SnapshotFs (.int bg) (.int bg) (.ref cf) (.bytes #[]))) ∧ σ.H a = some (.inst 451 [("hard", .ref hd), ("conf", .ref cf), ("snap", .ref sn), ("base_index", .int bg), ("base_term", .int bg)])) ?_ ?_
  · with_reducible refine' s_assignA ?_
    refine' w_local m3 ?_
    refine' w_local m1 ?_
    with_reducible refine' pi_MemoryStorage_base_term ‹_› ha1 (md_next ?_)
    exact ⟨⟨m1, m2, m3, trivial⟩, k1.set, hs_ne nh eh, hs_ne nsn es, hs_self⟩
  clear m1 m2 m3 ha1 k1 eh es
  rintro ⟨mm, H4⟩ ⟨⟨m1, m2, m3, _⟩, k2, eh, es, ha2⟩
  with_reducible refine' s_one (s_assignA (w_list (w_es_nil ?_)))
  refine' ⟨(Nat.le_of_ble_eq_true rfl), ?_⟩
  with_reducible refine' fun _ _ => ?_
  refine' w_local m1 ?_
  with_reducible refine' pi_MemoryStorage_entries ‹_› (hg_new (by with_reducible assumption) ha2) ?_
  rename_i el hel
  have hel' : H4 el = none := hel
  have nea : el ≠ a := ne_of hel' ha2
  exact h _ hd sn el ((k2.add hel').set) (k2.non ha ha2 hel') hs_self (hs_ne nh (hs_new hel' eh)) (hs_ne nsn (hs_new hel' es)) (hs_ne nea hs_self)
theorem nwc_MemoryStorage (hD : IsD c.D) (r : c.Room 4) (hc : CfIs H cf cz) (hb : bg = if cz.v.length = 0 then 0 else 1)
    (h : Hold (∀ H' n hd sn el, H.Le H' → H n = none → H el = none → H' n = some (.inst 451 (MemoryStorageFs (.ref hd) (.ref cf) (.ref sn) (.int bg) (.int bg) (.ref el))) → H' hd = some (.inst 269 (HardStateFs (.int bg) (.int 0) (.int bg))) → H' sn = some (.inst 346 (SnapshotFs (.int bg) (.int bg) (.ref cf) (.bytes #[]))) → H' el = some (.list []) → Qs (.ref n) ⟨mm, H'⟩)) : c.Call E (.ref 451) [.ref cf] Qs ⟨mm, H⟩ :=
  nw_MemoryStorage hD (d := 3) r fun n hn => fn_MemoryStorage hD hs_self (hc.le (Hp.Le.set _ hn)) hb fun H' hd sn el k hel e1 e2 e3 e4 => ⟨rfl, h H' n hd sn el (k.new hn) hn (none_set hel) e1 e2 e3 e4⟩
theorem StAt.ch (h : StAt K H st S) (k : Ch1 H H' a) (ka : K a = none) (ns : st ≠ a) (nl : ∀ vs, H a ≠ some (.list vs)) : StAt K H' st S := by
  obtain ⟨h1, h2, ⟨cf, sl, vs, q1, q2, q3⟩, h4, h5⟩ := h
  exact ⟨fun b o e => k b o (h1 _ _ e) (fun q => by rw [q, ka] at e; cases e), h2, ⟨cf, sl, vs, k _ _ q1 ns, k _ _ q2 (fun q => nl _ (q ▸ q2)), q3⟩, h4, h5⟩
theorem fn_RaftLog (hD : IsD D) (ha : H a = some (.inst 745 [])) (hs : StAt K H st S) (ka : K a = none)
    (h : Hold (∀ H' u el, Ch1 H H' a → H u = none → H el = none → H' a = some (.inst 745 (RaftLogFs (.ref st) (.int i) (.ref u) (.int S.base) (.int S.base))) → H' u = some (.inst 535 (UnstableFs .none (.ref el) (.int (S.base + S.ss.length + 1)))) → H' el = some (.list []) → Q .none H')) : Fn D 3 553 [.ref a, .ref st, .int i] Q H := by
  refine fn_def (hK := by rw [hD.k]; k_is) (hcd := by rw [hD.k]; k_is) (ns := ["self", "storage", "max_committed"]) ?_ ?_ ?_ rfl rfl rfl ?_
  · exact fun _ _ _ => rfl
  · decide
  · decide
  intro c cD cn cs cc cr
  subst cD
  have nst : st ≠ a := fun q => by obtain ⟨_, _, _, z, _⟩ := hs.s; rw [q, ha] at z; cases z
  refine ss_mid (fun σ => Nms σ.m [("self", .ref a), ("storage", .ref st), ("max_committed", .int i)] ∧ Ch1 H σ.H a ∧ σ.H a = some (.inst 745 [("storage", .ref st)])) ?_ ?_
  · with_reducible refine' s_assignA ?_
    refine' w_local rfl ?_
    refine' w_local rfl ?_
    with_reducible refine' pi_RaftLog_storage ‹_› ha (md_next ?_)
    exact ⟨⟨rfl, rfl, rfl, trivial⟩, Ch1.refl.set, hs_self⟩
  rintro ⟨mm, H1⟩ ⟨⟨m1, m2, m3, _⟩, k1, ha1⟩
  refine ss_mid (fun σ => Nms σ.m [("self", .ref a), ("storage", .ref st), ("max_committed", .int i)] ∧ Ch1 H σ.H a ∧ σ.H a = some (.inst 745 [("storage", .ref st), ("max_committed", .int i)])) ?_ ?_
  · with_reducible refine' s_assignA ?_
    refine' w_local m3 ?_
    refine' w_local m1 ?_
    with_reducible refine' pi_RaftLog_max_committed ‹_› ha1 (md_next ?_)
    exact ⟨⟨m1, m2, m3, trivial⟩, k1.set, hs_self⟩
  clear m1 m2 m3 ha1 k1
  rintro ⟨mm, H1⟩ ⟨⟨m1, m2, m3, _⟩, k1, ha1⟩
  have hs1 : StAt K H1 st S := hs.ch k1 ka nst fun _ q => by rw [ha] at q; cases q
  have hs2 := hs1
  refine ss_mid (fun σ => Nms σ.m [("self", .ref a), ("storage", .ref st), ("max_committed", .int i), ("first", .int (S.base + 1))] ∧ σ.H = H1) ?_ ?_
  · skip
    have stX := hs1
    obtain ⟨hle, hks, ⟨cf, sl, svs, hst, hsl, hsv⟩, ⟨sat, scf, sb, hsa⟩, hz1⟩ := stX
    have lsv := hsv.length
    with_reducible refine' s_assign (w_meth ?_)
    refine' w_local m2 ?_
    with_reducible refine' me_MemoryStorage_first_index ‹_› hst ?_
    refine' cm_one (kp_of ‹_› rfl) ?_
    with_reducible refine' w_es_nil ?_
    refine' Fn.go (fn_st_first ‹_› hs2 ?_) (Room.le ‹_› (by decide))
    refine' st_local (lof ‹_› ⟨rfl, rfl⟩) ?_
    with_reducible refine' md_next ?_
    exact ⟨⟨m1, m2, m3, rfl, trivial⟩, rfl⟩
  clear m1 m2 m3
  rintro ⟨mm, H2⟩ ⟨⟨m1, m2, m3, m4, _⟩, e⟩
  have e : H2 = H1 := e
  subst e
  refine ss_mid (fun σ => Nms σ.m [("self", .ref a), ("first", .int (S.base + 1))] ∧ ∃ u el, Ch1 H σ.H a ∧ H u = none ∧ H el = none ∧ σ.H a = some (.inst 745 [("storage", .ref st), ("max_committed", .int i), ("unstable", .ref u)]) ∧ σ.H u = some (.inst 535 (UnstableFs .none (.ref el) (.int (S.base + S.ss.length + 1)))) ∧ σ.H el = some (.list [])) ?_ ?_
  · skip
    have stX := hs1
    obtain ⟨hle, hks, ⟨cf, sl, svs, hst, hsl, hsv⟩, ⟨sat, scf, sb, hsa⟩, hz1⟩ := stX
    have lsv := hsv.length
    with_reducible refine' s_assignA (w_call ?_)
    refine' gl_Unstable ‹_› (kof ‹_› rfl) ?_
    refine' cv_ref (kp_of ‹_› rfl) ?_
    with_reducible refine' w_es_cons (w_bin (w_meth ?_))
    refine' w_local m2 ?_
    with_reducible refine' me_MemoryStorage_last_index ‹_› hst ?_
    refine' cm_one (kp_of ‹_› rfl) ?_
    with_reducible refine' w_es_nil ?_
    refine' Fn.go (fn_st_last ‹_› hs2 ?_) (Room.le ‹_› (by decide))
    with_reducible refine' w_int (b_add (w_es_nil ?_))
    refine' nwc_Unstable ‹_› (Room.le ‹_› (by decide)) ?_
    intro H3 u el l1 hu hel e1 e2
    have ha2 := l1 _ _ ha1
    refine' w_local m1 ?_
    with_reducible refine' pi_RaftLog_unstable ‹_› ha2 (md_next ?_)
    have nu : u ≠ a := ne_ob e1 ha2 fun q => by cases q
    have nel : el ≠ a := ne_ob e2 ha2 fun q => by cases q
    exact ⟨⟨m1, m4, trivial⟩, u, el, (k1.trans l1).set, k1.non ha ha1 hu, k1.non ha ha1 hel, hs_self, hs_ne nu e1, hs_ne nel e2⟩
  clear m1 m2 m3 m4 ha1 k1 hs1 hs2
  rintro ⟨mm, H3⟩ ⟨⟨m1, m2, _⟩, u, el, k2, hu, hel, ha2, e1, e2⟩
  have nu : u ≠ a := ne_ob e1 ha2 fun q => by cases q
  have nel : el ≠ a := ne_ob e2 ha2 fun q => by cases q
  with_reducible refine' s_cons (s_assignA (w_bin ?_))
  refine' w_local m2 ?_
  with_reducible refine' w_int (b_sub ?_)
  refine' w_local m1 ?_
  with_reducible refine' pi_RaftLog_committed ‹_› ha2 (th_next (s_one (s_assignA (w_bin ?_))))
  refine' w_local m2 ?_
  with_reducible refine' w_int (b_sub ?_)
  refine' w_local m1 ?_
  with_reducible refine' pi_RaftLog_applied ‹_› hg_self ?_
  rw [show S.base + 1 - 1 = S.base by (first | lia | omega)]
  simp only [set_set]
  exact h _ u el k2.set hu hel hs_self (hs_ne nu e1) (hs_ne nel e2)
theorem nwc_RaftLog (hD : IsD c.D) (r : c.Room 4) (hs : StAt K H st S)
    (h : Hold (∀ H' n u el, H.Le H' → H n = none → H u = none → H el = none → H' n = some (.inst 745 (RaftLogFs (.ref st) (.int i) (.ref u) (.int S.base) (.int S.base))) → H' u = some (.inst 535 (UnstableFs .none (.ref el) (.int (S.base + S.ss.length + 1)))) → H' el = some (.list []) → Qs (.ref n) ⟨mm, H'⟩)) : c.Call E (.ref 745) [.ref st, .int i] Qs ⟨mm, H⟩ :=
  nw_RaftLog hD (d := 3) r fun n hn => fn_RaftLog hD hs_self (hs.grow (Hp.Le.set _ hn)) (hs.le.non hn) fun H' u el k hu hel e1 e2 e3 => ⟨rfl, h H' n u el (k.new hn) hn (none_set hu) (none_set hel) e1 e2 e3⟩
noncomputable def stD (S : LS) (x1 x2 x3 : Int) (sd : Dt) : Dt := .tup [.tup [.int x1, .int x2, .int x3], .int S.base, .int S.bt, .tup (entsD (S.base + 1) S.ss), sd]
theorem fn_St_row (hD : IsD D) (hs : StAt K H st S) (hh : H S.hd = some (.inst 269 (HardStateFs (.int x1) (.int x2) (.int x3)))) (hsn : SnIs H (S.sa, S.si, t) cf cz bs) (h : Hold (∀ H' n, H.Le H' → DIs H' (.ref n) (stD S x1 x2 x3 (snD S.si t cz bs)) → Q (.ref n) H')) : Fn D 3 448 [.ref st] Q H := by
  refine fn_def (hK := by rw [hD.k]; k_is) (hcd := by rw [hD.k]; k_is) (ns := ["self"]) ?_ ?_ ?_ rfl rfl rfl ?_
  · exact fun _ => rfl
  · decide
  · decide
  intro c cD cn cs cc cr
  subst cD
  have stX := hs
  obtain ⟨hle, hks, ⟨cf, sl, svs, hst, hsl, hsv⟩, ⟨sat, scf, sb, hsa⟩, hz1⟩ := stX
  have lsv := hsv.length
  with_reducible refine' s_cons (s_assign (w_list (w_es_nil ?_)))
  refine' ⟨(Nat.le_of_ble_eq_true rfl), ?_⟩
  with_reducible refine' fun _ _ => ?_
  refine' st_local (lof ‹_› ⟨rfl, rfl⟩) ?_
  with_reducible refine' th_next (s_cons (s_for (att ?_)))
  refine' w_local rfl ?_
  refine' gfG ‹_› (hg_up (hg_new (by with_reducible assumption) hst)) rfl rfl rfl ?_
  with_reducible refine' it_list (hg_up (hg_new (by with_reducible assumption) hsl)) (fun _ _ => itx ?_)
  rename_i rn hrn it hit
  have hrn' : H rn = none := hrn
  have hit' : (H.set rn (.list [])) it = none := hit
  have hit2 := none_set hit'
  have nri : rn ≠ it := Ne.symm (ne_of hit' hs_self)
  refine loop_list (l := sl) (vs := svs) (fun j σ => Nms σ.m [("self", .ref st), ("rows", .ref rn)] ∧ σ.H it = some (.li sl j) ∧ H.Le σ.H ∧ ∃ ws, σ.H rn = some (.list ws) ∧ ERow σ.H (S.base + 1) ws (S.ss.take j)) ?_ ?_ ?_ (by with_unfolding_all rfl) (Nat.zero_le _) ⟨⟨rfl, rfl, trivial⟩, hs_self, (Hp.Le.set _ hrn').trans (Hp.Le.set _ hit'), [], hs_ne nri hs_self, by simp [ERow]⟩
  · rintro j σ ⟨_, h2, h3, _⟩
    exact ⟨h2, h3 _ _ hsl⟩
  · rintro j v ⟨mm, H1⟩ lt hv ⟨⟨m1, m2, _⟩, h2, h3, ws, h4, h5⟩
    obtain ⟨x, a, q1, rfl, q2⟩ := hsv.at hv
    have m2' : mm "rows" = some (.ref rn) := m2
    have l1 : H.Le (H1.set it (.li sl (j + 1))) := Hp.Le.setN hit2 h3
    have q2' := l1 _ _ (hle _ _ q2)
    have k2 : (H1.set it (.li sl (j + 1))) rn = some (.list ws) := hs_ne nri h4
    have k3 : (H1.set it (.li sl (j + 1))) it = some (.li sl (j + 1)) := hs_self
    have k5 : ERow (H1.set it (.li sl (j + 1))) (S.base + 1) ws (S.ss.take j) := h5.tle (tle_set h2 fun _ q => by cases q)
    have lw := k5.length
    have lt2 : j < S.ss.length := by (first | lia | omega)
    rw [List.length_take] at lw
    show c.Asg Nope _ _ _ ⟨mm, H1.set it (.li sl (j + 1))⟩
    generalize H1.set it (.li sl (j + 1)) = H2 at l1 q2' k2 k3 k5 ⊢
    with_reducible refine' as_name ?_
    refine' st_local (lof ‹_› ⟨rfl, rfl⟩) ?_
    with_reducible refine' s_one (s_ex (w_meth ?_))
    refine' w_local m2' ?_
    with_reducible refine' m_append k2 ?_
    refine' cm_one rfl ?_
    with_reducible refine' w_es_cons (w_meth ?_)
    refine' w_local rfl ?_
    with_reducible refine' me_Entry_row ‹_› q2' ?_
    refine' cm_one (kp_of ‹_› rfl) ?_
    with_reducible refine' w_es_nil ?_
    refine' Fn.go (fn_Entry_row ‹_› q2' ?_) (Room.le ‹_› (by decide))
    with_reducible refine' fun _ _ => w_es_nil ?_
    refine' c_append (hg_new (by with_reducible assumption) k2) (by lia) ?_
    refine' ⟨rfl, ?_⟩
    with_reducible refine' tu_next ?_
    rename_i n3 hn3
    have hn3' : H2 n3 = none := hn3
    have e3 : (H2.set n3 (.tup [.int x, .int (S.base + 1 + j), .int 0, .bytes #[]])) rn = some (.list ws) := hs_new hn3' k2
    refine ⟨⟨m1, m2', trivial⟩, hs_ne (Ne.symm nri) (hs_new hn3' k3), Hp.Le.setN hrn' (l1.trans (Hp.Le.set _ hn3')), ws ++ [.ref n3], hs_self, ?_⟩
    rw [show S.ss.take (j + 1) = S.ss.take j ++ [x] by rw [List.take_add_one, q1]; rfl]
    have t1 := tle_set (o' := .list (ws ++ [.ref n3])) e3 fun _ q => by cases q
    refine ERow.app ((k5.tle (Hp.Le.set _ hn3').t).tle t1) ?_
    refine ⟨⟨n3, rfl, t1 _ _ ?_⟩, trivial⟩
    rw [List.length_take, show min j S.ss.length = j by (first | lia | omega)]
    exact hs_self
  · rintro ⟨mm, H1⟩ ⟨⟨m1, m2, _⟩, h2, h3, ws, h4, h5⟩
    have m1' : mm "self" = some (.ref st) := m1
    have m2' : mm "rows" = some (.ref rn) := m2
    rw [show S.ss.take svs.length = S.ss by rw [lsv, List.take_length]] at h5
    have lw := h5.length
    have l2 : H.Le (H1.del it) := Hp.Le.del h3 hit2
    have k4 : (H1.del it) rn = some (.list ws) := hs_del nri h4
    have k5 : ERow (H1.del it) (S.base + 1) ws S.ss := h5.tle (tle_del h2 fun _ q => by cases q)
    have hst2 := l2 _ _ hst
    have hh2 := l2 _ _ hh
    have hsn2 := hsn.le l2
    clear h4 h5 h2 h3
    show c.Ss Nope _ _ ⟨mm, H1.del it⟩
    generalize H1.del it = H2 at l2 k4 k5 hst2 hh2 hsn2 ⊢
    have hsn3 := hsn2.a
    with_reducible refine' s_one (s_ret (w_tuple (w_es_cons (w_meth (att ?_)))))
    refine' w_local m1' ?_
    refine' gfG ‹_› hst2 rfl rfl rfl ?_
    with_reducible refine' me_HardState_row ‹_› hh2 ?_
    refine' cm_one (kp_of ‹_› rfl) ?_
    with_reducible refine' w_es_nil ?_
    refine' Fn.go (fn_Hard_row ‹_› hh2 ?_) (Room.le ‹_› (by decide))
    with_reducible refine' fun _ _ => w_es_cons (att ?_)
    refine' w_local m1' ?_
    refine' gfG ‹_› (hs_new (by with_reducible assumption) hst2) rfl rfl rfl ?_
    with_reducible refine' w_es_cons (att ?_)
    refine' w_local m1' ?_
    refine' gfG ‹_› (hs_new (by with_reducible assumption) hst2) rfl rfl rfl ?_
    with_reducible refine' w_es_cons (w_call ?_)
    refine' gl_tuple ‹_› (kof ‹_› rfl) ?_
    refine' cv_raw rfl ?_
    with_reducible refine' w_es_cons ?_
    refine' w_local m2' ?_
    with_reducible refine' w_es_nil ?_
    refine' f_tuple (hs_new (by with_reducible assumption) k4) (by lia) ?_
    with_reducible refine' fun _ _ => w_es_cons (w_meth (att ?_))
    refine' w_local m1' ?_
    refine' gfG ‹_› (hg_new (by with_reducible assumption) (hs_new (by with_reducible assumption) hst2)) rfl rfl rfl ?_
    with_reducible refine' me_Snapshot_row ‹_› (hg_new (by with_reducible assumption) (hs_new (by with_reducible assumption) hsn3)) ?_
    refine' cm_one (kp_of ‹_› rfl) ?_
    with_reducible refine' w_es_nil ?_
    rename_i n1 g1 n2 g2
    have g1 : H2 n1 = none := g1
    have l3 := (Hp.Le.set (o := .tup [.int x1, .int x2, .int x3]) g1).trans (Hp.Le.set (o := .tup ws) g2)
    refine Fn.go (fn_Snap_row hD (hsn2.le l3) ?_) (Room.le ‹_› (by decide))
    intro H4 n4 l4 d4
    with_reducible refine' w_es_nil ?_
    refine' ⟨(Nat.le_of_ble_eq_true rfl), ?_⟩
    with_reducible refine' fun _ _ => ?_
    rename_i n5 g5
    have g5 : H4 n5 = none := g5
    have l5 := l4.trans (Hp.Le.set (o := .tup [.ref n1, .int S.base, .int S.bt, .ref n2, .ref n4]) g5)
    refine h _ n5 ((l2.trans l3).trans l5) (dis_tup hs_self ?_)
    refine ds_cons (dis_tup (l5 _ _ (hs_new g2 hs_self)) (ds_cons dis_int (ds_cons dis_int (ds_cons dis_int ds_nil)))) (ds_cons dis_int (ds_cons dis_int (ds_cons (dis_tup (l5 _ _ hs_self) (k5.tle (l3.trans l5).t).ds) (ds_cons (d4.le (Hp.Le.set _ g5)) ds_nil))))
end

end Rk
namespace Rk

theorem deps_ints : ∀ {l : List Int}, deps (l.map Dt.int) = 0
  | [] => rfl
  | _ :: _ => by simp [deps, dep, deps_ints]
theorem deps_ents : ∀ {ts : List Int} {i : Int}, deps (entsD i ts) ≤ 1
  | [], _ => by simp [entsD, deps]
  | _ :: ts, i => by
    have := deps_ents (ts := ts) (i := i + 1)
    simp only [entsD, deps, entD, dep]
    (first | lia | omega)
section
variable {D : Wd} {d : Nat} {o o' : MO} {c : Cx} {E : Value → Shared → Prop} {σ : St} {H H' K K' : Hp} {w a b n xl r u st cf el : Addr} {m j q : Nat} {t i k com bg x : Int} {Q : V → Hp → Prop} {Qs : V → St → Prop} {vs us xs : List V} {cz : CS} {ns ts : List Int} {S : LS} {mm : Str → Option V} {bs : Array UInt8} {ds : List Dt} {p : Addr × Int × Int} {stored sure dn : Nat}
theorem c_neS (r : c.Room d) (h : DIs σ.H (.ref a) (.tup ds)) (k : DIs σ.H (.ref b) (.tup ds)) (hd : deps ds ≤ 100) (q : Qs (.bool false) σ) : c.Cmp E .NotEq (.ref a) (.ref b) Qs σ :=
  c_neT r h k (likds_refl ds) hd (by rw [eqds_refl]; exact q)
theorem deps_sn {i t : Int} {cz : CS} {b : Array UInt8} : deps [.int i, .int t, cfD cz, .bytes b] ≤ 100 := by
  simp [deps, dep, cfD, deps_ints]
noncomputable def LS.tv (S : LS) (i : Int) : Int := match S.mt i with
  | some t => t
  | none => if i + 1 < S.first then -1 else if S.last < i then -2 else S.stT i
theorem LS.tv_some (q : S.mt i = some t) : S.tv i = t := by unfold LS.tv; rw [q]
theorem LS.tv_none (q : S.mt i = none) : S.tv i = if i + 1 < S.first then -1 else if S.last < i then -2 else S.stT i := by unfold LS.tv; rw [q]
theorem fn_law_term (hD : IsD D) (hat : At K H r u st S) (hi : -100 ≤ i ∧ i ≤ 200) (hb : S.mt i = none → S.first ≤ i + 1 → i ≤ S.last → S.base ≤ i ∧ i ≤ S.base + S.ss.length) (hz : -100 ≤ S.first ∧ S.first ≤ 200 ∧ -100 ≤ S.last ∧ S.last ≤ 200) (h : Q (.int (S.tv i)) H) : Fn D 4 784 [.ref r, .int i] Q H := by
  refine fn_defO (hK := by rw [hD.k]; k_is) (hcd := by rw [hD.k]; k_is) (ns := ["log", "place"]) ?_ ?_ ?_ rfl rfl rfl ?_
  · exact fun _ _ => rfl
  · decide
  · decide
  intro c cD cn cs cc co cr
  subst cD
  have hat0 := hat
  have atX := hat
  obtain ⟨⟨hle, hks, ⟨cf, sl, svs, hst, hsl, hsv⟩, ⟨sat, scf, sb, hsa⟩, hz1⟩, hkr, hku, hr, ⟨el, vs, hu, hel, hev⟩, hsn, hz2⟩ := atX
  have lsv := hsv.length
  have lev := hev.length
  refine s_one (s_try co (P := fun C σ => (C = 80 ∧ Q (.int (-1)) σ.H) ∨ (C = 92 ∧ Q (.int (-2)) σ.H)) ?_ ?_)
  · with_reducible refine' s_one (s_ret (w_meth ?_))
    refine' w_local rfl ?_
    with_reducible refine' me_RaftLog_term ‹_› hr ?_
    refine' cm_one (kp_of ‹_› rfl) ?_
    with_reducible refine' w_es_cons ?_
    refine' w_local rfl ?_
    with_reducible refine' w_es_nil ?_
    refine FnX.go (fn_term hD hat0 hi hb hz (fun t q => ?_) (fun q1 q2 => ?_) (fun q1 q2 q3 => ?_) (fun q1 q2 q3 => ?_)) (Room.le ‹_› (by decide))
    · rw [LS.tv_some q] at h
      skip
      exact h
    · rw [LS.tv_none q1, if_pos q2] at h
      exact .inl ⟨rfl, h⟩
    · rw [LS.tv_none q1, if_neg (by (first | lia | omega)), if_pos q3] at h
      exact .inr ⟨rfl, h⟩
    · rw [LS.tv_none q1, if_neg (by (first | lia | omega)), if_neg (by (first | lia | omega))] at h
      skip
      exact h
  · rintro _ σ₁ (⟨rfl, hq⟩ | ⟨rfl, hq⟩)
    · refine ⟨.int (-1), .inl ⟨fun L a cd => ?_, gv_neg⟩, hq⟩
      rw [hD.k, cs]
      kts_test
    · refine ⟨.int (-2), .inr ⟨fun L a cd => ?_, .inl ⟨fun L a cd => ?_, gv_neg⟩⟩, hq⟩
      · rw [hD.k, cs]
        kts_test
      · rw [hD.k, cs]
        kts_test
theorem fn_law_whole (hD : IsD D) (hat : At K H r u st S) (hs : SnIs H p cf cz bs) (hi : 1 ≤ p.2.1 ∧ p.2.1 ≤ 50 ∧ -100 ≤ i ∧ i ≤ 150 ∧ 0 ≤ k ∧ k ≤ 10) (hb : S.mt i = none → S.first ≤ i + 1 → i ≤ S.last → S.base ≤ i ∧ i ≤ S.base + S.ss.length) (hz : -100 ≤ S.first ∧ S.first ≤ 200 ∧ -100 ≤ S.last ∧ S.last ≤ 200)
    (hsi : S.sn = none → S.base ≤ S.si ∧ S.sa = p.1) (hsp : ∀ p', S.sn = some p' → p' = p) (htv : S.tv i = if i < p.2.1 then -1 else if p.2.1 + k < i then -2 else 5 + i - p.2.1) (hl : (S.es.length : Int) = t)
    (h : Hold (∀ H', H.Le H' → Q (.bool true) H')) : Fn D 5 791 [.ref r, .ref p.1, .int k, .int i, .int t] Q H := by
  refine fn_def (hK := by rw [hD.k]; k_is) (hcd := by rw [hD.k]; k_is) (ns := ["log", "snap", "k", "place", "left"]) ?_ ?_ ?_ rfl rfl rfl ?_
  · exact fun _ _ _ _ _ => rfl
  · decide
  · decide
  intro c cD cn cs cc cr
  subst cD
  have hat0 := hat
  have hi' : -100 ≤ i ∧ i ≤ 200 := by (first | lia | omega)
  have hsn' : S.sn = none → S.base ≤ S.si := fun q => (hsi q).1
  obtain ⟨hs1, hs2⟩ := id hs
  refine ss_mid (fun σ => Nms σ.m [("log", .ref r), ("snap", .ref p.1), ("k", .int k), ("place", .int i), ("left", .int t), ("s", .int p.2.1)] ∧ σ.H = H) ?_ ?_
  · with_reducible refine' s_assign (att ?_)
    refine' w_local rfl ?_
    refine' gfG ‹_› hs1 rfl rfl rfl ?_
    refine' st_local (lof ‹_› ⟨rfl, rfl⟩) ?_
    with_reducible refine' md_next ?_
    exact ⟨⟨rfl, rfl, rfl, rfl, rfl, rfl, trivial⟩, rfl⟩
  rintro ⟨mm, H1⟩ ⟨⟨m1, m2, m3, m4, m5, m6, _⟩, e⟩
  have e : H1 = H := e
  subst e
  refine ss_mid (fun σ => Nms σ.m [("log", .ref r), ("snap", .ref p.1), ("k", .int k), ("place", .int i), ("left", .int t), ("s", .int p.2.1), ("want", .int (5 + i - p.2.1))] ∧ σ.H = H1) ?_ ?_
  · with_reducible refine' s_assign (w_bin (w_bin (w_int ?_)))
    refine' w_local m4 ?_
    with_reducible refine' b_add ?_
    refine' w_local m6 ?_
    with_reducible refine' b_sub ?_
    refine' st_local (lof ‹_› ⟨rfl, rfl⟩) ?_
    with_reducible refine' md_next ?_
    exact ⟨⟨m1, m2, m3, m4, m5, m6, rfl, trivial⟩, rfl⟩
  clear m1 m2 m3 m4 m5 m6
  rintro ⟨mm, H2⟩ ⟨⟨m1, m2, m3, m4, m5, m6, m7, _⟩, e⟩
  have e : H2 = H1 := e
  subst e
  refine ss_mid (fun σ => Nms σ.m [("log", .ref r), ("snap", .ref p.1), ("place", .int i), ("left", .int t), ("want", .int (S.tv i))] ∧ σ.H = H2) ?_ ?_
  · by_cases q1 : i < p.2.1
    · rw [if_pos q1] at htv
      rw [htv]
      with_reducible refine' s_if (t_cmp ?_)
      refine' w_local m4 ?_
      refine' w_local m6 ?_
      with_reducible refine' c_lt (tr_bool (br_d ?_ ?_))
      with_reducible refine' fun _ => s_one (s_assign (w_una (w_int (n_neg ?_))))
      refine' st_local (lof ‹_› ⟨rfl, rfl⟩) ?_
      with_reducible refine' md_next ?_
      rotate_left
      with_reducible refine' fun _ => ?_
      exact False.elim (by lia)
      exact ⟨⟨m1, m2, m4, m5, rfl, trivial⟩, rfl⟩
    · by_cases q2 : p.2.1 + k < i
      · rw [if_neg q1, if_pos q2] at htv
        rw [htv]
        with_reducible refine' s_if (t_cmp ?_)
        refine' w_local m4 ?_
        refine' w_local m6 ?_
        with_reducible refine' c_lt (tr_bool (br_d ?_ ?_))
        with_reducible refine' fun _ => ?_
        exact False.elim (by lia)
        with_reducible refine' fun _ => s_one (s_if (t_cmp ?_))
        refine' w_local m4 ?_
        with_reducible refine' w_bin ?_
        refine' w_local m6 ?_
        refine' w_local m3 ?_
        with_reducible refine' b_add (c_gt (tr_bool (br_d ?_ ?_)))
        with_reducible refine' fun _ => s_one (s_assign (w_una (w_int (n_neg ?_))))
        refine' st_local (lof ‹_› ⟨rfl, rfl⟩) ?_
        with_reducible refine' md_next ?_
        rotate_left
        with_reducible refine' fun _ => ?_
        exact False.elim (by lia)
        exact ⟨⟨m1, m2, m4, m5, rfl, trivial⟩, rfl⟩
      · rw [if_neg q1, if_neg q2] at htv
        rw [htv]
        with_reducible refine' s_if (t_cmp ?_)
        refine' w_local m4 ?_
        refine' w_local m6 ?_
        with_reducible refine' c_lt (tr_bool (br_d ?_ ?_))
        with_reducible refine' fun _ => ?_
        exact False.elim (by lia)
        with_reducible refine' fun _ => s_one (s_if (t_cmp ?_))
        refine' w_local m4 ?_
        with_reducible refine' w_bin ?_
        refine' w_local m6 ?_
        refine' w_local m3 ?_
        with_reducible refine' b_add (c_gt (tr_bool (br_d ?_ ?_)))
        with_reducible refine' fun _ => ?_
        exact False.elim (by lia)
        with_reducible refine' fun _ => s_nil (md_next ?_)
        exact ⟨⟨m1, m2, m4, m5, m7, trivial⟩, rfl⟩
  clear m1 m2 m3 m4 m5 m6 m7
  rintro ⟨mm, H3⟩ ⟨⟨m1, m2, m3, m4, m5, _⟩, e⟩
  have e : H3 = H2 := e
  subst e
  clear htv
  have hr0 := hat0.r
  refine ss_mid (fun σ => Nms σ.m [("log", .ref r), ("left", .int t)] ∧ H3.Le σ.H) ?_ ?_
  · with_reducible refine' s_if (t_bool (a_or (t_cmp (w_call ?_))))
    refine' gl__law_term ‹_› (kof ‹_› rfl) ?_
    refine' cv_ref (kp_of ‹_› rfl) ?_
    with_reducible refine' w_es_cons ?_
    refine' w_local m1 ?_
    with_reducible refine' w_es_cons ?_
    refine' w_local m3 ?_
    with_reducible refine' w_es_nil ?_
    refine' Fn.go (fn_law_term ‹_› hat0 hi' hb hz ?_) (Room.le ‹_› (by decide))
    refine' w_local m5 ?_
    with_reducible refine' c_ne (tr_bool (br_ne ?_ ?_))
    with_reducible refine' fun _ => ?_
    exact False.elim (by lia)
    with_reducible refine' fun _ => a_or (t_cmp (w_meth (w_meth ?_)))
    refine' w_local m1 ?_
    with_reducible refine' me_RaftLog_snapshot ‹_› hr0 ?_
    refine' cm_one (kp_of ‹_› rfl) ?_
    with_reducible refine' w_es_nil ?_
    refine' Fn.go (fn_snapshot ‹_› hat0 hsn' ?_ ?_) (Room.le ‹_› (by decide))
    with_reducible refine' fun _ => ?_
    rotate_left
    with_reducible refine' fun _ _ => ?_
    rotate_left
    · rename_i q
      have z := (hsi q).2
      rw [z]
      with_reducible refine' me_Snapshot_row ‹_› hs1 ?_
      refine' cm_one (kp_of ‹_› rfl) ?_
      with_reducible refine' w_es_nil ?_
      refine Fn.go (fn_Snap_row hD hs ?_) (Room.le ‹_› (by decide))
      intro H4 n1 l1 d1
      have hs4 := l1 _ _ hs1
      with_reducible refine' w_meth ?_
      refine' w_local m2 ?_
      with_reducible refine' me_Snapshot_row ‹_› hs4 ?_
      refine' cm_one (kp_of ‹_› rfl) ?_
      with_reducible refine' w_es_nil ?_
      refine Fn.go (fn_Snap_row hD (hs.le l1) ?_) (Room.le ‹_› (by decide))
      intro H5 n2 l2 d2
      skip
      refine c_neS ‹_› (d1.le l2) d2 deps_sn ?_
      with_reducible refine' tr_bool (br_f (a_or_nil (br_f (s_nil (md_next ?_)))))
      exact ⟨⟨m1, m4, trivial⟩, l1.trans l2⟩
    · rename_i p' q
      have z := hsp p' q
      subst z
      with_reducible refine' me_Snapshot_row ‹_› hs1 ?_
      refine' cm_one (kp_of ‹_› rfl) ?_
      with_reducible refine' w_es_nil ?_
      refine Fn.go (fn_Snap_row hD hs ?_) (Room.le ‹_› (by decide))
      intro H4 n1 l1 d1
      have hs4 := l1 _ _ hs1
      with_reducible refine' w_meth ?_
      refine' w_local m2 ?_
      with_reducible refine' me_Snapshot_row ‹_› hs4 ?_
      refine' cm_one (kp_of ‹_› rfl) ?_
      with_reducible refine' w_es_nil ?_
      refine Fn.go (fn_Snap_row hD (hs.le l1) ?_) (Room.le ‹_› (by decide))
      intro H5 n2 l2 d2
      skip
      refine c_neS ‹_› (d1.le l2) d2 deps_sn ?_
      with_reducible refine' tr_bool (br_f (a_or_nil (br_f (s_nil (md_next ?_)))))
      exact ⟨⟨m1, m4, trivial⟩, l1.trans l2⟩
  clear m1 m2 m3 m4 m5
  rintro ⟨mm, H4⟩ ⟨⟨m1, m2, _⟩, l1⟩
  have hat4 := hat0.le l1
  have hat5 := hat4
  have atX := hat4
  obtain ⟨⟨hle, hks, ⟨cf, sl, svs, hst, hsl, hsv⟩, ⟨sat, scf, sb, hsa⟩, hz1⟩, hkr, hku, hr, ⟨el, vs, hu, hel, hev⟩, hsn, hz2⟩ := atX
  have lsv := hsv.length
  have lev := hev.length
  with_reducible refine' s_one (s_ret (w_cmp (w_call ?_)))
  refine' gl_len ‹_› (kof ‹_› rfl) ?_
  refine' cv_raw rfl ?_
  with_reducible refine' w_es_cons (w_meth ?_)
  refine' w_local m1 ?_
  with_reducible refine' me_RaftLog_unstable_entries ‹_› hr ?_
  refine' cm_one (kp_of ‹_› rfl) ?_
  with_reducible refine' w_es_nil ?_
  refine' Fn.go (fn_unstable_entries ‹_› hat5 ?_) (Room.le ‹_› (by decide))
  intro n vs' hn hv
  have lv := hv.length
  have lz : vs'.length ≤ 1000 := by (first | lia | omega)
  have hn' : H4 n = none := hn
  with_reducible refine' w_es_nil ?_
  refine' f_len hs_self (by lia) ?_
  refine' w_local m2 ?_
  with_reducible refine' c_eq ?_
  rw [show ((vs'.length : Int) == t) = true by rw [beq_iff_eq]; (first | lia | omega)]
  exact h _ (l1.trans (Hp.Le.set _ hn'))
theorem fn_law_draw (hD : IsD D) (hp : H xl = some (.list (ns.map V.int))) (hz : 0 < ns.length ∧ ns.length ≤ 8) (hi : 0 ≤ i ∧ i ≤ 8) (h : Q (.int (ns.getD (i % ns.length).toNat 0 + 7919 * (i / ns.length))) H) : Fn D 1 763 [.ref xl, .int i] Q H := by
  refine fn_def (hK := by rw [hD.k]; k_is) (hcd := by rw [hD.k]; k_is) (ns := ["nums", "i"]) ?_ ?_ ?_ rfl rfl rfl ?_
  · exact fun _ _ => rfl
  · decide
  · decide
  intro c cD cn cs cc cr
  subst cD
  have lz : ((ns.map V.int).length : Int) = ns.length := by rw [List.length_map]
  have em : (i.fmod (ns.map V.int).length) = i % ns.length := by rw [lz]; exact Int.fmod_eq_emod_of_nonneg _ (by (first | lia | omega))
  have ed : (i.fdiv (ns.map V.int).length) = i / ns.length := by rw [lz]; exact Int.fdiv_eq_ediv_of_nonneg _ (by (first | lia | omega))
  have b1 := Int.emod_nonneg i (show (ns.length : Int) ≠ 0 by (first | lia | omega))
  have b2 := Int.emod_lt_of_pos i (show 0 < (ns.length : Int) by (first | lia | omega))
  have hx : (ns.map V.int)[(i.fmod (ns.map V.int).length).toNat]? = some (.int (ns.getD (i % ns.length).toNat 0)) := by
    rw [em, List.getElem?_map, List.getD_eq_getElem?_getD, List.getElem?_eq_getElem (by (first | lia | omega))]; rfl
  with_reducible refine' s_one (s_ret (w_bin (w_sub ?_)))
  refine' w_local rfl ?_
  with_reducible refine' w_bin ?_
  refine' w_local rfl ?_
  with_reducible refine' w_call ?_
  refine' gl_len ‹_› (kof ‹_› rfl) ?_
  refine' cv_raw rfl ?_
  with_reducible refine' w_es_cons ?_
  refine' w_local rfl ?_
  with_reducible refine' w_es_nil ?_
  refine' f_len hp (by simp only [List.length_append, List.length_cons, List.length_nil, List.length_map, List.length_set, List.length_take, List.length_drop, List.length_replicate]; exact (by lia)) ?_
  refine' b_mod (by lia) ?_
  refine' i_list hp (by lia) (by lia) hx ?_
  with_reducible refine' w_bin (w_int (w_bin ?_))
  refine' w_local rfl ?_
  with_reducible refine' w_call ?_
  refine' gl_len ‹_› (kof ‹_› rfl) ?_
  refine' cv_raw rfl ?_
  with_reducible refine' w_es_cons ?_
  refine' w_local rfl ?_
  with_reducible refine' w_es_nil ?_
  refine' f_len hp (by simp only [List.length_append, List.length_cons, List.length_nil, List.length_map, List.length_set, List.length_take, List.length_drop, List.length_replicate]; exact (by lia)) ?_
  refine' b_div (by lia) ?_
  refine' b_mul (IntMulOk.of_left (by decide)) ?_
  with_reducible refine' b_add ?_
  rw [ed]
  exact h
noncomputable def ords : List V := [.str "WTSC", .str "WSTC", .str "WTCS", .str "WSCT", .str "WCTS", .str "WCST", .str "CWTS", .str "CWST"]
theorem fn_law_orders (hD : IsD D) (h : ∀ n, H n = none → Q (.ref n) (H.set n (.list ords))) : Fn D 1 756 [] Q H := by
  refine fn_def (hK := by rw [hD.k]; k_is) (hcd := by rw [hD.k]; k_is) (ns := []) ?_ ?_ ?_ rfl rfl rfl ?_
  · exact rfl
  · decide
  · decide
  intro c cD cn cs cc cr
  subst cD
  with_reducible refine' s_one (s_ret (w_list (w_es_cons (w_str (w_es_cons (w_str (w_es_cons (w_str (w_es_cons (w_str (w_es_cons (w_str (w_es_cons (w_str (w_es_cons (w_str (w_es_cons (w_str (w_es_nil ?_)))))))))))))))))))
  refine' ⟨(Nat.le_of_ble_eq_true rfl), ?_⟩
  with_reducible refine' fun _ _ => ?_
  exact h _ ‹_›
end

end Rk
namespace Rk

section
variable {D : Wd} {d : Nat} {o o' : MO} {c : Cx} {E : Value → Shared → Prop} {σ : St} {H H' K K' : Hp} {w a b n xl r u st cf el sl sn hd : Addr} {m j q : Nat} {t i k com bg x : Int} {Q : V → Hp → Prop} {Qs : V → St → Prop} {vs us xs : List V} {cz : CS} {ns ts : List Int} {S : LS} {mm : Str → Option V} {bs : Array UInt8} {ds : List Dt} {p : Addr × Int × Int} {stored sure dn : Nat}
/-- the heap without three places -/
noncomputable def Hp.but (H : Hp) (r u st : Addr) : Hp := fun a => if a = r ∨ a = u ∨ a = st then none else H a
theorem but_le : (H.but r u st).Le H := fun b x e => by
  unfold Hp.but at e; split at e
  · cases e
  · exact e
theorem but_in (e : H a = some o) (h1 : a ≠ r) (h2 : a ≠ u) (h3 : a ≠ st) : (H.but r u st) a = some o := by
  unfold Hp.but; rw [if_neg (by rintro (h | h | h) <;> contradiction)]; exact e
theorem but_r : (H.but r u st) r = none := if_pos (.inl rfl)
theorem but_u : (H.but r u st) u = none := if_pos (.inr (.inl rfl))
theorem but_s : (H.but r u st) st = none := if_pos (.inr (.inr rfl))
/-- a log and its storage, just made -/
theorem at_new (h1 : H r = some (.inst 745 (RaftLogFs (.ref st) (.int NLim) (.ref u) (.int bg) (.int bg)))) (h2 : H u = some (.inst 535 (UnstableFs .none (.ref el) (.int (bg + 1))))) (h3 : H el = some (.list []))
    (h4 : H st = some (.inst 451 (MemoryStorageFs (.ref hd) (.ref cf) (.ref sn) (.int bg) (.int bg) (.ref sl)))) (h5 : H sl = some (.list [])) (h6 : H sn = some (.inst 346 (SnapshotFs (.int bg) (.int bg) (.ref cf) (.bytes #[])))) (hb : 0 ≤ bg ∧ bg ≤ 1) :
    At (H.but r u st) H r u st ⟨bg, bg, bg + 1, none, [], bg, bg, [], sn, bg, hd⟩ := by
  refine ⟨⟨but_le, but_s, ⟨cf, sl, [], h4, h5, trivial⟩, ⟨bg, cf, _, but_in h6 (ne_ob h6 h1 fun q => by cases q) (ne_ob h6 h2 fun q => by cases q) (ne_ob h6 h4 fun q => by cases q)⟩, ?_⟩, but_r, but_u, h1, ⟨el, [], h2, h3, trivial⟩, (fun _ q => by cases q), ?_⟩
  · dsimp only; simp; (first | lia | omega)
  · dsimp only; simp; (first | lia | omega)
noncomputable def begS (bg : Int) (ts : List Int) (stored sure dn : Nat) (sn hd : Addr) : LS := ⟨bg + sure, bg + dn, bg + 1 + stored, none, ts.drop stored, bg, bg, ts.take stored, sn, bg, hd⟩
theorem fn_law_begun (hD : IsD D) (hc : CfIs H cf cz) (hx : H xl = some (.list xs)) (hn : EntV H (bg + 1) xs ts) (hv : bg = if cz.v.length = 0 then 0 else 1) (hbg : bg = x % 2) (h0 : 0 ≤ x) (hl : ts.length ≤ 4) (ht : ∀ j : Nat, j < ts.length → tmE ts j = 1 + j)
    (e1 : (x / 6) % ((ts.length : Int) + 1) = stored) (e2 : (x / 18) % ((ts.length : Int) + 1) = sure) (e3 : (x / 54) % ((sure : Int) + 1) = dn) (z : stored ≤ ts.length ∧ sure ≤ ts.length ∧ dn ≤ sure)
    (h : Hold (∀ H' nt r u st sn hd K', H.Le H' → H.Le K' → At K' H' r u st (begS bg ts stored sure dn sn hd) → K' nt = some (.tup [.ref st, .ref r]) → K' hd = some (.inst 269 (HardStateFs (.int bg) (.int 0) (.int bg))) → SnIs K' (sn, bg, bg) cf cz #[] → Q (.ref nt) H')) : Fn D 5 770 [.int x, .ref cf, .ref xl] Q H := by
  refine fn_def (hK := by rw [hD.k]; k_is) (hcd := by rw [hD.k]; k_is) (ns := ["x", "conf", "stock"]) ?_ ?_ ?_ rfl rfl rfl ?_
  · exact fun _ _ _ => rfl
  · decide
  · decide
  intro c cD cn cs cc cr
  subst cD
  have lx := hn.length
  have hb01 : 0 ≤ bg ∧ bg ≤ 1 := by (first | lia | omega)
  have lxi : (xs.length : Int) = ts.length := by (first | lia | omega)
  have f1 : (x.fmod 2) = bg := by rw [hbg]; exact Int.fmod_eq_emod_of_nonneg _ (by (first | lia | omega))
  have f2 : (x.fdiv 6).fmod ((xs.length : Int) + 1) = stored := by
    rw [Int.fdiv_eq_ediv_of_nonneg _ (by (first | lia | omega)), Int.fmod_eq_emod_of_nonneg _ (by (first | lia | omega)), lxi]; exact e1
  have f3 : (x.fdiv 18).fmod ((xs.length : Int) + 1) = sure := by
    rw [Int.fdiv_eq_ediv_of_nonneg _ (by (first | lia | omega)), Int.fmod_eq_emod_of_nonneg _ (by (first | lia | omega)), lxi]; exact e2
  have f4 : (x.fdiv 54).fmod ((sure : Int) + 1) = dn := by
    rw [Int.fdiv_eq_ediv_of_nonneg _ (by (first | lia | omega)), Int.fmod_eq_emod_of_nonneg _ (by (first | lia | omega))]; exact e3
  refine ss_mid (fun σ => Nms σ.m [("x", .int x), ("conf", .ref cf), ("stock", .ref xl), ("begin", .int bg)] ∧ σ.H = H) ?_ ?_
  · with_reducible refine' s_assign (w_bin ?_)
    refine' w_local rfl ?_
    with_reducible refine' w_int (b_mod (by decide) ?_)
    refine' st_local (lof ‹_› ⟨rfl, rfl⟩) ?_
    with_reducible refine' md_next ?_
    rw [f1]
    exact ⟨⟨rfl, rfl, rfl, rfl, trivial⟩, rfl⟩
  rintro ⟨mm, H1⟩ ⟨⟨m1, m2, m3, m4, _⟩, e⟩
  have e : H1 = H := e
  subst e
  refine ss_mid (fun σ => Nms σ.m [("x", .int x), ("conf", .ref cf), ("stock", .ref xl), ("begin", .int bg), ("n", .int ts.length)] ∧ σ.H = H1) ?_ ?_
  · with_reducible refine' s_assign (w_call ?_)
    refine' gl_len ‹_› (kof ‹_› rfl) ?_
    refine' cv_raw rfl ?_
    with_reducible refine' w_es_cons ?_
    refine' w_local m3 ?_
    with_reducible refine' w_es_nil ?_
    refine' f_len hx (by lia) ?_
    refine' st_local (lof ‹_› ⟨rfl, rfl⟩) ?_
    with_reducible refine' md_next ?_
    rw [lxi]
    exact ⟨⟨m1, m2, m3, m4, rfl, trivial⟩, rfl⟩
  clear m1 m2 m3 m4
  rintro ⟨mm, H2⟩ ⟨⟨m1, m2, m3, m4, m5, _⟩, e⟩
  have e : H2 = H1 := e
  subst e
  rw [lxi] at f2 f3
  refine ss_mid (fun σ => Nms σ.m [("x", .int x), ("conf", .ref cf), ("stock", .ref xl), ("begin", .int bg), ("n", .int ts.length), ("stored", .int stored)] ∧ σ.H = H2) ?_ ?_
  · with_reducible refine' s_assign (w_bin (w_bin ?_))
    refine' w_local m1 ?_
    with_reducible refine' w_int (b_div (by decide) (w_bin ?_))
    refine' w_local m5 ?_
    with_reducible refine' w_int (b_add ?_)
    refine' b_mod (by lia) ?_
    refine' st_local (lof ‹_› ⟨rfl, rfl⟩) ?_
    with_reducible refine' md_next ?_
    rw [f2]
    exact ⟨⟨m1, m2, m3, m4, m5, rfl, trivial⟩, rfl⟩
  clear m1 m2 m3 m4 m5
  rintro ⟨mm, H3⟩ ⟨⟨m1, m2, m3, m4, m5, m6, _⟩, e⟩
  have e : H3 = H2 := e
  subst e
  refine ss_mid (fun σ => Nms σ.m [("x", .int x), ("stock", .ref xl), ("begin", .int bg), ("n", .int ts.length), ("stored", .int stored)] ∧ ∃ st hd sn sl, σ.m "storage" = some (.ref st) ∧ H3.Le σ.H ∧ σ.H st = some (.inst 451 (MemoryStorageFs (.ref hd) (.ref cf) (.ref sn) (.int bg) (.int bg) (.ref sl))) ∧ σ.H sl = some (.list []) ∧ σ.H hd = some (.inst 269 (HardStateFs (.int bg) (.int 0) (.int bg))) ∧ σ.H sn = some (.inst 346 (SnapshotFs (.int bg) (.int bg) (.ref cf) (.bytes #[]))) ∧ H3 st = none) ?_ ?_
  · with_reducible refine' s_assign (w_call ?_)
    refine' gl_MemoryStorage ‹_› (kof ‹_› rfl) ?_
    refine' cv_ref (kp_of ‹_› rfl) ?_
    with_reducible refine' w_es_cons ?_
    refine' w_local m2 ?_
    with_reducible refine' w_es_nil ?_
    refine nwc_MemoryStorage hD (Room.le ‹_› (by decide)) hc hv ?_
    intro H4 st hd sn sl l1 g1 g2 k1 k2 k3 k4
    refine' st_local (lof ‹_› ⟨rfl, rfl⟩) ?_
    with_reducible refine' md_next ?_
    exact ⟨⟨m1, m3, m4, m5, m6, trivial⟩, st, hd, sn, sl, rfl, l1, k1, k4, k2, k3, g1⟩
  clear m1 m2 m3 m4 m5 m6
  rintro ⟨mm, H4⟩ ⟨⟨m1, m2, m3, m4, m5, _⟩, st, hd, sn, sl, m6, l1, k1, k2, k3, k4, g0⟩
  have hs4 : StAt (H4.but st st st) H4 st ⟨bg, bg, bg + 1, none, [], bg, bg, [], sn, bg, hd⟩ :=
    ⟨but_le, but_s, ⟨cf, sl, [], k1, k2, trivial⟩, ⟨bg, cf, _, but_in k4 (ne_ob k4 k1 fun q => by cases q) (ne_ob k4 k1 fun q => by cases q) (ne_ob k4 k1 fun q => by cases q)⟩, by dsimp only; simp; (first | lia | omega)⟩
  refine ss_mid (fun σ => Nms σ.m [("x", .int x), ("stock", .ref xl), ("begin", .int bg), ("n", .int ts.length), ("stored", .int stored), ("storage", .ref st)] ∧ ∃ r u K, σ.m "log" = some (.ref r) ∧ H3.Le σ.H ∧ H3.Le K ∧ At K σ.H r u st ⟨bg, bg, bg + 1, none, [], bg, bg, [], sn, bg, hd⟩ ∧ K hd = some (.inst 269 (HardStateFs (.int bg) (.int 0) (.int bg))) ∧ K sn = some (.inst 346 (SnapshotFs (.int bg) (.int bg) (.ref cf) (.bytes #[])))) ?_ ?_
  · have m6' : mm "storage" = some (.ref st) := m6
    with_reducible refine' s_assign (w_call ?_)
    refine' gl_RaftLog ‹_› (kof ‹_› rfl) ?_
    refine' cv_ref (kp_of ‹_› rfl) ?_
    with_reducible refine' w_es_cons ?_
    refine' w_local m6' ?_
    with_reducible refine' w_es_cons ?_
    refine' gl_NO_LIMIT ‹_› (kof ‹_› rfl) ?_
    with_reducible refine' w_es_nil ?_
    refine nwc_RaftLog hD (Room.le ‹_› (by decide)) hs4 ?_
    intro H5 r u el l2 n1 n2 n3 j1 j2 j3
    have c1 := l2 _ _ k1
    have c2 := l2 _ _ k2
    have c3 := l2 _ _ k3
    have c4 := l2 _ _ k4
    have hat := at_new (bg := bg) (by exact j1) (by simpa using j2) j3 c1 c2 c4 hb01
    refine' st_local (lof ‹_› ⟨rfl, rfl⟩) ?_
    with_reducible refine' md_next ?_
    refine ⟨⟨m1, m2, m3, m4, m5, m6', trivial⟩, r, u, _, rfl, l1.trans l2, fun b y e => ?_, hat, but_in c3 (ne_ob c3 j1 fun q => by cases q) (ne_ob c3 j2 fun q => by cases q) (ne_ob c3 c1 fun q => by cases q), but_in c4 (ne_ob c4 j1 fun q => by cases q) (ne_ob c4 j2 fun q => by cases q) (ne_ob c4 c1 fun q => by cases q)⟩
    have e4 : H4 b = some y := l1 _ _ e
    have n1' : H4 r = none := n1
    have n2' : H4 u = none := n2
    exact but_in (l2 _ _ e4) (fun q => by rw [q, n1'] at e4; cases e4) (fun q => by rw [q, n2'] at e4; cases e4) (fun q => by rw [q, g0] at e; cases e)
  clear m1 m2 m3 m4 m5 m6 hs4 k1 k2 k3 k4 l1
  rintro ⟨mm, H5⟩ ⟨⟨m1, m2, m3, m4, m5, m6, _⟩, r, u, K, m7, l1, lk, hat, kh, ks⟩
  have hx5 := l1 _ _ hx
  have hn5 := hn.le lk
  refine ss_mid (fun σ => Nms σ.m [("x", .int x), ("stock", .ref xl), ("begin", .int bg), ("n", .int ts.length), ("stored", .int stored), ("storage", .ref st), ("log", .ref r)] ∧ At K σ.H r u st ⟨bg, bg, bg + 1, none, ts, bg, bg, [], sn, bg, hd⟩) ?_ ?_
  · have m7' : mm "log" = some (.ref r) := m7
    have hr := hat.r
    with_reducible refine' s_ex (w_meth ?_)
    refine' w_local m7' ?_
    with_reducible refine' me_RaftLog_append ‹_› hr ?_
    refine' cm_one (kp_of ‹_› rfl) ?_
    with_reducible refine' w_es_cons ?_
    refine' w_local m2 ?_
    with_reducible refine' w_es_nil ?_
    refine Fn.go (fn_append hD hat hx5 hn5 rfl ?_ (by dsimp only; (first | lia | omega)) (by (first | lia | omega)) ?_) (Room.le ‹_› (by decide))
    · unfold LS.last; simp
    · intro H6 i6 hat6
      refine' ⟨rfl, ?_⟩
      with_reducible refine' md_next ?_
      exact ⟨⟨m1, m2, m3, m4, m5, m6, m7', trivial⟩, hat6⟩
  clear m1 m2 m3 m4 m5 m6 m7 hat l1 hx5
  rintro ⟨mm, H6⟩ ⟨⟨m1, m2, m3, m4, m5, m6, m7, _⟩, hat⟩
  have hx6 := hat.t.le _ _ (lk _ _ hx)
  have szx : xs.length ≤ 1000 := by (first | lia | omega)
  refine ss_mid (fun σ => Nms σ.m [("x", .int x), ("begin", .int bg), ("n", .int ts.length), ("stored", .int stored), ("storage", .ref st), ("log", .ref r)] ∧ At K σ.H r u st ⟨bg, bg, bg + 1, none, ts, bg, bg, ts.take stored, sn, bg, hd⟩) ?_ ?_
  · obtain ⟨sc, ssl, svs, hst, _, _⟩ := hat.t.s
    with_reducible refine' s_ex (w_meth ?_)
    refine' w_local m6 ?_
    with_reducible refine' me_MemoryStorage_append ‹_› hst ?_
    refine' cm_one (kp_of ‹_› rfl) ?_
    with_reducible refine' w_es_cons (w_slice ?_)
    refine' w_local m2 ?_
    with_reducible refine' p_none (p_some ?_)
    refine' w_local m5 ?_
    refine' slx hx6 (by lia) bdn (bdi (by first | lia | omega)) ?_
    with_reducible refine' fun _ _ => w_es_nil ?_
    rename_i n7 hn7
    have hn7' : H6 n7 = none := hn7
    have e7 : slc xs none (some (stored : Int)) = xs.take stored := by simp [slc]
    have hat7 := hat.le (Hp.Le.set (o := .list (slc xs none (some (stored : Int)))) hn7')
    refine Fn.go (fn_st_append hD hat7 hs_self (ts := ts.take stored) ?_ rfl (by rw [List.length_take]; (first | lia | omega)) ?_) (Room.le ‹_› (by decide))
    · rw [e7]; exact hn5.take _
    · intro H8 hat8
      refine' ⟨rfl, ?_⟩
      with_reducible refine' md_next ?_
      exact ⟨⟨m1, m3, m4, m5, m6, m7, trivial⟩, hat8⟩
  clear m1 m2 m3 m4 m5 m6 m7 hat hx6
  rintro ⟨mm, H7⟩ ⟨⟨m1, m3, m4, m5, m6, m7, _⟩, hat⟩
  refine ss_mid (fun σ => Nms σ.m [("x", .int x), ("begin", .int bg), ("n", .int ts.length), ("stored", .int stored), ("storage", .ref st), ("log", .ref r)] ∧ At K σ.H r u st ⟨bg, bg, bg + 1 + stored, none, ts.drop stored, bg, bg, ts.take stored, sn, bg, hd⟩) ?_ ?_
  · have hr := hat.r
    with_reducible refine' s_ex (w_meth ?_)
    refine' w_local m7 ?_
    with_reducible refine' me_RaftLog_stable_to ‹_› hr ?_
    refine' cm_one (kp_of ‹_› rfl) ?_
    with_reducible refine' w_es_cons (w_bin ?_)
    refine' w_local m3 ?_
    refine' w_local m5 ?_
    with_reducible refine' b_add (w_es_cons ?_)
    refine' w_local m5 ?_
    with_reducible refine' w_es_nil ?_
    refine Fn.go (fn_stable_to hD hat (m := stored) (by dsimp only; (first | lia | omega)) (by dsimp only; (first | lia | omega)) (by dsimp only; (first | lia | omega)) ?_ ?_) (Room.le ‹_› (by decide))
    · intro q
      dsimp only
      rw [show (stored : Int) - 1 = ((stored - 1 : Nat) : Int) by (first | lia | omega), ht (stored - 1) (by (first | lia | omega))]
      (first | lia | omega)
    · intro H8 hat8
      refine' ⟨rfl, ?_⟩
      with_reducible refine' md_next ?_
      exact ⟨⟨m1, m3, m4, m5, m6, m7, trivial⟩, hat8⟩
  clear m1 m3 m4 m5 m6 m7 hat
  rintro ⟨mm, H8⟩ ⟨⟨m1, m3, m4, m5, m6, m7, _⟩, hat⟩
  refine ss_mid (fun σ => Nms σ.m [("x", .int x), ("begin", .int bg), ("storage", .ref st), ("log", .ref r), ("sure", .int sure)] ∧ At K σ.H r u st ⟨bg, bg, bg + 1 + stored, none, ts.drop stored, bg, bg, ts.take stored, sn, bg, hd⟩) ?_ ?_
  · with_reducible refine' s_assign (w_bin (w_bin ?_))
    refine' w_local m1 ?_
    with_reducible refine' w_int (b_div (by decide) (w_bin ?_))
    refine' w_local m4 ?_
    with_reducible refine' w_int (b_add ?_)
    refine' b_mod (by lia) ?_
    refine' st_local (lof ‹_› ⟨rfl, rfl⟩) ?_
    with_reducible refine' md_next ?_
    rw [f3]
    exact ⟨⟨m1, m3, m6, m7, rfl, trivial⟩, hat⟩
  clear m1 m3 m4 m5 m6 m7 hat
  rintro ⟨mm, H9⟩ ⟨⟨m1, m3, m6, m7, m8, _⟩, hat⟩
  have hla : (⟨bg, bg, bg + 1 + stored, none, ts.drop stored, bg, bg, ts.take stored, sn, bg, hd⟩ : LS).last = bg + ts.length := by
    unfold LS.last
    dsimp only
    rw [List.length_drop, List.length_take]
    split <;> (first | lia | omega)
  refine ss_mid (fun σ => Nms σ.m [("x", .int x), ("begin", .int bg), ("storage", .ref st), ("log", .ref r), ("sure", .int sure)] ∧ At K σ.H r u st ⟨bg + sure, bg, bg + 1 + stored, none, ts.drop stored, bg, bg, ts.take stored, sn, bg, hd⟩) ?_ ?_
  · have hr := hat.r
    with_reducible refine' s_ex (w_meth ?_)
    refine' w_local m7 ?_
    with_reducible refine' me_RaftLog_commit_to ‹_› hr ?_
    refine' cm_one (kp_of ‹_› rfl) ?_
    with_reducible refine' w_es_cons (w_bin ?_)
    refine' w_local m3 ?_
    refine' w_local m8 ?_
    with_reducible refine' b_add (w_es_nil ?_)
    refine Fn.go (fn_commit_to hD hat (by rw [hla]; (first | lia | omega)) ?_) (Room.le ‹_› (by decide))
    intro H10 hat10
    refine' ⟨rfl, ?_⟩
    with_reducible refine' md_next ?_
    refine ⟨⟨m1, m3, m6, m7, m8, trivial⟩, ?_⟩
    rw [show bg + (sure : Int) = max bg (bg + sure) by (first | lia | omega)]
    exact hat10
  clear m1 m3 m6 m7 m8 hat hla
  rintro ⟨mm, H10⟩ ⟨⟨m1, m3, m6, m7, m8, _⟩, hat⟩
  refine ss_mid (fun σ => Nms σ.m [("storage", .ref st), ("log", .ref r)] ∧ At K σ.H r u st (begS bg ts stored sure dn sn hd)) ?_ ?_
  · have hr := hat.r
    with_reducible refine' s_ex (w_meth ?_)
    refine' w_local m7 ?_
    with_reducible refine' me_RaftLog_applied_to ‹_› hr ?_
    refine' cm_one (kp_of ‹_› rfl) ?_
    with_reducible refine' w_es_cons (w_bin ?_)
    refine' w_local m3 ?_
    with_reducible refine' w_bin (w_bin ?_)
    refine' w_local m1 ?_
    with_reducible refine' w_int (b_div (by decide) (w_bin ?_))
    refine' w_local m8 ?_
    with_reducible refine' w_int (b_add ?_)
    refine' b_mod (by lia) ?_
    with_reducible refine' b_add (w_es_nil ?_)
    rw [f4]
    refine Fn.go (fn_applied_to hD hat (by dsimp only; (first | lia | omega)) ?_) (Room.le ‹_› (by decide))
    intro H11 hat11
    refine' ⟨rfl, ?_⟩
    with_reducible refine' md_next ?_
    exact ⟨⟨m6, m7, trivial⟩, hat11⟩
  clear m1 m3 m6 m7 m8 hat
  rintro ⟨mm, H11⟩ ⟨⟨m6, m7, _⟩, hat⟩
  have l11 := hat.t.le
  with_reducible refine' s_one (s_ret (w_tuple (w_es_cons ?_)))
  refine' w_local m6 ?_
  with_reducible refine' w_es_cons ?_
  refine' w_local m7 ?_
  with_reducible refine' w_es_nil ?_
  refine' ⟨(Nat.le_of_ble_eq_true rfl), ?_⟩
  with_reducible refine' fun _ _ => ?_
  rename_i nt hnt
  have hnt' : H11 nt = none := hnt
  refine h _ nt r u st sn hd _ ((lk.trans l11).trans (Hp.Le.set _ hnt')) (lk.trans (Hp.Le.set _ (hat.non hnt'))) (hat.new hnt') hs_self (hs_new (hat.non hnt') kh) ⟨hs_new (hat.non hnt') ks, hc.le (lk.trans (Hp.Le.set _ (hat.non hnt')))⟩
end

end Rk
namespace Rk

section
variable {D : Wd} {d : Nat} {o o' : MO} {c : Cx} {E : Value → Shared → Prop} {σ : St} {H H' K K' : Hp} {w a b n xl r u st cf el : Addr} {m j q : Nat} {t i k com bg x : Int} {Q : V → Hp → Prop} {Qs : V → St → Prop} {vs us xs : List V} {cz : CS} {ns ts : List Int} {S : LS} {mm : Str → Option V} {bs : Array UInt8} {ds : List Dt} {p : Addr × Int × Int} {stored sure dn : Nat}
theorem fnU_Entry_row (hD : IsD D) (ha : H a = some (.inst 213 (EntryFs (.int t) (.int i) (.int 0) (.bytes #[])))) (h : ∀ n, H n = none → Q (.ref n) (H.set n (.tup [.int t, .int i, .int 0, .bytes #[]]))) : FnU D 1 189 [.ref a] Q H := by
  refine fnU_def (hK := by rw [hD.k]; k_is) (hcd := by rw [hD.k]; k_is) (ns := ["self"]) ?_ ?_ ?_ rfl rfl rfl ?_
  · exact fun _ => rfl
  · decide
  · decide
  intro c eh cD cn cs cc cr hh hp
  subst cD
  with_reducible refine' s_one (s_ret (w_tuple (w_es_cons (att ?_))))
  refine' w_local rfl ?_
  refine' gfG ‹_› ha rfl rfl rfl ?_
  with_reducible refine' w_es_cons (att ?_)
  refine' w_local rfl ?_
  refine' gfG ‹_› ha rfl rfl rfl ?_
  with_reducible refine' w_es_cons (att ?_)
  refine' w_local rfl ?_
  refine' gfG ‹_› ha rfl rfl rfl ?_
  with_reducible refine' w_es_cons (att ?_)
  refine' w_local rfl ?_
  refine' gfG ‹_› ha rfl rfl rfl ?_
  with_reducible refine' w_es_nil ?_
  refine' ⟨(Nat.le_of_ble_eq_true rfl), ?_⟩
  with_reducible refine' fun _ _ => ?_
  exact h _ ‹_›
theorem fnU_Un_row (hD : IsD D) (hat : At K H r u st S) (hs0 : S.sn = none) (h : Hold (∀ H' n, H.Le H' → DIs H' (.ref n) (unD S) → Q (.ref n) H')) : FnU D 2 532 [.ref u] Q H := by
  refine fnU_def (hK := by rw [hD.k]; k_is) (hcd := by rw [hD.k]; k_is) (ns := ["self"]) ?_ ?_ ?_ rfl rfl rfl ?_
  · exact fun _ => rfl
  · decide
  · decide
  intro c eh cD cn cs cc cr hh hp
  subst cD
  have atX := hat
  obtain ⟨⟨hle, hks, ⟨cf, sl, svs, hst, hsl, hsv⟩, ⟨sat, scf, sb, hsa⟩, hz1⟩, hkr, hku, hr, ⟨el, vs, hu, hel, hev⟩, hsn, hz2⟩ := atX
  have lsv := hsv.length
  have lev := hev.length
  rw [hs0] at hu; dsimp only [snv] at hu
  with_reducible refine' s_cons (s_assign (w_list (w_es_nil ?_)))
  refine' ⟨(Nat.le_of_ble_eq_true rfl), ?_⟩
  with_reducible refine' fun _ _ => ?_
  refine' st_local (lof ‹_› ⟨rfl, rfl⟩) ?_
  with_reducible refine' th_next (s_cons (s_for (att ?_)))
  refine' w_local rfl ?_
  refine' gfG ‹_› (hg_up (hg_new (by with_reducible assumption) hu)) rfl rfl rfl ?_
  with_reducible refine' it_list (hg_up (hg_new (by with_reducible assumption) hel)) (fun _ _ => itx ?_)
  rename_i rn hrn it hit
  have hrn' : H rn = none := hrn
  have hit' : (H.set rn (.list [])) it = none := hit
  have hit2 := none_set hit'
  have nri : rn ≠ it := fun q => by rw [q, ← q, Hp.set_self] at hit'; cases hit'
  refine loop_listU hh (l := el) (vs := vs) (fun j σ => Nms σ.m [("self", .ref u), ("rows", .ref rn)] ∧ σ.H it = some (.li el j) ∧ H.Le σ.H ∧ ∃ ws, σ.H rn = some (.list ws) ∧ ERow σ.H S.off ws (S.es.take j)) ?_ ?_ ?_ (by with_unfolding_all rfl) (Nat.zero_le _) ⟨⟨rfl, rfl, trivial⟩, hs_self, (Hp.Le.set _ hrn').trans (Hp.Le.set _ hit'), [], hs_ne nri hs_self, by simp [ERow]⟩
  · rintro j σ ⟨_, h2, h3, _⟩
    exact ⟨h2, h3 _ _ hel, hp.le h3⟩
  · rintro j v ⟨mm, H1⟩ lt hv ⟨⟨m1, m2, _⟩, h2, h3, ws, h4, h5⟩
    obtain ⟨x, a, q1, rfl, q2⟩ := hev.at hv
    have m2' : mm "rows" = some (.ref rn) := m2
    have l1 : H.Le (H1.set it (.li el (j + 1))) := Hp.Le.setN hit2 h3
    have q2' := l1 _ _ (hle _ _ q2)
    have k2 : (H1.set it (.li el (j + 1))) rn = some (.list ws) := hs_ne nri h4
    have k3 : (H1.set it (.li el (j + 1))) it = some (.li el (j + 1)) := hs_self
    have k5 : ERow (H1.set it (.li el (j + 1))) S.off ws (S.es.take j) := h5.tle (tle_set h2 fun _ q => by cases q)
    have lw := k5.length
    have lt2 : j < S.es.length := by (first | lia | omega)
    rw [List.length_take] at lw
    show c.Asg Nope _ _ _ ⟨mm, H1.set it (.li el (j + 1))⟩
    generalize H1.set it (.li el (j + 1)) = H2 at l1 q2' k2 k3 k5 ⊢
    with_reducible refine' as_name ?_
    refine' st_local (lof ‹_› ⟨rfl, rfl⟩) ?_
    with_reducible refine' s_one (s_ex (w_meth ?_))
    refine' w_local m2' ?_
    with_reducible refine' m_append k2 ?_
    refine' cm_one rfl ?_
    with_reducible refine' w_es_cons (w_meth ?_)
    refine' w_local rfl ?_
    with_reducible refine' me_Entry_row ‹_› q2' ?_
    refine' cm_one (kp_of ‹_› rfl) ?_
    with_reducible refine' w_es_nil ?_
    refine FnU.go (fnU_Entry_row hD q2' fun n3 hn3' => ?_) (RoomU.le cr (by decide)) hh (hp.le l1)
    with_reducible refine' w_es_nil ?_
    refine' c_append (hg_new hn3' k2) (by lia) ?_
    refine' ⟨rfl, ?_⟩
    with_reducible refine' tu_next ?_
    have e3 : (H2.set n3 (.tup [.int x, .int (S.off + j), .int 0, .bytes #[]])) rn = some (.list ws) := hs_new hn3' k2
    refine ⟨⟨m1, m2', trivial⟩, hs_ne (Ne.symm nri) (hs_new hn3' k3), Hp.Le.setN hrn' (l1.trans (Hp.Le.set _ hn3')), ws ++ [.ref n3], hs_self, ?_⟩
    rw [show S.es.take (j + 1) = S.es.take j ++ [x] by rw [List.take_add_one, q1]; rfl]
    have t1 := tle_set (o' := .list (ws ++ [.ref n3])) e3 fun _ q => by cases q
    refine ERow.app ((k5.tle (Hp.Le.set _ hn3').t).tle t1) ?_
    refine ⟨⟨n3, rfl, t1 _ _ ?_⟩, trivial⟩
    rw [List.length_take, show min j S.es.length = j by (first | lia | omega)]
    exact hs_self
  · rintro ⟨mm, H1⟩ ⟨⟨m1, m2, _⟩, h2, h3, ws, h4, h5⟩
    have m1' : mm "self" = some (.ref u) := m1
    have m2' : mm "rows" = some (.ref rn) := m2
    rw [show S.es.take vs.length = S.es by rw [lev, List.take_length]] at h5
    have lw := h5.length
    have l2 : H.Le (H1.del it) := Hp.Le.del h3 hit2
    have k4 : (H1.del it) rn = some (.list ws) := hs_del nri h4
    have k5 : ERow (H1.del it) S.off ws S.es := h5.tle (tle_del h2 fun _ q => by cases q)
    have hu2 := l2 _ _ hu
    clear h4 h5 h2 h3
    show c.Ss Nope _ _ ⟨mm, H1.del it⟩
    generalize H1.del it = H2 at l2 k4 k5 hu2 ⊢
    with_reducible refine' s_cons (s_assign (w_none ?_))
    refine' st_local (lof ‹_› ⟨rfl, rfl⟩) ?_
    with_reducible refine' th_next (s_cons (s_if (t_cmp (att ?_))))
    refine' w_local m1' ?_
    refine' gfG ‹_› hu2 rfl rfl rfl ?_
    with_reducible refine' w_none (c_isnt (tr_bool ?_))
    refine' br_F rfl ?_
    with_reducible refine' s_nil (th_next (s_one (s_ret (w_tuple (w_es_cons (att ?_))))))
    refine' w_local m1' ?_
    refine' gfG ‹_› hu2 rfl rfl rfl ?_
    with_reducible refine' w_es_cons (w_call ?_)
    refine' gl_tuple ‹_› (kof ‹_› rfl) ?_
    refine' cv_raw rfl ?_
    with_reducible refine' w_es_cons ?_
    refine' w_local m2' ?_
    with_reducible refine' w_es_nil ?_
    refine' f_tuple k4 (by lia) ?_
    with_reducible refine' fun _ _ => w_es_cons ?_
    refine' w_local rfl ?_
    with_reducible refine' w_es_nil ?_
    refine' ⟨(Nat.le_of_ble_eq_true rfl), ?_⟩
    with_reducible refine' fun _ _ => ?_
    rename_i n1 g1 n2 g2
    have g1 : H2 n1 = none := g1
    have l3 := (Hp.Le.set (o := .tup ws) g1).trans (Hp.Le.set (o := .tup [.int S.off, .ref n1, .none]) g2)
    exact h _ n2 (l2.trans l3) (dis_tup hs_self (ds_cons dis_int (ds_cons (dis_tup (hs_new g2 hs_self) (k5.tle l3.t).ds) (ds_cons dis_none ds_nil))))
theorem fnU_Log_row (hD : IsD D) (hat : At K H r u st S) (hs0 : S.sn = none) (h : Hold (∀ H' n, H.Le H' → DIs H' (.ref n) (loD S) → Q (.ref n) H')) : FnU D 3 742 [.ref r] Q H := by
  refine fnU_def (hK := by rw [hD.k]; k_is) (hcd := by rw [hD.k]; k_is) (ns := ["self"]) ?_ ?_ ?_ rfl rfl rfl ?_
  · exact fun _ => rfl
  · decide
  · decide
  intro c eh cD cn cs cc cr hh hp
  subst cD
  have atX := hat
  obtain ⟨⟨hle, hks, ⟨cf, sl, svs, hst, hsl, hsv⟩, ⟨sat, scf, sb, hsa⟩, hz1⟩, hkr, hku, hr, ⟨el, vs, hu, hel, hev⟩, hsn, hz2⟩ := atX
  have lsv := hsv.length
  have lev := hev.length
  with_reducible refine' s_one (s_ret (w_tuple (w_es_cons (att ?_))))
  refine' w_local rfl ?_
  refine' gfG ‹_› hr rfl rfl rfl ?_
  with_reducible refine' w_es_cons (att ?_)
  refine' w_local rfl ?_
  refine' gfG ‹_› hr rfl rfl rfl ?_
  with_reducible refine' w_es_cons (w_meth (att ?_))
  refine' w_local rfl ?_
  refine' gfG ‹_› hr rfl rfl rfl ?_
  with_reducible refine' me_Unstable_row ‹_› hu ?_
  refine' cm_one (kp_of ‹_› rfl) ?_
  with_reducible refine' w_es_nil ?_
  refine FnU.go (fnU_Un_row hD hat hs0 ?_) (RoomU.le cr (by decide)) hh hp
  intro H1 n1 l1 d1
  have hr2 := l1 _ _ hr
  with_reducible refine' w_es_nil ?_
  refine' ⟨(Nat.le_of_ble_eq_true rfl), ?_⟩
  with_reducible refine' fun _ _ => ?_
  rename_i n2 g2
  have g2 : H1 n2 = none := g2
  have l2 := Hp.Le.set (o := .tup [.int S.com, .int S.app, .ref n1]) g2
  exact h _ n2 (l1.trans l2) (dis_tup hs_self (ds_cons dis_int (ds_cons dis_int (ds_cons (d1.le l2) ds_nil))))
/-- the log refuses a snapshot before its commit, and stays as it was -/
theorem fn_law_refuses (hD : IsD D) (hat : At K H r u st S) (hs0 : S.sn = none) (hp : SnpAt H p) (hb : 0 ≤ p.2.1 ∧ p.2.1 < S.com ∧ S.com ≤ 100) (h : Hold (∀ H', H.Le H' → Q (.bool true) H')) : Fn D 6 777 [.ref r, .ref p.1] Q H := by
  refine fn_defO (hK := by rw [hD.k]; k_is) (hcd := by rw [hD.k]; k_is) (ns := ["log", "snap"]) ?_ ?_ ?_ rfl rfl rfl ?_
  · exact fun _ _ => rfl
  · decide
  · decide
  intro c cD cn cs cc co cr
  subst cD
  have hr := hat.r
  with_reducible refine' s_cons (s_assign (w_meth ?_))
  refine' w_local rfl ?_
  with_reducible refine' me_RaftLog_row ‹_› hr ?_
  refine' cm_one (kp_of ‹_› rfl) ?_
  with_reducible refine' w_es_nil ?_
  refine Fn.go (fn_Log_row hD hat hs0 ?_) (Room.le ‹_› (by decide))
  intro H1 n1 l1 d1
  have hr1 := l1 _ _ hr
  refine' st_local (lof ‹_› ⟨rfl, rfl⟩) ?_
  with_reducible refine' th_next (s_cons ?_)
  refine s_tryU co (P := fun C σ => C = 140 ∧ Nms σ.m [("log", .ref r), ("row", .ref n1)] ∧ σ.H = H1) ?_ ?_
  · with_reducible refine' s_one (s_ex (w_meth ?_))
    refine' w_local rfl ?_
    with_reducible refine' me_RaftLog_restore ‹_› hr1 ?_
    refine' cm_one (kp_of ‹_› rfl) ?_
    with_reducible refine' w_es_cons ?_
    refine' w_local rfl ?_
    with_reducible refine' w_es_nil ?_
    refine FnX.go (fn_restoreX hD (hat.le l1) (hp.le l1) hb ⟨rfl, ⟨rfl, rfl, trivial⟩, rfl⟩) (Room.le ‹_› (by decide))
  · rintro _ ⟨mm, H2⟩ ⟨rfl, ⟨m1, m2, _⟩, e⟩
    replace e : H2 = H1 := e
    subst e
    refine ⟨fun L a cd => ?_, fun e oe he fo => ?_⟩
    · rw [hD.k, cs]
      kts_test
    have he' : H2 e = none := he
    have l2 := Hp.Le.set (o := .obj oe) he'
    have pin : PinH (H2.set e (.obj oe)) e := ⟨oe, hs_self, fo⟩
    have cr2 : (c.atA (c.A.mark (some (.ref e)))).RoomU 5 := ⟨cr.1, cr.2⟩
    have hh2 : (c.atA (c.A.mark (some (.ref e)))).A.handled = some (.ref e) := rfl
    have hD2 : IsD (c.atA (c.A.mark (some (.ref e)))).D := hD
    have cs2 : (c.atA (c.A.mark (some (.ref e)))).sc = _ := cs
    have hat2 := (hat.le l1).le l2
    have d2 := d1.le l2
    show Cx.Ss _ _ _ _ ⟨mm, H2.set e (.obj oe)⟩
    generalize c.atA (c.A.mark (some (.ref e))) = c2 at cr2 hh2 hD2 cs2 ⊢
    generalize H2.set e (.obj oe) = H3 at l2 pin hat2 d2 ⊢
    have hr3 := hat2.r
    with_reducible refine' s_one (s_ret (w_cmp (w_meth ?_)))
    refine' w_local m1 ?_
    with_reducible refine' me_RaftLog_row ‹_› hr3 ?_
    refine' cm_one (kp_of ‹_› rfl) ?_
    with_reducible refine' w_es_nil ?_
    refine FnU.go (fnU_Log_row hD2 hat2 hs0 ?_) (RoomU.le cr2 (by decide)) hh2 pin
    intro H4 n2 l4 d3
    refine' w_local m2 ?_
    refine c_eqSU (d := 5) (ds := [.int S.com, .int S.app, unD S]) cr2 d3 (d2.le l4) ?_ ?_
    · have := deps_ents (ts := S.es) (i := S.off)
      simp only [deps, dep, unD]
      (first | lia | omega)
    with_reducible refine' th_ret ?_
    exact h _ ((l1.trans l2).trans l4)
end

end Rk
section
namespace Rk
structure LP where
  bg : Int
  s : Int
  top : Int
  n : Nat
  stored : Nat
  sure : Nat
  dn : Nat
  k : Nat
  told : Nat
structure LP.Ok (P : LP) : Prop where
  b : 0 ≤ P.bg ∧ P.bg ≤ 1
  n : P.n ≤ 2
  z : P.stored ≤ P.n ∧ P.sure ≤ P.n ∧ P.dn ≤ P.sure
  k : P.k ≤ 2
  s : P.bg + 1 ≤ P.s ∧ P.bg + P.sure ≤ P.s ∧ P.s ≤ 10
  t : P.s ≤ P.top ∧ P.top ≤ P.s + P.k
  o : P.told ≤ P.k
noncomputable def LP.ts (P : LP) : List Int := (List.range P.n).map fun (j : Nat) => (1 + (j : Int) : Int)
noncomputable def LP.tl (P : LP) : List Int := (List.range P.k).map fun (j : Nat) => (6 + (j : Int) : Int)
theorem LP.ts_len (P : LP) : P.ts.length = P.n := by simp [LP.ts]
theorem LP.tl_len (P : LP) : P.tl.length = P.k := by simp [LP.tl]
theorem LP.ts_at (P : LP) (j : Nat) (h : j < P.n) : tmE P.ts j = 1 + j := by
  unfold tmE LP.ts
  rw [Int.toNat_natCast, List.getElem?_map, List.getElem?_range h]; rfl
theorem LP.tl_at (P : LP) (j : Nat) (h : j < P.k) : tmE P.tl j = 6 + j := by
  unfold tmE LP.tl
  rw [Int.toNat_natCast, List.getElem?_map, List.getElem?_range h]; rfl
theorem LP.tl_get (P : LP) (j : Nat) (h : j < P.k) : P.tl[j]? = some (6 + (j : Int)) := by
  unfold LP.tl; rw [List.getElem?_map, List.getElem?_range h]; rfl
theorem LP.tl_tb (P : LP) (h : P.k ≤ 2) : TB P.tl := fun j t q => by
  have lt : j < P.k := by have := (List.getElem?_eq_some_iff.mp q).1; rw [P.tl_len] at this; exact this
  rw [P.tl_get j lt] at q; cases q; (first | lia | omega)
structure Fg where
  w : Bool
  t : Bool
  f : Bool
  c : Bool
noncomputable def Fg.Ok (g : Fg) : Prop := (g.t = true → g.w = true) ∧ (g.f = true → g.w = true)
noncomputable def lawS (P : LP) (sp sn0 hd0 : Addr) (g : Fg) : LS :=
  { com := if g.c then P.top else P.s, app := P.bg + P.dn, off := P.s + 1 + (if g.t then (P.told : Int) else 0), sn := if g.f then none else some (sp, P.s, 5), es := if g.t then P.tl.drop P.told else P.tl,
    base := if g.w then P.s else P.bg, bt := if g.w then 5 else P.bg, ss := if g.w then P.tl else P.ts.take P.stored, sa := if g.w then sp else sn0, si := if g.w then P.s else P.bg, hd := hd0 }
section
variable {P : LP} {sp sn0 hd0 : Addr} {g : Fg}
theorem lawS_first (h : P.Ok) (o : g.Ok) : (lawS P sp sn0 hd0 g).first = P.s + 1 := by
  obtain ⟨w, t, f, c⟩ := g
  obtain ⟨o1, o2⟩ := o
  cases f with
  | false => exact LS.first_some (p := (sp, P.s, 5)) rfl
  | true =>
    have : w = true := o2 rfl
    subst this
    exact LS.first_none rfl
theorem lawS_last (h : P.Ok) (o : g.Ok) : (lawS P sp sn0 hd0 g).last = P.s + P.k := by
  obtain ⟨w, t, f, c⟩ := g
  obtain ⟨o1, o2⟩ := o
  have hk := P.tl_len
  have ho := h.o
  unfold LS.last lawS
  dsimp only
  cases t with
  | false =>
    simp only [Bool.false_eq_true, if_false]
    rw [hk]
    by_cases z : P.k = 0
    · rw [if_neg (by (first | lia | omega))]
      cases f with
      | false => simp only [Bool.false_eq_true, if_false]; (first | lia | omega)
      | true =>
        have : w = true := o2 rfl
        subst this
        simp only [if_true]
        rw [hk]
    · rw [if_pos z]; (first | lia | omega)
  | true =>
    have : w = true := o1 rfl
    subst this
    simp only [if_true]
    rw [List.length_drop, hk]
    by_cases z : P.k - P.told = 0
    · rw [if_neg (by (first | lia | omega))]
      cases f with
      | false => simp only [Bool.false_eq_true, if_false]; (first | lia | omega)
      | true => simp only [if_true]
    · rw [if_pos z]; (first | lia | omega)
theorem lawS_len (h : P.Ok) : ((lawS P sp sn0 hd0 g).es.length : Int) = if g.t then (P.k : Int) - P.told else P.k := by
  have hk := P.tl_len
  have ho := h.o
  unfold lawS
  dsimp only
  cases g.t with
  | false => simp only [Bool.false_eq_true, if_false]; (first | lia | omega)
  | true => simp only [if_true]; rw [List.length_drop]; (first | lia | omega)
theorem lawS_next (h : P.Ok) (o : g.Ok) : ((lawS P sp sn0 hd0 g).sn.isNone && decide (max ((lawS P sp sn0 hd0 g).app + 1) (lawS P sp sn0 hd0 g).first < (lawS P sp sn0 hd0 g).com + 1)) = (g.f && decide (P.s < if g.c then P.top else P.s)) := by
  rw [lawS_first h o]
  have h1 := h.z
  have h2 := h.s
  have h3 := h.t
  have e1 : max ((lawS P sp sn0 hd0 g).app + 1) (P.s + 1) = P.s + 1 := by
    show max (P.bg + P.dn + 1) (P.s + 1) = _
    (first | lia | omega)
  rw [e1]
  have e2 : (lawS P sp sn0 hd0 g).sn.isNone = g.f := by
    unfold lawS; dsimp only; cases g.f <;> rfl
  rw [e2]
  congr 1
  show decide (P.s + 1 < (if g.c then P.top else P.s) + 1) = _
  congr 1
  apply propext
  (first | lia | omega)
theorem lawS_some : (lawS P sp sn0 hd0 g).sn.isSome = !g.f := by
  unfold lawS; dsimp only; cases g.f <;> rfl
theorem lawS_tl (h : P.Ok) (i : Int) (h1 : P.s < i) (h2 : i ≤ P.s + P.k) : tmE P.tl (i - (P.s + 1)) = 5 + i - P.s := by
  have e : i - (P.s + 1) = ((i - (P.s + 1)).toNat : Int) := by (first | lia | omega)
  rw [e, P.tl_at _ (by (first | lia | omega))]
  (first | lia | omega)
theorem lawS_tlt (h : P.Ok) (i : Int) (h1 : P.s + P.told < i) (h2 : i ≤ P.s + P.k) : tmE (P.tl.drop P.told) (i - (P.s + 1 + P.told)) = 5 + i - P.s := by
  have e : tmE (P.tl.drop P.told) (i - (P.s + 1 + P.told)) = tmE P.tl (i - (P.s + 1)) := by
    unfold tmE
    rw [List.getElem?_drop]
    congr 2
    (first | lia | omega)
  rw [e, lawS_tl h i (by (first | lia | omega)) h2]
theorem lawS_hb (h : P.Ok) (o : g.Ok) (i : Int) : (lawS P sp sn0 hd0 g).mt i = none → (lawS P sp sn0 hd0 g).first ≤ i + 1 → i ≤ (lawS P sp sn0 hd0 g).last → (lawS P sp sn0 hd0 g).base ≤ i ∧ i ≤ (lawS P sp sn0 hd0 g).base + (lawS P sp sn0 hd0 g).ss.length := by
  intro q h1 h2
  rw [lawS_first h o] at h1
  rw [lawS_last h o] at h2
  have hk := P.tl_len
  have ho := h.o
  obtain ⟨w, t, f, c⟩ := g
  obtain ⟨o1, o2⟩ := o
  cases w with
  | true =>
    unfold lawS
    dsimp only
    simp only [if_true]
    rw [hk]
    (first | lia | omega)
  | false =>
    have ht : t = false := by cases t <;> simp_all
    have hf : f = false := by cases f <;> simp_all
    subst ht hf
    exfalso
    unfold LS.mt lawS at q
    dsimp only at q
    simp only [Bool.false_eq_true, if_false] at q
    rw [hk] at q
    by_cases z : i < P.s + 1 + 0
    · rw [if_pos z, if_pos (by (first | lia | omega))] at q; cases q
    · rw [if_neg z, if_neg (by (first | lia | omega))] at q; cases q
theorem lawS_tv (h : P.Ok) (o : g.Ok) (i : Int) : (lawS P sp sn0 hd0 g).tv i = if i < P.s then -1 else if P.s + P.k < i then -2 else 5 + i - P.s := by
  have hk := P.tl_len
  have ho := h.o
  have hfi := lawS_first (sp := sp) (sn0 := sn0) (hd0 := hd0) h o
  have hla := lawS_last (sp := sp) (sn0 := sn0) (hd0 := hd0) h o
  cases q : (lawS P sp sn0 hd0 g).mt i with
  | some v =>
    rw [LS.tv_some q]
    obtain ⟨w, t, f, c⟩ := g
    unfold LS.mt lawS at q
    dsimp only at q
    cases t with
    | false =>
      simp only [Bool.false_eq_true, if_false] at q
      rw [hk] at q
      by_cases z : i < P.s + 1 + 0
      · rw [if_pos z] at q
        cases f with
        | true => simp at q
        | false =>
          simp only [Bool.false_eq_true, if_false] at q
          by_cases z2 : P.s = i
          · rw [if_pos z2] at q; cases q
            rw [if_neg (by (first | lia | omega)), if_neg (by (first | lia | omega))]; (first | lia | omega)
          · rw [if_neg z2] at q; cases q
      · rw [if_neg z] at q
        by_cases z2 : P.s + 1 + 0 + (P.k : Int) ≤ i
        · rw [if_pos z2] at q; cases q
        · rw [if_neg z2] at q; cases q
          rw [if_neg (by (first | lia | omega)), if_neg (by (first | lia | omega)), show i - (P.s + 1 + 0) = i - (P.s + 1) by (first | lia | omega)]
          exact lawS_tl h i (by (first | lia | omega)) (by (first | lia | omega))
    | true =>
      simp only [if_true] at q
      rw [List.length_drop, hk] at q
      by_cases z : i < P.s + 1 + P.told
      · rw [if_pos z] at q
        cases f with
        | true => simp at q
        | false =>
          simp only [Bool.false_eq_true, if_false] at q
          by_cases z2 : P.s = i
          · rw [if_pos z2] at q; cases q
            rw [if_neg (by (first | lia | omega)), if_neg (by (first | lia | omega))]; (first | lia | omega)
          · rw [if_neg z2] at q; cases q
      · rw [if_neg z] at q
        by_cases z2 : P.s + 1 + P.told + ((P.k - P.told : Nat) : Int) ≤ i
        · rw [if_pos z2] at q; cases q
        · rw [if_neg z2] at q; cases q
          rw [if_neg (by (first | lia | omega)), if_neg (by (first | lia | omega))]
          exact lawS_tlt h i (by (first | lia | omega)) (by (first | lia | omega))
  | none =>
    rw [LS.tv_none q, hfi, hla]
    by_cases z1 : i < P.s
    · rw [if_pos (by (first | lia | omega)), if_pos z1]
    · rw [if_neg (by (first | lia | omega)), if_neg z1]
      by_cases z2 : P.s + P.k < i
      · rw [if_pos z2, if_pos z2]
      · rw [if_neg z2, if_neg z2]
        have hb := lawS_hb h o i q (by (first | lia | omega)) (by (first | lia | omega))
        obtain ⟨w, t, f, c⟩ := g
        obtain ⟨o1, o2⟩ := o
        cases w with
        | false =>
          have ht : t = false := by cases t <;> simp_all
          have hf : f = false := by cases f <;> simp_all
          subst ht hf
          exfalso
          unfold LS.mt lawS at q
          dsimp only at q
          simp only [Bool.false_eq_true, if_false] at q
          rw [hk] at q
          by_cases z : i < P.s + 1 + 0
          · rw [if_pos z, if_pos (by (first | lia | omega))] at q; cases q
          · rw [if_neg z, if_neg (by (first | lia | omega))] at q; cases q
        | true =>
          unfold LS.stT lawS
          dsimp only
          simp only [if_true]
          by_cases z3 : i = P.s
          · rw [if_pos z3]; (first | lia | omega)
          · rw [if_neg z3]
            exact lawS_tl h i (by (first | lia | omega)) (by (first | lia | omega))
end
end Rk

end
section
namespace Rk
section
variable {c : Cx} {E : Value → Shared → Prop} {σ : St} {Qs : V → St → Prop} {a b : Addr} {d : Nat} {x y : Int} {t : Bool}
theorem c_neI2 (r : c.Room d) (h : σ.H a = some (.tup [.int x, .int y])) (k : σ.H b = some (.tup [.int x, .int y])) (q : Qs (.bool false) σ) : c.Cmp E .NotEq (.ref a) (.ref b) Qs σ :=
  c_neS r (ds := [.int x, .int y]) (dis_tup h (ds_cons dis_int (ds_cons dis_int ds_nil))) (dis_tup k (ds_cons dis_int (ds_cons dis_int ds_nil))) (by simp [deps, dep]) q
theorem c_neI3 {z : Int} (r : c.Room d) (h : σ.H a = some (.tup [.int x, .int y, .int z])) (k : σ.H b = some (.tup [.int x, .int y, .int z])) (q : Qs (.bool false) σ) : c.Cmp E .NotEq (.ref a) (.ref b) Qs σ :=
  c_neS r (ds := [.int x, .int y, .int z]) (dis_tup h (ds_cons dis_int (ds_cons dis_int (ds_cons dis_int ds_nil)))) (dis_tup k (ds_cons dis_int (ds_cons dis_int (ds_cons dis_int ds_nil)))) (by simp [deps, dep]) q
theorem c_neI2b (r : c.Room d) (h : σ.H a = some (.tup [.int x, .int y, .bool t])) (k : σ.H b = some (.tup [.int x, .int y, .bool t])) (q : Qs (.bool false) σ) : c.Cmp E .NotEq (.ref a) (.ref b) Qs σ :=
  c_neS r (ds := [.int x, .int y, .bool t]) (dis_tup h (ds_cons dis_int (ds_cons dis_int (ds_cons dis_bool ds_nil)))) (dis_tup k (ds_cons dis_int (ds_cons dis_int (ds_cons dis_bool ds_nil)))) (by simp [deps, dep]) q
theorem c_eqsH {x y : Str} {b : Bool} (e : (x == y) = b) (h : Qs (.bool b) σ) : c.Cmp E .Eq (.str x) (.str y) Qs σ := c_eqs (by rw [e]; exact h)
theorem c_insH {x y : Str} {b : Bool} (e : (!(Builtin.Str.occurrences x y 0 x.length 1).isEmpty) = b) (h : Qs (.bool b) σ) : c.Cmp E .In (.str y) (.str x) Qs σ := c_ins (by rw [e]; exact h)
theorem c_ninsH {x y : Str} {b : Bool} (e : (!(Builtin.Str.occurrences x y 0 x.length 1).isEmpty) = b) (h : Qs (.bool !b) σ) : c.Cmp E .NotIn (.str y) (.str x) Qs σ := c_nins (by rw [e]; exact h)
end
noncomputable def tnm (X Z : Nat) (P : LP) (cf xl sp tl : Addr) : List (Str × V) :=
  [("x", .int X), ("z", .int Z), ("conf", .ref cf), ("stock", .ref xl), ("done", .int (P.bg + P.dn)), ("k", .int P.k), ("top", .int P.top), ("told", .int P.told), ("snap", .ref sp), ("tail", .ref tl)]
theorem At.eq {K H : Hp} {r u st : Addr} {S S' : LS} (h : At K H r u st S) (e : S = S') : At K H r u st S' := e ▸ h
noncomputable def wds : List Str := ["WTSC", "WSTC", "WTCS", "WSCT", "WCTS", "WCST", "CWTS", "CWST"]
noncomputable def wd (i : Nat) : Str := wds.getD i ""
noncomputable def pre (i j : Nat) : Str := ⟨(wd i).cps.extract 0 j⟩
noncomputable def ac (i j : Nat) : Nat := (wd i).cps.getD j 0
noncomputable def fg (i j : Nat) : Fg := let p := (wd i).cps.toList.take j; ⟨p.contains 87, p.contains 84, p.contains 83, p.contains 67⟩
theorem ords_at : ∀ i : Nat, i < 8 → ords[i]? = some (.str (wd i)) := by
  intro i h
  match i, h with
  | 0, _ => rfl
  | 1, _ => rfl
  | 2, _ => rfl
  | 3, _ => rfl
  | 4, _ => rfl
  | 5, _ => rfl
  | 6, _ => rfl
  | 7, _ => rfl
noncomputable def wdOk (i : Nat) : Bool := (wd i).cps.size == 4 && (wd i).cps.all (· < 128) && (pre i 0 == "") && (fg i 4 matches ⟨true, true, true, true⟩) && (fg i 0 matches ⟨false, false, false, false⟩)
theorem ords_at' (i : Nat) (h : i < 8) : ords[((i : Nat) : Int).toNat]? = some (.str (wd i)) := ords_at i h
noncomputable def stepOk (i j : Nat) : Bool :=
  let g := fg i j; let g' := fg i (j + 1); let k : Str := ⟨#[ac i j]⟩
  (pre i j ++ k == pre i (j + 1)) && (pre i j).length == j && k.length == 1 &&
  ((!(Builtin.Str.occurrences (pre i (j + 1)) "C" 0 (pre i (j + 1)).length 1).isEmpty) == g'.c) &&
  ((!(Builtin.Str.occurrences (pre i (j + 1)) "S" 0 (pre i (j + 1)).length 1).isEmpty) == g'.f) &&
  ((!(Builtin.Str.occurrences (pre i (j + 1)) "T" 0 (pre i (j + 1)).length 1).isEmpty) == g'.t) &&
  (!g'.t || g'.w) && (!g'.f || g'.w) &&
  ((k == "W" && !g.w && !g.t && !g.f && g'.w && !g'.t && !g'.f && (g'.c == g.c)) ||
   (!(k == "W") && k == "T" && g.w && !g.t && g'.w && g'.t && (g'.f == g.f) && (g'.c == g.c)) ||
   (!(k == "W") && !(k == "T") && k == "S" && g.w && !g.f && g'.w && g'.f && (g'.t == g.t) && (g'.c == g.c)) ||
   (!(k == "W") && !(k == "T") && !(k == "S") && !g.c && g'.c && (g'.w == g.w) && (g'.t == g.t) && (g'.f == g.f)))
theorem step_ok : ∀ i : Nat, i < 8 → ∀ j : Nat, j < 4 → stepOk i j = true := by decide +kernel
theorem fg4 (i : Nat) (h : i < 8) : fg i 4 = ⟨true, true, true, true⟩ := by
  match i, h with
  | 0, _ => rfl
  | 1, _ => rfl
  | 2, _ => rfl
  | 3, _ => rfl
  | 4, _ => rfl
  | 5, _ => rfl
  | 6, _ => rfl
  | 7, _ => rfl
theorem wd_sz : ∀ i : Nat, i < 8 → (wd i).cps.size = 4 ∧ (wd i).cps.all (· < 128) = true ∧ pre i 0 = "" := by decide +kernel
noncomputable def chg (i j : Nat) : Prop :=
  let g := fg i j; let g' := fg i (j + 1); let k : Str := ⟨#[ac i j]⟩
  ((k == "W") = true ∧ g.w = false ∧ g.t = false ∧ g.f = false ∧ g' = { g with w := true }) ∨
  ((k == "W") = false ∧ (k == "T") = true ∧ g.w = true ∧ g.t = false ∧ g' = { g with t := true }) ∨
  ((k == "W") = false ∧ (k == "T") = false ∧ (k == "S") = true ∧ g.w = true ∧ g.f = false ∧ g' = { g with f := true }) ∨
  ((k == "W") = false ∧ (k == "T") = false ∧ (k == "S") = false ∧ g.c = false ∧ g' = { g with c := true })
theorem step_of (i j : Nat) (h : i < 8) (h2 : j < 4) :
    pre i j ++ (⟨#[ac i j]⟩ : Str) = pre i (j + 1) ∧ (pre i j).length = j ∧ (⟨#[ac i j]⟩ : Str).length = 1 ∧
    (!(Builtin.Str.occurrences (pre i (j + 1)) "C" 0 (pre i (j + 1)).length 1).isEmpty) = (fg i (j + 1)).c ∧
    (!(Builtin.Str.occurrences (pre i (j + 1)) "S" 0 (pre i (j + 1)).length 1).isEmpty) = (fg i (j + 1)).f ∧
    (!(Builtin.Str.occurrences (pre i (j + 1)) "T" 0 (pre i (j + 1)).length 1).isEmpty) = (fg i (j + 1)).t ∧ (fg i (j + 1)).Ok ∧ chg i j := by
  have z := step_ok i h j h2
  simp only [stepOk, Bool.and_eq_true, beq_iff_eq] at z
  obtain ⟨⟨⟨⟨⟨⟨⟨⟨z1, z2⟩, z3⟩, z4⟩, z5⟩, z6⟩, z7⟩, z8⟩, z9⟩ := z
  refine ⟨z1, z2, z3, z4, z5, z6, ⟨?_, ?_⟩, ?_⟩
  · intro q; rw [q] at z7; simpa using z7
  · intro q; rw [q] at z8; simpa using z8
  · unfold chg
    generalize fg i j = g at z9 ⊢
    generalize fg i (j + 1) = g' at z9 ⊢
    obtain ⟨a1, a2, a3, a4⟩ := g
    obtain ⟨b1, b2, b3, b4⟩ := g'
    simp only [Bool.or_eq_true, Bool.and_eq_true, Bool.not_eq_true', beq_iff_eq] at z9
    dsimp only
    rcases z9 with ((⟨⟨⟨⟨⟨⟨⟨q0, q1⟩, q2⟩, q3⟩, q4⟩, q5⟩, q6⟩, q7⟩ | ⟨⟨⟨⟨⟨⟨⟨q0, q1⟩, q2⟩, q3⟩, q4⟩, q5⟩, q6⟩, q7⟩) | ⟨⟨⟨⟨⟨⟨⟨⟨q0, q1⟩, q8⟩, q2⟩, q3⟩, q4⟩, q5⟩, q6⟩, q7⟩) | ⟨⟨⟨⟨⟨⟨⟨q0, q1⟩, q8⟩, q2⟩, q3⟩, q4⟩, q5⟩, q6⟩
    all_goals simp_all
theorem pre_len : ∀ i : Nat, i < 8 → ∀ j : Nat, j < 5 → (pre i j).length ≤ 4 := by decide +kernel
section
variable {P : LP} {sp sn0 hd0 : Addr} {g : Fg}
theorem lawS_si (o : g.Ok) (q : (lawS P sp sn0 hd0 g).sn = none) : (lawS P sp sn0 hd0 g).base ≤ (lawS P sp sn0 hd0 g).si ∧ (lawS P sp sn0 hd0 g).sa = sp := by
  obtain ⟨w, t, f, c⟩ := g
  obtain ⟨o1, o2⟩ := o
  cases f with
  | false => simp [lawS] at q
  | true =>
    have : w = true := o2 rfl
    subst this
    exact ⟨Int.le_refl _, rfl⟩
theorem lawS_snp (p' : Addr × Int × Int) (q : (lawS P sp sn0 hd0 g).sn = some p') : p' = (sp, P.s, 5) := by
  obtain ⟨w, t, f, c⟩ := g
  cases f with
  | false => cases q; rfl
  | true => cases q
end
noncomputable def PRow (s : Int) (j : Nat) (y : V) (H : Hp) : Prop := ∃ b, y = .ref b ∧ H b = some (.tup [.int (6 + (j : Int)), .int (s + 1 + (j : Int))])
noncomputable def pds (s : Int) (n : Nat) : List Dt := (List.range n).map fun (j : Nat) => .tup [.int (6 + (j : Int)), .int (s + 1 + (j : Int))]
theorem DsIs.of {H : Hp} : ∀ {ws : List V} {ds : List Dt}, ws.length = ds.length → (∀ (j : Nat) (y : V) (d : Dt), ws[j]? = some y → ds[j]? = some d → DIs H y d) → DsIs H ws ds
  | [], [], _, _ => ds_nil
  | w :: ws, d :: ds, e, h => ds_cons (h 0 w d rfl rfl) (DsIs.of (by simpa using e) fun j y d' q1 q2 => h (j + 1) y d' (by simpa using q1) (by simpa using q2))
  | [], _ :: _, e, _ => by cases e
  | _ :: _, [], e, _ => by cases e
theorem pds_of {H : Hp} {ws : List V} {n : Nat} {s : Int} (e : ws.length = n) (h : ∀ (j : Nat) (y : V), ws[j]? = some y → PRow s j y H) : DsIs H ws (pds s n) :=
  DsIs.of (by unfold pds; rw [List.length_map, List.length_range, e]) fun j y d q1 q2 => by
    have lt : j < n := by rw [← e]; exact (List.getElem?_eq_some_iff.mp q1).1
    unfold pds at q2
    rw [List.getElem?_map, List.getElem?_range lt] at q2
    cases q2
    obtain ⟨b, rfl, hb⟩ := h j y q1
    exact dis_tup hb (ds_cons dis_int (ds_cons dis_int ds_nil))
theorem deps_pds {s : Int} {n : Nat} : deps (pds s n) ≤ 1 := by
  unfold pds
  generalize List.range n = l
  induction l with
  | nil => simp [deps]
  | cons j l ih =>
    rw [List.map_cons]
    simp only [deps, dep] at ih ⊢
    omega
noncomputable def finS (P : LP) (sp hd0 : Addr) : LS := ⟨P.top, P.top, P.s + 1 + P.told, none, P.tl.drop P.told, P.s, 5, P.tl, sp, P.s, hd0⟩
theorem lawS_end {P : LP} {sp sn0 hd0 : Addr} : ({ lawS P sp sn0 hd0 ⟨true, true, true, true⟩ with app := P.top } : LS) = finS P sp hd0 := by simp [lawS, finS]
theorem ERow.of {H : Hp} : ∀ {ws : List V} {ts : List Int} {i : Int}, ws.length = ts.length → (∀ (j : Nat) (y : V) (t : Int), ws[j]? = some y → ts[j]? = some t → ∃ a, y = .ref a ∧ H a = some (.tup [.int t, .int (i + (j : Nat)), .int 0, .bytes #[]])) → ERow H i ws ts
  | [], [], _, _, _ => trivial
  | w :: ws, t :: ts, i, e, h => by
    refine ⟨?_, ERow.of (by simpa using e) fun j y t' h1 h2 => ?_⟩
    · obtain ⟨a, e1, e2⟩ := h 0 w t rfl rfl
      exact ⟨a, e1, by simpa using e2⟩
    · obtain ⟨a, e1, e2⟩ := h (j + 1) y t' (by simpa using h1) (by simpa using h2)
      refine ⟨a, e1, ?_⟩
      rw [e2, show i + ((j + 1 : Nat) : Int) = i + 1 + j by omega]
  | [], _ :: _, _, e, _ => by cases e
  | _ :: _, [], _, e, _ => by cases e
theorem ERow.drop {H : Hp} : ∀ (n : Nat) {i : Int} {vs : List V} {es : List Int}, ERow H i vs es → ERow H (i + n) (vs.drop n) (es.drop n)
  | 0, i, _, _, h => by simpa using h
  | n + 1, i, [], [], _ => trivial
  | n + 1, i, _ :: vs, _ :: es, h => by
    have z := ERow.drop n h.2
    rw [show i + 1 + (n : Int) = i + ((n + 1 : Nat) : Int) by omega] at z
    exact z
  | _ + 1, _, [], _ :: _, h => h.elim
  | _ + 1, _, _ :: _, [], h => h.elim
theorem ERow.le {H H' : Hp} (l : H.Le H') {i : Int} {vs : List V} {es : List Int} (h : ERow H i vs es) : ERow H' i vs es := h.tle fun _ _ e => l _ _ e
theorem w_rows {c : Cx} {E : Value → Shared → Prop} {σ : St} {Q : V → St → Prop} {x y : Str} {p1 p2 p3 p4 : Pos} {tp : Addr} {vs : List V} {i : Nat} (h1 : σ.m x = some (.ref tp)) (h2 : σ.m y = some (.int (i : Int))) (h3 : σ.H tp = some (.tup vs)) (h4 : i ≤ vs.length ∧ vs.length ≤ 1000)
    (h : Hold (∀ n H', σ.H.Le H' → H' n = some (.tup (vs.drop i)) → Q (.ref n) ⟨σ.m, H'⟩)) : c.Ev E (.Subscript (.Name x p1) (.Slice (some (.Name y p2)) none none p3) p4) Q σ := by
  refine w_sliceT (tp := tp) (i := i) (vs := vs) (w_local h1 (w_local h2 ⟨rfl, rfl, h3, h4.1, h4.2, fun q => ?_, fun _ n hn => ?_⟩))
  · exact h tp σ.H (Hp.Le.refl _) (by rw [h3, q, List.drop_zero])
  · exact h n _ (Hp.Le.set _ hn) hs_self
theorem at_anew {K H H' : Hp} {n u st el : Addr} {S : LS} (hs : StAt K H st S) (hn : H n = none) (hu : H u = none) (l : H.Le H') (e1 : H' n = some (.inst 745 (RaftLogFs (.ref st) (.int NLim) (.ref u) (.int S.base) (.int S.base)))) (e2 : H' u = some (.inst 535 (UnstableFs .none (.ref el) (.int (S.base + S.ss.length + 1))))) (e3 : H' el = some (.list [])) :
    At K H' n u st ⟨S.base, S.base, S.base + S.ss.length + 1, none, [], S.base, S.bt, S.ss, S.sa, S.si, S.hd⟩ := by
  have z := hs.grow l
  refine ⟨⟨z.le, z.ks, z.s, z.sa, z.z⟩, hs.le.non hn, hs.le.non hu, e1, ⟨el, [], e2, e3, trivial⟩, (fun _ q => by cases q), ?_⟩
  have := z.z
  dsimp only
  simp only [List.length_nil]
  omega
end Rk

end
namespace Rk

section
variable {D : Wd} {d : Nat} {o o' : MO} {c : Cx} {E : Value → Shared → Prop} {σ : St} {H H' K K' : Hp} {w a b n xl r u st cf el sl sn hd nb nS : Addr} {m j q : Nat} {t i k com bg x y z : Int} {Q : V → Hp → Prop} {Qs : V → St → Prop} {vs us xs : List V} {cz : CS} {ns ts : List Int} {S : LS} {mm : Str → Option V} {bs : Array UInt8} {ds : List Dt} {p : Addr × Int × Int} {stored sure dn : Nat}
/-- what is asked of the try that the log refuses -/
noncomputable def Refuses (D : Wd) : Prop := ∀ {K H : Hp} {r u st : Addr} {S : LS} {p : Addr × Int × Int} {Q : V → Hp → Prop}, At K H r u st S → S.sn = none → SnpAt H p → 0 ≤ p.2.1 ∧ p.2.1 < S.com ∧ S.com ≤ 100 → Hold (∀ H', H.Le H' → Q (.bool true) H') → Fn D 6 777 [.ref r, .ref p.1] Q H
theorem fmod_nat {n m : Nat} (hm : 0 < m) : ((n : Int)).fmod (m : Int) = ((n % m : Nat) : Int) := by
  rw [Int.fmod_eq_emod_of_nonneg _ (by (first | lia | omega))]; rfl
theorem fdiv_nat {n m : Nat} : ((n : Int)).fdiv (m : Int) = ((n / m : Nat) : Int) := by
  rw [Int.fdiv_eq_ediv_of_nonneg _ (by (first | lia | omega))]; rfl
noncomputable def LPof (X Y : Nat) : LP :=
  let n := X / 2 % 3
  let sure := X / 18 % (n + 1)
  let k := Y / 3 % 3
  let s := max (X % 2 + sure) (X % 2 + 1) + Y % 3
  { bg := (X % 2 : Nat), s := (s : Nat), top := ((s + Y / 9 % (k + 1) : Nat) : Int), n := n, stored := X / 6 % (n + 1), sure := sure, dn := X / 54 % (sure + 1), k := k, told := k - Y / 27 % (k + 1) }
theorem LPof_ok (X Y : Nat) : (LPof X Y).Ok := by
  have h1 : X % 2 < 2 := Nat.mod_lt _ (by decide)
  have h2 : X / 2 % 3 < 3 := Nat.mod_lt _ (by decide)
  have h3 := Nat.mod_lt (X / 18) (show 0 < X / 2 % 3 + 1 by (first | lia | omega))
  have h4 := Nat.mod_lt (X / 6) (show 0 < X / 2 % 3 + 1 by (first | lia | omega))
  have h5 := Nat.mod_lt (X / 54) (show 0 < X / 18 % (X / 2 % 3 + 1) + 1 by (first | lia | omega))
  have h6 : Y / 3 % 3 < 3 := Nat.mod_lt _ (by decide)
  have h7 := Nat.mod_lt (Y / 9) (show 0 < Y / 3 % 3 + 1 by (first | lia | omega))
  have h8 : Y % 3 < 3 := Nat.mod_lt _ (by decide)
  refine ⟨?_, ?_, ?_, ?_, ?_, ?_, ?_⟩ <;> (simp only [LPof]; (first | lia | omega))
theorem EntV.of : ∀ {ws : List V} {ts : List Int} {i : Int}, ws.length = ts.length → (∀ j y t, ws[j]? = some y → ts[j]? = some t → ∃ a, y = .ref a ∧ H a = some (.inst 213 (EntryFs (.int t) (.int (i + (j : Nat))) (.int 0) (.bytes #[])))) → EntV H i ws ts
  | [], [], _, _, _ => trivial
  | w :: ws, t :: ts, i, e, h => by
    refine ⟨?_, EntV.of (by simpa using e) fun j y t' h1 h2 => ?_⟩
    · obtain ⟨a, e1, e2⟩ := h 0 w t rfl rfl
      exact ⟨a, e1, by simpa using e2⟩
    · obtain ⟨a, e1, e2⟩ := h (j + 1) y t' (by simpa using h1) (by simpa using h2)
      refine ⟨a, e1, ?_⟩
      rw [e2, show i + ((j + 1 : Nat) : Int) = i + 1 + j by (first | lia | omega)]
  | [], _ :: _, _, e, _ => by cases e
  | _ :: _, [], _, e, _ => by cases e
theorem CfIs.ch (h : CfIs H a cz) (k : Ch1 H H' n) (e : H n = some o) (ho : ∀ C fs, o ≠ .inst C fs) (hl : ∀ vs, o ≠ .list vs) : CfIs H' a cz := by
  obtain ⟨⟨a1, a2, a3, a4, h0, h1, h2, h3, h4⟩, z⟩ := h
  have nl : ∀ {b : Addr} {vs : List V}, H b = some (.list vs) → b ≠ n := fun q => ne_ob q e fun q => hl _ q.symm
  exact ⟨⟨a1, a2, a3, a4, k _ _ h0 (ne_ob h0 e fun q => ho _ _ q.symm), k _ _ h1 (nl h1), k _ _ h2 (nl h2), k _ _ h3 (nl h3), k _ _ h4 (nl h4)⟩, z⟩
set_option maxHeartbeats 4000000 in
theorem law_runs (hD : IsD D) (hR : Refuses D) : Runs D 796 (fun body scope qual => ∀ (c : Cx) (H0 : Hp) (nb nS sl : Addr) (ns : List Int), c.D = D → c.sc = scope → c.cl = ([("s", nS), ("begin", nb)] : List (Str × Addr)) → c.Room 20 → nb ≠ nS → H0 nb = some (.cell none) → H0 nS = some (.cell none) → Script c sl ns → ns.length ≤ 100 →
    c.Ss Nope body (fun fl σ' => fl = .ret (.bool true)) ⟨fun y => if y = "script" then some (.ref sl) else none, H0⟩) := by
  refine runs_of (hK := by rw [hD.k]; k_is) ?_
  intro c H0 nb nS sl ns cD cs cc cr nbs kb0 kS0 hsc hns
  subst cD
  have h8 : (ns.take 3).length ≤ 3 := by rw [List.length_take]; (first | lia | omega)
  refine ss_mid (fun σ => ∃ (nl : Addr), σ.m "nums" = some (.ref nl) ∧ σ.H nl = some (.list (((ns.take 3).map fun z => z.fmod 999983).map V.int)) ∧ σ.H nb = some (.cell none) ∧ σ.H nS = some (.cell none)) ?_ ?_
  · refine s_comp (cl := []) ?_ ?_ ?_
    · exact clos_of cc (by with_unfolding_all rfl)
    · refine w_script hsc hns rfl fun n1 hn1 => ?_
      with_reducible refine' it_list hg_self (fun _ _ => ?_)
      rename_i it hit
      refine block_map (fun j y H' => ∃ z, (ns.take 3)[j]? = some z ∧ y = .int (z.fmod 999983)) ?_ hit hs_self (by simp; (first | lia | omega)) (relb cs (by with_unfolding_all rfl)) (by exact ⟨rfl, rfl⟩) ?_ ?_
      · rintro j v H1 H2 t hh; exact hh
      · rintro c' cD cs' cc' cr' j v m' H1 l1 lt hv
        rw [List.getElem?_map] at hv
        obtain ⟨z, hz, rfl⟩ := Option.map_eq_some_iff.mp hv
        have hD' : IsD c'.D := by rw [cD]; exact hD
        with_reducible refine' w_bin ?_
        refine' w_local rfl ?_
        with_reducible refine' w_int (b_mod (by decide) ?_)
        exact ⟨Hp.Le.refl _, z, hz, rfl⟩
      · intro acc H' ws l1 ha h1 h2 h3
        refine ⟨lof cs ⟨rfl, rfl⟩, acc, rfl, ?_, l1 _ _ (hs_new hn1 kb0), l1 _ _ (hs_new hn1 kS0)⟩
        have e : ws = ((ns.take 3).map fun z => z.fmod 999983).map V.int := by
          refine List.ext_getElem? fun j => ?_
          rw [List.getElem?_map, List.getElem?_map]
          cases hw : ws[j]? with
          | none =>
            have : (ns.take 3)[j]? = none := by
              have := List.getElem?_eq_none_iff.mp hw
              rw [List.length_map] at h2
              exact List.getElem?_eq_none (by (first | lia | omega))
            rw [this]; rfl
          | some y =>
            obtain ⟨z, hz, rfl⟩ := h3 j y hw
            rw [hz]; rfl
        show H' acc = _
        rw [← e]; exact h1
    · exact swap_of cs (by with_unfolding_all rfl)
  rintro ⟨mm, H1⟩ ⟨nl, m1, knl, kb, kS⟩
  have hnu : ∀ z ∈ (ns.take 3).map (fun z => z.fmod 999983), 0 ≤ z ∧ z < 999983 := by
    intro z hz
    obtain ⟨y, _, rfl⟩ := List.mem_map.mp hz
    rw [Int.fmod_eq_emod_of_nonneg _ (by decide)]
    exact ⟨Int.emod_nonneg _ (by decide), Int.emod_lt_of_pos _ (by decide)⟩
  have hnl : ((ns.take 3).map (fun z => z.fmod 999983)).length ≤ 8 := by rw [List.length_map]; (first | lia | omega)
  generalize (ns.take 3).map (fun z => z.fmod 999983) = nu at knl hnu hnl
  have lnu : (nu.map V.int).length = nu.length := List.length_map ..
  refine ss_mid (fun σ => ∃ (nl : Addr) (x : Int) (nu : List Int), σ.m "nums" = some (.ref nl) ∧ σ.H nl = some (.list ((x :: nu).map V.int)) ∧ σ.H nb = some (.cell none) ∧ σ.H nS = some (.cell none) ∧ nu.length ≤ 7 ∧ ∀ z ∈ x :: nu, 0 ≤ z ∧ z < 999983) ?_ ?_
  · by_cases z : nu.length = 0
    · with_reducible refine' s_if (t_cmp (w_call ?_))
      refine' gl_len ‹_› (kof ‹_› rfl) ?_
      refine' cv_raw rfl ?_
      with_reducible refine' w_es_cons ?_
      refine' w_local m1 ?_
      with_reducible refine' w_es_nil ?_
      refine' f_len knl (by simp only [List.length_append, List.length_cons, List.length_nil, List.length_map, List.length_set, List.length_take, List.length_drop, List.length_replicate]; exact (by lia)) ?_
      with_reducible refine' w_int (c_eq (tr_bool (br_eq ?_ ?_)))
      with_reducible refine' fun _ => s_one (s_assign (w_list (w_es_cons (w_int (w_es_nil ?_)))))
      refine' ⟨(Nat.le_of_ble_eq_true rfl), ?_⟩
      with_reducible refine' fun _ _ => ?_
      refine' st_local (lof ‹_› ⟨rfl, rfl⟩) ?_
      with_reducible refine' md_next ?_
      rotate_left
      with_reducible refine' fun _ => ?_
      exact False.elim (by lia)
      rename_i n2 hn2
      exact ⟨n2, 9, [], rfl, hs_self, hs_new hn2 kb, hs_new hn2 kS, by simp, by simp⟩
    · with_reducible refine' s_if (t_cmp (w_call ?_))
      refine' gl_len ‹_› (kof ‹_› rfl) ?_
      refine' cv_raw rfl ?_
      with_reducible refine' w_es_cons ?_
      refine' w_local m1 ?_
      with_reducible refine' w_es_nil ?_
      refine' f_len knl (by simp only [List.length_append, List.length_cons, List.length_nil, List.length_map, List.length_set, List.length_take, List.length_drop, List.length_replicate]; exact (by lia)) ?_
      with_reducible refine' w_int (c_eq (tr_bool (br_eq ?_ ?_)))
      with_reducible refine' fun _ => ?_
      exact False.elim (by lia)
      with_reducible refine' fun _ => s_nil (md_next ?_)
      cases nu with
      | nil => exact absurd rfl z
      | cons x nu => exact ⟨nl, x, nu, m1, knl, kb, kS, by simpa using hnl, hnu⟩
  clear m1 knl kb kS hnu hnl lnu
  clear nl nu
  rintro ⟨mm, H1⟩ ⟨nl, x, nu, m1, knl, kb, kS, hn7, hnu⟩
  have hgd : ∀ i : Int, 0 ≤ i → 0 ≤ (x :: nu).getD (i % ((x :: nu).length : Int)).toNat 0 ∧ (x :: nu).getD (i % ((x :: nu).length : Int)).toNat 0 < 999983 := fun i hi => by
    have b0 : (0 : Int) < ((x :: nu).length : Int) := by simp only [List.length_cons]; (first | lia | omega)
    have b1 := Int.emod_nonneg i (show ((x :: nu).length : Int) ≠ 0 by (first | lia | omega))
    have b2 := Int.emod_lt_of_pos i b0
    have lt : (i % ((x :: nu).length : Int)).toNat < (x :: nu).length := by (first | lia | omega)
    rw [List.getD_eq_getElem?_getD, List.getElem?_eq_getElem lt]
    exact hnu _ (List.getElem_mem lt)
  have hdv : ∀ i : Int, 0 ≤ i → 0 ≤ i / ((x :: nu).length : Int) := fun i hi => Int.ediv_nonneg hi (by (first | lia | omega))
  obtain ⟨X, rfl⟩ : ∃ X : Nat, x = X := ⟨x.toNat, (Int.toNat_of_nonneg (hnu x (by simp)).1).symm⟩
  have hX : X < 999983 := by have := (hnu X (by simp)).2; (first | lia | omega)
  refine ss_mid (fun σ => Nms σ.m [("nums", .ref nl), ("x", .int X)] ∧ σ.H = H1) ?_ ?_
  · with_reducible refine' s_assign (w_sub ?_)
    refine' w_local m1 ?_
    with_reducible refine' w_int ?_
    refine' i_list knl (by decide) (by decide) rfl ?_
    refine' st_local (lof ‹_› ⟨rfl, rfl⟩) ?_
    with_reducible refine' md_next ?_
    exact ⟨⟨m1, rfl, trivial⟩, rfl⟩
  clear m1
  rintro ⟨mm, H2⟩ ⟨⟨m1, m2, _⟩, e⟩
  replace e : H2 = H1 := e
  subst e
  have hz1 : 0 < ((X : Int) :: nu).length ∧ ((X : Int) :: nu).length ≤ 8 := by simp; (first | lia | omega)
  refine ss_mid (fun σ => ∃ Y : Nat, Nms σ.m [("nums", .ref nl), ("x", .int X), ("y", .int Y)] ∧ σ.H = H2) ?_ ?_
  · with_reducible refine' s_assign (w_call ?_)
    refine' gl__law_draw ‹_› (kof ‹_› rfl) ?_
    refine' cv_ref (kp_of ‹_› rfl) ?_
    with_reducible refine' w_es_cons ?_
    refine' w_local m1 ?_
    with_reducible refine' w_es_cons (w_int (w_es_nil ?_))
    refine' Fn.go (fn_law_draw ‹_› knl (by lia) (by decide) ?_) (Room.le ‹_› (by decide))
    refine' st_local (lof ‹_› ⟨rfl, rfl⟩) ?_
    with_reducible refine' md_next ?_
    refine ⟨((((X : Int) :: nu).getD ((1 : Int) % (((X : Int) :: nu).length : Int)).toNat 0 + 7919 * ((1 : Int) / (((X : Int) :: nu).length : Int)))).toNat, ⟨m1, m2, ?_, trivial⟩, rfl⟩
    have h1 := hgd 1 (by decide)
    have h2 := hdv 1 (by decide)
    rw [Int.toNat_of_nonneg (by (first | lia | omega))]
    rfl
  clear m1 m2
  rintro ⟨mm, H3⟩ ⟨Y, ⟨m1, m2, m3, _⟩, e⟩
  replace e : H3 = H2 := e
  subst e
  refine ss_mid (fun σ => ∃ Z : Nat, Nms σ.m [("x", .int X), ("y", .int Y), ("z", .int Z)] ∧ σ.H = H3) ?_ ?_
  · with_reducible refine' s_assign (w_call ?_)
    refine' gl__law_draw ‹_› (kof ‹_› rfl) ?_
    refine' cv_ref (kp_of ‹_› rfl) ?_
    with_reducible refine' w_es_cons ?_
    refine' w_local m1 ?_
    with_reducible refine' w_es_cons (w_int (w_es_nil ?_))
    refine' Fn.go (fn_law_draw ‹_› knl (by lia) (by decide) ?_) (Room.le ‹_› (by decide))
    refine' st_local (lof ‹_› ⟨rfl, rfl⟩) ?_
    with_reducible refine' md_next ?_
    refine ⟨((((X : Int) :: nu).getD ((2 : Int) % (((X : Int) :: nu).length : Int)).toNat 0 + 7919 * ((2 : Int) / (((X : Int) :: nu).length : Int)))).toNat, ⟨m2, m3, ?_, trivial⟩, rfl⟩
    have h1 := hgd 2 (by decide)
    have h2 := hdv 2 (by decide)
    rw [Int.toNat_of_nonneg (by (first | lia | omega))]
    rfl
  clear m1 m2 m3 hgd hdv hnu hz1 knl hn7 h8
  clear nu nl
  rintro ⟨mm, H4⟩ ⟨Z, ⟨m1, m2, m3, _⟩, e⟩
  replace e : H4 = H3 := e
  subst e
  have hb2 : X % 2 < 2 := Nat.mod_lt _ (by decide)
  refine ss_mid (fun σ => Nms σ.m [("x", .int X), ("y", .int Y), ("z", .int Z)] ∧ σ.H nb = some (.cell (some (.int (X % 2 : Nat)))) ∧ σ.H nS = some (.cell none)) ?_ ?_
  · have f : ((X : Int)).fmod 2 = ((X % 2 : Nat) : Int) := fmod_nat (m := 2) (by decide)
    with_reducible refine' s_assign (w_bin ?_)
    refine' w_local m1 ?_
    with_reducible refine' w_int (b_mod (by decide) ?_)
    refine' st_cell (kof ‹_› rfl) (clof ‹_› rfl) kb ?_
    with_reducible refine' md_next ?_
    rw [f]
    exact ⟨⟨m1, m2, m3, trivial⟩, hs_self, hs_ne (Ne.symm nbs) kS⟩
  clear m1 m2 m3 kb kS
  rintro ⟨mm, H5⟩ ⟨⟨m1, m2, m3, _⟩, kb, kS⟩
  refine ss_mid (fun σ => Nms σ.m [("x", .int X), ("y", .int Y), ("z", .int Z), ("n", .int (X / 2 % 3 : Nat))] ∧ σ.H = H5) ?_ ?_
  · have f : ((X : Int).fdiv 2).fmod 3 = ((X / 2 % 3 : Nat) : Int) := by
      rw [show (X : Int).fdiv 2 = ((X / 2 : Nat) : Int) from fdiv_nat (m := 2)]; exact fmod_nat (m := 3) (by decide)
    with_reducible refine' s_assign (w_bin (w_bin ?_))
    refine' w_local m1 ?_
    with_reducible refine' w_int (b_div (by decide) (w_int (b_mod (by decide) ?_)))
    refine' st_local (lof ‹_› ⟨rfl, rfl⟩) ?_
    with_reducible refine' md_next ?_
    rw [f]
    exact ⟨⟨m1, m2, m3, rfl, trivial⟩, rfl⟩
  clear m1 m2 m3
  rintro ⟨mm, H6⟩ ⟨⟨m1, m2, m3, m4, _⟩, e⟩
  replace e : H6 = H5 := e
  subst e
  have hcz : slc [V.int 1] none (some ((X % 2 : Nat) : Int)) = (if X % 2 = 0 then ([] : List Int) else [1]).map V.int := by
    rcases Nat.mod_two_eq_zero_or_one X with q | q <;> rw [q] <;> rfl
  generalize hczv : (if X % 2 = 0 then ([] : List Int) else [1]) = czv at hcz
  have hczl : ((X % 2 : Nat) : Int) = if czv.length = 0 then 0 else 1 := by
    subst hczv
    rcases Nat.mod_two_eq_zero_or_one X with q | q <;> rw [q] <;> rfl
  have hcok : CS.Ok ⟨czv, [], [], [], false⟩ := by
    subst hczv
    refine ⟨?_, .nil, .nil, .nil, ?_⟩
    · show List.Pairwise _ (if _ then _ else _)
      split
      · exact .nil
      · simp
    · simp only [List.length_nil]
      split <;> simp
  clear hczv
  refine ss_mid (fun σ => Nms σ.m [("x", .int X), ("y", .int Y), ("z", .int Z), ("n", .int (X / 2 % 3 : Nat))] ∧ ∃ cf, σ.m "conf" = some (.ref cf) ∧ H6.Le σ.H ∧ CfIs σ.H cf ⟨czv, [], [], [], false⟩) ?_ ?_
  · with_reducible refine' s_assign (w_call ?_)
    refine' gl_ConfState ‹_› (kof ‹_› rfl) ?_
    refine' cv_ref (kp_of ‹_› rfl) ?_
    with_reducible refine' w_es_cons (w_slice (w_list (w_es_cons (w_int (w_es_nil ?_)))))
    refine' ⟨(Nat.le_of_ble_eq_true rfl), ?_⟩
    with_reducible refine' fun _ _ => p_none (p_some ?_)
    refine' w_cell (clof ‹_› rfl) (hg_new (by with_reducible assumption) kb) (kof ‹_› rfl) ?_
    refine' slx hg_self (by decide) bdn (bdi (by first | lia | omega)) ?_
    with_reducible refine' fun _ _ => w_es_cons (w_list (w_es_nil ?_))
    refine' ⟨(Nat.le_of_ble_eq_true rfl), ?_⟩
    with_reducible refine' fun _ _ => w_es_cons (w_list (w_es_nil ?_))
    refine' ⟨(Nat.le_of_ble_eq_true rfl), ?_⟩
    with_reducible refine' fun _ _ => w_es_cons (w_list (w_es_nil ?_))
    refine' ⟨(Nat.le_of_ble_eq_true rfl), ?_⟩
    with_reducible refine' fun _ _ => w_es_cons (w_bool (w_es_nil ?_))
    rename_i a1 g1 a2 g2 a3 g3 a4 g4 a5 g5
    rw [hcz] at g3 g4 g5 ⊢
    have l1 := Hp.Le.set (o := .list [V.int 1]) (show H6 a1 = none from g1)
    have l2 := l1.trans (Hp.Le.set (o := .list (czv.map V.int)) g2)
    have l3 := l2.trans (Hp.Le.set (o := .list []) g3)
    have l4 := l3.trans (Hp.Le.set (o := .list []) g4)
    have l5 := l4.trans (Hp.Le.set (o := .list []) g5)
    refine nwc_ConfState hD (cz := ⟨czv, [], [], [], false⟩) hcok (Room.le ‹_› (by decide)) (hs_new g5 (hs_new g4 (hs_new g3 hs_self))) (hs_new g5 (hs_new g4 hs_self)) (hs_new g5 hs_self) hs_self ?_
    intro H7 cf l6 ncf hcf
    refine' st_local (lof ‹_› ⟨rfl, rfl⟩) ?_
    with_reducible refine' md_next ?_
    exact ⟨⟨m1, m2, m3, m4, trivial⟩, cf, rfl, l5.trans l6, hcf⟩
  clear m1 m2 m3 m4
  rintro ⟨mm, H7⟩ ⟨⟨m1, m2, m3, m4, _⟩, cf, m5, l7, hcf⟩
  replace kb := l7 _ _ kb
  replace kS := l7 _ _ kS
  clear l7 hcz hcok
  have hn3 : X / 2 % 3 < 3 := Nat.mod_lt _ (by decide)
  refine ss_mid (fun σ => Nms σ.m [("x", .int X), ("y", .int Y), ("z", .int Z), ("n", .int (X / 2 % 3 : Nat)), ("conf", .ref cf)] ∧ H7.Le σ.H ∧ ∃ xl xs, σ.m "stock" = some (.ref xl) ∧ σ.H xl = some (.list xs) ∧ EntV σ.H ((X % 2 : Nat) + 1) xs (LPof X Y).ts) ?_ ?_
  · refine s_comp (cl := [("begin", nb)]) ?_ ?_ ?_
    · exact clos_of cc (by with_unfolding_all rfl)
    · with_reducible refine' w_call ?_
      refine' gl_range ‹_› (kof ‹_› rfl) ?_
      refine' cv_raw rfl ?_
      with_reducible refine' w_es_cons ?_
      refine' w_local m4 ?_
      with_reducible refine' w_es_nil (f_range1 (fun _ _ => ?_))
      refine' it_rgN hg_self (by lia) ?_
      with_reducible refine' fun _ _ => ?_
      rename_i rg hrg it hit
      have lr := Hp.Le.set (o := .rg 0 (X / 2 % 3 : Nat)) (show H7 rg = none from hrg)
      refine block_rgm (n := X / 2 % 3) (fun j y H' => ∃ b, y = .ref b ∧ H' b = some (.inst 213 (EntryFs (.int (1 + (j : Nat))) (.int ((X % 2 : Nat) + 1 + (j : Nat))) (.int 0) (.bytes #[])))) ?_ hit (by (first | lia | omega)) (relb cs (by with_unfolding_all rfl)) (by exact ⟨rfl, rfl⟩) ?_ ?_
      · rintro j v Ha Hb t ⟨b, e1, e2⟩; exact ⟨b, e1, t _ _ e2 (fun _ q => by cases q) rfl⟩
      · intro c' cD' cs' cc' cr' i m' H1 l1 hi3
        have hD' : IsD c'.D := by rw [cD']; exact hD
        have cr2 := cr' _ cr
        have kk1 := l1 _ _ (lr _ _ kb)
        with_reducible refine' w_call ?_
        refine' gl_Entry ‹_› (kof ‹_› rfl) ?_
        refine' cv_ref (kp_of ‹_› rfl) ?_
        with_reducible refine' w_es_cons (w_bin (w_int ?_))
        refine' w_local rfl ?_
        with_reducible refine' b_add (w_es_cons (w_bin (w_bin ?_)))
        refine' w_cell (clof ‹_› rfl) kk1 (kof ‹_› rfl) ?_
        with_reducible refine' w_int (b_add ?_)
        refine' w_local rfl ?_
        with_reducible refine' b_add (w_es_cons ?_)
        refine' gl_ENTRY_NORMAL ‹_› (kof ‹_› rfl) ?_
        with_reducible refine' w_es_cons (w_bytes (w_es_nil ?_))
        refine' nwc_Entry ‹_› (Room.le ‹_› (by decide)) ?_
        with_reducible refine' fun _ _ => ?_
        exact ⟨Hp.Le.set _ ‹_›, _, rfl, hs_self⟩
      · intro acc H' ws l1 ha h1 h2 h3
        refine ⟨lof cs ⟨rfl, rfl⟩, ⟨m1, m2, m3, m4, m5, trivial⟩, lr.trans l1, acc, ws, rfl, h1, EntV.of (by rw [LP.ts_len]; exact h2) fun j y t q1 q2 => ?_⟩
        obtain ⟨b, e1, e2⟩ := h3 j y q1
        have lt : j < (LPof X Y).n := by rw [← LP.ts_len]; exact (List.getElem?_eq_some_iff.mp q2).1
        have e3 : t = 1 + (j : Int) := by
          unfold LP.ts at q2
          rw [List.getElem?_map, List.getElem?_range lt] at q2
          cases q2; rfl
        subst e3
        exact ⟨b, e1, e2⟩
    · exact swap_of cs (by with_unfolding_all rfl)
  clear m1 m2 m3 m4 m5
  rintro ⟨mm, H8⟩ ⟨⟨m1, m2, m3, m4, m5, _⟩, l8, xl, xs, m6, hxl, hxs⟩
  replace kb := l8 _ _ kb
  replace kS := l8 _ _ kS
  replace hcf := hcf.le l8
  clear l8
  have hs3 := Nat.mod_lt (X / 18) (show 0 < X / 2 % 3 + 1 by (first | lia | omega))
  refine ss_mid (fun σ => Nms σ.m [("x", .int X), ("y", .int Y), ("z", .int Z), ("n", .int (X / 2 % 3 : Nat)), ("conf", .ref cf), ("stock", .ref xl), ("sure", .int (X / 18 % (X / 2 % 3 + 1) : Nat))] ∧ σ.H = H8) ?_ ?_
  · have f : ((X : Int).fdiv 18).fmod (((X / 2 % 3 : Nat) : Int) + 1) = ((X / 18 % (X / 2 % 3 + 1) : Nat) : Int) := by
      rw [show (X : Int).fdiv 18 = ((X / 18 : Nat) : Int) from fdiv_nat (m := 18)]; exact fmod_nat (m := X / 2 % 3 + 1) (by (first | lia | omega))
    with_reducible refine' s_assign (w_bin (w_bin ?_))
    refine' w_local m1 ?_
    with_reducible refine' w_int (b_div (by decide) (w_bin ?_))
    refine' w_local m4 ?_
    with_reducible refine' w_int (b_add ?_)
    refine' b_mod (by lia) ?_
    refine' st_local (lof ‹_› ⟨rfl, rfl⟩) ?_
    with_reducible refine' md_next ?_
    rw [f]
    exact ⟨⟨m1, m2, m3, m4, m5, m6, rfl, trivial⟩, rfl⟩
  clear m1 m2 m3 m4 m5 m6
  rintro ⟨mm, H9⟩ ⟨⟨m1, m2, m3, m4, m5, m6, m7, _⟩, e⟩
  replace e : H9 = H8 := e
  subst e
  refine ss_mid (fun σ => Nms σ.m [("x", .int X), ("y", .int Y), ("z", .int Z), ("conf", .ref cf), ("stock", .ref xl), ("sure", .int (X / 18 % (X / 2 % 3 + 1) : Nat)), ("commit", .int (X % 2 + X / 18 % (X / 2 % 3 + 1) : Nat))] ∧ σ.H = H9) ?_ ?_
  · with_reducible refine' s_assign (w_bin ?_)
    refine' w_cell (clof ‹_› rfl) kb (kof ‹_› rfl) ?_
    refine' w_local m7 ?_
    with_reducible refine' b_add ?_
    refine' st_local (lof ‹_› ⟨rfl, rfl⟩) ?_
    with_reducible refine' md_next ?_
    exact ⟨⟨m1, m2, m3, m5, m6, m7, rfl, trivial⟩, rfl⟩
  clear m1 m2 m3 m4 m5 m6 m7
  rintro ⟨mm, H10⟩ ⟨⟨m1, m2, m3, m4, m5, m6, m7, _⟩, e⟩
  replace e : H10 = H9 := e
  subst e
  refine ss_mid (fun σ => Nms σ.m [("x", .int X), ("y", .int Y), ("z", .int Z), ("conf", .ref cf), ("stock", .ref xl), ("commit", .int (X % 2 + X / 18 % (X / 2 % 3 + 1) : Nat)), ("done", .int (X % 2 + X / 54 % (X / 18 % (X / 2 % 3 + 1) + 1) : Nat))] ∧ σ.H = H10) ?_ ?_
  · have f : ((X : Int).fdiv 54).fmod (((X / 18 % (X / 2 % 3 + 1) : Nat) : Int) + 1) = ((X / 54 % (X / 18 % (X / 2 % 3 + 1) + 1) : Nat) : Int) := by
      rw [show (X : Int).fdiv 54 = ((X / 54 : Nat) : Int) from fdiv_nat (m := 54)]; exact fmod_nat (m := X / 18 % (X / 2 % 3 + 1) + 1) (by (first | lia | omega))
    with_reducible refine' s_assign (w_bin ?_)
    refine' w_cell (clof ‹_› rfl) kb (kof ‹_› rfl) ?_
    with_reducible refine' w_bin (w_bin ?_)
    refine' w_local m1 ?_
    with_reducible refine' w_int (b_div (by decide) (w_bin ?_))
    refine' w_local m6 ?_
    with_reducible refine' w_int (b_add ?_)
    refine' b_mod (by lia) ?_
    with_reducible refine' b_add ?_
    refine' st_local (lof ‹_› ⟨rfl, rfl⟩) ?_
    with_reducible refine' md_next ?_
    rw [f]
    exact ⟨⟨m1, m2, m3, m4, m5, m7, rfl, trivial⟩, rfl⟩
  clear m1 m2 m3 m4 m5 m6 m7
  rintro ⟨mm, H11⟩ ⟨⟨m1, m2, m3, m4, m5, m6, m7, _⟩, e⟩
  replace e : H11 = H10 := e
  subst e
  refine ss_mid (fun σ => Nms σ.m [("x", .int X), ("y", .int Y), ("z", .int Z), ("conf", .ref cf), ("stock", .ref xl), ("commit", .int (X % 2 + X / 18 % (X / 2 % 3 + 1) : Nat)), ("done", .int (X % 2 + X / 54 % (X / 18 % (X / 2 % 3 + 1) + 1) : Nat))] ∧ σ.H nS = some (.cell (some (.int (LPof X Y).s))) ∧ σ.H nb = some (.cell (some (.int (X % 2 : Nat)))) ∧ CfIs σ.H cf ⟨czv, [], [], [], false⟩ ∧ σ.H xl = some (.list xs) ∧ EntV σ.H ((X % 2 : Nat) + 1) xs (LPof X Y).ts) ?_ ?_
  · have f : ((Y : Int)).fmod 3 = ((Y % 3 : Nat) : Int) := fmod_nat (m := 3) (by decide)
    have g : max ((X % 2 + X / 18 % (X / 2 % 3 + 1) : Nat) : Int) (((X % 2 : Nat) : Int) + 1) + ((Y % 3 : Nat) : Int) = (LPof X Y).s := by
      simp only [LPof]; (first | lia | omega)
    with_reducible refine' s_assign (w_bin (w_call ?_))
    refine' gl_max ‹_› (kof ‹_› rfl) ?_
    refine' cv_raw rfl ?_
    with_reducible refine' w_es_cons ?_
    refine' w_local m6 ?_
    with_reducible refine' w_es_cons (w_bin ?_)
    refine' w_cell (clof ‹_› rfl) kb (kof ‹_› rfl) ?_
    with_reducible refine' w_int (b_add (w_es_nil (f_max2 (w_bin ?_))))
    refine' w_local m2 ?_
    with_reducible refine' w_int (b_mod (by decide) (b_add ?_))
    refine' st_cell (kof ‹_› rfl) (clof ‹_› rfl) kS ?_
    with_reducible refine' md_next ?_
    rw [f, g]
    have ch : Ch1 H11 (H11.set nS (.cell (some (.int (LPof X Y).s)))) nS := Ch1.refl.set
    have kS' : H11 nS = some (.cell none) := kS
    refine ⟨⟨m1, m2, m3, m4, m5, m6, m7, trivial⟩, hs_self, ch _ _ kb nbs, ?_, ch _ _ hxl (ne_ob hxl kS' fun q => by cases q), ?_⟩
    · exact hcf.ch ch kS' (fun _ _ q => by cases q) (fun _ q => by cases q)
    · exact hxs.map fun a fs q => ch _ _ q (ne_ob q kS' fun q => by cases q)
  clear m1 m2 m3 m4 m5 m6 m7 kb kS hcf hxl hxs
  rintro ⟨mm, H12⟩ ⟨⟨m1, m2, m3, m4, m5, m6, m7, _⟩, kS, kb, hcf, hxl, hxs⟩
  refine ss_mid (fun σ => Nms σ.m [("x", .int X), ("y", .int Y), ("z", .int Z), ("conf", .ref cf), ("stock", .ref xl), ("commit", .int (X % 2 + X / 18 % (X / 2 % 3 + 1) : Nat)), ("done", .int (X % 2 + X / 54 % (X / 18 % (X / 2 % 3 + 1) + 1) : Nat)), ("k", .int (Y / 3 % 3 : Nat))] ∧ σ.H = H12) ?_ ?_
  · have f : ((Y : Int).fdiv 3).fmod 3 = ((Y / 3 % 3 : Nat) : Int) := by
      rw [show (Y : Int).fdiv 3 = ((Y / 3 : Nat) : Int) from fdiv_nat (m := 3)]; exact fmod_nat (m := 3) (by decide)
    with_reducible refine' s_assign (w_bin (w_bin ?_))
    refine' w_local m2 ?_
    with_reducible refine' w_int (b_div (by decide) (w_int (b_mod (by decide) ?_)))
    refine' st_local (lof ‹_› ⟨rfl, rfl⟩) ?_
    with_reducible refine' md_next ?_
    rw [f]
    exact ⟨⟨m1, m2, m3, m4, m5, m6, m7, rfl, trivial⟩, rfl⟩
  clear m1 m2 m3 m4 m5 m6 m7
  rintro ⟨mm, H13⟩ ⟨⟨m1, m2, m3, m4, m5, m6, m7, m8, _⟩, e⟩
  replace e : H13 = H12 := e
  subst e
  refine ss_mid (fun σ => Nms σ.m [("x", .int X), ("y", .int Y), ("z", .int Z), ("conf", .ref cf), ("stock", .ref xl), ("commit", .int (X % 2 + X / 18 % (X / 2 % 3 + 1) : Nat)), ("done", .int (X % 2 + X / 54 % (X / 18 % (X / 2 % 3 + 1) + 1) : Nat)), ("k", .int (Y / 3 % 3 : Nat)), ("top", .int (LPof X Y).top)] ∧ σ.H = H13) ?_ ?_
  · have f : ((Y : Int).fdiv 9).fmod (((Y / 3 % 3 : Nat) : Int) + 1) = ((Y / 9 % (Y / 3 % 3 + 1) : Nat) : Int) := by
      rw [show (Y : Int).fdiv 9 = ((Y / 9 : Nat) : Int) from fdiv_nat (m := 9)]; exact fmod_nat (m := Y / 3 % 3 + 1) (by (first | lia | omega))
    have g : (LPof X Y).s + ((Y / 9 % (Y / 3 % 3 + 1) : Nat) : Int) = (LPof X Y).top := by
      simp only [LPof]; (first | lia | omega)
    with_reducible refine' s_assign (w_bin ?_)
    refine' w_cell (clof ‹_› rfl) kS (kof ‹_› rfl) ?_
    with_reducible refine' w_bin (w_bin ?_)
    refine' w_local m2 ?_
    with_reducible refine' w_int (b_div (by decide) (w_bin ?_))
    refine' w_local m8 ?_
    with_reducible refine' w_int (b_add ?_)
    refine' b_mod (by lia) ?_
    with_reducible refine' b_add ?_
    refine' st_local (lof ‹_› ⟨rfl, rfl⟩) ?_
    with_reducible refine' md_next ?_
    rw [f, g]
    exact ⟨⟨m1, m2, m3, m4, m5, m6, m7, m8, rfl, trivial⟩, rfl⟩
  clear m1 m2 m3 m4 m5 m6 m7 m8
  rintro ⟨mm, H14⟩ ⟨⟨m1, m2, m3, m4, m5, m6, m7, m8, m9, _⟩, e⟩
  replace e : H14 = H13 := e
  subst e
  refine ss_mid (fun σ => Nms σ.m [("x", .int X), ("z", .int Z), ("conf", .ref cf), ("stock", .ref xl), ("commit", .int (X % 2 + X / 18 % (X / 2 % 3 + 1) : Nat)), ("done", .int (X % 2 + X / 54 % (X / 18 % (X / 2 % 3 + 1) + 1) : Nat)), ("k", .int (LPof X Y).k), ("top", .int (LPof X Y).top), ("told", .int (LPof X Y).told)] ∧ σ.H = H14) ?_ ?_
  · have f : ((Y : Int).fdiv 27).fmod (((Y / 3 % 3 : Nat) : Int) + 1) = ((Y / 27 % (Y / 3 % 3 + 1) : Nat) : Int) := by
      rw [show (Y : Int).fdiv 27 = ((Y / 27 : Nat) : Int) from fdiv_nat (m := 27)]; exact fmod_nat (m := Y / 3 % 3 + 1) (by (first | lia | omega))
    have lt := Nat.mod_lt (Y / 27) (show 0 < Y / 3 % 3 + 1 by (first | lia | omega))
    have g : ((Y / 3 % 3 : Nat) : Int) - ((Y / 27 % (Y / 3 % 3 + 1) : Nat) : Int) = (LPof X Y).told := by
      simp only [LPof]; (first | lia | omega)
    with_reducible refine' s_assign (w_bin ?_)
    refine' w_local m8 ?_
    with_reducible refine' w_bin (w_bin ?_)
    refine' w_local m2 ?_
    with_reducible refine' w_int (b_div (by decide) (w_bin ?_))
    refine' w_local m8 ?_
    with_reducible refine' w_int (b_add ?_)
    refine' b_mod (by lia) ?_
    with_reducible refine' b_sub ?_
    refine' st_local (lof ‹_› ⟨rfl, rfl⟩) ?_
    with_reducible refine' md_next ?_
    rw [f, g]
    exact ⟨⟨m1, m3, m4, m5, m6, m7, m8, m9, rfl, trivial⟩, rfl⟩
  clear m1 m2 m3 m4 m5 m6 m7 m8 m9
  rintro ⟨mm, H15⟩ ⟨⟨m1, m2, m3, m4, m5, m6, m7, m8, m9, _⟩, e⟩
  replace e : H15 = H14 := e
  subst e
  have hP := LPof_ok X Y
  have q1 : (LPof X Y).bg = (X : Int) % 2 := by simp only [LPof]; (first | lia | omega)
  have q0 : (LPof X Y).bg = ((X % 2 : Nat) : Int) := rfl
  have q2 : ((X : Int) / 6) % (((LPof X Y).n : Int) + 1) = (LPof X Y).stored := by simp only [LPof]; rfl
  have q3 : ((X : Int) / 18) % (((LPof X Y).n : Int) + 1) = (LPof X Y).sure := by simp only [LPof]; rfl
  have q4 : ((X : Int) / 54) % (((LPof X Y).sure : Int) + 1) = (LPof X Y).dn := by simp only [LPof]; rfl
  have q5 : ((X % 2 + X / 18 % (X / 2 % 3 + 1) : Nat) : Int) = (LPof X Y).bg + (LPof X Y).sure := by simp only [LPof]; (first | lia | omega)
  have q6 : ((X % 2 + X / 54 % (X / 18 % (X / 2 % 3 + 1) + 1) : Nat) : Int) = (LPof X Y).bg + (LPof X Y).dn := by simp only [LPof]; (first | lia | omega)
  rw [q5] at m5
  rw [q6] at m6
  rw [← q0] at kb hxs hczl
  clear q5 q6 q0
  generalize LPof X Y = P at m5 m6 m7 m8 m9 kS kb hxs hczl hP q1 q2 q3 q4
  refine ss_mid (fun σ => Nms σ.m [("x", .int X), ("z", .int Z), ("conf", .ref cf), ("stock", .ref xl), ("commit", .int (P.bg + P.sure)), ("done", .int (P.bg + P.dn)), ("k", .int P.k), ("top", .int P.top), ("told", .int P.told)] ∧ H15.Le σ.H ∧ ∃ sp cf2 bs, σ.m "snap" = some (.ref sp) ∧ SnIs σ.H (sp, P.s, 5) cf2 ⟨[1, 2], [3], [], [], false⟩ bs) ?_ ?_
  · with_reducible refine' s_assign (w_call ?_)
    refine' gl_Snapshot ‹_› (kof ‹_› rfl) ?_
    refine' cv_ref (kp_of ‹_› rfl) ?_
    with_reducible refine' w_es_cons ?_
    refine' w_cell (clof ‹_› rfl) kS (kof ‹_› rfl) ?_
    with_reducible refine' w_es_cons (w_int (w_es_cons (w_call ?_)))
    refine' gl_ConfState ‹_› (kof ‹_› rfl) ?_
    refine' cv_ref (kp_of ‹_› rfl) ?_
    with_reducible refine' w_es_cons (w_list (w_es_cons (w_int (w_es_cons (w_int (w_es_nil ?_))))))
    refine' ⟨(Nat.le_of_ble_eq_true rfl), ?_⟩
    with_reducible refine' fun _ _ => w_es_cons (w_list (w_es_cons (w_int (w_es_nil ?_))))
    refine' ⟨(Nat.le_of_ble_eq_true rfl), ?_⟩
    with_reducible refine' fun _ _ => w_es_cons (w_list (w_es_nil ?_))
    refine' ⟨(Nat.le_of_ble_eq_true rfl), ?_⟩
    with_reducible refine' fun _ _ => w_es_cons (w_list (w_es_nil ?_))
    refine' ⟨(Nat.le_of_ble_eq_true rfl), ?_⟩
    with_reducible refine' fun _ _ => w_es_cons (w_bool (w_es_nil ?_))
    rename_i a1 g1 a2 g2 a3 g3 a4 g4
    have l1 := Hp.Le.set (o := .list [V.int 1, V.int 2]) (show H15 a1 = none from g1)
    have l2 := l1.trans (Hp.Le.set (o := .list [V.int 3]) g2)
    have l3 := l2.trans (Hp.Le.set (o := .list []) g3)
    have l4 := l3.trans (Hp.Le.set (o := .list []) g4)
    refine nwc_ConfState hD (cz := ⟨[1, 2], [3], [], [], false⟩) ⟨by simp, by simp, .nil, .nil, by simp⟩ (Room.le ‹_› (by decide)) (hs_new g4 (hs_new g3 (hs_new g2 hs_self))) (hs_new g4 (hs_new g3 hs_self)) (hs_new g4 hs_self) hs_self ?_
    intro H7 cf2 l6 ncf hcf2
    with_reducible refine' w_es_cons (w_bytes (w_es_nil ?_))
    refine' nwc_Snapshot ‹_› (Room.le ‹_› (by decide)) ?_
    with_reducible refine' fun _ _ => ?_
    refine' st_local (lof ‹_› ⟨rfl, rfl⟩) ?_
    with_reducible refine' md_next ?_
    rename_i sp hsp
    exact ⟨⟨m1, m2, m3, m4, m5, m6, m7, m8, m9, trivial⟩, (l4.trans l6).trans (Hp.Le.set _ hsp), sp, cf2, _, rfl, hs_self, hcf2.le (Hp.Le.set _ hsp)⟩
  clear m1 m2 m3 m4 m5 m6 m7 m8 m9
  rintro ⟨mm, H16⟩ ⟨⟨m1, m2, m3, m4, m5, m6, m7, m8, m9, _⟩, l16, sp, cf2, bs, m10, hsp⟩
  replace kb := l16 _ _ kb
  replace kS := l16 _ _ kS
  replace hcf := hcf.le l16
  replace hxl := l16 _ _ hxl
  replace hxs := hxs.le l16
  clear l16
  refine ss_mid (fun σ => Nms σ.m [("x", .int X), ("z", .int Z), ("conf", .ref cf), ("stock", .ref xl), ("commit", .int (P.bg + P.sure)), ("done", .int (P.bg + P.dn)), ("k", .int P.k), ("top", .int P.top), ("told", .int P.told), ("snap", .ref sp)] ∧ H16.Le σ.H ∧ ∃ tl ys, σ.m "tail" = some (.ref tl) ∧ σ.H tl = some (.list ys) ∧ EntV σ.H (P.s + 1) ys P.tl) ?_ ?_
  · have hk := hP.k
    refine s_comp (cl := [("s", nS)]) ?_ ?_ ?_
    · exact clos_of cc (by with_unfolding_all rfl)
    · with_reducible refine' w_call ?_
      refine' gl_range ‹_› (kof ‹_› rfl) ?_
      refine' cv_raw rfl ?_
      with_reducible refine' w_es_cons ?_
      refine' w_local m7 ?_
      with_reducible refine' w_es_nil (f_range1 (fun _ _ => ?_))
      refine' it_rgN hg_self (by lia) ?_
      with_reducible refine' fun _ _ => ?_
      rename_i rg hrg it hit
      have lr := Hp.Le.set (o := .rg 0 P.k) (show H16 rg = none from hrg)
      refine block_rgm (n := P.k) (fun j y H' => ∃ b, y = .ref b ∧ H' b = some (.inst 213 (EntryFs (.int (6 + (j : Nat))) (.int (P.s + 1 + (j : Nat))) (.int 0) (.bytes #[])))) ?_ hit (by (first | lia | omega)) (relb cs (by with_unfolding_all rfl)) (by exact ⟨rfl, rfl⟩) ?_ ?_
      · rintro j v Ha Hb t ⟨b, e1, e2⟩; exact ⟨b, e1, t _ _ e2 (fun _ q => by cases q) rfl⟩
      · intro c' cD' cs' cc' cr' i m' H1 l1 hi3
        have hD' : IsD c'.D := by rw [cD']; exact hD
        have cr2 := cr' _ cr
        have kk1 := l1 _ _ (lr _ _ kS)
        with_reducible refine' w_call ?_
        refine' gl_Entry ‹_› (kof ‹_› rfl) ?_
        refine' cv_ref (kp_of ‹_› rfl) ?_
        with_reducible refine' w_es_cons (w_bin (w_int ?_))
        refine' w_local rfl ?_
        with_reducible refine' b_add (w_es_cons (w_bin (w_bin ?_)))
        refine' w_cell (clof ‹_› rfl) kk1 (kof ‹_› rfl) ?_
        with_reducible refine' w_int (b_add ?_)
        refine' w_local rfl ?_
        with_reducible refine' b_add (w_es_cons ?_)
        refine' gl_ENTRY_NORMAL ‹_› (kof ‹_› rfl) ?_
        with_reducible refine' w_es_cons (w_bytes (w_es_nil ?_))
        refine' nwc_Entry ‹_› (Room.le ‹_› (by decide)) ?_
        with_reducible refine' fun _ _ => ?_
        exact ⟨Hp.Le.set _ ‹_›, _, rfl, hs_self⟩
      · intro acc H' ws l1 ha h1 h2 h3
        refine ⟨lof cs ⟨rfl, rfl⟩, ⟨m1, m2, m3, m4, m5, m6, m7, m8, m9, m10, trivial⟩, lr.trans l1, acc, ws, rfl, h1, EntV.of (by rw [LP.tl_len]; exact h2) fun j y t q1 q2 => ?_⟩
        obtain ⟨b, e1, e2⟩ := h3 j y q1
        have lt : j < P.k := by rw [← LP.tl_len]; exact (List.getElem?_eq_some_iff.mp q2).1
        rw [LP.tl_get _ _ lt] at q2
        cases q2
        exact ⟨b, e1, e2⟩
    · exact swap_of cs (by with_unfolding_all rfl)
  clear m1 m2 m3 m4 m5 m6 m7 m8 m9 m10
  rintro ⟨mm, H17⟩ ⟨⟨m1, m2, m3, m4, m5, m6, m7, m8, m9, m10, _⟩, l17, tl, ys, m11, htl, hys⟩
  replace kb := l17 _ _ kb
  replace kS := l17 _ _ kS
  replace hcf := hcf.le l17
  replace hxl := l17 _ _ hxl
  replace hxs := hxs.le l17
  replace hsp := hsp.le l17
  clear l17
  have hb := hP.b
  have hz := hP.z
  have hn2 := hP.n
  have beg : ∀ {Ha : Hp} {Q : V → Hp → Prop}, H17.Le Ha → Hold (∀ H' nt r u st sn hd K', Ha.Le H' → Ha.Le K' → At K' H' r u st (begS P.bg P.ts P.stored P.sure P.dn sn hd) → K' nt = some (.tup [.ref st, .ref r]) → K' hd = some (.inst 269 (HardStateFs (.int P.bg) (.int 0) (.int P.bg))) → SnIs K' (sn, P.bg, P.bg) cf ⟨czv, [], [], [], false⟩ #[] → Q (.ref nt) H') → Fn c.D 5 770 [.int X, .ref cf, .ref xl] Q Ha := fun l h =>
    fn_law_begun hD (hcf.le l) (l _ _ hxl) (hxs.le l) hczl q1 (by (first | lia | omega)) (by rw [P.ts_len]; (first | lia | omega)) (fun j lt => P.ts_at j (by rw [P.ts_len] at lt; exact lt)) (by rw [P.ts_len]; exact q2) (by rw [P.ts_len]; exact q3) q4 (by rw [P.ts_len]; exact hz) h
  refine ss_mid (fun σ => Nms σ.m [("x", .int X), ("z", .int Z), ("conf", .ref cf), ("stock", .ref xl), ("done", .int (P.bg + P.dn)), ("k", .int P.k), ("top", .int P.top), ("told", .int P.told), ("snap", .ref sp), ("tail", .ref tl)] ∧ H17.Le σ.H) ?_ ?_
  · by_cases z : 0 < P.bg + (P.sure : Int)
    · with_reducible refine' s_if (t_cmp ?_)
      refine' w_local m5 ?_
      with_reducible refine' w_int (c_gt (tr_bool (br_d ?_ ?_)))
      with_reducible refine' fun _ => s_one (s_if (t_not (t_val (w_call ?_))))
      refine' gl__law_refuses ‹_› (kof ‹_› rfl) ?_
      refine' cv_ref (kp_of ‹_› rfl) ?_
      with_reducible refine' w_es_cons (w_sub (w_call ?_))
      refine' gl__law_begun ‹_› (kof ‹_› rfl) ?_
      refine' cv_ref (kp_of ‹_› rfl) ?_
      with_reducible refine' w_es_cons ?_
      refine' w_local m1 ?_
      with_reducible refine' w_es_cons ?_
      refine' w_local m3 ?_
      with_reducible refine' w_es_cons ?_
      refine' w_local m4 ?_
      with_reducible refine' w_es_nil ?_
      rotate_left
      with_reducible refine' fun _ => ?_
      exact False.elim (by lia)
      refine Fn.go (beg (Hp.Le.refl _) ?_) (Room.le ‹_› (by decide))
      intro H18 nt r u st sn hd K' l18 lk hat hnt hhd hsn
      have hnt' := hat.t.le _ _ hnt
      with_reducible refine' w_int ?_
      refine' i_tup hnt' (by decide) (by decide) rfl ?_
      with_reducible refine' w_es_cons (w_call ?_)
      refine' gl_Snapshot ‹_› (kof ‹_› rfl) ?_
      refine' cv_ref (kp_of ‹_› rfl) ?_
      with_reducible refine' w_es_cons (w_bin ?_)
      refine' w_local m5 ?_
      with_reducible refine' w_int (b_sub (w_es_cons (w_int (w_es_cons ?_))))
      refine' w_local m3 ?_
      with_reducible refine' w_es_cons (w_bytes (w_es_nil ?_))
      refine' nwc_Snapshot ‹_› (Room.le ‹_› (by decide)) ?_
      with_reducible refine' fun _ _ => w_es_nil ?_
      rename_i n1 hn1
      refine Fn.go (hR (p := (n1, P.bg + P.sure - 1, 5)) (hat.new hn1) rfl ⟨_, _, hs_self⟩ ?_ ?_) (Room.le ‹_› (by decide))
      · dsimp only [begS]; (first | lia | omega)
      intro H19 l19
      with_reducible refine' tr_bool ?_
      refine' br_F rfl ?_
      with_reducible refine' s_nil (md_next ?_)
      exact ⟨⟨m1, m2, m3, m4, m6, m7, m8, m9, m10, m11, trivial⟩, (l18.trans (Hp.Le.set _ hn1)).trans l19⟩
    · with_reducible refine' s_if (t_cmp ?_)
      refine' w_local m5 ?_
      with_reducible refine' w_int (c_gt (tr_bool (br_d ?_ ?_)))
      with_reducible refine' fun _ => ?_
      exact False.elim (by lia)
      with_reducible refine' fun _ => s_nil (md_next ?_)
      exact ⟨⟨m1, m2, m3, m4, m6, m7, m8, m9, m10, m11, trivial⟩, Hp.Le.refl _⟩
  clear m1 m2 m3 m4 m5 m6 m7 m8 m9 m10 m11
  rintro ⟨mm, H18⟩ ⟨⟨m1, m2, m3, m4, m5, m6, m7, m8, m9, m10, _⟩, l18⟩
  refine ss_mid (fun σ => True) ?_ ?_
  · with_reducible refine' s_for (w_call ?_)
    refine' gl_range ‹_› (kof ‹_› rfl) ?_
    refine' cv_raw rfl ?_
    with_reducible refine' w_es_cons (w_int (w_es_nil (f_range1 (fun _ _ => ?_))))
    refine' it_rgN hg_self (by lia) ?_
    with_reducible refine' fun _ _ => itx ?_
    rename_i rg hrg it hit
    have hrg' : H18 rg = none := hrg
    have l19 : H17.Le (H18.set rg (.rg 0 8)) := l18.trans (Hp.Le.set _ hrg')
    have hit' : (H18.set rg (.rg 0 8)) it = none := hit
    have hitn : H17 it = none := l19.non hit'
    refine loop_rg (n := 8) (fun x n σ => ∃ i : Nat, x = i ∧ i + n = 8 ∧ Nms σ.m [("x", .int X), ("z", .int Z), ("conf", .ref cf), ("stock", .ref xl), ("done", .int (P.bg + P.dn)), ("k", .int P.k), ("top", .int P.top), ("told", .int P.told), ("snap", .ref sp), ("tail", .ref tl)] ∧ σ.H it = some (.ri x n) ∧ H17.Le σ.H) ?_ ?_ ?_ (by with_unfolding_all rfl) ⟨0, rfl, rfl, ⟨m1, m2, m3, m4, m5, m6, m7, m8, m9, m10, trivial⟩, hs_self, l19.trans (Hp.Le.set _ hit')⟩
    · rintro x n σ ⟨i, _, _, _, h, _⟩; exact h
    · clear m1 m2 m3 m4 m5 m6 m7 m8 m9 m10 l19 hit' hrg' l18 hit hrg
      rintro x k ⟨mm2, H20⟩ ⟨i, rfl, ei, ⟨m1, m2, m3, m4, m5, m6, m7, m8, m9, m10, _⟩, h1, l20⟩
      have l21 : H17.Le (H20.set it (.ri ((i : Int) + 1) k)) := Hp.Le.setN hitn l20
      have h21 : (H20.set it (.ri ((i : Int) + 1) k)) it = some (.ri ((i : Int) + 1) k) := hs_self
      show c.Asg Nope _ _ _ ⟨mm2, H20.set it (.ri ((i : Int) + 1) k)⟩
      generalize H20.set it (.ri ((i : Int) + 1) k) = H21 at l21 h21 ⊢
      clear l20 h1
      refine as_name (st_local (lof cs ⟨rfl, rfl⟩) ?_)
      refine ss_mid (fun σ => Nms σ.m [("x", .int X), ("z", .int Z), ("conf", .ref cf), ("stock", .ref xl), ("done", .int (P.bg + P.dn)), ("k", .int P.k), ("top", .int P.top), ("told", .int P.told), ("snap", .ref sp), ("tail", .ref tl), ("turn", .int i)] ∧ ∃ K' r u st sn hd, Nms σ.m [("storage", .ref st), ("log", .ref r)] ∧ H21.Le K' ∧ At K' σ.H r u st (begS P.bg P.ts P.stored P.sure P.dn sn hd) ∧ K' hd = some (.inst 269 (HardStateFs (.int P.bg) (.int 0) (.int P.bg))) ∧ SnIs K' (sn, P.bg, P.bg) cf ⟨czv, [], [], [], false⟩ #[]) ?_ ?_
      · with_reducible refine' s_assignT (w_call ?_)
        refine' gl__law_begun ‹_› (kof ‹_› rfl) ?_
        refine' cv_ref (kp_of ‹_› rfl) ?_
        with_reducible refine' w_es_cons ?_
        refine' w_local m1 ?_
        with_reducible refine' w_es_cons ?_
        refine' w_local m3 ?_
        with_reducible refine' w_es_cons ?_
        refine' w_local m4 ?_
        with_reducible refine' w_es_nil ?_
        refine Fn.go (beg l21 ?_) (Room.le ‹_› (by decide))
        intro H22 nt r u st sn hd K' l22 lk hat hnt hhd hsn
        have hnt' := hat.t.le _ _ hnt
        refine' as_tup hnt' rfl ?_
        with_reducible refine' as_cons ?_
        refine' st_local (lof ‹_› ⟨rfl, rfl⟩) ?_
        with_reducible refine' as_cons ?_
        refine' st_local (lof ‹_› ⟨rfl, rfl⟩) ?_
        with_reducible refine' as_nil (md_next ?_)
        exact ⟨⟨m1, m2, m3, m4, m5, m6, m7, m8, m9, m10, rfl, trivial⟩, K', r, u, st, sn, hd, ⟨rfl, rfl, trivial⟩, lk, hat, hhd, hsn⟩
      clear m1 m2 m3 m4 m5 m6 m7 m8 m9 m10
      rintro ⟨mm3, H22⟩ ⟨⟨m1, m2, m3, m4, m5, m6, m7, m8, m9, m10, m11, _⟩, K', r, u, st, sn, hd, ⟨m12, m13, _⟩, lk, hat, hhd, hsn⟩
      have snp : SnpAt K' (sp, P.s, 5) := (hsp.le (l21.trans lk)).at_
      have hs := hP.s
      have hk := hP.k
      refine ss_mid (fun σ => Nms σ.m [("x", .int X), ("z", .int Z), ("conf", .ref cf), ("stock", .ref xl), ("done", .int (P.bg + P.dn)), ("k", .int P.k), ("top", .int P.top), ("told", .int P.told), ("snap", .ref sp), ("tail", .ref tl), ("turn", .int i), ("storage", .ref st), ("log", .ref r)] ∧ At K' σ.H r u st { begS P.bg P.ts P.stored P.sure P.dn sn hd with com := P.s, off := P.s + 1, sn := some (sp, P.s, 5), es := [] }) ?_ ?_
      · have hr := hat.r
        with_reducible refine' s_ex (w_meth ?_)
        refine' w_local m13 ?_
        with_reducible refine' me_RaftLog_restore ‹_› hr ?_
        refine' cm_one (kp_of ‹_› rfl) ?_
        with_reducible refine' w_es_cons ?_
        refine' w_local m9 ?_
        with_reducible refine' w_es_nil ?_
        refine Fn.go (fn_restore (p := (sp, P.s, 5)) hD hat snp (by dsimp only; (first | lia | omega)) (by dsimp only [begS]; (first | lia | omega)) ?_) (Room.le ‹_› (by decide))
        intro H23 hat2
        refine' ⟨rfl, ?_⟩
        with_reducible refine' md_next ?_
        exact ⟨⟨m1, m2, m3, m4, m5, m6, m7, m8, m9, m10, m11, m12, m13, trivial⟩, hat2⟩
      clear m1 m2 m3 m4 m5 m6 m7 m8 m9 m10 m11 m12 m13 hat
      rintro ⟨mm4, H23⟩ ⟨⟨m1, m2, m3, m4, m5, m6, m7, m8, m9, m10, m11, m12, m13, _⟩, hat⟩
      refine ss_mid (fun σ => Nms σ.m [("x", .int X), ("z", .int Z), ("conf", .ref cf), ("stock", .ref xl), ("done", .int (P.bg + P.dn)), ("k", .int P.k), ("top", .int P.top), ("told", .int P.told), ("snap", .ref sp), ("tail", .ref tl), ("turn", .int i), ("storage", .ref st), ("log", .ref r)] ∧ At K' σ.H r u st (lawS P sp sn hd ⟨false, false, false, false⟩)) ?_ ?_
      · have hr := hat.r
        have htl2 := hat.t.le _ _ (lk _ _ (l21 _ _ htl))
        with_reducible refine' s_ex (w_meth ?_)
        refine' w_local m13 ?_
        with_reducible refine' me_RaftLog_append ‹_› hr ?_
        refine' cm_one (kp_of ‹_› rfl) ?_
        with_reducible refine' w_es_cons ?_
        refine' w_local m10 ?_
        with_reducible refine' w_es_nil ?_
        refine Fn.go (fn_append hD hat htl2 (hys.le (l21.trans lk)) rfl ?_ ?_ (by rw [P.tl_len]; (first | lia | omega)) ?_) (Room.le ‹_› (by decide))
        · show P.s + 1 - 1 ≤ LS.last _
          rw [LS.last_some (p := (sp, P.s, 5)) rfl rfl]; exact Int.le_refl _
        · dsimp only; (first | lia | omega)
        intro H24 jj hat2
        refine' ⟨rfl, ?_⟩
        with_reducible refine' md_next ?_
        refine ⟨⟨m1, m2, m3, m4, m5, m6, m7, m8, m9, m10, m11, m12, m13, trivial⟩, ?_⟩
        have e : (lawS P sp sn hd ⟨false, false, false, false⟩) = { begS P.bg P.ts P.stored P.sure P.dn sn hd with com := P.s, off := P.s + 1, sn := some (sp, P.s, 5), es := P.tl } := by
          simp [lawS, begS]
        rw [e]; exact hat2
      clear m1 m2 m3 m4 m5 m6 m7 m8 m9 m10 m11 m12 m13 hat
      rintro ⟨mm5, H24⟩ ⟨⟨m1, m2, m3, m4, m5, m6, m7, m8, m9, m10, m11, m12, m13, _⟩, hat⟩
      have lK : H17.Le K' := l21.trans lk
      have kS2 := lK _ _ kS
      have hi8 : i < 8 := by (first | lia | omega)
      obtain ⟨wz1, wz2, wz3⟩ := wd_sz i hi8
      refine ss_mid (fun σ => (Nms σ.m (tnm X Z P cf xl sp tl) ∧ Nms σ.m [("turn", .int i), ("storage", .ref st), ("log", .ref r)]) ∧ At K' σ.H r u st (lawS P sp sn hd (fg i 0))) ?_ ?_
      · have hr := hat.r
        have kS3 := hat.t.le _ _ kS2
        with_reducible refine' s_if (t_cmp (w_tuple (w_es_cons (att ?_))))
        refine' w_local m13 ?_
        refine' gfG ‹_› hr rfl rfl rfl ?_
        with_reducible refine' w_es_cons (att ?_)
        refine' w_local m13 ?_
        refine' gfG ‹_› hr rfl rfl rfl ?_
        with_reducible refine' w_es_nil ?_
        refine' ⟨(Nat.le_of_ble_eq_true rfl), ?_⟩
        with_reducible refine' fun _ _ => w_tuple (w_es_cons ?_)
        refine' w_cell (clof ‹_› rfl) (hg_new (by with_reducible assumption) kS3) (kof ‹_› rfl) ?_
        with_reducible refine' w_es_cons ?_
        refine' w_local m5 ?_
        with_reducible refine' w_es_nil ?_
        refine' ⟨(Nat.le_of_ble_eq_true rfl), ?_⟩
        with_reducible refine' fun _ _ => ?_
        rename_i n1 g1 n2 g2
        refine c_neI2 ‹_› (hs_new g2 hs_self) hs_self ?_
        with_reducible refine' tr_bool (br_f (s_nil (md_next ?_)))
        exact ⟨⟨⟨m1, m2, m3, m4, m5, m6, m7, m8, m9, m10, trivial⟩, m11, m12, m13, trivial⟩, hat.le ((Hp.Le.set _ g1).trans (Hp.Le.set _ g2))⟩
      clear m1 m2 m3 m4 m5 m6 m7 m8 m9 m10 m11 m12 m13 hat
      rintro ⟨mm6, H25⟩ ⟨⟨⟨m1, m2, m3, m4, m5, m6, m7, m8, m9, m10, _⟩, m11, m12, m13, _⟩, hat⟩
      refine ss_mid (fun σ => (Nms σ.m (tnm X Z P cf xl sp tl) ∧ Nms σ.m [("turn", .int i), ("storage", .ref st), ("log", .ref r), ("acts", .str (pre i 0))]) ∧ At K' σ.H r u st (lawS P sp sn hd (fg i 0))) ?_ ?_
      · with_reducible refine' s_assign (w_str ?_)
        refine' st_local (lof ‹_› ⟨rfl, rfl⟩) ?_
        with_reducible refine' md_next ?_
        exact ⟨⟨⟨m1, m2, m3, m4, m5, m6, m7, m8, m9, m10, trivial⟩, m11, m12, m13, by rw [wz3]; rfl, trivial⟩, hat⟩
      clear m1 m2 m3 m4 m5 m6 m7 m8 m9 m10 m11 m12 m13 hat
      rintro ⟨mm7, H26⟩ ⟨⟨⟨m1, m2, m3, m4, m5, m6, m7, m8, m9, m10, _⟩, m11, m12, m13, m14, _⟩, hat⟩
      refine ss_mid (fun σ => (Nms σ.m (tnm X Z P cf xl sp tl) ∧ Nms σ.m [("turn", .int i), ("storage", .ref st), ("log", .ref r)]) ∧ At K' σ.H r u st (lawS P sp sn hd (fg i 4))) ?_ ?_
      · have ho := ords_at' i hi8
        with_reducible refine' s_for (w_sub (w_call ?_))
        refine' gl__law_orders ‹_› (kof ‹_› rfl) ?_
        refine' cv_ref (kp_of ‹_› rfl) ?_
        with_reducible refine' w_es_nil ?_
        refine' Fn.go (fn_law_orders ‹_› ?_) (Room.le ‹_› (by decide))
        with_reducible refine' fun _ _ => ?_
        refine' w_local m11 ?_
        refine' i_list hs_self (by lia) (by lia) ho ?_
        rename_i nl hnl
        have hnl' : H26 nl = none := hnl
        refine it_str wz2 fun it2 hit2 => ?_
        have hi2 : (H26.set nl (.list ords)) it2 = none := hit2
        have hiK : K' it2 = none := hat.t.le.non (Hp.Le.non (Hp.Le.set _ hnl') hi2)
        refine ⟨it2, rfl, ?_⟩
        refine loop_str (xs := wd i) (fun j σ => (Nms σ.m (tnm X Z P cf xl sp tl) ∧ Nms σ.m [("turn", .int i), ("storage", .ref st), ("log", .ref r), ("acts", .str (pre i j))]) ∧ At (K'.set it2 (.si (wd i) j)) σ.H r u st (lawS P sp sn hd (fg i j))) ?_ ?_ ?_ (by with_unfolding_all rfl) (Nat.zero_le _) ⟨⟨⟨m1, m2, m3, m4, m5, m6, m7, m8, m9, m10, trivial⟩, m11, m12, m13, m14, trivial⟩, (hat.le (Hp.Le.set _ hnl')).new hi2⟩
        · rintro j σ ⟨_, h⟩; exact h.t.le _ _ hs_self
        · clear m1 m2 m3 m4 m5 m6 m7 m8 m9 m10 m11 m12 m13 m14 hat hnl' hi2 hit2 hnl
          rintro j ch ⟨mm8, H27⟩ lt hch ⟨⟨⟨m1, m2, m3, m4, m5, m6, m7, m8, m9, m10, _⟩, m11, m12, m13, m14, _⟩, hat⟩
          have lj : j < 4 := by rw [wz1] at lt; exact lt
          obtain rfl : ch = ac i j := by unfold ac; rw [Array.getD_eq_getD_getElem?, hch]; rfl
          obtain ⟨w1, w2, w3, w4, w5, w6, w7, w8⟩ := step_of i j hi8 lj
          have hat1 := hat.put (o' := .si (wd i) (j + 1)) hs_self (fun _ _ q => by cases q) (fun _ q => by cases q)
          rw [set_set] at hat1
          clear hat
          show c.Asg Nope _ _ _ ⟨mm8, H27.set it2 (.si (wd i) (j + 1))⟩
          generalize H27.set it2 (.si (wd i) (j + 1)) = H28 at hat1 ⊢
          rename At _ _ _ _ _ _ => hat
          refine as_name (st_local (lof cs ⟨rfl, rfl⟩) ?_)
          have lK2 : K'.Le (K'.set it2 (.si (wd i) (j + 1))) := Hp.Le.set _ hiK
          have kS3 := lK2 _ _ kS2
          have snp2 := snp.le lK2
          generalize K'.set it2 (.si (wd i) (j + 1)) = K2 at hat lK2 kS3 snp2 ⊢
          refine ss_mid (fun σ => (Nms σ.m (tnm X Z P cf xl sp tl) ∧ Nms σ.m [("turn", .int i), ("storage", .ref st), ("log", .ref r), ("acts", .str (pre i j)), ("act", .str ⟨#[ac i j]⟩)]) ∧ At K2 σ.H r u st (lawS P sp sn hd (fg i (j + 1)))) ?_ ?_
          · have htll := P.tl_len
            have ho := hP.o
            have ht := hP.t
            unfold chg at w8
            dsimp only at w8
            rcases w8 with ⟨k1, q1, q2, q3, qe⟩ | ⟨k1, k2, q1, q2, qe⟩ | ⟨k1, k2, k3, q1, q2, qe⟩ | ⟨k1, k2, k3, q1, qe⟩
            · rw [qe]
              generalize fg i j = g at q1 q2 q3 hat ⊢
              obtain ⟨g1, g2, g3, g4⟩ := g
              dsimp only at q1 q2 q3
              subst q1 q2 q3
              have hr := hat.r
              obtain ⟨scf, ssl, svs, hst, z1, z2⟩ := hat.t.s
              with_reducible refine' s_if (t_cmp ?_)
              refine' w_local rfl ?_
              with_reducible refine' w_str (c_eqsH k1 (tr_bool (br_t (s_cons (s_ex (w_meth ?_))))))
              refine' w_local m12 ?_
              with_reducible refine' me_MemoryStorage_apply_snapshot ‹_› hst ?_
              refine' cm_one (kp_of ‹_› rfl) ?_
              with_reducible refine' w_es_cons ?_
              refine' w_local m9 ?_
              with_reducible refine' w_es_nil ?_
              refine Fn.go (fn_apply_snapshot (p := (sp, P.s, 5)) hD hat snp2 (show P.bg < P.s ∧ P.bg ≤ P.s ∧ P.s ≤ 50 ∧ 0 ≤ P.bg by (first | lia | omega)) ?_) (Room.le ‹_› (by decide))
              intro H29 hat2
              clear hr hst
              have hr := hat2.r
              obtain ⟨scf2, ssl2, svs2, hst, z3, z4⟩ := hat2.t.s
              refine' ⟨rfl, ?_⟩
              with_reducible refine' th_next (s_one (s_ex (w_meth ?_)))
              refine' w_local m12 ?_
              with_reducible refine' me_MemoryStorage_append ‹_› hst ?_
              refine' cm_one (kp_of ‹_› rfl) ?_
              with_reducible refine' w_es_cons (w_meth ?_)
              refine' w_local m13 ?_
              with_reducible refine' me_RaftLog_unstable_entries ‹_› hr ?_
              refine' cm_one (kp_of ‹_› rfl) ?_
              with_reducible refine' w_es_nil ?_
              refine' Fn.go (fn_unstable_entries ‹_› hat2 ?_) (Room.le ‹_› (by decide))
              intro n vs hn hev
              with_reducible refine' w_es_nil ?_
              refine Fn.go (fn_st_append (xl := n) (xs := vs) (ts := P.tl) hD (hat2.le (Hp.Le.set _ hn)) hs_self ?_ rfl (by (first | lia | omega)) ?_) (Room.le ‹_› (by decide))
              · simpa [lawS] using hev
              intro H30 hat3
              refine' ⟨rfl, ?_⟩
              with_reducible refine' md_next ?_
              exact ⟨⟨⟨m1, m2, m3, m4, m5, m6, m7, m8, m9, m10, trivial⟩, m11, m12, m13, m14, rfl, trivial⟩, hat3.eq (by simp [lawS])⟩
            · rw [qe]
              generalize fg i j = g at q1 q2 hat ⊢
              obtain ⟨g1, g2, g3, g4⟩ := g
              dsimp only at q1 q2
              subst q1 q2
              have hr := hat.r
              have kS4 := hat.t.le _ _ kS3
              with_reducible refine' s_if (t_cmp ?_)
              refine' w_local rfl ?_
              with_reducible refine' w_str (c_eqsH k1 (tr_bool (br_f (s_one (s_if (t_cmp ?_))))))
              refine' w_local rfl ?_
              with_reducible refine' w_str (c_eqsH k2 (tr_bool (br_t (s_one (s_ex (w_meth ?_))))))
              refine' w_local m13 ?_
              with_reducible refine' me_RaftLog_stable_to ‹_› hr ?_
              refine' cm_one (kp_of ‹_› rfl) ?_
              with_reducible refine' w_es_cons (w_bin ?_)
              refine' w_cell (clof ‹_› rfl) kS4 (kof ‹_› rfl) ?_
              refine' w_local m8 ?_
              with_reducible refine' b_add (w_es_cons (w_bin (w_int ?_)))
              refine' w_local m8 ?_
              with_reducible refine' b_add (w_es_nil ?_)
              refine Fn.go (fn_stable_to hD hat (m := P.told) (by show P.told ≤ P.tl.length; (first | lia | omega)) (by show P.s + 1 + 0 + P.told ≤ 100; (first | lia | omega)) (by show _ = P.s + 1 + 0 - 1 + (P.told : Int); (first | lia | omega)) ?_ ?_) (Room.le ‹_› (by decide))
              · intro q
                show tmE P.tl _ = _
                rw [show (P.told : Int) - 1 = ((P.told - 1 : Nat) : Int) by (first | lia | omega), P.tl_at _ (by (first | lia | omega))]
                (first | lia | omega)
              intro H30 hat3
              refine' ⟨rfl, ?_⟩
              with_reducible refine' md_next ?_
              exact ⟨⟨⟨m1, m2, m3, m4, m5, m6, m7, m8, m9, m10, trivial⟩, m11, m12, m13, m14, rfl, trivial⟩, hat3.eq (by simp [lawS])⟩
            · rw [qe]
              generalize fg i j = g at q1 q2 hat ⊢
              obtain ⟨g1, g2, g3, g4⟩ := g
              dsimp only at q1 q2
              subst q1 q2
              have hr := hat.r
              have kS4 := hat.t.le _ _ kS3
              with_reducible refine' s_if (t_cmp ?_)
              refine' w_local rfl ?_
              with_reducible refine' w_str (c_eqsH k1 (tr_bool (br_f (s_one (s_if (t_cmp ?_))))))
              refine' w_local rfl ?_
              with_reducible refine' w_str (c_eqsH k2 (tr_bool (br_f (s_one (s_if (t_cmp ?_))))))
              refine' w_local rfl ?_
              with_reducible refine' w_str (c_eqsH k3 (tr_bool (br_t (s_cons (s_ex (w_meth ?_))))))
              refine' w_local m13 ?_
              with_reducible refine' me_RaftLog_stable_snap_to ‹_› hr ?_
              refine' cm_one (kp_of ‹_› rfl) ?_
              with_reducible refine' w_es_cons (w_bin ?_)
              refine' w_cell (clof ‹_› rfl) kS4 (kof ‹_› rfl) ?_
              with_reducible refine' w_int (b_add (w_es_nil ?_))
              refine Fn.go (fn_stable_snap_to hD hat ?_) (Room.le ‹_› (by decide))
              intro H30 hat3
              replace hat3 := hat3.eq (S' := lawS P sp sn hd ⟨true, g2, false, g4⟩) (by simp only [lawS, Bool.false_eq_true, if_false]; rw [if_neg (show ¬ (P.s = P.s + 1) by (first | lia | omega))])
              clear hr kS4
              have hr := hat3.r
              have kS4 := hat3.t.le _ _ kS3
              refine' ⟨rfl, ?_⟩
              with_reducible refine' th_next (s_cons (s_ex (w_meth ?_)))
              refine' w_local m13 ?_
              with_reducible refine' me_RaftLog_stable_snap_to ‹_› hr ?_
              refine' cm_one (kp_of ‹_› rfl) ?_
              with_reducible refine' w_es_cons (w_bin ?_)
              refine' w_cell (clof ‹_› rfl) kS4 (kof ‹_› rfl) ?_
              with_reducible refine' w_int (b_sub (w_es_nil ?_))
              refine Fn.go (fn_stable_snap_to hD hat3 ?_) (Room.le ‹_› (by decide))
              intro H31 hat4
              replace hat4 := hat4.eq (S' := lawS P sp sn hd ⟨true, g2, false, g4⟩) (by simp only [lawS, Bool.false_eq_true, if_false]; rw [if_neg (show ¬ (P.s = P.s - 1) by (first | lia | omega))])
              clear hr kS4 hat hat3
              have hr := hat4.r
              have kS4 := hat4.t.le _ _ kS3
              have hpp : ∀ p, (lawS P sp sn hd ⟨true, g2, false, g4⟩).sn = some p → 1 ≤ p.2.1 := fun p q => by
                cases q; dsimp only; (first | lia | omega)
              have hps : (lawS P sp sn hd ⟨true, g2, false, g4⟩).sn.isSome = true := rfl
              refine' ⟨rfl, ?_⟩
              with_reducible refine' th_next (s_cons (s_if (t_not (t_val (w_meth ?_)))))
              refine' w_local m13 ?_
              with_reducible refine' me_RaftLog_pending_snapshot ‹_› hr ?_
              refine' cm_one (kp_of ‹_› rfl) ?_
              with_reducible refine' w_es_nil ?_
              refine' Fn.go (fn_pending_snapshot ‹_› hat4 hpp ?_) (Room.le ‹_› (by decide))
              with_reducible refine' tr_bool ?_
              refine' br_F rfl ?_
              with_reducible refine' s_nil (th_next (s_one (s_ex (w_meth ?_))))
              refine' w_local m13 ?_
              with_reducible refine' me_RaftLog_stable_snap_to ‹_› hr ?_
              refine' cm_one (kp_of ‹_› rfl) ?_
              with_reducible refine' w_es_cons ?_
              refine' w_cell (clof ‹_› rfl) kS4 (kof ‹_› rfl) ?_
              with_reducible refine' w_es_nil ?_
              refine Fn.go (fn_stable_snap_to hD hat4 ?_) (Room.le ‹_› (by decide))
              intro H32 hat5
              refine' ⟨rfl, ?_⟩
              with_reducible refine' md_next ?_
              exact ⟨⟨⟨m1, m2, m3, m4, m5, m6, m7, m8, m9, m10, trivial⟩, m11, m12, m13, m14, rfl, trivial⟩, hat5.eq (by simp [lawS])⟩
            · rw [qe]
              have w7' : Fg.Ok (fg i j) := ⟨fun q => by have z := w7.1; rw [qe] at z; exact z q, fun q => by have z := w7.2; rw [qe] at z; exact z q⟩
              generalize fg i j = g at q1 hat w7' ⊢
              obtain ⟨g1, g2, g3, g4⟩ := g
              dsimp only at q1
              subst q1
              have hla := lawS_last (sp := sp) (sn0 := sn) (hd0 := hd) hP w7'
              have hr := hat.r
              with_reducible refine' s_if (t_cmp ?_)
              refine' w_local rfl ?_
              with_reducible refine' w_str (c_eqsH k1 (tr_bool (br_f (s_one (s_if (t_cmp ?_))))))
              refine' w_local rfl ?_
              with_reducible refine' w_str (c_eqsH k2 (tr_bool (br_f (s_one (s_if (t_cmp ?_))))))
              refine' w_local rfl ?_
              with_reducible refine' w_str (c_eqsH k3 (tr_bool (br_f (s_one (s_ex (w_meth ?_))))))
              refine' w_local m13 ?_
              with_reducible refine' me_RaftLog_commit_to ‹_› hr ?_
              refine' cm_one (kp_of ‹_› rfl) ?_
              with_reducible refine' w_es_cons ?_
              refine' w_local m7 ?_
              with_reducible refine' w_es_nil ?_
              refine Fn.go (fn_commit_to hD hat (by (first | lia | omega)) ?_) (Room.le ‹_› (by decide))
              intro H30 hat3
              refine' ⟨rfl, ?_⟩
              with_reducible refine' md_next ?_
              exact ⟨⟨⟨m1, m2, m3, m4, m5, m6, m7, m8, m9, m10, trivial⟩, m11, m12, m13, m14, rfl, trivial⟩, hat3.eq (by simp [lawS]; (first | lia | omega))⟩
          clear w8 m1 m2 m3 m4 m5 m6 m7 m8 m9 m10 m11 m12 m13 m14 hat snp2
          rintro ⟨mm9, H29⟩ ⟨⟨⟨m1, m2, m3, m4, m5, m6, m7, m8, m9, m10, _⟩, m11, m12, m13, m14, m15, _⟩, hat⟩
          refine ss_mid (fun σ => (Nms σ.m (tnm X Z P cf xl sp tl) ∧ Nms σ.m [("turn", .int i), ("storage", .ref st), ("log", .ref r), ("acts", .str (pre i (j + 1)))]) ∧ At K2 σ.H r u st (lawS P sp sn hd (fg i (j + 1)))) ?_ ?_
          · with_reducible refine' s_assign (w_bin ?_)
            refine' w_local m14 ?_
            refine' w_local m15 ?_
            refine' b_adds (by lia) ?_
            refine' st_local (lof ‹_› ⟨rfl, rfl⟩) ?_
            with_reducible refine' md_next ?_
            rw [w1]
            exact ⟨⟨⟨m1, m2, m3, m4, m5, m6, m7, m8, m9, m10, trivial⟩, m11, m12, m13, rfl, trivial⟩, hat⟩
          clear m1 m2 m3 m4 m5 m6 m7 m8 m9 m10 m11 m12 m13 m14 m15 hat w1 w2 w3
          rintro ⟨mm10, H30⟩ ⟨⟨⟨m1, m2, m3, m4, m5, m6, m7, m8, m9, m10, _⟩, m11, m12, m13, m14, _⟩, hat⟩
          have w9 := pre_len i hi8 (j + 1) (by (first | lia | omega))
          generalize pre i (j + 1) = ap at w4 w5 w6 w9 m14 ⊢
          generalize fg i (j + 1) = g at w4 w5 w6 w7 hat ⊢
          refine ss_mid (fun σ => (Nms σ.m (tnm X Z P cf xl sp tl) ∧ Nms σ.m [("turn", .int i), ("storage", .ref st), ("log", .ref r), ("acts", .str ap), ("upto", .int P.s)]) ∧ At K2 σ.H r u st (lawS P sp sn hd g)) ?_ ?_
          · have kS4 := hat.t.le _ _ kS3
            with_reducible refine' s_assign ?_
            refine' w_cell (clof ‹_› rfl) kS4 (kof ‹_› rfl) ?_
            refine' st_local (lof ‹_› ⟨rfl, rfl⟩) ?_
            with_reducible refine' md_next ?_
            exact ⟨⟨⟨m1, m2, m3, m4, m5, m6, m7, m8, m9, m10, trivial⟩, m11, m12, m13, m14, rfl, trivial⟩, hat⟩
          clear m1 m2 m3 m4 m5 m6 m7 m8 m9 m10 m11 m12 m13 m14 hat
          rintro ⟨mm11, H31⟩ ⟨⟨⟨m1, m2, m3, m4, m5, m6, m7, m8, m9, m10, _⟩, m11, m12, m13, m14, m15, _⟩, hat⟩
          refine ss_mid (fun σ => (Nms σ.m (tnm X Z P cf xl sp tl) ∧ Nms σ.m [("turn", .int i), ("storage", .ref st), ("log", .ref r), ("acts", .str ap), ("upto", .int (if g.c then P.top else P.s))]) ∧ At K2 σ.H r u st (lawS P sp sn hd g)) ?_ ?_
          · cases q : g.c with
            | true =>
              rw [q] at w4
              with_reducible refine' s_if (t_cmp (w_str ?_))
              refine' w_local m14 ?_
              with_reducible refine' c_insH w4 (tr_bool (br_t (s_one (s_assign ?_))))
              refine' w_local m7 ?_
              refine' st_local (lof ‹_› ⟨rfl, rfl⟩) ?_
              with_reducible refine' md_next ?_
              exact ⟨⟨⟨m1, m2, m3, m4, m5, m6, m7, m8, m9, m10, trivial⟩, m11, m12, m13, m14, rfl, trivial⟩, hat⟩
            | false =>
              rw [q] at w4
              with_reducible refine' s_if (t_cmp (w_str ?_))
              refine' w_local m14 ?_
              with_reducible refine' c_insH w4 (tr_bool (br_f (s_nil (md_next ?_))))
              exact ⟨⟨⟨m1, m2, m3, m4, m5, m6, m7, m8, m9, m10, trivial⟩, m11, m12, m13, m14, m15, trivial⟩, hat⟩
          clear m1 m2 m3 m4 m5 m6 m7 m8 m9 m10 m11 m12 m13 m14 m15 hat w4
          rintro ⟨mm12, H32⟩ ⟨⟨⟨m1, m2, m3, m4, m5, m6, m7, m8, m9, m10, _⟩, m11, m12, m13, m14, m15, _⟩, hat⟩
          refine ss_mid (fun σ => (Nms σ.m (tnm X Z P cf xl sp tl) ∧ Nms σ.m [("turn", .int i), ("storage", .ref st), ("log", .ref r), ("acts", .str ap), ("upto", .int (if g.c then P.top else P.s))]) ∧ At K2 σ.H r u st (lawS P sp sn hd g)) ?_ ?_
          · have hr := hat.r
            with_reducible refine' s_if (t_cmp (w_tuple (w_es_cons (att ?_))))
            refine' w_local m13 ?_
            refine' gfG ‹_› hr rfl rfl rfl ?_
            with_reducible refine' w_es_cons (att ?_)
            refine' w_local m13 ?_
            refine' gfG ‹_› hr rfl rfl rfl ?_
            with_reducible refine' w_es_nil ?_
            refine' ⟨(Nat.le_of_ble_eq_true rfl), ?_⟩
            with_reducible refine' fun _ _ => w_tuple (w_es_cons ?_)
            refine' w_local m15 ?_
            with_reducible refine' w_es_cons ?_
            refine' w_local m5 ?_
            with_reducible refine' w_es_nil ?_
            refine' ⟨(Nat.le_of_ble_eq_true rfl), ?_⟩
            with_reducible refine' fun _ _ => ?_
            rename_i n1 g1 n2 g2
            refine c_neI2 ‹_› (hs_new g2 hs_self) hs_self ?_
            with_reducible refine' tr_bool (br_f (s_nil (md_next ?_)))
            exact ⟨⟨⟨m1, m2, m3, m4, m5, m6, m7, m8, m9, m10, trivial⟩, m11, m12, m13, m14, m15, trivial⟩, hat.le ((Hp.Le.set _ g1).trans (Hp.Le.set _ g2))⟩
          clear m1 m2 m3 m4 m5 m6 m7 m8 m9 m10 m11 m12 m13 m14 m15 hat
          rintro ⟨mm13, H33⟩ ⟨⟨⟨m1, m2, m3, m4, m5, m6, m7, m8, m9, m10, _⟩, m11, m12, m13, m14, m15, _⟩, hat⟩
          have hpp : ∀ p, (lawS P sp sn hd g).sn = some p → 1 ≤ p.2.1 := fun p q => by
            unfold lawS at q
            dsimp only at q
            cases hf : g.f with
            | true => rw [hf] at q; cases q
            | false => rw [hf] at q; cases q; dsimp only; (first | lia | omega)
          have hfi := lawS_first (sp := sp) (sn0 := sn) (hd0 := hd) hP w7
          have hla := lawS_last (sp := sp) (sn0 := sn) (hd0 := hd) hP w7
          have hnx := lawS_next (sp := sp) (sn0 := sn) (hd0 := hd) hP w7
          have hso := lawS_some (P := P) (sp := sp) (sn0 := sn) (hd0 := hd) (g := g)
          refine ss_mid (fun σ => (Nms σ.m (tnm X Z P cf xl sp tl) ∧ Nms σ.m [("turn", .int i), ("storage", .ref st), ("log", .ref r), ("acts", .str ap)]) ∧ At K2 σ.H r u st (lawS P sp sn hd g)) ?_ ?_
          · have hr := hat.r
            have kS4 := hat.t.le _ _ kS3
            with_reducible refine' s_if (t_cmp (w_tuple (w_es_cons (w_meth ?_))))
            refine' w_local m13 ?_
            with_reducible refine' me_RaftLog_first_index ‹_› hr ?_
            refine' cm_one (kp_of ‹_› rfl) ?_
            with_reducible refine' w_es_nil ?_
            refine' Fn.go (fn_first_index ‹_› hat ?_) (Room.le ‹_› (by decide))
            with_reducible refine' w_es_cons (w_meth ?_)
            refine' w_local m13 ?_
            with_reducible refine' me_RaftLog_last_index ‹_› hr ?_
            refine' cm_one (kp_of ‹_› rfl) ?_
            with_reducible refine' w_es_nil ?_
            refine' Fn.go (fn_last_index ‹_› hat ?_) (Room.le ‹_› (by decide))
            with_reducible refine' w_es_cons (w_meth ?_)
            refine' w_local m13 ?_
            with_reducible refine' me_RaftLog_has_next ‹_› hr ?_
            refine' cm_one (kp_of ‹_› rfl) ?_
            with_reducible refine' w_es_nil ?_
            refine' Fn.go (fn_has_next ‹_› hat hpp ?_) (Room.le ‹_› (by decide))
            with_reducible refine' w_es_nil ?_
            refine' ⟨(Nat.le_of_ble_eq_true rfl), ?_⟩
            with_reducible refine' fun _ _ => w_tuple (w_es_cons (w_bin ?_))
            refine' w_cell (clof ‹_› rfl) (hg_new (by with_reducible assumption) kS4) (kof ‹_› rfl) ?_
            with_reducible refine' w_int (b_add (w_es_cons (w_bin ?_)))
            refine' w_cell (clof ‹_› rfl) (hg_new (by with_reducible assumption) kS4) (kof ‹_› rfl) ?_
            refine' w_local m6 ?_
            with_reducible refine' b_add (w_es_cons (w_and2 (w_cmp (w_str ?_))))
            refine' w_local m14 ?_
            with_reducible refine' c_insH w5 (tr_bool (br_b ?_ ?_))
            with_reducible refine' fun _ => w_cmp ?_
            refine' w_local m15 ?_
            refine' w_cell (clof ‹_› rfl) (hg_new (by with_reducible assumption) kS4) (kof ‹_› rfl) ?_
            with_reducible refine' c_gt (w_es_nil ?_)
            refine' ⟨(Nat.le_of_ble_eq_true rfl), ?_⟩
            with_reducible refine' fun _ _ => ?_
            rotate_left
            with_reducible refine' fun _ => w_es_nil ?_
            refine' ⟨(Nat.le_of_ble_eq_true rfl), ?_⟩
            with_reducible refine' fun _ _ => ?_
            rotate_left
            · rename_i n1 g1 hf n2 g2
              rw [hnx, hfi, hla, hf, Bool.true_and] at g2 ⊢
              refine c_neI2b ‹_› (hs_new g2 hs_self) hs_self ?_
              with_reducible refine' tr_bool (br_f (s_nil (md_next ?_)))
              exact ⟨⟨⟨m1, m2, m3, m4, m5, m6, m7, m8, m9, m10, trivial⟩, m11, m12, m13, m14, trivial⟩, hat.le ((Hp.Le.set _ g1).trans (Hp.Le.set _ g2))⟩
            · rename_i n1 g1 hf n2 g2
              rw [hnx, hfi, hla, hf, Bool.false_and] at g2 ⊢
              refine c_neI2b ‹_› (hs_new g2 hs_self) hs_self ?_
              with_reducible refine' tr_bool (br_f (s_nil (md_next ?_)))
              exact ⟨⟨⟨m1, m2, m3, m4, m5, m6, m7, m8, m9, m10, trivial⟩, m11, m12, m13, m14, trivial⟩, hat.le ((Hp.Le.set _ g1).trans (Hp.Le.set _ g2))⟩
          clear m1 m2 m3 m4 m5 m6 m7 m8 m9 m10 m11 m12 m13 m14 m15 hat hnx
          rintro ⟨mm14, H34⟩ ⟨⟨⟨m1, m2, m3, m4, m5, m6, m7, m8, m9, m10, _⟩, m11, m12, m13, m14, _⟩, hat⟩
          refine ss_mid (fun σ => (Nms σ.m (tnm X Z P cf xl sp tl) ∧ Nms σ.m [("turn", .int i), ("storage", .ref st), ("log", .ref r), ("acts", .str ap)]) ∧ At K2 σ.H r u st (lawS P sp sn hd g)) ?_ ?_
          · have hr := hat.r
            with_reducible refine' s_if (t_cmp (w_meth ?_))
            refine' w_local m13 ?_
            with_reducible refine' me_RaftLog_pending_snapshot ‹_› hr ?_
            refine' cm_one (kp_of ‹_› rfl) ?_
            with_reducible refine' w_es_nil ?_
            refine' Fn.go (fn_pending_snapshot ‹_› hat hpp ?_) (Room.le ‹_› (by decide))
            with_reducible refine' w_cmp (w_str ?_)
            refine' w_local m14 ?_
            with_reducible refine' c_ninsH w5 (c_neb (tr_bool (br_b ?_ ?_)))
            with_reducible refine' fun _ => s_one (s_ret (w_bool (md_ret (tu_ret (md_ret (tu_ret (md_ret ?_)))))))
            rotate_left
            with_reducible refine' fun _ => s_nil (md_next ?_)
            rotate_left
            · rename_i q
              rw [hso] at q
              cases hf : g.f <;> rw [hf] at q <;> cases q
            · exact ⟨⟨⟨m1, m2, m3, m4, m5, m6, m7, m8, m9, m10, trivial⟩, m11, m12, m13, m14, trivial⟩, hat⟩
          clear m1 m2 m3 m4 m5 m6 m7 m8 m9 m10 m11 m12 m13 m14 hat
          rintro ⟨mm15, H35⟩ ⟨⟨⟨m1, m2, m3, m4, m5, m6, m7, m8, m9, m10, _⟩, m11, m12, m13, m14, _⟩, hat⟩
          have f1 : (((i : Nat) : Int) + ((Z : Nat) : Int)).fmod 4 = (((i + Z) % 4 : Nat) : Int) := fmod_nat (n := i + Z) (m := 4) (by decide)
          have f2 : (((i : Nat) : Int) + ((Z : Nat) : Int).fdiv 4).fmod ((P.k : Int) + 3) = (((i + Z / 4) % (P.k + 3) : Nat) : Int) := by
            rw [show ((Z : Nat) : Int).fdiv 4 = ((Z / 4 : Nat) : Int) from fdiv_nat (m := 4)]; exact fmod_nat (n := i + Z / 4) (m := P.k + 3) (by (first | lia | omega))
          have f3 := Nat.mod_lt (i + Z / 4) (show 0 < P.k + 3 by (first | lia | omega))
          have kS4 := hat.t.le _ _ kS3
          have hln := lawS_len (sp := sp) (sn0 := sn) (hd0 := hd) (g := g) hP
          have snI := hsp.le ((lK.trans lK2).trans hat.t.le)
          have hr := hat.r
          with_reducible refine' s_one (s_if (t_cmp (w_call ?_)))
          refine' gl_len ‹_› (kof ‹_› rfl) ?_
          refine' cv_raw rfl ?_
          with_reducible refine' w_es_cons ?_
          refine' w_local m14 ?_
          with_reducible refine' w_es_nil ?_
          refine' f_lens (by lia) ?_
          with_reducible refine' w_bin (w_int (w_bin (w_bin ?_)))
          refine' w_local m11 ?_
          refine' w_local m2 ?_
          with_reducible refine' b_add (w_int (b_mod (by decide) (b_add (c_eq (tr_bool (br_eq ?_ ?_))))))
          with_reducible refine' fun _ => s_cons (s_assign ?_)
          refine' w_local m6 ?_
          refine' st_local (lof ‹_› ⟨rfl, rfl⟩) ?_
          with_reducible refine' th_next (s_cons (s_if (t_cmp (w_str ?_))))
          refine' w_local m14 ?_
          with_reducible refine' c_insH w6 (tr_bool (br_b ?_ ?_))
          with_reducible refine' fun _ => s_one (s_assign (w_bin ?_))
          refine' w_local m6 ?_
          refine' w_local m8 ?_
          with_reducible refine' b_sub ?_
          refine' st_local (lof ‹_› ⟨rfl, rfl⟩) ?_
          with_reducible refine' th_next (s_one (s_if (t_not (t_val (w_call ?_)))))
          refine' gl__law_whole ‹_› (kof ‹_› rfl) ?_
          refine' cv_ref (kp_of ‹_› rfl) ?_
          with_reducible refine' w_es_cons ?_
          refine' w_local m13 ?_
          with_reducible refine' w_es_cons ?_
          refine' w_local m9 ?_
          with_reducible refine' w_es_cons ?_
          refine' w_local m6 ?_
          with_reducible refine' w_es_cons (w_bin (w_bin ?_))
          refine' w_cell (clof ‹_› rfl) kS4 (kof ‹_› rfl) ?_
          with_reducible refine' w_int (b_sub (w_bin (w_bin ?_)))
          refine' w_local m11 ?_
          with_reducible refine' w_bin ?_
          refine' w_local m2 ?_
          with_reducible refine' w_int (b_div (by decide) (b_add (w_bin ?_)))
          refine' w_local m6 ?_
          with_reducible refine' w_int (b_add ?_)
          refine' b_mod (by lia) ?_
          with_reducible refine' b_add (w_es_cons ?_)
          refine' w_local rfl ?_
          with_reducible refine' w_es_nil ?_
          rotate_left
          with_reducible refine' fun _ => s_nil (th_next (s_one (s_if (t_not (t_val (w_call ?_))))))
          refine' gl__law_whole ‹_› (kof ‹_› rfl) ?_
          refine' cv_ref (kp_of ‹_› rfl) ?_
          with_reducible refine' w_es_cons ?_
          refine' w_local m13 ?_
          with_reducible refine' w_es_cons ?_
          refine' w_local m9 ?_
          with_reducible refine' w_es_cons ?_
          refine' w_local m6 ?_
          with_reducible refine' w_es_cons (w_bin (w_bin ?_))
          refine' w_cell (clof ‹_› rfl) kS4 (kof ‹_› rfl) ?_
          with_reducible refine' w_int (b_sub (w_bin (w_bin ?_)))
          refine' w_local m11 ?_
          with_reducible refine' w_bin ?_
          refine' w_local m2 ?_
          with_reducible refine' w_int (b_div (by decide) (b_add (w_bin ?_)))
          refine' w_local m6 ?_
          with_reducible refine' w_int (b_add ?_)
          refine' b_mod (by lia) ?_
          with_reducible refine' b_add (w_es_cons ?_)
          refine' w_local rfl ?_
          with_reducible refine' w_es_nil ?_
          rotate_left
          with_reducible refine' fun _ => s_nil (tu_next ?_)
          rotate_left
          · rename_i _ ht
            rw [ht] at hln
            rw [f2]
            refine Fn.go (fn_law_whole (p := (sp, P.s, 5)) (k := P.k) (S := lawS P sp sn hd g) hD hat snI (by dsimp only; (first | lia | omega)) (lawS_hb hP w7 _) (by rw [hfi, hla]; (first | lia | omega)) (lawS_si w7) lawS_snp (lawS_tv hP w7 _) (by rw [hln]; rfl) ?_) (Room.le ‹_› (by decide))
            intro H36 l36
            with_reducible refine' tr_bool ?_
            refine' br_F rfl ?_
            with_reducible refine' s_nil (tu_next ?_)
            exact ⟨⟨⟨m1, m2, m3, m4, m5, m6, m7, m8, m9, m10, trivial⟩, m11, m12, m13, m14, trivial⟩, hat.le l36⟩
          · rename_i _ ht
            rw [ht] at hln
            rw [f2]
            refine Fn.go (fn_law_whole (p := (sp, P.s, 5)) (k := P.k) (S := lawS P sp sn hd g) hD hat snI (by dsimp only; (first | lia | omega)) (lawS_hb hP w7 _) (by rw [hfi, hla]; (first | lia | omega)) (lawS_si w7) lawS_snp (lawS_tv hP w7 _) (by rw [hln]; rfl) ?_) (Room.le ‹_› (by decide))
            intro H36 l36
            with_reducible refine' tr_bool ?_
            refine' br_F rfl ?_
            with_reducible refine' s_nil (tu_next ?_)
            exact ⟨⟨⟨m1, m2, m3, m4, m5, m6, m7, m8, m9, m10, trivial⟩, m11, m12, m13, m14, trivial⟩, hat.le l36⟩
          · exact ⟨⟨⟨m1, m2, m3, m4, m5, m6, m7, m8, m9, m10, trivial⟩, m11, m12, m13, m14, trivial⟩, hat⟩
        · rintro ⟨mm8, H27⟩ ⟨⟨⟨m1, m2, m3, m4, m5, m6, m7, m8, m9, m10, _⟩, m11, m12, m13, m14, _⟩, hat⟩
          rw [wz1] at hat
          exact ⟨⟨⟨m1, m2, m3, m4, m5, m6, m7, m8, m9, m10, trivial⟩, m11, m12, m13, trivial⟩, by
            have z := hat.del (a := it2) hs_self (fun _ _ q => by cases q) (fun _ q => by cases q)
            rw [del_set hiK] at z
            exact z⟩
      clear m1 m2 m3 m4 m5 m6 m7 m8 m9 m10 m11 m12 m13 m14 hat
      rintro ⟨mm8, H27⟩ ⟨⟨⟨m1, m2, m3, m4, m5, m6, m7, m8, m9, m10, _⟩, m11, m12, m13, _⟩, hat⟩
      rw [fg4 i hi8] at hat
      have htb := P.tl_tb hP.k
      have htle := P.tl_len
      have hPt := hP.t
      have hPo := hP.o
      refine ss_mid (fun σ => (Nms σ.m (tnm X Z P cf xl sp tl) ∧ Nms σ.m [("turn", .int i), ("storage", .ref st), ("log", .ref r)]) ∧ At K' σ.H r u st (lawS P sp sn hd ⟨true, true, true, true⟩)) ?_ ?_
      · have hr := hat.r
        have kS3 := hat.t.le _ _ kS2
        with_reducible refine' s_if (t_cmp ?_)
        refine' w_local m11 ?_
        with_reducible refine' w_bin ?_
        refine' w_local m2 ?_
        with_reducible refine' w_int (b_mod (by decide) (c_eq (tr_bool (br_eq ?_ ?_))))
        with_reducible refine' fun _ => s_cons ?_
        rotate_left
        with_reducible refine' fun _ => s_nil (md_next ?_)
        rotate_left
        · refine s_comp (cl := []) ?_ ?_ ?_
          · exact clos_of cc (by with_unfolding_all rfl)
          · with_reducible refine' w_meth ?_
            refine' w_local m13 ?_
            with_reducible refine' me_RaftLog_next_committed ‹_› hr ?_
            refine' cm_one (kp_of ‹_› rfl) ?_
            with_reducible refine' w_es_nil ?_
            refine Fn.go (fn_next_committed (m := P.told) hD hat rfl rfl rfl (by show P.told ≤ P.tl.length; (first | lia | omega)) (show P.s ≤ P.top ∧ P.top ≤ P.s + (P.tl.length : Int) by (first | lia | omega)) (show P.bg + (P.dn : Int) ≤ P.s by (first | lia | omega)) htb ?_) (Room.le ‹_› (by decide))
            intro H28 nl vs l28 hnl hvs hev
            obtain ⟨tn, etn⟩ : ∃ tn : Nat, P.top - P.s = tn := ⟨(P.top - P.s).toNat, by (first | lia | omega)⟩
            have hev' : EntV K' (P.s + 1) vs (P.tl.take (P.top - P.s).toNat) := hev
            rw [etn, Int.toNat_natCast] at hev'
            have lv := hev'.length
            rw [List.length_take] at lv
            have hev2 := hev'.le (hat.t.le.trans l28)
            with_reducible refine' it_list hvs (fun _ _ => ?_)
            rename_i it3 hit3
            refine block_map (PRow P.s) ?_ hit3 hvs (by (first | lia | omega)) (relb cs (by with_unfolding_all rfl)) (by exact ⟨rfl, rfl⟩) ?_ ?_
            · rintro j v Ha Hb t ⟨b, e1, e2⟩; exact ⟨b, e1, t _ _ e2⟩
            · rintro c' cD' cs' cc' cr' j v m' H29 l29 lt hv
              have hD' : IsD c'.D := by rw [cD']; exact hD
              obtain ⟨x, a, q1, rfl, q2⟩ := hev2.at hv
              have q3 := l29 _ _ q2
              have lt2 : j < P.k := by (first | lia | omega)
              have q4 : x = 6 + (j : Int) := by
                rw [List.getElem?_take] at q1
                split at q1
                · rw [P.tl_get j lt2] at q1; cases q1; rfl
                · cases q1
              subst q4
              with_reducible refine' w_tuple (w_es_cons (att ?_))
              refine' w_local rfl ?_
              refine' gfG ‹_› q3 rfl rfl rfl ?_
              with_reducible refine' w_es_cons (att ?_)
              refine' w_local rfl ?_
              refine' gfG ‹_› q3 rfl rfl rfl ?_
              with_reducible refine' w_es_nil ?_
              refine' ⟨(Nat.le_of_ble_eq_true rfl), ?_⟩
              with_reducible refine' fun _ _ => ?_
              exact ⟨Hp.Le.set _ ‹_›, _, rfl, hs_self⟩
            · intro acc H30 ws l30 ha h1 h2 h3
              have dp : DIs H30 (.ref acc) (.list (pds P.s tn)) := by
                unfold DIs
                exact ⟨acc, ws, rfl, h1, pds_of (by (first | lia | omega)) h3⟩
              refine ⟨lof cs ⟨rfl, rfl⟩, ?_⟩
              have l31 := l28.trans l30
              have kS4 := l31 _ _ kS3
              with_reducible refine' th_next (s_one (s_if (t_cmp ?_)))
              refine' w_local rfl ?_
              refine w_comp (cl := [("s", nS)]) (clos_of cc (by with_unfolding_all rfl)) ?_
              with_reducible refine' w_call ?_
              refine' gl_range ‹_› (kof ‹_› rfl) ?_
              refine' cv_raw rfl ?_
              with_reducible refine' w_es_cons (w_bin ?_)
              refine' w_local m7 ?_
              refine' w_cell (clof ‹_› rfl) kS4 (kof ‹_› rfl) ?_
              with_reducible refine' b_sub (w_es_nil (f_range1 (fun _ _ => ?_)))
              refine' it_rgN hg_self (by lia) ?_
              with_reducible refine' fun _ _ => ?_
              rename_i rg hrg it4 hit4
              rw [etn] at hit4 ⊢
              have hrg' : H30 rg = none := hrg
              have hit5 : (H30.set rg (.rg 0 tn)) it4 = none := hit4
              refine block_rgm (n := tn) (PRow P.s) ?_ hit5 (by (first | lia | omega)) (relb cs (by with_unfolding_all rfl)) (by exact ⟨rfl, rfl⟩) ?_ ?_
              · rintro j v Ha Hb t ⟨b, e1, e2⟩; exact ⟨b, e1, t _ _ e2 (fun _ q => by cases q) rfl⟩
              · intro c' cD' cs' cc' cr' j m' H31 l31' lt
                have hD' : IsD c'.D := by rw [cD']; exact hD
                have cr2 := cr' _ cr
                have kk1 := l31' _ _ (Hp.Le.set (o := .rg 0 tn) hrg' _ _ kS4)
                with_reducible refine' w_tuple (w_es_cons (w_bin (w_int ?_)))
                refine' w_local rfl ?_
                with_reducible refine' b_add (w_es_cons (w_bin (w_bin ?_)))
                refine' w_cell (clof ‹_› rfl) kk1 (kof ‹_› rfl) ?_
                with_reducible refine' w_int (b_add ?_)
                refine' w_local rfl ?_
                with_reducible refine' b_add (w_es_nil ?_)
                refine' ⟨(Nat.le_of_ble_eq_true rfl), ?_⟩
                with_reducible refine' fun _ _ => ?_
                exact ⟨Hp.Le.set _ ‹_›, _, rfl, hs_self⟩
              · intro acc2 H31 ws2 l32 ha2 k1 k2 k3
                have l33 := (Hp.Le.set (o := .rg 0 tn) hrg').trans l32
                refine c_neL (ds := pds P.s tn) (es := pds P.s tn) ‹_› (dp.le l33) ?_ (likds_refl _) (Nat.le_trans deps_pds (by decide)) ?_
                · unfold DIs
                  exact ⟨acc2, ws2, rfl, k1, pds_of k2 k3⟩
                rw [eqds_refl]
                with_reducible refine' tr_bool ?_
                refine' br_F rfl ?_
                with_reducible refine' s_nil (md_next ?_)
                exact ⟨⟨⟨m1, m2, m3, m4, m5, m6, m7, m8, m9, m10, trivial⟩, m11, m12, m13, trivial⟩, hat.le (l31.trans l33)⟩
          · exact swap_of cs (by with_unfolding_all rfl)
        · exact ⟨⟨⟨m1, m2, m3, m4, m5, m6, m7, m8, m9, m10, trivial⟩, m11, m12, m13, trivial⟩, hat⟩
      clear m1 m2 m3 m4 m5 m6 m7 m8 m9 m10 m11 m12 m13 hat htb
      rintro ⟨mm9, H28⟩ ⟨⟨⟨m1, m2, m3, m4, m5, m6, m7, m8, m9, m10, _⟩, m11, m12, m13, _⟩, hat⟩
      refine ss_mid (fun σ => (Nms σ.m (tnm X Z P cf xl sp tl) ∧ Nms σ.m [("turn", .int i), ("storage", .ref st), ("log", .ref r)]) ∧ At K' σ.H r u st (finS P sp hd)) ?_ ?_
      · have hr := hat.r
        with_reducible refine' s_ex (w_meth ?_)
        refine' w_local m13 ?_
        with_reducible refine' me_RaftLog_applied_to ‹_› hr ?_
        refine' cm_one (kp_of ‹_› rfl) ?_
        with_reducible refine' w_es_cons ?_
        refine' w_local m7 ?_
        with_reducible refine' w_es_nil ?_
        refine Fn.go (fn_applied_to hD hat (show 0 ≤ P.bg + (P.dn : Int) ∧ P.bg + (P.dn : Int) ≤ P.top ∧ P.top ≤ P.top by (first | lia | omega)) ?_) (Room.le ‹_› (by decide))
        intro H29 hat2
        refine' ⟨rfl, ?_⟩
        with_reducible refine' md_next ?_
        exact ⟨⟨⟨m1, m2, m3, m4, m5, m6, m7, m8, m9, m10, trivial⟩, m11, m12, m13, trivial⟩, hat2.eq lawS_end⟩
      clear m1 m2 m3 m4 m5 m6 m7 m8 m9 m10 m11 m12 m13 hat
      rintro ⟨mm10, H29⟩ ⟨⟨⟨m1, m2, m3, m4, m5, m6, m7, m8, m9, m10, _⟩, m11, m12, m13, _⟩, hat⟩
      refine ss_mid (fun σ => (Nms σ.m (tnm X Z P cf xl sp tl) ∧ Nms σ.m [("turn", .int i), ("storage", .ref st), ("log", .ref r)]) ∧ At K' σ.H r u st (finS P sp hd)) ?_ ?_
      · have hr := hat.r
        have hpp : ∀ p, (finS P sp hd).sn = some p → 1 ≤ p.2.1 := fun p q => by cases q
        with_reducible refine' s_if (t_val (w_meth ?_))
        refine' w_local m13 ?_
        with_reducible refine' me_RaftLog_has_next ‹_› hr ?_
        refine' cm_one (kp_of ‹_› rfl) ?_
        with_reducible refine' w_es_nil ?_
        refine' Fn.go (fn_has_next ‹_› hat hpp ?_) (Room.le ‹_› (by decide))
        with_reducible refine' tr_bool (br_b ?_ ?_)
        with_reducible refine' fun _ => s_one (s_ret (w_bool (md_ret (tu_ret (md_ret ?_)))))
        rotate_left
        with_reducible refine' fun _ => s_nil (md_next ?_)
        rotate_left
        · rename_i q
          exfalso
          have e : (finS P sp hd).first = P.s + 1 := LS.first_none rfl
          rw [e] at q
          have q2 : decide (max (P.top + 1) (P.s + 1) < P.top + 1) = true := q
          rw [decide_eq_true_eq] at q2
          (first | lia | omega)
        · exact ⟨⟨⟨m1, m2, m3, m4, m5, m6, m7, m8, m9, m10, trivial⟩, m11, m12, m13, trivial⟩, hat⟩
      clear m1 m2 m3 m4 m5 m6 m7 m8 m9 m10 m11 m12 m13 hat
      rintro ⟨mm11, H30⟩ ⟨⟨⟨m1, m2, m3, m4, m5, m6, m7, m8, m9, m10, _⟩, m11, m12, m13, _⟩, hat⟩
      refine ss_mid (fun σ => (Nms σ.m (tnm X Z P cf xl sp tl) ∧ Nms σ.m [("turn", .int i), ("storage", .ref st), ("log", .ref r)]) ∧ At K' σ.H r u st (finS P sp hd) ∧ ∃ rw ws, σ.m "rows" = some (.ref rw) ∧ σ.H rw = some (.tup ws) ∧ ERow σ.H (P.s + 1) ws P.tl) ?_ ?_
      · with_reducible refine' s_assign (w_call ?_)
        refine' gl_tuple ‹_› (kof ‹_› rfl) ?_
        refine' cv_raw rfl ?_
        with_reducible refine' w_es_cons ?_
        refine w_comp (cl := []) (clos_of cc (by with_unfolding_all rfl)) ?_
        have htl3 := hat.t.le _ _ (lK _ _ htl)
        have hys3 := hys.le (lK.trans hat.t.le)
        have ly := hys3.length
        refine' w_local m10 ?_
        with_reducible refine' it_list htl3 (fun _ _ => ?_)
        rename_i it3 hit3
        refine block_map (fun j y H => ∃ t a, P.tl[j]? = some t ∧ y = .ref a ∧ H a = some (.tup [.int t, .int (P.s + 1 + (j : Nat)), .int 0, .bytes #[]])) ?_ hit3 htl3 (by (first | lia | omega)) (relb cs (by with_unfolding_all rfl)) (by exact ⟨rfl, rfl⟩) ?_ ?_
        · rintro j v Ha Hb t ⟨x, b, e0, e1, e2⟩; exact ⟨x, b, e0, e1, t _ _ e2⟩
        · rintro c' cD' cs' cc' cr' j v m' H31 l31 lt hv
          have hD' : IsD c'.D := by rw [cD']; exact hD
          have cr2 := cr' _ cr
          obtain ⟨x, a, q1, rfl, q2⟩ := hys3.at hv
          have q3 := l31 _ _ q2
          with_reducible refine' w_meth ?_
          refine' w_local rfl ?_
          with_reducible refine' me_Entry_row ‹_› q3 ?_
          refine' cm_one (kp_of ‹_› rfl) ?_
          with_reducible refine' w_es_nil ?_
          refine' Fn.go (fn_Entry_row ‹_› q3 ?_) (Room.le ‹_› (by decide))
          with_reducible refine' fun _ _ => ?_
          exact ⟨Hp.Le.set _ ‹_›, x, _, q1, rfl, hs_self⟩
        · intro acc H31 ws l31 ha h1 h2 h3
          with_reducible refine' w_es_nil ?_
          refine' f_tuple h1 (by lia) ?_
          with_reducible refine' fun _ _ => ?_
          refine' st_local (lof ‹_› ⟨rfl, rfl⟩) ?_
          with_reducible refine' md_next ?_
          rename_i rw hrw
          have l32 := Hp.Le.set (o := .tup ws) hrw
          refine ⟨⟨⟨m1, m2, m3, m4, m5, m6, m7, m8, m9, m10, trivial⟩, m11, m12, m13, trivial⟩, hat.le (l31.trans l32), rw, ws, rfl, hs_self, (ERow.of (by (first | lia | omega)) fun j y t q1 q2 => ?_ : ERow H31 (P.s + 1) ws P.tl).le l32⟩
          obtain ⟨t', a, e1, e2, e3⟩ := h3 j y q1
          rw [e1] at q2
          cases q2
          exact ⟨a, e2, e3⟩
      clear m1 m2 m3 m4 m5 m6 m7 m8 m9 m10 m11 m12 m13 hat
      rintro ⟨mm12, H31⟩ ⟨⟨⟨m1, m2, m3, m4, m5, m6, m7, m8, m9, m10, _⟩, m11, m12, m13, _⟩, hat, rw', ws, m14, hrw, hrows⟩
      have lws := hrows.length
      refine ss_mid (fun σ => (Nms σ.m (tnm X Z P cf xl sp tl) ∧ Nms σ.m [("turn", .int i), ("storage", .ref st), ("log", .ref r)]) ∧ At K' σ.H r u st (finS P sp hd) ∧ σ.m "rows" = some (.ref rw') ∧ H31.Le σ.H) ?_ ?_
      · have hr := hat.r
        have kS3 := hat.t.le _ _ kS2
        with_reducible refine' s_if (t_cmp (w_meth ?_))
        refine' w_local m13 ?_
        with_reducible refine' me_RaftLog_row ‹_› hr ?_
        refine' cm_one (kp_of ‹_› rfl) ?_
        with_reducible refine' w_es_nil ?_
        refine Fn.go (fn_Log_row hD hat rfl ?_) (Room.le ‹_› (by decide))
        intro H32 n1 l32 d1
        have kS4 := l32 _ _ kS3
        have hrw4 := l32 _ _ hrw
        with_reducible refine' w_tuple (w_es_cons ?_)
        refine' w_local m7 ?_
        with_reducible refine' w_es_cons ?_
        refine' w_local m7 ?_
        with_reducible refine' w_es_cons (w_tuple (w_es_cons (w_bin (w_bin ?_))))
        refine' w_cell (clof ‹_› rfl) kS4 (kof ‹_› rfl) ?_
        with_reducible refine' w_int (b_add ?_)
        refine' w_local m8 ?_
        with_reducible refine' b_add (w_es_cons ?_)
        refine' w_rows m14 m8 hrw4 (by lia) ?_
        intro n2 H33 l33 e33
        with_reducible refine' w_es_cons (w_none (w_es_nil ?_))
        refine' ⟨(Nat.le_of_ble_eq_true rfl), ?_⟩
        with_reducible refine' fun _ _ => w_es_nil ?_
        refine' ⟨(Nat.le_of_ble_eq_true rfl), ?_⟩
        with_reducible refine' fun _ _ => ?_
        rename_i n3 hn3 n4 hn4
        have l34 := (Hp.Le.set (o := .tup [.int (P.s + 1 + P.told), .ref n2, .none]) hn3).trans (Hp.Le.set (o := .tup [.int P.top, .int P.top, .ref n3]) hn4)
        refine c_neS (ds := [.int P.top, .int P.top, unD (finS P sp hd)]) ‹_› (d1.le (l33.trans l34)) ?_ ?_ ?_
        · refine dis_tup hs_self (ds_cons dis_int (ds_cons dis_int (ds_cons (dis_tup (hs_new hn4 hs_self) (ds_cons dis_int (ds_cons (dis_tup (l34 _ _ e33) ?_) (ds_cons dis_none ds_nil)))) ds_nil)))
          exact ERow.ds ((hrows.drop P.told).le ((l32.trans l33).trans l34))
        · have := deps_ents (ts := P.tl.drop P.told) (i := P.s + 1 + P.told)
          simp only [deps, dep, unD, finS]
          (first | lia | omega)
        with_reducible refine' tr_bool (br_f (s_nil (md_next ?_)))
        exact ⟨⟨⟨m1, m2, m3, m4, m5, m6, m7, m8, m9, m10, trivial⟩, m11, m12, m13, trivial⟩, hat.le ((l32.trans l33).trans l34), m14, (l32.trans l33).trans l34⟩
      clear m1 m2 m3 m4 m5 m6 m7 m8 m9 m10 m11 m12 m13 m14 hat
      rintro ⟨mm13, H32⟩ ⟨⟨⟨m1, m2, m3, m4, m5, m6, m7, m8, m9, m10, _⟩, m11, m12, m13, _⟩, hat, m14, l32⟩
      replace hrw := l32 _ _ hrw
      replace hrows := hrows.le l32
      refine ss_mid (fun σ => (Nms σ.m (tnm X Z P cf xl sp tl) ∧ Nms σ.m [("turn", .int i), ("storage", .ref st), ("log", .ref r)]) ∧ At K' σ.H r u st (finS P sp hd)) ?_ ?_
      · obtain ⟨scf, ssl, svs, hst, z1, z2⟩ := hat.t.s
        have kS3 := hat.t.le _ _ kS2
        have kb3 := hat.t.le _ _ (lK _ _ kb)
        have hsp3 := hsp.le (lK.trans hat.t.le)
        with_reducible refine' s_if (t_cmp (w_meth ?_))
        refine' w_local m12 ?_
        with_reducible refine' me_MemoryStorage_row ‹_› hst ?_
        refine' cm_one (kp_of ‹_› rfl) ?_
        with_reducible refine' w_es_nil ?_
        refine Fn.go (fn_St_row hD hat.t (hat.t.le _ _ hhd) hsp3 ?_) (Room.le ‹_› (by decide))
        intro H33 n1 l33 d1
        have kS4 := l33 _ _ kS3
        have kb4 := l33 _ _ kb3
        have hsp4 := hsp3.le l33
        obtain ⟨hsp5, hcf5⟩ := id hsp4
        with_reducible refine' w_tuple (w_es_cons (w_tuple (w_es_cons ?_)))
        refine' w_cell (clof ‹_› rfl) kb4 (kof ‹_› rfl) ?_
        with_reducible refine' w_es_cons (w_int (w_es_cons ?_))
        refine' w_cell (clof ‹_› rfl) kb4 (kof ‹_› rfl) ?_
        with_reducible refine' w_es_nil ?_
        refine' ⟨(Nat.le_of_ble_eq_true rfl), ?_⟩
        with_reducible refine' fun _ _ => w_es_cons ?_
        refine' w_cell (clof ‹_› rfl) (hg_new (by with_reducible assumption) kS4) (kof ‹_› rfl) ?_
        with_reducible refine' w_es_cons (w_int (w_es_cons ?_))
        refine' w_local m14 ?_
        with_reducible refine' w_es_cons (w_meth ?_)
        refine' w_local m9 ?_
        with_reducible refine' me_Snapshot_row ‹_› (hg_new (by with_reducible assumption) hsp5) ?_
        refine' cm_one (kp_of ‹_› rfl) ?_
        with_reducible refine' w_es_nil ?_
        rename_i n2 hn2
        refine Fn.go (fn_Snap_row (p := (sp, P.s, 5)) hD (hsp4.le (Hp.Le.set _ hn2)) ?_) (Room.le ‹_› (by decide))
        intro H34 n3 l34 d3
        have l35 := (Hp.Le.set (o := .tup [.int P.bg, .int 0, .int P.bg]) hn2).trans l34
        with_reducible refine' w_es_nil ?_
        refine' ⟨(Nat.le_of_ble_eq_true rfl), ?_⟩
        with_reducible refine' fun _ _ => ?_
        rename_i n4 hn4
        have l36 := Hp.Le.set (o := .tup [.ref n2, .int P.s, .int 5, .ref rw', .ref n3]) hn4
        refine c_neS (ds := [.tup [.int P.bg, .int 0, .int P.bg], .int P.s, .int 5, .tup (entsD (P.s + 1) P.tl), snD P.s 5 ⟨[1, 2], [3], [], [], false⟩ bs]) ‹_› (d1.le (l35.trans l36)) ?_ ?_ ?_
        · refine dis_tup hs_self (ds_cons (dis_tup ((l34.trans l36) _ _ hs_self) (ds_cons dis_int (ds_cons dis_int (ds_cons dis_int ds_nil)))) (ds_cons dis_int (ds_cons dis_int (ds_cons (dis_tup (((l33.trans l35).trans l36) _ _ hrw) ?_) (ds_cons (d3.le l36) ds_nil)))))
          exact ERow.ds (hrows.le ((l33.trans l35).trans l36))
        · have := deps_ents (ts := P.tl) (i := P.s + 1)
          have e2 := deps_sn (i := P.s) (t := 5) (cz := ⟨[1, 2], [3], [], [], false⟩) (b := bs)
          simp only [deps, dep, snD, cfD, deps_ints]
          (first | lia | omega)
        with_reducible refine' tr_bool (br_f (s_nil (md_next ?_)))
        exact ⟨⟨⟨m1, m2, m3, m4, m5, m6, m7, m8, m9, m10, trivial⟩, m11, m12, m13, trivial⟩, hat.le ((l33.trans l35).trans l36)⟩
      clear m1 m2 m3 m4 m5 m6 m7 m8 m9 m10 m11 m12 m13 m14 hat
      rintro ⟨mm14, H33⟩ ⟨⟨⟨m1, m2, m3, m4, m5, m6, m7, m8, m9, m10, _⟩, m11, m12, m13, _⟩, hat⟩
      have l37 : H17.Le H33 := lK.trans hat.t.le
      have kS3 := l37 _ _ kS
      have fin : H17.Le H33 ∧ H33 it = some (.ri ((i : Int) + 1) k) := ⟨l37, (lk.trans hat.t.le) _ _ h21⟩
      with_reducible refine' s_one (s_if (t_cmp ?_))
      refine' w_local m11 ?_
      with_reducible refine' w_int (c_eq (tr_bool (br_eq ?_ ?_)))
      with_reducible refine' fun _ => s_cons (s_assign (w_call ?_))
      refine' gl_RaftLog ‹_› (kof ‹_› rfl) ?_
      refine' cv_ref (kp_of ‹_› rfl) ?_
      with_reducible refine' w_es_cons ?_
      refine' w_local m12 ?_
      with_reducible refine' w_es_cons ?_
      refine' gl_NO_LIMIT ‹_› (kof ‹_› rfl) ?_
      with_reducible refine' w_es_nil ?_
      rotate_left
      with_reducible refine' fun _ => s_nil (tu_next ?_)
      rotate_left
      · refine nwc_RaftLog hD (Room.le ‹_› (by decide)) hat.t ?_
        intro H34 n2 u2 el2 l34 g1 g2 g3 e1 e2 e3
        have hat2 := at_anew hat.t g1 g2 l34 e1 e2 e3
        have hr := hat2.r
        have kS4 := l34 _ _ kS3
        have hfi : LS.first ⟨(finS P sp hd).base, (finS P sp hd).base, (finS P sp hd).base + (finS P sp hd).ss.length + 1, none, [], (finS P sp hd).base, (finS P sp hd).bt, (finS P sp hd).ss, (finS P sp hd).sa, (finS P sp hd).si, (finS P sp hd).hd⟩ = P.s + 1 := LS.first_none rfl
        have hla : LS.last ⟨(finS P sp hd).base, (finS P sp hd).base, (finS P sp hd).base + (finS P sp hd).ss.length + 1, none, [], (finS P sp hd).base, (finS P sp hd).bt, (finS P sp hd).ss, (finS P sp hd).sa, (finS P sp hd).si, (finS P sp hd).hd⟩ = P.s + P.k := by
          rw [LS.last_none rfl rfl]
          show P.s + (P.tl.length : Int) = _
          rw [htle]
        refine' st_local (lof ‹_› ⟨rfl, rfl⟩) ?_
        with_reducible refine' th_next (s_one (s_if (t_cmp (w_tuple (w_es_cons (w_meth ?_))))))
        refine' w_local rfl ?_
        with_reducible refine' me_RaftLog_first_index ‹_› hr ?_
        refine' cm_one (kp_of ‹_› rfl) ?_
        with_reducible refine' w_es_nil ?_
        refine' Fn.go (fn_first_index ‹_› hat2 ?_) (Room.le ‹_› (by decide))
        with_reducible refine' w_es_cons (w_meth ?_)
        refine' w_local rfl ?_
        with_reducible refine' me_RaftLog_last_index ‹_› hr ?_
        refine' cm_one (kp_of ‹_› rfl) ?_
        with_reducible refine' w_es_nil ?_
        refine' Fn.go (fn_last_index ‹_› hat2 ?_) (Room.le ‹_› (by decide))
        with_reducible refine' w_es_cons (att ?_)
        refine' w_local rfl ?_
        refine' gfG ‹_› hr rfl rfl rfl ?_
        with_reducible refine' w_es_nil ?_
        refine' ⟨(Nat.le_of_ble_eq_true rfl), ?_⟩
        with_reducible refine' fun _ _ => w_tuple (w_es_cons (w_bin ?_))
        refine' w_cell (clof ‹_› rfl) (hg_new (by with_reducible assumption) kS4) (kof ‹_› rfl) ?_
        with_reducible refine' w_int (b_add (w_es_cons (w_bin ?_)))
        refine' w_cell (clof ‹_› rfl) (hg_new (by with_reducible assumption) kS4) (kof ‹_› rfl) ?_
        refine' w_local m6 ?_
        with_reducible refine' b_add (w_es_cons ?_)
        refine' w_cell (clof ‹_› rfl) (hg_new (by with_reducible assumption) kS4) (kof ‹_› rfl) ?_
        with_reducible refine' w_es_nil ?_
        refine' ⟨(Nat.le_of_ble_eq_true rfl), ?_⟩
        with_reducible refine' fun _ _ => ?_
        rename_i n3 g4 n4 g5
        rw [hfi, hla] at g5 ⊢
        refine c_neI3 ‹_› (hs_new g5 hs_self) hs_self ?_
        with_reducible refine' tr_bool (br_f (s_nil (tu_next ?_)))
        exact ⟨i + 1, by (first | lia | omega), by (first | lia | omega), ⟨m1, m2, m3, m4, m5, m6, m7, m8, m9, m10, trivial⟩, (l34.trans ((Hp.Le.set _ g4).trans (Hp.Le.set _ g5))) _ _ fin.2, fin.1.trans (l34.trans ((Hp.Le.set _ g4).trans (Hp.Le.set _ g5)))⟩
      · exact ⟨i + 1, by (first | lia | omega), by (first | lia | omega), ⟨m1, m2, m3, m4, m5, m6, m7, m8, m9, m10, trivial⟩, fin.2, fin.1⟩
    · rintro x σ ⟨i, _, _, _, h, _⟩
      trivial
  rintro ⟨mm, H19⟩ _
  with_reducible refine' s_one (s_ret (w_bool ?_))
  rfl
end

end Rk
section
namespace Rk
theorem law_at {D : Wd} {s₁ : Shared} {h₁ : Heap} {tk : Nat} {sl : Addr} {ws : List Value} {ns : List Int} {m : Str → Option Value} {o o' : Obj} {ow ow' : Option Value} {body : List Stmt} {scope : Scope} {name : Str} {fa : Addr} {cd : Value}
    {Q : Flow → Shared → Prop} {E : Value → Shared → Prop} {n n' : Addr}
    (run : ∀ (c : Cx) (H0 : Hp) (nb nS sl : Addr) (ns : List Int), c.D = D → c.sc = scope → c.cl = ([("s", nS), ("begin", nb)] : List (Str × Addr)) → c.Room 20 → nb ≠ nS → H0 nb = some (.cell none) → H0 nS = some (.cell none) → Script c sl ns → ns.length ≤ 100 →
      c.Ss Nope body (fun fl σ' => fl = .ret (.bool true)) ⟨fun y => if y = "script" then some (.ref sl) else none, H0⟩)
    (K0 : Below callerA s₁.heap [] s₁.heap) (KX : D.K.In s₁.heap) (T : Top D.p D.loose D.mean D.mg D.mb s₁.heap) (hL : s₁.heap.IsList sl ws.toArray) (hI : IntsAre ws ns) (hn : ns.length ≤ 100)
    (hg : s₁.gens = D.gens) (hd : s₁.drawn = D.drawn) (ho : s₁.os = D.os)
    (F : Fr s₁.heap s₁.heap.objs.size h₁ m) (hm : m "script" = some (.ref sl)) (hk : scope.names.lookup ("script" : Str) = some .local) (ke : scope.kind = .function) (hcl : cellsFrom (s₁.heap.objs.size + 1) scope.names [] = ([("s", n'), ("begin", n)] : List (Str × Addr)))
    (nn : (h₁.get? n = some o ∧ n ≠ s₁.heap.objs.size ∧ s₁.heap.get? n = none) ∧ (h₁.get? n' = some o' ∧ n' ≠ s₁.heap.objs.size ∧ s₁.heap.get? n' = none)) (ne : n ≠ n') (hod : o.data = .cell ow) (hod' : o'.data = .cell ow')
    (hQ : ∀ s' m', Fr s₁.heap s₁.heap.objs.size s'.heap m' → s'.gens = s₁.gens → s'.os = s₁.os → Q (.ret (.bool true)) s') :
    wpAny (model D.prog D.w) (callerA.deeper (envOfC name scope s₁.heap.objs.size fa cd)) (execs body (envOfC name scope s₁.heap.objs.size fa cd)) Q E { s₁ with heap := h₁, toks := tk } := by
  let c : Cx := { D := D, A := callerA.deeper (envOfC name scope s₁.heap.objs.size fa cd), A₀ := callerA, base := s₁.heap, h₀ := s₁.heap, outer := [], nm := name, sc := scope, L := s₁.heap.objs.size, fa := some fa, cd := cd, cl := cellsFrom (s₁.heap.objs.size + 1) scope.names [], frm := s₁.heap.objs.size, inn := false }
  have Ok : c.Ok := ⟨K0, KX, T, Around.frames_deeper K0.stack, rfl, ke, KX, T, fun a ha => by cases ha⟩
  have only : ∀ a x, (((Hp.set (fun _ => none) n (.cell none)).set n' (.cell none) : Hp)) a = some x → (a = n ∨ a = n') ∧ x = .cell none := fun a x e => by
    unfold Hp.set at e
    by_cases q : a = n'
    · rw [if_pos q] at e; cases e; exact ⟨.inr q, rfl⟩
    · rw [if_neg q] at e
      by_cases q' : a = n
      · rw [if_pos q'] at e; cases e; exact ⟨.inl q', rfl⟩
      · rw [if_neg q'] at e; cases e
  have R : Rel0 c ⟨fun y => if y = "script" then some (.ref sl) else none, (Hp.set (fun _ => none) n (.cell none)).set n' (.cell none)⟩ { s₁ with heap := h₁, toks := tk } := by
    refine ⟨Ok, ⟨m, F, fun x v e => ?_⟩, ⟨fun a => a, ⟨fun a x e => ?_, fun a x e => ?_, fun a x e i => ?_, fun a b x y e e' i => ?_⟩⟩, hg, hd, ho⟩
    · by_cases q : x = "script"
      · subst q
        simp only [if_true] at e
        cases e
        exact ⟨⟨hk, by decide⟩, _, hm, rfl⟩
      · simp only [if_neg q] at e; cases e
    · obtain ⟨rfl | rfl, rfl⟩ := only a x e
      · exact ⟨o, ow, nn.1.1, hod, trivial⟩
      · exact ⟨o', ow', nn.2.1, hod', trivial⟩
    · obtain ⟨rfl | rfl, rfl⟩ := only a x e
      · exact nn.1.2
      · exact nn.2.2
    · obtain ⟨_, rfl⟩ := only a x e
      cases i
    · obtain ⟨_, rfl⟩ := only a x e
      cases i
  have sc : Script c sl ns := by
    rintro σ s ⟨g, T', R'⟩
    obtain ⟨m', F', _⟩ := R'.loc
    obtain ⟨o', e', h'⟩ := hL
    exact ⟨ws, ⟨o', F'.keep _ _ (T'.other _ _ e' (fun q => nomatch q)), h'⟩, hI⟩
  refine wpAny_mono (run c _ n n' sl ns rfl rfl hcl ⟨by show callerA.depth + 1 + 20 ≤ 900; decide, by show callerA.units + 3 + 40 * 20 ≤ 9000; decide, rfl⟩ ne (hs_ne ne hs_self) hs_self sc hn _ R.rel) (fun fl s' ⟨fl', σ', hf, R', hq⟩ => ?_) fun _ _ e => e.elim
  subst hq
  obtain ⟨w, rfl, hw⟩ := hf
  cases hw
  obtain ⟨g, T', R'⟩ := R'
  obtain ⟨m', F', _⟩ := R'.loc
  refine hQ s' m' ?_ (R'.g.trans hg.symm) (R'.o.trans ho.symm)
  exact ⟨F'.ns, fun b x e => F'.keep _ _ (T'.other b x e (fun q => nomatch q)), Nat.le_refl _⟩
end Rk

end
open Rk
set_option maxHeartbeats 0 in
theorem PySem.Challenge.cw_nz0371_01_holds : PySem.Challenge.rw_nz0371_01.Holds := by
  w_on
  refine holds_law Rk.said_ fun said => ?_
  refine holds_open (q := Rk.vw) (loose := []) (Xt := Rk.xt) (XP := XL Rk.vw []) (Yf := Hook.obs Rk.hk) (Ya := Hook.val Rk.hk) (YP := Hook.says Rk.hk) (N := 12944) Rk.left_ (Hook.of Rk.hk) (Hook.keeps Rk.hk) (fun s e => xl_of s (Bool.and_eq_true_iff.mp e).1) XL.keeps (by rfl) (by rfl) (by rfl) (fun s e => recFacts_of (Bool.and_eq_true_iff.mp e).2) (by rfl) said (by decide +kernel) ⟨rfl, rfl, rfl, rfl, rfl, by decide +kernel⟩ ?hw ?hc
  case hw => w_witness2
  clear said
  k_fill
  intro w s₀ s₁ mg mb G Y fa o pm cd doc dV kV ho hd hcd hD hmg hg args vals as hpre hlay hrd hwl hlo
  have KX := kIn_of Y
  have X := (Ground.X G).1
  have V := (Ground.X G).2
  refine Ground.open G ?_
  intro T B D TE TW
  try (refine guard_noD D (by decide +kernel) ?_; clear D)
  obtain ⟨_, _, M⟩ := bmod_of_top T
  have TA := at_of_top T
  try (obtain ⟨_, _, he, B0⟩ := based_of_top T rfl hmg ho hd; have he' : cd = _ := he; subst he'; clear he)
  clear hmg
  wrow_args hpre hlay hrd hwl hlo
  first | refine callC_kw (enter_call ?_) | refine enter_call ?_ | refine callC_kw (enter_callW ?_) | refine enter_callW ?_ | w_how
  w_top on
  try refine codeAny_mono ?_ (fun _ _ g => GoodW.toG g)
  have K0 := below_caller (Top.heap T)
  w_call any ho hd hcd hD T F
  clear hd TA
  k_drop
  rename Below _ _ _ _ => K0
  rename Frag.In _ _ => KX
  rename Top _ _ _ _ _ _ => T
  rename Heap.IsList _ _ _ => hL
  rename IntsAre _ _ => hI
  rename Fr _ _ _ _ => F
  rename News _ _ _ _ => N0
  rename (_ = #[]) => hg
  rename (¬ _ < _) => hlen
  rename World => wW
  refine' law_at (D := ⟨_, wW, Rk.KK wW.params, Rk.vw, looseW Rk.vw [], _, _, _, _, _, _⟩) (Runs.run (law_runs (rfl : IsD ⟨_, wW, Rk.KK wW.params, Rk.vw, looseW Rk.vw [], _, _, _, _, _, _⟩) (fn_law_refuses rfl)) ?hK) K0 KX T hL hI (by omega) rfl rfl rfl F ?hm ?hk ?ke ?hcl ⟨N0 _ (.tail _ (.head _)), N0 _ (.head _)⟩ (show s₁.heap.objs.size + 1 ≠ s₁.heap.objs.size + 1 + 1 from Nat.ne_of_lt (Nat.lt_succ_self _)) (by assumption) (by assumption) ?hQ
  case hK =>
    show (Rk.KK wW.params).lookup 796 = _
    k_is
  case hm => rfl
  case hk => rfl
  case ke => rfl
  case hcl => rfl
  case hQ =>
    intro s' m' F' h1 h2
    exact goodW_bool F' (h1.trans hg) (raisesW_false (by wrow_none_raised)) (postW_of (by wrow_shape) (by wtm_val) (by w_fin)) h2
