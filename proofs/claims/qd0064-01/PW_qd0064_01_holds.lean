import PyProof.Rows.All
import Wide.All
import OpenK.AllK
import Wide.FinOn
import Lean
import PySem.Challenge.RW_qd0064_01
open PySem PySem.W PySem.Calls PyProof.Rows
set_option Elab.async false
set_option compiler.extract_closed false
set_option maxRecDepth 100000
set_option linter.unusedVariables false
namespace Hd
noncomputable abbrev pw : Program := PySem.Challenge.pw_qd0064_01
noncomputable def st (i : Nat) : Stmt := pw.main.body.getD i (.Pass default)
noncomputable def mt (i j : Nat) : Stmt := match st i with | .ClassDef (body := b) .. => b.getD j (.Pass default) | s => s
noncomputable def fg (g : Nat) (n q : Str) (s : Stmt) (dV kV doc pm : Value) (an : Option Addr) (cd ct : Value) : Data := match s with
  | .FunctionDef (args := a) (body := b) (scope := sc) .. => .func { name := n, qualname := q, params := a, body := .stmts b, scope := sc, globals := g, closure := [], defaults := dV, kwdefaults := kV, doc := doc, pyModule := pm, annotations := an, code := cd, closureTuple := ct, builtins := 0 }
  | _ => .plain
noncomputable def fd (n q : Str) (s : Stmt) (dV kV doc pm : Value) (an : Option Addr) (cd ct : Value) : Data := fg 3 n q s dV kV doc pm an cd ct
noncomputable abbrev sv (x : Str) (t : Tok) : Value := .str x t
noncomputable abbrev ent (P : Params) (x : Str) (t : Tok) (v : Value) : DictEntry := ⟨PyData.keyHash P x, .str x t, v⟩
noncomputable abbrev nd (o : Obj) (l r : BT) : BT := .node o l r
noncomputable abbrev m0 : Nat := 11
noncomputable abbrev ann0 : Option Value := (some (.ref 6))
noncomputable abbrev env0 : Env := { scope := pw.main.scope, locals := mainNs, globals := mainNs, cells := [], code := .ref 13, frame := some 14 }
noncomputable abbrev fp0 : Pos := ⟨0, 0, 0, 0⟩
noncomputable abbrev body0 : List Stmt := behindTheImports pw
noncomputable abbrev cd0 : Code := .body body0 env0
noncomputable def s0 (w : World) (os : OsState) : Shared := ⟨boot_heap w.params, Array.mk [], boot_drawn, boot_toks, os⟩
noncomputable def o0 (P : Params) : Obj := ⟨.type "tuple", none, .seq #[] 0, #[]⟩
noncomputable def o1 (P : Params) : Obj := ⟨.none, none, .fields #[], #[]⟩
noncomputable def o2 (P : Params) : Obj := ⟨.type "code", none, .fields #[(sv "<module>" 182), (sv "<module>" 183), (sv "/claim/cut.py" 184), .int 1 0, .int 0 0, .int 0 0, .int 0 0, .int 0 0, .ref 11, .bool false, .int 181 0, .ref 12, .none, .none, .none, .none, .int 185 0, .int 1 0, (sv "/claim/cut.py" 186)], #[]⟩
noncomputable def o3 (P : Params) : Obj := ⟨.type "frame", none, .plain, #[(some (.ref 13)), (some (.ref 3)), (some (.ref 3)), none, (some (sv "__main__" 164)), none, (some (.ref 0))]⟩
noncomputable def sah (P : Params) : Heap := ⟨Array.mk [boot_o_0 P, boot_o_1 P, boot_o_2 P, boot_o_3 P, boot_o_4 P, boot_o_5 P, boot_o_6 P, boot_o_7 P, boot_o_8 P, boot_o_9 P, boot_o_10 P, o0 P, o1 P, o2 P, o3 P], { }⟩
noncomputable def sa (w : World) (os : OsState) : Shared := ⟨sah w.params, (Array.mk []), { }, 187, os⟩
theorem pre0 (w : World) (os : OsState) : topGo treeTable pw w m0 ann0 12 (s0 w os) (topStub pw) = some (sa w os, ⟨denote treeTable cd0, cd0, ⟨0, 0, 0, 0⟩, [topFrame fp0]⟩) := by ((try rw [PySem.W.Fast.te15667345088766844465]); (try rw [PySem.W.Fast.te14374325043358763698]); (try rw [PySem.W.Fast.te10110043849684766642]); (try rw [PySem.W.Fast.te14082659384304107361]); (try rw [PySem.W.Fast.te11892475500146522536]); (try rw [PySem.W.Fast.te14364793385576792824]); kernel_rfl)
noncomputable def sbt (P : Params) : BT := nd (boot_o_0 P) (nd (boot_o_1 P) (nd (boot_o_3 P) (nd (boot_o_7 P) .nil .nil) (nd (o0 P) .nil .nil)) (nd (boot_o_5 P) (nd (boot_o_9 P) .nil .nil) (nd (o2 P) .nil .nil))) (nd (boot_o_2 P) (nd (boot_o_4 P) (nd (boot_o_8 P) .nil .nil) (nd (o1 P) .nil .nil)) (nd (boot_o_6 P) (nd (boot_o_10 P) .nil .nil) (nd (o3 P) .nil .nil)))
noncomputable def sb (w : World) (os : OsState) : SharedT := ⟨sbt w.params, 15, { }, (Array.mk []), { }, 187, os⟩
theorem block0 (w : World) (os : OsState) : segRun treeTable pw w m0 ann0 1 1 (sa w os) (blockOf body0 env0 cd0 ⟨0, 0, 0, 0⟩ [topFrame fp0]) = some (.next, (sb w os).abs, cd0, ⟨0, 0, 0, 0⟩) := by ((try rw [PySem.W.Fast.te15667345088766844465]); (try rw [PySem.W.Fast.te14374325043358763698]); (try rw [PySem.W.Fast.te10110043849684766642]); (try rw [PySem.W.Fast.te14082659384304107361]); (try rw [PySem.W.Fast.te11892475500146522536]); (try rw [PySem.W.Fast.te14364793385576792824]); kernel_rfl)
noncomputable def o4 (P : Params) : Obj := ⟨.type "dict", none, .dict #[ent P "__name__" 165 (sv "grammarmill.source" 220), ent P "__doc__" 166 .none, ent P "__package__" 167 .none, ent P "__loader__" 168 (.builtin "__main__.__loader__#opaque"), ent P "__spec__" 169 .none, ent P "__annotations__" 170 (.ref 6), ent P "__builtins__" 171 (.ref 4), ent P "__file__" 173 (sv "/claim/cut.py" 172), ent P "__cached__" 174 .none, ent P "_wall" 193 (.ref 21), ent P "PART" 197 (.int 500 196), ent P "mask_item" 206 (.ref 28), ent P "read_masks" 219 (.ref 35), ent P "FIGURES" 223 (sv "0123456789" 222), ent P "HEX_SIGNS" 226 (sv "0123456789abcdefABCDEF" 225), ent P "OCTAL_SIGNS" 228 (sv "01234567" 227), ent P "MOST_FIGURES_source" 230 (.int 4000 229), ent P "PLAIN_ESCAPES" 252 (.ref 36), ent P "Position" 292 (.ref 60), ent P "position_of" 304 (.ref 71)] 20, #[]⟩
noncomputable def o5 (P : Params) : Obj := ⟨.none, none, .fields #[.int 1 0, .int 0 0, .ref 20, .int 6 0, .int 0 0, .ref 27, .int 13 0, .int 0 0, .ref 34, .int 34 0, .int 0 0, .ref 42, .int 43 0, .int 0 0, .ref 70], #[]⟩
noncomputable def o6 (P : Params) : Obj := ⟨.type "tuple", none, .seq #[] 0, #[]⟩
noncomputable def o7 (P : Params) : Obj := ⟨.none, none, .fields #[], #[]⟩
noncomputable def o8 (P : Params) : Obj := ⟨.type "tuple", none, .seq #[(sv "k" 190)] 0, #[]⟩
noncomputable def o9 (P : Params) : Obj := ⟨.type "tuple", none, .seq #[] 0, #[]⟩
noncomputable def o10 (P : Params) : Obj := ⟨.none, none, fg 0 "_wall" "_wall" (st 0) .none .none .none .none none .none .none, #[]⟩
noncomputable def o11 (P : Params) : Obj := ⟨.type "code", none, .fields #[(sv "_wall" 187), (sv "_wall" 188), (sv "/claim/cut.py" 189), .int 1 0, .int 1 0, .int 0 0, .int 0 0, .int 3 0, .ref 15, .bool true, .int 181 0, .ref 16, .none, .ref 17, .ref 18, .ref 19, .int 191 0, .int 1 0, (sv "/claim/cut.py" 192)], #[]⟩
noncomputable def o12 (P : Params) : Obj := ⟨.type "function", none, fd "_wall" "_wall" (st 0) .none .none .none (sv "__main__" 164) none (.ref 20) .none, #[]⟩
noncomputable def o13 (P : Params) : Obj := ⟨.type "tuple", none, .seq #[] 0, #[]⟩
noncomputable def o14 (P : Params) : Obj := ⟨.none, none, .fields #[], #[]⟩
noncomputable def o15 (P : Params) : Obj := ⟨.type "tuple", none, .seq #[(sv "mask" 201), (sv "parts" 202), (sv "left" 203)] 0, #[]⟩
noncomputable def o16 (P : Params) : Obj := ⟨.type "tuple", none, .seq #[] 0, #[]⟩
noncomputable def o17 (P : Params) : Obj := ⟨.none, none, fg 0 "mask_item" "mask_item" (st 3) .none .none .none .none none .none .none, #[]⟩
noncomputable def o18 (P : Params) : Obj := ⟨.type "code", none, .fields #[(sv "mask_item" 198), (sv "mask_item" 199), (sv "/claim/cut.py" 200), .int 6 0, .int 1 0, .int 0 0, .int 0 0, .int 3 0, .ref 22, .bool true, .int 181 0, .ref 23, .none, .ref 24, .ref 25, .ref 26, .int 204 0, .int 6 0, (sv "/claim/cut.py" 205)], #[]⟩
noncomputable def o19 (P : Params) : Obj := ⟨.type "function", none, fd "mask_item" "mask_item" (st 3) .none .none .none (sv "grammarmill.texts" 194) none (.ref 27) .none, #[]⟩
noncomputable def o20 (P : Params) : Obj := ⟨.type "tuple", none, .seq #[] 0, #[]⟩
noncomputable def o21 (P : Params) : Obj := ⟨.none, none, .fields #[], #[]⟩
noncomputable def o22 (P : Params) : Obj := ⟨.type "tuple", none, .seq #[(sv "reader" 210), (sv "many" 211), (sv "found" 212), (sv "item" 213), (sv "mask" 214), (sv "parts" 215), (sv "at" 216)] 0, #[]⟩
noncomputable def o23 (P : Params) : Obj := ⟨.type "tuple", none, .seq #[] 0, #[]⟩
noncomputable def o24 (P : Params) : Obj := ⟨.none, none, fg 0 "read_masks" "read_masks" (st 4) .none .none .none .none none .none .none, #[]⟩
noncomputable def o25 (P : Params) : Obj := ⟨.type "code", none, .fields #[(sv "read_masks" 207), (sv "read_masks" 208), (sv "/claim/cut.py" 209), .int 13 0, .int 2 0, .int 0 0, .int 0 0, .int 3 0, .ref 29, .bool true, .int 181 0, .ref 30, .none, .ref 31, .ref 32, .ref 33, .int 217 0, .int 13 0, (sv "/claim/cut.py" 218)], #[]⟩
noncomputable def o26 (P : Params) : Obj := ⟨.type "function", none, fd "read_masks" "read_masks" (st 4) .none .none .none (sv "grammarmill.texts" 194) none (.ref 34) .none, #[]⟩
noncomputable def o27 (P : Params) : Obj := ⟨.type "dict", none, .dict #[ent P "n" 231 (.int 10 232), ent P "t" 233 (.int 9 234), ent P "r" 235 (.int 13 236), ent P "f" 237 (.int 12 238), ent P "v" 239 (.int 11 240), ent P "a" 241 (.int 7 242), ent P "b" 243 (.int 8 244)] 7, #[]⟩
noncomputable def o28 (P : Params) : Obj := ⟨.type "tuple", none, .seq #[] 0, #[]⟩
noncomputable def o29 (P : Params) : Obj := ⟨.type "builtin_function_or_method", none, .fields #[.builtin "type.__prepare__", .type "type"], #[]⟩
noncomputable def o30 (P : Params) : Obj := ⟨.type "dict", none, .dict #[ent P "__module__" 260 (sv "grammarmill.source" 220), ent P "__qualname__" 262 (sv "Position" 261), ent P "__firstlineno__" 264 (.int 34 263), ent P "__init__" 274 (.ref 50), ent P "told" 281 (.ref 57), ent P "__static_attributes__" 285 (.ref 58)] 6, #[]⟩
noncomputable def o31 (P : Params) : Obj := ⟨.type "tuple", none, .seq #[] 0, #[]⟩
noncomputable def o32 (P : Params) : Obj := ⟨.none, none, .fields #[.int 36 0, .int 4 0, .ref 49, .int 41 0, .int 4 0, .ref 56], #[]⟩
noncomputable def o33 (P : Params) : Obj := ⟨.type "code", none, .fields #[(sv "Position" 255), (sv "Position" 256), (sv "/claim/cut.py" 257), .int 34 0, .int 0 0, .int 0 0, .int 0 0, .int 0 0, .ref 40, .bool false, .int 181 0, .ref 41, .none, .none, .none, .none, .int 258 0, .int 34 0, (sv "/claim/cut.py" 259)], #[]⟩
noncomputable def o34 (P : Params) : Obj := ⟨.type "frame", none, .plain, #[(some (.ref 42)), (some (.ref 3)), (some (.ref 39)), none, (some (sv "grammarmill.source" 220)), none, (some (.ref 0))]⟩
noncomputable def o35 (P : Params) : Obj := ⟨.type "tuple", none, .seq #[] 0, #[]⟩
noncomputable def o36 (P : Params) : Obj := ⟨.none, none, .fields #[], #[]⟩
noncomputable def o37 (P : Params) : Obj := ⟨.type "tuple", none, .seq #[(sv "self" 268), (sv "offset" 269), (sv "line" 270), (sv "column" 271)] 0, #[]⟩
noncomputable def o38 (P : Params) : Obj := ⟨.type "tuple", none, .seq #[] 0, #[]⟩
noncomputable def o39 (P : Params) : Obj := ⟨.none, none, fg 0 "__init__" "Position.__init__" (mt 11 0) .none .none .none .none none .none .none, #[]⟩
noncomputable def o40 (P : Params) : Obj := ⟨.type "code", none, .fields #[(sv "__init__" 265), (sv "Position.__init__" 266), (sv "/claim/cut.py" 267), .int 36 0, .int 4 0, .int 0 0, .int 0 0, .int 3 0, .ref 44, .bool true, .int 181 0, .ref 45, .none, .ref 46, .ref 47, .ref 48, .int 272 0, .int 36 0, (sv "/claim/cut.py" 273)], #[]⟩
noncomputable def o41 (P : Params) : Obj := ⟨.type "function", none, fd "__init__" "Position.__init__" (mt 11 0) .none .none .none (sv "grammarmill.source" 220) none (.ref 49) .none, #[]⟩
noncomputable def o42 (P : Params) : Obj := ⟨.type "tuple", none, .seq #[] 0, #[]⟩
noncomputable def o43 (P : Params) : Obj := ⟨.none, none, .fields #[], #[]⟩
noncomputable def o44 (P : Params) : Obj := ⟨.type "tuple", none, .seq #[(sv "self" 278)] 0, #[]⟩
noncomputable def o45 (P : Params) : Obj := ⟨.type "tuple", none, .seq #[] 0, #[]⟩
noncomputable def o46 (P : Params) : Obj := ⟨.none, none, fg 0 "told" "Position.told" (mt 11 1) .none .none .none .none none .none .none, #[]⟩
noncomputable def o47 (P : Params) : Obj := ⟨.type "code", none, .fields #[(sv "told" 275), (sv "Position.told" 276), (sv "/claim/cut.py" 277), .int 41 0, .int 1 0, .int 0 0, .int 0 0, .int 3 0, .ref 51, .bool true, .int 181 0, .ref 52, .none, .ref 53, .ref 54, .ref 55, .int 279 0, .int 41 0, (sv "/claim/cut.py" 280)], #[]⟩
noncomputable def o48 (P : Params) : Obj := ⟨.type "function", none, fd "told" "Position.told" (mt 11 1) .none .none .none (sv "grammarmill.source" 220) none (.ref 56) .none, #[]⟩
noncomputable def o49 (P : Params) : Obj := ⟨.type "tuple", none, .seq #[(sv "column" 282), (sv "line" 283), (sv "offset" 284)] 0, #[]⟩
noncomputable def o50 (P : Params) : Obj := ⟨.type "dict", none, .dict #[ent P "__module__" 260 (sv "grammarmill.source" 220), ent P "__firstlineno__" 264 (.int 34 263), ent P "__init__" 274 (.ref 50), ent P "told" 281 (.ref 57), ent P "__static_attributes__" 285 (.ref 58), ent P "__dict__" 287 (.ref 61), ent P "__weakref__" 289 (.ref 62), ent P "__doc__" 290 .none] 4, #[]⟩
noncomputable def o51 (P : Params) : Obj := ⟨.type "type", none, .cls ⟨"Position", [.type "object"], [.ref 60, .type "object"], 59, "Position", true, [], [], false, none, false⟩, #[none, none, (some (sv "Position" 253)), (some (sv "Position" 261)), (some (.builtin "object.__new__")), (some (.bool true))]⟩
noncomputable def o52 (P : Params) : Obj := ⟨.type "getset_descriptor", none, .fields #[(sv "__dict__" 286), .ref 60, .builtin "function.__dict__", .builtin "function.__dict__#set"], #[]⟩
noncomputable def o53 (P : Params) : Obj := ⟨.type "getset_descriptor", none, .fields #[(sv "__weakref__" 288), .ref 60, .builtin "ExceptionGroup.__weakref__", .none], #[]⟩
noncomputable def o54 (P : Params) : Obj := ⟨.type "super", none, .fields #[.ref 60, .ref 60, .ref 60], #[]⟩
noncomputable def o55 (P : Params) : Obj := ⟨.type "builtin_function_or_method", none, .fields #[.builtin "object.__init_subclass__", .ref 60], #[]⟩
noncomputable def o56 (P : Params) : Obj := ⟨.type "tuple", none, .seq #[] 0, #[]⟩
noncomputable def o57 (P : Params) : Obj := ⟨.none, none, .fields #[], #[]⟩
noncomputable def o58 (P : Params) : Obj := ⟨.type "tuple", none, .seq #[(sv "text" 296), (sv "offset" 297), (sv "at" 298), (sv "line" 299), (sv "begun" 300), (sv "here" 301)] 0, #[]⟩
noncomputable def o59 (P : Params) : Obj := ⟨.type "tuple", none, .seq #[] 0, #[]⟩
noncomputable def o60 (P : Params) : Obj := ⟨.none, none, fg 0 "position_of" "position_of" (st 12) .none .none .none .none none .none .none, #[]⟩
noncomputable def o61 (P : Params) : Obj := ⟨.type "code", none, .fields #[(sv "position_of" 293), (sv "position_of" 294), (sv "/claim/cut.py" 295), .int 43 0, .int 2 0, .int 0 0, .int 0 0, .int 3 0, .ref 65, .bool true, .int 181 0, .ref 66, .none, .ref 67, .ref 68, .ref 69, .int 302 0, .int 43 0, (sv "/claim/cut.py" 303)], #[]⟩
noncomputable def o62 (P : Params) : Obj := ⟨.type "function", none, fd "position_of" "position_of" (st 12) .none .none .none (sv "grammarmill.source" 220) none (.ref 70) .none, #[]⟩
noncomputable def s1t (P : Params) : BT := nd (boot_o_0 P) (nd (boot_o_1 P) (nd (o4 P) (nd (boot_o_7 P) (nd (o6 P) (nd (o22 P) (nd (o54 P) .nil .nil) .nil) (nd (o38 P) .nil .nil)) (nd (o14 P) (nd (o30 P) (nd (o62 P) .nil .nil) .nil) (nd (o46 P) .nil .nil))) (nd (o0 P) (nd (o10 P) (nd (o26 P) (nd (o58 P) .nil .nil) .nil) (nd (o42 P) .nil .nil)) (nd (o18 P) (nd (o34 P) .nil .nil) (nd (o50 P) .nil .nil)))) (nd (boot_o_5 P) (nd (boot_o_9 P) (nd (o8 P) (nd (o24 P) (nd (o56 P) .nil .nil) .nil) (nd (o40 P) .nil .nil)) (nd (o16 P) (nd (o32 P) .nil .nil) (nd (o48 P) .nil .nil))) (nd (o2 P) (nd (o12 P) (nd (o28 P) (nd (o60 P) .nil .nil) .nil) (nd (o44 P) .nil .nil)) (nd (o20 P) (nd (o36 P) .nil .nil) (nd (o52 P) .nil .nil))))) (nd (boot_o_2 P) (nd (boot_o_4 P) (nd (boot_o_8 P) (nd (o7 P) (nd (o23 P) (nd (o55 P) .nil .nil) .nil) (nd (o39 P) .nil .nil)) (nd (o15 P) (nd (o31 P) .nil .nil) (nd (o47 P) .nil .nil))) (nd (o5 P) (nd (o11 P) (nd (o27 P) (nd (o59 P) .nil .nil) .nil) (nd (o43 P) .nil .nil)) (nd (o19 P) (nd (o35 P) .nil .nil) (nd (o51 P) .nil .nil)))) (nd (boot_o_6 P) (nd (boot_o_10 P) (nd (o9 P) (nd (o25 P) (nd (o57 P) .nil .nil) .nil) (nd (o41 P) .nil .nil)) (nd (o17 P) (nd (o33 P) .nil .nil) (nd (o49 P) .nil .nil))) (nd (o3 P) (nd (o13 P) (nd (o29 P) (nd (o61 P) .nil .nil) .nil) (nd (o45 P) .nil .nil)) (nd (o21 P) (nd (o37 P) .nil .nil) (nd (o53 P) .nil .nil)))))
noncomputable def s1 (w : World) (os : OsState) : SharedT := ⟨s1t w.params, 72, { }, (Array.mk []), { }, 305, os⟩
noncomputable abbrev l1 : List Stmt := (body0.drop 0).take 13
theorem p1f (w : World) (os : OsState) : segRunT treeTable pw (w.withFollow "special-get-raises" false) m0 ann0 1 573 (sb (w.withFollow "special-get-raises" false) os) (piecesOf l1 env0 cd0 ⟨0, 0, 0, 0⟩ [topFrame fp0]) = some (.next, s1 (w.withFollow "special-get-raises" false) os, cd0, ⟨43, 0, 51, 45⟩) := by ((try rw [PySem.W.Fast.te15667345088766844465]); (try rw [PySem.W.Fast.te14374325043358763698]); (try rw [PySem.W.Fast.te10110043849684766642]); (try rw [PySem.W.Fast.te14082659384304107361]); (try rw [PySem.W.Fast.te11892475500146522536]); (try rw [PySem.W.Fast.te14364793385576792824]); kernel_rfl)
theorem p1t (w : World) (os : OsState) : segRunT treeTable pw (w.withFollow "special-get-raises" true) m0 ann0 1 573 (sb (w.withFollow "special-get-raises" true) os) (piecesOf l1 env0 cd0 ⟨0, 0, 0, 0⟩ [topFrame fp0]) = some (.next, s1 (w.withFollow "special-get-raises" true) os, cd0, ⟨43, 0, 51, 45⟩) := by ((try rw [PySem.W.Fast.te15667345088766844465]); (try rw [PySem.W.Fast.te14374325043358763698]); (try rw [PySem.W.Fast.te10110043849684766642]); (try rw [PySem.W.Fast.te14082659384304107361]); (try rw [PySem.W.Fast.te11892475500146522536]); (try rw [PySem.W.Fast.te14364793385576792824]); kernel_rfl)
theorem p1 (w : World) (os : OsState) : segRunT treeTable pw w m0 ann0 1 573 (sb w os) (piecesOf l1 env0 cd0 ⟨0, 0, 0, 0⟩ [topFrame fp0]) = some (.next, s1 w os, cd0, ⟨43, 0, 51, 45⟩) := byRow2 "special-get-raises" (P := fun w => segRunT treeTable pw w m0 ann0 1 573 (sb w os) (piecesOf l1 env0 cd0 ⟨0, 0, 0, 0⟩ [topFrame fp0]) = some (.next, s1 w os, cd0, ⟨43, 0, 51, 45⟩)) (fun w => p1f w os) (fun w => p1t w os) w
noncomputable def o63 (P : Params) : Obj := ⟨.none, none, .dict #[ent P "type.__subclasses__.Exception.0" 339 (.int 96 0), ent P "type.__subclasses__.Exception.n" 340 (.int 1 0)] 2, #[]⟩
noncomputable def o64 (P : Params) : Obj := ⟨.type "dict", none, .dict #[ent P "__name__" 165 (sv "grammarmill.source" 220), ent P "__doc__" 166 .none, ent P "__package__" 167 .none, ent P "__loader__" 168 (.builtin "__main__.__loader__#opaque"), ent P "__spec__" 169 .none, ent P "__annotations__" 170 (.ref 6), ent P "__builtins__" 171 (.ref 4), ent P "__file__" 173 (sv "/claim/cut.py" 172), ent P "__cached__" 174 .none, ent P "_wall" 193 (.ref 21), ent P "PART" 197 (.int 500 196), ent P "mask_item" 206 (.ref 28), ent P "read_masks" 219 (.ref 35), ent P "FIGURES" 223 (sv "0123456789" 222), ent P "HEX_SIGNS" 226 (sv "0123456789abcdefABCDEF" 225), ent P "OCTAL_SIGNS" 228 (sv "01234567" 227), ent P "MOST_FIGURES_source" 230 (.int 4000 229), ent P "PLAIN_ESCAPES" 252 (.ref 36), ent P "Position" 292 (.ref 60), ent P "position_of" 304 (.ref 71), ent P "ToolError" 342 (.ref 96), ent P "TableError" 358 (.ref 109)] 22, #[]⟩
noncomputable def o65 (P : Params) : Obj := ⟨.none, none, .fields #[.int 1 0, .int 0 0, .ref 20, .int 6 0, .int 0 0, .ref 27, .int 13 0, .int 0 0, .ref 34, .int 34 0, .int 0 0, .ref 42, .int 43 0, .int 0 0, .ref 70, .int 52 0, .int 0 0, .ref 77, .int 63 0, .int 0 0, .ref 105], #[]⟩
noncomputable def o66 (P : Params) : Obj := ⟨.type "tuple", none, .seq #[.type "Exception"] 0, #[]⟩
noncomputable def o67 (P : Params) : Obj := ⟨.type "builtin_function_or_method", none, .fields #[.builtin "type.__prepare__", .type "type"], #[]⟩
noncomputable def o68 (P : Params) : Obj := ⟨.type "dict", none, .dict #[ent P "__module__" 312 (sv "grammarmill.source" 220), ent P "__qualname__" 314 (sv "ToolError" 313), ent P "__firstlineno__" 316 (.int 52 315), ent P "__init__" 325 (.ref 86), ent P "told" 332 (.ref 93), ent P "__static_attributes__" 335 (.ref 94)] 6, #[]⟩
noncomputable def o69 (P : Params) : Obj := ⟨.type "tuple", none, .seq #[] 0, #[]⟩
noncomputable def o70 (P : Params) : Obj := ⟨.none, none, .fields #[.int 54 0, .int 4 0, .ref 85, .int 59 0, .int 4 0, .ref 92], #[]⟩
noncomputable def o71 (P : Params) : Obj := ⟨.type "code", none, .fields #[(sv "ToolError" 307), (sv "ToolError" 308), (sv "/claim/cut.py" 309), .int 52 0, .int 0 0, .int 0 0, .int 0 0, .int 0 0, .ref 75, .bool false, .int 181 0, .ref 76, .none, .none, .none, .none, .int 310 0, .int 52 0, (sv "/claim/cut.py" 311)], #[]⟩
noncomputable def o72 (P : Params) : Obj := ⟨.type "frame", none, .plain, #[(some (.ref 77)), (some (.ref 3)), (some (.ref 74)), none, (some (sv "grammarmill.source" 220)), none, (some (.ref 0))]⟩
noncomputable def o73 (P : Params) : Obj := ⟨.type "tuple", none, .seq #[.none] 0, #[]⟩
noncomputable def o74 (P : Params) : Obj := ⟨.type "tuple", none, .seq #[] 0, #[]⟩
noncomputable def o75 (P : Params) : Obj := ⟨.none, none, .fields #[], #[]⟩
noncomputable def o76 (P : Params) : Obj := ⟨.type "tuple", none, .seq #[(sv "self" 320), (sv "what" 321), (sv "at" 322)] 0, #[]⟩
noncomputable def o77 (P : Params) : Obj := ⟨.type "tuple", none, .seq #[] 0, #[]⟩
noncomputable def o78 (P : Params) : Obj := ⟨.none, none, fg 0 "__init__" "ToolError.__init__" (mt 13 0) .none .none .none .none none .none .none, #[]⟩
noncomputable def o79 (P : Params) : Obj := ⟨.type "code", none, .fields #[(sv "__init__" 317), (sv "ToolError.__init__" 318), (sv "/claim/cut.py" 319), .int 54 0, .int 3 0, .int 0 0, .int 0 0, .int 3 0, .ref 80, .bool true, .int 181 0, .ref 81, .none, .ref 82, .ref 83, .ref 84, .int 323 0, .int 54 0, (sv "/claim/cut.py" 324)], #[]⟩
noncomputable def o80 (P : Params) : Obj := ⟨.type "function", none, fd "__init__" "ToolError.__init__" (mt 13 0) (.ref 79) .none .none (sv "grammarmill.source" 220) none (.ref 85) .none, #[]⟩
noncomputable def o81 (P : Params) : Obj := ⟨.type "tuple", none, .seq #[] 0, #[]⟩
noncomputable def o82 (P : Params) : Obj := ⟨.none, none, .fields #[], #[]⟩
noncomputable def o83 (P : Params) : Obj := ⟨.type "tuple", none, .seq #[(sv "self" 329)] 0, #[]⟩
noncomputable def o84 (P : Params) : Obj := ⟨.type "tuple", none, .seq #[] 0, #[]⟩
noncomputable def o85 (P : Params) : Obj := ⟨.none, none, fg 0 "told" "ToolError.told" (mt 13 1) .none .none .none .none none .none .none, #[]⟩
noncomputable def o86 (P : Params) : Obj := ⟨.type "code", none, .fields #[(sv "told" 326), (sv "ToolError.told" 327), (sv "/claim/cut.py" 328), .int 59 0, .int 1 0, .int 0 0, .int 0 0, .int 3 0, .ref 87, .bool true, .int 181 0, .ref 88, .none, .ref 89, .ref 90, .ref 91, .int 330 0, .int 59 0, (sv "/claim/cut.py" 331)], #[]⟩
noncomputable def o87 (P : Params) : Obj := ⟨.type "function", none, fd "told" "ToolError.told" (mt 13 1) .none .none .none (sv "grammarmill.source" 220) none (.ref 92) .none, #[]⟩
noncomputable def o88 (P : Params) : Obj := ⟨.type "tuple", none, .seq #[(sv "at" 333), (sv "what" 334)] 0, #[]⟩
noncomputable def o89 (P : Params) : Obj := ⟨.type "dict", none, .dict #[ent P "__module__" 312 (sv "grammarmill.source" 220), ent P "__firstlineno__" 316 (.int 52 315), ent P "__init__" 325 (.ref 86), ent P "told" 332 (.ref 93), ent P "__static_attributes__" 335 (.ref 94), ent P "__weakref__" 337 (.ref 97), ent P "__doc__" 338 .none] 3, #[]⟩
noncomputable def o90 (P : Params) : Obj := ⟨.type "type", none, .cls ⟨"ToolError", [.type "Exception"], [.ref 96, .type "Exception", .type "BaseException", .type "object"], 95, "ToolError", true, [], [.ref 109], false, none, false⟩, #[(some (.ref 72)), none, (some (sv "ToolError" 305)), (some (sv "ToolError" 313)), (some (.builtin "Exception.__new__")), (some (.bool true))]⟩
noncomputable def o91 (P : Params) : Obj := ⟨.type "getset_descriptor", none, .fields #[(sv "__weakref__" 336), .ref 96, .builtin "ExceptionGroup.__weakref__", .none], #[]⟩
noncomputable def o92 (P : Params) : Obj := ⟨.type "super", none, .fields #[.ref 96, .ref 96, .ref 96], #[]⟩
noncomputable def o93 (P : Params) : Obj := ⟨.type "builtin_function_or_method", none, .fields #[.builtin "object.__init_subclass__", .ref 96], #[]⟩
noncomputable def o94 (P : Params) : Obj := ⟨.type "tuple", none, .seq #[.ref 96] 0, #[]⟩
noncomputable def o95 (P : Params) : Obj := ⟨.type "builtin_function_or_method", none, .fields #[.builtin "type.__prepare__", .type "type"], #[]⟩
noncomputable def o96 (P : Params) : Obj := ⟨.type "dict", none, .dict #[ent P "__module__" 350 (sv "grammarmill.source" 220), ent P "__qualname__" 352 (sv "TableError" 351), ent P "__firstlineno__" 354 (.int 63 353), ent P "__static_attributes__" 355 (.ref 107)] 4, #[]⟩
noncomputable def o97 (P : Params) : Obj := ⟨.type "tuple", none, .seq #[] 0, #[]⟩
noncomputable def o98 (P : Params) : Obj := ⟨.none, none, .fields #[], #[]⟩
noncomputable def o99 (P : Params) : Obj := ⟨.type "code", none, .fields #[(sv "TableError" 345), (sv "TableError" 346), (sv "/claim/cut.py" 347), .int 63 0, .int 0 0, .int 0 0, .int 0 0, .int 0 0, .ref 103, .bool false, .int 181 0, .ref 104, .none, .none, .none, .none, .int 348 0, .int 63 0, (sv "/claim/cut.py" 349)], #[]⟩
noncomputable def o100 (P : Params) : Obj := ⟨.type "frame", none, .plain, #[(some (.ref 105)), (some (.ref 3)), (some (.ref 102)), none, (some (sv "grammarmill.source" 220)), none, (some (.ref 0))]⟩
noncomputable def o101 (P : Params) : Obj := ⟨.type "tuple", none, .seq #[] 0, #[]⟩
noncomputable def o102 (P : Params) : Obj := ⟨.type "dict", none, .dict #[ent P "__module__" 350 (sv "grammarmill.source" 220), ent P "__firstlineno__" 354 (.int 63 353), ent P "__static_attributes__" 355 (.ref 107), ent P "__doc__" 356 .none] 2, #[]⟩
noncomputable def o103 (P : Params) : Obj := ⟨.type "type", none, .cls ⟨"TableError", [.ref 96], [.ref 109, .ref 96, .type "Exception", .type "BaseException", .type "object"], 108, "TableError", true, [], [], false, none, false⟩, #[(some (.ref 100)), none, (some (sv "TableError" 343)), (some (sv "TableError" 351)), (some (.builtin "Exception.__new__")), (some (.bool true))]⟩
noncomputable def o104 (P : Params) : Obj := ⟨.type "super", none, .fields #[.ref 109, .ref 109, .ref 109], #[]⟩
noncomputable def o105 (P : Params) : Obj := ⟨.type "builtin_function_or_method", none, .fields #[.builtin "object.__init_subclass__", .ref 109], #[]⟩
noncomputable def s2t (P : Params) : BT := nd (boot_o_0 P) (nd (boot_o_1 P) (nd (o64 P) (nd (boot_o_7 P) (nd (o6 P) (nd (o22 P) (nd (o54 P) .nil .nil) (nd (o89 P) .nil .nil)) (nd (o38 P) (nd (o73 P) .nil .nil) (nd (o105 P) .nil .nil))) (nd (o14 P) (nd (o30 P) (nd (o62 P) .nil .nil) (nd (o97 P) .nil .nil)) (nd (o46 P) (nd (o81 P) .nil .nil) .nil))) (nd (o0 P) (nd (o10 P) (nd (o26 P) (nd (o58 P) .nil .nil) (nd (o93 P) .nil .nil)) (nd (o42 P) (nd (o77 P) .nil .nil) .nil)) (nd (o18 P) (nd (o34 P) (nd (o69 P) .nil .nil) (nd (o101 P) .nil .nil)) (nd (o50 P) (nd (o85 P) .nil .nil) .nil)))) (nd (boot_o_5 P) (nd (boot_o_9 P) (nd (o8 P) (nd (o24 P) (nd (o56 P) .nil .nil) (nd (o91 P) .nil .nil)) (nd (o40 P) (nd (o75 P) .nil .nil) .nil)) (nd (o16 P) (nd (o32 P) (nd (o67 P) .nil .nil) (nd (o99 P) .nil .nil)) (nd (o48 P) (nd (o83 P) .nil .nil) .nil))) (nd (o2 P) (nd (o12 P) (nd (o28 P) (nd (o60 P) .nil .nil) (nd (o95 P) .nil .nil)) (nd (o44 P) (nd (o79 P) .nil .nil) .nil)) (nd (o20 P) (nd (o36 P) (nd (o71 P) .nil .nil) (nd (o103 P) .nil .nil)) (nd (o52 P) (nd (o87 P) .nil .nil) .nil))))) (nd (o63 P) (nd (boot_o_4 P) (nd (boot_o_8 P) (nd (o7 P) (nd (o23 P) (nd (o55 P) .nil .nil) (nd (o90 P) .nil .nil)) (nd (o39 P) (nd (o74 P) .nil .nil) .nil)) (nd (o15 P) (nd (o31 P) (nd (o66 P) .nil .nil) (nd (o98 P) .nil .nil)) (nd (o47 P) (nd (o82 P) .nil .nil) .nil))) (nd (o65 P) (nd (o11 P) (nd (o27 P) (nd (o59 P) .nil .nil) (nd (o94 P) .nil .nil)) (nd (o43 P) (nd (o78 P) .nil .nil) .nil)) (nd (o19 P) (nd (o35 P) (nd (o70 P) .nil .nil) (nd (o102 P) .nil .nil)) (nd (o51 P) (nd (o86 P) .nil .nil) .nil)))) (nd (boot_o_6 P) (nd (boot_o_10 P) (nd (o9 P) (nd (o25 P) (nd (o57 P) .nil .nil) (nd (o92 P) .nil .nil)) (nd (o41 P) (nd (o76 P) .nil .nil) .nil)) (nd (o17 P) (nd (o33 P) (nd (o68 P) .nil .nil) (nd (o100 P) .nil .nil)) (nd (o49 P) (nd (o84 P) .nil .nil) .nil))) (nd (o3 P) (nd (o13 P) (nd (o29 P) (nd (o61 P) .nil .nil) (nd (o96 P) .nil .nil)) (nd (o45 P) (nd (o80 P) .nil .nil) .nil)) (nd (o21 P) (nd (o37 P) (nd (o72 P) .nil .nil) (nd (o104 P) .nil .nil)) (nd (o53 P) (nd (o88 P) .nil .nil) .nil)))))
noncomputable def s2 (w : World) (os : OsState) : SharedT := ⟨s2t w.params, 112, { }, (Array.mk []), { }, 359, os⟩
noncomputable abbrev l2 : List Stmt := (body0.drop 13).take 2
theorem p2 (w : World) (os : OsState) : segRunT treeTable pw w m0 ann0 1 476 (s1 w os) (piecesOf l2 env0 cd0 ⟨43, 0, 51, 45⟩ [topFrame fp0]) = some (.next, s2 w os, cd0, ⟨63, 0, 64, 8⟩) := by ((try rw [PySem.W.Fast.te15667345088766844465]); (try rw [PySem.W.Fast.te14374325043358763698]); (try rw [PySem.W.Fast.te10110043849684766642]); (try rw [PySem.W.Fast.te14082659384304107361]); (try rw [PySem.W.Fast.te11892475500146522536]); (try rw [PySem.W.Fast.te14364793385576792824]); kernel_rfl)
noncomputable def o106 (P : Params) : Obj := ⟨.type "dict", none, .dict #[ent P "__name__" 165 (sv "grammarmill.source" 220), ent P "__doc__" 166 .none, ent P "__package__" 167 .none, ent P "__loader__" 168 (.builtin "__main__.__loader__#opaque"), ent P "__spec__" 169 .none, ent P "__annotations__" 170 (.ref 6), ent P "__builtins__" 171 (.ref 4), ent P "__file__" 173 (sv "/claim/cut.py" 172), ent P "__cached__" 174 .none, ent P "_wall" 193 (.ref 21), ent P "PART" 197 (.int 500 196), ent P "mask_item" 206 (.ref 28), ent P "read_masks" 219 (.ref 35), ent P "FIGURES" 223 (sv "0123456789" 222), ent P "HEX_SIGNS" 226 (sv "0123456789abcdefABCDEF" 225), ent P "OCTAL_SIGNS" 228 (sv "01234567" 227), ent P "MOST_FIGURES_source" 230 (.int 4000 229), ent P "PLAIN_ESCAPES" 252 (.ref 36), ent P "Position" 292 (.ref 60), ent P "position_of" 304 (.ref 71), ent P "ToolError" 342 (.ref 96), ent P "TableError" 358 (.ref 109), ent P "Cursor" 517 (.ref 236), ent P "hex_escape" 525 (.ref 247), ent P "escaped_sign" 534 (.ref 254)] 25, #[]⟩
noncomputable def o107 (P : Params) : Obj := ⟨.none, none, .fields #[.int 1 0, .int 0 0, .ref 20, .int 6 0, .int 0 0, .ref 27, .int 13 0, .int 0 0, .ref 34, .int 34 0, .int 0 0, .ref 42, .int 43 0, .int 0 0, .ref 70, .int 52 0, .int 0 0, .ref 77, .int 63 0, .int 0 0, .ref 105, .int 65 0, .int 0 0, .ref 117, .int 159 0, .int 0 0, .ref 246, .int 162 0, .int 0 0, .ref 253], #[]⟩
noncomputable def o108 (P : Params) : Obj := ⟨.type "tuple", none, .seq #[] 0, #[]⟩
noncomputable def o109 (P : Params) : Obj := ⟨.type "builtin_function_or_method", none, .fields #[.builtin "type.__prepare__", .type "type"], #[]⟩
noncomputable def o110 (P : Params) : Obj := ⟨.type "dict", none, .dict #[ent P "__module__" 366 (sv "grammarmill.source" 220), ent P "__qualname__" 368 (sv "Cursor" 367), ent P "__firstlineno__" 370 (.int 65 369), ent P "__init__" 380 (.ref 126), ent P "is_done" 387 (.ref 133), ent P "peek" 397 (.ref 141), ent P "starts" 405 (.ref 148), ent P "take" 413 (.ref 155), ent P "skip" 421 (.ref 162), ent P "take_while" 430 (.ref 169), ent P "take_line" 437 (.ref 176), ent P "skip_blanks" 446 (.ref 184), ent P "name" 453 (.ref 191), ent P "number" 462 (.ref 198), ent P "position" 469 (.ref 205), ent P "position_at" 477 (.ref 212), ent P "coded" 489 (.ref 219), ent P "escape" 497 (.ref 226), ent P "quoted" 507 (.ref 233), ent P "__static_attributes__" 510 (.ref 234)] 20, #[]⟩
noncomputable def o111 (P : Params) : Obj := ⟨.type "tuple", none, .seq #[] 0, #[]⟩
noncomputable def o112 (P : Params) : Obj := ⟨.none, none, .fields #[.int 67 0, .int 4 0, .ref 125, .int 71 0, .int 4 0, .ref 132, .int 74 0, .int 4 0, .ref 140, .int 80 0, .int 4 0, .ref 147, .int 83 0, .int 4 0, .ref 154, .int 90 0, .int 4 0, .ref 161, .int 96 0, .int 4 0, .ref 168, .int 102 0, .int 4 0, .ref 175, .int 105 0, .int 4 0, .ref 183, .int 108 0, .int 4 0, .ref 190, .int 111 0, .int 4 0, .ref 197, .int 119 0, .int 4 0, .ref 204, .int 122 0, .int 4 0, .ref 211, .int 125 0, .int 4 0, .ref 218, .int 133 0, .int 4 0, .ref 225, .int 147 0, .int 4 0, .ref 232], #[]⟩
noncomputable def o113 (P : Params) : Obj := ⟨.type "code", none, .fields #[(sv "Cursor" 361), (sv "Cursor" 362), (sv "/claim/cut.py" 363), .int 65 0, .int 0 0, .int 0 0, .int 0 0, .int 0 0, .ref 115, .bool false, .int 181 0, .ref 116, .none, .none, .none, .none, .int 364 0, .int 65 0, (sv "/claim/cut.py" 365)], #[]⟩
noncomputable def o114 (P : Params) : Obj := ⟨.type "frame", none, .plain, #[(some (.ref 117)), (some (.ref 3)), (some (.ref 114)), none, (some (sv "grammarmill.source" 220)), none, (some (.ref 0))]⟩
noncomputable def o115 (P : Params) : Obj := ⟨.type "tuple", none, .seq #[.int 0 371] 0, #[]⟩
noncomputable def o116 (P : Params) : Obj := ⟨.type "tuple", none, .seq #[] 0, #[]⟩
noncomputable def o117 (P : Params) : Obj := ⟨.none, none, .fields #[], #[]⟩
noncomputable def o118 (P : Params) : Obj := ⟨.type "tuple", none, .seq #[(sv "self" 375), (sv "text" 376), (sv "at" 377)] 0, #[]⟩
noncomputable def o119 (P : Params) : Obj := ⟨.type "tuple", none, .seq #[] 0, #[]⟩
noncomputable def o120 (P : Params) : Obj := ⟨.none, none, fg 0 "__init__" "Cursor.__init__" (mt 15 0) .none .none .none .none none .none .none, #[]⟩
noncomputable def o121 (P : Params) : Obj := ⟨.type "code", none, .fields #[(sv "__init__" 372), (sv "Cursor.__init__" 373), (sv "/claim/cut.py" 374), .int 67 0, .int 3 0, .int 0 0, .int 0 0, .int 3 0, .ref 120, .bool true, .int 181 0, .ref 121, .none, .ref 122, .ref 123, .ref 124, .int 378 0, .int 67 0, (sv "/claim/cut.py" 379)], #[]⟩
noncomputable def o122 (P : Params) : Obj := ⟨.type "function", none, fd "__init__" "Cursor.__init__" (mt 15 0) (.ref 119) .none .none (sv "grammarmill.source" 220) none (.ref 125) .none, #[]⟩
noncomputable def o123 (P : Params) : Obj := ⟨.type "tuple", none, .seq #[] 0, #[]⟩
noncomputable def o124 (P : Params) : Obj := ⟨.none, none, .fields #[], #[]⟩
noncomputable def o125 (P : Params) : Obj := ⟨.type "tuple", none, .seq #[(sv "self" 384)] 0, #[]⟩
noncomputable def o126 (P : Params) : Obj := ⟨.type "tuple", none, .seq #[] 0, #[]⟩
noncomputable def o127 (P : Params) : Obj := ⟨.none, none, fg 0 "is_done" "Cursor.is_done" (mt 15 1) .none .none .none .none none .none .none, #[]⟩
noncomputable def o128 (P : Params) : Obj := ⟨.type "code", none, .fields #[(sv "is_done" 381), (sv "Cursor.is_done" 382), (sv "/claim/cut.py" 383), .int 71 0, .int 1 0, .int 0 0, .int 0 0, .int 3 0, .ref 127, .bool true, .int 181 0, .ref 128, .none, .ref 129, .ref 130, .ref 131, .int 385 0, .int 71 0, (sv "/claim/cut.py" 386)], #[]⟩
noncomputable def o129 (P : Params) : Obj := ⟨.type "function", none, fd "is_done" "Cursor.is_done" (mt 15 1) .none .none .none (sv "grammarmill.source" 220) none (.ref 132) .none, #[]⟩
noncomputable def o130 (P : Params) : Obj := ⟨.type "tuple", none, .seq #[.int 0 388] 0, #[]⟩
noncomputable def o131 (P : Params) : Obj := ⟨.type "tuple", none, .seq #[] 0, #[]⟩
noncomputable def o132 (P : Params) : Obj := ⟨.none, none, .fields #[], #[]⟩
noncomputable def o133 (P : Params) : Obj := ⟨.type "tuple", none, .seq #[(sv "self" 392), (sv "ahead" 393), (sv "at" 394)] 0, #[]⟩
noncomputable def o134 (P : Params) : Obj := ⟨.type "tuple", none, .seq #[] 0, #[]⟩
noncomputable def o135 (P : Params) : Obj := ⟨.none, none, fg 0 "peek" "Cursor.peek" (mt 15 2) .none .none .none .none none .none .none, #[]⟩
noncomputable def o136 (P : Params) : Obj := ⟨.type "code", none, .fields #[(sv "peek" 389), (sv "Cursor.peek" 390), (sv "/claim/cut.py" 391), .int 74 0, .int 2 0, .int 0 0, .int 0 0, .int 3 0, .ref 135, .bool true, .int 181 0, .ref 136, .none, .ref 137, .ref 138, .ref 139, .int 395 0, .int 74 0, (sv "/claim/cut.py" 396)], #[]⟩
noncomputable def o137 (P : Params) : Obj := ⟨.type "function", none, fd "peek" "Cursor.peek" (mt 15 2) (.ref 134) .none .none (sv "grammarmill.source" 220) none (.ref 140) .none, #[]⟩
noncomputable def o138 (P : Params) : Obj := ⟨.type "tuple", none, .seq #[] 0, #[]⟩
noncomputable def o139 (P : Params) : Obj := ⟨.none, none, .fields #[], #[]⟩
noncomputable def o140 (P : Params) : Obj := ⟨.type "tuple", none, .seq #[(sv "self" 401), (sv "word" 402)] 0, #[]⟩
noncomputable def o141 (P : Params) : Obj := ⟨.type "tuple", none, .seq #[] 0, #[]⟩
noncomputable def o142 (P : Params) : Obj := ⟨.none, none, fg 0 "starts" "Cursor.starts" (mt 15 3) .none .none .none .none none .none .none, #[]⟩
noncomputable def o143 (P : Params) : Obj := ⟨.type "code", none, .fields #[(sv "starts" 398), (sv "Cursor.starts" 399), (sv "/claim/cut.py" 400), .int 80 0, .int 2 0, .int 0 0, .int 0 0, .int 3 0, .ref 142, .bool true, .int 181 0, .ref 143, .none, .ref 144, .ref 145, .ref 146, .int 403 0, .int 80 0, (sv "/claim/cut.py" 404)], #[]⟩
noncomputable def o144 (P : Params) : Obj := ⟨.type "function", none, fd "starts" "Cursor.starts" (mt 15 3) .none .none .none (sv "grammarmill.source" 220) none (.ref 147) .none, #[]⟩
noncomputable def o145 (P : Params) : Obj := ⟨.type "tuple", none, .seq #[] 0, #[]⟩
noncomputable def o146 (P : Params) : Obj := ⟨.none, none, .fields #[], #[]⟩
noncomputable def o147 (P : Params) : Obj := ⟨.type "tuple", none, .seq #[(sv "self" 409), (sv "sign" 410)] 0, #[]⟩
noncomputable def o148 (P : Params) : Obj := ⟨.type "tuple", none, .seq #[] 0, #[]⟩
noncomputable def o149 (P : Params) : Obj := ⟨.none, none, fg 0 "take" "Cursor.take" (mt 15 4) .none .none .none .none none .none .none, #[]⟩
noncomputable def o150 (P : Params) : Obj := ⟨.type "code", none, .fields #[(sv "take" 406), (sv "Cursor.take" 407), (sv "/claim/cut.py" 408), .int 83 0, .int 1 0, .int 0 0, .int 0 0, .int 3 0, .ref 149, .bool true, .int 181 0, .ref 150, .none, .ref 151, .ref 152, .ref 153, .int 411 0, .int 83 0, (sv "/claim/cut.py" 412)], #[]⟩
noncomputable def o151 (P : Params) : Obj := ⟨.type "function", none, fd "take" "Cursor.take" (mt 15 4) .none .none .none (sv "grammarmill.source" 220) none (.ref 154) .none, #[]⟩
noncomputable def o152 (P : Params) : Obj := ⟨.type "tuple", none, .seq #[] 0, #[]⟩
noncomputable def o153 (P : Params) : Obj := ⟨.none, none, .fields #[], #[]⟩
noncomputable def o154 (P : Params) : Obj := ⟨.type "tuple", none, .seq #[(sv "self" 417), (sv "word" 418)] 0, #[]⟩
noncomputable def o155 (P : Params) : Obj := ⟨.type "tuple", none, .seq #[] 0, #[]⟩
noncomputable def o156 (P : Params) : Obj := ⟨.none, none, fg 0 "skip" "Cursor.skip" (mt 15 5) .none .none .none .none none .none .none, #[]⟩
noncomputable def o157 (P : Params) : Obj := ⟨.type "code", none, .fields #[(sv "skip" 414), (sv "Cursor.skip" 415), (sv "/claim/cut.py" 416), .int 90 0, .int 2 0, .int 0 0, .int 0 0, .int 3 0, .ref 156, .bool true, .int 181 0, .ref 157, .none, .ref 158, .ref 159, .ref 160, .int 419 0, .int 90 0, (sv "/claim/cut.py" 420)], #[]⟩
noncomputable def o158 (P : Params) : Obj := ⟨.type "function", none, fd "skip" "Cursor.skip" (mt 15 5) .none .none .none (sv "grammarmill.source" 220) none (.ref 161) .none, #[]⟩
noncomputable def o159 (P : Params) : Obj := ⟨.type "tuple", none, .seq #[] 0, #[]⟩
noncomputable def o160 (P : Params) : Obj := ⟨.none, none, .fields #[], #[]⟩
noncomputable def o161 (P : Params) : Obj := ⟨.type "tuple", none, .seq #[(sv "self" 425), (sv "signs" 426), (sv "begun" 427)] 0, #[]⟩
noncomputable def o162 (P : Params) : Obj := ⟨.type "tuple", none, .seq #[] 0, #[]⟩
noncomputable def o163 (P : Params) : Obj := ⟨.none, none, fg 0 "take_while" "Cursor.take_while" (mt 15 6) .none .none .none .none none .none .none, #[]⟩
noncomputable def o164 (P : Params) : Obj := ⟨.type "code", none, .fields #[(sv "take_while" 422), (sv "Cursor.take_while" 423), (sv "/claim/cut.py" 424), .int 96 0, .int 2 0, .int 0 0, .int 0 0, .int 3 0, .ref 163, .bool true, .int 181 0, .ref 164, .none, .ref 165, .ref 166, .ref 167, .int 428 0, .int 96 0, (sv "/claim/cut.py" 429)], #[]⟩
noncomputable def o165 (P : Params) : Obj := ⟨.type "function", none, fd "take_while" "Cursor.take_while" (mt 15 6) .none .none .none (sv "grammarmill.source" 220) none (.ref 168) .none, #[]⟩
noncomputable def o166 (P : Params) : Obj := ⟨.type "tuple", none, .seq #[] 0, #[]⟩
noncomputable def o167 (P : Params) : Obj := ⟨.none, none, .fields #[], #[]⟩
noncomputable def o168 (P : Params) : Obj := ⟨.type "tuple", none, .seq #[(sv "self" 434)] 0, #[]⟩
noncomputable def o169 (P : Params) : Obj := ⟨.type "tuple", none, .seq #[] 0, #[]⟩
noncomputable def o170 (P : Params) : Obj := ⟨.none, none, fg 0 "take_line" "Cursor.take_line" (mt 15 7) .none .none .none .none none .none .none, #[]⟩
noncomputable def o171 (P : Params) : Obj := ⟨.type "code", none, .fields #[(sv "take_line" 431), (sv "Cursor.take_line" 432), (sv "/claim/cut.py" 433), .int 102 0, .int 1 0, .int 0 0, .int 0 0, .int 3 0, .ref 170, .bool true, .int 181 0, .ref 171, .none, .ref 172, .ref 173, .ref 174, .int 435 0, .int 102 0, (sv "/claim/cut.py" 436)], #[]⟩
noncomputable def o172 (P : Params) : Obj := ⟨.type "function", none, fd "take_line" "Cursor.take_line" (mt 15 7) .none .none .none (sv "grammarmill.source" 220) none (.ref 175) .none, #[]⟩
noncomputable def o173 (P : Params) : Obj := ⟨.type "tuple", none, .seq #[(sv " \t" 438)] 0, #[]⟩
noncomputable def o174 (P : Params) : Obj := ⟨.type "tuple", none, .seq #[] 0, #[]⟩
noncomputable def o175 (P : Params) : Obj := ⟨.none, none, .fields #[], #[]⟩
noncomputable def o176 (P : Params) : Obj := ⟨.type "tuple", none, .seq #[(sv "self" 442), (sv "signs" 443)] 0, #[]⟩
noncomputable def o177 (P : Params) : Obj := ⟨.type "tuple", none, .seq #[] 0, #[]⟩
noncomputable def o178 (P : Params) : Obj := ⟨.none, none, fg 0 "skip_blanks" "Cursor.skip_blanks" (mt 15 8) .none .none .none .none none .none .none, #[]⟩
noncomputable def o179 (P : Params) : Obj := ⟨.type "code", none, .fields #[(sv "skip_blanks" 439), (sv "Cursor.skip_blanks" 440), (sv "/claim/cut.py" 441), .int 105 0, .int 2 0, .int 0 0, .int 0 0, .int 3 0, .ref 178, .bool true, .int 181 0, .ref 179, .none, .ref 180, .ref 181, .ref 182, .int 444 0, .int 105 0, (sv "/claim/cut.py" 445)], #[]⟩
noncomputable def o180 (P : Params) : Obj := ⟨.type "function", none, fd "skip_blanks" "Cursor.skip_blanks" (mt 15 8) (.ref 177) .none .none (sv "grammarmill.source" 220) none (.ref 183) .none, #[]⟩
noncomputable def o181 (P : Params) : Obj := ⟨.type "tuple", none, .seq #[] 0, #[]⟩
noncomputable def o182 (P : Params) : Obj := ⟨.none, none, .fields #[], #[]⟩
noncomputable def o183 (P : Params) : Obj := ⟨.type "tuple", none, .seq #[(sv "self" 450)] 0, #[]⟩
noncomputable def o184 (P : Params) : Obj := ⟨.type "tuple", none, .seq #[] 0, #[]⟩
noncomputable def o185 (P : Params) : Obj := ⟨.none, none, fg 0 "name" "Cursor.name" (mt 15 9) .none .none .none .none none .none .none, #[]⟩
noncomputable def o186 (P : Params) : Obj := ⟨.type "code", none, .fields #[(sv "name" 447), (sv "Cursor.name" 448), (sv "/claim/cut.py" 449), .int 108 0, .int 1 0, .int 0 0, .int 0 0, .int 3 0, .ref 185, .bool true, .int 181 0, .ref 186, .none, .ref 187, .ref 188, .ref 189, .int 451 0, .int 108 0, (sv "/claim/cut.py" 452)], #[]⟩
noncomputable def o187 (P : Params) : Obj := ⟨.type "function", none, fd "name" "Cursor.name" (mt 15 9) .none .none .none (sv "grammarmill.source" 220) none (.ref 190) .none, #[]⟩
noncomputable def o188 (P : Params) : Obj := ⟨.type "tuple", none, .seq #[] 0, #[]⟩
noncomputable def o189 (P : Params) : Obj := ⟨.none, none, .fields #[], #[]⟩
noncomputable def o190 (P : Params) : Obj := ⟨.type "tuple", none, .seq #[(sv "self" 457), (sv "begun" 458), (sv "figures" 459)] 0, #[]⟩
noncomputable def o191 (P : Params) : Obj := ⟨.type "tuple", none, .seq #[] 0, #[]⟩
noncomputable def o192 (P : Params) : Obj := ⟨.none, none, fg 0 "number" "Cursor.number" (mt 15 10) .none .none .none .none none .none .none, #[]⟩
noncomputable def o193 (P : Params) : Obj := ⟨.type "code", none, .fields #[(sv "number" 454), (sv "Cursor.number" 455), (sv "/claim/cut.py" 456), .int 111 0, .int 1 0, .int 0 0, .int 0 0, .int 3 0, .ref 192, .bool true, .int 181 0, .ref 193, .none, .ref 194, .ref 195, .ref 196, .int 460 0, .int 111 0, (sv "/claim/cut.py" 461)], #[]⟩
noncomputable def o194 (P : Params) : Obj := ⟨.type "function", none, fd "number" "Cursor.number" (mt 15 10) .none .none .none (sv "grammarmill.source" 220) none (.ref 197) .none, #[]⟩
noncomputable def o195 (P : Params) : Obj := ⟨.type "tuple", none, .seq #[] 0, #[]⟩
noncomputable def o196 (P : Params) : Obj := ⟨.none, none, .fields #[], #[]⟩
noncomputable def o197 (P : Params) : Obj := ⟨.type "tuple", none, .seq #[(sv "self" 466)] 0, #[]⟩
noncomputable def o198 (P : Params) : Obj := ⟨.type "tuple", none, .seq #[] 0, #[]⟩
noncomputable def o199 (P : Params) : Obj := ⟨.none, none, fg 0 "position" "Cursor.position" (mt 15 11) .none .none .none .none none .none .none, #[]⟩
noncomputable def o200 (P : Params) : Obj := ⟨.type "code", none, .fields #[(sv "position" 463), (sv "Cursor.position" 464), (sv "/claim/cut.py" 465), .int 119 0, .int 1 0, .int 0 0, .int 0 0, .int 3 0, .ref 199, .bool true, .int 181 0, .ref 200, .none, .ref 201, .ref 202, .ref 203, .int 467 0, .int 119 0, (sv "/claim/cut.py" 468)], #[]⟩
noncomputable def o201 (P : Params) : Obj := ⟨.type "function", none, fd "position" "Cursor.position" (mt 15 11) .none .none .none (sv "grammarmill.source" 220) none (.ref 204) .none, #[]⟩
noncomputable def o202 (P : Params) : Obj := ⟨.type "tuple", none, .seq #[] 0, #[]⟩
noncomputable def o203 (P : Params) : Obj := ⟨.none, none, .fields #[], #[]⟩
noncomputable def o204 (P : Params) : Obj := ⟨.type "tuple", none, .seq #[(sv "self" 473), (sv "offset" 474)] 0, #[]⟩
noncomputable def o205 (P : Params) : Obj := ⟨.type "tuple", none, .seq #[] 0, #[]⟩
noncomputable def o206 (P : Params) : Obj := ⟨.none, none, fg 0 "position_at" "Cursor.position_at" (mt 15 12) .none .none .none .none none .none .none, #[]⟩
noncomputable def o207 (P : Params) : Obj := ⟨.type "code", none, .fields #[(sv "position_at" 470), (sv "Cursor.position_at" 471), (sv "/claim/cut.py" 472), .int 122 0, .int 2 0, .int 0 0, .int 0 0, .int 3 0, .ref 206, .bool true, .int 181 0, .ref 207, .none, .ref 208, .ref 209, .ref 210, .int 475 0, .int 122 0, (sv "/claim/cut.py" 476)], #[]⟩
noncomputable def o208 (P : Params) : Obj := ⟨.type "function", none, fd "position_at" "Cursor.position_at" (mt 15 12) .none .none .none (sv "grammarmill.source" 220) none (.ref 211) .none, #[]⟩
noncomputable def o209 (P : Params) : Obj := ⟨.type "tuple", none, .seq #[] 0, #[]⟩
noncomputable def o210 (P : Params) : Obj := ⟨.none, none, .fields #[], #[]⟩
noncomputable def o211 (P : Params) : Obj := ⟨.type "tuple", none, .seq #[(sv "self" 481), (sv "signs" 482), (sv "most" 483), (sv "base" 484), (sv "code" 485), (sv "taken" 486)] 0, #[]⟩
noncomputable def o212 (P : Params) : Obj := ⟨.type "tuple", none, .seq #[] 0, #[]⟩
noncomputable def o213 (P : Params) : Obj := ⟨.none, none, fg 0 "coded" "Cursor.coded" (mt 15 13) .none .none .none .none none .none .none, #[]⟩
noncomputable def o214 (P : Params) : Obj := ⟨.type "code", none, .fields #[(sv "coded" 478), (sv "Cursor.coded" 479), (sv "/claim/cut.py" 480), .int 125 0, .int 4 0, .int 0 0, .int 0 0, .int 3 0, .ref 213, .bool true, .int 181 0, .ref 214, .none, .ref 215, .ref 216, .ref 217, .int 487 0, .int 125 0, (sv "/claim/cut.py" 488)], #[]⟩
noncomputable def o215 (P : Params) : Obj := ⟨.type "function", none, fd "coded" "Cursor.coded" (mt 15 13) .none .none .none (sv "grammarmill.source" 220) none (.ref 218) .none, #[]⟩
noncomputable def o216 (P : Params) : Obj := ⟨.type "tuple", none, .seq #[] 0, #[]⟩
noncomputable def o217 (P : Params) : Obj := ⟨.none, none, .fields #[], #[]⟩
noncomputable def o218 (P : Params) : Obj := ⟨.type "tuple", none, .seq #[(sv "self" 493), (sv "sign" 494)] 0, #[]⟩
noncomputable def o219 (P : Params) : Obj := ⟨.type "tuple", none, .seq #[] 0, #[]⟩
noncomputable def o220 (P : Params) : Obj := ⟨.none, none, fg 0 "escape" "Cursor.escape" (mt 15 14) .none .none .none .none none .none .none, #[]⟩
noncomputable def o221 (P : Params) : Obj := ⟨.type "code", none, .fields #[(sv "escape" 490), (sv "Cursor.escape" 491), (sv "/claim/cut.py" 492), .int 133 0, .int 1 0, .int 0 0, .int 0 0, .int 3 0, .ref 220, .bool true, .int 181 0, .ref 221, .none, .ref 222, .ref 223, .ref 224, .int 495 0, .int 133 0, (sv "/claim/cut.py" 496)], #[]⟩
noncomputable def o222 (P : Params) : Obj := ⟨.type "function", none, fd "escape" "Cursor.escape" (mt 15 14) .none .none .none (sv "grammarmill.source" 220) none (.ref 225) .none, #[]⟩
noncomputable def o223 (P : Params) : Obj := ⟨.type "tuple", none, .seq #[] 0, #[]⟩
noncomputable def o224 (P : Params) : Obj := ⟨.none, none, .fields #[], #[]⟩
noncomputable def o225 (P : Params) : Obj := ⟨.type "tuple", none, .seq #[(sv "self" 501), (sv "end" 502), (sv "signs" 503), (sv "sign" 504)] 0, #[]⟩
noncomputable def o226 (P : Params) : Obj := ⟨.type "tuple", none, .seq #[] 0, #[]⟩
noncomputable def o227 (P : Params) : Obj := ⟨.none, none, fg 0 "quoted" "Cursor.quoted" (mt 15 15) .none .none .none .none none .none .none, #[]⟩
noncomputable def o228 (P : Params) : Obj := ⟨.type "code", none, .fields #[(sv "quoted" 498), (sv "Cursor.quoted" 499), (sv "/claim/cut.py" 500), .int 147 0, .int 2 0, .int 0 0, .int 0 0, .int 3 0, .ref 227, .bool true, .int 181 0, .ref 228, .none, .ref 229, .ref 230, .ref 231, .int 505 0, .int 147 0, (sv "/claim/cut.py" 506)], #[]⟩
noncomputable def o229 (P : Params) : Obj := ⟨.type "function", none, fd "quoted" "Cursor.quoted" (mt 15 15) .none .none .none (sv "grammarmill.source" 220) none (.ref 232) .none, #[]⟩
noncomputable def o230 (P : Params) : Obj := ⟨.type "tuple", none, .seq #[(sv "at" 508), (sv "text" 509)] 0, #[]⟩
noncomputable def o231 (P : Params) : Obj := ⟨.type "dict", none, .dict #[ent P "__module__" 366 (sv "grammarmill.source" 220), ent P "__firstlineno__" 370 (.int 65 369), ent P "__init__" 380 (.ref 126), ent P "is_done" 387 (.ref 133), ent P "peek" 397 (.ref 141), ent P "starts" 405 (.ref 148), ent P "take" 413 (.ref 155), ent P "skip" 421 (.ref 162), ent P "take_while" 430 (.ref 169), ent P "take_line" 437 (.ref 176), ent P "skip_blanks" 446 (.ref 184), ent P "name" 453 (.ref 191), ent P "number" 462 (.ref 198), ent P "position" 469 (.ref 205), ent P "position_at" 477 (.ref 212), ent P "coded" 489 (.ref 219), ent P "escape" 497 (.ref 226), ent P "quoted" 507 (.ref 233), ent P "__static_attributes__" 510 (.ref 234), ent P "__dict__" 512 (.ref 237), ent P "__weakref__" 514 (.ref 238), ent P "__doc__" 515 .none] 4, #[]⟩
noncomputable def o232 (P : Params) : Obj := ⟨.type "type", none, .cls ⟨"Cursor", [.type "object"], [.ref 236, .type "object"], 235, "Cursor", true, [], [], false, none, false⟩, #[none, none, (some (sv "Cursor" 359)), (some (sv "Cursor" 367)), (some (.builtin "object.__new__")), (some (.bool true))]⟩
noncomputable def o233 (P : Params) : Obj := ⟨.type "getset_descriptor", none, .fields #[(sv "__dict__" 511), .ref 236, .builtin "function.__dict__", .builtin "function.__dict__#set"], #[]⟩
noncomputable def o234 (P : Params) : Obj := ⟨.type "getset_descriptor", none, .fields #[(sv "__weakref__" 513), .ref 236, .builtin "ExceptionGroup.__weakref__", .none], #[]⟩
noncomputable def o235 (P : Params) : Obj := ⟨.type "super", none, .fields #[.ref 236, .ref 236, .ref 236], #[]⟩
noncomputable def o236 (P : Params) : Obj := ⟨.type "builtin_function_or_method", none, .fields #[.builtin "object.__init_subclass__", .ref 236], #[]⟩
noncomputable def o237 (P : Params) : Obj := ⟨.type "tuple", none, .seq #[] 0, #[]⟩
noncomputable def o238 (P : Params) : Obj := ⟨.none, none, .fields #[], #[]⟩
noncomputable def o239 (P : Params) : Obj := ⟨.type "tuple", none, .seq #[(sv "code" 521), (sv "figures" 522)] 0, #[]⟩
noncomputable def o240 (P : Params) : Obj := ⟨.type "tuple", none, .seq #[] 0, #[]⟩
noncomputable def o241 (P : Params) : Obj := ⟨.none, none, fg 0 "hex_escape" "hex_escape" (st 16) .none .none .none .none none .none .none, #[]⟩
noncomputable def o242 (P : Params) : Obj := ⟨.type "code", none, .fields #[(sv "hex_escape" 518), (sv "hex_escape" 519), (sv "/claim/cut.py" 520), .int 159 0, .int 1 0, .int 0 0, .int 0 0, .int 3 0, .ref 241, .bool true, .int 181 0, .ref 242, .none, .ref 243, .ref 244, .ref 245, .int 523 0, .int 159 0, (sv "/claim/cut.py" 524)], #[]⟩
noncomputable def o243 (P : Params) : Obj := ⟨.type "function", none, fd "hex_escape" "hex_escape" (st 16) .none .none .none (sv "grammarmill.source" 220) none (.ref 246) .none, #[]⟩
noncomputable def o244 (P : Params) : Obj := ⟨.type "tuple", none, .seq #[] 0, #[]⟩
noncomputable def o245 (P : Params) : Obj := ⟨.none, none, .fields #[], #[]⟩
noncomputable def o246 (P : Params) : Obj := ⟨.type "tuple", none, .seq #[(sv "sign" 529), (sv "marks" 530), (sv "code" 531)] 0, #[]⟩
noncomputable def o247 (P : Params) : Obj := ⟨.type "tuple", none, .seq #[] 0, #[]⟩
noncomputable def o248 (P : Params) : Obj := ⟨.none, none, fg 0 "escaped_sign" "escaped_sign" (st 17) .none .none .none .none none .none .none, #[]⟩
noncomputable def o249 (P : Params) : Obj := ⟨.type "code", none, .fields #[(sv "escaped_sign" 526), (sv "escaped_sign" 527), (sv "/claim/cut.py" 528), .int 162 0, .int 2 0, .int 0 0, .int 0 0, .int 3 0, .ref 248, .bool true, .int 181 0, .ref 249, .none, .ref 250, .ref 251, .ref 252, .int 532 0, .int 162 0, (sv "/claim/cut.py" 533)], #[]⟩
noncomputable def o250 (P : Params) : Obj := ⟨.type "function", none, fd "escaped_sign" "escaped_sign" (st 17) .none .none .none (sv "grammarmill.source" 220) none (.ref 253) .none, #[]⟩
noncomputable def s3t (P : Params) : BT := nd (boot_o_0 P) (nd (boot_o_1 P) (nd (o106 P) (nd (boot_o_7 P) (nd (o6 P) (nd (o22 P) (nd (o54 P) (nd (o123 P) .nil .nil) (nd (o187 P) .nil .nil)) (nd (o89 P) (nd (o155 P) .nil .nil) (nd (o219 P) .nil .nil))) (nd (o38 P) (nd (o73 P) (nd (o139 P) .nil .nil) (nd (o203 P) .nil .nil)) (nd (o105 P) (nd (o171 P) .nil .nil) (nd (o235 P) .nil .nil)))) (nd (o14 P) (nd (o30 P) (nd (o62 P) (nd (o131 P) .nil .nil) (nd (o195 P) .nil .nil)) (nd (o97 P) (nd (o163 P) .nil .nil) (nd (o227 P) .nil .nil))) (nd (o46 P) (nd (o81 P) (nd (o147 P) .nil .nil) (nd (o211 P) .nil .nil)) (nd (o115 P) (nd (o179 P) .nil .nil) (nd (o243 P) .nil .nil))))) (nd (o0 P) (nd (o10 P) (nd (o26 P) (nd (o58 P) (nd (o127 P) .nil .nil) (nd (o191 P) .nil .nil)) (nd (o93 P) (nd (o159 P) .nil .nil) (nd (o223 P) .nil .nil))) (nd (o42 P) (nd (o77 P) (nd (o143 P) .nil .nil) (nd (o207 P) .nil .nil)) (nd (o111 P) (nd (o175 P) .nil .nil) (nd (o239 P) .nil .nil)))) (nd (o18 P) (nd (o34 P) (nd (o69 P) (nd (o135 P) .nil .nil) (nd (o199 P) .nil .nil)) (nd (o101 P) (nd (o167 P) .nil .nil) (nd (o231 P) .nil .nil))) (nd (o50 P) (nd (o85 P) (nd (o151 P) .nil .nil) (nd (o215 P) .nil .nil)) (nd (o119 P) (nd (o183 P) .nil .nil) (nd (o247 P) .nil .nil)))))) (nd (boot_o_5 P) (nd (boot_o_9 P) (nd (o8 P) (nd (o24 P) (nd (o56 P) (nd (o125 P) .nil .nil) (nd (o189 P) .nil .nil)) (nd (o91 P) (nd (o157 P) .nil .nil) (nd (o221 P) .nil .nil))) (nd (o40 P) (nd (o75 P) (nd (o141 P) .nil .nil) (nd (o205 P) .nil .nil)) (nd (o109 P) (nd (o173 P) .nil .nil) (nd (o237 P) .nil .nil)))) (nd (o16 P) (nd (o32 P) (nd (o67 P) (nd (o133 P) .nil .nil) (nd (o197 P) .nil .nil)) (nd (o99 P) (nd (o165 P) .nil .nil) (nd (o229 P) .nil .nil))) (nd (o48 P) (nd (o83 P) (nd (o149 P) .nil .nil) (nd (o213 P) .nil .nil)) (nd (o117 P) (nd (o181 P) .nil .nil) (nd (o245 P) .nil .nil))))) (nd (o2 P) (nd (o12 P) (nd (o28 P) (nd (o60 P) (nd (o129 P) .nil .nil) (nd (o193 P) .nil .nil)) (nd (o95 P) (nd (o161 P) .nil .nil) (nd (o225 P) .nil .nil))) (nd (o44 P) (nd (o79 P) (nd (o145 P) .nil .nil) (nd (o209 P) .nil .nil)) (nd (o113 P) (nd (o177 P) .nil .nil) (nd (o241 P) .nil .nil)))) (nd (o20 P) (nd (o36 P) (nd (o71 P) (nd (o137 P) .nil .nil) (nd (o201 P) .nil .nil)) (nd (o103 P) (nd (o169 P) .nil .nil) (nd (o233 P) .nil .nil))) (nd (o52 P) (nd (o87 P) (nd (o153 P) .nil .nil) (nd (o217 P) .nil .nil)) (nd (o121 P) (nd (o185 P) .nil .nil) (nd (o249 P) .nil .nil))))))) (nd (o63 P) (nd (boot_o_4 P) (nd (boot_o_8 P) (nd (o7 P) (nd (o23 P) (nd (o55 P) (nd (o124 P) .nil .nil) (nd (o188 P) .nil .nil)) (nd (o90 P) (nd (o156 P) .nil .nil) (nd (o220 P) .nil .nil))) (nd (o39 P) (nd (o74 P) (nd (o140 P) .nil .nil) (nd (o204 P) .nil .nil)) (nd (o108 P) (nd (o172 P) .nil .nil) (nd (o236 P) .nil .nil)))) (nd (o15 P) (nd (o31 P) (nd (o66 P) (nd (o132 P) .nil .nil) (nd (o196 P) .nil .nil)) (nd (o98 P) (nd (o164 P) .nil .nil) (nd (o228 P) .nil .nil))) (nd (o47 P) (nd (o82 P) (nd (o148 P) .nil .nil) (nd (o212 P) .nil .nil)) (nd (o116 P) (nd (o180 P) .nil .nil) (nd (o244 P) .nil .nil))))) (nd (o107 P) (nd (o11 P) (nd (o27 P) (nd (o59 P) (nd (o128 P) .nil .nil) (nd (o192 P) .nil .nil)) (nd (o94 P) (nd (o160 P) .nil .nil) (nd (o224 P) .nil .nil))) (nd (o43 P) (nd (o78 P) (nd (o144 P) .nil .nil) (nd (o208 P) .nil .nil)) (nd (o112 P) (nd (o176 P) .nil .nil) (nd (o240 P) .nil .nil)))) (nd (o19 P) (nd (o35 P) (nd (o70 P) (nd (o136 P) .nil .nil) (nd (o200 P) .nil .nil)) (nd (o102 P) (nd (o168 P) .nil .nil) (nd (o232 P) .nil .nil))) (nd (o51 P) (nd (o86 P) (nd (o152 P) .nil .nil) (nd (o216 P) .nil .nil)) (nd (o120 P) (nd (o184 P) .nil .nil) (nd (o248 P) .nil .nil)))))) (nd (boot_o_6 P) (nd (boot_o_10 P) (nd (o9 P) (nd (o25 P) (nd (o57 P) (nd (o126 P) .nil .nil) (nd (o190 P) .nil .nil)) (nd (o92 P) (nd (o158 P) .nil .nil) (nd (o222 P) .nil .nil))) (nd (o41 P) (nd (o76 P) (nd (o142 P) .nil .nil) (nd (o206 P) .nil .nil)) (nd (o110 P) (nd (o174 P) .nil .nil) (nd (o238 P) .nil .nil)))) (nd (o17 P) (nd (o33 P) (nd (o68 P) (nd (o134 P) .nil .nil) (nd (o198 P) .nil .nil)) (nd (o100 P) (nd (o166 P) .nil .nil) (nd (o230 P) .nil .nil))) (nd (o49 P) (nd (o84 P) (nd (o150 P) .nil .nil) (nd (o214 P) .nil .nil)) (nd (o118 P) (nd (o182 P) .nil .nil) (nd (o246 P) .nil .nil))))) (nd (o3 P) (nd (o13 P) (nd (o29 P) (nd (o61 P) (nd (o130 P) .nil .nil) (nd (o194 P) .nil .nil)) (nd (o96 P) (nd (o162 P) .nil .nil) (nd (o226 P) .nil .nil))) (nd (o45 P) (nd (o80 P) (nd (o146 P) .nil .nil) (nd (o210 P) .nil .nil)) (nd (o114 P) (nd (o178 P) .nil .nil) (nd (o242 P) .nil .nil)))) (nd (o21 P) (nd (o37 P) (nd (o72 P) (nd (o138 P) .nil .nil) (nd (o202 P) .nil .nil)) (nd (o104 P) (nd (o170 P) .nil .nil) (nd (o234 P) .nil .nil))) (nd (o53 P) (nd (o88 P) (nd (o154 P) .nil .nil) (nd (o218 P) .nil .nil)) (nd (o122 P) (nd (o186 P) .nil .nil) (nd (o250 P) .nil .nil)))))))
noncomputable def s3 (w : World) (os : OsState) : SharedT := ⟨s3t w.params, 255, { }, (Array.mk []), { }, 535, os⟩
noncomputable abbrev l3 : List Stmt := (body0.drop 15).take 3
theorem p3 (w : World) (os : OsState) : segRunT treeTable pw w m0 ann0 1 777 (s2 w os) (piecesOf l3 env0 cd0 ⟨63, 0, 64, 8⟩ [topFrame fp0]) = some (.next, s3 w os, cd0, ⟨162, 0, 174, 15⟩) := by ((try rw [PySem.W.Fast.te15667345088766844465]); (try rw [PySem.W.Fast.te14374325043358763698]); (try rw [PySem.W.Fast.te10110043849684766642]); (try rw [PySem.W.Fast.te14082659384304107361]); (try rw [PySem.W.Fast.te11892475500146522536]); (try rw [PySem.W.Fast.te14364793385576792824]); kernel_rfl)
noncomputable def o251 (P : Params) : Obj := ⟨.type "dict", none, .dict #[ent P "__name__" 165 (sv "grammarmill.lines" 541), ent P "__doc__" 166 .none, ent P "__package__" 167 .none, ent P "__loader__" 168 (.builtin "__main__.__loader__#opaque"), ent P "__spec__" 169 .none, ent P "__annotations__" 170 (.ref 6), ent P "__builtins__" 171 (.ref 4), ent P "__file__" 173 (sv "/claim/cut.py" 172), ent P "__cached__" 174 .none, ent P "_wall" 193 (.ref 21), ent P "PART" 197 (.int 500 196), ent P "mask_item" 206 (.ref 28), ent P "read_masks" 219 (.ref 35), ent P "FIGURES" 223 (sv "0123456789" 222), ent P "HEX_SIGNS" 226 (sv "0123456789abcdefABCDEF" 225), ent P "OCTAL_SIGNS" 228 (sv "01234567" 227), ent P "MOST_FIGURES_source" 230 (.int 4000 229), ent P "PLAIN_ESCAPES" 252 (.ref 36), ent P "Position" 292 (.ref 60), ent P "position_of" 304 (.ref 71), ent P "ToolError" 342 (.ref 96), ent P "TableError" 358 (.ref 109), ent P "Cursor" 517 (.ref 236), ent P "hex_escape" 525 (.ref 247), ent P "escaped_sign" 534 (.ref 254), ent P "escaped" 540 (.ref 259), ent P "MOST_DEPTH" 544 (.int 2 543), ent P "MOST_FIGURES_lines" 546 (.int 160 545), ent P "show_item" 552 (.ref 264), ent P "LineWriter" 594 (.ref 293)] 30, #[]⟩
noncomputable def o252 (P : Params) : Obj := ⟨.none, none, .fields #[.int 1 0, .int 0 0, .ref 20, .int 6 0, .int 0 0, .ref 27, .int 13 0, .int 0 0, .ref 34, .int 34 0, .int 0 0, .ref 42, .int 43 0, .int 0 0, .ref 70, .int 52 0, .int 0 0, .ref 77, .int 63 0, .int 0 0, .ref 105, .int 65 0, .int 0 0, .ref 117, .int 159 0, .int 0 0, .ref 246, .int 162 0, .int 0 0, .ref 253, .int 175 0, .int 0 0, .ref 258, .int 180 0, .int 0 0, .ref 263, .int 188 0, .int 0 0, .ref 270], #[]⟩
noncomputable def o253 (P : Params) : Obj := ⟨.type "tuple", none, .seq #[] 0, #[]⟩
noncomputable def o254 (P : Params) : Obj := ⟨.none, none, .fields #[], #[]⟩
noncomputable def o255 (P : Params) : Obj := ⟨.none, none, fg 0 "escaped" "escaped" (st 18) .none .none .none .none none .none .none, #[]⟩
noncomputable def o256 (P : Params) : Obj := ⟨.type "code", none, .fields #[(sv "escaped" 535), (sv "escaped" 536), (sv "/claim/cut.py" 537), .int 175 0, .int 2 0, .int 0 0, .int 0 0, .int 3 0, .ref 255, .bool true, .int 181 0, .ref 256, .none, .none, .none, .ref 257, .int 538 0, .int 175 0, (sv "/claim/cut.py" 539)], #[]⟩
noncomputable def o257 (P : Params) : Obj := ⟨.type "function", none, fd "escaped" "escaped" (st 18) .none .none .none (sv "grammarmill.source" 220) none (.ref 258) .none, #[]⟩
noncomputable def o258 (P : Params) : Obj := ⟨.type "tuple", none, .seq #[] 0, #[]⟩
noncomputable def o259 (P : Params) : Obj := ⟨.none, none, .fields #[], #[]⟩
noncomputable def o260 (P : Params) : Obj := ⟨.none, none, fg 0 "show_item" "show_item" (st 22) .none .none .none .none none .none .none, #[]⟩
noncomputable def o261 (P : Params) : Obj := ⟨.type "code", none, .fields #[(sv "show_item" 547), (sv "show_item" 548), (sv "/claim/cut.py" 549), .int 180 0, .int 1 0, .int 0 0, .int 0 0, .int 3 0, .ref 260, .bool true, .int 181 0, .ref 261, .none, .none, .none, .ref 262, .int 550 0, .int 180 0, (sv "/claim/cut.py" 551)], #[]⟩
noncomputable def o262 (P : Params) : Obj := ⟨.type "function", none, fd "show_item" "show_item" (st 22) .none .none .none (sv "grammarmill.lines" 541) none (.ref 263) .none, #[]⟩
noncomputable def o263 (P : Params) : Obj := ⟨.type "tuple", none, .seq #[] 0, #[]⟩
noncomputable def o264 (P : Params) : Obj := ⟨.type "builtin_function_or_method", none, .fields #[.builtin "type.__prepare__", .type "type"], #[]⟩
noncomputable def o265 (P : Params) : Obj := ⟨.type "dict", none, .dict #[ent P "__module__" 560 (sv "grammarmill.lines" 541), ent P "__qualname__" 562 (sv "LineWriter" 561), ent P "__firstlineno__" 564 (.int 188 563), ent P "__init__" 572 (.ref 278), ent P "add" 578 (.ref 283), ent P "text" 585 (.ref 290), ent P "__static_attributes__" 587 (.ref 291)] 7, #[]⟩
noncomputable def o266 (P : Params) : Obj := ⟨.type "tuple", none, .seq #[] 0, #[]⟩
noncomputable def o267 (P : Params) : Obj := ⟨.none, none, .fields #[.int 190 0, .int 4 0, .ref 277, .int 193 0, .int 4 0, .ref 282, .int 196 0, .int 4 0, .ref 289], #[]⟩
noncomputable def o268 (P : Params) : Obj := ⟨.type "code", none, .fields #[(sv "LineWriter" 555), (sv "LineWriter" 556), (sv "/claim/cut.py" 557), .int 188 0, .int 0 0, .int 0 0, .int 0 0, .int 0 0, .ref 268, .bool false, .int 181 0, .ref 269, .none, .none, .none, .none, .int 558 0, .int 188 0, (sv "/claim/cut.py" 559)], #[]⟩
noncomputable def o269 (P : Params) : Obj := ⟨.type "frame", none, .plain, #[(some (.ref 270)), (some (.ref 3)), (some (.ref 267)), none, (some (sv "grammarmill.lines" 541)), none, (some (.ref 0))]⟩
noncomputable def o270 (P : Params) : Obj := ⟨.type "tuple", none, .seq #[] 0, #[]⟩
noncomputable def o271 (P : Params) : Obj := ⟨.none, none, .fields #[], #[]⟩
noncomputable def o272 (P : Params) : Obj := ⟨.type "tuple", none, .seq #[(sv "self" 568), (sv "head" 569)] 0, #[]⟩
noncomputable def o273 (P : Params) : Obj := ⟨.type "tuple", none, .seq #[] 0, #[]⟩
noncomputable def o274 (P : Params) : Obj := ⟨.none, none, fg 0 "__init__" "LineWriter.__init__" (mt 23 0) .none .none .none .none none .none .none, #[]⟩
noncomputable def o275 (P : Params) : Obj := ⟨.type "code", none, .fields #[(sv "__init__" 565), (sv "LineWriter.__init__" 566), (sv "/claim/cut.py" 567), .int 190 0, .int 2 0, .int 0 0, .int 0 0, .int 3 0, .ref 272, .bool true, .int 181 0, .ref 273, .none, .ref 274, .ref 275, .ref 276, .int 570 0, .int 190 0, (sv "/claim/cut.py" 571)], #[]⟩
noncomputable def o276 (P : Params) : Obj := ⟨.type "function", none, fd "__init__" "LineWriter.__init__" (mt 23 0) .none .none .none (sv "grammarmill.lines" 541) none (.ref 277) .none, #[]⟩
noncomputable def o277 (P : Params) : Obj := ⟨.type "tuple", none, .seq #[] 0, #[]⟩
noncomputable def o278 (P : Params) : Obj := ⟨.none, none, .fields #[], #[]⟩
noncomputable def o279 (P : Params) : Obj := ⟨.none, none, fg 0 "add" "LineWriter.add" (mt 23 1) .none .none .none .none none .none .none, #[]⟩
noncomputable def o280 (P : Params) : Obj := ⟨.type "code", none, .fields #[(sv "add" 573), (sv "LineWriter.add" 574), (sv "/claim/cut.py" 575), .int 193 0, .int 3 0, .int 0 0, .int 0 0, .int 3 0, .ref 279, .bool true, .int 181 0, .ref 280, .none, .none, .none, .ref 281, .int 576 0, .int 193 0, (sv "/claim/cut.py" 577)], #[]⟩
noncomputable def o281 (P : Params) : Obj := ⟨.type "function", none, fd "add" "LineWriter.add" (mt 23 1) .none .none .none (sv "grammarmill.lines" 541) none (.ref 282) .none, #[]⟩
noncomputable def o282 (P : Params) : Obj := ⟨.type "tuple", none, .seq #[] 0, #[]⟩
noncomputable def o283 (P : Params) : Obj := ⟨.none, none, .fields #[], #[]⟩
noncomputable def o284 (P : Params) : Obj := ⟨.type "tuple", none, .seq #[(sv "self" 582)] 0, #[]⟩
noncomputable def o285 (P : Params) : Obj := ⟨.type "tuple", none, .seq #[] 0, #[]⟩
noncomputable def o286 (P : Params) : Obj := ⟨.none, none, fg 0 "text" "LineWriter.text" (mt 23 2) .none .none .none .none none .none .none, #[]⟩
noncomputable def o287 (P : Params) : Obj := ⟨.type "code", none, .fields #[(sv "text" 579), (sv "LineWriter.text" 580), (sv "/claim/cut.py" 581), .int 196 0, .int 1 0, .int 0 0, .int 0 0, .int 3 0, .ref 284, .bool true, .int 181 0, .ref 285, .none, .ref 286, .ref 287, .ref 288, .int 583 0, .int 196 0, (sv "/claim/cut.py" 584)], #[]⟩
noncomputable def o288 (P : Params) : Obj := ⟨.type "function", none, fd "text" "LineWriter.text" (mt 23 2) .none .none .none (sv "grammarmill.lines" 541) none (.ref 289) .none, #[]⟩
noncomputable def o289 (P : Params) : Obj := ⟨.type "tuple", none, .seq #[(sv "lines" 586)] 0, #[]⟩
noncomputable def o290 (P : Params) : Obj := ⟨.type "dict", none, .dict #[ent P "__module__" 560 (sv "grammarmill.lines" 541), ent P "__firstlineno__" 564 (.int 188 563), ent P "__init__" 572 (.ref 278), ent P "add" 578 (.ref 283), ent P "text" 585 (.ref 290), ent P "__static_attributes__" 587 (.ref 291), ent P "__dict__" 589 (.ref 294), ent P "__weakref__" 591 (.ref 295), ent P "__doc__" 592 .none] 4, #[]⟩
noncomputable def o291 (P : Params) : Obj := ⟨.type "type", none, .cls ⟨"LineWriter", [.type "object"], [.ref 293, .type "object"], 292, "LineWriter", true, [], [], false, none, false⟩, #[none, none, (some (sv "LineWriter" 553)), (some (sv "LineWriter" 561)), (some (.builtin "object.__new__")), (some (.bool true))]⟩
noncomputable def o292 (P : Params) : Obj := ⟨.type "getset_descriptor", none, .fields #[(sv "__dict__" 588), .ref 293, .builtin "function.__dict__", .builtin "function.__dict__#set"], #[]⟩
noncomputable def o293 (P : Params) : Obj := ⟨.type "getset_descriptor", none, .fields #[(sv "__weakref__" 590), .ref 293, .builtin "ExceptionGroup.__weakref__", .none], #[]⟩
noncomputable def o294 (P : Params) : Obj := ⟨.type "super", none, .fields #[.ref 293, .ref 293, .ref 293], #[]⟩
noncomputable def o295 (P : Params) : Obj := ⟨.type "builtin_function_or_method", none, .fields #[.builtin "object.__init_subclass__", .ref 293], #[]⟩
noncomputable def s4t (P : Params) : BT := nd (boot_o_0 P) (nd (boot_o_1 P) (nd (o251 P) (nd (boot_o_7 P) (nd (o6 P) (nd (o22 P) (nd (o54 P) (nd (o123 P) (nd (o253 P) .nil .nil) .nil) (nd (o187 P) .nil .nil)) (nd (o89 P) (nd (o155 P) (nd (o285 P) .nil .nil) .nil) (nd (o219 P) .nil .nil))) (nd (o38 P) (nd (o73 P) (nd (o139 P) (nd (o269 P) .nil .nil) .nil) (nd (o203 P) .nil .nil)) (nd (o105 P) (nd (o171 P) .nil .nil) (nd (o235 P) .nil .nil)))) (nd (o14 P) (nd (o30 P) (nd (o62 P) (nd (o131 P) (nd (o261 P) .nil .nil) .nil) (nd (o195 P) .nil .nil)) (nd (o97 P) (nd (o163 P) (nd (o293 P) .nil .nil) .nil) (nd (o227 P) .nil .nil))) (nd (o46 P) (nd (o81 P) (nd (o147 P) (nd (o277 P) .nil .nil) .nil) (nd (o211 P) .nil .nil)) (nd (o115 P) (nd (o179 P) .nil .nil) (nd (o243 P) .nil .nil))))) (nd (o0 P) (nd (o10 P) (nd (o26 P) (nd (o58 P) (nd (o127 P) (nd (o257 P) .nil .nil) .nil) (nd (o191 P) .nil .nil)) (nd (o93 P) (nd (o159 P) (nd (o289 P) .nil .nil) .nil) (nd (o223 P) .nil .nil))) (nd (o42 P) (nd (o77 P) (nd (o143 P) (nd (o273 P) .nil .nil) .nil) (nd (o207 P) .nil .nil)) (nd (o111 P) (nd (o175 P) .nil .nil) (nd (o239 P) .nil .nil)))) (nd (o18 P) (nd (o34 P) (nd (o69 P) (nd (o135 P) (nd (o265 P) .nil .nil) .nil) (nd (o199 P) .nil .nil)) (nd (o101 P) (nd (o167 P) .nil .nil) (nd (o231 P) .nil .nil))) (nd (o50 P) (nd (o85 P) (nd (o151 P) (nd (o281 P) .nil .nil) .nil) (nd (o215 P) .nil .nil)) (nd (o119 P) (nd (o183 P) .nil .nil) (nd (o247 P) .nil .nil)))))) (nd (boot_o_5 P) (nd (boot_o_9 P) (nd (o8 P) (nd (o24 P) (nd (o56 P) (nd (o125 P) (nd (o255 P) .nil .nil) .nil) (nd (o189 P) .nil .nil)) (nd (o91 P) (nd (o157 P) (nd (o287 P) .nil .nil) .nil) (nd (o221 P) .nil .nil))) (nd (o40 P) (nd (o75 P) (nd (o141 P) (nd (o271 P) .nil .nil) .nil) (nd (o205 P) .nil .nil)) (nd (o109 P) (nd (o173 P) .nil .nil) (nd (o237 P) .nil .nil)))) (nd (o16 P) (nd (o32 P) (nd (o67 P) (nd (o133 P) (nd (o263 P) .nil .nil) .nil) (nd (o197 P) .nil .nil)) (nd (o99 P) (nd (o165 P) (nd (o295 P) .nil .nil) .nil) (nd (o229 P) .nil .nil))) (nd (o48 P) (nd (o83 P) (nd (o149 P) (nd (o279 P) .nil .nil) .nil) (nd (o213 P) .nil .nil)) (nd (o117 P) (nd (o181 P) .nil .nil) (nd (o245 P) .nil .nil))))) (nd (o2 P) (nd (o12 P) (nd (o28 P) (nd (o60 P) (nd (o129 P) (nd (o259 P) .nil .nil) .nil) (nd (o193 P) .nil .nil)) (nd (o95 P) (nd (o161 P) (nd (o291 P) .nil .nil) .nil) (nd (o225 P) .nil .nil))) (nd (o44 P) (nd (o79 P) (nd (o145 P) (nd (o275 P) .nil .nil) .nil) (nd (o209 P) .nil .nil)) (nd (o113 P) (nd (o177 P) .nil .nil) (nd (o241 P) .nil .nil)))) (nd (o20 P) (nd (o36 P) (nd (o71 P) (nd (o137 P) (nd (o267 P) .nil .nil) .nil) (nd (o201 P) .nil .nil)) (nd (o103 P) (nd (o169 P) .nil .nil) (nd (o233 P) .nil .nil))) (nd (o52 P) (nd (o87 P) (nd (o153 P) (nd (o283 P) .nil .nil) .nil) (nd (o217 P) .nil .nil)) (nd (o121 P) (nd (o185 P) .nil .nil) (nd (o249 P) .nil .nil))))))) (nd (o63 P) (nd (boot_o_4 P) (nd (boot_o_8 P) (nd (o7 P) (nd (o23 P) (nd (o55 P) (nd (o124 P) (nd (o254 P) .nil .nil) .nil) (nd (o188 P) .nil .nil)) (nd (o90 P) (nd (o156 P) (nd (o286 P) .nil .nil) .nil) (nd (o220 P) .nil .nil))) (nd (o39 P) (nd (o74 P) (nd (o140 P) (nd (o270 P) .nil .nil) .nil) (nd (o204 P) .nil .nil)) (nd (o108 P) (nd (o172 P) .nil .nil) (nd (o236 P) .nil .nil)))) (nd (o15 P) (nd (o31 P) (nd (o66 P) (nd (o132 P) (nd (o262 P) .nil .nil) .nil) (nd (o196 P) .nil .nil)) (nd (o98 P) (nd (o164 P) (nd (o294 P) .nil .nil) .nil) (nd (o228 P) .nil .nil))) (nd (o47 P) (nd (o82 P) (nd (o148 P) (nd (o278 P) .nil .nil) .nil) (nd (o212 P) .nil .nil)) (nd (o116 P) (nd (o180 P) .nil .nil) (nd (o244 P) .nil .nil))))) (nd (o252 P) (nd (o11 P) (nd (o27 P) (nd (o59 P) (nd (o128 P) (nd (o258 P) .nil .nil) .nil) (nd (o192 P) .nil .nil)) (nd (o94 P) (nd (o160 P) (nd (o290 P) .nil .nil) .nil) (nd (o224 P) .nil .nil))) (nd (o43 P) (nd (o78 P) (nd (o144 P) (nd (o274 P) .nil .nil) .nil) (nd (o208 P) .nil .nil)) (nd (o112 P) (nd (o176 P) .nil .nil) (nd (o240 P) .nil .nil)))) (nd (o19 P) (nd (o35 P) (nd (o70 P) (nd (o136 P) (nd (o266 P) .nil .nil) .nil) (nd (o200 P) .nil .nil)) (nd (o102 P) (nd (o168 P) .nil .nil) (nd (o232 P) .nil .nil))) (nd (o51 P) (nd (o86 P) (nd (o152 P) (nd (o282 P) .nil .nil) .nil) (nd (o216 P) .nil .nil)) (nd (o120 P) (nd (o184 P) .nil .nil) (nd (o248 P) .nil .nil)))))) (nd (boot_o_6 P) (nd (boot_o_10 P) (nd (o9 P) (nd (o25 P) (nd (o57 P) (nd (o126 P) (nd (o256 P) .nil .nil) .nil) (nd (o190 P) .nil .nil)) (nd (o92 P) (nd (o158 P) (nd (o288 P) .nil .nil) .nil) (nd (o222 P) .nil .nil))) (nd (o41 P) (nd (o76 P) (nd (o142 P) (nd (o272 P) .nil .nil) .nil) (nd (o206 P) .nil .nil)) (nd (o110 P) (nd (o174 P) .nil .nil) (nd (o238 P) .nil .nil)))) (nd (o17 P) (nd (o33 P) (nd (o68 P) (nd (o134 P) (nd (o264 P) .nil .nil) .nil) (nd (o198 P) .nil .nil)) (nd (o100 P) (nd (o166 P) .nil .nil) (nd (o230 P) .nil .nil))) (nd (o49 P) (nd (o84 P) (nd (o150 P) (nd (o280 P) .nil .nil) .nil) (nd (o214 P) .nil .nil)) (nd (o118 P) (nd (o182 P) .nil .nil) (nd (o246 P) .nil .nil))))) (nd (o3 P) (nd (o13 P) (nd (o29 P) (nd (o61 P) (nd (o130 P) (nd (o260 P) .nil .nil) .nil) (nd (o194 P) .nil .nil)) (nd (o96 P) (nd (o162 P) (nd (o292 P) .nil .nil) .nil) (nd (o226 P) .nil .nil))) (nd (o45 P) (nd (o80 P) (nd (o146 P) (nd (o276 P) .nil .nil) .nil) (nd (o210 P) .nil .nil)) (nd (o114 P) (nd (o178 P) .nil .nil) (nd (o242 P) .nil .nil)))) (nd (o21 P) (nd (o37 P) (nd (o72 P) (nd (o138 P) (nd (o268 P) .nil .nil) .nil) (nd (o202 P) .nil .nil)) (nd (o104 P) (nd (o170 P) .nil .nil) (nd (o234 P) .nil .nil))) (nd (o53 P) (nd (o88 P) (nd (o154 P) (nd (o284 P) .nil .nil) .nil) (nd (o218 P) .nil .nil)) (nd (o122 P) (nd (o186 P) .nil .nil) (nd (o250 P) .nil .nil)))))))
noncomputable def s4 (w : World) (os : OsState) : SharedT := ⟨s4t w.params, 298, { }, (Array.mk []), { }, 595, os⟩
noncomputable abbrev l4 : List Stmt := (body0.drop 18).take 6
theorem p4 (w : World) (os : OsState) : segRunT treeTable pw w m0 ann0 1 361 (s3 w os) (piecesOf l4 env0 cd0 ⟨162, 0, 174, 15⟩ [topFrame fp0]) = some (.next, s4 w os, cd0, ⟨188, 0, 197, 81⟩) := by ((try rw [PySem.W.Fast.te15667345088766844465]); (try rw [PySem.W.Fast.te14374325043358763698]); (try rw [PySem.W.Fast.te10110043849684766642]); (try rw [PySem.W.Fast.te14082659384304107361]); (try rw [PySem.W.Fast.te11892475500146522536]); (try rw [PySem.W.Fast.te14364793385576792824]); kernel_rfl)
noncomputable def o296 (P : Params) : Obj := ⟨.type "dict", none, .dict #[ent P "__name__" 165 (sv "law_qd0064_01" 742), ent P "__doc__" 166 .none, ent P "__package__" 167 .none, ent P "__loader__" 168 (.builtin "__main__.__loader__#opaque"), ent P "__spec__" 169 .none, ent P "__annotations__" 170 (.ref 6), ent P "__builtins__" 171 (.ref 4), ent P "__file__" 173 (sv "/claim/cut.py" 172), ent P "__cached__" 174 .none, ent P "_wall" 193 (.ref 21), ent P "PART" 197 (.int 500 196), ent P "mask_item" 206 (.ref 28), ent P "read_masks" 219 (.ref 35), ent P "FIGURES" 223 (sv "0123456789" 222), ent P "HEX_SIGNS" 226 (sv "0123456789abcdefABCDEF" 225), ent P "OCTAL_SIGNS" 228 (sv "01234567" 227), ent P "MOST_FIGURES_source" 230 (.int 4000 229), ent P "PLAIN_ESCAPES" 252 (.ref 36), ent P "Position" 292 (.ref 60), ent P "position_of" 304 (.ref 71), ent P "ToolError" 342 (.ref 96), ent P "TableError" 358 (.ref 109), ent P "Cursor" 517 (.ref 236), ent P "hex_escape" 525 (.ref 247), ent P "escaped_sign" 534 (.ref 254), ent P "escaped" 540 (.ref 259), ent P "MOST_DEPTH" 544 (.int 2 543), ent P "MOST_FIGURES_lines" 546 (.int 160 545), ent P "show_item" 552 (.ref 264), ent P "LineWriter" 594 (.ref 293), ent P "LineReader" 741 (.ref 407), ent P "_law_bits" 754 (.ref 412), ent P "_law_cask" 760 (.ref 417), ent P "_law_tap" 771 (.ref 424), ent P "_law_mask" 782 (.ref 431)] 35, #[]⟩
noncomputable def o297 (P : Params) : Obj := ⟨.none, none, .fields #[.int 1 0, .int 0 0, .ref 20, .int 6 0, .int 0 0, .ref 27, .int 13 0, .int 0 0, .ref 34, .int 34 0, .int 0 0, .ref 42, .int 43 0, .int 0 0, .ref 70, .int 52 0, .int 0 0, .ref 77, .int 63 0, .int 0 0, .ref 105, .int 65 0, .int 0 0, .ref 117, .int 159 0, .int 0 0, .ref 246, .int 162 0, .int 0 0, .ref 253, .int 175 0, .int 0 0, .ref 258, .int 180 0, .int 0 0, .ref 263, .int 188 0, .int 0 0, .ref 270, .int 198 0, .int 0 0, .ref 303, .int 285 0, .int 0 0, .ref 416, .int 287 0, .int 0 0, .ref 423, .int 295 0, .int 0 0, .ref 430], #[]⟩
noncomputable def o298 (P : Params) : Obj := ⟨.type "tuple", none, .seq #[] 0, #[]⟩
noncomputable def o299 (P : Params) : Obj := ⟨.type "builtin_function_or_method", none, .fields #[.builtin "type.__prepare__", .type "type"], #[]⟩
noncomputable def o300 (P : Params) : Obj := ⟨.type "dict", none, .dict #[ent P "__module__" 602 (sv "grammarmill.lines" 541), ent P "__qualname__" 604 (sv "LineReader" 603), ent P "__firstlineno__" 606 (.int 198 605), ent P "__init__" 614 (.ref 311), ent P "fail" 622 (.ref 318), ent P "need" 630 (.ref 325), ent P "head" 638 (.ref 332), ent P "end_line" 645 (.ref 339), ent P "whole" 654 (.ref 346), ent P "item" 664 (.ref 354), ent P "bracket" 673 (.ref 361), ent P "items" 684 (.ref 368), ent P "numbers" 698 (.ref 376), ent P "one" 708 (.ref 383), ent P "texts" 716 (.ref 390), ent P "finish" 723 (.ref 397), ent P "need_same" 731 (.ref 404), ent P "__static_attributes__" 734 (.ref 405)] 18, #[]⟩
noncomputable def o301 (P : Params) : Obj := ⟨.type "tuple", none, .seq #[] 0, #[]⟩
noncomputable def o302 (P : Params) : Obj := ⟨.none, none, .fields #[.int 200 0, .int 4 0, .ref 310, .int 204 0, .int 4 0, .ref 317, .int 207 0, .int 4 0, .ref 324, .int 211 0, .int 4 0, .ref 331, .int 215 0, .int 4 0, .ref 338, .int 219 0, .int 4 0, .ref 345, .int 226 0, .int 4 0, .ref 353, .int 239 0, .int 4 0, .ref 360, .int 251 0, .int 4 0, .ref 367, .int 262 0, .int 4 0, .ref 375, .int 272 0, .int 4 0, .ref 382, .int 275 0, .int 4 0, .ref 389, .int 278 0, .int 4 0, .ref 396, .int 281 0, .int 4 0, .ref 403], #[]⟩
noncomputable def o303 (P : Params) : Obj := ⟨.type "code", none, .fields #[(sv "LineReader" 597), (sv "LineReader" 598), (sv "/claim/cut.py" 599), .int 198 0, .int 0 0, .int 0 0, .int 0 0, .int 0 0, .ref 301, .bool false, .int 181 0, .ref 302, .none, .none, .none, .none, .int 600 0, .int 198 0, (sv "/claim/cut.py" 601)], #[]⟩
noncomputable def o304 (P : Params) : Obj := ⟨.type "frame", none, .plain, #[(some (.ref 303)), (some (.ref 3)), (some (.ref 300)), none, (some (sv "grammarmill.lines" 541)), none, (some (.ref 0))]⟩
noncomputable def o305 (P : Params) : Obj := ⟨.type "tuple", none, .seq #[] 0, #[]⟩
noncomputable def o306 (P : Params) : Obj := ⟨.none, none, .fields #[], #[]⟩
noncomputable def o307 (P : Params) : Obj := ⟨.type "tuple", none, .seq #[(sv "self" 610), (sv "text" 611)] 0, #[]⟩
noncomputable def o308 (P : Params) : Obj := ⟨.type "tuple", none, .seq #[] 0, #[]⟩
noncomputable def o309 (P : Params) : Obj := ⟨.none, none, fg 0 "__init__" "LineReader.__init__" (mt 24 0) .none .none .none .none none .none .none, #[]⟩
noncomputable def o310 (P : Params) : Obj := ⟨.type "code", none, .fields #[(sv "__init__" 607), (sv "LineReader.__init__" 608), (sv "/claim/cut.py" 609), .int 200 0, .int 2 0, .int 0 0, .int 0 0, .int 3 0, .ref 305, .bool true, .int 181 0, .ref 306, .none, .ref 307, .ref 308, .ref 309, .int 612 0, .int 200 0, (sv "/claim/cut.py" 613)], #[]⟩
noncomputable def o311 (P : Params) : Obj := ⟨.type "function", none, fd "__init__" "LineReader.__init__" (mt 24 0) .none .none .none (sv "grammarmill.lines" 541) none (.ref 310) .none, #[]⟩
noncomputable def o312 (P : Params) : Obj := ⟨.type "tuple", none, .seq #[] 0, #[]⟩
noncomputable def o313 (P : Params) : Obj := ⟨.none, none, .fields #[], #[]⟩
noncomputable def o314 (P : Params) : Obj := ⟨.type "tuple", none, .seq #[(sv "self" 618), (sv "what" 619)] 0, #[]⟩
noncomputable def o315 (P : Params) : Obj := ⟨.type "tuple", none, .seq #[] 0, #[]⟩
noncomputable def o316 (P : Params) : Obj := ⟨.none, none, fg 0 "fail" "LineReader.fail" (mt 24 1) .none .none .none .none none .none .none, #[]⟩
noncomputable def o317 (P : Params) : Obj := ⟨.type "code", none, .fields #[(sv "fail" 615), (sv "LineReader.fail" 616), (sv "/claim/cut.py" 617), .int 204 0, .int 2 0, .int 0 0, .int 0 0, .int 3 0, .ref 312, .bool true, .int 181 0, .ref 313, .none, .ref 314, .ref 315, .ref 316, .int 620 0, .int 204 0, (sv "/claim/cut.py" 621)], #[]⟩
noncomputable def o318 (P : Params) : Obj := ⟨.type "function", none, fd "fail" "LineReader.fail" (mt 24 1) .none .none .none (sv "grammarmill.lines" 541) none (.ref 317) .none, #[]⟩
noncomputable def o319 (P : Params) : Obj := ⟨.type "tuple", none, .seq #[] 0, #[]⟩
noncomputable def o320 (P : Params) : Obj := ⟨.none, none, .fields #[], #[]⟩
noncomputable def o321 (P : Params) : Obj := ⟨.type "tuple", none, .seq #[(sv "self" 626), (sv "word" 627)] 0, #[]⟩
noncomputable def o322 (P : Params) : Obj := ⟨.type "tuple", none, .seq #[] 0, #[]⟩
noncomputable def o323 (P : Params) : Obj := ⟨.none, none, fg 0 "need" "LineReader.need" (mt 24 2) .none .none .none .none none .none .none, #[]⟩
noncomputable def o324 (P : Params) : Obj := ⟨.type "code", none, .fields #[(sv "need" 623), (sv "LineReader.need" 624), (sv "/claim/cut.py" 625), .int 207 0, .int 2 0, .int 0 0, .int 0 0, .int 3 0, .ref 319, .bool true, .int 181 0, .ref 320, .none, .ref 321, .ref 322, .ref 323, .int 628 0, .int 207 0, (sv "/claim/cut.py" 629)], #[]⟩
noncomputable def o325 (P : Params) : Obj := ⟨.type "function", none, fd "need" "LineReader.need" (mt 24 2) .none .none .none (sv "grammarmill.lines" 541) none (.ref 324) .none, #[]⟩
noncomputable def o326 (P : Params) : Obj := ⟨.type "tuple", none, .seq #[] 0, #[]⟩
noncomputable def o327 (P : Params) : Obj := ⟨.none, none, .fields #[], #[]⟩
noncomputable def o328 (P : Params) : Obj := ⟨.type "tuple", none, .seq #[(sv "self" 634), (sv "word" 635)] 0, #[]⟩
noncomputable def o329 (P : Params) : Obj := ⟨.type "tuple", none, .seq #[] 0, #[]⟩
noncomputable def o330 (P : Params) : Obj := ⟨.none, none, fg 0 "head" "LineReader.head" (mt 24 3) .none .none .none .none none .none .none, #[]⟩
noncomputable def o331 (P : Params) : Obj := ⟨.type "code", none, .fields #[(sv "head" 631), (sv "LineReader.head" 632), (sv "/claim/cut.py" 633), .int 211 0, .int 2 0, .int 0 0, .int 0 0, .int 3 0, .ref 326, .bool true, .int 181 0, .ref 327, .none, .ref 328, .ref 329, .ref 330, .int 636 0, .int 211 0, (sv "/claim/cut.py" 637)], #[]⟩
noncomputable def o332 (P : Params) : Obj := ⟨.type "function", none, fd "head" "LineReader.head" (mt 24 3) .none .none .none (sv "grammarmill.lines" 541) none (.ref 331) .none, #[]⟩
noncomputable def o333 (P : Params) : Obj := ⟨.type "tuple", none, .seq #[] 0, #[]⟩
noncomputable def o334 (P : Params) : Obj := ⟨.none, none, .fields #[], #[]⟩
noncomputable def o335 (P : Params) : Obj := ⟨.type "tuple", none, .seq #[(sv "self" 642)] 0, #[]⟩
noncomputable def o336 (P : Params) : Obj := ⟨.type "tuple", none, .seq #[] 0, #[]⟩
noncomputable def o337 (P : Params) : Obj := ⟨.none, none, fg 0 "end_line" "LineReader.end_line" (mt 24 4) .none .none .none .none none .none .none, #[]⟩
noncomputable def o338 (P : Params) : Obj := ⟨.type "code", none, .fields #[(sv "end_line" 639), (sv "LineReader.end_line" 640), (sv "/claim/cut.py" 641), .int 215 0, .int 1 0, .int 0 0, .int 0 0, .int 3 0, .ref 333, .bool true, .int 181 0, .ref 334, .none, .ref 335, .ref 336, .ref 337, .int 643 0, .int 215 0, (sv "/claim/cut.py" 644)], #[]⟩
noncomputable def o339 (P : Params) : Obj := ⟨.type "function", none, fd "end_line" "LineReader.end_line" (mt 24 4) .none .none .none (sv "grammarmill.lines" 541) none (.ref 338) .none, #[]⟩
noncomputable def o340 (P : Params) : Obj := ⟨.type "tuple", none, .seq #[] 0, #[]⟩
noncomputable def o341 (P : Params) : Obj := ⟨.none, none, .fields #[], #[]⟩
noncomputable def o342 (P : Params) : Obj := ⟨.type "tuple", none, .seq #[(sv "self" 649), (sv "sign" 650), (sv "figures" 651)] 0, #[]⟩
noncomputable def o343 (P : Params) : Obj := ⟨.type "tuple", none, .seq #[] 0, #[]⟩
noncomputable def o344 (P : Params) : Obj := ⟨.none, none, fg 0 "whole" "LineReader.whole" (mt 24 5) .none .none .none .none none .none .none, #[]⟩
noncomputable def o345 (P : Params) : Obj := ⟨.type "code", none, .fields #[(sv "whole" 646), (sv "LineReader.whole" 647), (sv "/claim/cut.py" 648), .int 219 0, .int 1 0, .int 0 0, .int 0 0, .int 3 0, .ref 340, .bool true, .int 181 0, .ref 341, .none, .ref 342, .ref 343, .ref 344, .int 652 0, .int 219 0, (sv "/claim/cut.py" 653)], #[]⟩
noncomputable def o346 (P : Params) : Obj := ⟨.type "function", none, fd "whole" "LineReader.whole" (mt 24 5) .none .none .none (sv "grammarmill.lines" 541) none (.ref 345) .none, #[]⟩
noncomputable def o347 (P : Params) : Obj := ⟨.type "tuple", none, .seq #[.int 0 655] 0, #[]⟩
noncomputable def o348 (P : Params) : Obj := ⟨.type "tuple", none, .seq #[] 0, #[]⟩
noncomputable def o349 (P : Params) : Obj := ⟨.none, none, .fields #[], #[]⟩
noncomputable def o350 (P : Params) : Obj := ⟨.type "tuple", none, .seq #[(sv "self" 659), (sv "depth" 660), (sv "found" 661)] 0, #[]⟩
noncomputable def o351 (P : Params) : Obj := ⟨.type "tuple", none, .seq #[] 0, #[]⟩
noncomputable def o352 (P : Params) : Obj := ⟨.none, none, fg 0 "item" "LineReader.item" (mt 24 6) .none .none .none .none none .none .none, #[]⟩
noncomputable def o353 (P : Params) : Obj := ⟨.type "code", none, .fields #[(sv "item" 656), (sv "LineReader.item" 657), (sv "/claim/cut.py" 658), .int 226 0, .int 2 0, .int 0 0, .int 0 0, .int 3 0, .ref 348, .bool true, .int 181 0, .ref 349, .none, .ref 350, .ref 351, .ref 352, .int 662 0, .int 226 0, (sv "/claim/cut.py" 663)], #[]⟩
noncomputable def o354 (P : Params) : Obj := ⟨.type "function", none, fd "item" "LineReader.item" (mt 24 6) (.ref 347) .none .none (sv "grammarmill.lines" 541) none (.ref 353) .none, #[]⟩
noncomputable def o355 (P : Params) : Obj := ⟨.type "tuple", none, .seq #[] 0, #[]⟩
noncomputable def o356 (P : Params) : Obj := ⟨.none, none, .fields #[], #[]⟩
noncomputable def o357 (P : Params) : Obj := ⟨.type "tuple", none, .seq #[(sv "self" 668), (sv "depth" 669), (sv "found" 670)] 0, #[]⟩
noncomputable def o358 (P : Params) : Obj := ⟨.type "tuple", none, .seq #[] 0, #[]⟩
noncomputable def o359 (P : Params) : Obj := ⟨.none, none, fg 0 "bracket" "LineReader.bracket" (mt 24 7) .none .none .none .none none .none .none, #[]⟩
noncomputable def o360 (P : Params) : Obj := ⟨.type "code", none, .fields #[(sv "bracket" 665), (sv "LineReader.bracket" 666), (sv "/claim/cut.py" 667), .int 239 0, .int 2 0, .int 0 0, .int 0 0, .int 3 0, .ref 355, .bool true, .int 181 0, .ref 356, .none, .ref 357, .ref 358, .ref 359, .int 671 0, .int 239 0, (sv "/claim/cut.py" 672)], #[]⟩
noncomputable def o361 (P : Params) : Obj := ⟨.type "function", none, fd "bracket" "LineReader.bracket" (mt 24 7) .none .none .none (sv "grammarmill.lines" 541) none (.ref 360) .none, #[]⟩
noncomputable def o362 (P : Params) : Obj := ⟨.type "tuple", none, .seq #[] 0, #[]⟩
noncomputable def o363 (P : Params) : Obj := ⟨.none, none, .fields #[], #[]⟩
noncomputable def o364 (P : Params) : Obj := ⟨.type "tuple", none, .seq #[(sv "self" 677), (sv "word" 678), (sv "many" 679), (sv "found" 680), (sv "turn" 681)] 0, #[]⟩
noncomputable def o365 (P : Params) : Obj := ⟨.type "tuple", none, .seq #[] 0, #[]⟩
noncomputable def o366 (P : Params) : Obj := ⟨.none, none, fg 0 "items" "LineReader.items" (mt 24 8) .none .none .none .none none .none .none, #[]⟩
noncomputable def o367 (P : Params) : Obj := ⟨.type "code", none, .fields #[(sv "items" 674), (sv "LineReader.items" 675), (sv "/claim/cut.py" 676), .int 251 0, .int 2 0, .int 0 0, .int 0 0, .int 3 0, .ref 362, .bool true, .int 181 0, .ref 363, .none, .ref 364, .ref 365, .ref 366, .int 682 0, .int 251 0, (sv "/claim/cut.py" 683)], #[]⟩
noncomputable def o368 (P : Params) : Obj := ⟨.type "function", none, fd "items" "LineReader.items" (mt 24 8) .none .none .none (sv "grammarmill.lines" 541) none (.ref 367) .none, #[]⟩
noncomputable def o369 (P : Params) : Obj := ⟨.type "tuple", none, .seq #[.none, .none, .none] 0, #[]⟩
noncomputable def o370 (P : Params) : Obj := ⟨.type "tuple", none, .seq #[] 0, #[]⟩
noncomputable def o371 (P : Params) : Obj := ⟨.none, none, .fields #[], #[]⟩
noncomputable def o372 (P : Params) : Obj := ⟨.type "tuple", none, .seq #[(sv "self" 688), (sv "word" 689), (sv "least" 690), (sv "most" 691), (sv "many" 692), (sv "found" 693), (sv "item" 694), (sv "is_out" 695)] 0, #[]⟩
noncomputable def o373 (P : Params) : Obj := ⟨.type "tuple", none, .seq #[] 0, #[]⟩
noncomputable def o374 (P : Params) : Obj := ⟨.none, none, fg 0 "numbers" "LineReader.numbers" (mt 24 9) .none .none .none .none none .none .none, #[]⟩
noncomputable def o375 (P : Params) : Obj := ⟨.type "code", none, .fields #[(sv "numbers" 685), (sv "LineReader.numbers" 686), (sv "/claim/cut.py" 687), .int 262 0, .int 5 0, .int 0 0, .int 0 0, .int 3 0, .ref 370, .bool true, .int 181 0, .ref 371, .none, .ref 372, .ref 373, .ref 374, .int 696 0, .int 262 0, (sv "/claim/cut.py" 697)], #[]⟩
noncomputable def o376 (P : Params) : Obj := ⟨.type "function", none, fd "numbers" "LineReader.numbers" (mt 24 9) (.ref 369) .none .none (sv "grammarmill.lines" 541) none (.ref 375) .none, #[]⟩
noncomputable def o377 (P : Params) : Obj := ⟨.type "tuple", none, .seq #[] 0, #[]⟩
noncomputable def o378 (P : Params) : Obj := ⟨.none, none, .fields #[], #[]⟩
noncomputable def o379 (P : Params) : Obj := ⟨.type "tuple", none, .seq #[(sv "self" 702), (sv "word" 703), (sv "least" 704), (sv "most" 705)] 0, #[]⟩
noncomputable def o380 (P : Params) : Obj := ⟨.type "tuple", none, .seq #[] 0, #[]⟩
noncomputable def o381 (P : Params) : Obj := ⟨.none, none, fg 0 "one" "LineReader.one" (mt 24 10) .none .none .none .none none .none .none, #[]⟩
noncomputable def o382 (P : Params) : Obj := ⟨.type "code", none, .fields #[(sv "one" 699), (sv "LineReader.one" 700), (sv "/claim/cut.py" 701), .int 272 0, .int 4 0, .int 0 0, .int 0 0, .int 3 0, .ref 377, .bool true, .int 181 0, .ref 378, .none, .ref 379, .ref 380, .ref 381, .int 706 0, .int 272 0, (sv "/claim/cut.py" 707)], #[]⟩
noncomputable def o383 (P : Params) : Obj := ⟨.type "function", none, fd "one" "LineReader.one" (mt 24 10) .none .none .none (sv "grammarmill.lines" 541) none (.ref 382) .none, #[]⟩
noncomputable def o384 (P : Params) : Obj := ⟨.type "tuple", none, .seq #[] 0, #[]⟩
noncomputable def o385 (P : Params) : Obj := ⟨.none, none, .fields #[], #[]⟩
noncomputable def o386 (P : Params) : Obj := ⟨.type "tuple", none, .seq #[(sv "self" 712), (sv "word" 713)] 0, #[]⟩
noncomputable def o387 (P : Params) : Obj := ⟨.type "tuple", none, .seq #[] 0, #[]⟩
noncomputable def o388 (P : Params) : Obj := ⟨.none, none, fg 0 "texts" "LineReader.texts" (mt 24 11) .none .none .none .none none .none .none, #[]⟩
noncomputable def o389 (P : Params) : Obj := ⟨.type "code", none, .fields #[(sv "texts" 709), (sv "LineReader.texts" 710), (sv "/claim/cut.py" 711), .int 275 0, .int 2 0, .int 0 0, .int 0 0, .int 3 0, .ref 384, .bool true, .int 181 0, .ref 385, .none, .ref 386, .ref 387, .ref 388, .int 714 0, .int 275 0, (sv "/claim/cut.py" 715)], #[]⟩
noncomputable def o390 (P : Params) : Obj := ⟨.type "function", none, fd "texts" "LineReader.texts" (mt 24 11) .none .none .none (sv "grammarmill.lines" 541) none (.ref 389) .none, #[]⟩
noncomputable def o391 (P : Params) : Obj := ⟨.type "tuple", none, .seq #[] 0, #[]⟩
noncomputable def o392 (P : Params) : Obj := ⟨.none, none, .fields #[], #[]⟩
noncomputable def o393 (P : Params) : Obj := ⟨.type "tuple", none, .seq #[(sv "self" 720)] 0, #[]⟩
noncomputable def o394 (P : Params) : Obj := ⟨.type "tuple", none, .seq #[] 0, #[]⟩
noncomputable def o395 (P : Params) : Obj := ⟨.none, none, fg 0 "finish" "LineReader.finish" (mt 24 12) .none .none .none .none none .none .none, #[]⟩
noncomputable def o396 (P : Params) : Obj := ⟨.type "code", none, .fields #[(sv "finish" 717), (sv "LineReader.finish" 718), (sv "/claim/cut.py" 719), .int 278 0, .int 1 0, .int 0 0, .int 0 0, .int 3 0, .ref 391, .bool true, .int 181 0, .ref 392, .none, .ref 393, .ref 394, .ref 395, .int 721 0, .int 278 0, (sv "/claim/cut.py" 722)], #[]⟩
noncomputable def o397 (P : Params) : Obj := ⟨.type "function", none, fd "finish" "LineReader.finish" (mt 24 12) .none .none .none (sv "grammarmill.lines" 541) none (.ref 396) .none, #[]⟩
noncomputable def o398 (P : Params) : Obj := ⟨.type "tuple", none, .seq #[] 0, #[]⟩
noncomputable def o399 (P : Params) : Obj := ⟨.none, none, .fields #[], #[]⟩
noncomputable def o400 (P : Params) : Obj := ⟨.type "tuple", none, .seq #[(sv "self" 727), (sv "text" 728)] 0, #[]⟩
noncomputable def o401 (P : Params) : Obj := ⟨.type "tuple", none, .seq #[] 0, #[]⟩
noncomputable def o402 (P : Params) : Obj := ⟨.none, none, fg 0 "need_same" "LineReader.need_same" (mt 24 13) .none .none .none .none none .none .none, #[]⟩
noncomputable def o403 (P : Params) : Obj := ⟨.type "code", none, .fields #[(sv "need_same" 724), (sv "LineReader.need_same" 725), (sv "/claim/cut.py" 726), .int 281 0, .int 2 0, .int 0 0, .int 0 0, .int 3 0, .ref 398, .bool true, .int 181 0, .ref 399, .none, .ref 400, .ref 401, .ref 402, .int 729 0, .int 281 0, (sv "/claim/cut.py" 730)], #[]⟩
noncomputable def o404 (P : Params) : Obj := ⟨.type "function", none, fd "need_same" "LineReader.need_same" (mt 24 13) .none .none .none (sv "grammarmill.lines" 541) none (.ref 403) .none, #[]⟩
noncomputable def o405 (P : Params) : Obj := ⟨.type "tuple", none, .seq #[(sv "cursor" 732), (sv "lines" 733)] 0, #[]⟩
noncomputable def o406 (P : Params) : Obj := ⟨.type "dict", none, .dict #[ent P "__module__" 602 (sv "grammarmill.lines" 541), ent P "__firstlineno__" 606 (.int 198 605), ent P "__init__" 614 (.ref 311), ent P "fail" 622 (.ref 318), ent P "need" 630 (.ref 325), ent P "head" 638 (.ref 332), ent P "end_line" 645 (.ref 339), ent P "whole" 654 (.ref 346), ent P "item" 664 (.ref 354), ent P "bracket" 673 (.ref 361), ent P "items" 684 (.ref 368), ent P "numbers" 698 (.ref 376), ent P "one" 708 (.ref 383), ent P "texts" 716 (.ref 390), ent P "finish" 723 (.ref 397), ent P "need_same" 731 (.ref 404), ent P "__static_attributes__" 734 (.ref 405), ent P "__dict__" 736 (.ref 408), ent P "__weakref__" 738 (.ref 409), ent P "__doc__" 739 .none] 4, #[]⟩
noncomputable def o407 (P : Params) : Obj := ⟨.type "type", none, .cls ⟨"LineReader", [.type "object"], [.ref 407, .type "object"], 406, "LineReader", true, [], [], false, none, false⟩, #[none, none, (some (sv "LineReader" 595)), (some (sv "LineReader" 603)), (some (.builtin "object.__new__")), (some (.bool true))]⟩
noncomputable def o408 (P : Params) : Obj := ⟨.type "getset_descriptor", none, .fields #[(sv "__dict__" 735), .ref 407, .builtin "function.__dict__", .builtin "function.__dict__#set"], #[]⟩
noncomputable def o409 (P : Params) : Obj := ⟨.type "getset_descriptor", none, .fields #[(sv "__weakref__" 737), .ref 407, .builtin "ExceptionGroup.__weakref__", .none], #[]⟩
noncomputable def o410 (P : Params) : Obj := ⟨.type "super", none, .fields #[.ref 407, .ref 407, .ref 407], #[]⟩
noncomputable def o411 (P : Params) : Obj := ⟨.type "builtin_function_or_method", none, .fields #[.builtin "object.__init_subclass__", .ref 407], #[]⟩
noncomputable def o412 (P : Params) : Obj := ⟨.type "tuple", none, .seq #[.int 500 744, .int 501 745, .int 499 746, .int 1000 747, .int 1001 748, .int 999 749, .int 1 750, .int 0 751, .int 533 752, .int 40 753] 0, #[]⟩
noncomputable def o413 (P : Params) : Obj := ⟨.type "tuple", none, .seq #[] 0, #[]⟩
noncomputable def o414 (P : Params) : Obj := ⟨.none, none, .fields #[], #[]⟩
noncomputable def o415 (P : Params) : Obj := ⟨.none, none, fg 0 "_law_cask" "_law_cask" (st 27) .none .none .none .none none .none .none, #[]⟩
noncomputable def o416 (P : Params) : Obj := ⟨.type "code", none, .fields #[(sv "_law_cask" 755), (sv "_law_cask" 756), (sv "/claim/cut.py" 757), .int 285 0, .int 1 0, .int 0 0, .int 0 0, .int 3 0, .ref 413, .bool true, .int 181 0, .ref 414, .none, .none, .none, .ref 415, .int 758 0, .int 285 0, (sv "/claim/cut.py" 759)], #[]⟩
noncomputable def o417 (P : Params) : Obj := ⟨.type "function", none, fd "_law_cask" "_law_cask" (st 27) .none .none .none (sv "law_qd0064_01" 742) none (.ref 416) .none, #[]⟩
noncomputable def o418 (P : Params) : Obj := ⟨.type "tuple", none, .seq #[] 0, #[]⟩
noncomputable def o419 (P : Params) : Obj := ⟨.none, none, .fields #[], #[]⟩
noncomputable def o420 (P : Params) : Obj := ⟨.type "tuple", none, .seq #[(sv "cask" 764), (sv "many" 765), (sv "cells" 766), (sv "turn" 767), (sv "worth" 768)] 0, #[]⟩
noncomputable def o421 (P : Params) : Obj := ⟨.type "tuple", none, .seq #[] 0, #[]⟩
noncomputable def o422 (P : Params) : Obj := ⟨.none, none, fg 0 "_law_tap" "_law_tap" (st 28) .none .none .none .none none .none .none, #[]⟩
noncomputable def o423 (P : Params) : Obj := ⟨.type "code", none, .fields #[(sv "_law_tap" 761), (sv "_law_tap" 762), (sv "/claim/cut.py" 763), .int 287 0, .int 2 0, .int 0 0, .int 0 0, .int 3 0, .ref 418, .bool true, .int 181 0, .ref 419, .none, .ref 420, .ref 421, .ref 422, .int 769 0, .int 287 0, (sv "/claim/cut.py" 770)], #[]⟩
noncomputable def o424 (P : Params) : Obj := ⟨.type "function", none, fd "_law_tap" "_law_tap" (st 28) .none .none .none (sv "law_qd0064_01" 742) none (.ref 423) .none, #[]⟩
noncomputable def o425 (P : Params) : Obj := ⟨.type "tuple", none, .seq #[] 0, #[]⟩
noncomputable def o426 (P : Params) : Obj := ⟨.none, none, .fields #[], #[]⟩
noncomputable def o427 (P : Params) : Obj := ⟨.type "tuple", none, .seq #[(sv "cask" 775), (sv "size" 776), (sv "way" 777), (sv "found" 778), (sv "place" 779)] 0, #[]⟩
noncomputable def o428 (P : Params) : Obj := ⟨.type "tuple", none, .seq #[] 0, #[]⟩
noncomputable def o429 (P : Params) : Obj := ⟨.none, none, fg 0 "_law_mask" "_law_mask" (st 29) .none .none .none .none none .none .none, #[]⟩
noncomputable def o430 (P : Params) : Obj := ⟨.type "code", none, .fields #[(sv "_law_mask" 772), (sv "_law_mask" 773), (sv "/claim/cut.py" 774), .int 295 0, .int 1 0, .int 0 0, .int 0 0, .int 3 0, .ref 425, .bool true, .int 181 0, .ref 426, .none, .ref 427, .ref 428, .ref 429, .int 780 0, .int 295 0, (sv "/claim/cut.py" 781)], #[]⟩
noncomputable def o431 (P : Params) : Obj := ⟨.type "function", none, fd "_law_mask" "_law_mask" (st 29) .none .none .none (sv "law_qd0064_01" 742) none (.ref 430) .none, #[]⟩
noncomputable def s5t (P : Params) : BT := nd (boot_o_0 P) (nd (boot_o_1 P) (nd (o296 P) (nd (boot_o_7 P) (nd (o6 P) (nd (o22 P) (nd (o54 P) (nd (o123 P) (nd (o253 P) .nil .nil) (nd (o383 P) .nil .nil)) (nd (o187 P) (nd (o319 P) .nil .nil) .nil)) (nd (o89 P) (nd (o155 P) (nd (o285 P) .nil .nil) (nd (o415 P) .nil .nil)) (nd (o219 P) (nd (o351 P) .nil .nil) .nil))) (nd (o38 P) (nd (o73 P) (nd (o139 P) (nd (o269 P) .nil .nil) (nd (o399 P) .nil .nil)) (nd (o203 P) (nd (o335 P) .nil .nil) .nil)) (nd (o105 P) (nd (o171 P) (nd (o303 P) .nil .nil) (nd (o431 P) .nil .nil)) (nd (o235 P) (nd (o367 P) .nil .nil) .nil)))) (nd (o14 P) (nd (o30 P) (nd (o62 P) (nd (o131 P) (nd (o261 P) .nil .nil) (nd (o391 P) .nil .nil)) (nd (o195 P) (nd (o327 P) .nil .nil) .nil)) (nd (o97 P) (nd (o163 P) (nd (o293 P) .nil .nil) (nd (o423 P) .nil .nil)) (nd (o227 P) (nd (o359 P) .nil .nil) .nil))) (nd (o46 P) (nd (o81 P) (nd (o147 P) (nd (o277 P) .nil .nil) (nd (o407 P) .nil .nil)) (nd (o211 P) (nd (o343 P) .nil .nil) .nil)) (nd (o115 P) (nd (o179 P) (nd (o311 P) .nil .nil) .nil) (nd (o243 P) (nd (o375 P) .nil .nil) .nil))))) (nd (o0 P) (nd (o10 P) (nd (o26 P) (nd (o58 P) (nd (o127 P) (nd (o257 P) .nil .nil) (nd (o387 P) .nil .nil)) (nd (o191 P) (nd (o323 P) .nil .nil) .nil)) (nd (o93 P) (nd (o159 P) (nd (o289 P) .nil .nil) (nd (o419 P) .nil .nil)) (nd (o223 P) (nd (o355 P) .nil .nil) .nil))) (nd (o42 P) (nd (o77 P) (nd (o143 P) (nd (o273 P) .nil .nil) (nd (o403 P) .nil .nil)) (nd (o207 P) (nd (o339 P) .nil .nil) .nil)) (nd (o111 P) (nd (o175 P) (nd (o307 P) .nil .nil) .nil) (nd (o239 P) (nd (o371 P) .nil .nil) .nil)))) (nd (o18 P) (nd (o34 P) (nd (o69 P) (nd (o135 P) (nd (o265 P) .nil .nil) (nd (o395 P) .nil .nil)) (nd (o199 P) (nd (o331 P) .nil .nil) .nil)) (nd (o101 P) (nd (o167 P) (nd (o299 P) .nil .nil) (nd (o427 P) .nil .nil)) (nd (o231 P) (nd (o363 P) .nil .nil) .nil))) (nd (o50 P) (nd (o85 P) (nd (o151 P) (nd (o281 P) .nil .nil) (nd (o411 P) .nil .nil)) (nd (o215 P) (nd (o347 P) .nil .nil) .nil)) (nd (o119 P) (nd (o183 P) (nd (o315 P) .nil .nil) .nil) (nd (o247 P) (nd (o379 P) .nil .nil) .nil)))))) (nd (boot_o_5 P) (nd (boot_o_9 P) (nd (o8 P) (nd (o24 P) (nd (o56 P) (nd (o125 P) (nd (o255 P) .nil .nil) (nd (o385 P) .nil .nil)) (nd (o189 P) (nd (o321 P) .nil .nil) .nil)) (nd (o91 P) (nd (o157 P) (nd (o287 P) .nil .nil) (nd (o417 P) .nil .nil)) (nd (o221 P) (nd (o353 P) .nil .nil) .nil))) (nd (o40 P) (nd (o75 P) (nd (o141 P) (nd (o271 P) .nil .nil) (nd (o401 P) .nil .nil)) (nd (o205 P) (nd (o337 P) .nil .nil) .nil)) (nd (o109 P) (nd (o173 P) (nd (o305 P) .nil .nil) .nil) (nd (o237 P) (nd (o369 P) .nil .nil) .nil)))) (nd (o16 P) (nd (o32 P) (nd (o67 P) (nd (o133 P) (nd (o263 P) .nil .nil) (nd (o393 P) .nil .nil)) (nd (o197 P) (nd (o329 P) .nil .nil) .nil)) (nd (o99 P) (nd (o165 P) (nd (o295 P) .nil .nil) (nd (o425 P) .nil .nil)) (nd (o229 P) (nd (o361 P) .nil .nil) .nil))) (nd (o48 P) (nd (o83 P) (nd (o149 P) (nd (o279 P) .nil .nil) (nd (o409 P) .nil .nil)) (nd (o213 P) (nd (o345 P) .nil .nil) .nil)) (nd (o117 P) (nd (o181 P) (nd (o313 P) .nil .nil) .nil) (nd (o245 P) (nd (o377 P) .nil .nil) .nil))))) (nd (o2 P) (nd (o12 P) (nd (o28 P) (nd (o60 P) (nd (o129 P) (nd (o259 P) .nil .nil) (nd (o389 P) .nil .nil)) (nd (o193 P) (nd (o325 P) .nil .nil) .nil)) (nd (o95 P) (nd (o161 P) (nd (o291 P) .nil .nil) (nd (o421 P) .nil .nil)) (nd (o225 P) (nd (o357 P) .nil .nil) .nil))) (nd (o44 P) (nd (o79 P) (nd (o145 P) (nd (o275 P) .nil .nil) (nd (o405 P) .nil .nil)) (nd (o209 P) (nd (o341 P) .nil .nil) .nil)) (nd (o113 P) (nd (o177 P) (nd (o309 P) .nil .nil) .nil) (nd (o241 P) (nd (o373 P) .nil .nil) .nil)))) (nd (o20 P) (nd (o36 P) (nd (o71 P) (nd (o137 P) (nd (o267 P) .nil .nil) (nd (o397 P) .nil .nil)) (nd (o201 P) (nd (o333 P) .nil .nil) .nil)) (nd (o103 P) (nd (o169 P) (nd (o301 P) .nil .nil) (nd (o429 P) .nil .nil)) (nd (o233 P) (nd (o365 P) .nil .nil) .nil))) (nd (o52 P) (nd (o87 P) (nd (o153 P) (nd (o283 P) .nil .nil) (nd (o413 P) .nil .nil)) (nd (o217 P) (nd (o349 P) .nil .nil) .nil)) (nd (o121 P) (nd (o185 P) (nd (o317 P) .nil .nil) .nil) (nd (o249 P) (nd (o381 P) .nil .nil) .nil))))))) (nd (o63 P) (nd (boot_o_4 P) (nd (boot_o_8 P) (nd (o7 P) (nd (o23 P) (nd (o55 P) (nd (o124 P) (nd (o254 P) .nil .nil) (nd (o384 P) .nil .nil)) (nd (o188 P) (nd (o320 P) .nil .nil) .nil)) (nd (o90 P) (nd (o156 P) (nd (o286 P) .nil .nil) (nd (o416 P) .nil .nil)) (nd (o220 P) (nd (o352 P) .nil .nil) .nil))) (nd (o39 P) (nd (o74 P) (nd (o140 P) (nd (o270 P) .nil .nil) (nd (o400 P) .nil .nil)) (nd (o204 P) (nd (o336 P) .nil .nil) .nil)) (nd (o108 P) (nd (o172 P) (nd (o304 P) .nil .nil) .nil) (nd (o236 P) (nd (o368 P) .nil .nil) .nil)))) (nd (o15 P) (nd (o31 P) (nd (o66 P) (nd (o132 P) (nd (o262 P) .nil .nil) (nd (o392 P) .nil .nil)) (nd (o196 P) (nd (o328 P) .nil .nil) .nil)) (nd (o98 P) (nd (o164 P) (nd (o294 P) .nil .nil) (nd (o424 P) .nil .nil)) (nd (o228 P) (nd (o360 P) .nil .nil) .nil))) (nd (o47 P) (nd (o82 P) (nd (o148 P) (nd (o278 P) .nil .nil) (nd (o408 P) .nil .nil)) (nd (o212 P) (nd (o344 P) .nil .nil) .nil)) (nd (o116 P) (nd (o180 P) (nd (o312 P) .nil .nil) .nil) (nd (o244 P) (nd (o376 P) .nil .nil) .nil))))) (nd (o297 P) (nd (o11 P) (nd (o27 P) (nd (o59 P) (nd (o128 P) (nd (o258 P) .nil .nil) (nd (o388 P) .nil .nil)) (nd (o192 P) (nd (o324 P) .nil .nil) .nil)) (nd (o94 P) (nd (o160 P) (nd (o290 P) .nil .nil) (nd (o420 P) .nil .nil)) (nd (o224 P) (nd (o356 P) .nil .nil) .nil))) (nd (o43 P) (nd (o78 P) (nd (o144 P) (nd (o274 P) .nil .nil) (nd (o404 P) .nil .nil)) (nd (o208 P) (nd (o340 P) .nil .nil) .nil)) (nd (o112 P) (nd (o176 P) (nd (o308 P) .nil .nil) .nil) (nd (o240 P) (nd (o372 P) .nil .nil) .nil)))) (nd (o19 P) (nd (o35 P) (nd (o70 P) (nd (o136 P) (nd (o266 P) .nil .nil) (nd (o396 P) .nil .nil)) (nd (o200 P) (nd (o332 P) .nil .nil) .nil)) (nd (o102 P) (nd (o168 P) (nd (o300 P) .nil .nil) (nd (o428 P) .nil .nil)) (nd (o232 P) (nd (o364 P) .nil .nil) .nil))) (nd (o51 P) (nd (o86 P) (nd (o152 P) (nd (o282 P) .nil .nil) (nd (o412 P) .nil .nil)) (nd (o216 P) (nd (o348 P) .nil .nil) .nil)) (nd (o120 P) (nd (o184 P) (nd (o316 P) .nil .nil) .nil) (nd (o248 P) (nd (o380 P) .nil .nil) .nil)))))) (nd (boot_o_6 P) (nd (boot_o_10 P) (nd (o9 P) (nd (o25 P) (nd (o57 P) (nd (o126 P) (nd (o256 P) .nil .nil) (nd (o386 P) .nil .nil)) (nd (o190 P) (nd (o322 P) .nil .nil) .nil)) (nd (o92 P) (nd (o158 P) (nd (o288 P) .nil .nil) (nd (o418 P) .nil .nil)) (nd (o222 P) (nd (o354 P) .nil .nil) .nil))) (nd (o41 P) (nd (o76 P) (nd (o142 P) (nd (o272 P) .nil .nil) (nd (o402 P) .nil .nil)) (nd (o206 P) (nd (o338 P) .nil .nil) .nil)) (nd (o110 P) (nd (o174 P) (nd (o306 P) .nil .nil) .nil) (nd (o238 P) (nd (o370 P) .nil .nil) .nil)))) (nd (o17 P) (nd (o33 P) (nd (o68 P) (nd (o134 P) (nd (o264 P) .nil .nil) (nd (o394 P) .nil .nil)) (nd (o198 P) (nd (o330 P) .nil .nil) .nil)) (nd (o100 P) (nd (o166 P) (nd (o298 P) .nil .nil) (nd (o426 P) .nil .nil)) (nd (o230 P) (nd (o362 P) .nil .nil) .nil))) (nd (o49 P) (nd (o84 P) (nd (o150 P) (nd (o280 P) .nil .nil) (nd (o410 P) .nil .nil)) (nd (o214 P) (nd (o346 P) .nil .nil) .nil)) (nd (o118 P) (nd (o182 P) (nd (o314 P) .nil .nil) .nil) (nd (o246 P) (nd (o378 P) .nil .nil) .nil))))) (nd (o3 P) (nd (o13 P) (nd (o29 P) (nd (o61 P) (nd (o130 P) (nd (o260 P) .nil .nil) (nd (o390 P) .nil .nil)) (nd (o194 P) (nd (o326 P) .nil .nil) .nil)) (nd (o96 P) (nd (o162 P) (nd (o292 P) .nil .nil) (nd (o422 P) .nil .nil)) (nd (o226 P) (nd (o358 P) .nil .nil) .nil))) (nd (o45 P) (nd (o80 P) (nd (o146 P) (nd (o276 P) .nil .nil) (nd (o406 P) .nil .nil)) (nd (o210 P) (nd (o342 P) .nil .nil) .nil)) (nd (o114 P) (nd (o178 P) (nd (o310 P) .nil .nil) .nil) (nd (o242 P) (nd (o374 P) .nil .nil) .nil)))) (nd (o21 P) (nd (o37 P) (nd (o72 P) (nd (o138 P) (nd (o268 P) .nil .nil) (nd (o398 P) .nil .nil)) (nd (o202 P) (nd (o334 P) .nil .nil) .nil)) (nd (o104 P) (nd (o170 P) (nd (o302 P) .nil .nil) (nd (o430 P) .nil .nil)) (nd (o234 P) (nd (o366 P) .nil .nil) .nil))) (nd (o53 P) (nd (o88 P) (nd (o154 P) (nd (o284 P) .nil .nil) (nd (o414 P) .nil .nil)) (nd (o218 P) (nd (o350 P) .nil .nil) .nil)) (nd (o122 P) (nd (o186 P) (nd (o318 P) .nil .nil) .nil) (nd (o250 P) (nd (o382 P) .nil .nil) .nil)))))))
noncomputable def s5 (w : World) (os : OsState) : SharedT := ⟨s5t w.params, 432, { }, (Array.mk []), { }, 783, os⟩
noncomputable abbrev l5 : List Stmt := (body0.drop 24).take 6
theorem p5 (w : World) (os : OsState) : segRunT treeTable pw w m0 ann0 1 776 (s4 w os) (piecesOf l5 env0 cd0 ⟨188, 0, 197, 81⟩ [topFrame fp0]) = some (.next, s5 w os, cd0, ⟨295, 0, 302, 75⟩) := by ((try rw [PySem.W.Fast.te15667345088766844465]); (try rw [PySem.W.Fast.te14374325043358763698]); (try rw [PySem.W.Fast.te10110043849684766642]); (try rw [PySem.W.Fast.te14082659384304107361]); (try rw [PySem.W.Fast.te11892475500146522536]); (try rw [PySem.W.Fast.te14364793385576792824]); kernel_rfl)
noncomputable def o432 (P : Params) : Obj := ⟨.type "dict", none, .dict #[ent P "__name__" 165 (sv "law_qd0064_01" 742), ent P "__doc__" 166 .none, ent P "__package__" 167 .none, ent P "__loader__" 168 (.builtin "__main__.__loader__#opaque"), ent P "__spec__" 169 .none, ent P "__annotations__" 170 (.ref 6), ent P "__builtins__" 171 (.ref 4), ent P "__file__" 173 (sv "/claim/cut.py" 172), ent P "__cached__" 174 .none, ent P "_wall" 193 (.ref 21), ent P "PART" 197 (.int 500 196), ent P "mask_item" 206 (.ref 28), ent P "read_masks" 219 (.ref 35), ent P "FIGURES" 223 (sv "0123456789" 222), ent P "HEX_SIGNS" 226 (sv "0123456789abcdefABCDEF" 225), ent P "OCTAL_SIGNS" 228 (sv "01234567" 227), ent P "MOST_FIGURES_source" 230 (.int 4000 229), ent P "PLAIN_ESCAPES" 252 (.ref 36), ent P "Position" 292 (.ref 60), ent P "position_of" 304 (.ref 71), ent P "ToolError" 342 (.ref 96), ent P "TableError" 358 (.ref 109), ent P "Cursor" 517 (.ref 236), ent P "hex_escape" 525 (.ref 247), ent P "escaped_sign" 534 (.ref 254), ent P "escaped" 540 (.ref 259), ent P "MOST_DEPTH" 544 (.int 2 543), ent P "MOST_FIGURES_lines" 546 (.int 160 545), ent P "show_item" 552 (.ref 264), ent P "LineWriter" 594 (.ref 293), ent P "LineReader" 741 (.ref 407), ent P "_law_bits" 754 (.ref 412), ent P "_law_cask" 760 (.ref 417), ent P "_law_tap" 771 (.ref 424), ent P "_law_mask" 782 (.ref 431), ent P "_law_parts" 788 (.ref 436), ent P "_law_spelled" 794 (.ref 441), ent P "_law_odd" 800 (.ref 446), ent P "_law_read" 808 (.ref 453), ent P "law" 814 (.ref 458)] 40, #[]⟩
noncomputable def o433 (P : Params) : Obj := ⟨.none, none, .fields #[.int 1 0, .int 0 0, .ref 20, .int 6 0, .int 0 0, .ref 27, .int 13 0, .int 0 0, .ref 34, .int 34 0, .int 0 0, .ref 42, .int 43 0, .int 0 0, .ref 70, .int 52 0, .int 0 0, .ref 77, .int 63 0, .int 0 0, .ref 105, .int 65 0, .int 0 0, .ref 117, .int 159 0, .int 0 0, .ref 246, .int 162 0, .int 0 0, .ref 253, .int 175 0, .int 0 0, .ref 258, .int 180 0, .int 0 0, .ref 263, .int 188 0, .int 0 0, .ref 270, .int 198 0, .int 0 0, .ref 303, .int 285 0, .int 0 0, .ref 416, .int 287 0, .int 0 0, .ref 423, .int 295 0, .int 0 0, .ref 430, .int 303 0, .int 0 0, .ref 435, .int 308 0, .int 0 0, .ref 440, .int 310 0, .int 0 0, .ref 445, .int 323 0, .int 0 0, .ref 452, .int 328 0, .int 0 0, .ref 457], #[]⟩
noncomputable def o434 (P : Params) : Obj := ⟨.type "tuple", none, .seq #[] 0, #[]⟩
noncomputable def o435 (P : Params) : Obj := ⟨.none, none, .fields #[], #[]⟩
noncomputable def o436 (P : Params) : Obj := ⟨.none, none, fg 0 "_law_parts" "_law_parts" (st 30) .none .none .none .none none .none .none, #[]⟩
noncomputable def o437 (P : Params) : Obj := ⟨.type "code", none, .fields #[(sv "_law_parts" 783), (sv "_law_parts" 784), (sv "/claim/cut.py" 785), .int 303 0, .int 1 0, .int 0 0, .int 0 0, .int 3 0, .ref 432, .bool true, .int 181 0, .ref 433, .none, .none, .none, .ref 434, .int 786 0, .int 303 0, (sv "/claim/cut.py" 787)], #[]⟩
noncomputable def o438 (P : Params) : Obj := ⟨.type "function", none, fd "_law_parts" "_law_parts" (st 30) .none .none .none (sv "law_qd0064_01" 742) none (.ref 435) .none, #[]⟩
noncomputable def o439 (P : Params) : Obj := ⟨.type "tuple", none, .seq #[] 0, #[]⟩
noncomputable def o440 (P : Params) : Obj := ⟨.none, none, .fields #[], #[]⟩
noncomputable def o441 (P : Params) : Obj := ⟨.none, none, fg 0 "_law_spelled" "_law_spelled" (st 31) .none .none .none .none none .none .none, #[]⟩
noncomputable def o442 (P : Params) : Obj := ⟨.type "code", none, .fields #[(sv "_law_spelled" 789), (sv "_law_spelled" 790), (sv "/claim/cut.py" 791), .int 308 0, .int 1 0, .int 0 0, .int 0 0, .int 3 0, .ref 437, .bool true, .int 181 0, .ref 438, .none, .none, .none, .ref 439, .int 792 0, .int 308 0, (sv "/claim/cut.py" 793)], #[]⟩
noncomputable def o443 (P : Params) : Obj := ⟨.type "function", none, fd "_law_spelled" "_law_spelled" (st 31) .none .none .none (sv "law_qd0064_01" 742) none (.ref 440) .none, #[]⟩
noncomputable def o444 (P : Params) : Obj := ⟨.type "tuple", none, .seq #[] 0, #[]⟩
noncomputable def o445 (P : Params) : Obj := ⟨.none, none, .fields #[], #[]⟩
noncomputable def o446 (P : Params) : Obj := ⟨.none, none, fg 0 "_law_odd" "_law_odd" (st 32) .none .none .none .none none .none .none, #[]⟩
noncomputable def o447 (P : Params) : Obj := ⟨.type "code", none, .fields #[(sv "_law_odd" 795), (sv "_law_odd" 796), (sv "/claim/cut.py" 797), .int 310 0, .int 2 0, .int 0 0, .int 0 0, .int 3 0, .ref 442, .bool true, .int 181 0, .ref 443, .none, .none, .none, .ref 444, .int 798 0, .int 310 0, (sv "/claim/cut.py" 799)], #[]⟩
noncomputable def o448 (P : Params) : Obj := ⟨.type "function", none, fd "_law_odd" "_law_odd" (st 32) .none .none .none (sv "law_qd0064_01" 742) none (.ref 445) .none, #[]⟩
noncomputable def o449 (P : Params) : Obj := ⟨.type "tuple", none, .seq #[] 0, #[]⟩
noncomputable def o450 (P : Params) : Obj := ⟨.none, none, .fields #[], #[]⟩
noncomputable def o451 (P : Params) : Obj := ⟨.type "tuple", none, .seq #[(sv "line" 804), (sv "many" 805)] 0, #[]⟩
noncomputable def o452 (P : Params) : Obj := ⟨.type "tuple", none, .seq #[] 0, #[]⟩
noncomputable def o453 (P : Params) : Obj := ⟨.none, none, fg 0 "_law_read" "_law_read" (st 33) .none .none .none .none none .none .none, #[]⟩
noncomputable def o454 (P : Params) : Obj := ⟨.type "code", none, .fields #[(sv "_law_read" 801), (sv "_law_read" 802), (sv "/claim/cut.py" 803), .int 323 0, .int 2 0, .int 0 0, .int 0 0, .int 3 0, .ref 447, .bool true, .int 181 0, .ref 448, .none, .ref 449, .ref 450, .ref 451, .int 806 0, .int 323 0, (sv "/claim/cut.py" 807)], #[]⟩
noncomputable def o455 (P : Params) : Obj := ⟨.type "function", none, fd "_law_read" "_law_read" (st 33) .none .none .none (sv "law_qd0064_01" 742) none (.ref 452) .none, #[]⟩
noncomputable def o456 (P : Params) : Obj := ⟨.type "tuple", none, .seq #[] 0, #[]⟩
noncomputable def o457 (P : Params) : Obj := ⟨.none, none, .fields #[], #[]⟩
noncomputable def o458 (P : Params) : Obj := ⟨.none, none, fg 0 "law" "law" (st 34) .none .none .none .none none .none .none, #[]⟩
noncomputable def o459 (P : Params) : Obj := ⟨.type "code", none, .fields #[(sv "law" 809), (sv "law" 810), (sv "/claim/cut.py" 811), .int 328 0, .int 1 0, .int 0 0, .int 0 0, .int 3 0, .ref 454, .bool true, .int 181 0, .ref 455, .none, .none, .none, .ref 456, .int 812 0, .int 328 0, (sv "/claim/cut.py" 813)], #[]⟩
noncomputable def o460 (P : Params) : Obj := ⟨.type "function", none, fd "law" "law" (st 34) .none .none .none (sv "law_qd0064_01" 742) none (.ref 457) .none, #[]⟩
noncomputable def s6t (P : Params) : BT := nd (boot_o_0 P) (nd (boot_o_1 P) (nd (o432 P) (nd (boot_o_7 P) (nd (o6 P) (nd (o22 P) (nd (o54 P) (nd (o123 P) (nd (o253 P) .nil .nil) (nd (o383 P) .nil .nil)) (nd (o187 P) (nd (o319 P) .nil .nil) (nd (o449 P) .nil .nil))) (nd (o89 P) (nd (o155 P) (nd (o285 P) .nil .nil) (nd (o415 P) .nil .nil)) (nd (o219 P) (nd (o351 P) .nil .nil) .nil))) (nd (o38 P) (nd (o73 P) (nd (o139 P) (nd (o269 P) .nil .nil) (nd (o399 P) .nil .nil)) (nd (o203 P) (nd (o335 P) .nil .nil) .nil)) (nd (o105 P) (nd (o171 P) (nd (o303 P) .nil .nil) (nd (o431 P) .nil .nil)) (nd (o235 P) (nd (o367 P) .nil .nil) .nil)))) (nd (o14 P) (nd (o30 P) (nd (o62 P) (nd (o131 P) (nd (o261 P) .nil .nil) (nd (o391 P) .nil .nil)) (nd (o195 P) (nd (o327 P) .nil .nil) (nd (o457 P) .nil .nil))) (nd (o97 P) (nd (o163 P) (nd (o293 P) .nil .nil) (nd (o423 P) .nil .nil)) (nd (o227 P) (nd (o359 P) .nil .nil) .nil))) (nd (o46 P) (nd (o81 P) (nd (o147 P) (nd (o277 P) .nil .nil) (nd (o407 P) .nil .nil)) (nd (o211 P) (nd (o343 P) .nil .nil) .nil)) (nd (o115 P) (nd (o179 P) (nd (o311 P) .nil .nil) (nd (o441 P) .nil .nil)) (nd (o243 P) (nd (o375 P) .nil .nil) .nil))))) (nd (o0 P) (nd (o10 P) (nd (o26 P) (nd (o58 P) (nd (o127 P) (nd (o257 P) .nil .nil) (nd (o387 P) .nil .nil)) (nd (o191 P) (nd (o323 P) .nil .nil) (nd (o453 P) .nil .nil))) (nd (o93 P) (nd (o159 P) (nd (o289 P) .nil .nil) (nd (o419 P) .nil .nil)) (nd (o223 P) (nd (o355 P) .nil .nil) .nil))) (nd (o42 P) (nd (o77 P) (nd (o143 P) (nd (o273 P) .nil .nil) (nd (o403 P) .nil .nil)) (nd (o207 P) (nd (o339 P) .nil .nil) .nil)) (nd (o111 P) (nd (o175 P) (nd (o307 P) .nil .nil) (nd (o437 P) .nil .nil)) (nd (o239 P) (nd (o371 P) .nil .nil) .nil)))) (nd (o18 P) (nd (o34 P) (nd (o69 P) (nd (o135 P) (nd (o265 P) .nil .nil) (nd (o395 P) .nil .nil)) (nd (o199 P) (nd (o331 P) .nil .nil) .nil)) (nd (o101 P) (nd (o167 P) (nd (o299 P) .nil .nil) (nd (o427 P) .nil .nil)) (nd (o231 P) (nd (o363 P) .nil .nil) .nil))) (nd (o50 P) (nd (o85 P) (nd (o151 P) (nd (o281 P) .nil .nil) (nd (o411 P) .nil .nil)) (nd (o215 P) (nd (o347 P) .nil .nil) .nil)) (nd (o119 P) (nd (o183 P) (nd (o315 P) .nil .nil) (nd (o445 P) .nil .nil)) (nd (o247 P) (nd (o379 P) .nil .nil) .nil)))))) (nd (boot_o_5 P) (nd (boot_o_9 P) (nd (o8 P) (nd (o24 P) (nd (o56 P) (nd (o125 P) (nd (o255 P) .nil .nil) (nd (o385 P) .nil .nil)) (nd (o189 P) (nd (o321 P) .nil .nil) (nd (o451 P) .nil .nil))) (nd (o91 P) (nd (o157 P) (nd (o287 P) .nil .nil) (nd (o417 P) .nil .nil)) (nd (o221 P) (nd (o353 P) .nil .nil) .nil))) (nd (o40 P) (nd (o75 P) (nd (o141 P) (nd (o271 P) .nil .nil) (nd (o401 P) .nil .nil)) (nd (o205 P) (nd (o337 P) .nil .nil) .nil)) (nd (o109 P) (nd (o173 P) (nd (o305 P) .nil .nil) (nd (o435 P) .nil .nil)) (nd (o237 P) (nd (o369 P) .nil .nil) .nil)))) (nd (o16 P) (nd (o32 P) (nd (o67 P) (nd (o133 P) (nd (o263 P) .nil .nil) (nd (o393 P) .nil .nil)) (nd (o197 P) (nd (o329 P) .nil .nil) (nd (o459 P) .nil .nil))) (nd (o99 P) (nd (o165 P) (nd (o295 P) .nil .nil) (nd (o425 P) .nil .nil)) (nd (o229 P) (nd (o361 P) .nil .nil) .nil))) (nd (o48 P) (nd (o83 P) (nd (o149 P) (nd (o279 P) .nil .nil) (nd (o409 P) .nil .nil)) (nd (o213 P) (nd (o345 P) .nil .nil) .nil)) (nd (o117 P) (nd (o181 P) (nd (o313 P) .nil .nil) (nd (o443 P) .nil .nil)) (nd (o245 P) (nd (o377 P) .nil .nil) .nil))))) (nd (o2 P) (nd (o12 P) (nd (o28 P) (nd (o60 P) (nd (o129 P) (nd (o259 P) .nil .nil) (nd (o389 P) .nil .nil)) (nd (o193 P) (nd (o325 P) .nil .nil) (nd (o455 P) .nil .nil))) (nd (o95 P) (nd (o161 P) (nd (o291 P) .nil .nil) (nd (o421 P) .nil .nil)) (nd (o225 P) (nd (o357 P) .nil .nil) .nil))) (nd (o44 P) (nd (o79 P) (nd (o145 P) (nd (o275 P) .nil .nil) (nd (o405 P) .nil .nil)) (nd (o209 P) (nd (o341 P) .nil .nil) .nil)) (nd (o113 P) (nd (o177 P) (nd (o309 P) .nil .nil) (nd (o439 P) .nil .nil)) (nd (o241 P) (nd (o373 P) .nil .nil) .nil)))) (nd (o20 P) (nd (o36 P) (nd (o71 P) (nd (o137 P) (nd (o267 P) .nil .nil) (nd (o397 P) .nil .nil)) (nd (o201 P) (nd (o333 P) .nil .nil) .nil)) (nd (o103 P) (nd (o169 P) (nd (o301 P) .nil .nil) (nd (o429 P) .nil .nil)) (nd (o233 P) (nd (o365 P) .nil .nil) .nil))) (nd (o52 P) (nd (o87 P) (nd (o153 P) (nd (o283 P) .nil .nil) (nd (o413 P) .nil .nil)) (nd (o217 P) (nd (o349 P) .nil .nil) .nil)) (nd (o121 P) (nd (o185 P) (nd (o317 P) .nil .nil) (nd (o447 P) .nil .nil)) (nd (o249 P) (nd (o381 P) .nil .nil) .nil))))))) (nd (o63 P) (nd (boot_o_4 P) (nd (boot_o_8 P) (nd (o7 P) (nd (o23 P) (nd (o55 P) (nd (o124 P) (nd (o254 P) .nil .nil) (nd (o384 P) .nil .nil)) (nd (o188 P) (nd (o320 P) .nil .nil) (nd (o450 P) .nil .nil))) (nd (o90 P) (nd (o156 P) (nd (o286 P) .nil .nil) (nd (o416 P) .nil .nil)) (nd (o220 P) (nd (o352 P) .nil .nil) .nil))) (nd (o39 P) (nd (o74 P) (nd (o140 P) (nd (o270 P) .nil .nil) (nd (o400 P) .nil .nil)) (nd (o204 P) (nd (o336 P) .nil .nil) .nil)) (nd (o108 P) (nd (o172 P) (nd (o304 P) .nil .nil) (nd (o434 P) .nil .nil)) (nd (o236 P) (nd (o368 P) .nil .nil) .nil)))) (nd (o15 P) (nd (o31 P) (nd (o66 P) (nd (o132 P) (nd (o262 P) .nil .nil) (nd (o392 P) .nil .nil)) (nd (o196 P) (nd (o328 P) .nil .nil) (nd (o458 P) .nil .nil))) (nd (o98 P) (nd (o164 P) (nd (o294 P) .nil .nil) (nd (o424 P) .nil .nil)) (nd (o228 P) (nd (o360 P) .nil .nil) .nil))) (nd (o47 P) (nd (o82 P) (nd (o148 P) (nd (o278 P) .nil .nil) (nd (o408 P) .nil .nil)) (nd (o212 P) (nd (o344 P) .nil .nil) .nil)) (nd (o116 P) (nd (o180 P) (nd (o312 P) .nil .nil) (nd (o442 P) .nil .nil)) (nd (o244 P) (nd (o376 P) .nil .nil) .nil))))) (nd (o433 P) (nd (o11 P) (nd (o27 P) (nd (o59 P) (nd (o128 P) (nd (o258 P) .nil .nil) (nd (o388 P) .nil .nil)) (nd (o192 P) (nd (o324 P) .nil .nil) (nd (o454 P) .nil .nil))) (nd (o94 P) (nd (o160 P) (nd (o290 P) .nil .nil) (nd (o420 P) .nil .nil)) (nd (o224 P) (nd (o356 P) .nil .nil) .nil))) (nd (o43 P) (nd (o78 P) (nd (o144 P) (nd (o274 P) .nil .nil) (nd (o404 P) .nil .nil)) (nd (o208 P) (nd (o340 P) .nil .nil) .nil)) (nd (o112 P) (nd (o176 P) (nd (o308 P) .nil .nil) (nd (o438 P) .nil .nil)) (nd (o240 P) (nd (o372 P) .nil .nil) .nil)))) (nd (o19 P) (nd (o35 P) (nd (o70 P) (nd (o136 P) (nd (o266 P) .nil .nil) (nd (o396 P) .nil .nil)) (nd (o200 P) (nd (o332 P) .nil .nil) .nil)) (nd (o102 P) (nd (o168 P) (nd (o300 P) .nil .nil) (nd (o428 P) .nil .nil)) (nd (o232 P) (nd (o364 P) .nil .nil) .nil))) (nd (o51 P) (nd (o86 P) (nd (o152 P) (nd (o282 P) .nil .nil) (nd (o412 P) .nil .nil)) (nd (o216 P) (nd (o348 P) .nil .nil) .nil)) (nd (o120 P) (nd (o184 P) (nd (o316 P) .nil .nil) (nd (o446 P) .nil .nil)) (nd (o248 P) (nd (o380 P) .nil .nil) .nil)))))) (nd (boot_o_6 P) (nd (boot_o_10 P) (nd (o9 P) (nd (o25 P) (nd (o57 P) (nd (o126 P) (nd (o256 P) .nil .nil) (nd (o386 P) .nil .nil)) (nd (o190 P) (nd (o322 P) .nil .nil) (nd (o452 P) .nil .nil))) (nd (o92 P) (nd (o158 P) (nd (o288 P) .nil .nil) (nd (o418 P) .nil .nil)) (nd (o222 P) (nd (o354 P) .nil .nil) .nil))) (nd (o41 P) (nd (o76 P) (nd (o142 P) (nd (o272 P) .nil .nil) (nd (o402 P) .nil .nil)) (nd (o206 P) (nd (o338 P) .nil .nil) .nil)) (nd (o110 P) (nd (o174 P) (nd (o306 P) .nil .nil) (nd (o436 P) .nil .nil)) (nd (o238 P) (nd (o370 P) .nil .nil) .nil)))) (nd (o17 P) (nd (o33 P) (nd (o68 P) (nd (o134 P) (nd (o264 P) .nil .nil) (nd (o394 P) .nil .nil)) (nd (o198 P) (nd (o330 P) .nil .nil) (nd (o460 P) .nil .nil))) (nd (o100 P) (nd (o166 P) (nd (o298 P) .nil .nil) (nd (o426 P) .nil .nil)) (nd (o230 P) (nd (o362 P) .nil .nil) .nil))) (nd (o49 P) (nd (o84 P) (nd (o150 P) (nd (o280 P) .nil .nil) (nd (o410 P) .nil .nil)) (nd (o214 P) (nd (o346 P) .nil .nil) .nil)) (nd (o118 P) (nd (o182 P) (nd (o314 P) .nil .nil) (nd (o444 P) .nil .nil)) (nd (o246 P) (nd (o378 P) .nil .nil) .nil))))) (nd (o3 P) (nd (o13 P) (nd (o29 P) (nd (o61 P) (nd (o130 P) (nd (o260 P) .nil .nil) (nd (o390 P) .nil .nil)) (nd (o194 P) (nd (o326 P) .nil .nil) (nd (o456 P) .nil .nil))) (nd (o96 P) (nd (o162 P) (nd (o292 P) .nil .nil) (nd (o422 P) .nil .nil)) (nd (o226 P) (nd (o358 P) .nil .nil) .nil))) (nd (o45 P) (nd (o80 P) (nd (o146 P) (nd (o276 P) .nil .nil) (nd (o406 P) .nil .nil)) (nd (o210 P) (nd (o342 P) .nil .nil) .nil)) (nd (o114 P) (nd (o178 P) (nd (o310 P) .nil .nil) (nd (o440 P) .nil .nil)) (nd (o242 P) (nd (o374 P) .nil .nil) .nil)))) (nd (o21 P) (nd (o37 P) (nd (o72 P) (nd (o138 P) (nd (o268 P) .nil .nil) (nd (o398 P) .nil .nil)) (nd (o202 P) (nd (o334 P) .nil .nil) .nil)) (nd (o104 P) (nd (o170 P) (nd (o302 P) .nil .nil) (nd (o430 P) .nil .nil)) (nd (o234 P) (nd (o366 P) .nil .nil) .nil))) (nd (o53 P) (nd (o88 P) (nd (o154 P) (nd (o284 P) .nil .nil) (nd (o414 P) .nil .nil)) (nd (o218 P) (nd (o350 P) .nil .nil) .nil)) (nd (o122 P) (nd (o186 P) (nd (o318 P) .nil .nil) (nd (o448 P) .nil .nil)) (nd (o250 P) (nd (o382 P) .nil .nil) .nil)))))))
noncomputable def s6 (w : World) (os : OsState) : SharedT := ⟨s6t w.params, 459, { }, (Array.mk []), { }, 815, os⟩
noncomputable abbrev l6 : List Stmt := (body0.drop 30).take 5
theorem p6 (w : World) (os : OsState) : segRunT treeTable pw w m0 ann0 1 135 (s5 w os) (piecesOf l6 env0 cd0 ⟨295, 0, 302, 75⟩ [topFrame fp0]) = some (.next, s6 w os, cd0, ⟨328, 0, 346, 105⟩) := by ((try rw [PySem.W.Fast.te15667345088766844465]); (try rw [PySem.W.Fast.te14374325043358763698]); (try rw [PySem.W.Fast.te10110043849684766642]); (try rw [PySem.W.Fast.te14082659384304107361]); (try rw [PySem.W.Fast.te11892475500146522536]); (try rw [PySem.W.Fast.te14364793385576792824]); kernel_rfl)
noncomputable def sfh (P : Params) : Heap := ⟨Array.mk [boot_o_0 P, boot_o_1 P, o63 P, o432 P, boot_o_4 P, boot_o_5 P, boot_o_6 P, boot_o_7 P, boot_o_8 P, boot_o_9 P, boot_o_10 P, o0 P, o433 P, o2 P, o3 P, o6 P, o7 P, o8 P, o9 P, o10 P, o11 P, o12 P, o13 P, o14 P, o15 P, o16 P, o17 P, o18 P, o19 P, o20 P, o21 P, o22 P, o23 P, o24 P, o25 P, o26 P, o27 P, o28 P, o29 P, o30 P, o31 P, o32 P, o33 P, o34 P, o35 P, o36 P, o37 P, o38 P, o39 P, o40 P, o41 P, o42 P, o43 P, o44 P, o45 P, o46 P, o47 P, o48 P, o49 P, o50 P, o51 P, o52 P, o53 P, o54 P, o55 P, o56 P, o57 P, o58 P, o59 P, o60 P, o61 P, o62 P, o66 P, o67 P, o68 P, o69 P, o70 P, o71 P, o72 P, o73 P, o74 P, o75 P, o76 P, o77 P, o78 P, o79 P, o80 P, o81 P, o82 P, o83 P, o84 P, o85 P, o86 P, o87 P, o88 P, o89 P, o90 P, o91 P, o92 P, o93 P, o94 P, o95 P, o96 P, o97 P, o98 P, o99 P, o100 P, o101 P, o102 P, o103 P, o104 P, o105 P, o108 P, o109 P, o110 P, o111 P, o112 P, o113 P, o114 P, o115 P, o116 P, o117 P, o118 P, o119 P, o120 P, o121 P, o122 P, o123 P, o124 P, o125 P, o126 P, o127 P, o128 P, o129 P, o130 P, o131 P, o132 P, o133 P, o134 P, o135 P, o136 P, o137 P, o138 P, o139 P, o140 P, o141 P, o142 P, o143 P, o144 P, o145 P, o146 P, o147 P, o148 P, o149 P, o150 P, o151 P, o152 P, o153 P, o154 P, o155 P, o156 P, o157 P, o158 P, o159 P, o160 P, o161 P, o162 P, o163 P, o164 P, o165 P, o166 P, o167 P, o168 P, o169 P, o170 P, o171 P, o172 P, o173 P, o174 P, o175 P, o176 P, o177 P, o178 P, o179 P, o180 P, o181 P, o182 P, o183 P, o184 P, o185 P, o186 P, o187 P, o188 P, o189 P, o190 P, o191 P, o192 P, o193 P, o194 P, o195 P, o196 P, o197 P, o198 P, o199 P, o200 P, o201 P, o202 P, o203 P, o204 P, o205 P, o206 P, o207 P, o208 P, o209 P, o210 P, o211 P, o212 P, o213 P, o214 P, o215 P, o216 P, o217 P, o218 P, o219 P, o220 P, o221 P, o222 P, o223 P, o224 P, o225 P, o226 P, o227 P, o228 P, o229 P, o230 P, o231 P, o232 P, o233 P, o234 P, o235 P, o236 P, o237 P, o238 P, o239 P, o240 P, o241 P, o242 P, o243 P, o244 P, o245 P, o246 P, o247 P, o248 P, o249 P, o250 P, o253 P, o254 P, o255 P, o256 P, o257 P, o258 P, o259 P, o260 P, o261 P, o262 P, o263 P, o264 P, o265 P, o266 P, o267 P, o268 P, o269 P, o270 P, o271 P, o272 P, o273 P, o274 P, o275 P, o276 P, o277 P, o278 P, o279 P, o280 P, o281 P, o282 P, o283 P, o284 P, o285 P, o286 P, o287 P, o288 P, o289 P, o290 P, o291 P, o292 P, o293 P, o294 P, o295 P, o298 P, o299 P, o300 P, o301 P, o302 P, o303 P, o304 P, o305 P, o306 P, o307 P, o308 P, o309 P, o310 P, o311 P, o312 P, o313 P, o314 P, o315 P, o316 P, o317 P, o318 P, o319 P, o320 P, o321 P, o322 P, o323 P, o324 P, o325 P, o326 P, o327 P, o328 P, o329 P, o330 P, o331 P, o332 P, o333 P, o334 P, o335 P, o336 P, o337 P, o338 P, o339 P, o340 P, o341 P, o342 P, o343 P, o344 P, o345 P, o346 P, o347 P, o348 P, o349 P, o350 P, o351 P, o352 P, o353 P, o354 P, o355 P, o356 P, o357 P, o358 P, o359 P, o360 P, o361 P, o362 P, o363 P, o364 P, o365 P, o366 P, o367 P, o368 P, o369 P, o370 P, o371 P, o372 P, o373 P, o374 P, o375 P, o376 P, o377 P, o378 P, o379 P, o380 P, o381 P, o382 P, o383 P, o384 P, o385 P, o386 P, o387 P, o388 P, o389 P, o390 P, o391 P, o392 P, o393 P, o394 P, o395 P, o396 P, o397 P, o398 P, o399 P, o400 P, o401 P, o402 P, o403 P, o404 P, o405 P, o406 P, o407 P, o408 P, o409 P, o410 P, o411 P, o412 P, o413 P, o414 P, o415 P, o416 P, o417 P, o418 P, o419 P, o420 P, o421 P, o422 P, o423 P, o424 P, o425 P, o426 P, o427 P, o428 P, o429 P, o430 P, o431 P, o434 P, o435 P, o436 P, o437 P, o438 P, o439 P, o440 P, o441 P, o442 P, o443 P, o444 P, o445 P, o446 P, o447 P, o448 P, o449 P, o450 P, o451 P, o452 P, o453 P, o454 P, o455 P, o456 P, o457 P, o458 P, o459 P, o460 P], { }⟩
noncomputable def sf (w : World) (os : OsState) : Shared := ⟨sfh w.params, (Array.mk []), { }, 815, os⟩
theorem fin0 (w : World) (os : OsState) : topRun treeTable pw w m0 ann0 2 (s6 w os).abs ⟨doneF .next, cd0, ⟨328, 0, 346, 105⟩, [topFrame fp0]⟩ = some (sf w os) := by ((try rw [PySem.W.Fast.te15667345088766844465]); (try rw [PySem.W.Fast.te14374325043358763698]); (try rw [PySem.W.Fast.te10110043849684766642]); (try rw [PySem.W.Fast.te14082659384304107361]); (try rw [PySem.W.Fast.te11892475500146522536]); (try rw [PySem.W.Fast.te14364793385576792824]); kernel_rfl)
theorem split0 : body0 = l1 ++ (l2 ++ (l3 ++ (l4 ++ (l5 ++ (l6 ++ []))))) := by kernel_rfl
noncomputable def M0 : Nat := 12 + (1 + (573 + (476 + (777 + (361 + (776 + (135 + 2)))))))
theorem run0 (w : World) (os : OsState) : topRun treeTable pw w m0 ann0 M0 (s0 w os) (topStub pw) = some (sf w os) := by
  refine go_top (pre0 w os) (piece_block (q := fp0) (block0 w os) ?_)
  rw [split0]
  exact (piece_app (q := fp0) (segRun_of (p1 w os)) (piece_app (q := fp0) (segRun_of (p2 w os)) (piece_app (q := fp0) (segRun_of (p3 w os)) (piece_app (q := fp0) (segRun_of (p4 w os)) (piece_app (q := fp0) (segRun_of (p5 w os)) (piece_app (q := fp0) (segRun_of (p6 w os)) (piece_nil (q := fp0) (fin0 w os))))))))
noncomputable def KK : Params → Frag := fun P => (nat_lit 2, o63 P) :: (nat_lit 3, o432 P) :: (nat_lit 15, o6 P) :: (nat_lit 17, o8 P) :: (nat_lit 18, o9 P) :: (nat_lit 20, o11 P) :: (nat_lit 21, o12 P) :: (nat_lit 22, o13 P) :: (nat_lit 24, o15 P) :: (nat_lit 25, o16 P) :: (nat_lit 27, o18 P) :: (nat_lit 28, o19 P) :: (nat_lit 29, o20 P) :: (nat_lit 31, o22 P) :: (nat_lit 32, o23 P) :: (nat_lit 34, o25 P) :: (nat_lit 35, o26 P) :: (nat_lit 36, o27 P) :: (nat_lit 44, o35 P) :: (nat_lit 46, o37 P) :: (nat_lit 47, o38 P) :: (nat_lit 49, o40 P) :: (nat_lit 50, o41 P) :: (nat_lit 51, o42 P) :: (nat_lit 53, o44 P) :: (nat_lit 54, o45 P) :: (nat_lit 56, o47 P) :: (nat_lit 57, o48 P) :: (nat_lit 58, o49 P) :: (nat_lit 59, o50 P) :: (nat_lit 60, o51 P) :: (nat_lit 61, o52 P) :: (nat_lit 62, o53 P) :: (nat_lit 65, o56 P) :: (nat_lit 67, o58 P) :: (nat_lit 68, o59 P) :: (nat_lit 70, o61 P) :: (nat_lit 71, o62 P) :: (nat_lit 72, o66 P) :: (nat_lit 79, o73 P) :: (nat_lit 80, o74 P) :: (nat_lit 82, o76 P) :: (nat_lit 83, o77 P) :: (nat_lit 85, o79 P) :: (nat_lit 86, o80 P) :: (nat_lit 87, o81 P) :: (nat_lit 89, o83 P) :: (nat_lit 90, o84 P) :: (nat_lit 92, o86 P) :: (nat_lit 93, o87 P) :: (nat_lit 94, o88 P) :: (nat_lit 95, o89 P) :: (nat_lit 96, o90 P) :: (nat_lit 97, o91 P) :: (nat_lit 100, o94 P) :: (nat_lit 107, o101 P) :: (nat_lit 108, o102 P) :: (nat_lit 109, o103 P) :: (nat_lit 119, o115 P) :: (nat_lit 120, o116 P) :: (nat_lit 122, o118 P) :: (nat_lit 123, o119 P) :: (nat_lit 125, o121 P) :: (nat_lit 126, o122 P) :: (nat_lit 127, o123 P) :: (nat_lit 129, o125 P) :: (nat_lit 130, o126 P) :: (nat_lit 132, o128 P) :: (nat_lit 133, o129 P) :: (nat_lit 134, o130 P) :: (nat_lit 135, o131 P) :: (nat_lit 137, o133 P) :: (nat_lit 138, o134 P) :: (nat_lit 140, o136 P) :: (nat_lit 141, o137 P) :: (nat_lit 142, o138 P) :: (nat_lit 144, o140 P) :: (nat_lit 145, o141 P) :: (nat_lit 147, o143 P) :: (nat_lit 148, o144 P) :: (nat_lit 149, o145 P) :: (nat_lit 151, o147 P) :: (nat_lit 152, o148 P) :: (nat_lit 154, o150 P) :: (nat_lit 155, o151 P) :: (nat_lit 156, o152 P) :: (nat_lit 158, o154 P) :: (nat_lit 159, o155 P) :: (nat_lit 161, o157 P) :: (nat_lit 162, o158 P) :: (nat_lit 163, o159 P) :: (nat_lit 165, o161 P) :: (nat_lit 166, o162 P) :: (nat_lit 168, o164 P) :: (nat_lit 169, o165 P) :: (nat_lit 170, o166 P) :: (nat_lit 172, o168 P) :: (nat_lit 173, o169 P) :: (nat_lit 175, o171 P) :: (nat_lit 176, o172 P) :: (nat_lit 177, o173 P) :: (nat_lit 178, o174 P) :: (nat_lit 180, o176 P) :: (nat_lit 181, o177 P) :: (nat_lit 183, o179 P) :: (nat_lit 184, o180 P) :: (nat_lit 185, o181 P) :: (nat_lit 187, o183 P) :: (nat_lit 188, o184 P) :: (nat_lit 190, o186 P) :: (nat_lit 191, o187 P) :: (nat_lit 192, o188 P) :: (nat_lit 194, o190 P) :: (nat_lit 195, o191 P) :: (nat_lit 197, o193 P) :: (nat_lit 198, o194 P) :: (nat_lit 199, o195 P) :: (nat_lit 201, o197 P) :: (nat_lit 202, o198 P) :: (nat_lit 204, o200 P) :: (nat_lit 205, o201 P) :: (nat_lit 206, o202 P) :: (nat_lit 208, o204 P) :: (nat_lit 209, o205 P) :: (nat_lit 211, o207 P) :: (nat_lit 212, o208 P) :: (nat_lit 213, o209 P) :: (nat_lit 215, o211 P) :: (nat_lit 216, o212 P) :: (nat_lit 218, o214 P) :: (nat_lit 219, o215 P) :: (nat_lit 220, o216 P) :: (nat_lit 222, o218 P) :: (nat_lit 223, o219 P) :: (nat_lit 225, o221 P) :: (nat_lit 226, o222 P) :: (nat_lit 227, o223 P) :: (nat_lit 229, o225 P) :: (nat_lit 230, o226 P) :: (nat_lit 232, o228 P) :: (nat_lit 233, o229 P) :: (nat_lit 234, o230 P) :: (nat_lit 235, o231 P) :: (nat_lit 236, o232 P) :: (nat_lit 237, o233 P) :: (nat_lit 238, o234 P) :: (nat_lit 241, o237 P) :: (nat_lit 243, o239 P) :: (nat_lit 244, o240 P) :: (nat_lit 246, o242 P) :: (nat_lit 247, o243 P) :: (nat_lit 248, o244 P) :: (nat_lit 250, o246 P) :: (nat_lit 251, o247 P) :: (nat_lit 253, o249 P) :: (nat_lit 254, o250 P) :: (nat_lit 255, o253 P) :: (nat_lit 258, o256 P) :: (nat_lit 259, o257 P) :: (nat_lit 260, o258 P) :: (nat_lit 263, o261 P) :: (nat_lit 264, o262 P) :: (nat_lit 272, o270 P) :: (nat_lit 274, o272 P) :: (nat_lit 275, o273 P) :: (nat_lit 277, o275 P) :: (nat_lit 278, o276 P) :: (nat_lit 279, o277 P) :: (nat_lit 282, o280 P) :: (nat_lit 283, o281 P) :: (nat_lit 284, o282 P) :: (nat_lit 286, o284 P) :: (nat_lit 287, o285 P) :: (nat_lit 289, o287 P) :: (nat_lit 290, o288 P) :: (nat_lit 291, o289 P) :: (nat_lit 292, o290 P) :: (nat_lit 293, o291 P) :: (nat_lit 294, o292 P) :: (nat_lit 295, o293 P) :: (nat_lit 305, o305 P) :: (nat_lit 307, o307 P) :: (nat_lit 308, o308 P) :: (nat_lit 310, o310 P) :: (nat_lit 311, o311 P) :: (nat_lit 312, o312 P) :: (nat_lit 314, o314 P) :: (nat_lit 315, o315 P) :: (nat_lit 317, o317 P) :: (nat_lit 318, o318 P) :: (nat_lit 319, o319 P) :: (nat_lit 321, o321 P) :: (nat_lit 322, o322 P) :: (nat_lit 324, o324 P) :: (nat_lit 325, o325 P) :: (nat_lit 326, o326 P) :: (nat_lit 328, o328 P) :: (nat_lit 329, o329 P) :: (nat_lit 331, o331 P) :: (nat_lit 332, o332 P) :: (nat_lit 333, o333 P) :: (nat_lit 335, o335 P) :: (nat_lit 336, o336 P) :: (nat_lit 338, o338 P) :: (nat_lit 339, o339 P) :: (nat_lit 340, o340 P) :: (nat_lit 342, o342 P) :: (nat_lit 343, o343 P) :: (nat_lit 345, o345 P) :: (nat_lit 346, o346 P) :: (nat_lit 347, o347 P) :: (nat_lit 348, o348 P) :: (nat_lit 350, o350 P) :: (nat_lit 351, o351 P) :: (nat_lit 353, o353 P) :: (nat_lit 354, o354 P) :: (nat_lit 355, o355 P) :: (nat_lit 357, o357 P) :: (nat_lit 358, o358 P) :: (nat_lit 360, o360 P) :: (nat_lit 361, o361 P) :: (nat_lit 362, o362 P) :: (nat_lit 364, o364 P) :: (nat_lit 365, o365 P) :: (nat_lit 367, o367 P) :: (nat_lit 368, o368 P) :: (nat_lit 369, o369 P) :: (nat_lit 370, o370 P) :: (nat_lit 372, o372 P) :: (nat_lit 373, o373 P) :: (nat_lit 375, o375 P) :: (nat_lit 376, o376 P) :: (nat_lit 377, o377 P) :: (nat_lit 379, o379 P) :: (nat_lit 380, o380 P) :: (nat_lit 382, o382 P) :: (nat_lit 383, o383 P) :: (nat_lit 384, o384 P) :: (nat_lit 386, o386 P) :: (nat_lit 387, o387 P) :: (nat_lit 389, o389 P) :: (nat_lit 390, o390 P) :: (nat_lit 391, o391 P) :: (nat_lit 393, o393 P) :: (nat_lit 394, o394 P) :: (nat_lit 396, o396 P) :: (nat_lit 397, o397 P) :: (nat_lit 398, o398 P) :: (nat_lit 400, o400 P) :: (nat_lit 401, o401 P) :: (nat_lit 403, o403 P) :: (nat_lit 404, o404 P) :: (nat_lit 405, o405 P) :: (nat_lit 406, o406 P) :: (nat_lit 407, o407 P) :: (nat_lit 408, o408 P) :: (nat_lit 409, o409 P) :: (nat_lit 412, o412 P) :: (nat_lit 413, o413 P) :: (nat_lit 416, o416 P) :: (nat_lit 417, o417 P) :: (nat_lit 418, o418 P) :: (nat_lit 420, o420 P) :: (nat_lit 421, o421 P) :: (nat_lit 423, o423 P) :: (nat_lit 424, o424 P) :: (nat_lit 425, o425 P) :: (nat_lit 427, o427 P) :: (nat_lit 428, o428 P) :: (nat_lit 430, o430 P) :: (nat_lit 431, o431 P) :: (nat_lit 432, o434 P) :: (nat_lit 435, o437 P) :: (nat_lit 436, o438 P) :: (nat_lit 437, o439 P) :: (nat_lit 440, o442 P) :: (nat_lit 441, o443 P) :: (nat_lit 442, o444 P) :: (nat_lit 445, o447 P) :: (nat_lit 446, o448 P) :: (nat_lit 447, o449 P) :: (nat_lit 449, o451 P) :: (nat_lit 450, o452 P) :: (nat_lit 452, o454 P) :: (nat_lit 453, o455 P) :: (nat_lit 454, o456 P) :: (nat_lit 457, o459 P) :: (nat_lit 458, o460 P) :: []
noncomputable def as0 : List Addr := [2, 3, 15, 17, 18, 20, 21, 22, 24, 25, 27, 28, 29, 31, 32, 34, 35, 36, 44, 46, 47, 49, 50, 51, 53, 54, 56, 57, 58, 59, 60, 61, 62, 65, 67, 68, 70, 71, 72, 79, 80, 82, 83, 85, 86, 87, 89, 90, 92, 93, 94, 95, 96, 97, 100, 107, 108, 109, 119, 120, 122, 123, 125, 126, 127, 129, 130, 132, 133, 134, 135, 137, 138, 140, 141, 142, 144, 145, 147, 148, 149, 151, 152, 154, 155, 156, 158, 159, 161, 162, 163, 165, 166, 168, 169, 170, 172, 173, 175, 176, 177, 178, 180, 181, 183, 184, 185, 187, 188, 190, 191, 192, 194, 195, 197, 198, 199, 201, 202, 204, 205, 206, 208, 209, 211, 212, 213, 215, 216, 218, 219, 220, 222, 223, 225, 226, 227, 229, 230, 232, 233, 234, 235, 236, 237, 238, 241, 243, 244, 246, 247, 248, 250, 251, 253, 254, 255, 258, 259, 260, 263, 264, 272, 274, 275, 277, 278, 279, 282, 283, 284, 286, 287, 289, 290, 291, 292, 293, 294, 295, 305, 307, 308, 310, 311, 312, 314, 315, 317, 318, 319, 321, 322, 324, 325, 326, 328, 329, 331, 332, 333, 335, 336, 338, 339, 340, 342, 343, 345, 346, 347, 348, 350, 351, 353, 354, 355, 357, 358, 360, 361, 362, 364, 365, 367, 368, 369, 370, 372, 373, 375, 376, 377, 379, 380, 382, 383, 384, 386, 387, 389, 390, 391, 393, 394, 396, 397, 398, 400, 401, 403, 404, 405, 406, 407, 408, 409, 412, 413, 416, 417, 418, 420, 421, 423, 424, 425, 427, 428, 430, 431, 432, 435, 436, 437, 440, 441, 442, 445, 446, 447, 449, 450, 452, 453, 454, 457, 458]
noncomputable abbrev loose0 : List PySem.Str := ["_wall", "PART", "mask_item", "read_masks", "FIGURES", "HEX_SIGNS", "OCTAL_SIGNS", "MOST_FIGURES_source", "PLAIN_ESCAPES", "Position", "position_of", "ToolError", "TableError", "Cursor", "hex_escape", "escaped_sign", "escaped", "MOST_DEPTH", "MOST_FIGURES_lines", "show_item", "LineWriter", "LineReader", "_law_bits", "_law_cask", "_law_tap", "_law_mask", "_law_parts", "_law_spelled", "_law_odd", "_law_read"]
theorem open0 : ∀ w : World, (fencedOpening treeTable pw w 6310).map (fun s => (s.heap, s.gens, s.drawn, s.toks)) = some (boot_heap w.params, Array.mk [], boot_drawn, boot_toks) :=
  boot_open (by kernel_rfl) (by decide) (fun s => by kernel_rfl)
theorem size0 (w : World) : ((boot_heap w.params).isNs mainGlobals && (Array.mk ([] : List GenState)).size == 0, (boot_heap w.params).objs.size, (boot_heap w.params).nsMap mainGlobals "__annotations__") = (true, m0, ann0) := by
  ((try rw [PySem.W.Fast.te8920871248978507458]); (try rw [PySem.W.Fast.te5923862056798008813]); (try rw [PySem.W.Fast.te12879404354523853263]); (try rw [PySem.W.Fast.te18344453789297297638]); (try rw [PySem.W.Fast.te12749700546528644094]); (try rw [PySem.W.Fast.te10880121769531294198]); (try rw [PySem.W.Fast.te14722251495701143533]); (try rw [PySem.W.Fast.te821141287760084731]); (try rw [PySem.W.Fast.te5160383126252970620]); (try rw [PySem.W.Fast.te5991557255702980513]); (try rw [PySem.W.Fast.te3399658132070893891]); (try rw [PySem.W.Fast.te7409074990110511671]); (try rw [PySem.W.Fast.te13664370479719496447]); (try rw [PySem.W.Fast.te3247288618530077131]); (try rw [PySem.W.Fast.te11698064438423848299]); (try rw [PySem.W.Fast.te2386780881361962483]); (try rw [PySem.W.Fast.te10994771534591457954]); (try rw [PySem.W.Fast.te479339242167458305]); (try rw [PySem.W.Fast.te16090120013241838585]); (try rw [PySem.W.Fast.te7317090234206586261]); (try rw [PySem.W.Fast.te7369524293546568484]); (try rw [PySem.W.Fast.te4857012375875476094]); (try rw [PySem.W.Fast.te3471404346716756564]); kernel_rfl)
noncomputable def q0 : Program := { pw with main := { pw.main with body := [st 34] } }
theorem hK (P : Params) : as0 = (KK P).map (·.1) := by kernel_rfl
noncomputable def H0 : Hook := kHook KK as0 hK
noncomputable def r0 : OpenRow := PySem.Challenge.rw_qd0064_01.row
noncomputable abbrev X0 : Shared → Bool := fun s => xlAt q0 [] s && recOk (OpenRow.toRowW PySem.Challenge.rw_qd0064_01.row).records s
noncomputable abbrev mods0 : List Str := importedModules pw.main.body
theorem k1 (w : World) (os : OsState) : (staticsOk mods0 (boot_heap w.params) (sfh w.params) && namesBound pw (sfh w.params) && gensDone ⟨sfh w.params, Array.mk [], {}, 815, os⟩ && laidKept (boot_heap w.params) (sfh w.params)) = true := by ((try rw [PySem.W.Fast.te8920871248978507458]); (try rw [PySem.W.Fast.te5923862056798008813]); (try rw [PySem.W.Fast.te12879404354523853263]); (try rw [PySem.W.Fast.te18344453789297297638]); (try rw [PySem.W.Fast.te12749700546528644094]); (try rw [PySem.W.Fast.te10880121769531294198]); (try rw [PySem.W.Fast.te14722251495701143533]); (try rw [PySem.W.Fast.te821141287760084731]); (try rw [PySem.W.Fast.te5160383126252970620]); (try rw [PySem.W.Fast.te5991557255702980513]); (try rw [PySem.W.Fast.te3399658132070893891]); (try rw [PySem.W.Fast.te7409074990110511671]); (try rw [PySem.W.Fast.te13664370479719496447]); (try rw [PySem.W.Fast.te3247288618530077131]); (try rw [PySem.W.Fast.te11698064438423848299]); (try rw [PySem.W.Fast.te2386780881361962483]); (try rw [PySem.W.Fast.te10994771534591457954]); (try rw [PySem.W.Fast.te479339242167458305]); (try rw [PySem.W.Fast.te16090120013241838585]); (try rw [PySem.W.Fast.te7317090234206586261]); (try rw [PySem.W.Fast.te7369524293546568484]); (try rw [PySem.W.Fast.te4857012375875476094]); (try rw [PySem.W.Fast.te3471404346716756564]); kernel_rfl)
theorem k2 (w : World) (os : OsState) : openSeen q0 loose0 mods0 X0 true ⟨sfh w.params, Array.mk [], {}, 815, os⟩ = openGood q0 loose0 := by
  unfold openSeen openGood
  refine looks_pair ?_ (looks_pair ?_ (looks_pair ?_ (looks_pair ?_ (looks_pair ?_ (looks_pair ?_ (looks_pair ?_ (looks_pair ?_ ?_)))))))
  all_goals ((try rw [PySem.W.Fast.te8920871248978507458]); (try rw [PySem.W.Fast.te5923862056798008813]); (try rw [PySem.W.Fast.te12879404354523853263]); (try rw [PySem.W.Fast.te18344453789297297638]); (try rw [PySem.W.Fast.te12749700546528644094]); (try rw [PySem.W.Fast.te10880121769531294198]); (try rw [PySem.W.Fast.te14722251495701143533]); (try rw [PySem.W.Fast.te821141287760084731]); (try rw [PySem.W.Fast.te5160383126252970620]); (try rw [PySem.W.Fast.te5991557255702980513]); (try rw [PySem.W.Fast.te3399658132070893891]); (try rw [PySem.W.Fast.te7409074990110511671]); (try rw [PySem.W.Fast.te13664370479719496447]); (try rw [PySem.W.Fast.te3247288618530077131]); (try rw [PySem.W.Fast.te11698064438423848299]); (try rw [PySem.W.Fast.te2386780881361962483]); (try rw [PySem.W.Fast.te10994771534591457954]); (try rw [PySem.W.Fast.te479339242167458305]); (try rw [PySem.W.Fast.te16090120013241838585]); (try rw [PySem.W.Fast.te7317090234206586261]); (try rw [PySem.W.Fast.te7369524293546568484]); (try rw [PySem.W.Fast.te4857012375875476094]); (try rw [PySem.W.Fast.te3471404346716756564]); kernel_rfl)
theorem k3 (w : World) (os : OsState) : H0.obs ⟨sfh w.params, Array.mk [], {}, 815, os⟩ = H0.val w := by
  show as0.map (sfh w.params).get? = (KK w.params).map fun p => some p.2
  kernel_rfl
theorem left0 : LeftO pw q0 loose0 X0 H0.obs H0.val 6310 := LeftO.of_pieces (H₀ := boot_heap) (H₁ := sfh) (gs₀ := Array.mk []) (gs₁ := Array.mk []) (d₀ := boot_drawn) (d₁ := {}) (k₀ := boot_toks) (k₁ := 815) (m₀ := m0) (ann := ann0) (M := M0) open0 size0 (fun w os => run0 w os) (by decide) (fun w => by
  funext os
  exact looks_pair (k1 w os) (looks_pair (k2 w os) (k3 w os)))
theorem said : OpenLaw.wellSaid PySem.Challenge.rw_qd0064_01 = true := by
  unfold OpenLaw.wellSaid OpenRow.wellSaid OpenRow.partSaid looksOpen
  repeat' (with_reducible refine look_both ?_ ?_)
  all_goals ((try rw [PySem.W.Fast.te11788848310118352699]); (try rw [PySem.W.Fast.te9807087744658564304]); (try rw [PySem.W.Fast.te12862048085361865435]); (try rw [PySem.W.Fast.te8377067652309620493]); (try rw [PySem.W.Fast.te18344453789297297638]); (try rw [PySem.W.Fast.te14412699480532031325]); (try rw [PySem.W.Fast.te8326940854005059898]); (try rw [PySem.W.Fast.te5923862056798008813]); (try rw [PySem.W.Fast.te17691160309236699985]); (try rw [PySem.W.Fast.te13343964577679436407]); (try rw [PySem.W.Fast.te17119622794617984870]); (try rw [PySem.W.Fast.te17868728402115742887]); (try rw [PySem.W.Fast.te13582783067957832011]); (try rw [PySem.W.Fast.te5318747976498570220]); (try rw [PySem.W.Fast.te4274047373036748609]); (try rw [PySem.W.Fast.te12749700546528644094]); (try rw [PySem.W.Fast.te10501279942588096481]); (try rw [PySem.W.Fast.te8179353310426384613]); (try rw [PySem.W.Fast.te797321630700447069]); (try rw [PySem.W.Fast.te9572597257264208301]); (try rw [PySem.W.Fast.te9558739934217749035]); (try rw [PySem.W.Fast.te16286561074155671207]); (try rw [PySem.W.Fast.te6984425678791042302]); (try rw [PySem.W.Fast.te12879404354523853263]); (try rw [PySem.W.Fast.te482687673346738481]); (try rw [PySem.W.Fast.te17095254045102204799]); (try rw [PySem.W.Fast.te10792542408131684335]); (try rw [PySem.W.Fast.te7723801398212525404]); (try rw [PySem.W.Fast.te3471404346716756564]); (try rw [PySem.W.Fast.te2357444279172408678]); (try rw [PySem.W.Fast.te4857012375875476094]); (try rw [PySem.W.Fast.te2368527892694137696]); (try rw [PySem.W.Fast.named_eq]); kernel_rfl)
end Hd
namespace Mk
theorem kept_all (w : World) : PySem.Challenge.rw_qd0064_01.row.prog = PySem.Challenge.rw_qd0064_01.row.prog ∧ Hd.KK w.params = Hd.KK w.params := by
  k_fill
  exact ⟨rfl, rfl⟩
/-- the objects of h stay in h', but those at D -/
noncomputable def Ext (D : List Addr) (h h' : Heap) : Prop := ∀ b o, b ∉ D → h.get? b = some o → h'.get? b = some o
theorem Ext.refl {D h} : Ext D h h := fun _ _ _ e => e
theorem Ext.trans {D h h' h''} (a : Ext D h h') (b : Ext D h' h'') : Ext D h h'' := fun x o n e => b x o n (a x o n e)
theorem Ext.mono {D D' : List Addr} {h h'} (a : Ext D h h') (s : ∀ x, x ∈ D → x ∈ D') : Ext D' h h' := fun x o n e => a x o (fun q => n (s _ q)) e
theorem ext_of {D : List Addr} {h h' : Heap} {L m} (F : Fr (hideAll h D) L h' m) : Ext D h h' := fun b o n e => F.keep b o (hideAll_get D e n)

/-- what every text here needs of the heap -/
structure Good (w : World) (p : Program) (loose : List Str) (mg mb : Str → Option Value) (b : Heap) : Prop where
  X : (Hd.KK w.params).In b
  T : TopRead p loose mg mb b
theorem Good.keeps {w p loose mg mb b h} (G : Good w p loose mg mb b) (k : b.StaysIn h) : Good w p loose mg mb h := ⟨G.X.keeps k, G.T.keeps k⟩

/-- the heap h stands over b, and what is written at fp is the call's own -/
structure Own (b h : Heap) (fp : List (Addr × Obj)) : Prop where
  st : b.StaysIn h
  at_ : ∀ p ∈ fp, h.get? p.1 = some p.2
  new : ∀ p ∈ fp, b.get? p.1 = none
theorem Own.hide {b h : Heap} {fp} (O : Own b h fp) : b.StaysIn (hideAll h (fp.map (·.1))) := fun x o e => hideAll_get _ (O.st x o e) fun q => by
  obtain ⟨p, hp, rfl⟩ := List.mem_map.mp q
  rw [O.new p hp] at e; cases e

theorem enter_fn {w : World} {p : Program} {loose : List Str} {mg mb : Str → Option Value} {b : Heap} {A : Around} {s : Shared} {R : Result → Shared → Prop} {fp : List (Addr × Obj)}
    {name qual : Str} {params : Arguments} {body : List Stmt} {scope : Scope} {dV kV doc pm cdv ct oc : Value} {an od : Option Addr} {osl : Array (Option Value)} {f : Addr} {args : Args} {binds : List (Str × Value)}
    (G : Good w p loose mg mb b) (O : Own b s.heap fp)
    (ho : (Hd.KK w.params).lookup f = some ⟨oc, od, .func (fnOf name qual params body scope dV kV doc pm an cdv ct), osl⟩) (hcd : codeIn (Hd.KK w.params) cdv qual = true)
    (hroom : A.depth < recursionLimit)
    (hbind : BindsTo s (fnOf name qual params body scope dV kV doc pm an cdv ct) args binds) (hloc : ∀ y ∈ binds, scope.names.lookup y.1 = some .local)
    (h : ∀ L h₁, s.heap.objs.size ≤ L → Fr (hideAll s.heap (fp.map (·.1))) L h₁ (fun y => binds.reverse.lookup y) → News (hideAll s.heap (fp.map (·.1))) L h₁ fp →
      (Hd.KK w.params).In (hideAll s.heap (fp.map (·.1))) → TopRead p loose mg mb (hideAll s.heap (fp.map (·.1))) →
      wpAny (model PySem.Challenge.rw_qd0064_01.row.prog w) (A.deeper (envOf qual scope L f cdv)) (execs body (envOf qual scope L f cdv))
        (fun fl s' => R (.ok (.ret (match fl with | .ret v => v | _ => .none))) s')
        (fun e s' => wpAny (model PySem.Challenge.rw_qd0064_01.row.prog w) (A.deeper (envOf qual scope L f cdv)) (leaving (envOf qual scope L f cdv) e) (fun _ s'' => R (.error e) s'') (fun e' s'' => R (.error e') s'') s')
        { s with heap := h₁, toks := s.toks + binds.length })
    (hco : scope.isCoroutine = false) (hgen : scope.isGenerator = false) (hk : scope.kind = .function)
    (hcell : ∀ x ∈ scope.names, x.2 ≠ .cell) : codeAny (model PySem.Challenge.rw_qd0064_01.row.prog w) A (.call (.ref f) args) R s := by
  refine codeAny_call_def (fd := fnOf name qual params body scope dV kV doc pm an cdv ct) (body := body) (binds := binds) hroom (O.st _ _ (G.X _ _ ho)) rfl (G.T.nolimit.keeps O.st) (codeRec_of (G.X.keeps O.st) hcd) rfl hbind hcell hloc (fun h₁ hns hk₁ => ?_) hco hgen hk
  have GH := G.keeps O.hide
  exact h s.heap.objs.size h₁ (Nat.le_refl _) ⟨hns, fun x o e => hk₁ x o (of_hideAll _ e), Nat.le_of_eq (hideAll_size _ _)⟩
    (fun q hq => ⟨hk₁ _ _ (O.at_ q hq), Nat.ne_of_lt (Heap.lt_size (O.at_ q hq)), hideAll_none _ (List.mem_map_of_mem hq)⟩) GH.X GH.T

theorem enter_ret {w : World} {p : Program} {loose : List Str} {mg mb : Str → Option Value} {b : Heap} {A : Around} {s : Shared} {Q E : Value → Shared → Prop} {fp : List (Addr × Obj)}
    {name qual : Str} {params : Arguments} {body : List Stmt} {scope : Scope} {dV kV doc pm cdv ct oc : Value} {an od : Option Addr} {osl : Array (Option Value)} {f : Addr} {args : List Value} {binds : List (Str × Value)}
    (G : Good w p loose mg mb b) (O : Own b s.heap fp)
    (ho : (Hd.KK w.params).lookup f = some ⟨oc, od, .func (fnOf name qual params body scope dV kV doc pm an cdv ct), osl⟩) (hcd : codeIn (Hd.KK w.params) cdv qual = true)
    (hroom : A.depth < recursionLimit)
    (hbind : BindsTo s (fnOf name qual params body scope dV kV doc pm an cdv ct) ⟨args, []⟩ binds) (hloc : ∀ y ∈ binds, scope.names.lookup y.1 = some .local)
    (h : ∀ L h₁, s.heap.objs.size ≤ L → Fr (hideAll s.heap (fp.map (·.1))) L h₁ (fun y => binds.reverse.lookup y) → News (hideAll s.heap (fp.map (·.1))) L h₁ fp →
      (Hd.KK w.params).In (hideAll s.heap (fp.map (·.1))) → TopRead p loose mg mb (hideAll s.heap (fp.map (·.1))) →
      wpAny (model PySem.Challenge.rw_qd0064_01.row.prog w) (A.deeper (envOf qual scope L f cdv)) (execs body (envOf qual scope L f cdv))
        (fun fl s' => Q (match fl with | .ret v => v | _ => .none) s') (fun _ _ => False)
        { s with heap := h₁, toks := s.toks + binds.length })
    (hco : scope.isCoroutine = false) (hgen : scope.isGenerator = false) (hk : scope.kind = .function)
    (hcell : ∀ x ∈ scope.names, x.2 ≠ .cell) : wpAny (model PySem.Challenge.rw_qd0064_01.row.prog w) A (call (.ref f) args) Q E s :=
  wpAny_call (enter_fn G O ho hcd hroom hbind hloc (fun L h₁ l F N X T => wpAny_mono (h L h₁ l F N X T) (fun _ _ x => x) (fun _ _ x => x.elim)) hco hgen hk hcell)

/-- a text as the list of its signs -/
noncomputable def tx (l : List Nat) : Str := ⟨l.toArray⟩
@[simp] theorem tx_cps (l : List Nat) : (tx l).cps.toList = l := by simp [tx]
@[simp] theorem tx_cps' (l : List Nat) : (tx l).cps = l.toArray := rfl
@[simp] theorem tx_length (l : List Nat) : (tx l).length = l.length := by simp [tx, Str.length]
theorem tx_inj {a b : List Nat} : tx a = tx b ↔ a = b := ⟨fun h => by have := congrArg (fun x => x.cps.toList) h; simpa using this, fun h => h ▸ rfl⟩
theorem tx_of (x : Str) : x = tx x.cps.toList := by cases x; simp [tx]
theorem tx_append (a b : List Nat) : tx a ++ tx b = tx (a ++ b) := by
  show Str.append _ _ = _
  simp [Str.append, tx]
theorem filterMap_range (l : List Nat) (i : Nat) : ∀ n, i + n ≤ l.length → (List.range n).filterMap (fun k => l[i + k]?) = (l.drop i).take n := by
  intro n
  induction n with
  | zero => intro _; simp
  | succ n ih =>
    intro h
    rw [List.range_succ, List.filterMap_append, ih (by omega)]
    have hl : i + n < l.length := by omega
    have e : l[i + n]? = some l[i + n] := List.getElem?_eq_getElem hl
    simp only [List.filterMap_cons, e, List.filterMap_nil]
    rw [List.take_add_one]
    simp [List.getElem?_drop, e]
theorem indices_tx (i j n : Nat) (h : i ≤ j) : Builtin.Str.strSliceIndices (some (i : Int)) (some (j : Int)) 1 n = (List.range (min j n - min i n)).map fun k => min i n + k := by
  unfold Builtin.Str.strSliceIndices sliceRange
  have e1 : ¬ ((i : Int) < 0) := by omega
  have e2 : ¬ ((j : Int) < 0) := by omega
  simp only [e1, e2, if_false, show (1 : Int) > 0 by decide, if_true]
  have a : max 0 (min (i : Int) n) = ((min i n : Nat) : Int) := by omega
  have b : max 0 (min (j : Int) n) = ((min j n : Nat) : Int) := by omega
  rw [a, b]
  clear a b e1 e2 h
  generalize min i n = u
  generalize min j n = v
  have c : (if ((u : Nat) : Int) < ((v : Nat) : Int) then (((v : Nat) : Int) - ((u : Nat) : Int) + 1 - 1) / 1 else 0).toNat = v - u := by
    split <;> omega
  rw [c]
  clear c
  refine List.map_congr_left fun k _ => ?_
  omega
theorem slice_tx (l : List Nat) (i j : Nat) (h : i ≤ j) : Txt.slice (tx l) (some (i : Int)) (some (j : Int)) = tx ((l.drop i).take (j - i)) := by
  unfold Txt.slice
  rw [indices_tx i j _ h, tx_length]
  split
  · rename_i q
    simp only [beq_self_eq_true, Bool.true_and, List.length_map, List.length_range, beq_iff_eq] at q
    rw [tx_inj]
    by_cases hn : l.length = 0
    · have : l = [] := List.length_eq_zero_iff.mp hn
      subst this; simp
    · have h0 : i = 0 := by omega
      subst h0
      rw [List.drop_zero, List.take_of_length_le (by omega)]
  · show _ = Str.mk _
    congr 1
    rw [List.filterMap_map]
    have := filterMap_range l (min i l.length) (min j l.length - min i l.length) (by omega)
    simp only [Function.comp_def, tx_cps', List.getElem?_toArray]
    rw [this]
    congr 1
    by_cases hi : i ≤ l.length
    · rw [Nat.min_eq_left hi]
      by_cases hj : j ≤ l.length
      · rw [Nat.min_eq_left hj]
      · rw [Nat.min_eq_right (by omega), List.take_of_length_le (by simp), List.take_of_length_le (by simp; omega)]
    · rw [Nat.min_eq_right (by omega), List.drop_of_length_le (by omega), List.drop_of_length_le (by omega)]
      simp
theorem beq_tx (a b : List Nat) : (tx a == tx b) = (a == b) := by
  rw [Bool.eq_iff_iff, beq_iff_eq, beq_iff_eq, tx_inj]
theorem getItem_tx {prog : Program} {w : World} {A : Around} {E : Value → Shared → Prop} {s : Shared} {l : List Nat} {t u : Tok} {i : Int} {c : Nat} {Q : Value → Shared → Prop} (h0 : 0 ≤ i) (hi : i < 2 ^ 63) (hc : l[i.toNat]? = some c)
    (h : Q (.str (tx [c]) s.toks) { s with toks := s.toks + 1 }) : wpAny (model prog w) A (getItem (.str (tx l) t) (.int i u)) Q E s := by
  refine P.getItem_str (c := c) (by simp; omega) ?_ h
  unfold seqIndex?
  have hlt : i.toNat < l.length := (List.getElem?_eq_some_iff.mp hc).1
  have e : ¬ i < 0 := by omega
  simp only [e, if_false, tx_length]
  rw [if_pos (by simp; omega)]
  simpa using hc

/-- how a turn of a while ends -/
noncomputable def WStep (h₀ : Heap) (L : Addr) (s : Shared) (J : Nat → (Str → Option Value) → List (Addr × Obj) → Prop) (Q : Flow → Shared → Prop) (n : Nat) (f : Flow) (s₃ : Shared) : Prop :=
  match f with
  | .next | .cont => ∃ h' tk m₂ news₂ n', s₃ = { s with heap := h', toks := tk } ∧ Fr h₀ L h' m₂ ∧ News h₀ L h' news₂ ∧ n' < n ∧ J n' m₂ news₂
  | .brk => Q .next s₃
  | .ret v => Q (.ret v) s₃
section
variable {prog : Program} {w : World} {A : Around} {E : Value → Shared → Prop} {Q : Flow → Shared → Prop} {s : Shared} {env : Env} {h₀ : Heap} {L : Addr}
theorem while_mk {test : Expr} {body : List Stmt} {pos : Pos} {m : Str → Option Value} {news : List (Addr × Obj)} (J : Nat → (Str → Option Value) → List (Addr × Obj) → Prop) {n₀ : Nat}
    (F : Fr h₀ L s.heap m) (N : News h₀ L s.heap news) (hJ : J n₀ m news)
    (turn : ∀ n m₁ news₁ h₁ tk₁, Fr h₀ L h₁ m₁ → News h₀ L h₁ news₁ → J n m₁ news₁ →
      wpAny (model prog w) A (isTrue test env (eval test env)) (fun b s₂ =>
        if b = true then wpAny (model prog w) A (execs body env) (WStep h₀ L s J Q n) E s₂ else Q .next s₂) E { s with heap := h₁, toks := tk₁ })
    (hE : PassesOwn (model prog w) A env E := by passes_own) :
    wpAny (model prog w) A (exec (.While test body [] pos) env) Q E s := by
  refine wpAny_While (codeAny_whileLoop (fun n s' => ∃ h₁ tk₁ m₁ news₁, s' = { s with heap := h₁, toks := tk₁ } ∧ Fr h₀ L h₁ m₁ ∧ News h₀ L h₁ news₁ ∧ J n m₁ news₁) ?_ n₀ ⟨s.heap, s.toks, m, news, rfl, F, N, hJ⟩)
  rintro n s' ⟨h₁, tk₁, m₁, news₁, rfl, F₁, N₁, J₁⟩
  refine wpAny_mono (turn n m₁ news₁ h₁ tk₁ F₁ N₁ J₁) (fun b s₂ h₂ => ?_) hE
  cases b with
  | false =>
    simp only [Bool.false_eq_true, if_false] at h₂ ⊢
    exact wpAny_execs_nil h₂
  | true =>
    simp only [if_true] at h₂ ⊢
    refine wpAny_mono h₂ (fun f s₃ h₃ => ?_) hE
    cases f with
    | next =>
      obtain ⟨h', tk, m₂, news₂, n', rfl, F₂, N₂, hn, J₂⟩ := h₃
      exact ⟨n', hn, h', tk, m₂, news₂, rfl, F₂, N₂, J₂⟩
    | cont =>
      obtain ⟨h', tk, m₂, news₂, n', rfl, F₂, N₂, hn, J₂⟩ := h₃
      exact ⟨n', hn, h', tk, m₂, news₂, rfl, F₂, N₂, J₂⟩
    | brk => exact h₃
    | ret v => exact h₃
theorem WStep.next {h' : Heap} {J : Nat → (Str → Option Value) → List (Addr × Obj) → Prop} {n n' tk : Nat} {m₂ : Str → Option Value} {news₂ : List (Addr × Obj)}
    (F : Fr h₀ L h' m₂) (N : News h₀ L h' news₂) (hn : n' < n) (hJ : J n' m₂ news₂) : WStep h₀ L s J Q n .next { s with heap := h', toks := tk } :=
  ⟨h', tk, m₂, news₂, n', rfl, F, N, hn, hJ⟩
/-- the names do not change -/
noncomputable def WStepN (h₀ : Heap) (L : Addr) (m : Str → Option Value) (s : Shared) (J : Nat → List (Addr × Obj) → Prop) (Q : Flow → Shared → Prop) (n : Nat) (f : Flow) (s₃ : Shared) : Prop :=
  match f with
  | .next | .cont => ∃ h' tk news₂ n', s₃ = { s with heap := h', toks := tk } ∧ Fr h₀ L h' m ∧ News h₀ L h' news₂ ∧ n' < n ∧ J n' news₂
  | .brk => Q .next s₃
  | .ret v => Q (.ret v) s₃
theorem while_mkN {test : Expr} {body : List Stmt} {pos : Pos} {m : Str → Option Value} {news : List (Addr × Obj)} (J : Nat → List (Addr × Obj) → Prop) {n₀ : Nat}
    (F : Fr h₀ L s.heap m) (N : News h₀ L s.heap news) (hJ : J n₀ news)
    (turn : ∀ n news₁ h₁ tk₁, Fr h₀ L h₁ m → News h₀ L h₁ news₁ → J n news₁ →
      wpAny (model prog w) A (isTrue test env (eval test env)) (fun b s₂ =>
        if b = true then wpAny (model prog w) A (execs body env) (WStepN h₀ L m s J Q n) E s₂ else Q .next s₂) E { s with heap := h₁, toks := tk₁ })
    (hE : PassesOwn (model prog w) A env E := by passes_own) :
    wpAny (model prog w) A (exec (.While test body [] pos) env) Q E s := by
  refine while_mk (fun n m₁ news₁ => m₁ = m ∧ J n news₁) F N ⟨rfl, hJ⟩ ?_ hE
  rintro n m₁ news₁ h₁ tk₁ F₁ N₁ ⟨rfl, hJ₁⟩
  refine wpAny_mono (turn n news₁ h₁ tk₁ F₁ N₁ hJ₁) (fun b s₂ h₂ => ?_) (fun _ _ e => e)
  cases b with
  | false => simpa using h₂
  | true =>
    simp only [if_true] at h₂ ⊢
    refine wpAny_mono h₂ (fun f s₃ h₃ => ?_) (fun _ _ e => e)
    cases f with
    | next => obtain ⟨h', tk, news₂, n', rfl, F₂, N₂, hn, J₂⟩ := h₃; exact ⟨h', tk, _, news₂, n', rfl, F₂, N₂, hn, rfl, J₂⟩
    | cont => obtain ⟨h', tk, news₂, n', rfl, F₂, N₂, hn, J₂⟩ := h₃; exact ⟨h', tk, _, news₂, n', rfl, F₂, N₂, hn, rfl, J₂⟩
    | brk => exact h₃
    | ret v => exact h₃
theorem WStepN.next {h' : Heap} {m : Str → Option Value} {J : Nat → List (Addr × Obj) → Prop} {n n' tk : Nat} {news₂ : List (Addr × Obj)}
    (F : Fr h₀ L h' m) (N : News h₀ L h' news₂) (hn : n' < n) (hJ : J n' news₂) : WStepN h₀ L m s J Q n .next { s with heap := h', toks := tk } :=
  ⟨h', tk, news₂, n', rfl, F, N, hn, hJ⟩
end

theorem fr_ext {h₀ h h' : Heap} {L : Addr} {m : Str → Option Value} {D : List Addr} (F : Fr h₀ L h m) (hL : L ∉ D) (hD : ∀ a ∈ D, h₀.get? a = none) (e : Ext D h h') : Fr h₀ L h' m := by
  obtain ⟨o, es, ep, ho, hd, hk, hf⟩ := F.ns
  exact ⟨⟨o, es, ep, e L o hL ho, hd, hk, hf⟩, fun b q hb => e b q (fun hm => by rw [hD b hm] at hb; cases hb) (F.keep b q hb), F.above⟩
theorem news_ext {h₀ h h' : Heap} {L : Addr} {D : List Addr} {news news' : List (Addr × Obj)} (N : News h₀ L h news) (e : Ext D h h')
    (hn : ∀ p ∈ news', (p ∈ news ∧ p.1 ∉ D) ∨ (h'.get? p.1 = some p.2 ∧ p.1 ≠ L ∧ h₀.get? p.1 = none)) : News h₀ L h' news' := fun p hp => by
  rcases hn p hp with ⟨a, b⟩ | a
  · exact ⟨e _ _ b (N p a).1, (N p a).2⟩
  · exact a
/-- nothing was changed -/
theorem use0 {h₀ h h' : Heap} {L : Addr} {m : Str → Option Value} {news : List (Addr × Obj)} (F : Fr h₀ L h m) (N : News h₀ L h news) (e : Ext [] h h') : Fr h₀ L h' m ∧ News h₀ L h' news :=
  ⟨fr_ext F (by simp) (by simp) e, news_ext N e fun p hp => .inl ⟨hp, by simp⟩⟩
/-- one object was changed -/
theorem use1 {h₀ h h' : Heap} {L d : Addr} {o o' : Obj} {m : Str → Option Value} {news : List (Addr × Obj)} {g : Obj → List (Addr × Obj)} (F : Fr h₀ L h m) (N : News h₀ L h news) (U : UpdF d o news g)
    (e : Ext [d] h h') (ho : h'.get? d = some o') : Fr h₀ L h' m ∧ News h₀ L h' (g o') := by
  obtain ⟨pre, post, rfl, hg, h1, h2⟩ := U.split
  have hd := N (d, o) (List.mem_append_right _ (.head _))
  refine ⟨fr_ext F (by simpa using Ne.symm hd.2.1) (by simpa using hd.2.2) e, ?_⟩
  rw [hg]
  refine news_ext N e fun p hp => ?_
  rcases List.mem_append.mp hp with hp | hp
  · exact .inl ⟨List.mem_append_left _ hp, by simpa using h1 p hp⟩
  · rcases List.mem_cons.mp hp with rfl | hp
    · exact .inr ⟨ho, hd.2⟩
    · exact .inl ⟨List.mem_append_right _ (.tail _ hp), by simpa using h2 p hp⟩
/-- what a def's end says of the heap that it was called in -/
theorem ext_end {h h' : Heap} {L : Addr} {m : Str → Option Value} {fp : List (Addr × Obj)} {D : List Addr} {b : Heap} (O : Own b h fp) (F : Fr (hideAll h (fp.map (·.1))) L h' m)
    (hfp : ∀ p ∈ fp, p.1 ∉ D → h'.get? p.1 = some p.2) : Ext D h h' := fun x o n e => by
  by_cases hx : x ∈ fp.map (·.1)
  · obtain ⟨p, hp, rfl⟩ := List.mem_map.mp hx
    have := O.at_ p hp
    rw [e] at this
    cases this
    exact hfp p hp n
  · exact ext_of F x o hx e
theorem look_ne {m : Str → Option Value} {x z : Str} {u : Option Value} {v : Value} (h : x ≠ z) (e : m x = some v) : (fun y => if y = z then u else m y) x = some v := by simp [h, e]
theorem q_val {Q : Value → Shared → Prop} {v v' : Value} {s : Shared} (e : v = v') (h : Q v' s) : Q v s := e ▸ h

/-- the dict of a cursor -/
noncomputable abbrev curD (P : Params) (T : Str) (k : Int) (a1 a2 a3 a4 : Nat) : Obj :=
  dictOf [⟨PyData.keyHash P (Str.ofString "text"), .str (Str.ofString "text") a1, .str T a2⟩, ⟨PyData.keyHash P (Str.ofString "at"), .str (Str.ofString "at") a3, .int k a4⟩] 2
theorem own_cur {h₀ h : Heap} {L : Addr} {m : Str → Option Value} {news : List (Addr × Obj)} {x y : Addr × Obj} (F : Fr h₀ L h m) (N : News h₀ L h news) (hc : x ∈ news) (hd : y ∈ news) : Own h₀ h [x, y] :=
  ⟨F.keep, fun p hp => by
    rcases List.mem_cons.mp hp with rfl | hp
    · exact N.get hc
    · rw [List.mem_singleton.mp hp]; exact N.get hd, fun p hp => by
    rcases List.mem_cons.mp hp with rfl | hp
    · exact N.fresh hc
    · rw [List.mem_singleton.mp hp]; exact N.fresh hd⟩

theorem sub_tx {prog : Program} {w : World} {A : Around} {E : Value → Shared → Prop} {s : Shared} {value slice : Expr} {l : List Nat} {t u : Tok} {i : Int} {j c : Nat} {Q : Value → Shared → Prop} (hc : l[j]? = some c) (hj : i = (j : Int)) (hi : l.length ≤ 1048576)
    (h : Q (.str (tx [c]) s.toks) { s with toks := s.toks + 1 })
    (hs : subscripted slice false (.str (tx l) t) (.int i u) = operate [.str (tx l) t, .int i u] (getItem (.str (tx l) t) (.int i u)) := by with_unfolding_all rfl) : wpAny (model prog w) A (subscriptTail value slice (.str (tx l) t) (.int i u)) Q E s :=
  tail_any (typeIs_str s (tx l) t) F.slot_str_getitem.lookup (getItem_tx (by omega) (by have := (List.getElem?_eq_some_iff.mp hc).1; omega) (by rw [hj]; simpa using hc) h) hs
theorem in_tx {prog : Program} {w : World} {A : Around} {E : Value → Shared → Prop} {s : Shared} {sg : List Nat} {c : Nat} {t u : Tok} {Q : Value → Shared → Prop}
    (h : Q (.bool (decide (c ∈ sg))) s) : wpAny (model prog w) A (compareOp .In (.str (tx [c]) u) (.str (tx sg) t)) Q E s := by
  refine P.in_str ?_
  have e : tx [c] = ⟨#[c]⟩ := rfl
  rw [e, StrLaws.found_one, tx_cps]
  exact h

theorem ext_cur1 {h₀ h h' : Heap} {L c d : Addr} {oc od : Obj} {m : Str → Option Value} (O : Own h₀ h [(c, oc), (d, od)]) (F : Fr (hideAll h ([(c, oc), (d, od)].map (·.1))) L h' m) (hc : h'.get? c = some oc) : Ext [d] h h' :=
  ext_end O F fun p hp hn => by
    rcases List.mem_cons.mp hp with rfl | hp
    · exact hc
    · rw [List.mem_singleton.mp hp] at hn; exact absurd (List.Mem.head _) hn
local macro_rules | `(tactic| k_in) => `(tactic| first | with_reducible assumption | exact Frag.In.keeps (by k_asm) (Fr.keep (by k_asm)))
local macro_rules | `(tactic| walk_at "mk_enter") => `(tactic| (
  (case h1 => k_dflt k_is); (case h2 => k_dflt k_is); (case h3 => first | exact BindsTo.of_eq rfl | exact binds_K (Good.X (Good.keeps (by with_reducible assumption) (Own.st (by with_reducible assumption)))) rfl (by k_dflt k_is) rfl rfl rfl); (case h4 => exact locs rfl);
  (case c1 => rfl); (case c2 => rfl); (case c3 => rfl); (case c4 => decide)))
local macro_rules | `(tactic| tb_start) => `(tactic| first | (with_reducible show wpAny _ _ (exec (Stmt.While _ _ _ _) _) _ _ _) | (with_reducible show wpAny _ _ (exec (Stmt.For _ _ _ _ _) _) _ _ _))
local macro_rules | `(tactic| walk_at "mk_tail") => `(tactic| first | (k_unfold; (try dsimp only)) | (walk1; (try dsimp only)) | (dsimp only; walk1) | (dsimp only; k_unfold; (try dsimp only)))
local macro_rules | `(tactic| walk_at "mk_in") => `(tactic| (intros; (try k_sweep)))
local macro_rules | `(tactic| walk_at "mk_inN") => `(tactic| (intros; (try ((with_reducible rename News _ _ _ _ => Nz); dsimp only at Nz)); (try k_sweep)))
local macro_rules | `(tactic| walk_at "mk_inL") => `(tactic| (intros; (with_reducible rename (∀ p ∈ _, _) => lz); replace lz := allLt_of lz; simp only [AllLt, and_true] at lz; (try k_sweep)))
local macro_rules | `(tactic| walk_at "mk_inLd") => `(tactic| (intros; (try ((with_reducible rename News _ _ _ _ => Nz); dsimp only [List.cons_append, List.nil_append] at Nz)); (with_reducible rename (∀ p ∈ _, _) => lz); replace lz := allLt_of lz; simp only [AllLt, and_true] at lz; (try k_sweep)))
local macro_rules | `(tactic| walk_at "mk_dl") => `(tactic| dsimp only [List.nil_append, List.cons_append, List.append_nil])
local macro_rules | `(tactic| walk_at "mk_go") => `(tactic| (repeat' ((fail_if_success tb_start); first | (tb_rel; (try dsimp only)) | (k_unfold; (try dsimp only)) | (walk1; (try dsimp only)) | (dsimp only; walk1) | (dsimp only; k_unfold; (try dsimp only)) | (dsimp only [List.nil_append, List.cons_append, List.append_nil]; first | (tb_rel; (try dsimp only)) | walk1) | (walk_at "mk_late"; (try dsimp only)))))
theorem room_le {a n k R : Nat} (h : a + n < R) (e : k ≤ n) : a + k < R := Nat.lt_of_le_of_lt (Nat.add_le_add_left e a) h
theorem room_0 {a n R : Nat} (h : a + n < R) : a < R := Nat.lt_of_le_of_lt (Nat.le_add_right a n) h
theorem room_deep {A : Around} {env : Env} {k : Nat} (h : A.depth + (k + 1) < recursionLimit) : (A.deeper env).depth + k < recursionLimit := by rw [depth_deeper]; omega
theorem room_deep0 {A : Around} {env : Env} (h : A.depth + 1 < recursionLimit) : (A.deeper env).depth < recursionLimit := by rw [depth_deeper]; exact h
local macro_rules | `(tactic| walk_at "mk_lt") => `(tactic| with_reducible first | assumption | exact And.left (by assumption) | exact And.left (And.right (by assumption)) | exact And.left (And.right (And.right (by assumption))) | exact And.left (And.right (And.right (And.right (by assumption)))) | exact And.right (by assumption) | exact And.right (And.right (by assumption)) | exact And.right (And.right (And.right (by assumption))))
local macro_rules | `(tactic| k_ne) => `(tactic| first | with_reducible assumption | (with_reducible exact Ne.symm (by assumption)) | (refine neN ?_; (try dsimp only); first | exact Nat.ne_of_lt (by walk_at "mk_lt") | exact Nat.ne_of_gt (by walk_at "mk_lt") | omega))
local macro_rules | `(tactic| walk_at "mk_room") => `(tactic| first | with_reducible assumption | exact room_le (by with_reducible assumption) (by decide) | exact room_0 (by with_reducible assumption) | (with_reducible refine room_deep ?_; walk_at "mk_room") | (with_reducible refine room_deep0 ?_; walk_at "mk_room") | ((try simp only [depth_under_make, depth_under_kw, depth_in1, depth_deeper, depth_caller, depth_mark]); omega))
local macro_rules | `(tactic| walk_at "mk_look") => `(tactic| first | exact rfl | with_reducible assumption | assumption | (refine look_ne (by decide) ?_; walk_at "mk_look"))
local macro_rules | `(tactic| walk_at "mk_late") => `(tactic| (
  (with_reducible show wpAny _ _ (eval (Expr.Name _ _) _) _ _ _);
  refine' ld ?F ?v ?_; (case F => k_asm); (case v => walk_at "mk_look")))
local macro_rules | `(tactic| tb_rel) => `(tactic| (
  (with_reducible show wpAny _ _ (eval (Expr.Name _ _) _) _ _ _);
  refine' ld ?F ?v ?_; (case F => k_asm); (case v => walk_at "mk_look")))
local macro_rules | `(tactic| tb_rel) => `(tactic| (
  (with_reducible show wpAny _ _ (execs (_ :: _) _) _ _ _);
  refine wpAny_execs_cons ?_))
local macro_rules | `(tactic| walk_at "mk_fact") => `(tactic| first | with_reducible assumption | omega | (simp; done) | (simp; omega))
section
variable {w : World} {p : Program} {loose : List Str} {mg mb : Str → Option Value} {h₀ : Heap} {A : Around} {s : Shared} {Q E : Value → Shared → Prop} {L : Addr} {m : Str → Option Value} {news : List (Addr × Obj)} {g : Obj → List (Addr × Obj)}
    {c d : Addr} {l : List Nat} {k : Nat} {a1 a2 a3 a4 : Nat}
set_option maxHeartbeats 4000000 in
theorem is_done_use
    (F₀ : Fr h₀ L s.heap m) (N₀ : News h₀ L s.heap news) (X₀ : (Hd.KK w.params).In h₀) (T₀ : TopRead p loose mg mb h₀)
    (hc : (c, instObj 236 d) ∈ news) (hd : (d, curD w.params (tx l) k a1 a2 a3 a4) ∈ news)
    (room : A.depth < recursionLimit) (hl : l.length ≤ 1048576)
    (ret : ∀ h' tk', Fr h₀ L h' m → News h₀ L h' news → Q (.bool (decide (l.length ≤ k))) { s with heap := h', toks := tk' }) :
    wpAny (model PySem.Challenge.rw_qd0064_01.row.prog w) A (call (.ref 133) [.ref c]) Q E s := by
  have O := own_cur F₀ N₀ hc hd
  have G : Good w p loose mg mb h₀ := ⟨X₀, T₀⟩
  refine' enter_ret (binds := [(Str.ofString "self", .ref c)]) G O ?h1 ?h2 room ?h3 ?h4 ?h ?c1 ?c2 ?c3 ?c4
  walk_at "mk_enter"
  intro L h₁ hL F N X T
  (repeat' ((fail_if_success tb_start); first | ((first | ((with_reducible show wpAny _ _ (call (Value.builtin "len") [Value.str _ _]) _ _ _); refine P.len_str (by (try simp only [tx_length]); omega) ?_) | tb_rel); (try dsimp only)) | walk_at "mk_tail" | (walk_at "mk_dl"; first | ((first | ((with_reducible show wpAny _ _ (call (Value.builtin "len") [Value.str _ _]) _ _ _); refine P.len_str (by (try simp only [tx_length]); omega) ?_) | tb_rel); (try dsimp only)) | walk1) | (walk_at "mk_late"; (try dsimp only))))
  (with_reducible rename Fr _ _ _ _ => FF); (with_reducible rename News _ _ _ _ => NN)
  have e := ext_end (D := []) O FF fun p hp _ => News.get NN hp
  obtain ⟨F', N'⟩ := use0 F₀ N₀ e
  refine q_val ?_ (ret _ _ F' N')
  simp
set_option maxHeartbeats 4000000 in
theorem starts_use {word : List Nat} {tw : Tok}
    (F₀ : Fr h₀ L s.heap m) (N₀ : News h₀ L s.heap news) (X₀ : (Hd.KK w.params).In h₀) (T₀ : TopRead p loose mg mb h₀)
    (hc : (c, instObj 236 d) ∈ news) (hd : (d, curD w.params (tx l) k a1 a2 a3 a4) ∈ news)
    (room : A.depth < recursionLimit) (hl : (tx l).length ≤ 1048576) (hw : (tx word).length ≤ 1048576) (hk : k ≤ 1048576)
    (ret : ∀ h' tk', Fr h₀ L h' m → News h₀ L h' news → Q (.bool ((l.drop k).take word.length == word)) { s with heap := h', toks := tk' }) :
    wpAny (model PySem.Challenge.rw_qd0064_01.row.prog w) A (call (.ref 148) [.ref c, .str (tx word) tw]) Q E s := by
  have O := own_cur F₀ N₀ hc hd
  have G : Good w p loose mg mb h₀ := ⟨X₀, T₀⟩
  refine' enter_ret (binds := [(Str.ofString "self", .ref c), (Str.ofString "word", .str (tx word) tw)]) G O ?h1 ?h2 room ?h3 ?h4 ?h ?c1 ?c2 ?c3 ?c4
  walk_at "mk_enter"
  intro L h₁ hL F N X T
  walk_at "mk_go"
  (with_reducible rename Fr _ _ _ _ => FF); (with_reducible rename News _ _ _ _ => NN)
  have e := ext_end (D := []) O FF fun p hp _ => News.get NN hp
  obtain ⟨F', N'⟩ := use0 F₀ N₀ e
  refine q_val ?_ (ret _ _ F' N')
  have e2 : (k : Int) + ((tx word).length : Int) = ((k + word.length : Nat) : Int) := by simp
  rw [e2, slice_tx _ _ _ (by omega), beq_tx, Nat.add_sub_cancel_left]
end

section
variable {w : World} {p : Program} {loose : List Str} {mg mb : Str → Option Value} {h₀ : Heap} {A : Around} {s : Shared} {Q E : Value → Shared → Prop} {L : Addr} {m : Str → Option Value} {news : List (Addr × Obj)} {g : Obj → List (Addr × Obj)}
    {c d : Addr} {l : List Nat} {k : Nat} {a1 a2 a3 a4 : Nat}
set_option maxHeartbeats 4000000 in
theorem skip_yes {word rest : List Nat} {tw : Tok}
    (F₀ : Fr h₀ L s.heap m) (N₀ : News h₀ L s.heap news) (X₀ : (Hd.KK w.params).In h₀) (T₀ : TopRead p loose mg mb h₀)
    (hc : (c, instObj 236 d) ∈ news) (hd : (d, curD w.params (tx l) k a1 a2 a3 a4) ∈ news) (U : UpdF d (curD w.params (tx l) k a1 a2 a3 a4) news g) (hcd : @Ne Nat c d)
    (room : A.depth + 1 < recursionLimit) (hl : (tx l).length ≤ 1048576) (hw : (tx word).length ≤ 1048576) (hk : k ≤ 1048576) (hr : l.drop k = word ++ rest)
    (ret : ∀ h' tk' b1 b2 b3 b4, Fr h₀ L h' m → News h₀ L h' (g (curD w.params (tx l) ((k + word.length : Nat) : Int) b1 b2 b3 b4)) → Q (.bool true) { s with heap := h', toks := tk' }) :
    wpAny (model PySem.Challenge.rw_qd0064_01.row.prog w) A (call (.ref 162) [.ref c, .str (tx word) tw]) Q E s := by
  have O := own_cur F₀ N₀ hc hd
  have G : Good w p loose mg mb h₀ := ⟨X₀, T₀⟩
  have hp : ((l.drop k).take word.length == word) = true := by rw [hr]; simp
  refine' enter_ret (binds := [(Str.ofString "self", .ref c), (Str.ofString "word", .str (tx word) tw)]) G O ?h1 ?h2 (by walk_at "mk_room") ?h3 ?h4 ?h ?c1 ?c2 ?c3 ?c4
  walk_at "mk_enter"
  intro L h₁ hL F N X T
  k_fold
  (repeat' ((fail_if_success tb_start); first | ((first | ((with_reducible show wpAny _ _ (call (Value.ref 148) [Value.ref _, Value.str (tx _) _]) _ _ _); refine starts_use (by k_asm) (by k_asm) (by k_asm) (by k_asm) (by k_dflt k_mem) (by k_dflt k_mem) (by walk_at "mk_room") (by walk_at "mk_fact") (by walk_at "mk_fact") (by walk_at "mk_fact") ?_; walk_at "mk_in") | tb_rel); (try dsimp only)) | walk_at "mk_tail" | (walk_at "mk_dl"; first | ((first | ((with_reducible show wpAny _ _ (call (Value.ref 148) [Value.ref _, Value.str (tx _) _]) _ _ _); refine starts_use (by k_asm) (by k_asm) (by k_asm) (by k_asm) (by k_dflt k_mem) (by k_dflt k_mem) (by walk_at "mk_room") (by walk_at "mk_fact") (by walk_at "mk_fact") (by walk_at "mk_fact") ?_; walk_at "mk_in") | tb_rel); (try dsimp only)) | walk1) | (walk_at "mk_late"; (try dsimp only))))
  (with_reducible rename Fr _ _ _ _ => FF); (with_reducible rename News _ _ _ _ => NN)
  have e := ext_cur1 O FF (News.get NN (List.Mem.head _))
  obtain ⟨F', N'⟩ := use1 F₀ N₀ U e (News.get NN (List.Mem.tail _ (List.Mem.head _)))
  have e2 : (k : Int) + ((tx word).length : Int) = ((k + word.length : Nat) : Int) := by simp
  rw [e2] at N'
  exact ret _ _ _ _ _ _ F' N'
set_option maxHeartbeats 4000000 in
theorem skip_no {ch : Nat} {tw : Tok}
    (F₀ : Fr h₀ L s.heap m) (N₀ : News h₀ L s.heap news) (X₀ : (Hd.KK w.params).In h₀) (T₀ : TopRead p loose mg mb h₀)
    (hc : (c, instObj 236 d) ∈ news) (hd : (d, curD w.params (tx l) k a1 a2 a3 a4) ∈ news)
    (room : A.depth + 1 < recursionLimit) (hl : (tx l).length ≤ 1048576) (hk : k ≤ 1048576) (hr : (l.drop k).head? ≠ some ch)
    (ret : ∀ h' tk', Fr h₀ L h' m → News h₀ L h' news → Q (.bool false) { s with heap := h', toks := tk' }) :
    wpAny (model PySem.Challenge.rw_qd0064_01.row.prog w) A (call (.ref 162) [.ref c, .str (tx [ch]) tw]) Q E s := by
  have O := own_cur F₀ N₀ hc hd
  have G : Good w p loose mg mb h₀ := ⟨X₀, T₀⟩
  have hw : (tx [ch]).length ≤ 1048576 := by simp
  have hp : ((l.drop k).take [ch].length == [ch]) = false := by
    rw [beq_eq_false_iff_ne]
    intro e
    apply hr
    cases q : l.drop k with
    | nil => rw [q] at e; simp at e
    | cons x r => rw [q] at e; simp at e; simp [e]
  refine' enter_ret (binds := [(Str.ofString "self", .ref c), (Str.ofString "word", .str (tx [ch]) tw)]) G O ?h1 ?h2 (by walk_at "mk_room") ?h3 ?h4 ?h ?c1 ?c2 ?c3 ?c4
  walk_at "mk_enter"
  intro L h₁ hL F N X T
  k_fold
  (repeat' ((fail_if_success tb_start); first | ((first | ((with_reducible show wpAny _ _ (call (Value.ref 148) [Value.ref _, Value.str (tx _) _]) _ _ _); refine starts_use (by k_asm) (by k_asm) (by k_asm) (by k_asm) (by k_dflt k_mem) (by k_dflt k_mem) (by walk_at "mk_room") (by walk_at "mk_fact") (by walk_at "mk_fact") (by walk_at "mk_fact") ?_; walk_at "mk_in") | tb_rel); (try dsimp only)) | walk_at "mk_tail" | (walk_at "mk_dl"; first | ((first | ((with_reducible show wpAny _ _ (call (Value.ref 148) [Value.ref _, Value.str (tx _) _]) _ _ _); refine starts_use (by k_asm) (by k_asm) (by k_asm) (by k_asm) (by k_dflt k_mem) (by k_dflt k_mem) (by walk_at "mk_room") (by walk_at "mk_fact") (by walk_at "mk_fact") (by walk_at "mk_fact") ?_; walk_at "mk_in") | tb_rel); (try dsimp only)) | walk1) | (walk_at "mk_late"; (try dsimp only))))
  (with_reducible rename Fr _ _ _ _ => FF); (with_reducible rename News _ _ _ _ => NN)
  have e := ext_end (D := []) O FF fun p hp _ => News.get NN hp
  obtain ⟨F', N'⟩ := use0 F₀ N₀ e
  exact ret _ _ F' N'
set_option maxHeartbeats 4000000 in
theorem peek0 {ch : Nat}
    (F₀ : Fr h₀ L s.heap m) (N₀ : News h₀ L s.heap news) (X₀ : (Hd.KK w.params).In h₀) (T₀ : TopRead p loose mg mb h₀)
    (hc : (c, instObj 236 d) ∈ news) (hd : (d, curD w.params (tx l) k a1 a2 a3 a4) ∈ news)
    (room : A.depth + 1 < recursionLimit) (hl : (tx l).length ≤ 1048576) (hr : l[k]? = some ch)
    (ret : ∀ h' tk' t', Fr h₀ L h' m → News h₀ L h' news → Q (.str (tx [ch]) t') { s with heap := h', toks := tk' }) :
    wpAny (model PySem.Challenge.rw_qd0064_01.row.prog w) A (call (.ref 141) [.ref c]) Q E s := by
  have O := own_cur F₀ N₀ hc hd
  have G : Good w p loose mg mb h₀ := ⟨X₀, T₀⟩
  have hlt : k < l.length := (List.getElem?_eq_some_iff.mp hr).1
  have hlen := tx_length l
  refine' enter_ret (binds := [(Str.ofString "self", .ref c), (Str.ofString "ahead", .int 0 388)]) G O ?h1 ?h2 (by walk_at "mk_room") ?h3 ?h4 ?h ?c1 ?c2 ?c3 ?c4
  walk_at "mk_enter"
  intro L h₁ hL F N X T
  k_fold
  (repeat' ((fail_if_success tb_start); first | ((first | ((with_reducible show wpAny _ _ (subscriptTail _ _ (Value.str (tx _) _) (Value.int _ _)) _ _ _); refine sub_tx (by with_reducible assumption) (by walk_at "mk_fact") (by walk_at "mk_fact") ?_) | ((with_reducible show wpAny _ _ (call (Value.builtin "len") [Value.str _ _]) _ _ _); refine P.len_str (by (try simp only [tx_length]); omega) ?_) | tb_rel); (try dsimp only)) | walk_at "mk_tail" | (walk_at "mk_dl"; first | ((first | ((with_reducible show wpAny _ _ (subscriptTail _ _ (Value.str (tx _) _) (Value.int _ _)) _ _ _); refine sub_tx (by with_reducible assumption) (by walk_at "mk_fact") (by walk_at "mk_fact") ?_) | ((with_reducible show wpAny _ _ (call (Value.builtin "len") [Value.str _ _]) _ _ _); refine P.len_str (by (try simp only [tx_length]); omega) ?_) | tb_rel); (try dsimp only)) | walk1) | (walk_at "mk_late"; (try dsimp only))))
  (with_reducible rename Fr _ _ _ _ => FF); (with_reducible rename News _ _ _ _ => NN)
  have e := ext_end (D := []) O FF fun p hp _ => News.get NN hp
  obtain ⟨F', N'⟩ := use0 F₀ N₀ e
  exact ret _ _ _ F' N'
set_option maxHeartbeats 4000000 in
theorem peek1 {ch : Nat} {u : Tok}
    (F₀ : Fr h₀ L s.heap m) (N₀ : News h₀ L s.heap news) (X₀ : (Hd.KK w.params).In h₀) (T₀ : TopRead p loose mg mb h₀)
    (hc : (c, instObj 236 d) ∈ news) (hd : (d, curD w.params (tx l) k a1 a2 a3 a4) ∈ news)
    (room : A.depth + 1 < recursionLimit) (hl : (tx l).length ≤ 1048576) (hr : l[k + 1]? = some ch)
    (ret : ∀ h' tk' t', Fr h₀ L h' m → News h₀ L h' news → Q (.str (tx [ch]) t') { s with heap := h', toks := tk' }) :
    wpAny (model PySem.Challenge.rw_qd0064_01.row.prog w) A (call (.ref 141) [.ref c, .int 1 u]) Q E s := by
  have O := own_cur F₀ N₀ hc hd
  have G : Good w p loose mg mb h₀ := ⟨X₀, T₀⟩
  have hlt : k + 1 < l.length := (List.getElem?_eq_some_iff.mp hr).1
  have hlen := tx_length l
  refine' enter_ret (binds := [(Str.ofString "self", .ref c), (Str.ofString "ahead", .int 1 u)]) G O ?h1 ?h2 (by walk_at "mk_room") ?h3 ?h4 ?h ?c1 ?c2 ?c3 ?c4
  walk_at "mk_enter"
  intro L h₁ hL F N X T
  k_fold
  (repeat' ((fail_if_success tb_start); first | ((first | ((with_reducible show wpAny _ _ (subscriptTail _ _ (Value.str (tx _) _) (Value.int _ _)) _ _ _); refine sub_tx (by with_reducible assumption) (by walk_at "mk_fact") (by walk_at "mk_fact") ?_) | ((with_reducible show wpAny _ _ (call (Value.builtin "len") [Value.str _ _]) _ _ _); refine P.len_str (by (try simp only [tx_length]); omega) ?_) | tb_rel); (try dsimp only)) | walk_at "mk_tail" | (walk_at "mk_dl"; first | ((first | ((with_reducible show wpAny _ _ (subscriptTail _ _ (Value.str (tx _) _) (Value.int _ _)) _ _ _); refine sub_tx (by with_reducible assumption) (by walk_at "mk_fact") (by walk_at "mk_fact") ?_) | ((with_reducible show wpAny _ _ (call (Value.builtin "len") [Value.str _ _]) _ _ _); refine P.len_str (by (try simp only [tx_length]); omega) ?_) | tb_rel); (try dsimp only)) | walk1) | (walk_at "mk_late"; (try dsimp only))))
  (with_reducible rename Fr _ _ _ _ => FF); (with_reducible rename News _ _ _ _ => NN)
  have e := ext_end (D := []) O FF fun p hp _ => News.get NN hp
  obtain ⟨F', N'⟩ := use0 F₀ N₀ e
  exact ret _ _ _ F' N'
end

/-- how a turn of a for ends: own is what the iterator holds -/
noncomputable def FStep (h₀ : Heap) (L : Addr) (own : List (Addr × Obj)) (Jn : (Str → Option Value) → List (Addr × Obj) → Prop) (s₁ : Shared) (f : Flow) (s₂ : Shared) : Prop :=
  f = .next ∧ ∃ h' tk m₂ news₂, s₂ = { s₁ with heap := h', toks := tk } ∧ Fr h₀ L h' m₂ ∧ News h₀ L h' (own ++ news₂) ∧ (∀ p ∈ news₂, ∀ q ∈ own, p.1 ≠ q.1) ∧ Jn m₂ news₂
section
variable {prog : Program} {w : World} {A : Around} {E : Value → Shared → Prop} {s : Shared} {env : Env} {h₀ : Heap} {x : Str} {px pos : Pos} {iter : Expr} {body : List Stmt} {Q : Flow → Shared → Prop} {m₀ : Str → Option Value} {news : List (Addr × Obj)}
theorem FStep.next {L : Addr} {own news₂ : List (Addr × Obj)} {Jn : (Str → Option Value) → List (Addr × Obj) → Prop} {s₁ : Shared} {h' : Heap} {tk : Nat} {m₂ : Str → Option Value}
    (F : Fr h₀ L h' m₂) (N : News h₀ L h' (own ++ news₂)) (ho : ∀ p ∈ news₂, ∀ q ∈ own, p.1 ≠ q.1) (hJ : Jn m₂ news₂) : FStep h₀ L own Jn s₁ .next { s₁ with heap := h', toks := tk } :=
  ⟨rfl, h', tk, m₂, news₂, rfl, F, N, ho, hJ⟩
theorem loop_mk {I : Addr} {fp : List Addr} {n : Nat} {P : Nat → Value → Prop} {St : Nat → Heap → Prop} {fx : List (Addr × Obj)} (J : Nat → (Str → Option Value) → List (Addr × Obj) → Prop)
    (W : Walks prog w A I fp [I] n P St) (hfp : ∀ b ∈ fp, b = I ∨ b ∈ fx.map (·.1)) (hob : ∀ i h, St i h → ∃ o, h.get? I = some o) (hL : env.locals ≠ I) (hI0 : h₀.get? I = none)
    (hst : St 0 s.heap) (F : Fr h₀ env.locals s.heap m₀) (N : News h₀ env.locals s.heap (fx ++ news)) (hnI : ∀ p ∈ fx ++ news, p.1 ≠ I) (hnf : ∀ p ∈ news, ∀ q ∈ fx, p.1 ≠ q.1) (hJ : J 0 m₀ news)
    (turn : ∀ i v m₁ news₁ h tk o, i < n → P i v → J i m₁ news₁ → (∀ p ∈ news₁, ∀ q ∈ (I, o) :: fx, p.1 ≠ q.1) → (∀ q ∈ fx, q.1 ≠ I) → Fr h₀ env.locals h (fun y => if y = x then some v else m₁ y) → News h₀ env.locals h (((I, o) :: fx) ++ news₁) →
      wpAny (model prog w) A (execs body env) (FStep h₀ env.locals ((I, o) :: fx) (J (i + 1)) { s with heap := h, toks := tk }) E { s with heap := h, toks := tk })
    (done : ∀ m₁ news₁ h tk, J n m₁ news₁ → (∀ p ∈ news₁, ∀ q ∈ fx, p.1 ≠ q.1) → Fr h₀ env.locals h m₁ → News h₀ env.locals h (fx ++ news₁) → Q .next { s with heap := h, toks := tk })
    (hx : env.kindOf x = some .local) (hp : (env.scope.kind == .class || (env.scope.kind == .module && env.locals != env.globals)) = false) (hE : PassesOwn (model prog w) A env E) :
    codeAny (model prog w) A (.forLoop (.Name x px) (.ref I) body [] env) (fun r s' => match r with | .ok f => Q f s' | .error e => cameBackBy (model prog w) A env E e s') s := by
  refine codeAny_forLoop
    (fun k s' => ∃ h' tk m' news' i, s' = { s with heap := h', toks := tk } ∧ St i h' ∧ Fr h₀ env.locals h' m' ∧ News h₀ env.locals h' (fx ++ news') ∧ (∀ p ∈ fx ++ news', p.1 ≠ I) ∧ (∀ p ∈ news', ∀ q ∈ fx, p.1 ≠ q.1) ∧ J i m' news' ∧ i ≤ n ∧ k = n + 1 - i) ?_ (n + 1)
    ⟨s.heap, s.toks, m₀, news, 0, rfl, hst, F, N, hnI, hnf, hJ, Nat.zero_le _, rfl⟩
  rintro k s' ⟨h', tk, m', news', i, rfl, hst', F', N', hnI', hnf', hJ', hi, rfl⟩
  have next : ∀ h₁ : Heap, (∀ b o, b ∉ [I] → h'.get? b = some o → h₁.get? b = some o) → Fr h₀ env.locals h₁ m' ∧ News h₀ env.locals h₁ (fx ++ news') := fun h₁ hk₁ =>
    ⟨⟨F'.ns.at' fun o e => hk₁ _ o (by simpa using hL) e, fun b o e => hk₁ b o (fun q => by rw [List.mem_singleton.mp q, hI0] at e; cases e) (F'.keep b o e), F'.above⟩,
      fun p hp => ⟨hk₁ _ _ (by simpa using hnI' p hp) (N' p hp).1, (N' p hp).2⟩⟩
  by_cases hlt : i < n
  · refine W.item i _ _ _ hlt hst' fun v h₁ tk₁ hP hst₁ hk₁ => ?_
    obtain ⟨F₁, N₁⟩ := next h₁ hk₁
    refine wpAny_assign_Name (wpAny_storeName_local hx F₁.ns (fun h₂ hn₂ hs₂ => ?_) hp)
    have F₂ := F₁.set hn₂ hs₂
    have N₂ := N₁.set hs₂
    have keepfp : ∀ b ∈ fp, ∀ o, h₁.get? b = some o → h₂.get? b = some o := fun b hb o e => (hs₂.2 b (fun q => by
      rcases hfp b hb with r | r
      · exact hL (q.symm.trans r)
      · obtain ⟨p, hp, rfl⟩ := List.mem_map.mp r
        exact (N₁ p (List.mem_append_left _ hp)).2.1 q)).trans e
    have hst₂ : St (i + 1) h₂ := W.frame _ _ _ hst₁ keepfp
    obtain ⟨o, ho⟩ := hob _ _ hst₂
    have NN : News h₀ env.locals h₂ (((I, o) :: fx) ++ news') := fun p hp => by
      rcases List.mem_cons.mp hp with rfl | hp
      · exact ⟨ho, fun q => hL q.symm, hI0⟩
      · exact N₂ p hp
    refine wpAny_mono (turn i v m' news' h₂ _ o hlt hP hJ' (fun p hp q hq => ?_) (fun q hq => hnI' q (List.mem_append_left _ hq)) F₂ NN) (fun f s₃ h₃ => ?_) hE
    · rcases List.mem_cons.mp hq with rfl | hq
      · exact hnI' p (List.mem_append_right _ hp)
      · exact hnf' p hp q hq
    · obtain ⟨rfl, h₃', tk₃, m₂, news₂, rfl, F₃, N₃, ho₃, hJ₃⟩ := h₃
      refine ⟨n + 1 - (i + 1), by omega, h₃', tk₃, m₂, news₂, i + 1, rfl, ?_, F₃, fun p hp => N₃ p (.tail _ hp), fun p hp => ?_, fun p hp q hq => ho₃ p hp q (.tail _ hq), hJ₃, hlt, rfl⟩
      · refine W.frame _ _ _ hst₂ fun b hb o' e => ?_
        rcases hfp b hb with r | r
        · rw [r, ho] at e; cases e; rw [r]; exact (N₃ (I, o) (.head _)).1
        · obtain ⟨p, hp, rfl⟩ := List.mem_map.mp r
          have e1 := (NN p (.tail _ (List.mem_append_left _ hp))).1
          rw [e1] at e; cases e
          exact (N₃ p (.tail _ (List.mem_append_left _ hp))).1
      · rcases List.mem_append.mp hp with hp | hp
        · exact hnI' p (List.mem_append_left _ hp)
        · exact ho₃ p hp (I, o) (.head _)
  · have hin : i = n := by omega
    subst hin
    refine W.done _ _ _ hst' fun h₁ tk₁ hk₁ => wpAny_execs_nil ?_
    obtain ⟨F₁, N₁⟩ := next h₁ hk₁
    exact done m' news' h₁ tk₁ hJ' hnf' F₁ N₁
theorem next_new {h : Heap} (F : Fr h₀ env.locals h m₀) : h₀.get? h.objs.size = none ∧ env.locals ≠ h.objs.size := by
  refine ⟨?_, Nat.ne_of_lt F.ns.lt⟩
  cases q : h₀.get? h.objs.size with
  | none => rfl
  | some o => exact absurd (Heap.lt_size (F.keep _ _ q)) (Nat.lt_irrefl _)
/-- for x in range(..) -/
theorem for_range {r : Addr} {a c b₀ : Int} {t₀ u₀ v₀ : Tok} {n : Nat} (J : Nat → (Str → Option Value) → List (Addr × Obj) → Prop)
    (hh : A.handled = none) (hr : IsRange s.heap r a b₀ c t₀ u₀ v₀) (hsmall : Builtin.Range.small a b₀ c = true) (hn : Builtin.Range.rangeSize a b₀ c = (n : Int))
    (F : Fr h₀ env.locals s.heap m₀) (N : News h₀ env.locals s.heap news) (hJ : J 0 m₀ news)
    (turn : ∀ (i : Nat) t m₁ news₁ h tk I o, i < n → J i m₁ news₁ → (∀ p ∈ news₁, p.1 ≠ I) → Fr h₀ env.locals h (fun y => if y = x then some (.int (a + i * c) t) else m₁ y) → News h₀ env.locals h ((I, o) :: news₁) →
      wpAny (model prog w) A (execs body env) (FStep h₀ env.locals [(I, o)] (J (i + 1)) { s with heap := h, toks := tk }) E { s with heap := h, toks := tk })
    (done : ∀ m₁ news₁ h tk, J n m₁ news₁ → Fr h₀ env.locals h m₁ → News h₀ env.locals h news₁ → Q .next { s with heap := h, toks := tk })
    (hx : env.kindOf x = some .local) (hp : (env.scope.kind == .class || (env.scope.kind == .module && env.locals != env.globals)) = false) (hE : PassesOwn (model prog w) A env E := by passes_own) :
    wpAny (model prog w) A (pyIter (.ref r)) (fun it s₂ => codeAny (model prog w) A (.forLoop (.Name x px) it body [] env) (fun r s' => match r with | .ok f => Q f s' | .error e => cameBackBy (model prog w) A env E e s') s₂) E s := by
  refine wpAny_pyIter_range hr hsmall ?_
  obtain ⟨h1, h2⟩ := next_new F
  refine loop_mk (fx := []) (s := { s with heap := _ }) J (Walks.range hh s.heap.objs.size a c n) (fun b hb => .inl (by simpa using hb)) (fun i h st => ⟨_, st⟩) h2 h1 (by rw [hn]; simpa using Heap.get?_push_size _ rfl)
    (F.push _) (fun p hp => ⟨Heap.get?_push_of_some _ (N p hp).1, (N p hp).2⟩) (fun p hp => Nat.ne_of_lt (Heap.lt_size (N p hp).1)) (by simp) hJ ?_ ?_ hx hp hE
  · rintro i v m₁ news₁ h tk o hi ⟨t, rfl⟩ hJ₁ ho _ F₁ N₁
    exact turn i t m₁ news₁ h tk _ o hi hJ₁ (fun p hp => ho p hp _ (.head _)) F₁ N₁
  · intro m₁ news₁ h tk hJ₁ _ F₁ N₁
    exact done m₁ news₁ h tk hJ₁ F₁ N₁
/-- for x in a list of the ledger's -/
theorem for_list {l : Addr} {lo : Obj} {vs : List Value} (J : Nat → (Str → Option Value) → List (Addr × Obj) → Prop)
    (hh : A.handled = none) (hl : s.heap.IsList l vs.toArray) (hlo : lo.cls = .type "list" ∧ ∃ e, lo.data = .seq vs.toArray e)
    (F : Fr h₀ env.locals s.heap m₀) (N : News h₀ env.locals s.heap ((l, lo) :: news)) (hnl : ∀ p ∈ news, p.1 ≠ l) (hJ : J 0 m₀ news)
    (turn : ∀ (i : Nat) v m₁ news₁ h tk I o, vs[i]? = some v → J i m₁ news₁ → (∀ p ∈ news₁, p.1 ≠ I ∧ p.1 ≠ l) → l ≠ I → Fr h₀ env.locals h (fun y => if y = x then some v else m₁ y) → News h₀ env.locals h ((I, o) :: (l, lo) :: news₁) →
      wpAny (model prog w) A (execs body env) (FStep h₀ env.locals [(I, o), (l, lo)] (J (i + 1)) { s with heap := h, toks := tk }) E { s with heap := h, toks := tk })
    (done : ∀ m₁ news₁ h tk, J vs.length m₁ news₁ → (∀ p ∈ news₁, p.1 ≠ l) → Fr h₀ env.locals h m₁ → News h₀ env.locals h ((l, lo) :: news₁) → Q .next { s with heap := h, toks := tk })
    (hx : env.kindOf x = some .local) (hp : (env.scope.kind == .class || (env.scope.kind == .module && env.locals != env.globals)) = false) (hE : PassesOwn (model prog w) A env E := by passes_own) :
    wpAny (model prog w) A (pyIter (.ref l)) (fun it s₂ => codeAny (model prog w) A (.forLoop (.Name x px) it body [] env) (fun r s' => match r with | .ok f => Q f s' | .error e => cameBackBy (model prog w) A env E e s') s₂) E s := by
  refine wpAny_pyIter_list hl ?_
  obtain ⟨h1, h2⟩ := next_new F
  have hne : l ≠ s.heap.objs.size := Nat.ne_of_lt (Heap.lt_size (N (l, lo) (.head _)).1)
  have W := Walks.list (prog := prog) (w := w) hh s.heap.objs.size l hne vs.toArray
  rw [List.size_toArray] at W
  refine loop_mk (fx := [(l, lo)]) (s := { s with heap := _ }) J W (fun b hb => by simpa using hb) (fun i h st => by obtain ⟨o, ho, _⟩ := st.1; exact ⟨o, ho⟩) h2 h1
    ⟨⟨_, Heap.get?_push_size _ rfl, rfl, rfl⟩, hl.at fun o e => Heap.get?_push_of_some _ e⟩
    (F.push _) (fun p hp => ⟨Heap.get?_push_of_some _ (N p hp).1, (N p hp).2⟩) (fun p hp => Nat.ne_of_lt (Heap.lt_size (N p hp).1)) (fun p hp q hq => by rw [List.mem_singleton.mp hq]; exact hnl p hp) hJ ?_ ?_ hx hp hE
  · rintro i v m₁ news₁ h tk o hi hv hJ₁ ho hf F₁ N₁
    exact turn i v m₁ news₁ h tk _ o (by simpa using hv) hJ₁ (fun p hp => ⟨ho p hp _ (.head _), ho p hp _ (.tail _ (.head _))⟩) hne F₁ N₁
  · intro m₁ news₁ h tk hJ₁ hf F₁ N₁
    exact done m₁ news₁ h tk hJ₁ (fun p hp => hf p hp _ (.head _)) F₁ N₁
end

/-- how an element of a comprehension ends -/
noncomputable def CStep (g : Heap) (C D : Addr) (own : List (Addr × Obj)) (ys : List Value) (k : Nat) (Jn : List Value → List (Addr × Obj) → Prop) (s₁ : Shared) (v : Value) (s₂ : Shared) : Prop :=
  ∃ h' tk mC news₂, s₂ = { s₁ with heap := h', toks := tk } ∧ Fr g C h' mC ∧ News g C h' ((D, listOf ys.toArray k) :: (own ++ news₂)) ∧ (∀ p ∈ news₂, p.1 ≠ D ∧ ∀ q ∈ own, p.1 ≠ q.1) ∧ Jn (ys ++ [v]) news₂
section
variable {prog : Program} {w : World} {A : Around} {E : Value → Shared → Prop} {s : Shared} {env : Env} {h₀ : Heap} {L : Addr} {m : Str → Option Value} {news : List (Addr × Obj)}
theorem CStep.intro {g : Heap} {C D : Addr} {own : List (Addr × Obj)} {ys : List Value} {k : Nat} {Jn : List Value → List (Addr × Obj) → Prop} {s₁ : Shared} {v : Value} {h' : Heap} {tk : Nat} {mC : Str → Option Value} {news₂ : List (Addr × Obj)}
    (F : Fr g C h' mC) (N : News g C h' ((D, listOf ys.toArray k) :: (own ++ news₂))) (ho : ∀ p ∈ news₂, p.1 ≠ D ∧ ∀ q ∈ own, p.1 ≠ q.1) (hJ : Jn (ys ++ [v]) news₂) : CStep g C D own ys k Jn s₁ v { s₁ with heap := h', toks := tk } :=
  ⟨h', tk, mC, news₂, rfl, F, N, ho, hJ⟩
theorem comp_core {elt iter : Expr} {x : Str} {px : Pos} {scope : Scope} {cl : List (Str × Addr)} {pos : Pos} {I : Addr} {fp : List Addr} {n : Nat} {P : Nat → Value → Prop} {St : Nat → Heap → Prop} {fx : List (Addr × Obj)}
    {RR : Value → Addr → Result → Shared → Prop} (J : Nat → List Value → List (Addr × Obj) → Prop)
    (W : Walks prog w A I fp [I] n P St) (hsz : n ≤ sizeLine) (hfp : ∀ b ∈ fp, b = I ∨ b ∈ fx.map (·.1)) (hob : ∀ i h, St i h → ∃ o, h.get? I = some o) (hLI : L ≠ I) (hI0 : h₀.get? I = none)
    (hst : St 0 s.heap) (F : Fr h₀ L s.heap m) (N : News h₀ L s.heap (fx ++ news)) (hnI : ∀ p ∈ fx ++ news, p.1 ≠ I) (hnf : ∀ p ∈ news, ∀ q ∈ fx, p.1 ≠ q.1) (hJ : J 0 [] news)
    (hcell : ∀ y ∈ scope.names, y.2 ≠ .cell) (hkind : scope.kind = .function) (hx : scope.names.lookup x = some .local)
    (turn : ∀ i v ys k news₁ h tk o C D (mC : Str → Option Value), i < n → P i v → ys.length = i → J i ys news₁ → (∀ p ∈ news₁, p.1 ≠ D ∧ ∀ q ∈ (I, o) :: fx, p.1 ≠ q.1) → (∀ q ∈ (I, o) :: fx, q.1 ≠ D) → (∀ q ∈ fx, q.1 ≠ I) →
      Fr (hideAll s.heap (I :: (fx ++ news).map (·.1))) C h (fun y => if y = x then some v else mC y) → News (hideAll s.heap (I :: (fx ++ news).map (·.1))) C h ((D, listOf ys.toArray k) :: (((I, o) :: fx) ++ news₁)) →
      wpAny (model prog w) A (eval elt (compEnvC scope cl C env)) (CStep (hideAll s.heap (I :: (fx ++ news).map (·.1))) C D ((I, o) :: fx) ys k (J (i + 1)) { s with heap := h, toks := tk }) (fun _ _ => False) { s with heap := h, toks := tk })
    (done : ∀ h' tk mC ys k news₁ D C, J n ys news₁ → ys.length = n → h'.Ns C mC → Fr h₀ L h' m → News h₀ L h' ((D, listOf ys.toArray k) :: (fx ++ news₁)) → (∀ p ∈ news₁, p.1 ≠ D ∧ ∀ q ∈ fx, p.1 ≠ q.1) → (∀ q ∈ fx, q.1 ≠ D) →
      h₀.get? C = none → C ≠ L → (∀ p ∈ (D, listOf ys.toArray k) :: (fx ++ news₁), p.1 ≠ C) → RR (.ref D) C (.ok .next) { s with heap := h', toks := tk }) :
    wpAny (model prog w) A (newList []) (fun acc s₃ => wpAny (model prog w) A (newFunctionEnv scope env.globals cl [] env.qual none .none (some env)) (fun cenv s₄ =>
      codeAny (model prog w) A (.compStart (.ListComp elt [⟨.Name x px, iter, [], 0⟩] scope pos) 0 (.ref I) acc { cenv with scope := relabel scope env }) (RR acc cenv.locals) s₄) E s₃) E s := by
  refine wpAny_newObj_type (wpAny_newFunctionEnv hcell (by intro y hy; simp at hy) (fun h₁ hns₁ hsb₁ => ?_) hkind)
  dsimp only at hns₁ hsb₁ ⊢
  generalize hH2 : s.heap.push { cls := .type "list", dict := none, data := .seq ([] : List Value).toArray } = H2 at hns₁ hsb₁ ⊢
  have hC : H2.objs.size = s.heap.objs.size + 1 := by rw [← hH2, Heap.size_push]
  have lt : ∀ {b o}, s.heap.get? b = some o → b < s.heap.objs.size := fun e => Heap.lt_size e
  have old : ∀ b o, s.heap.get? b = some o → h₁.get? b = some o := fun b o e => hsb₁.extBut b o (by rw [hC]; exact Nat.ne_of_lt (Nat.lt_succ_of_lt (lt e))) (Heap.get?_push_of_some _ (hH2 ▸ Heap.get?_push_of_some _ e))
  obtain ⟨oI, hoI⟩ := hob 0 _ hst
  -- the block's ground
  have gk : ∀ {b o}, (hideAll s.heap (I :: (fx ++ news).map (·.1))).get? b = some o → s.heap.get? b = some o := fun e => of_hideAll _ e
  have gn : ∀ b, s.heap.get? b = none → (hideAll s.heap (I :: (fx ++ news).map (·.1))).get? b = none := fun b e => by
    cases q : (hideAll s.heap (I :: (fx ++ news).map (·.1))).get? b with
    | none => rfl
    | some o => rw [gk q] at e; cases e
  have fresh : ∀ a, s.heap.objs.size ≤ a → s.heap.get? a = none := fun a ha => by
    cases e : s.heap.get? a with
    | none => rfl
    | some o' => exact absurd (lt e) (Nat.not_lt.mpr ha)
  have hCf : s.heap.get? H2.objs.size = none := fresh _ (by rw [hC]; exact Nat.le_succ _)
  have hDf : s.heap.get? s.heap.objs.size = none := fresh _ (Nat.le_refl _)
  have hDC : s.heap.objs.size ≠ H2.objs.size := by rw [hC]; exact Nat.ne_of_lt (Nat.lt_succ_self _)
  have hD1 : h₁.get? s.heap.objs.size = some (listOf #[] 0) := hsb₁.extBut _ _ hDC (Heap.get?_push_of_some _ (hH2 ▸ Heap.get?_push_size _ rfl))
  have hIC : I ≠ H2.objs.size := by rintro rfl; rw [hoI] at hCf; cases hCf
  have F1 : Fr (hideAll s.heap (I :: (fx ++ news).map (·.1))) H2.objs.size h₁ (fun x => ([] : List (Str × Value)).reverse.lookup x) :=
    ⟨hns₁, fun b o e => old b o (gk e), by rw [hideAll_size, hC]; exact Nat.le_succ _⟩
  have N1 : News (hideAll s.heap (I :: (fx ++ news).map (·.1))) H2.objs.size h₁ ((s.heap.objs.size, listOf #[] 0) :: (fx ++ news)) := fun p hp => by
    rcases List.mem_cons.mp hp with rfl | hp
    · exact ⟨hD1, hDC, gn _ hDf⟩
    · have e := (N p hp).1
      exact ⟨old _ _ e, (fun q => by rw [q, hCf] at e; cases e), hideAll_none _ (.tail _ (List.mem_map_of_mem hp))⟩
  have hI1 : (hideAll s.heap (I :: (fx ++ news).map (·.1))).get? I = none := hideAll_none _ (.head _)
  have hst₁ : St 0 h₁ := W.frame _ _ _ hst fun b _ o e => old b o e
  -- back to the def's own ground
  have back : ∀ {h' : Heap} {mC : Str → Option Value} {l : List (Addr × Obj)}, Fr (hideAll s.heap (I :: (fx ++ news).map (·.1))) H2.objs.size h' mC → News (hideAll s.heap (I :: (fx ++ news).map (·.1))) H2.objs.size h' l → Fr h₀ L h' m ∧ News h₀ L h' l := by
    intro h' mC l F' N'
    obtain ⟨oL, es, ep, hLo, a, b, c⟩ := F.ns
    have nL : L ∉ I :: (fx ++ news).map (·.1) := fun q => by
      rcases List.mem_cons.mp q with q | q
      · exact hLI q
      · obtain ⟨p, hp, e⟩ := List.mem_map.mp q
        exact (N p hp).2.1 e
    have hLg := hideAll_get (I :: (fx ++ news).map (·.1)) hLo nL
    have n0 : ∀ b o, h₀.get? b = some o → b ∉ I :: (fx ++ news).map (·.1) := fun b o e q => by
      rcases List.mem_cons.mp q with q | q
      · rw [q, hI0] at e; cases e
      · obtain ⟨p, hp, e'⟩ := List.mem_map.mp q
        rw [← e', (N p hp).2.2] at e; cases e
    refine ⟨⟨⟨oL, es, ep, F'.keep _ _ hLg, a, b, c⟩, fun b o e => F'.keep _ _ (hideAll_get _ (F.keep b o e) (n0 b o e)), F.above⟩, fun p hp => ⟨(N' p hp).1, fun q => ?_, ?_⟩⟩
    · have := (N' p hp).2.2; rw [q, hLg] at this; cases this
    · cases q : h₀.get? p.1 with
      | none => rfl
      | some o => have := (N' p hp).2.2; rw [hideAll_get _ (F.keep _ _ q) (n0 _ _ q)] at this; cases this
  have hCL : H2.objs.size ≠ L := by
    rintro q
    obtain ⟨oL, es, ep, hLo, _⟩ := F.ns
    rw [← q, hCf] at hLo; cases hLo
  have hC0 : h₀.get? H2.objs.size = none := by
    cases q : h₀.get? H2.objs.size with
    | none => rfl
    | some o => rw [F.keep _ _ q] at hCf; cases hCf
  have loop : ∀ s₃ : Shared, s₃ = { s with heap := h₁, toks := s.toks + ([] : List (Str × Value)).length } →
      codeAny (model prog w) A (.compLoop (.ListComp elt [⟨.Name x px, iter, [], 0⟩] scope pos) 0 (.ref I) (.ref s.heap.objs.size) (compEnvC scope cl H2.objs.size env)) (RR (.ref s.heap.objs.size) H2.objs.size) s₃ := by
    rintro s₃ rfl
    refine codeAny_compLoop_list (fun k s' => ∃ h' tk mC ys e news', s' = { s with heap := h', toks := tk } ∧ St ys.length h' ∧ Fr (hideAll s.heap (I :: (fx ++ news).map (·.1))) H2.objs.size h' mC ∧
        News (hideAll s.heap (I :: (fx ++ news).map (·.1))) H2.objs.size h' ((s.heap.objs.size, listOf ys.toArray e) :: (fx ++ news')) ∧ (∀ p ∈ news', p.1 ≠ s.heap.objs.size ∧ p.1 ≠ I ∧ ∀ q ∈ fx, p.1 ≠ q.1) ∧ J ys.length ys news' ∧ ys.length ≤ n ∧ k = n + 1 - ys.length) ?_ (n + 1)
      ⟨h₁, _, _, [], 0, news, rfl, hst₁, F1, N1, fun p hp => ⟨Nat.ne_of_lt (lt (N p (List.mem_append_right _ hp)).1), hnI p (List.mem_append_right _ hp), hnf p hp⟩, hJ, Nat.zero_le _, rfl⟩
    rintro k s' ⟨h', tk, mC, ys, e, news', rfl, hst', F', N', hd', hJ', hle, rfl⟩
    have hfxI : ∀ q ∈ fx, q.1 ≠ I := fun q hq => hnI q (List.mem_append_left _ hq)
    have hfxD : ∀ q ∈ fx, q.1 ≠ s.heap.objs.size := fun q hq => Nat.ne_of_lt (lt (N q (List.mem_append_left _ hq)).1)
    have hID : I ≠ s.heap.objs.size := Nat.ne_of_lt (lt hoI)
    have next : ∀ h₂ : Heap, (∀ b o, b ∉ [I] → h'.get? b = some o → h₂.get? b = some o) → Fr (hideAll s.heap (I :: (fx ++ news).map (·.1))) H2.objs.size h₂ mC ∧
        News (hideAll s.heap (I :: (fx ++ news).map (·.1))) H2.objs.size h₂ ((s.heap.objs.size, listOf ys.toArray e) :: (fx ++ news')) := fun h₂ hk₂ =>
      ⟨⟨F'.ns.at' fun o e => hk₂ _ o (by simpa using Ne.symm hIC) e, fun b o e => hk₂ b o (fun q => by rw [List.mem_singleton.mp q, hI1] at e; cases e) (F'.keep b o e), F'.above⟩,
        fun p hp => ⟨hk₂ _ _ (fun q => by
          rcases List.mem_cons.mp hp with rfl | hp
          · exact hID (List.mem_singleton.mp q).symm
          · rcases List.mem_append.mp hp with hp | hp
            · exact hfxI p hp (List.mem_singleton.mp q)
            · exact (hd' p hp).2.1 (List.mem_singleton.mp q)) (N' p hp).1, (N' p hp).2⟩⟩
    by_cases hlt : ys.length < n
    · refine W.item ys.length _ _ _ hlt hst' fun v h₂ tk₂ hP hst₂ hk₂ => ?_
      obtain ⟨F₂, N₂⟩ := next h₂ hk₂
      refine wpAny_assign_Name (wpAny_storeName_local (lookup_relabel_local hx) F₂.ns (fun h₃ hn₃ hs₃ => ?_) (by simp [compEnvC, relabel, hkind]))
      have F₃ := F₂.set hn₃ hs₃
      have N₃ := N₂.set hs₃
      have keepfp : ∀ b ∈ fp, ∀ o, h₂.get? b = some o → h₃.get? b = some o := fun b hb o e => (hs₃.2 b (fun q => by
        rcases hfp b hb with r | r
        · exact hIC (r.symm.trans q)
        · obtain ⟨p, hp, rfl⟩ := List.mem_map.mp r
          exact (N₂ p (.tail _ (List.mem_append_left _ hp))).2.1 q)).trans e
      have hst₃ : St (ys.length + 1) h₃ := W.frame _ _ _ hst₂ keepfp
      obtain ⟨o, ho⟩ := hob _ _ hst₃
      have NN : News (hideAll s.heap (I :: (fx ++ news).map (·.1))) H2.objs.size h₃ ((s.heap.objs.size, listOf ys.toArray e) :: (((I, o) :: fx) ++ news')) := fun p hp => by
        rcases List.mem_cons.mp hp with rfl | hp
        · exact N₃ _ (.head _)
        · rcases List.mem_cons.mp hp with rfl | hp
          · exact ⟨ho, hIC, hI1⟩
          · exact N₃ p (.tail _ hp)
      refine wpAny_mono (turn ys.length v ys e news' h₃ _ o _ _ mC hlt hP rfl hJ' (fun p hp => ⟨(hd' p hp).1, fun q hq => ?_⟩) (fun q hq => ?_) hfxI F₃ NN) (fun y s₄ h₄ => ?_) (fun _ _ f => f.elim)
      · rcases List.mem_cons.mp hq with rfl | hq
        · exact (hd' p hp).2.1
        · exact (hd' p hp).2.2 q hq
      · rcases List.mem_cons.mp hq with rfl | hq
        · exact hID
        · exact hfxD q hq
      · obtain ⟨h₄', tk₄, mC', news₂, rfl, F₄, N₄, ho₄, hJ₄⟩ := h₄
        refine append_K (its := ys.toArray) (n := e) F₄ N₄ (Upd.head fun p hp => ?_) (fun h₅ F₅ N₅ => ?_) (hsz := by rw [List.size_toArray]; omega)
        · rcases List.mem_append.mp hp with hp | hp
          · rcases List.mem_cons.mp hp with rfl | hp
            · exact hID
            · exact hfxD p hp
          · exact (ho₄ p hp).1
        · have hlen : (ys ++ [y]).length = ys.length + 1 := by simp
          have e5 : (ys.toArray.push y) = (ys ++ [y]).toArray := by simp
          rw [e5] at N₅
          refine ⟨n + 1 - (ys ++ [y]).length, by omega, h₅, tk₄, mC', ys ++ [y], e + 1, news₂, rfl, ?_, F₅, fun p hp => ?_, fun p hp => ⟨(ho₄ p hp).1, (ho₄ p hp).2 (I, o) (.head _), fun q hq => (ho₄ p hp).2 q (.tail _ hq)⟩, by rw [hlen]; exact hJ₄, by omega, rfl⟩
          · rw [hlen]
            refine W.frame _ _ _ hst₃ fun b hb o' e' => ?_
            rcases hfp b hb with r | r
            · rw [r, ho] at e'; cases e'; rw [r]; exact (N₅ (I, o) (.tail _ (.head _))).1
            · obtain ⟨p, hp, rfl⟩ := List.mem_map.mp r
              have e1 := (NN p (.tail _ (.tail _ (List.mem_append_left _ hp)))).1
              rw [e1] at e'; cases e'
              exact (N₅ p (.tail _ (.tail _ (List.mem_append_left _ hp)))).1
          · rcases List.mem_cons.mp hp with rfl | hp
            · exact N₅ _ (.head _)
            · exact N₅ p (.tail _ (.tail _ hp))
    · have hin : ys.length = n := by omega
      rw [hin] at hst'
      refine W.done _ _ _ hst' fun h₂ tk₂ hk₂ => ?_
      obtain ⟨F₂, N₂⟩ := next h₂ hk₂
      obtain ⟨Fb, Nb⟩ := back F₂ N₂
      rw [hin] at hJ'
      exact done h₂ tk₂ mC ys e news' _ _ hJ' hin F₂.ns Fb Nb (fun p hp => ⟨(hd' p hp).1, (hd' p hp).2.2⟩) hfxD hC0 hCL (fun p hp => (N₂ p hp).2.1)
  exact codeAny_compStart_list (loop _ rfl) (W.self 0 _ _ _ hst₁ (loop _ rfl))
end

/-- what is left of a comprehension behind its source's iterator -/
noncomputable def CompK (prog : Program) (w : World) (A : Around) (env : Env) (E : Value → Shared → Prop) (elt iter : Expr) (x : Str) (px : Pos) (scope : Scope) (pos : Pos) (cl : List (Str × Addr)) (use : Option (Value → Sem Unit)) (Q : Value → Shared → Prop) (it : Value) (s₂ : Shared) : Prop :=
  wpAny (model prog w) A (newList []) (fun acc s₃ => wpAny (model prog w) A (newFunctionEnv scope env.globals cl [] env.qual none .none (some env)) (fun cenv s₄ =>
    codeAny (model prog w) A (.compStart (.ListComp elt [⟨.Name x px, iter, [], 0⟩] scope pos) 0 it acc { cenv with scope := relabel scope env }) (compPost (model prog w) A E use Q acc cenv.locals) s₄) E s₃) E s₂
section
variable {prog : Program} {w : World} {A : Around} {E : Value → Shared → Prop} {s : Shared} {env : Env} {h₀ : Heap} {L : Addr} {m : Str → Option Value} {news fx : List (Addr × Obj)} {elt iter : Expr} {x y : Str} {px py : Pos} {scope : Scope} {pos spos : Pos} {cl : List (Str × Addr)}
theorem comp_eval {Q : Value → Shared → Prop} (hclos : closureFor scope env = pure cl) (hkind : scope.kind = .function) (hnames : ∀ x ∈ scope.names, x.2 = .local → scope.names.lookup x.1 = some .local)
    (h : wpAny (model prog w) A (eval iter env) (fun xv s₁ => wpAny (model prog w) A (pyIter xv) (fun it s₂ => CompK prog w A env E elt iter x px scope pos cl none Q it s₂) E s₁) E s)
    (hs : ∀ x, foldedSetIterable iter env x = pure x := by intro _; rfl) :
    wpAny (model prog w) A (eval (.ListComp elt [⟨.Name x px, iter, [], 0⟩] scope pos) env) Q E s := by
  rw [eval_ListComp]
  exact wpAny_comprehension_free (use := none) rfl hs hclos hkind hnames h
theorem comp_assign {Q : Flow → Shared → Prop} (hsw : swapsWith (.ListComp elt [⟨.Name x px, iter, [], 0⟩] scope pos) (some (.Name y py)) spos.line env = pure true)
    (hclos : closureFor scope env = pure cl) (hkind : scope.kind = .function) (hnames : ∀ x ∈ scope.names, x.2 = .local → scope.names.lookup x.1 = some .local)
    (h : wpAny (model prog w) A (eval iter env) (fun xv s₁ => wpAny (model prog w) A (pyIter xv) (fun it s₂ => CompK prog w A env E elt iter x px scope pos cl (some (assign (.Name y py) env)) (fun _ s' => Q .next s') it s₂) E s₁) E s)
    (hs : ∀ x, foldedSetIterable iter env x = pure x := by intro _; rfl) :
    wpAny (model prog w) A (exec (.Assign [.Name y py] (.ListComp elt [⟨.Name x px, iter, [], 0⟩] scope pos) spos) env) Q E s := by
  rw [exec_Assign_Name_used _ _ _ _ hsw]
  refine wpAny_bind (wpAny_standAt (wpAny_bind ?_))
  show wpAny _ A (do let _ ← comprehension (.ListComp elt [⟨.Name x px, iter, [], 0⟩] scope pos) scope env _ (newList []) false (eval iter env) (some (assign (.Name y py) env))) _ _ s
  exact wpAny_bind (wpAny_mono (wpAny_comprehension_free (use := some (assign (.Name y py) env)) (Q := fun _ s' => Q .next s') rfl hs hclos hkind hnames h) (fun _ s' hq => wpAny_pure (wpAny_pure hq)) fun _ _ e => e)
theorem keep_but {C : Addr} {h h' : Heap} {l : List (Addr × Obj)} (hs : Heap.SameBut C h h') (F : Fr h₀ L h m) (N : News h₀ L h l) (hC0 : h₀.get? C = none) (hCL : C ≠ L) (hl : ∀ p ∈ l, p.1 ≠ C) : Fr h₀ L h' m ∧ News h₀ L h' l :=
  ⟨⟨F.ns.sameBut hs (Ne.symm hCL), fun b o e => (hs.2 b (fun q => by rw [q, hC0] at e; cases e)).trans (F.keep b o e), F.above⟩, fun p hp => ⟨(hs.2 p.1 (hl p hp)).trans (N p hp).1, (N p hp).2⟩⟩
theorem post_none {Q : Value → Shared → Prop} {h' : Heap} {tk : Nat} {mC : Str → Option Value} {l : List (Addr × Obj)} {D C : Addr} (hn : h'.Ns C mC) (F : Fr h₀ L h' m) (N : News h₀ L h' l) (hC0 : h₀.get? C = none) (hCL : C ≠ L) (hl : ∀ p ∈ l, p.1 ≠ C)
    (done : ∀ h' tk, Fr h₀ L h' m → News h₀ L h' l → Q (.ref D) { s with heap := h', toks := tk }) : compPost (model prog w) A E none Q (.ref D) C (.ok .next) { s with heap := h', toks := tk } :=
  ⟨mC, hn, fun h'' hs => let ⟨a, b⟩ := keep_but hs F N hC0 hCL hl; done h'' tk a b⟩
theorem post_asg {Q : Flow → Shared → Prop} {h' : Heap} {tk : Nat} {mC : Str → Option Value} {l : List (Addr × Obj)} {D C : Addr} (hy : env.kindOf y = some .local) (hp : (env.scope.kind == .class || (env.scope.kind == .module && env.locals != env.globals)) = false)
    (hn : h'.Ns C mC) (F : Fr h₀ env.locals h' m) (N : News h₀ env.locals h' l) (hC0 : h₀.get? C = none) (hCL : C ≠ env.locals) (hl : ∀ p ∈ l, p.1 ≠ C)
    (done : ∀ h' tk, Fr h₀ env.locals h' (fun z => if z = y then some (.ref D) else m z) → News h₀ env.locals h' l → Q .next { s with heap := h', toks := tk }) :
    compPost (model prog w) A E (some (assign (.Name y py) env)) (fun _ s' => Q .next s') (.ref D) C (.ok .next) { s with heap := h', toks := tk } := by
  show wpAny _ A (assign (.Name y py) env (.ref D)) _ _ _
  refine wpAny_assign_Name (wpAny_storeName_local hy F.ns (fun h₂ hn₂ hs₂ => ?_) hp)
  refine ⟨mC, hn.sameBut hs₂ hCL, fun h₃ hs₃ => ?_⟩
  obtain ⟨a, b⟩ := keep_but hs₃ (F.set hn₂ hs₂) (N.set hs₂) hC0 hCL hl
  exact done h₃ _ a b
/-- over a list of the ledger's -/
theorem comp_list {use : Option (Value → Sem Unit)} {Q : Value → Shared → Prop} {l : Addr} {lo : Obj} {vs : List Value} (J : Nat → List Value → List (Addr × Obj) → Prop)
    (hh : A.handled = none) (hl : s.heap.IsList l vs.toArray) (hsz : vs.length ≤ sizeLine)
    (F : Fr h₀ L s.heap m) (N : News h₀ L s.heap ((l, lo) :: news)) (hnl : ∀ p ∈ news, p.1 ≠ l) (hJ : J 0 [] news)
    (hcell : ∀ y ∈ scope.names, y.2 ≠ .cell) (hkind : scope.kind = .function) (hx : scope.names.lookup x = some .local)
    (turn : ∀ i v ys k news₁ h tk I o C D (mC : Str → Option Value) g, vs[i]? = some v → ys.length = i → J i ys news₁ → (∀ p ∈ news₁, p.1 ≠ D ∧ p.1 ≠ I ∧ p.1 ≠ l) → I ≠ D → l ≠ D → l ≠ I → (∀ b o, h₀.get? b = some o → g.get? b = some o) →
      Fr g C h (fun y => if y = x then some v else mC y) → News g C h ((D, listOf ys.toArray k) :: (I, o) :: (l, lo) :: news₁) →
      wpAny (model prog w) A (eval elt (compEnvC scope cl C env)) (CStep g C D [(I, o), (l, lo)] ys k (J (i + 1)) { s with heap := h, toks := tk }) (fun _ _ => False) { s with heap := h, toks := tk })
    (done : ∀ h' tk mC ys k news₁ D C, J vs.length ys news₁ → ys.length = vs.length → h'.Ns C mC → Fr h₀ L h' m → News h₀ L h' ((D, listOf ys.toArray k) :: (l, lo) :: news₁) → (∀ p ∈ news₁, p.1 ≠ D ∧ p.1 ≠ l) → l ≠ D →
      h₀.get? C = none → C ≠ L → (∀ p ∈ (D, listOf ys.toArray k) :: (l, lo) :: news₁, p.1 ≠ C) → compPost (model prog w) A E use Q (.ref D) C (.ok .next) { s with heap := h', toks := tk }) :
    wpAny (model prog w) A (pyIter (.ref l)) (fun it s₂ => CompK prog w A env E elt iter x px scope pos cl use Q it s₂) E s := by
  refine wpAny_pyIter_list hl ?_
  have h1 : h₀.get? s.heap.objs.size = none := by
    cases q : h₀.get? s.heap.objs.size with
    | none => rfl
    | some o => exact absurd (Heap.lt_size (F.keep _ _ q)) (Nat.lt_irrefl _)
  have h2 : L ≠ s.heap.objs.size := Nat.ne_of_lt F.ns.lt
  have hne : l ≠ s.heap.objs.size := Nat.ne_of_lt (Heap.lt_size (N (l, lo) (.head _)).1)
  have W := Walks.list (prog := prog) (w := w) hh s.heap.objs.size l hne vs.toArray
  rw [List.size_toArray] at W
  refine comp_core (fx := [(l, lo)]) (s := { s with heap := _ }) J W hsz (fun b hb => by simpa using hb) (fun i h st => by obtain ⟨o, ho, _⟩ := st.1; exact ⟨o, ho⟩) h2 h1
    ⟨⟨_, Heap.get?_push_size _ rfl, rfl, rfl⟩, hl.at fun o e => Heap.get?_push_of_some _ e⟩
    (F.push _) (fun p hp => ⟨Heap.get?_push_of_some _ (N p hp).1, (N p hp).2⟩) (fun p hp => Nat.ne_of_lt (Heap.lt_size (N p hp).1)) (fun p hp q hq => by rw [List.mem_singleton.mp hq]; exact hnl p hp) hJ hcell hkind hx ?_ ?_
  · intro i v ys k news₁ h tk o C D mC hi hv hlen hJ₁ ho hD hf F₁ N₁
    refine turn i v ys k news₁ h tk _ o C D mC _ (by simpa using hv) hlen hJ₁ (fun p hp => ⟨(ho p hp).1, (ho p hp).2 _ (.head _), (ho p hp).2 _ (.tail _ (.head _))⟩) (hD _ (.head _)) (hD _ (.tail _ (.head _))) hne (fun b o e => ?_) F₁ N₁
    refine hideAll_get _ (Heap.get?_push_of_some _ (F.keep b o e)) fun q => ?_
    rcases List.mem_cons.mp q with q | q
    · rw [q, h1] at e; cases e
    · obtain ⟨p, hp, e'⟩ := List.mem_map.mp q
      rw [← e', (N p hp).2.2] at e; cases e
  · intro h' tk mC ys k news₁ D C hJ₁ hlen hn F₁ N₁ hd hf hC0 hCL hC
    exact done h' tk mC ys k news₁ D C hJ₁ hlen hn F₁ N₁ (fun p hp => ⟨(hd p hp).1, (hd p hp).2 _ (.head _)⟩) (hf _ (.head _)) hC0 hCL hC
/-- over a tuple of the ledger's -/
theorem comp_tuple {use : Option (Value → Sem Unit)} {Q : Value → Shared → Prop} {l : Addr} {lo : Obj} {vs : List Value} (J : Nat → List Value → List (Addr × Obj) → Prop)
    (hh : A.handled = none) (hl : s.heap.IsTuple l vs.toArray) (hsz : vs.length ≤ sizeLine)
    (F : Fr h₀ L s.heap m) (N : News h₀ L s.heap ((l, lo) :: news)) (hnl : ∀ p ∈ news, p.1 ≠ l) (hJ : J 0 [] news)
    (hcell : ∀ y ∈ scope.names, y.2 ≠ .cell) (hkind : scope.kind = .function) (hx : scope.names.lookup x = some .local)
    (turn : ∀ i v ys k news₁ h tk I o C D (mC : Str → Option Value) g, vs[i]? = some v → ys.length = i → J i ys news₁ → (∀ p ∈ news₁, p.1 ≠ D ∧ p.1 ≠ I ∧ p.1 ≠ l) → I ≠ D → l ≠ D → l ≠ I → (∀ b o, h₀.get? b = some o → g.get? b = some o) →
      Fr g C h (fun y => if y = x then some v else mC y) → News g C h ((D, listOf ys.toArray k) :: (I, o) :: (l, lo) :: news₁) →
      wpAny (model prog w) A (eval elt (compEnvC scope cl C env)) (CStep g C D [(I, o), (l, lo)] ys k (J (i + 1)) { s with heap := h, toks := tk }) (fun _ _ => False) { s with heap := h, toks := tk })
    (done : ∀ h' tk mC ys k news₁ D C, J vs.length ys news₁ → ys.length = vs.length → h'.Ns C mC → Fr h₀ L h' m → News h₀ L h' ((D, listOf ys.toArray k) :: (l, lo) :: news₁) → (∀ p ∈ news₁, p.1 ≠ D ∧ p.1 ≠ l) → l ≠ D →
      h₀.get? C = none → C ≠ L → (∀ p ∈ (D, listOf ys.toArray k) :: (l, lo) :: news₁, p.1 ≠ C) → compPost (model prog w) A E use Q (.ref D) C (.ok .next) { s with heap := h', toks := tk }) :
    wpAny (model prog w) A (pyIter (.ref l)) (fun it s₂ => CompK prog w A env E elt iter x px scope pos cl use Q it s₂) E s := by
  refine wpAny_pyIter_tuple hl ?_
  have h1 : h₀.get? s.heap.objs.size = none := by
    cases q : h₀.get? s.heap.objs.size with
    | none => rfl
    | some o => exact absurd (Heap.lt_size (F.keep _ _ q)) (Nat.lt_irrefl _)
  have h2 : L ≠ s.heap.objs.size := Nat.ne_of_lt F.ns.lt
  have hne : l ≠ s.heap.objs.size := Nat.ne_of_lt (Heap.lt_size (N (l, lo) (.head _)).1)
  have W := Walks.tuple (prog := prog) (w := w) hh s.heap.objs.size l hne vs.toArray
  rw [List.size_toArray] at W
  refine comp_core (fx := [(l, lo)]) (s := { s with heap := _ }) J W hsz (fun b hb => by simpa using hb) (fun i h st => by obtain ⟨o, ho, _⟩ := st.1; exact ⟨o, ho⟩) h2 h1
    ⟨⟨_, Heap.get?_push_size _ rfl, rfl, rfl⟩, hl.at fun o e => Heap.get?_push_of_some _ e⟩
    (F.push _) (fun p hp => ⟨Heap.get?_push_of_some _ (N p hp).1, (N p hp).2⟩) (fun p hp => Nat.ne_of_lt (Heap.lt_size (N p hp).1)) (fun p hp q hq => by rw [List.mem_singleton.mp hq]; exact hnl p hp) hJ hcell hkind hx ?_ ?_
  · intro i v ys k news₁ h tk o C D mC hi hv hlen hJ₁ ho hD hf F₁ N₁
    refine turn i v ys k news₁ h tk _ o C D mC _ (by simpa using hv) hlen hJ₁ (fun p hp => ⟨(ho p hp).1, (ho p hp).2 _ (.head _), (ho p hp).2 _ (.tail _ (.head _))⟩) (hD _ (.head _)) (hD _ (.tail _ (.head _))) hne (fun b o e => ?_) F₁ N₁
    refine hideAll_get _ (Heap.get?_push_of_some _ (F.keep b o e)) fun q => ?_
    rcases List.mem_cons.mp q with q | q
    · rw [q, h1] at e; cases e
    · obtain ⟨p, hp, e'⟩ := List.mem_map.mp q
      rw [← e', (N p hp).2.2] at e; cases e
  · intro h' tk mC ys k news₁ D C hJ₁ hlen hn F₁ N₁ hd hf hC0 hCL hC
    exact done h' tk mC ys k news₁ D C hJ₁ hlen hn F₁ N₁ (fun p hp => ⟨(hd p hp).1, (hd p hp).2 _ (.head _)⟩) (hf _ (.head _)) hC0 hCL hC
/-- over a range -/
theorem comp_range {use : Option (Value → Sem Unit)} {Q : Value → Shared → Prop} {r : Addr} {a c b₀ : Int} {t₀ u₀ v₀ : Tok} {n : Nat} (J : Nat → List Value → List (Addr × Obj) → Prop)
    (hh : A.handled = none) (hr : IsRange s.heap r a b₀ c t₀ u₀ v₀) (hsmall : Builtin.Range.small a b₀ c = true) (hn : Builtin.Range.rangeSize a b₀ c = (n : Int)) (hsz : n ≤ sizeLine)
    (F : Fr h₀ L s.heap m) (N : News h₀ L s.heap news) (hJ : J 0 [] news)
    (hcell : ∀ y ∈ scope.names, y.2 ≠ .cell) (hkind : scope.kind = .function) (hx : scope.names.lookup x = some .local)
    (turn : ∀ (i : Nat) t ys k news₁ h tk I o C D (mC : Str → Option Value) g, i < n → ys.length = i → J i ys news₁ → (∀ p ∈ news₁, p.1 ≠ D ∧ p.1 ≠ I) → I ≠ D → (∀ b o, h₀.get? b = some o → g.get? b = some o) →
      Fr g C h (fun y => if y = x then some (.int (a + i * c) t) else mC y) → News g C h ((D, listOf ys.toArray k) :: (I, o) :: news₁) →
      wpAny (model prog w) A (eval elt (compEnvC scope cl C env)) (CStep g C D [(I, o)] ys k (J (i + 1)) { s with heap := h, toks := tk }) (fun _ _ => False) { s with heap := h, toks := tk })
    (done : ∀ h' tk mC ys k news₁ D C, J n ys news₁ → ys.length = n → h'.Ns C mC → Fr h₀ L h' m → News h₀ L h' ((D, listOf ys.toArray k) :: news₁) → (∀ p ∈ news₁, p.1 ≠ D) →
      h₀.get? C = none → C ≠ L → (∀ p ∈ (D, listOf ys.toArray k) :: news₁, p.1 ≠ C) → compPost (model prog w) A E use Q (.ref D) C (.ok .next) { s with heap := h', toks := tk }) :
    wpAny (model prog w) A (pyIter (.ref r)) (fun it s₂ => CompK prog w A env E elt iter x px scope pos cl use Q it s₂) E s := by
  refine wpAny_pyIter_range hr hsmall ?_
  have h1 : h₀.get? s.heap.objs.size = none := by
    cases q : h₀.get? s.heap.objs.size with
    | none => rfl
    | some o => exact absurd (Heap.lt_size (F.keep _ _ q)) (Nat.lt_irrefl _)
  have h2 : L ≠ s.heap.objs.size := Nat.ne_of_lt F.ns.lt
  refine comp_core (fx := []) (s := { s with heap := _ }) J (Walks.range hh s.heap.objs.size a c n) hsz (fun b hb => .inl (by simpa using hb)) (fun i h st => ⟨_, st⟩) h2 h1 (by rw [hn]; simpa using Heap.get?_push_size _ rfl)
    (F.push _) (fun p hp => ⟨Heap.get?_push_of_some _ (N p hp).1, (N p hp).2⟩) (fun p hp => Nat.ne_of_lt (Heap.lt_size (N p hp).1)) (by simp) hJ hcell hkind hx ?_ ?_
  · rintro i v ys k news₁ h tk o C D mC hi ⟨t, rfl⟩ hlen hJ₁ ho hD hf F₁ N₁
    refine turn i t ys k news₁ h tk _ o C D mC _ hi hlen hJ₁ (fun p hp => ⟨(ho p hp).1, (ho p hp).2 _ (.head _)⟩) (hD _ (.head _)) (fun b o e => ?_) F₁ N₁
    refine hideAll_get _ (Heap.get?_push_of_some _ (F.keep b o e)) fun q => ?_
    rcases List.mem_cons.mp q with q | q
    · rw [q, h1] at e; cases e
    · obtain ⟨p, hp, e'⟩ := List.mem_map.mp q
      rw [← e', (N p hp).2.2] at e; cases e
  · intro h' tk mC ys k news₁ D C hJ₁ hlen hn F₁ N₁ hd hf hC0 hCL hC
    exact done h' tk mC ys k news₁ D C hJ₁ hlen hn F₁ N₁ (fun p hp => (hd p hp).1) hC0 hCL hC
end

local macro_rules | `(tactic| tb_start) => `(tactic| first | (with_reducible show wpAny _ _ (exec (Stmt.While _ _ _ _) _) _ _ _) | (with_reducible show wpAny _ _ (exec (Stmt.For _ _ _ _ _) _) _ _ _) | (with_reducible show wpAny _ _ (pyIter _) _ _ _))
section
variable {w : World} {p : Program} {loose : List Str} {mg mb : Str → Option Value} {h₀ : Heap} {A : Around} {s : Shared} {Q E : Value → Shared → Prop} {L : Addr} {m : Str → Option Value} {news : List (Addr × Obj)} {g : Obj → List (Addr × Obj)}
    {c d : Addr} {l : List Nat} {k : Nat} {a1 a2 a3 a4 : Nat}
set_option maxHeartbeats 4000000 in
theorem take_yes {ch : Nat}
    (F₀ : Fr h₀ L s.heap m) (N₀ : News h₀ L s.heap news) (X₀ : (Hd.KK w.params).In h₀) (T₀ : TopRead p loose mg mb h₀)
    (hc : (c, instObj 236 d) ∈ news) (hd : (d, curD w.params (tx l) k a1 a2 a3 a4) ∈ news) (U : UpdF d (curD w.params (tx l) k a1 a2 a3 a4) news g) (hcd : @Ne Nat c d)
    (room : A.depth + 1 < recursionLimit) (hl : (tx l).length ≤ 1048576) (hr : l[k]? = some ch)
    (ret : ∀ h' tk' t' b1 b2 b3 b4, Fr h₀ L h' m → News h₀ L h' (g (curD w.params (tx l) ((k + 1 : Nat) : Int) b1 b2 b3 b4)) → Q (.str (tx [ch]) t') { s with heap := h', toks := tk' }) :
    wpAny (model PySem.Challenge.rw_qd0064_01.row.prog w) A (call (.ref 155) [.ref c]) Q E s := by
  have O := own_cur F₀ N₀ hc hd
  have G : Good w p loose mg mb h₀ := ⟨X₀, T₀⟩
  have hlt : k < l.length := (List.getElem?_eq_some_iff.mp hr).1
  have hlen := tx_length l
  have hdn : decide (l.length ≤ k) = false := by simpa using hlt
  refine' enter_ret (binds := [(Str.ofString "self", .ref c)]) G O ?h1 ?h2 (by walk_at "mk_room") ?h3 ?h4 ?h ?c1 ?c2 ?c3 ?c4
  walk_at "mk_enter"
  intro L h₁ hL F N X T
  k_fold
  (repeat' ((fail_if_success tb_start); first | ((first | ((with_reducible show wpAny _ _ (call (Value.ref 133) [Value.ref _]) _ _ _); refine is_done_use (by k_asm) (by k_asm) (by k_asm) (by k_asm) (by k_dflt k_mem) (by k_dflt k_mem) (by walk_at "mk_room") (by walk_at "mk_fact") ?_; walk_at "mk_in") | ((with_reducible show wpAny _ _ (subscriptTail _ _ (Value.str (tx _) _) (Value.int _ _)) _ _ _); refine sub_tx (by with_reducible assumption) (by walk_at "mk_fact") (by walk_at "mk_fact") ?_) | tb_rel); (try dsimp only)) | walk_at "mk_tail" | (walk_at "mk_dl"; first | ((first | ((with_reducible show wpAny _ _ (call (Value.ref 133) [Value.ref _]) _ _ _); refine is_done_use (by k_asm) (by k_asm) (by k_asm) (by k_asm) (by k_dflt k_mem) (by k_dflt k_mem) (by walk_at "mk_room") (by walk_at "mk_fact") ?_; walk_at "mk_in") | ((with_reducible show wpAny _ _ (subscriptTail _ _ (Value.str (tx _) _) (Value.int _ _)) _ _ _); refine sub_tx (by with_reducible assumption) (by walk_at "mk_fact") (by walk_at "mk_fact") ?_) | tb_rel); (try dsimp only)) | walk1) | (walk_at "mk_late"; (try dsimp only))))
  (with_reducible rename Fr _ _ _ _ => FF); (with_reducible rename News _ _ _ _ => NN)
  have e := ext_cur1 O FF (News.get NN (List.Mem.head _))
  obtain ⟨F', N'⟩ := use1 F₀ N₀ U e (News.get NN (List.Mem.tail _ (List.Mem.head _)))
  exact ret _ _ _ _ _ _ _ F' N'
set_option maxHeartbeats 4000000 in
theorem take_while_ok {ds rest sg : List Nat} {ts : Tok}
    (F₀ : Fr h₀ L s.heap m) (N₀ : News h₀ L s.heap news) (X₀ : (Hd.KK w.params).In h₀) (T₀ : TopRead p loose mg mb h₀)
    (hc : (c, instObj 236 d) ∈ news) (hd : (d, curD w.params (tx l) k a1 a2 a3 a4) ∈ news) (U : UpdF d (curD w.params (tx l) k a1 a2 a3 a4) news g) (hcd : @Ne Nat c d)
    (room : A.depth + 1 < recursionLimit) (hl : (tx l).length ≤ 1048576) (hr : l.drop k = ds ++ rest) (hds : ∀ x ∈ ds, x ∈ sg) (hre : ∀ x, rest.head? = some x → x ∉ sg)
    (ret : ∀ h' tk' t' b1 b2 b3 b4, Fr h₀ L h' m → News h₀ L h' (g (curD w.params (tx l) ((k + ds.length : Nat) : Int) b1 b2 b3 b4)) → Q (.str (tx ds) t') { s with heap := h', toks := tk' }) :
    wpAny (model PySem.Challenge.rw_qd0064_01.row.prog w) A (call (.ref 169) [.ref c, .str (tx sg) ts]) Q E s := by
  have O := own_cur F₀ N₀ hc hd
  have G : Good w p loose mg mb h₀ := ⟨X₀, T₀⟩
  have hlen := tx_length l
  have hll : l.length - k = ds.length + rest.length := by rw [← List.length_drop, hr, List.length_append]
  refine' enter_ret (binds := [(Str.ofString "self", .ref c), (Str.ofString "signs", .str (tx sg) ts)]) G O ?h1 ?h2 (by walk_at "mk_room") ?h3 ?h4 ?h ?c1 ?c2 ?c3 ?c4
  walk_at "mk_enter"
  intro L h₁ hL F N X T
  k_fold
  walk_at "mk_go"
  (with_reducible rename Fr _ _ _ _ => F1); (with_reducible rename News _ _ _ _ => N1)
  refine while_mkN (fun n nw => ∃ i b1 b2 b3 b4, i + n = ds.length ∧ nw = [(c, instObj 236 d), (d, curD w.params (tx l) ((k + i : Nat) : Int) b1 b2 b3 b4)]) (n₀ := ds.length) F1 N1 ⟨0, _, _, _, _, by omega, rfl⟩ ?_
  rintro n nw h2 tk2 F2 N2 ⟨i, b1, b2, b3, b4, hi, rfl⟩
  clear F1 N1
  have hx : l[k + i]? = (ds ++ rest)[i]? := by rw [← hr, List.getElem?_drop]
  by_cases hn : n = 0
  · have hre' : (ds ++ rest)[i]? = rest.head? := by
      rw [List.getElem?_append_right (by omega), show i - ds.length = 0 by omega]; cases rest <;> rfl
    cases hh : rest.head? with
    | none =>
      have hlt : ¬ k + i < l.length := by
        intro h; rw [hre', hh] at hx; rw [List.getElem?_eq_getElem h] at hx; cases hx
      (repeat' ((fail_if_success tb_start); first | ((first | ((with_reducible show wpAny _ _ (call (Value.builtin "len") [Value.str _ _]) _ _ _); refine P.len_str (by (try simp only [tx_length]); omega) ?_) | tb_rel); (try dsimp only)) | walk_at "mk_tail" | (walk_at "mk_dl"; first | ((first | ((with_reducible show wpAny _ _ (call (Value.builtin "len") [Value.str _ _]) _ _ _); refine P.len_str (by (try simp only [tx_length]); omega) ?_) | tb_rel); (try dsimp only)) | walk1) | (walk_at "mk_late"; (try dsimp only))))
      (with_reducible rename Fr _ _ _ _ => FF); (with_reducible rename News _ _ _ _ => NN)
      have e := ext_cur1 O FF (News.get NN (List.Mem.head _))
      obtain ⟨F', N'⟩ := use1 F₀ N₀ U e (News.get NN (List.Mem.tail _ (List.Mem.head _)))
      have hi' : i = ds.length := by omega
      subst hi'
      rw [slice_tx _ _ _ (by omega), Nat.add_sub_cancel_left, hr, List.take_left' rfl]
      exact ret _ _ _ _ _ _ _ F' N'
    | some x =>
      have hx' : l[k + i]? = some x := by rw [hx, hre', hh]
      have hlt : k + i < l.length := (List.getElem?_eq_some_iff.mp hx').1
      have hin : decide (x ∈ sg) = false := by simpa using hre x hh
      (repeat' ((fail_if_success tb_start); first | ((first | ((with_reducible show wpAny _ _ (compareOp CmpOp.In (Value.str (tx _) _) (Value.str (tx _) _)) _ _ _); refine in_tx ?_) | ((with_reducible show wpAny _ _ (subscriptTail _ _ (Value.str (tx _) _) (Value.int _ _)) _ _ _); refine sub_tx (by with_reducible assumption) (by walk_at "mk_fact") (by walk_at "mk_fact") ?_) | ((with_reducible show wpAny _ _ (call (Value.builtin "len") [Value.str _ _]) _ _ _); refine P.len_str (by (try simp only [tx_length]); omega) ?_) | tb_rel); (try dsimp only)) | walk_at "mk_tail" | (walk_at "mk_dl"; first | ((first | ((with_reducible show wpAny _ _ (compareOp CmpOp.In (Value.str (tx _) _) (Value.str (tx _) _)) _ _ _); refine in_tx ?_) | ((with_reducible show wpAny _ _ (subscriptTail _ _ (Value.str (tx _) _) (Value.int _ _)) _ _ _); refine sub_tx (by with_reducible assumption) (by walk_at "mk_fact") (by walk_at "mk_fact") ?_) | ((with_reducible show wpAny _ _ (call (Value.builtin "len") [Value.str _ _]) _ _ _); refine P.len_str (by (try simp only [tx_length]); omega) ?_) | tb_rel); (try dsimp only)) | walk1) | (walk_at "mk_late"; (try dsimp only))))
      (with_reducible rename Fr _ _ _ _ => FF); (with_reducible rename News _ _ _ _ => NN)
      have e := ext_cur1 O FF (News.get NN (List.Mem.head _))
      obtain ⟨F', N'⟩ := use1 F₀ N₀ U e (News.get NN (List.Mem.tail _ (List.Mem.head _)))
      have hi' : i = ds.length := by omega
      subst hi'
      rw [slice_tx _ _ _ (by omega), Nat.add_sub_cancel_left, hr, List.take_left' rfl]
      exact ret _ _ _ _ _ _ _ F' N'
  · have hil : i < ds.length := by omega
    have hx' : l[k + i]? = some ds[i] := by rw [hx, List.getElem?_append_left hil, List.getElem?_eq_getElem hil]
    have hlt : k + i < l.length := (List.getElem?_eq_some_iff.mp hx').1
    have hin : decide (ds[i] ∈ sg) = true := by simpa using hds _ (List.getElem_mem hil)
    (repeat' ((fail_if_success tb_start); first | ((first | ((with_reducible show wpAny _ _ (compareOp CmpOp.In (Value.str (tx _) _) (Value.str (tx _) _)) _ _ _); refine in_tx ?_) | ((with_reducible show wpAny _ _ (subscriptTail _ _ (Value.str (tx _) _) (Value.int _ _)) _ _ _); refine sub_tx (by with_reducible assumption) (by walk_at "mk_fact") (by walk_at "mk_fact") ?_) | ((with_reducible show wpAny _ _ (call (Value.builtin "len") [Value.str _ _]) _ _ _); refine P.len_str (by (try simp only [tx_length]); omega) ?_) | tb_rel); (try dsimp only)) | walk_at "mk_tail" | (walk_at "mk_dl"; first | ((first | ((with_reducible show wpAny _ _ (compareOp CmpOp.In (Value.str (tx _) _) (Value.str (tx _) _)) _ _ _); refine in_tx ?_) | ((with_reducible show wpAny _ _ (subscriptTail _ _ (Value.str (tx _) _) (Value.int _ _)) _ _ _); refine sub_tx (by with_reducible assumption) (by walk_at "mk_fact") (by walk_at "mk_fact") ?_) | ((with_reducible show wpAny _ _ (call (Value.builtin "len") [Value.str _ _]) _ _ _); refine P.len_str (by (try simp only [tx_length]); omega) ?_) | tb_rel); (try dsimp only)) | walk1) | (walk_at "mk_late"; (try dsimp only))))
    (with_reducible rename Fr _ _ _ _ => FF); (with_reducible rename News _ _ _ _ => NN)
    exact WStepN.next FF NN (show n - 1 < n by omega) ⟨i + 1, _, _, _, _, by omega, rfl⟩
end

theorem enter_cret {w : World} {p : Program} {loose : List Str} {mg mb : Str → Option Value} {b : Heap} {A : Around} {s : Shared} {R : Result → Shared → Prop} {fp : List (Addr × Obj)}
    {name qual : Str} {params : Arguments} {body : List Stmt} {scope : Scope} {dV kV doc pm cdv ct oc : Value} {an od : Option Addr} {osl : Array (Option Value)} {f : Addr} {args : Args} {binds : List (Str × Value)}
    (G : Good w p loose mg mb b) (O : Own b s.heap fp)
    (ho : (Hd.KK w.params).lookup f = some ⟨oc, od, .func (fnOf name qual params body scope dV kV doc pm an cdv ct), osl⟩) (hcd : codeIn (Hd.KK w.params) cdv qual = true)
    (hroom : A.depth < recursionLimit)
    (hbind : BindsTo s (fnOf name qual params body scope dV kV doc pm an cdv ct) args binds) (hloc : ∀ y ∈ binds, scope.names.lookup y.1 = some .local)
    (h : ∀ L h₁, s.heap.objs.size ≤ L → Fr (hideAll s.heap (fp.map (·.1))) L h₁ (fun y => binds.reverse.lookup y) → News (hideAll s.heap (fp.map (·.1))) L h₁ fp →
      (Hd.KK w.params).In (hideAll s.heap (fp.map (·.1))) → TopRead p loose mg mb (hideAll s.heap (fp.map (·.1))) →
      wpAny (model PySem.Challenge.rw_qd0064_01.row.prog w) (A.deeper (envOf qual scope L f cdv)) (execs body (envOf qual scope L f cdv))
        (fun fl s' => R (.ok (.ret (match fl with | .ret v => v | _ => .none))) s') (fun _ _ => False)
        { s with heap := h₁, toks := s.toks + binds.length })
    (hco : scope.isCoroutine = false) (hgen : scope.isGenerator = false) (hk : scope.kind = .function)
    (hcell : ∀ x ∈ scope.names, x.2 ≠ .cell) : codeAny (model PySem.Challenge.rw_qd0064_01.row.prog w) A (.call (.ref f) args) R s :=
  enter_fn G O ho hcd hroom hbind hloc (fun L h₁ l F N X T => wpAny_mono (h L h₁ l F N X T) (fun _ _ x => x) (fun _ _ x => x.elim)) hco hgen hk hcell
/-- several objects were changed; what is told of them -/
theorem useN {h₀ h h' : Heap} {L : Addr} {m : Str → Option Value} {fp fp' news : List (Addr × Obj)} (F : Fr h₀ L h m) (N : News h₀ L h (fp ++ news)) (e : Ext (fp.map (·.1)) h h') (hn : ∀ p ∈ news, p.1 ∉ fp.map (·.1))
    (hf : ∀ p ∈ fp', p.1 ∈ fp.map (·.1) ∧ h'.get? p.1 = some p.2) : Fr h₀ L h' m ∧ News h₀ L h' (fp' ++ news) := by
  have hD : ∀ a ∈ fp.map (·.1), a ≠ L ∧ h₀.get? a = none := fun a ha => by
    obtain ⟨p, hp, rfl⟩ := List.mem_map.mp ha
    exact (N p (List.mem_append_left _ hp)).2
  refine ⟨fr_ext F (fun q => (hD _ q).1 rfl) (fun a ha => (hD a ha).2) e, fun p hp => ?_⟩
  rcases List.mem_append.mp hp with hp | hp
  · exact ⟨(hf p hp).2, hD _ (hf p hp).1⟩
  · exact ⟨e _ _ (hn p hp) (N p (List.mem_append_right _ hp)).1, (N p (List.mem_append_right _ hp)).2⟩
section
variable {w : World} {p : Program} {loose : List Str} {mg mb : Str → Option Value} {h₀ : Heap} {A : Around} {s : Shared} {Q E : Value → Shared → Prop} {L : Addr} {m : Str → Option Value} {news : List (Addr × Obj)} {g : Obj → List (Addr × Obj)}
    {c d : Addr} {l : List Nat} {k : Nat} {a1 a2 a3 a4 : Nat}
set_option maxHeartbeats 4000000 in
theorem make_position {i j n : Int} {t1 t2 t3 : Tok}
    (F₀ : Fr h₀ L s.heap m) (N₀ : News h₀ L s.heap news) (X₀ : (Hd.KK w.params).In h₀) (T₀ : TopRead p loose mg mb h₀) (room : A.depth + 2 < recursionLimit)
    (ret : ∀ x h' tk', Fr h₀ L h' m → News h₀ L h' news → Q (.ref x) { s with heap := h', toks := tk' }) :
    wpAny (model PySem.Challenge.rw_qd0064_01.row.prog w) A (call (.ref 60) [.int i t1, .int j t2, .int n t3]) Q E s := by
  refine' call_cls F₀ X₀ N₀ ?k4 ?k5 ?k6 ?_
  case k4 => k_dflt k_is
  case k5 => k_dflt k_is
  case k6 => k_dflt k_is
  intro x dx h1 F1 N1 l1 l2
  have O := own_cur (x := (x, instObj 60 dx)) (y := (dx, dictOf [] 0)) F1 N1 (.head _) (.tail _ (.head _))
  have G : Good w p loose mg mb h₀ := ⟨X₀, T₀⟩
  replace l2 := ltN l2
  refine' enter_cret (s := { s with heap := h1 }) (binds := [(Str.ofString "self", .ref x), (Str.ofString "offset", .int i t1), (Str.ofString "line", .int j t2), (Str.ofString "column", .int n t3)]) G O ?h1 ?h2 ?room ?h3 ?h4 ?h ?c1 ?c2 ?c3 ?c4
  case room => walk_at "mk_room"
  walk_at "mk_enter"
  intro L h₁ hL F N X T
  k_fold
  walk_at "mk_go"
  refine ⟨rfl, ?_⟩
  obtain ⟨F', N'⟩ := useN (fp := [(x, instObj 60 dx), (dx, dictOf [] 0)]) (fp' := []) F1 N1 (ext_of (by assumption)) (fun p hp q => by
    have h1 : @LT.lt Nat _ p.1 dx := l1 p hp
    rcases List.mem_cons.mp q with q | q
    · exact Nat.ne_of_lt (Nat.lt_trans h1 l2) q
    · exact Nat.ne_of_lt h1 (List.mem_singleton.mp q)) (fun p hp => nomatch hp)
  exact ret _ _ _ F' N'
end
section
variable {prog : Program} {w : World} {h₀ : Heap} {A : Around} {s : Shared} {Q E : Value → Shared → Prop} {L : Addr} {m : Str → Option Value} {news : List (Addr × Obj)} {a b : Int} {t u : Tok}
theorem size_one (k : Nat) : Builtin.Range.rangeSize 0 (k : Int) 1 = (k : Int) := by
  unfold Builtin.Range.rangeSize
  simp
  omega
theorem fits_small {j : Int} (h0 : -1 ≤ j) (h : j ≤ 1048577) : Builtin.Range.rangeFitsLong j = true := by
  unfold Builtin.Range.rangeFitsLong
  simp
  omega
theorem small_one {k : Nat} (h : k ≤ 1048576) : Builtin.Range.small 0 (k : Int) 1 = true := by
  unfold Builtin.Range.small
  rw [size_one, fits_small (j := 0) (by omega) (by omega), fits_small (j := (k : Int)) (by omega) (by omega), fits_small (j := 1) (by omega) (by omega)]
  simp
  exact .inr (fits_small (by omega) (by omega))
theorem max_fst (hle : b ≤ a) (hh : A.handled = none) (F : Fr h₀ L s.heap m) (N : News h₀ L s.heap news) (h : ∀ h' tk, Fr h₀ L h' m → News h₀ L h' news → Q (.int a t) { s with heap := h', toks := tk }) :
    wpAny (model prog w) A (call (.builtin "max") [.int a t, .int b u]) Q E s :=
  max_two_N hh F N fun h' tk F' N' => by rw [if_neg (by omega), if_neg (by omega)]; exact h h' tk F' N'
theorem min_fst (hle : a ≤ b) (hh : A.handled = none) (F : Fr h₀ L s.heap m) (N : News h₀ L s.heap news) (h : ∀ h' tk, Fr h₀ L h' m → News h₀ L h' news → Q (.int a t) { s with heap := h', toks := tk }) :
    wpAny (model prog w) A (call (.builtin "min") [.int a t, .int b u]) Q E s :=
  min_two_N hh F N fun h' tk F' N' => by rw [if_neg (by omega), if_neg (by omega)]; exact h h' tk F' N'
end
theorem hh_deep {A : Around} {e : Env} (h : A.handled = none) : (A.deeper e).handled = none := h
theorem hh_und {A : Around} {c : Code} (h : A.handled = none) : (A.under c).handled = none := h
local macro_rules | `(tactic| walk_at "mk_hh") => `(tactic| first | with_reducible assumption | (with_reducible refine hh_deep ?_; walk_at "mk_hh") | (with_reducible refine hh_und ?_; walk_at "mk_hh") | (with_unfolding_all assumption))
section
variable {w : World} {p : Program} {loose : List Str} {mg mb : Str → Option Value} {h₀ : Heap} {A : Around} {s : Shared} {Q E : Value → Shared → Prop} {L : Addr} {m : Str → Option Value} {news : List (Addr × Obj)} {g : Obj → List (Addr × Obj)}
    {c d : Addr} {l : List Nat} {k : Nat} {a1 a2 a3 a4 : Nat}
set_option maxHeartbeats 8000000 in
theorem position_of_ok {t1 t2 : Tok}
    (F₀ : Fr h₀ L s.heap m) (N₀ : News h₀ L s.heap news) (X₀ : (Hd.KK w.params).In h₀) (T₀ : TopRead p loose mg mb h₀) (hh : A.handled = none) (room : A.depth + 3 < recursionLimit) (hl : (tx l).length ≤ 1048576) (hk : k ≤ l.length)
    (ret : ∀ x h' tk', Fr h₀ L h' m → News h₀ L h' news → Q (.ref x) { s with heap := h', toks := tk' }) :
    wpAny (model PySem.Challenge.rw_qd0064_01.row.prog w) A (call (.ref 71) [.str (tx l) t1, .int k t2]) Q E s := by
  have O : Own h₀ s.heap [] := ⟨F₀.keep, (fun _ h => nomatch h), (fun _ h => nomatch h)⟩
  have G : Good w p loose mg mb h₀ := ⟨X₀, T₀⟩
  have hlen := tx_length l
  refine' enter_ret (binds := [(Str.ofString "text", .str (tx l) t1), (Str.ofString "offset", .int k t2)]) G O ?h1 ?h2 (by walk_at "mk_room") ?h3 ?h4 ?h ?c1 ?c2 ?c3 ?c4
  walk_at "mk_enter"
  intro L h₁ hL F N X T
  k_fold
  (repeat' ((fail_if_success tb_start); first | ((first | ((with_reducible show wpAny _ _ (call (Value.builtin "min") [Value.int _ _, Value.int _ _]) _ _ _); refine min_fst (by walk_at "mk_fact") (by walk_at "mk_hh") (by k_asm) (by k_asm) ?_; walk_at "mk_in") | ((with_reducible show wpAny _ _ (call (Value.builtin "max") [Value.int _ _, Value.int _ _]) _ _ _); refine max_fst (by walk_at "mk_fact") (by walk_at "mk_hh") (by k_asm) (by k_asm) ?_; walk_at "mk_in") | ((with_reducible show wpAny _ _ (call (Value.builtin "len") [Value.str _ _]) _ _ _); refine P.len_str (by (try simp only [tx_length]); omega) ?_) | tb_rel); (try dsimp only)) | walk_at "mk_tail" | (walk_at "mk_dl"; first | ((first | ((with_reducible show wpAny _ _ (call (Value.builtin "min") [Value.int _ _, Value.int _ _]) _ _ _); refine min_fst (by walk_at "mk_fact") (by walk_at "mk_hh") (by k_asm) (by k_asm) ?_; walk_at "mk_in") | ((with_reducible show wpAny _ _ (call (Value.builtin "max") [Value.int _ _, Value.int _ _]) _ _ _); refine max_fst (by walk_at "mk_fact") (by walk_at "mk_hh") (by k_asm) (by k_asm) ?_; walk_at "mk_in") | ((with_reducible show wpAny _ _ (call (Value.builtin "len") [Value.str _ _]) _ _ _); refine P.len_str (by (try simp only [tx_length]); omega) ?_) | tb_rel); (try dsimp only)) | walk1) | (walk_at "mk_late"; (try dsimp only))))
  refine wpAny_For ?_ ?hs
  case hs => intro _; rfl
  walk_at "mk_go"
  (with_reducible rename IsRange _ _ _ _ _ _ _ _ => R1); (with_reducible rename Fr _ _ _ _ => F1); (with_reducible rename News _ _ _ _ => N1)
  refine for_range (n := k) (fun _ m₁ nw => nw = [] ∧ m₁ (Str.ofString "text") = some (.str (tx l) t1) ∧ (∃ t, m₁ (Str.ofString "at") = some (.int k t)) ∧ (∃ be t, m₁ (Str.ofString "begun") = some (.int be t)) ∧ ∃ li t, m₁ (Str.ofString "line") = some (.int li t))
    (by walk_at "mk_hh") R1 (small_one (by omega)) (size_one k) F1 N1 ⟨rfl, rfl, ⟨_, rfl⟩, ⟨_, _, rfl⟩, ⟨_, _, rfl⟩⟩ ?_ ?_ rfl rfl (by passes_own)
  · rintro i t m₁ nw h2 tk2 I o hi ⟨rfl, q1, ⟨ta, q2⟩, ⟨be, tb, q3⟩, li, tl, q4⟩ _ F2 N2
    clear F1 N1 R1
    obtain ⟨ch, hch⟩ : ∃ ch, l[i]? = some ch := ⟨_, List.getElem?_eq_getElem (by omega)⟩
    (repeat' ((fail_if_success tb_start); first | ((first | ((with_reducible show wpAny _ _ (subscriptTail _ _ (Value.str (tx _) _) (Value.int _ _)) _ _ _); refine sub_tx (by with_reducible assumption) (by walk_at "mk_fact") (by walk_at "mk_fact") ?_) | tb_rel); (try dsimp only)) | walk_at "mk_tail" | (walk_at "mk_dl"; first | ((first | ((with_reducible show wpAny _ _ (subscriptTail _ _ (Value.str (tx _) _) (Value.int _ _)) _ _ _); refine sub_tx (by with_reducible assumption) (by walk_at "mk_fact") (by walk_at "mk_fact") ?_) | tb_rel); (try dsimp only)) | walk1) | (walk_at "mk_late"; (try dsimp only))))
    all_goals ((with_reducible rename Fr _ _ _ _ => FF); (with_reducible rename News _ _ _ _ => NN); exact FStep.next (own := [(I, o)]) (news₂ := []) FF NN (fun _ h => nomatch h) ⟨rfl, by walk_at "mk_look", ⟨_, by walk_at "mk_look"⟩, ⟨_, _, by walk_at "mk_look"⟩, _, _, by walk_at "mk_look"⟩)
  · rintro m₁ nw h2 tk2 ⟨rfl, q1, ⟨ta, q2⟩, ⟨be, tb, q3⟩, li, tl, q4⟩ F2 N2
    clear F1 N1 R1
    (repeat' ((fail_if_success tb_start); first | ((first | ((with_reducible show wpAny _ _ (call (Value.ref 60) [Value.int _ _, Value.int _ _, Value.int _ _]) _ _ _); refine make_position (by k_asm) (by k_asm) (by k_asm) (by k_asm) (by walk_at "mk_room") ?_; walk_at "mk_in") | tb_rel); (try dsimp only)) | walk_at "mk_tail" | (walk_at "mk_dl"; first | ((first | ((with_reducible show wpAny _ _ (call (Value.ref 60) [Value.int _ _, Value.int _ _, Value.int _ _]) _ _ _); refine make_position (by k_asm) (by k_asm) (by k_asm) (by k_asm) (by walk_at "mk_room") ?_; walk_at "mk_in") | tb_rel); (try dsimp only)) | walk1) | (walk_at "mk_late"; (try dsimp only))))
    (with_reducible rename Fr _ _ _ _ => FF); (with_reducible rename News _ _ _ _ => NN)
    have e := ext_end (D := []) O FF fun p hp _ => nomatch hp
    obtain ⟨F', N'⟩ := use0 F₀ N₀ e
    exact ret _ _ _ F' N'
end
section
variable {w : World} {p : Program} {loose : List Str} {mg mb : Str → Option Value} {h₀ : Heap} {A : Around} {s : Shared} {Q E : Value → Shared → Prop} {L : Addr} {m : Str → Option Value} {news : List (Addr × Obj)} {g : Obj → List (Addr × Obj)}
    {c d : Addr} {l : List Nat} {k : Nat} {a1 a2 a3 a4 : Nat}
set_option maxHeartbeats 4000000 in
theorem position_ok
    (F₀ : Fr h₀ L s.heap m) (N₀ : News h₀ L s.heap news) (X₀ : (Hd.KK w.params).In h₀) (T₀ : TopRead p loose mg mb h₀)
    (hc : (c, instObj 236 d) ∈ news) (hd : (d, curD w.params (tx l) k a1 a2 a3 a4) ∈ news) (hh : A.handled = none)
    (room : A.depth + 4 < recursionLimit) (hl : (tx l).length ≤ 1048576) (hk : k ≤ l.length)
    (ret : ∀ x h' tk', Fr h₀ L h' m → News h₀ L h' news → Q (.ref x) { s with heap := h', toks := tk' }) :
    wpAny (model PySem.Challenge.rw_qd0064_01.row.prog w) A (call (.ref 205) [.ref c]) Q E s := by
  have O := own_cur F₀ N₀ hc hd
  have G : Good w p loose mg mb h₀ := ⟨X₀, T₀⟩
  refine' enter_ret (binds := [(Str.ofString "self", .ref c)]) G O ?h1 ?h2 (by walk_at "mk_room") ?h3 ?h4 ?h ?c1 ?c2 ?c3 ?c4
  walk_at "mk_enter"
  intro L h₁ hL F N X T
  k_fold
  (repeat' ((fail_if_success tb_start); first | ((first | ((with_reducible show wpAny _ _ (call (Value.ref 71) [Value.str _ _, Value.int _ _]) _ _ _); refine position_of_ok (by k_asm) (by k_asm) (by k_asm) (by k_asm) (by walk_at "mk_hh") (by walk_at "mk_room") (by walk_at "mk_fact") (by walk_at "mk_fact") ?_; walk_at "mk_in") | tb_rel); (try dsimp only)) | walk_at "mk_tail" | (walk_at "mk_dl"; first | ((first | ((with_reducible show wpAny _ _ (call (Value.ref 71) [Value.str _ _, Value.int _ _]) _ _ _); refine position_of_ok (by k_asm) (by k_asm) (by k_asm) (by k_asm) (by walk_at "mk_hh") (by walk_at "mk_room") (by walk_at "mk_fact") (by walk_at "mk_fact") ?_; walk_at "mk_in") | tb_rel); (try dsimp only)) | walk1) | (walk_at "mk_late"; (try dsimp only))))
  (with_reducible rename Fr _ _ _ _ => FF); (with_reducible rename News _ _ _ _ => NN)
  have e := ext_end (D := []) O FF fun p hp _ => News.get NN hp
  obtain ⟨F', N'⟩ := use0 F₀ N₀ e
  exact ret _ _ _ F' N'
end

/-- texts joined -/
noncomputable def jn (sep : List Nat) : List (List Nat) → List Nat
  | [] => []
  | [x] => x
  | x :: y :: r => x ++ sep ++ jn sep (y :: r)
theorem strJoin_tx (sep : List Nat) : ∀ ys : List (List Nat), Str.join (tx sep) (ys.map tx) = tx (jn sep ys)
  | [] => rfl
  | [x] => rfl
  | x :: y :: r => by
    have ih := strJoin_tx sep (y :: r)
    show tx x ++ tx sep ++ Str.join (tx sep) ((y :: r).map tx) = _
    rw [ih, tx_append, tx_append]
    rfl
theorem join_tx (sep : List Nat) (ys : List (List Nat)) : Txt.join (tx sep) (ys.map tx) = tx (jn sep ys) := by
  rw [eq_of_beq (join_plain_closes _ _), strJoin_tx]
section
variable {w : World} {p : Program} {loose : List Str} {mg mb : Str → Option Value} {h₀ : Heap} {A : Around} {s : Shared} {Q E : Value → Shared → Prop} {L : Addr} {m : Str → Option Value} {news : List (Addr × Obj)} {g : Obj → List (Addr × Obj)}
    {c d : Addr} {l : List Nat} {k : Nat} {a1 a2 a3 a4 : Nat}
set_option maxHeartbeats 8000000 in
theorem quoted_one {te : Tok}
    (F₀ : Fr h₀ L s.heap m) (N₀ : News h₀ L s.heap news) (X₀ : (Hd.KK w.params).In h₀) (T₀ : TopRead p loose mg mb h₀)
    (hc : (c, instObj 236 d) ∈ news) (hd : (d, curD w.params (tx l) k a1 a2 a3 a4) ∈ news) (U : UpdF d (curD w.params (tx l) k a1 a2 a3 a4) news g) (hcd : @Ne Nat c d)
    (room : A.depth + 2 < recursionLimit) (hl : (tx l).length ≤ 1048576) (hr0 : l[k]? = some 49) (hr1 : l[k + 1]? = some 34)
    (ret : ∀ h' tk' t' b1 b2 b3 b4, Fr h₀ L h' m → News h₀ L h' (g (curD w.params (tx l) ((k + 2 : Nat) : Int) b1 b2 b3 b4)) → Q (.str (tx [49]) t') { s with heap := h', toks := tk' }) :
    wpAny (model PySem.Challenge.rw_qd0064_01.row.prog w) A (call (.ref 233) [.ref c, .str (tx [34]) te]) Q E s := by
  have O := own_cur F₀ N₀ hc hd
  have G : Good w p loose mg mb h₀ := ⟨X₀, T₀⟩
  have hlen := tx_length l
  have h1 : k + 1 < l.length := (List.getElem?_eq_some_iff.mp hr1).1
  have hd0 : decide (l.length ≤ k) = false := by simp; omega
  have hd1 : decide (l.length ≤ k + 1) = false := by simp; omega
  have q1 : (tx [49] == tx [34]) = false := by decide
  have q2 : (tx [49] == Str.ofString "\\") = false := by decide
  have q3 : (tx [34] == tx [34]) = true := by decide
  refine' enter_ret (binds := [(Str.ofString "self", .ref c), (Str.ofString "end", .str (tx [34]) te)]) G O ?h1 ?h2 (by walk_at "mk_room") ?h3 ?h4 ?h ?c1 ?c2 ?c3 ?c4
  walk_at "mk_enter"
  intro L h₁ hL F N X T
  k_fold
  walk_at "mk_go"
  (with_reducible rename Fr _ _ _ _ => F1); (with_reducible rename News _ _ _ _ => N1)
  (with_reducible rename _ ∧ _ => l1)
  refine while_mk (fun n m₁ nw => ∃ S b1 b2 b3 b4, (@LT.lt Nat _ c S ∧ @LT.lt Nat _ d S) ∧ m₁ (Str.ofString "self") = some (.ref c) ∧ m₁ (Str.ofString "end") = some (.str (tx [34]) te) ∧ m₁ (Str.ofString "signs") = some (.ref S) ∧
    ((n = 2 ∧ nw = [(S, listOf #[] 0), (c, instObj 236 d), (d, curD w.params (tx l) (k : Nat) b1 b2 b3 b4)]) ∨ (n = 1 ∧ ∃ t, nw = [(S, listOf #[.str (tx [49]) t] 1), (c, instObj 236 d), (d, curD w.params (tx l) ((k + 1 : Nat) : Int) b1 b2 b3 b4)]))) (n₀ := 2) F1 N1
    ⟨_, _, _, _, _, l1, by walk_at "mk_look", by walk_at "mk_look", by walk_at "mk_look", .inl ⟨rfl, rfl⟩⟩ ?_
  rintro n m₁ nw h2 tk2 F2 N2 ⟨S, b1, b2, b3, b4, lS, r1, r2, r3, ⟨rfl, rfl⟩ | ⟨rfl, t, rfl⟩⟩
  · clear F1 N1 l1
    (repeat' ((fail_if_success tb_start); first | ((first | ((with_reducible show wpAny _ _ (call (Value.ref 155) [Value.ref _]) _ _ _); refine take_yes (by k_asm) (by k_asm) (by k_asm) (by k_asm) (by k_dflt k_mem) (by k_dflt k_mem) (by k_dflt k_updF) (by with_reducible assumption) (by walk_at "mk_room") (by walk_at "mk_fact") (by with_reducible assumption) ?_; walk_at "mk_in") | ((with_reducible show wpAny _ _ (call (Value.ref 133) [Value.ref _]) _ _ _); refine is_done_use (by k_asm) (by k_asm) (by k_asm) (by k_asm) (by k_dflt k_mem) (by k_dflt k_mem) (by walk_at "mk_room") (by walk_at "mk_fact") ?_; walk_at "mk_in") | tb_rel); (try dsimp only)) | walk_at "mk_tail" | (walk_at "mk_dl"; first | ((first | ((with_reducible show wpAny _ _ (call (Value.ref 155) [Value.ref _]) _ _ _); refine take_yes (by k_asm) (by k_asm) (by k_asm) (by k_asm) (by k_dflt k_mem) (by k_dflt k_mem) (by k_dflt k_updF) (by with_reducible assumption) (by walk_at "mk_room") (by walk_at "mk_fact") (by with_reducible assumption) ?_; walk_at "mk_in") | ((with_reducible show wpAny _ _ (call (Value.ref 133) [Value.ref _]) _ _ _); refine is_done_use (by k_asm) (by k_asm) (by k_asm) (by k_asm) (by k_dflt k_mem) (by k_dflt k_mem) (by walk_at "mk_room") (by walk_at "mk_fact") ?_; walk_at "mk_in") | tb_rel); (try dsimp only)) | walk1) | (walk_at "mk_late"; (try dsimp only))))
    (with_reducible rename Fr _ _ _ _ => FF); (with_reducible rename News _ _ _ _ => NN)
    exact WStep.next FF NN (by decide) ⟨S, _, _, _, _, lS, by walk_at "mk_look", by walk_at "mk_look", by walk_at "mk_look", .inr ⟨rfl, _, rfl⟩⟩
  · clear F1 N1 l1
    (repeat' ((fail_if_success tb_start); first | ((first | ((with_reducible show wpAny _ _ (call (Value.ref 155) [Value.ref _]) _ _ _); refine take_yes (by k_asm) (by k_asm) (by k_asm) (by k_asm) (by k_dflt k_mem) (by k_dflt k_mem) (by k_dflt k_updF) (by with_reducible assumption) (by walk_at "mk_room") (by walk_at "mk_fact") (by with_reducible assumption) ?_; walk_at "mk_in") | ((with_reducible show wpAny _ _ (call (Value.ref 133) [Value.ref _]) _ _ _); refine is_done_use (by k_asm) (by k_asm) (by k_asm) (by k_asm) (by k_dflt k_mem) (by k_dflt k_mem) (by walk_at "mk_room") (by walk_at "mk_fact") ?_; walk_at "mk_in") | tb_rel); (try dsimp only)) | walk_at "mk_tail" | (walk_at "mk_dl"; first | ((first | ((with_reducible show wpAny _ _ (call (Value.ref 155) [Value.ref _]) _ _ _); refine take_yes (by k_asm) (by k_asm) (by k_asm) (by k_asm) (by k_dflt k_mem) (by k_dflt k_mem) (by k_dflt k_updF) (by with_reducible assumption) (by walk_at "mk_room") (by walk_at "mk_fact") (by with_reducible assumption) ?_; walk_at "mk_in") | ((with_reducible show wpAny _ _ (call (Value.ref 133) [Value.ref _]) _ _ _); refine is_done_use (by k_asm) (by k_asm) (by k_asm) (by k_asm) (by k_dflt k_mem) (by k_dflt k_mem) (by walk_at "mk_room") (by walk_at "mk_fact") ?_; walk_at "mk_in") | tb_rel); (try dsimp only)) | walk1) | (walk_at "mk_late"; (try dsimp only))))
    (with_reducible rename Fr _ _ _ _ => FF); (with_reducible rename News _ _ _ _ => NN)
    have e := ext_cur1 O FF (News.get NN (List.Mem.tail _ (List.Mem.head _)))
    obtain ⟨F', N'⟩ := use1 F₀ N₀ U e (News.get NN (List.Mem.tail _ (List.Mem.tail _ (List.Mem.head _))))
    exact ret _ _ _ _ _ _ _ F' N'
end

noncomputable abbrev excO (C t : Addr) (dct : Option Addr) : Obj := { cls := .ref C, dict := dct, data := .fields #[.ref t, .none, .none, .none, .bool false, .none] }
noncomputable abbrev excTop : List Value := [.type "Exception", .type "BaseException", .type "object"]
noncomputable def exRef : Value → Bool
  | .ref _ => true
  | _ => false
theorem exRef_of {v : Value} (q : exRef v = true) : ∃ a, v = .ref a := by
  cases v <;> first | exact ⟨_, rfl⟩ | cases q
noncomputable def exCd (C : Addr) (cd : ClassData) : Bool := cd.mro.head? == some (.ref C) && cd.mro.tail.head?.any exRef && cd.mro.drop 2 == excTop && cd.hasDict && !cd.hasDel
noncomputable def exSl (l : List (Option Value)) : Bool := l.length == 6 && l[4]? == some (some (.builtin "Exception.__new__"))
noncomputable def exDt (C : Addr) : Data → Bool
  | .cls cd => exCd C cd
  | _ => false
/-- a class of ours over a class of ours over Exception -/
noncomputable def exc2In (K : Frag) (C : Addr) : Bool := (K.lookup C).any fun o => o.cls == .type "type" && exSl o.slots.toList && exDt C o.data
theorem exSl_of {l : List (Option Value)} (q : exSl l = true) : ∃ k0 k1 k2 k3 k5, l = [k0, k1, k2, k3, some (.builtin "Exception.__new__"), k5] := by
  rw [exSl, Bool.and_eq_true, beq_iff_eq, beq_iff_eq] at q
  obtain ⟨n, q⟩ := q
  obtain ⟨k0, l, rfl⟩ := List.exists_cons_of_length_eq_add_one n
  obtain ⟨k1, l, rfl⟩ := List.exists_cons_of_length_eq_add_one (Nat.succ.inj n)
  obtain ⟨k2, l, rfl⟩ := List.exists_cons_of_length_eq_add_one (Nat.succ.inj (Nat.succ.inj n))
  obtain ⟨k3, l, rfl⟩ := List.exists_cons_of_length_eq_add_one (Nat.succ.inj (Nat.succ.inj (Nat.succ.inj n)))
  obtain ⟨k4, l, rfl⟩ := List.exists_cons_of_length_eq_add_one (Nat.succ.inj (Nat.succ.inj (Nat.succ.inj (Nat.succ.inj n))))
  obtain ⟨k5, l, rfl⟩ := List.exists_cons_of_length_eq_add_one (Nat.succ.inj (Nat.succ.inj (Nat.succ.inj (Nat.succ.inj (Nat.succ.inj n)))))
  cases List.eq_nil_of_length_eq_zero (Nat.succ.inj (Nat.succ.inj (Nat.succ.inj (Nat.succ.inj (Nat.succ.inj (Nat.succ.inj n))))))
  cases Option.some.inj q
  exact ⟨k0, k1, k2, k3, k5, rfl⟩
theorem exCd_of {C : Addr} {cd : ClassData} (q : exCd C cd = true) : ∃ C2, cd.mro = .ref C :: .ref C2 :: excTop ∧ cd.hasDict = true ∧ cd.hasDel = false := by
  simp only [exCd, Bool.and_eq_true, beq_iff_eq, Bool.not_eq_true'] at q
  obtain ⟨⟨⟨⟨h1, h2⟩, h3⟩, h4⟩, h5⟩ := q
  generalize cd.mro = l at *
  cases l with
  | nil => cases h1
  | cons a l =>
    cases Option.some.inj h1
    cases l with
    | nil => cases h2
    | cons b l =>
      obtain ⟨x, rfl⟩ := exRef_of (v := b) h2
      cases h3
      exact ⟨x, rfl, h4, h5⟩
theorem exDt_of {C : Addr} {dt : Data} (q : exDt C dt = true) : ∃ cd, dt = .cls cd ∧ exCd C cd = true := by
  cases dt <;> first | exact ⟨_, rfl, q⟩ | cases q
theorem exc2_obj {K : Frag} {h : Heap} {C : Addr} (X : K.In h) (q : exc2In K C = true) : ∃ nm qn N bs C2 sn sub ab col dd k0 k1 k2 k3 k5,
    h.get? C = some (excClassObj nm qn C N bs (.ref C2 :: excTop) true sn sub ab col dd k0 k1 k2 k3 k5 "Exception.__new__") ∧ clsIn K C = some { name := nm, bases := bs, mro := .ref C :: .ref C2 :: excTop, ns := N, qualname := qn, hasDict := true, slotNames := sn, subclasses := sub, abstract := ab, collection := col, hasDel := false } := by
  obtain ⟨o, ho, q⟩ := any_some q
  rw [Bool.and_eq_true, Bool.and_eq_true, beq_iff_eq] at q
  obtain ⟨⟨q1, q2⟩, q3⟩ := q
  obtain ⟨cl, dd, dt, sl⟩ := o
  cases q1
  obtain ⟨cd, e, q3⟩ := exDt_of q3
  cases e
  obtain ⟨C2, hm, hd, hl⟩ := exCd_of q3
  obtain ⟨k0, k1, k2, k3, k5, hs⟩ := exSl_of q2
  obtain ⟨l⟩ := sl
  cases hs
  obtain ⟨nm, bs, mro, ns, qn, hd', sn, sub, ab, col, del⟩ := cd
  cases hm; cases hd; cases hl
  exact ⟨nm, qn, ns, bs, C2, sn, sub, ab, col, dd, k0, k1, k2, k3, k5, X _ _ ho, by unfold clsIn; rw [ho]⟩
section
variable {prog : Program} {w : World} {A : Around} {E : Value → Shared → Prop} {K : Frag} {h : Heap} {g : Array GenState} {d : Drawn} {t : Nat} {os : OsState}
variable {nm q : Str} {C N C2 : Addr} {bs bm : List Value} {sn : List Str} {sub : List Value} {ab : Bool} {col : Option Bool} {dd : Option Addr} {k0 k1 k2 k3 k5 : Option Value}
theorem new_check2 {rest : List Value} {Q : Unit → Shared → Prop} (hC : h.get? C = some (excClassObj nm q C N bs (.ref C2 :: excTop) true sn sub ab col dd k0 k1 k2 k3 k5 "Exception.__new__"))
    (hq : Q () ⟨h, g, d, t, os⟩) : wpAny (model prog w) A (checkBuiltinCall "Exception.__new__" ⟨.ref C :: rest, []⟩) Q E ⟨h, g, d, t, os⟩ := by
  have F := PySem.F.excBase_Exception
  have hcont : (Value.ref C :: .ref C2 :: excTop).contains (.type "Exception") = true := by simp
  have hstar := F.noStar
  simp only [checkBuiltinCall, F.newKind, F.newSplit, F.newRow]
  repeat (first | refine wpAny_loadPart_at hC ?_ | (refine wpAny_isSubtype_exc hC ?_; rw [hcont]) | refine wpAny_staticBase_exc hC ?_ | refine wpAny_madeBy_exc hC ?_ | simp only [bne_self_eq_false, Bool.false_eq_true, if_false] | wp_step)
  exact hq
theorem new_code2 {R : Result → Shared → Prop} {rest : List Value} (hC : h.get? C = some (excClassObj nm q C N bs (.ref C2 :: excTop) true sn sub ab col dd k0 k1 k2 k3 k5 "Exception.__new__"))
    (hq : R (.ok (.ret (.ref (h.objs.size + 1)))) ⟨(h.push { cls := .type "tuple", data := .seq rest.toArray }).push (excO C h.objs.size none), g, d, t, os⟩) (hrest : rest.length ≤ sizeLine) :
    codeAny (model prog w) A (.builtin "Exception.__new__" ⟨.ref C :: rest, []⟩) R ⟨h, g, d, t, os⟩ := by
  have F := PySem.F.excBase_Exception
  have hends := F.ends
  have hcB : (Value.ref C :: .ref C2 :: excTop).contains (.type "Exception") = true := by simp
  have hcA : (Value.ref C :: .ref C2 :: excTop).contains (.type "AttributeError") = false := by simp
  have hcN : (Value.ref C :: .ref C2 :: excTop).contains (.type "NameError") = false := by simp
  refine codeAny_builtinAt F.entry ?_
  unfold Builtin.«BaseException.__new__»
  refine PySem.wpAt_bind ?_
  show PySem.wpAt _ _ _ (stack >>= _) _ _ _
  refine PySem.wpAt_bind (PySem.wpAt_stack fun p below => PySem.wpAt_of_wpAny ?_)
  wp_walk
  refine PySem.wpAt_of_wpAny ?_
  rw [F.owner]
  repeat (first | with_reducible refine wpAny_madeHere_exc F.canon hC ?_ | with_reducible refine wpAny_loadPart_at hC ?_ | (with_reducible refine wpAny_isSubtype_exc hC ?_; first | rw [hcB] | rw [hcA] | rw [hcN]) | wp_step)
  show R _ _
  rw [Heap.size_push]
  exact hq
theorem type_call2 {rest : List Value} {fI : Addr} {Q : Fin → Shared → Prop} (X : K.In h)
    (hC : h.get? C = some (excClassObj nm q C N bs (.ref C2 :: excTop) true sn sub ab col dd k0 k1 k2 k3 k5 "Exception.__new__")) (hi : findIn K (.ref C) "__init__" = some (some (.ref fI))) (hf : typeIn K (.ref fI) = some (.type "function"))
    (hq : wpAny (model prog w) A (call (.ref fI) (.ref (h.objs.size + 1) :: rest)) (fun r s' => r = .none ∧ Q (.done (.ret (.ref (h.objs.size + 1)))) s') E ⟨(h.push { cls := .type "tuple", data := .seq rest.toArray }).push (excO C h.objs.size none), g, d, t, os⟩) (hrest : rest.length ≤ sizeLine) :
    wpAny (model prog w) A (Builtin.«type.__call__» ⟨.ref C :: rest, []⟩) Q E ⟨h, g, d, t, os⟩ := by
  have F := PySem.F.excBase_Exception
  repeat (first | with_reducible refine wpAny_loadPart_at hC ?_ | with_reducible refine wpAny_madeBy_exc hC ?_ | wp_step)
  refine codeAny_call_builtin_code (Code.quiet_builtin _ F.quiet) (new_check2 hC ?_)
  refine new_code2 hC ?_ hrest
  show wpAny _ _ _ _ _ _
  have kp : ∀ b o, h.get? b = some o → ((h.push { cls := .type "tuple", data := .seq rest.toArray }).push (excO C h.objs.size none)).get? b = some o := fun b o e => Heap.get?_push_of_some _ (Heap.get?_push_of_some _ e)
  have hC₁ := kp _ _ hC
  have hget : ((h.push { cls := .type "tuple", data := .seq rest.toArray }).push (excO C h.objs.size none)).get? (h.objs.size + 1) = some (excO C h.objs.size none) := by heap_get
  have hcC : (Value.ref C :: .ref C2 :: excTop).contains (.ref C) = true := by simp
  unfold isInstance
  repeat (first | with_reducible refine wpAny_loadPart_at hget ?_ | (with_reducible refine wpAny_isSubtype_exc hC₁ ?_; rw [hcC]) | wp_step)
  show wpAny _ _ (typeLookup (.ref C) _) _ _ _
  refine ((looks_findIn X hi).keeps kp).here ?_
  refine wpAny_holding (wpAny_bind (((bind_fn X _ hf).keeps kp).here ?_))
  refine wpAny_bind (wpAny_mono hq (fun r s' hr => ?_) fun _ _ x => x)
  obtain ⟨rfl, hQ⟩ := hr
  wp_walk
  exact hQ
theorem call_exc2 {rest : List Value} {fI : Addr} {Q : Value → Shared → Prop} (X : K.In h) (hx : exc2In K C = true) (hi : findIn K (.ref C) "__init__" = some (some (.ref fI))) (hf : typeIn K (.ref fI) = some (.type "function"))
    (hq : wpAny (model prog w) (A.under (.builtin "type.__call__" ⟨.ref C :: rest, []⟩)) (call (.ref fI) (.ref (h.objs.size + 1) :: rest)) (fun r s' => r = .none ∧ Q (.ref (h.objs.size + 1)) s') E ⟨(h.push { cls := .type "tuple", data := .seq rest.toArray }).push (excO C h.objs.size none), g, d, t, os⟩) (hrest : rest.length ≤ sizeLine) :
    wpAny (model prog w) A (call (.ref C) rest) Q E ⟨h, g, d, t, os⟩ := by
  obtain ⟨nm, qn, N, bs, C2, sn, sub, ab, col, dd, k0, k1, k2, k3, k5, hC, _⟩ := exc2_obj X hx
  have f1 := tc_lookup
  have f2 := tc_bind (.ref C)
  have hT : (⟨h, g, d, t, os⟩ : Shared).TypeIs (.ref C) "type" := ⟨_, hC, rfl⟩
  refine wpAny_call (codeAny_of_tree ?_)
  show wpAny _ _ (callAny (.ref C) _) _ _ _
  repeat (any_goals (first | assumption | with_reducible refine wpAny_loadPart_at hC ?_ | wp_step))
  refine ⟨rfl, ?_⟩
  exact codeAny_call_builtin_at (Code.quiet_builtin _ (by decide +kernel)) entry_typeCall (wpAny_check_type_call_sub hC (type_call2 X hC hi hf hq hrest))
end
section
variable {prog : Program} {w : World} {A : Around} {E : Value → Shared → Prop} {s : Shared} {K : Frag} {C L : Addr} {h₀ : Heap} {m : Str → Option Value} {news : List (Addr × Obj)}
theorem make_exc2 {rest : List Value} {fI : Addr} {Q : Value → Shared → Prop} (F : Fr h₀ L s.heap m) (N : News h₀ L s.heap news) (X₀ : K.In h₀) (hx : exc2In K C = true) (hi : findIn K (.ref C) "__init__" = some (some (.ref fI))) (hf : typeIn K (.ref fI) = some (.type "function"))
    (hrest : rest.length ≤ sizeLine)
    (hq : ∀ e t h', Fr h₀ L h' m → News h₀ L h' ((e, excO C t none) :: news) → (∀ p ∈ news, p.1 < e) →
      wpAny (model prog w) (A.under (.builtin "type.__call__" ⟨.ref C :: rest, []⟩)) (call (.ref fI) (.ref e :: rest)) (fun r s' => r = .none ∧ Q (.ref e) s') E { s with heap := h' }) :
    wpAny (model prog w) A (call (.ref C) rest) Q E s := by
  obtain ⟨hh, g, d, t, os⟩ := s
  refine call_exc2 (X₀.keeps F.keep) hx hi hf (hq _ hh.objs.size _ ((F.push _).push _) ?_ (fun p hp => Nat.lt_succ_of_lt (Heap.lt_size (N p hp).1))) hrest
  have := (N.push F { cls := .type "tuple", data := .seq rest.toArray }).push (F.push _) (excO C hh.objs.size none)
  rw [Heap.size_push] at this
  intro p hp
  rcases List.mem_cons.mp hp with rfl | hp
  · exact this _ (.head _)
  · exact this _ (.tail _ (.tail _ hp))
theorem raise_any {env : Env} {x : Expr} {pos : Pos} {Q : Flow → Shared → Prop} (hx : exc2In K C = true) (hh : A.handled = none)
    (h : wpAny (model prog w) A (eval x env) (fun v s₁ => ∃ e t dct, v = .ref e ∧ s₁.heap.get? e = some (excO C t dct) ∧ K.In s₁.heap ∧ E (.ref e) s₁) E s) :
    wpAny (model prog w) A (exec (.Raise (some x) none pos) env) Q E s := by
  rw [arm_exec_Raise]
  have key : ∀ (y : Sem Value) (s : Shared), wpAny (model prog w) A y (fun v s₁ => ∃ e t dct, v = .ref e ∧ s₁.heap.get? e = some (excO C t dct) ∧ K.In s₁.heap ∧ E (.ref e) s₁) E s → wpAny (model prog w) A (raiseStmt env (some y) none) Q E s := by
    intro y s hy
    unfold raiseStmt
    refine wpAny_bind (wpAny_mono hy (fun v s₁ h₁ => ?_) fun _ _ x => x)
    obtain ⟨e, t, dct, rfl, he, X, hE⟩ := h₁
    obtain ⟨hp, g, d, tk, os⟩ := s₁
    obtain ⟨nm, qn, N, bs, C2, sn, sub, ab, col, dd, k0, k1, k2, k3, k5, hC, _⟩ := exc2_obj X hx
    have hcB : (Value.ref C :: .ref C2 :: excTop).contains (.type "BaseException") = true := by simp
    repeat (first | with_reducible refine wpAny_loadPart_at he ?_ | with_reducible refine wpAny_loadPart_at hC ?_ | (with_reducible refine wpAny_isSubtype_exc hC ?_; rw [hcB]) | wp_step)
    exact wpAny_raiseNew_none hh hE
  first
    | exact wpAny_bind (wpAny_standAt (key _ _ (wpAny_bind (wpAny_mono h (fun v s₁ h₁ => wpAny_bind (wpAny_standAt (wpAny_pure h₁))) fun _ _ x => x))))
    | (simp only [evalOpt, Option.map]; exact wpAny_bind (wpAny_standAt (key _ _ (wpAny_bind (wpAny_mono h (fun v s₁ h₁ => wpAny_bind (wpAny_standAt (wpAny_pure h₁))) fun _ _ x => x)))))
    | (show wpAny (model prog w) A (do standAt pos; raiseStmt env (some (do let v ← eval x env; standAt pos; pure v)) none) Q E s; exact wpAny_bind (wpAny_standAt (key _ _ (wpAny_bind (wpAny_mono h (fun v s₁ h₁ => wpAny_bind (wpAny_standAt (wpAny_pure h₁))) fun _ _ x => x)))))
end

noncomputable def excOver (K : Frag) (C : Addr) : Bool := (clsIn K C).any fun cd => match cd.mro with | .ref _ :: .ref _ :: r => r == excTop && cd.hasDict | _ => false
theorem excOver_of {K : Frag} {C : Addr} (q : excOver K C = true) : ∃ cd a b, clsIn K C = some cd ∧ cd.mro = .ref a :: .ref b :: excTop ∧ cd.hasDict = true := by
  obtain ⟨cd, hc, q⟩ := any_some q
  split at q
  · rename_i a b r hm
    simp only [Bool.and_eq_true, beq_iff_eq] at q
    obtain ⟨rfl, hd⟩ := q
    exact ⟨cd, a, b, hc, hm, hd⟩
  · cases q
theorem refuse_exc (self : Value) (a b : Addr) : refuseLoop self "__setattr__" (.ref a :: .ref b :: excTop) = pure () := by
  rw [refuseLoop_ref, refuseLoop_ref]; exact PySem.F.store_Exception.passes self
section
variable {prog : Program} {w : World} {A : Around} {E : Value → Shared → Prop} {s : Shared} {K : Frag} {C L x : Addr} {h₀ : Heap} {m : Str → Option Value} {news : List (Addr × Obj)} {R : Result → Shared → Prop}
open Builtin Builtin.ObjectAttr
theorem osaE_open {ox : Obj} {od : Option Obj} {name : Str} {tk : Tok} {v : Value} (X : K.In s.heap) (I : InstAt s.heap x ox C od) (hp : excOver K C = true) (ht : findIn K (.ref C) name = some none)
    (h : ∀ b, wpAny (model prog w) A.in1 (storeInOwnDict (.ref x) (.ref C) (.str name tk) name v b)
      (fun fin s' => match fin with | .done f => R (.ok f) s' | .again c' => c'.quiet = true ∧ codeAny (model prog w) A c' R s') (fun e s' => R (.error e) s') s) :
    codeAny (model prog w) A (.call (.builtin "object.__setattr__") ⟨[.ref x, .str name tk, v], []⟩) R s := by
  have SF := PySem.F.store_object
  obtain ⟨cd, a, b, hc, hm, hd⟩ := excOver_of hp
  have sub : Looks (model prog w) s.heap (isInstance (.ref x) (.type "object")) true := I.type.andThen (looks_mroIn X (by unfold mroIn; rw [hc, Option.bind_some, hm]; rfl))
  refine codeAny_call_builtin SF.slot.plain SF.entry (@check_slot (model prog w) _ _ s "object.__setattr__" "object" "__setattr__" (.ref x) [.str name tk, v] [] _ SF.kind SF.split sub (SF.args (.ref x) (.str name tk) v) ?_)
  have hmo : Looks (model prog w) s.heap (mroOf (.ref C)) (.ref a :: .ref b :: excTop) := hm ▸ (looks_clsIn X hc).andThen .now
  rw [osa_eq, refuse_eq]
  refine wpAny_bind (wpAny_bind (I.type.here (wpAny_bind (hmo.here ?_))))
  rw [refuse_exc]
  have L3 : Looks (model prog w) s.heap (storeTaker? none) none := .now
  exact wpAny_pure (wpAny_bind (I.type.here (wpAny_bind ((looks_findIn X ht).here (wpAny_bind (L3.here (h _)))))))
theorem osaE_dict {ox od od' : Obj} {dx : Addr} {name : Str} {tk : Tok} {v : Value} {pre post : List (Addr × Obj)} {es : List DictEntry} {n : Nat} (F : Fr h₀ L s.heap m) (N : News h₀ L s.heap (pre ++ (dx, od) :: post)) (X : K.In s.heap)
    (I : InstAt s.heap x ox C (some od)) (hd : ox.dict = some dx) (hp : excOver K C = true) (ht : findIn K (.ref C) name = some none)
    (hl : (lookIn name od).isSome = true) (h1 : ∀ p ∈ pre, p.1 ≠ dx) (h2 : ∀ p ∈ post, p.1 ≠ dx)
    (e : Obj.putName name (PyData.keyHash w.params name) (.str name s.toks) v od = od') (e' : od'.data = .dict es.toArray n) (hz : es.length ≤ 1000)
    (h : ∀ h', Fr h₀ L h' m → News h₀ L h' (pre ++ (dx, od') :: post) → R (.ok (.ret .none)) { s with heap := h', toks := s.toks + 1 }) :
    codeAny (model prog w) A (.call (.builtin "object.__setattr__") ⟨[.ref x, .str name tk, v], []⟩) R s := by
  refine osaE_open X I hp ht fun b => ?_
  obtain ⟨cd, _, _, hc, _, hd'⟩ := excOver_of hp
  obtain ⟨U1, U2⟩ := news_upd (f := Obj.putName name (PyData.keyHash w.params name) (.str name s.toks) v) F N h1 h2 e (by obtain ⟨_, _, dd, _⟩ := od'; cases e'; rfl)
  have D := (N (dx, od) (by simp)).1
  have D' := (U2 (dx, od') (by simp)).1
  obtain ⟨hx, hcl, hn, -⟩ := I
  obtain ⟨oc, odi, oda, osl⟩ := ox
  dsimp only at hcl hd
  subst hcl hd
  refine wpAny_bind (wpAny_pure (wpAny_bind (wpAny_bind (wpAny_loadPart hx (wpAny_bind ((looks_clsIn X hc).here ?_))))))
  rw [hd']
  refine wpAny_pure (a := some dx) (wpAny_bind (wpAny_pure (wpAny_bind ?_)))
  unfold nsSet
  refine wpAny_bind (wpAny_bind (wpAny_askSetting (wpAny_pure (wpAny_bind (wpAny_mkText (wpAny_bind (wpAny_loadPart D ?_)))))))
  unfold lookIn at hl
  split at hl
  · rename_i es₀ n₀ q
    rw [q]
    dsimp only
    have c : (!es₀.any (·.key.isStr name) && es₀.any (·.refKey)) = false := by
      rw [← Array.any_toList, ← Array.any_toList]
      split at hl
      · rename_i en he
        rw [List.any_eq_true.mpr ⟨en, List.mem_of_find?_eq_some he, List.find?_some he⟩]; rfl
      · split at hl
        · cases hl
        · rename_i z; rw [Bool.not_eq_true] at z; rw [z, Bool.and_false]
    rw [aRefKeyMayBeTheName_at, c]
    refine wpAny_updatePart D ?_
    refine wpAny_bind (wpAny_lookBehind D' (by rw [e']; exact pastItsLine_dict (by rw [List.size_toArray, sizeLine_eq]; omega)) ?_)
    exact wpAny_pure (h _ U1 U2)
  · cases hl
theorem osaE_none {t : Addr} {name : Str} {tk : Tok} {v : Value} {pre post : List (Addr × Obj)} (F : Fr h₀ L s.heap m) (N : News h₀ L s.heap (pre ++ (x, excO C t none) :: post)) (X : K.In h₀)
    (hp : excOver K C = true) (ht : findIn K (.ref C) name = some none) (h1 : ∀ p ∈ pre, p.1 ≠ x) (h2 : ∀ p ∈ post, p.1 ≠ x)
    (h : ∀ h' D tn, Fr h₀ L h' m → News h₀ L h' ((D, dictOf [⟨PyData.keyHash w.params name, .str name tn, v⟩] 1) :: (pre ++ (x, excO C t (some D)) :: post)) → (∀ p ∈ pre ++ (x, excO C t none) :: post, p.1 < D) → R (.ok (.ret .none)) { s with heap := h', toks := s.toks + 1 }) :
    codeAny (model prog w) A (.call (.builtin "object.__setattr__") ⟨[.ref x, .str name tk, v], []⟩) R s := by
  have hx : s.heap.get? x = some (excO C t none) := (N (x, excO C t none) (by simp)).1
  have X' := X.keeps F.keep
  refine osaE_open (od := none) X' ⟨hx, rfl, rfl, trivial⟩ hp ht fun b => ?_
  obtain ⟨cd, _, _, hc, _, hd'⟩ := excOver_of hp
  refine wpAny_bind (wpAny_pure (wpAny_bind (wpAny_bind (wpAny_loadPart hx (wpAny_bind ((looks_clsIn X' hc).here ?_))))))
  rw [hd']
  have F1 := F.push (emptyDict)
  have N1 : News h₀ L (s.heap.push emptyDict) ((s.heap.objs.size, emptyDict) :: (pre ++ (x, excO C t none) :: post)) := N.push F emptyDict
  have lt : ∀ p ∈ pre ++ (x, excO C t none) :: post, p.1 < s.heap.objs.size := fun p hp => Heap.lt_size (N p hp).1
  have hxs : s.heap.objs.size ≠ x := Nat.ne_of_gt (Heap.lt_size hx)
  obtain ⟨F2, N2⟩ := news_upd (pre := (s.heap.objs.size, emptyDict) :: pre) (post := post) (f := fun o => { o with dict := some s.heap.objs.size }) (o' := excO C t (some s.heap.objs.size)) F1 N1
    (fun p hp => by rcases List.mem_cons.mp hp with rfl | hp; exact hxs; exact h1 p hp) h2 rfl rfl
  obtain ⟨F3, N3⟩ := news_upd (pre := []) (f := Obj.putName name (PyData.keyHash w.params name) (.str name s.toks) v) (o' := dictOf [⟨PyData.keyHash w.params name, .str name s.toks, v⟩] 1) F2 N2
    (fun p hp => nomatch hp) (fun p hp => by
      rcases List.mem_append.mp hp with hp | hp
      · exact Nat.ne_of_lt (lt p (List.mem_append_left _ hp))
      · rcases List.mem_cons.mp hp with rfl | hp
        · exact hxs.symm
        · exact Nat.ne_of_lt (lt p (List.mem_append_right _ (.tail _ hp)))) rfl rfl
  have D := (N2 (s.heap.objs.size, emptyDict) (.head _)).1
  have D' := (N3 _ (.head _)).1
  refine wpAny_bind (wpAny_alloc' ?_)
  refine wpAny_bind (wpAny_update' (N1 (x, excO C t none) (by simp)).1 ?_)
  refine wpAny_pure (a := some s.heap.objs.size) (wpAny_bind (wpAny_pure (wpAny_bind ?_)))
  unfold nsSet
  refine wpAny_bind (wpAny_bind (wpAny_askSetting (wpAny_pure (wpAny_bind (wpAny_mkText (wpAny_bind (wpAny_loadPart D ?_)))))))
  dsimp only
  have c : (!(#[] : Array DictEntry).any (·.key.isStr name) && (#[] : Array DictEntry).any (·.refKey)) = false := by simp
  rw [aRefKeyMayBeTheName_at, c]
  refine wpAny_updatePart D ?_
  refine wpAny_bind (wpAny_lookBehind D' (pastItsLine_dict (by rw [List.size_toArray, sizeLine_eq]; exact Nat.le_of_ble_eq_true rfl)) ?_)
  exact wpAny_pure (h _ _ _ F3 N3 lt)
theorem set_exc_dict {Q : Unit → Shared → Prop} {ox : Obj} {dx : Addr} {name : Str} {v : Value} {es es' : List DictEntry} {n n' : Nat} {news' : List (Addr × Obj)} (F : Fr h₀ L s.heap m) (X₀ : K.In h₀) (N : News h₀ L s.heap news) (I : InstAt s.heap x ox C (some (dictOf es n))) (hd : ox.dict = some dx)
    (hs : findIn K (.ref C) "__setattr__" = some (some (.builtin "object.__setattr__"))) (hp : excOver K C = true) (ht : findIn K (.ref C) name = some none) (hl : (getL name es).isSome = true)
    (e : (putL name (PyData.keyHash w.params name) (.str name (s.toks + 1)) v es, putN name es n) = (es', n')) (U : Upd dx (dictOf es n) (dictOf es' n') news news') (hz : es'.length ≤ 1000)
    (h : ∀ h', Fr h₀ L h' m → News h₀ L h' news' → Q () { s with heap := h', toks := s.toks + 2 }) :
    wpAny (model prog w) A (setAttr (.ref x) name v) Q E s := by
  obtain ⟨pre, post, rfl, rfl, a, b⟩ := U.split
  obtain ⟨e1, e2⟩ := Prod.mk.inj e
  exact set_plain (X₀.keeps F.keep) I hs (osaE_dict (s := { s with toks := s.toks + 1 }) F N (X₀.keeps F.keep) I hd hp ht hl a b (by rw [putName_dict, e1, e2]) rfl hz fun h' F' N' => h h' F' N')
theorem set_exc_none {Q : Unit → Shared → Prop} {t : Addr} {name : Str} {v : Value} {g : Obj → List (Addr × Obj)} (F : Fr h₀ L s.heap m) (X₀ : K.In h₀) (N : News h₀ L s.heap news) (he : (x, excO C t none) ∈ news) (U : UpdF x (excO C t none) news g)
    (hs : findIn K (.ref C) "__setattr__" = some (some (.builtin "object.__setattr__"))) (hp : excOver K C = true) (ht : findIn K (.ref C) name = some none)
    (h : ∀ h' D tn, Fr h₀ L h' m → News h₀ L h' ((D, dictOf [⟨PyData.keyHash w.params name, .str name tn, v⟩] 1) :: g (excO C t (some D))) → (∀ p ∈ news, p.1 < D) → Q () { s with heap := h', toks := s.toks + 2 }) :
    wpAny (model prog w) A (setAttr (.ref x) name v) Q E s := by
  obtain ⟨pre, post, rfl, hg, a, b⟩ := U.split
  have hx : s.heap.get? x = some (excO C t none) := N.get he
  exact set_plain (od := none) (X₀.keeps F.keep) ⟨hx, rfl, rfl, trivial⟩ hs (osaE_none (s := { s with toks := s.toks + 1 }) F N X₀ hp ht a b fun h' D tn F' N' lt => h h' D tn F' (by rw [hg]; exact N') lt)
theorem init_exc2 {t : Addr} {dct : Option Addr} {v : Value} {g : Obj → List (Addr × Obj)} {Q : Value → Shared → Prop} (F : Fr h₀ L s.heap m) (X₀ : K.In h₀) (N : News h₀ L s.heap news) (hx : exc2In K C = true) (he : (x, excO C t dct) ∈ news) (U : UpdF x (excO C t dct) news g)
    (h : ∀ h' t', Fr h₀ L h' m → News h₀ L h' (g (excO C t' dct)) → Q .none { s with heap := h' }) :
    wpAny (model prog w) A (call (.builtin "Exception.__init__") [.ref x, v]) Q E s := by
  have Fx := PySem.F.excBase_Exception
  have X := X₀.keeps F.keep
  have hex : s.heap.get? x = some (excO C t dct) := N.get he
  obtain ⟨nm, qn, N0, bs, C2, sn, sub, ab, col, dd, k0, k1, k2, k3, k5, hC, _⟩ := exc2_obj X hx
  obtain ⟨hp, gg, d, tk, os⟩ := s
  have hck : ∀ A' (Q' : Unit → Shared → Prop) E', Q' () ⟨hp, gg, d, tk, os⟩ → wpAny (model prog w) A' (checkBuiltinCall "Exception.__init__" ⟨[.ref x, v], []⟩) Q' E' ⟨hp, gg, d, tk, os⟩ := by
    intro A' Q' E' hq
    have hcB : (Value.ref C :: .ref C2 :: excTop).contains (.type "Exception") = true := by simp
    have hshort := Fx.noStar
    simp only [checkBuiltinCall, Fx.initKind, Fx.initSplit, Fx.initRow]
    repeat (first | with_reducible refine wpAny_loadPart_at hex ?_ | with_reducible refine wpAny_loadPart_at hC ?_ | (with_reducible refine wpAny_isSubtype_exc hC ?_; rw [hcB]) | wp_step)
    exact hq
  refine wpAny_call (codeAny_call_builtin Fx.init.plain Fx.initEntry (hck _ _ _ ?_))
  unfold Builtin.«BaseException.__init__»
  dsimp only
  rw [if_neg (by simp)]
  unfold newTuple Builtin.BaseException.bexcPut
  have he₁ := Heap.get?_push_of_some (h := hp) { cls := .type "tuple", data := .seq [v].toArray } hex
  refine wpAny_bind (wpAny_newObj_type (wpAny_bind (wpAny_bind (wpAny_field he₁ rfl rfl (wpAny_bind (wpAny_setField he₁ rfl (by show 0 < 6; decide) ?_))))) (by show [v].toArray.size ≤ sizeLine; rw [List.size_toArray, sizeLine_eq]; exact Nat.le_of_ble_eq_true rfl))
  obtain ⟨pre, post, rfl, hg, a, b⟩ := U.split
  have F1 := F.push { cls := .type "tuple", data := .seq [v].toArray }
  have N1 := N.push F { cls := .type "tuple", data := .seq [v].toArray }
  obtain ⟨F2, N2⟩ := news_upd (pre := (hp.objs.size, { cls := .type "tuple", data := .seq [v].toArray }) :: pre) (post := post) (f := Obj.mapFields (·.setIfInBounds 0 (.ref hp.objs.size))) (o' := excO C hp.objs.size dct) F1 N1
    (fun p hp' => by
      rcases List.mem_cons.mp hp' with rfl | hp'
      · exact Nat.ne_of_gt (Heap.lt_size hex)
      · exact a p hp') b rfl rfl
  exact wpAny_letGo (wpAny_pure (h _ _ F2 (by rw [hg]; exact fun p hp' => N2 p (.tail _ hp'))))
end

/-- the stack that an exception passes out through: base stays as it is, the frames of outer change in their slots alone; the innermost frame of outer is L, its ground h₀ -/
structure Sta (A : Around) (base : Heap) (outer : List Env) (h₀ : Heap) (L : Addr) : Prop where
  stack : A.frames = some outer
  stays : base.StaysIn h₀
  frames : ∃ env rest, outer = env :: rest ∧ env.scope.kind ≠ .module ∧ env.frame = some L ∧ h₀.FunFrames base rest
/-- an exception of ours in flight -/
noncomputable def Flown (base : Heap) (outer : List Env) (e : Addr) (h h' : Heap) : Prop :=
  (∃ a0, Heap.FlyingW base outer e (.ref 109) a0 h') ∧ ∀ b ∈ outer.filterMap (·.frame), ∀ o, h.get? b = some o → (∀ vs, o.data ≠ .fields vs) → ∃ sl, h'.get? b = some { o with slots := sl }
theorem Sta.none {A : Around} {base h₀ h : Heap} {outer : List Env} {L : Addr} {m : Str → Option Value} (K : Sta A base outer h₀ L) (F : Fr h₀ L h m) : base.get? L = none := by
  cases hq : base.get? L with
  | none => rfl
  | some o => exact absurd (Nat.lt_of_lt_of_le (Heap.lt_size (K.stays L o hq)) F.above) (Nat.lt_irrefl _)
theorem Sta.mem {A : Around} {base h₀ : Heap} {outer : List Env} {L b : Addr} (K : Sta A base outer h₀ L) (hb : b ∈ outer.filterMap (·.frame)) : b = L ∨ ∃ o, h₀.get? b = some o := by
  obtain ⟨env, rest, rfl, _, hf, hfr⟩ := K.frames
  rcases List.mem_filterMap.mp hb with ⟨e', he, hf'⟩
  rcases List.mem_cons.mp he with rfl | he
  · rw [hf] at hf'; cases hf'; exact .inl rfl
  · obtain ⟨_, o, ho, _⟩ := hfr.mem (List.mem_filterMap.mpr ⟨e', he, hf'⟩)
    exact .inr ⟨o, ho⟩
/-- the frames stand in any heap over the ground, whatever is hidden of it -/
theorem Sta.fun {A : Around} {base h₀ h : Heap} {outer : List Env} {L : Addr} {m : Str → Option Value} {news : List (Addr × Obj)} (K : Sta A base outer h₀ L) (F : Fr h₀ L h m) (N : News h₀ L h news) :
    (hideAll h (news.map (·.1))).FunFrames base outer ∧ base.StaysIn (hideAll h (news.map (·.1))) := by
  have hn := K.none F
  obtain ⟨st, sy, env, rest, rfl, hk, hf, hfr⟩ := K
  have keep : ∀ b o, h₀.get? b = some o → (hideAll h (news.map (·.1))).get? b = some o := fun b o e => hideAll_get _ (F.keep b o e) fun q => by
    obtain ⟨p, hp, rfl⟩ := List.mem_map.mp q
    rw [(N p hp).2.2] at e; cases e
  obtain ⟨oL, es, ep, hL, hd, _⟩ := F.ns
  refine ⟨⟨hk, ⟨L, oL, hf, hn, hideAll_get _ hL (fun q => ?_), fun vs z => by rw [hd] at z; cases z⟩, hfr.of_keeps fun b o e _ => ⟨o, keep b o e, rfl⟩⟩, fun b o e => keep b o (sy b o e)⟩
  obtain ⟨p, hp, e'⟩ := List.mem_map.mp q
  exact (N p hp).2.1 e'
theorem Sta.push {A : Around} {base h₀ h : Heap} {outer : List Env} {L L₁ : Addr} {m : Str → Option Value} {fp : List (Addr × Obj)} {name : Str} {scope : Scope} {a : Addr} {cd : Value}
    (K : Sta A base outer h₀ L) (F : Fr h₀ L h m) (N : News h₀ L h fp) (hk : scope.kind = .function) :
    Sta (A.deeper (envOf name scope L₁ a cd)) base (envOf name scope L₁ a cd :: outer) (hideAll h (fp.map (·.1))) L₁ := by
  obtain ⟨f1, f2⟩ := K.fun F N
  exact ⟨Around.frames_deeper K.stack, f2, _, _, rfl, by show scope.kind ≠ .module; rw [hk]; decide, rfl, f1⟩
theorem Sta.out {A : Around} {base h₀ h : Heap} {outer : List Env} {L : Addr} {fp : List (Addr × Obj)} (K : Sta A base outer h₀ L) (N : News h₀ L h fp) : ∀ p ∈ fp, p.1 ∉ outer.filterMap (·.frame) := fun p hp q => by
  rcases K.mem q with e | ⟨o, e⟩
  · exact (N p hp).2.1 e
  · rw [(N p hp).2.2] at e; cases e
theorem enter_err {w : World} {p : Program} {loose : List Str} {mg mb : Str → Option Value} {b : Heap} {A : Around} {s : Shared} {Q E : Value → Shared → Prop} {fp : List (Addr × Obj)}
    {name qual : Str} {params : Arguments} {body : List Stmt} {scope : Scope} {dV kV doc pm cdv ct oc : Value} {an od : Option Addr} {osl : Array (Option Value)} {f : Addr} {args : List Value} {binds : List (Str × Value)}
    {base h₀ : Heap} {outer : List Env} {Lc : Addr} {mc : Str → Option Value} (KS : Sta A base outer h₀ Lc) (Fc : Fr h₀ Lc s.heap mc) (Nc : News h₀ Lc s.heap fp)
    (G : Good w p loose mg mb b) (O : Own b s.heap fp)
    (ho : (Hd.KK w.params).lookup f = some ⟨oc, od, .func (fnOf name qual params body scope dV kV doc pm an cdv ct), osl⟩) (hcd : codeIn (Hd.KK w.params) cdv qual = true)
    (hroom : A.depth < recursionLimit)
    (hbind : BindsTo s (fnOf name qual params body scope dV kV doc pm an cdv ct) ⟨args, []⟩ binds) (hloc : ∀ y ∈ binds, scope.names.lookup y.1 = some .local)
    (h : ∀ L h₁, s.heap.objs.size ≤ L → Fr (hideAll s.heap (fp.map (·.1))) L h₁ (fun y => binds.reverse.lookup y) → News (hideAll s.heap (fp.map (·.1))) L h₁ fp →
      (Hd.KK w.params).In (hideAll s.heap (fp.map (·.1))) → TopRead p loose mg mb (hideAll s.heap (fp.map (·.1))) →
      Sta (A.deeper (envOf qual scope L f cdv)) base (envOf qual scope L f cdv :: outer) (hideAll s.heap (fp.map (·.1))) L →
      wpAny (model PySem.Challenge.rw_qd0064_01.row.prog w) (A.deeper (envOf qual scope L f cdv)) (execs body (envOf qual scope L f cdv))
        (fun fl s' => Q (match fl with | .ret v => v | _ => .none) s')
        (fun e s' => wpAny (model PySem.Challenge.rw_qd0064_01.row.prog w) (A.deeper (envOf qual scope L f cdv)) (leaving (envOf qual scope L f cdv) e) (fun _ s'' => E e s'') (fun e' s'' => E e' s'') s')
        { s with heap := h₁, toks := s.toks + binds.length })
    (hco : scope.isCoroutine = false) (hgen : scope.isGenerator = false) (hk : scope.kind = .function)
    (hcell : ∀ x ∈ scope.names, x.2 ≠ .cell) : wpAny (model PySem.Challenge.rw_qd0064_01.row.prog w) A (call (.ref f) args) Q E s :=
  wpAny_call (enter_fn G O ho hcd hroom hbind hloc (fun L h₁ l F N X T => h L h₁ l F N X T (KS.push Fc Nc hk)) hco hgen hk hcell)
/-- an exception leaves a def -/
theorem leave_up {M : Model} {A : Around} {E : Value → Shared → Prop} {s' : Shared} {base h h₂ : Heap} {outer : List Env} {L a e : Addr} {name : Str} {scope : Scope} {cd : Value} {Q : Unit → Shared → Prop} {m : Str → Option Value} {fp : List (Addr × Obj)} {h₀ : Heap} {Lc : Addr}
    (K : Sta A base outer h₀ Lc) (Fr2 : Fr (hideAll h (fp.map (·.1))) L h₂ m) (Nc : News h₀ Lc h fp) (R : Flown base (envOf name scope L a cd :: outer) e h₂ s'.heap)
    (hQ : ∀ h', Flown base outer e h h' → Q () { s' with heap := h' }) :
    wpAny M (A.deeper (envOf name scope L a cd)) (leaving (envOf name scope L a cd) (.ref e)) Q E s' := by
  obtain ⟨⟨a0, R⟩, U⟩ := R
  have hfp := K.out Nc
  refine wpAny_leaves_onW (Around.frames_deeper K.stack) rfl R fun h' x1 x2 => hQ h' ⟨⟨a0, x1⟩, fun b hb o ho hd => ?_⟩
  have hb' : b ∈ (envOf name scope L a cd :: outer).filterMap (·.frame) := by
    obtain ⟨env, he, hf⟩ := List.mem_filterMap.mp hb
    exact List.mem_filterMap.mpr ⟨env, .tail _ he, hf⟩
  have h2 := Fr2.keep b o (hideAll_get _ ho fun q => by
    obtain ⟨p, hp, rfl⟩ := List.mem_map.mp q
    exact hfp p hp hb)
  obtain ⟨sl, hs⟩ := U b hb' o h2 hd
  obtain ⟨sl', hs'⟩ := x2 b _ hs hd
  exact ⟨sl', hs'⟩
/-- a new exception leaves the def that made it -/
theorem leave_new {M : Model} {A : Around} {E : Value → Shared → Prop} {s' : Shared} {base h : Heap} {outer : List Env} {L a e t : Addr} {dct : Option Addr} {name : Str} {scope : Scope} {cd : Value} {Q : Unit → Shared → Prop} {m : Str → Option Value} {fp news : List (Addr × Obj)} {h₀ : Heap} {Lc : Addr}
    (K : Sta A base outer h₀ Lc) (K2 : Sta (A.deeper (envOf name scope L a cd)) base (envOf name scope L a cd :: outer) (hideAll h (fp.map (·.1))) L) (Fr2 : Fr (hideAll h (fp.map (·.1))) L s'.heap m) (N2 : News (hideAll h (fp.map (·.1))) L s'.heap news) (he : (e, excO 109 t dct) ∈ news)
    (Nc : News h₀ Lc h fp)
    (hQ : ∀ h', Flown base outer e h h' → Q () { s' with heap := h' }) :
    wpAny M (A.deeper (envOf name scope L a cd)) (leaving (envOf name scope L a cd) (.ref e)) Q E s' := by
  have hex := N2.get he
  have hfp := K.out Nc
  have hn : base.get? e = none := by
    cases hq : base.get? e with
    | none => rfl
    | some o => have := K2.stays _ _ hq; rw [N2.fresh he] at this; cases this
  obtain ⟨f1, f2⟩ := K2.fun Fr2 (news := []) (fun p hp => nomatch hp)
  refine wpAny_leaving_firstW (base := base) (Around.frames_deeper K.stack) (by simpa [hideAll] using f1) rfl hex (by simpa [hideAll] using f2) hn rfl rfl rfl fun h' ⟨k1, ⟨_, _, k2⟩, k3, k4⟩ => hQ h' ⟨⟨_, k1, hn, k2, k3⟩, fun b hb o ho hd => ?_⟩
  refine k4 b o (Fr2.keep b o (hideAll_get _ ho fun q => ?_)) hd
  obtain ⟨p, hp, rfl⟩ := List.mem_map.mp q
  exact hfp p hp hb

theorem exc_inst {h₀ h : Heap} {L x dx t C : Addr} {news : List (Addr × Obj)} {es : List DictEntry} {n : Nat} (N : News h₀ L h news) (h1 : (x, excO C t (some dx)) ∈ news) (h2 : (dx, dictOf es n) ∈ news) : InstAt h x (excO C t (some dx)) C (some (dictOf es n)) := ⟨N.get h1, rfl, rfl, N.get h2⟩
theorem exc109 (P : Params) : exc2In (Hd.KK P) 109 = true := by kernel_rfl
theorem over109 (P : Params) : excOver (Hd.KK P) 109 = true := by kernel_rfl
theorem own_one {h₀ h : Heap} {L : Addr} {m : Str → Option Value} {news : List (Addr × Obj)} {x : Addr × Obj} (F : Fr h₀ L h m) (N : News h₀ L h news) (hc : x ∈ news) : Own h₀ h [x] :=
  ⟨F.keep, fun p hp => by rw [List.mem_singleton.mp hp]; exact N.get hc, fun p hp => by rw [List.mem_singleton.mp hp]; exact N.fresh hc⟩
local macro_rules | `(tactic| tb_rel) => `(tactic| (
  (with_reducible show wpAny _ _ (setAttr (Value.ref _) _ _) _ _ _);
  k_dflt (refine' set_exc_dict (C := 109) ?k1 ?k2 ?k3 ?k4 ?k5 ?k6 ?k7 ?k8 ?k10 ?k11 ?k12 ?k13 ?_; (case k1 => k_asm); (case k2 => k_asm); (case k3 => k_asm); (case k4 => (refine' exc_inst ?N ?h1 ?h2; (case N => k_asm); (case h1 => k_mem); (case h2 => k_mem))); (case k5 => exact rfl); (case k6 => k_is); (case k7 => exact over109 _); (case k8 => k_is); (case k10 => k_get); (case k11 => k_put); (case k12 => k_upd); (case k13 => exact Nat.le_of_ble_eq_true rfl); k_whole; intro h' F' N'; (try k_sweep))))
noncomputable def Raised109 (w : World) (E : Value → Shared → Prop) (v : Value) (s₁ : Shared) : Prop := ∃ e t dct, v = .ref e ∧ s₁.heap.get? e = some (excO 109 t dct) ∧ (Hd.KK w.params).In s₁.heap ∧ E (.ref e) s₁
theorem raise_109 {prog : Program} {w : World} {A : Around} {E : Value → Shared → Prop} {s : Shared} {env : Env} {x : Expr} {pos : Pos} {Q : Flow → Shared → Prop} (hh : A.handled = none)
    (h : wpAny (model prog w) A (eval x env) (Raised109 w E) E s) :
    wpAny (model prog w) A (exec (.Raise (some x) none pos) env) Q E s := raise_any (exc109 _) hh h
theorem meta_Exception : typeOf (.type "Exception") = pure (.type "type") := by kernel_rfl
section
variable {w : World} {p : Program} {loose : List Str} {mg mb : Str → Option Value} {h₀ : Heap} {A : Around} {s : Shared} {Q E : Value → Shared → Prop} {L : Addr} {m : Str → Option Value} {news : List (Addr × Obj)} {g : Obj → List (Addr × Obj)}
    {c d : Addr} {l : List Nat} {k : Nat} {a1 a2 a3 a4 : Nat}
set_option maxHeartbeats 4000000 in
theorem init86 {e t x : Addr} {what : Str} {tw : Tok}
    (F₀ : Fr h₀ L s.heap m) (N₀ : News h₀ L s.heap news) (X₀ : (Hd.KK w.params).In h₀) (T₀ : TopRead p loose mg mb h₀)
    (he : (e, excO 109 t none) ∈ news) (U : UpdF e (excO 109 t none) news g) (room : A.depth + 1 < recursionLimit)
    (ret : ∀ h' tk' t' D, Fr h₀ L h' m → News h₀ L h' (g (excO 109 t' (some D))) → Q .none { s with heap := h', toks := tk' }) :
    wpAny (model PySem.Challenge.rw_qd0064_01.row.prog w) A (call (.ref 86) [.ref e, .str what tw, .ref x]) Q E s := by
  have O := own_one F₀ N₀ he
  have G : Good w p loose mg mb h₀ := ⟨X₀, T₀⟩
  refine' enter_ret (binds := [(Str.ofString "self", .ref e), (Str.ofString "what", .str what tw), (Str.ofString "at", .ref x)]) G O ?h1 ?h2 (by walk_at "mk_room") ?h3 ?h4 ?h ?c1 ?c2 ?c3 ?c4
  walk_at "mk_enter"
  intro L h₁ hL F N X T
  k_fold
  (repeat' ((fail_if_success tb_start); first | ((first | ((with_reducible show wpAny _ _ (getMethod (Value.type "Exception") _ _) _ _ _); refine method_type (by k_asm) (by k_asm) (by exact meta_Exception) (by decide +kernel) (by k_dflt k_is) (by k_handed) ?_) | ((with_reducible show wpAny _ _ (setAttr (Value.ref _) _ _) _ _ _); refine set_exc_none (C := 109) (by k_asm) (by k_asm) (by k_asm) (by k_dflt k_mem) (by k_dflt k_updF) (by k_dflt k_is) (by exact over109 _) (by k_dflt k_is) ?_; walk_at "mk_inLd") | ((with_reducible show wpAny _ _ (call (Value.builtin "Exception.__init__") [Value.ref _, _]) _ _ _); refine init_exc2 (by k_asm) (by k_asm) (by k_asm) (by exact exc109 _) (by k_dflt k_mem) (by k_dflt k_updF) ?_; walk_at "mk_inN") | tb_rel); (try dsimp only)) | walk_at "mk_tail" | (walk_at "mk_dl"; first | ((first | ((with_reducible show wpAny _ _ (getMethod (Value.type "Exception") _ _) _ _ _); refine method_type (by k_asm) (by k_asm) (by exact meta_Exception) (by decide +kernel) (by k_dflt k_is) (by k_handed) ?_) | ((with_reducible show wpAny _ _ (setAttr (Value.ref _) _ _) _ _ _); refine set_exc_none (C := 109) (by k_asm) (by k_asm) (by k_asm) (by k_dflt k_mem) (by k_dflt k_updF) (by k_dflt k_is) (by exact over109 _) (by k_dflt k_is) ?_; walk_at "mk_inLd") | ((with_reducible show wpAny _ _ (call (Value.builtin "Exception.__init__") [Value.ref _, _]) _ _ _); refine init_exc2 (by k_asm) (by k_asm) (by k_asm) (by exact exc109 _) (by k_dflt k_mem) (by k_dflt k_updF) ?_; walk_at "mk_inN") | tb_rel); (try dsimp only)) | walk1) | (walk_at "mk_late"; (try dsimp only))))
  (with_reducible rename Fr _ _ _ _ => FF); (with_reducible rename News _ _ _ _ => NN)
  (with_reducible rename Fr _ _ _ _ => FF); (with_reducible rename News _ _ _ _ => NN)
  have e := ext_of FF
  obtain ⟨F', N'⟩ := use1 F₀ N₀ U e (News.get NN (List.Mem.tail _ (List.Mem.head _)))
  exact ret _ _ _ _ F' N'
end
/-- the dict of a reader -/
noncomputable abbrev rdD (P : Params) (c : Addr) (n : Int) (b1 b2 b3 : Nat) : Obj :=
  dictOf [⟨PyData.keyHash P (Str.ofString "cursor"), .str (Str.ofString "cursor") b1, .ref c⟩, ⟨PyData.keyHash P (Str.ofString "lines"), .str (Str.ofString "lines") b2, .int n b3⟩] 2
theorem own_four {h₀ h : Heap} {L : Addr} {m : Str → Option Value} {news : List (Addr × Obj)} {x y z u : Addr × Obj} (F : Fr h₀ L h m) (N : News h₀ L h news) (hx : x ∈ news) (hy : y ∈ news) (hz : z ∈ news) (hu : u ∈ news) : Own h₀ h [x, y, z, u] ∧ News h₀ L h [x, y, z, u] := by
  have hm : ∀ p ∈ [x, y, z, u], p ∈ news := fun p hp => by
    rcases List.mem_cons.mp hp with rfl | hp
    · exact hx
    · rcases List.mem_cons.mp hp with rfl | hp
      · exact hy
      · rcases List.mem_cons.mp hp with rfl | hp
        · exact hz
        · rw [List.mem_singleton.mp hp]; exact hu
  exact ⟨⟨F.keep, fun p hp => N.get (hm p hp), fun p hp => N.fresh (hm p hp)⟩, fun p hp => N p (hm p hp)⟩
section
variable {w : World} {p : Program} {loose : List Str} {mg mb : Str → Option Value} {h₀ : Heap} {A : Around} {s : Shared} {Q E : Value → Shared → Prop} {L : Addr} {m : Str → Option Value} {news : List (Addr × Obj)} {g : Obj → List (Addr × Obj)}
    {c d r rd : Addr} {l : List Nat} {k : Nat} {a1 a2 a3 a4 b1 b2 b3 : Nat} {n : Int} {base : Heap} {outer : List Env}
set_option maxHeartbeats 4000000 in
theorem fail_up {what : Str} {tw : Tok}
    (F₀ : Fr h₀ L s.heap m) (N₀ : News h₀ L s.heap news) (X₀ : (Hd.KK w.params).In h₀) (T₀ : TopRead p loose mg mb h₀)
    (hr : (r, instObj 407 rd) ∈ news) (hrd : (rd, rdD w.params c n b1 b2 b3) ∈ news) (hc : (c, instObj 236 d) ∈ news) (hd : (d, curD w.params (tx l) k a1 a2 a3 a4) ∈ news)
    (KS : Sta A base outer h₀ L) (hh : A.handled = none) (room : A.depth + 6 < recursionLimit) (hl : (tx l).length ≤ 1048576) (hk : k ≤ l.length)
    (up : ∀ e h' tk', Flown base outer e s.heap h' → E (.ref e) { s with heap := h', toks := tk' }) :
    wpAny (model PySem.Challenge.rw_qd0064_01.row.prog w) A (call (.ref 318) [.ref r, .str what tw]) Q E s := by
  obtain ⟨O, NF⟩ := own_four F₀ N₀ hr hrd hc hd
  have G : Good w p loose mg mb h₀ := ⟨X₀, T₀⟩
  refine' enter_err (binds := [(Str.ofString "self", .ref r), (Str.ofString "what", .str what tw)]) KS F₀ NF G O ?h1 ?h2 (by walk_at "mk_room") ?h3 ?h4 ?h ?c1 ?c2 ?c3 ?c4
  walk_at "mk_enter"
  intro L h₁ hL F N X T K2
  k_fold
  (repeat' ((fail_if_success tb_start); first | ((first | ((with_reducible show wpAny _ _ (call (Value.ref 205) [Value.ref _]) _ _ _); refine position_ok (by k_asm) (by k_asm) (by k_asm) (by k_asm) (by k_dflt k_mem) (by k_dflt k_mem) (by walk_at "mk_hh") (by walk_at "mk_room") (by walk_at "mk_fact") (by walk_at "mk_fact") ?_; walk_at "mk_in") | ((with_reducible show wpAny _ _ (exec (Stmt.Raise (some _) none _) _) _ _ _); refine raise_109 (by walk_at "mk_hh") ?_) | ((with_reducible show wpAny _ _ (call (Value.ref 109) [Value.str _ _, Value.ref _]) _ _ _); refine make_exc2 (by k_asm) (by k_asm) (by k_asm) (exc109 _) (by k_dflt k_is) (by k_dflt k_is) (by (rw [sizeLine_eq]; exact Nat.le_of_ble_eq_true rfl)) ?_; walk_at "mk_inL") | ((with_reducible show wpAny _ _ (call (Value.ref 86) [Value.ref _, Value.str _ _, Value.ref _]) _ _ _); refine init86 (by k_asm) (by k_asm) (by k_asm) (by k_asm) (by k_dflt k_mem) (by k_dflt k_updF) (by walk_at "mk_room") ?_; walk_at "mk_inN") | tb_rel); (try dsimp only)) | walk_at "mk_tail" | (walk_at "mk_dl"; first | ((first | ((with_reducible show wpAny _ _ (call (Value.ref 205) [Value.ref _]) _ _ _); refine position_ok (by k_asm) (by k_asm) (by k_asm) (by k_asm) (by k_dflt k_mem) (by k_dflt k_mem) (by walk_at "mk_hh") (by walk_at "mk_room") (by walk_at "mk_fact") (by walk_at "mk_fact") ?_; walk_at "mk_in") | ((with_reducible show wpAny _ _ (exec (Stmt.Raise (some _) none _) _) _ _ _); refine raise_109 (by walk_at "mk_hh") ?_) | ((with_reducible show wpAny _ _ (call (Value.ref 109) [Value.str _ _, Value.ref _]) _ _ _); refine make_exc2 (by k_asm) (by k_asm) (by k_asm) (exc109 _) (by k_dflt k_is) (by k_dflt k_is) (by (rw [sizeLine_eq]; exact Nat.le_of_ble_eq_true rfl)) ?_; walk_at "mk_inL") | ((with_reducible show wpAny _ _ (call (Value.ref 86) [Value.ref _, Value.str _ _, Value.ref _]) _ _ _); refine init86 (by k_asm) (by k_asm) (by k_asm) (by k_asm) (by k_dflt k_mem) (by k_dflt k_updF) (by walk_at "mk_room") ?_; walk_at "mk_inN") | tb_rel); (try dsimp only)) | walk1) | (walk_at "mk_late"; (try dsimp only))))
  (with_reducible rename Fr _ _ _ _ => FF); (with_reducible rename News _ _ _ (_ :: _) => NN)
  refine' ⟨_, _, _, rfl, News.get NN (List.Mem.head _), X.keeps FF.keep, ?_⟩
  exact leave_new KS K2 FF NN (List.Mem.head _) NF (fun h' R => up _ _ _ R)
end

/-- a natural number's figures, and a number's -/
noncomputable def dg (m : Nat) : List Nat := (Nat.toDigits 10 m).map Char.toNat
noncomputable def num (z : Int) : List Nat := if z < 0 then 45 :: dg z.natAbs else dg z.natAbs
theorem dg_dig (m : Nat) : ∀ c ∈ dg m, 48 ≤ c ∧ c ≤ 57 := by
  intro c hc
  obtain ⟨x, hx, rfl⟩ := List.mem_map.mp hc
  have h := Nat.isDigit_of_mem_toDigits (b := 10) (by decide) (by decide) hx
  rw [Char.isDigit, Bool.and_eq_true, decide_eq_true_eq, decide_eq_true_eq] at h
  exact ⟨h.1, h.2⟩
theorem dg_pos (m : Nat) : 0 < (dg m).length := by unfold dg; rw [List.length_map]; exact Nat.length_toDigits_pos
theorem dg_len {m k : Nat} (hk : 0 < k) : (dg m).length ≤ k ↔ m < 10 ^ k := by unfold dg; rw [List.length_map]; exact Nat.length_toDigits_le_iff (by decide) hk
theorem dg_cons (m : Nat) : ∃ c r, dg m = c :: r ∧ 48 ≤ c ∧ c ≤ 57 := by
  cases h : dg m with
  | nil => have := dg_pos m; rw [h] at this; exact absurd this (by decide)
  | cons c r => exact ⟨c, r, rfl, dg_dig m c (by rw [h]; exact .head _)⟩
theorem dg_int {m : Nat} (h : (dg m).length ≤ 160) : PySem.intText? (tx (dg m)) = some ((m : Nat) : Int) := by
  have e := PySem.intText_digits (x := tx (dg m)) (dg_dig m) (by obtain ⟨c, r, e, _⟩ := dg_cons m; rw [tx_cps, e]; simp) (by rw [tx_length]; omega)
  rw [tx_cps] at e
  rw [e]
  exact congrArg (fun x : Nat => some (x : Int)) (KIN.val_back m)
theorem figs_tx : Str.ofString "0123456789" = tx [48, 49, 50, 51, 52, 53, 54, 55, 56, 57] := by decide
theorem fig_mem {c : Nat} : c ∈ [48, 49, 50, 51, 52, 53, 54, 55, 56, 57] ↔ 48 ≤ c ∧ c ≤ 57 := by
  refine ⟨fun h => ?_, fun h => ?_⟩
  · have : ∀ x ∈ [48, 49, 50, 51, 52, 53, 54, 55, 56, 57], 48 ≤ x ∧ x ≤ 57 := by decide
    exact this c h
  · have : ∀ k < 58, 48 ≤ k → k ∈ [48, 49, 50, 51, 52, 53, 54, 55, 56, 57] := by decide
    exact this c (Nat.lt_succ_of_le h.2) h.1
section
variable {w : World} {p : Program} {loose : List Str} {mg mb : Str → Option Value} {h₀ : Heap} {A : Around} {s : Shared} {Q E : Value → Shared → Prop} {L : Addr} {m : Str → Option Value} {news : List (Addr × Obj)} {g : Obj → List (Addr × Obj)}
    {c d : Addr} {l : List Nat} {k : Nat} {a1 a2 a3 a4 : Nat}
theorem take_figs {ds rest : List Nat} {ts : Tok}
    (F₀ : Fr h₀ L s.heap m) (N₀ : News h₀ L s.heap news) (X₀ : (Hd.KK w.params).In h₀) (T₀ : TopRead p loose mg mb h₀)
    (hc : (c, instObj 236 d) ∈ news) (hd : (d, curD w.params (tx l) k a1 a2 a3 a4) ∈ news) (U : UpdF d (curD w.params (tx l) k a1 a2 a3 a4) news g) (hcd : @Ne Nat c d)
    (room : A.depth + 1 < recursionLimit) (hl : (tx l).length ≤ 1048576) (hr : l.drop k = ds ++ rest) (hds : ∀ x ∈ ds, 48 ≤ x ∧ x ≤ 57) (hre : ∀ x, rest.head? = some x → ¬ (48 ≤ x ∧ x ≤ 57))
    (ret : ∀ h' tk' t' b1 b2 b3 b4, Fr h₀ L h' m → News h₀ L h' (g (curD w.params (tx l) ((k + ds.length : Nat) : Int) b1 b2 b3 b4)) → Q (.str (tx ds) t') { s with heap := h', toks := tk' }) :
    wpAny (model PySem.Challenge.rw_qd0064_01.row.prog w) A (call (.ref 169) [.ref c, .str (Str.ofString "0123456789") ts]) Q E s := by
  rw [figs_tx]
  exact take_while_ok F₀ N₀ X₀ T₀ hc hd U hcd room hl hr (fun x hx => fig_mem.mpr (hds x hx)) (fun x hx q => hre x hx (fig_mem.mp q)) ret
theorem skip1_yes {ch : Nat} {W : Str} {tw : Tok} (hW : W = tx [ch])
    (F₀ : Fr h₀ L s.heap m) (N₀ : News h₀ L s.heap news) (X₀ : (Hd.KK w.params).In h₀) (T₀ : TopRead p loose mg mb h₀)
    (hc : (c, instObj 236 d) ∈ news) (hd : (d, curD w.params (tx l) k a1 a2 a3 a4) ∈ news) (U : UpdF d (curD w.params (tx l) k a1 a2 a3 a4) news g) (hcd : @Ne Nat c d)
    (room : A.depth + 1 < recursionLimit) (hl : (tx l).length ≤ 1048576) (hr : l[k]? = some ch)
    (ret : ∀ h' tk' b1 b2 b3 b4, Fr h₀ L h' m → News h₀ L h' (g (curD w.params (tx l) ((k + 1 : Nat) : Int) b1 b2 b3 b4)) → Q (.bool true) { s with heap := h', toks := tk' }) :
    wpAny (model PySem.Challenge.rw_qd0064_01.row.prog w) A (call (.ref 162) [.ref c, .str W tw]) Q E s := by
  subst hW
  obtain ⟨hlt, he⟩ := List.getElem?_eq_some_iff.mp hr
  have hlen := tx_length l
  exact skip_yes (word := [ch]) (rest := l.drop (k + 1)) F₀ N₀ X₀ T₀ hc hd U hcd room hl (by simp) (by omega) (by rw [List.drop_eq_getElem_cons hlt, he]; rfl) ret
theorem skip1_no {ch x : Nat} {W : Str} {tw : Tok} (hW : W = tx [ch])
    (F₀ : Fr h₀ L s.heap m) (N₀ : News h₀ L s.heap news) (X₀ : (Hd.KK w.params).In h₀) (T₀ : TopRead p loose mg mb h₀)
    (hc : (c, instObj 236 d) ∈ news) (hd : (d, curD w.params (tx l) k a1 a2 a3 a4) ∈ news)
    (room : A.depth + 1 < recursionLimit) (hl : (tx l).length ≤ 1048576) (hr : l[k]? = some x) (hne : x ≠ ch)
    (ret : ∀ h' tk', Fr h₀ L h' m → News h₀ L h' news → Q (.bool false) { s with heap := h', toks := tk' }) :
    wpAny (model PySem.Challenge.rw_qd0064_01.row.prog w) A (call (.ref 162) [.ref c, .str W tw]) Q E s := by
  subst hW
  obtain ⟨hlt, he⟩ := List.getElem?_eq_some_iff.mp hr
  have hlen := tx_length l
  exact skip_no F₀ N₀ X₀ T₀ hc hd room hl (by omega) (by rw [List.head?_drop, hr]; simpa using hne) ret
end
theorem yes_first {l : List Nat} {k : Nat} {x : List Nat} {c : Nat} {r : List Nat} (h : l.drop k = x) (e : x = c :: r) : l[k]? = some c := by
  rw [← List.head?_drop, h, e]; rfl
/-- a reader and its cursor -/
structure Rd (P : Params) (l : List Nat) (k : Nat) (n : Int) (r rd c d : Addr) (a : Nat × Nat × Nat × Nat) (b : Nat × Nat × Nat) (news : List (Addr × Obj)) : Prop where
  r : (r, instObj 407 rd) ∈ news
  rd : (rd, rdD P c n b.1 b.2.1 b.2.2) ∈ news
  c : (c, instObj 236 d) ∈ news
  d : (d, curD P (tx l) k a.1 a.2.1 a.2.2.1 a.2.2.2) ∈ news
section
variable {w : World} {p : Program} {loose : List Str} {mg mb : Str → Option Value} {h₀ : Heap} {A : Around} {s : Shared} {Q E : Value → Shared → Prop} {L : Addr} {m : Str → Option Value} {news : List (Addr × Obj)} {g : Obj → List (Addr × Obj)}
    {c d r rd : Addr} {l : List Nat} {k : Nat} {a1 a2 a3 a4 b1 b2 b3 : Nat} {n : Int} {base : Heap} {outer : List Env}
theorem ext_rd {h h' : Heap} {L : Addr} {or_ ord oc od : Obj} {m : Str → Option Value} (O : Own h₀ h [(r, or_), (rd, ord), (c, oc), (d, od)]) (F : Fr (hideAll h ([(r, or_), (rd, ord), (c, oc), (d, od)].map (·.1))) L h' m) (hr : h'.get? r = some or_) (hrd : h'.get? rd = some ord) (hc : h'.get? c = some oc) : Ext [d] h h' :=
  ext_end O F fun p hp hn => by
    rcases List.mem_cons.mp hp with rfl | hp
    · exact hr
    · rcases List.mem_cons.mp hp with rfl | hp
      · exact hrd
      · rcases List.mem_cons.mp hp with rfl | hp
        · exact hc
        · rw [List.mem_singleton.mp hp] at hn; exact absurd (List.Mem.head _) hn
set_option maxHeartbeats 4000000 in
theorem need_ok {W : Str} {word rest : List Nat} {tw : Tok} (hW : W = tx word)
    (F₀ : Fr h₀ L s.heap m) (N₀ : News h₀ L s.heap news) (X₀ : (Hd.KK w.params).In h₀) (T₀ : TopRead p loose mg mb h₀)
    (hr : (r, instObj 407 rd) ∈ news) (hrd : (rd, rdD w.params c n b1 b2 b3) ∈ news) (hc : (c, instObj 236 d) ∈ news) (hd : (d, curD w.params (tx l) k a1 a2 a3 a4) ∈ news) (U : UpdF d (curD w.params (tx l) k a1 a2 a3 a4) news g)
    (ho : @LT.lt Nat _ rd r ∧ @LT.lt Nat _ r d ∧ @LT.lt Nat _ d c) (room : A.depth + 2 < recursionLimit) (hl : (tx l).length ≤ 1048576) (hr0 : l.drop k = word ++ rest) (hw : word ≠ [])
    (ret : ∀ h' tk' b1 b2 b3 b4, Fr h₀ L h' m → News h₀ L h' (g (curD w.params (tx l) ((k + word.length : Nat) : Int) b1 b2 b3 b4)) → Q .none { s with heap := h', toks := tk' }) :
    wpAny (model PySem.Challenge.rw_qd0064_01.row.prog w) A (call (.ref 325) [.ref r, .str W tw]) Q E s := by
  subst hW
  obtain ⟨O, NF⟩ := own_four F₀ N₀ hr hrd hc hd
  have G : Good w p loose mg mb h₀ := ⟨X₀, T₀⟩
  have hlen := tx_length l
  have hlw := tx_length word
  have hdl : l.length - k = word.length + rest.length := by rw [← List.length_drop, hr0, List.length_append]
  have hwp : 0 < word.length := List.length_pos_iff.mpr hw
  have hcd : @Ne Nat c d := by omega
  have hk : k ≤ 1048576 := by omega
  have hw2 : (tx word).length ≤ 1048576 := by omega
  refine' enter_ret (binds := [(Str.ofString "self", .ref r), (Str.ofString "word", .str (tx word) tw)]) G O ?h1 ?h2 (by walk_at "mk_room") ?h3 ?h4 ?h ?c1 ?c2 ?c3 ?c4
  walk_at "mk_enter"
  intro L h₁ hL F N X T
  k_fold
  walk_at "mk_go"
  (with_reducible rename Fr _ _ _ _ => F1); (with_reducible rename News _ _ _ _ => N1)
  refine' skip_yes (rest := rest) F1 N1 ?X ?T ?hc ?hd ?U hcd ?room hl hw2 hk hr0 ?_
  (case X => k_asm); (case T => k_asm); (case hc => k_dflt k_mem); (case hd => k_dflt k_mem); (case U => k_dflt k_updF); (case room => walk_at "mk_room")
  intro h' tk' b1' b2' b3' b4' F' N'
  clear F1 N1
  walk_at "mk_go"
  (with_reducible rename Fr _ _ _ _ => FF); (with_reducible rename News _ _ _ (_ :: _) => NN)
  have e := ext_rd O FF (News.get NN (.head _)) (News.get NN (.tail _ (.head _))) (News.get NN (.tail _ (.tail _ (.head _))))
  obtain ⟨F', N'⟩ := use1 F₀ N₀ U e (News.get NN (.tail _ (.tail _ (.tail _ (.head _)))))
  exact ret _ _ _ _ _ _ F' N'
end

section
variable {w : World} {p : Program} {loose : List Str} {mg mb : Str → Option Value} {h₀ : Heap} {A : Around} {s : Shared} {Q E : Value → Shared → Prop} {L : Addr} {m : Str → Option Value} {news : List (Addr × Obj)} {g : Obj → List (Addr × Obj)}
    {c d r rd : Addr} {l : List Nat} {k : Nat} {a1 a2 a3 a4 b1 b2 b3 : Nat} {n : Int} {base : Heap} {outer : List Env}
theorem need1 {ch : Nat} {W : Str} {tw : Tok} (hW : W = tx [ch])
    (F₀ : Fr h₀ L s.heap m) (N₀ : News h₀ L s.heap news) (X₀ : (Hd.KK w.params).In h₀) (T₀ : TopRead p loose mg mb h₀)
    (hr : (r, instObj 407 rd) ∈ news) (hrd : (rd, rdD w.params c n b1 b2 b3) ∈ news) (hc : (c, instObj 236 d) ∈ news) (hd : (d, curD w.params (tx l) k a1 a2 a3 a4) ∈ news) (U : UpdF d (curD w.params (tx l) k a1 a2 a3 a4) news g)
    (ho : @LT.lt Nat _ rd r ∧ @LT.lt Nat _ r d ∧ @LT.lt Nat _ d c) (room : A.depth + 2 < recursionLimit) (hl : (tx l).length ≤ 1048576) (hr0 : l[k]? = some ch)
    (ret : ∀ h' tk' b1 b2 b3 b4, Fr h₀ L h' m → News h₀ L h' (g (curD w.params (tx l) ((k + 1 : Nat) : Int) b1 b2 b3 b4)) → Q .none { s with heap := h', toks := tk' }) :
    wpAny (model PySem.Challenge.rw_qd0064_01.row.prog w) A (call (.ref 325) [.ref r, .str W tw]) Q E s := by
  obtain ⟨hlt, he⟩ := List.getElem?_eq_some_iff.mp hr0
  exact need_ok (word := [ch]) (rest := l.drop (k + 1)) hW F₀ N₀ X₀ T₀ hr hrd hc hd U ho room hl (by rw [List.drop_eq_getElem_cons hlt, he]; rfl) (by simp) ret
end
section
variable {w : World} {p : Program} {loose : List Str} {mg mb : Str → Option Value} {h₀ : Heap} {A : Around} {s : Shared} {Q E : Value → Shared → Prop} {L : Addr} {m : Str → Option Value} {news : List (Addr × Obj)} {g : Obj → List (Addr × Obj)} {g2 : Obj → Obj → List (Addr × Obj)}
    {c d r rd : Addr} {l : List Nat} {k : Nat} {a1 a2 a3 a4 b1 b2 b3 : Nat} {n : Int} {base : Heap} {outer : List Env}
/-- two objects were changed -/
theorem use2 {h₀ h h' : Heap} {L d e : Addr} {o o' q q' : Obj} {m : Str → Option Value} {news : List (Addr × Obj)} {g1 : Obj → List (Addr × Obj)} {g2 : Obj → Obj → List (Addr × Obj)} (F : Fr h₀ L h m) (N : News h₀ L h news) (U : UpdF d o news g1) (U2 : ∀ x, UpdF e q (g1 x) (g2 x)) (hde : e ≠ d) (he : h.get? e = some q)
    (X : Ext [d, e] h h') (hd' : h'.get? d = some o') (he' : h'.get? e = some q') (fr : h₀.get? e = none) (ne : e ≠ L) : Fr h₀ L h' m ∧ News h₀ L h' (g2 o' q') := by
  obtain ⟨pre, post, rfl, hg, h1, h2⟩ := U.split
  have hd := N (d, o) (List.mem_append_right _ (.head _))
  have hD : ∀ a ∈ [d, e], h₀.get? a = none := fun a ha => by
    rcases List.mem_cons.mp ha with rfl | ha
    · exact hd.2.2
    · rw [List.mem_singleton.mp ha]; exact fr
  have hL : L ∉ [d, e] := fun q => by
    rcases List.mem_cons.mp q with q | q
    · exact hd.2.1 q.symm
    · exact ne (List.mem_singleton.mp q).symm
  refine ⟨fr_ext F hL hD X, ?_⟩
  obtain ⟨pre2, post2, e2, hg2, k1, k2⟩ := (U2 o).split
  obtain ⟨pre3, post3, e3, hg3, k3, k4⟩ := (U2 o').split
  rw [hg3]
  have hgo := hg o
  have hgo' := hg o'
  intro p hp
  have mem : p ∈ g2 o' q' := by rw [hg3]; exact hp
  by_cases hpe : p.1 = e
  · rcases List.mem_append.mp hp with hp | hp
    · exact absurd hpe (k3 p hp)
    · rcases List.mem_cons.mp hp with rfl | hp
      · exact ⟨he', ne, fr⟩
      · exact absurd hpe (k4 p hp)
  · have hp' : p ∈ g1 o' := by
      rw [e3]
      rcases List.mem_append.mp hp with hp | hp
      · exact List.mem_append_left _ hp
      · rcases List.mem_cons.mp hp with rfl | hp
        · exact absurd rfl hpe
        · exact List.mem_append_right _ (.tail _ hp)
    rw [hgo'] at hp'
    have old : p ∈ pre ++ (d, o) :: post → p.1 ≠ d → h'.get? p.1 = some p.2 ∧ p.1 ≠ L ∧ h₀.get? p.1 = none := fun q z =>
      ⟨X _ _ (fun t => by
        rcases List.mem_cons.mp t with t | t
        · exact z t
        · exact hpe (List.mem_singleton.mp t)) (N p q).1, (N p q).2⟩
    rcases List.mem_append.mp hp' with q | q
    · exact old (List.mem_append_left _ q) (h1 p q)
    · rcases List.mem_cons.mp q with rfl | q
      · exact ⟨hd', hd.2⟩
      · exact old (List.mem_append_right _ (.tail _ q)) (h2 p q)
set_option maxHeartbeats 4000000 in
theorem end_line_ok
    (F₀ : Fr h₀ L s.heap m) (N₀ : News h₀ L s.heap news) (X₀ : (Hd.KK w.params).In h₀) (T₀ : TopRead p loose mg mb h₀)
    (hr : (r, instObj 407 rd) ∈ news) (hrd : (rd, rdD w.params c n b1 b2 b3) ∈ news) (hc : (c, instObj 236 d) ∈ news) (hd : (d, curD w.params (tx l) k a1 a2 a3 a4) ∈ news) (U : UpdF rd (rdD w.params c n b1 b2 b3) news g) (U2 : ∀ x, UpdF d (curD w.params (tx l) k a1 a2 a3 a4) (g x) (g2 x))
    (ho : @LT.lt Nat _ rd r ∧ @LT.lt Nat _ r d ∧ @LT.lt Nat _ d c) (room : A.depth + 3 < recursionLimit) (hl : (tx l).length ≤ 1048576) (hr0 : l[k]? = some 10) (hn : 0 ≤ n ∧ n ≤ 1000)
    (ret : ∀ h' tk' c1 c2 c3 b1 b2 b3 b4, Fr h₀ L h' m → News h₀ L h' (g2 (rdD w.params c (n + 1) c1 c2 c3) (curD w.params (tx l) ((k + 1 : Nat) : Int) b1 b2 b3 b4)) → Q .none { s with heap := h', toks := tk' }) :
    wpAny (model PySem.Challenge.rw_qd0064_01.row.prog w) A (call (.ref 339) [.ref r]) Q E s := by
  obtain ⟨O, NF⟩ := own_four F₀ N₀ hr hrd hc hd
  have G : Good w p loose mg mb h₀ := ⟨X₀, T₀⟩
  refine' enter_ret (binds := [(Str.ofString "self", .ref r)]) G O ?h1 ?h2 (by walk_at "mk_room") ?h3 ?h4 ?h ?c1 ?c2 ?c3 ?c4
  walk_at "mk_enter"
  intro L h₁ hL F N X T
  k_fold
  (repeat' ((fail_if_success tb_start); first | ((first | ((with_reducible show wpAny _ _ (call (Value.ref 325) [Value.ref _, Value.str (Str.ofString "\n") _]) _ _ _); refine need1 (ch := 10) (W := Str.ofString "\n") (by decide) (by k_asm) (by k_asm) (by k_asm) (by k_asm) (by k_dflt k_mem) (by k_dflt k_mem) (by k_dflt k_mem) (by k_dflt k_mem) (by k_dflt k_updF) (by first | with_reducible assumption | (refine ⟨?_, ?_, ?_⟩ <;> omega)) (by walk_at "mk_room") (by walk_at "mk_fact") (by with_reducible assumption) ?_; walk_at "mk_in") | tb_rel); (try dsimp only)) | walk_at "mk_tail" | (walk_at "mk_dl"; first | ((first | ((with_reducible show wpAny _ _ (call (Value.ref 325) [Value.ref _, Value.str (Str.ofString "\n") _]) _ _ _); refine need1 (ch := 10) (W := Str.ofString "\n") (by decide) (by k_asm) (by k_asm) (by k_asm) (by k_asm) (by k_dflt k_mem) (by k_dflt k_mem) (by k_dflt k_mem) (by k_dflt k_mem) (by k_dflt k_updF) (by first | with_reducible assumption | (refine ⟨?_, ?_, ?_⟩ <;> omega)) (by walk_at "mk_room") (by walk_at "mk_fact") (by with_reducible assumption) ?_; walk_at "mk_in") | tb_rel); (try dsimp only)) | walk1) | (walk_at "mk_late"; (try dsimp only))))
  (with_reducible rename Fr _ _ _ _ => FF); (with_reducible rename News _ _ _ (_ :: _) => NN)
  have e : Ext [rd, d] s.heap _ := ext_end O FF fun p hp hn => by
    rcases List.mem_cons.mp hp with rfl | hp
    · exact News.get NN (.head _)
    · rcases List.mem_cons.mp hp with rfl | hp
      · exact absurd (List.Mem.head _) hn
      · rcases List.mem_cons.mp hp with rfl | hp
        · exact News.get NN (.tail _ (.tail _ (.head _)))
        · rw [List.mem_singleton.mp hp] at hn; exact absurd (List.Mem.tail _ (List.Mem.head _)) hn
  obtain ⟨F', N'⟩ := use2 F₀ N₀ U U2 (by have h1 := ho.2.1; have h2 := ho.1; refine neN ?_; omega) (N₀.get hd) e (News.get NN (.tail _ (.head _))) (News.get NN (.tail _ (.tail _ (.tail _ (.head _))))) (N₀.fresh hd) (N₀ _ hd).2.1
  exact ret _ _ _ _ _ _ _ _ _ F' N'
end

section
variable {w : World} {p : Program} {loose : List Str} {mg mb : Str → Option Value} {h₀ : Heap} {A : Around} {s : Shared} {Q E : Value → Shared → Prop} {L : Addr} {m : Str → Option Value} {news : List (Addr × Obj)} {g : Obj → List (Addr × Obj)} {g2 : Obj → Obj → List (Addr × Obj)}
    {c d r rd : Addr} {l : List Nat} {k : Nat} {a1 a2 a3 a4 b1 b2 b3 : Nat} {n : Int} {base : Heap} {outer : List Env}
theorem dg_ne_empty (m : Nat) : (tx (dg m) == Str.ofString "") = false := by
  have e : Str.ofString "" = tx [] := by decide
  rw [e, beq_tx]
  obtain ⟨c, r, e, _⟩ := dg_cons m
  rw [e]; rfl
set_option maxHeartbeats 4000000 in
theorem whole_ok {z : Int} {rest : List Nat}
    (F₀ : Fr h₀ L s.heap m) (N₀ : News h₀ L s.heap news) (X₀ : (Hd.KK w.params).In h₀) (T₀ : TopRead p loose mg mb h₀)
    (hr : (r, instObj 407 rd) ∈ news) (hrd : (rd, rdD w.params c n b1 b2 b3) ∈ news) (hc : (c, instObj 236 d) ∈ news) (hd : (d, curD w.params (tx l) k a1 a2 a3 a4) ∈ news) (U : UpdF d (curD w.params (tx l) k a1 a2 a3 a4) news g)
    (ho : @LT.lt Nat _ rd r ∧ @LT.lt Nat _ r d ∧ @LT.lt Nat _ d c) (room : A.depth + 3 < recursionLimit) (hl : (tx l).length ≤ 1048576) (hr0 : l.drop k = num z ++ rest) (hre : ∀ x, rest.head? = some x → ¬ (48 ≤ x ∧ x ≤ 57)) (hz : (dg z.natAbs).length ≤ 160)
    (ret : ∀ h' tk' t' b1 b2 b3 b4, Fr h₀ L h' m → News h₀ L h' (g (curD w.params (tx l) ((k + (num z).length : Nat) : Int) b1 b2 b3 b4)) → Q (.int z t') { s with heap := h', toks := tk' }) :
    wpAny (model PySem.Challenge.rw_qd0064_01.row.prog w) A (call (.ref 346) [.ref r]) Q E s := by
  obtain ⟨O, NF⟩ := own_four F₀ N₀ hr hrd hc hd
  have G : Good w p loose mg mb h₀ := ⟨X₀, T₀⟩
  have hcd : @Ne Nat c d := by omega
  have f1 := dg_ne_empty z.natAbs
  have f2 := dg_dig z.natAbs
  have f3 := dg_int hz
  have f4 : (tx (dg z.natAbs)).length ≤ 160 := by rw [tx_length]; exact hz
  obtain ⟨c0, r0, f5, f6⟩ := dg_cons z.natAbs
  by_cases hneg : z < 0
  · have e1 : num z = 45 :: dg z.natAbs := if_pos hneg
    rw [e1] at hr0
    have f7 : l[k]? = some 45 := yes_first hr0 rfl
    have f8 : l.drop (k + 1) = dg z.natAbs ++ rest := by rw [← List.drop_drop, hr0]; rfl
    refine' enter_ret (binds := [(Str.ofString "self", .ref r)]) G O ?h1 ?h2 (by walk_at "mk_room") ?h3 ?h4 ?h ?c1 ?c2 ?c3 ?c4
    walk_at "mk_enter"
    intro L h₁ hL F N X T
    k_fold
    (repeat' ((fail_if_success tb_start); first | ((first | ((with_reducible show wpAny _ _ (call (Value.type "int") [Value.str (tx _) _]) _ _ _); refine KIN.call_text (by with_reducible assumption) (by walk_at "mk_fact") ?_) | ((with_reducible show wpAny _ _ (call (Value.ref 169) [Value.ref _, Value.str (Str.ofString "0123456789") _]) _ _ _); refine take_figs (by k_asm) (by k_asm) (by k_asm) (by k_asm) (by k_dflt k_mem) (by k_dflt k_mem) (by k_dflt k_updF) (by first | with_reducible assumption | omega) (by walk_at "mk_room") (by walk_at "mk_fact") (by with_reducible assumption) (by with_reducible assumption) (by with_reducible assumption) ?_; walk_at "mk_in") | ((with_reducible show wpAny _ _ (call (Value.ref 162) [Value.ref _, Value.str (Str.ofString "-") _]) _ _ _); refine skip1_yes (ch := 45) (W := Str.ofString "-") (by decide) (by k_asm) (by k_asm) (by k_asm) (by k_asm) (by k_dflt k_mem) (by k_dflt k_mem) (by k_dflt k_updF) (by first | assumption | omega) (by walk_at "mk_room") (by walk_at "mk_fact") (by with_reducible assumption) ?_; walk_at "mk_in") | ((with_reducible show wpAny _ _ (call (Value.builtin "len") [Value.str _ _]) _ _ _); refine P.len_str (by (try simp only [tx_length]); omega) ?_) | tb_rel); (try dsimp only)) | walk_at "mk_tail" | (walk_at "mk_dl"; first | ((first | ((with_reducible show wpAny _ _ (call (Value.type "int") [Value.str (tx _) _]) _ _ _); refine KIN.call_text (by with_reducible assumption) (by walk_at "mk_fact") ?_) | ((with_reducible show wpAny _ _ (call (Value.ref 169) [Value.ref _, Value.str (Str.ofString "0123456789") _]) _ _ _); refine take_figs (by k_asm) (by k_asm) (by k_asm) (by k_asm) (by k_dflt k_mem) (by k_dflt k_mem) (by k_dflt k_updF) (by first | with_reducible assumption | omega) (by walk_at "mk_room") (by walk_at "mk_fact") (by with_reducible assumption) (by with_reducible assumption) (by with_reducible assumption) ?_; walk_at "mk_in") | ((with_reducible show wpAny _ _ (call (Value.ref 162) [Value.ref _, Value.str (Str.ofString "-") _]) _ _ _); refine skip1_yes (ch := 45) (W := Str.ofString "-") (by decide) (by k_asm) (by k_asm) (by k_asm) (by k_asm) (by k_dflt k_mem) (by k_dflt k_mem) (by k_dflt k_updF) (by first | assumption | omega) (by walk_at "mk_room") (by walk_at "mk_fact") (by with_reducible assumption) ?_; walk_at "mk_in") | ((with_reducible show wpAny _ _ (call (Value.builtin "len") [Value.str _ _]) _ _ _); refine P.len_str (by (try simp only [tx_length]); omega) ?_) | tb_rel); (try dsimp only)) | walk1) | (walk_at "mk_late"; (try dsimp only))))
    (with_reducible rename Fr _ _ _ _ => FF); (with_reducible rename News _ _ _ (_ :: _) => NN)
    have e := ext_rd O FF (News.get NN (.head _)) (News.get NN (.tail _ (.head _))) (News.get NN (.tail _ (.tail _ (.head _))))
    obtain ⟨F', N'⟩ := use1 F₀ N₀ U e (News.get NN (.tail _ (.tail _ (.tail _ (.head _)))))
    have ez : -1 * ((z.natAbs : Nat) : Int) = z := by omega
    have el : k + 1 + (dg z.natAbs).length = k + (num z).length := by rw [e1, List.length_cons]; omega
    rw [ez]
    rw [el] at N'
    exact ret _ _ _ _ _ _ _ F' N'
  · have e1 : num z = dg z.natAbs := if_neg hneg
    rw [e1] at hr0
    have f7 : l[k]? = some c0 := yes_first hr0 (by rw [f5]; rfl)
    refine' enter_ret (binds := [(Str.ofString "self", .ref r)]) G O ?h1 ?h2 (by walk_at "mk_room") ?h3 ?h4 ?h ?c1 ?c2 ?c3 ?c4
    walk_at "mk_enter"
    intro L h₁ hL F N X T
    k_fold
    (repeat' ((fail_if_success tb_start); first | ((first | ((with_reducible show wpAny _ _ (call (Value.type "int") [Value.str (tx _) _]) _ _ _); refine KIN.call_text (by with_reducible assumption) (by walk_at "mk_fact") ?_) | ((with_reducible show wpAny _ _ (call (Value.ref 169) [Value.ref _, Value.str (Str.ofString "0123456789") _]) _ _ _); refine take_figs (by k_asm) (by k_asm) (by k_asm) (by k_asm) (by k_dflt k_mem) (by k_dflt k_mem) (by k_dflt k_updF) (by first | with_reducible assumption | omega) (by walk_at "mk_room") (by walk_at "mk_fact") (by with_reducible assumption) (by with_reducible assumption) (by with_reducible assumption) ?_; walk_at "mk_in") | ((with_reducible show wpAny _ _ (call (Value.ref 162) [Value.ref _, Value.str (Str.ofString "-") _]) _ _ _); refine skip1_no (ch := 45) (W := Str.ofString "-") (by decide) (by k_asm) (by k_asm) (by k_asm) (by k_asm) (by k_dflt k_mem) (by k_dflt k_mem) (by walk_at "mk_room") (by walk_at "mk_fact") (by with_reducible assumption) (by first | assumption | decide | omega) ?_; walk_at "mk_in") | ((with_reducible show wpAny _ _ (call (Value.builtin "len") [Value.str _ _]) _ _ _); refine P.len_str (by (try simp only [tx_length]); omega) ?_) | tb_rel); (try dsimp only)) | walk_at "mk_tail" | (walk_at "mk_dl"; first | ((first | ((with_reducible show wpAny _ _ (call (Value.type "int") [Value.str (tx _) _]) _ _ _); refine KIN.call_text (by with_reducible assumption) (by walk_at "mk_fact") ?_) | ((with_reducible show wpAny _ _ (call (Value.ref 169) [Value.ref _, Value.str (Str.ofString "0123456789") _]) _ _ _); refine take_figs (by k_asm) (by k_asm) (by k_asm) (by k_asm) (by k_dflt k_mem) (by k_dflt k_mem) (by k_dflt k_updF) (by first | with_reducible assumption | omega) (by walk_at "mk_room") (by walk_at "mk_fact") (by with_reducible assumption) (by with_reducible assumption) (by with_reducible assumption) ?_; walk_at "mk_in") | ((with_reducible show wpAny _ _ (call (Value.ref 162) [Value.ref _, Value.str (Str.ofString "-") _]) _ _ _); refine skip1_no (ch := 45) (W := Str.ofString "-") (by decide) (by k_asm) (by k_asm) (by k_asm) (by k_asm) (by k_dflt k_mem) (by k_dflt k_mem) (by walk_at "mk_room") (by walk_at "mk_fact") (by with_reducible assumption) (by first | assumption | decide | omega) ?_; walk_at "mk_in") | ((with_reducible show wpAny _ _ (call (Value.builtin "len") [Value.str _ _]) _ _ _); refine P.len_str (by (try simp only [tx_length]); omega) ?_) | tb_rel); (try dsimp only)) | walk1) | (walk_at "mk_late"; (try dsimp only))))
    (with_reducible rename Fr _ _ _ _ => FF); (with_reducible rename News _ _ _ (_ :: _) => NN)
    have e := ext_rd O FF (News.get NN (.head _)) (News.get NN (.tail _ (.head _))) (News.get NN (.tail _ (.tail _ (.head _))))
    obtain ⟨F', N'⟩ := use1 F₀ N₀ U e (News.get NN (.tail _ (.tail _ (.tail _ (.head _)))))
    have ez : 1 * ((z.natAbs : Nat) : Int) = z := by omega
    rw [ez]
    rw [← e1] at N'
    exact ret _ _ _ _ _ _ _ F' N'
set_option maxHeartbeats 4000000 in
theorem whole_up {z : Nat} {rest : List Nat}
    (F₀ : Fr h₀ L s.heap m) (N₀ : News h₀ L s.heap news) (X₀ : (Hd.KK w.params).In h₀) (T₀ : TopRead p loose mg mb h₀)
    (hr : (r, instObj 407 rd) ∈ news) (hrd : (rd, rdD w.params c n b1 b2 b3) ∈ news) (hc : (c, instObj 236 d) ∈ news) (hd : (d, curD w.params (tx l) k a1 a2 a3 a4) ∈ news)
    (ho : @LT.lt Nat _ rd r ∧ @LT.lt Nat _ r d ∧ @LT.lt Nat _ d c) (KS : Sta A base outer h₀ L) (hh : A.handled = none) (room : A.depth + 7 < recursionLimit) (hl : (tx l).length ≤ 1048576) (hr0 : l.drop k = dg z ++ rest) (hre : ∀ x, rest.head? = some x → ¬ (48 ≤ x ∧ x ≤ 57)) (hz : 160 < (dg z).length)
    (up : ∀ e h' tk', Flown base outer e s.heap h' → E (.ref e) { s with heap := h', toks := tk' }) :
    wpAny (model PySem.Challenge.rw_qd0064_01.row.prog w) A (call (.ref 346) [.ref r]) Q E s := by
  obtain ⟨O, NF⟩ := own_four F₀ N₀ hr hrd hc hd
  have G : Good w p loose mg mb h₀ := ⟨X₀, T₀⟩
  have hcd : @Ne Nat c d := by omega
  have f1 := dg_ne_empty z
  have f2 := dg_dig z
  have f4 : 160 < (tx (dg z)).length := by rw [tx_length]; exact hz
  obtain ⟨c0, r0, f5, f6⟩ := dg_cons z
  have f7 : l[k]? = some c0 := yes_first hr0 (by rw [f5]; rfl)
  have hlen := tx_length l
  have hdl : l.length - k = (dg z).length + rest.length := by rw [← List.length_drop, hr0, List.length_append]
  have hkl : k + (dg z).length ≤ l.length := by omega
  refine' enter_err (binds := [(Str.ofString "self", .ref r)]) KS F₀ NF G O ?h1 ?h2 (by walk_at "mk_room") ?h3 ?h4 ?h ?c1 ?c2 ?c3 ?c4
  walk_at "mk_enter"
  intro L h₁ hL F N X T K2
  k_fold
  (repeat' ((fail_if_success tb_start); first | ((first | ((with_reducible show wpAny _ _ (call (Value.ref 318) [Value.ref _, Value.str _ _]) _ _ _); refine fail_up (by k_asm) (by k_asm) (by k_asm) (by k_asm) (by k_dflt k_mem) (by k_dflt k_mem) (by k_dflt k_mem) (by k_dflt k_mem) (by with_reducible assumption) (by walk_at "mk_hh") (by walk_at "mk_room") (by walk_at "mk_fact") (by walk_at "mk_fact") ?_; walk_at "mk_in") | ((with_reducible show wpAny _ _ (call (Value.ref 169) [Value.ref _, Value.str (Str.ofString "0123456789") _]) _ _ _); refine take_figs (by k_asm) (by k_asm) (by k_asm) (by k_asm) (by k_dflt k_mem) (by k_dflt k_mem) (by k_dflt k_updF) (by first | with_reducible assumption | omega) (by walk_at "mk_room") (by walk_at "mk_fact") (by with_reducible assumption) (by with_reducible assumption) (by with_reducible assumption) ?_; walk_at "mk_in") | ((with_reducible show wpAny _ _ (call (Value.ref 162) [Value.ref _, Value.str (Str.ofString "-") _]) _ _ _); refine skip1_no (ch := 45) (W := Str.ofString "-") (by decide) (by k_asm) (by k_asm) (by k_asm) (by k_asm) (by k_dflt k_mem) (by k_dflt k_mem) (by walk_at "mk_room") (by walk_at "mk_fact") (by with_reducible assumption) (by first | assumption | decide | omega) ?_; walk_at "mk_in") | ((with_reducible show wpAny _ _ (call (Value.builtin "len") [Value.str _ _]) _ _ _); refine P.len_str (by (try simp only [tx_length]); omega) ?_) | tb_rel); (try dsimp only)) | walk_at "mk_tail" | (walk_at "mk_dl"; first | ((first | ((with_reducible show wpAny _ _ (call (Value.ref 318) [Value.ref _, Value.str _ _]) _ _ _); refine fail_up (by k_asm) (by k_asm) (by k_asm) (by k_asm) (by k_dflt k_mem) (by k_dflt k_mem) (by k_dflt k_mem) (by k_dflt k_mem) (by with_reducible assumption) (by walk_at "mk_hh") (by walk_at "mk_room") (by walk_at "mk_fact") (by walk_at "mk_fact") ?_; walk_at "mk_in") | ((with_reducible show wpAny _ _ (call (Value.ref 169) [Value.ref _, Value.str (Str.ofString "0123456789") _]) _ _ _); refine take_figs (by k_asm) (by k_asm) (by k_asm) (by k_asm) (by k_dflt k_mem) (by k_dflt k_mem) (by k_dflt k_updF) (by first | with_reducible assumption | omega) (by walk_at "mk_room") (by walk_at "mk_fact") (by with_reducible assumption) (by with_reducible assumption) (by with_reducible assumption) ?_; walk_at "mk_in") | ((with_reducible show wpAny _ _ (call (Value.ref 162) [Value.ref _, Value.str (Str.ofString "-") _]) _ _ _); refine skip1_no (ch := 45) (W := Str.ofString "-") (by decide) (by k_asm) (by k_asm) (by k_asm) (by k_asm) (by k_dflt k_mem) (by k_dflt k_mem) (by walk_at "mk_room") (by walk_at "mk_fact") (by with_reducible assumption) (by first | assumption | decide | omega) ?_; walk_at "mk_in") | ((with_reducible show wpAny _ _ (call (Value.builtin "len") [Value.str _ _]) _ _ _); refine P.len_str (by (try simp only [tx_length]); omega) ?_) | tb_rel); (try dsimp only)) | walk1) | (walk_at "mk_late"; (try dsimp only))))
  (with_reducible rename Fr _ _ _ _ => FF); (with_reducible rename Flown _ _ _ _ _ => RR)
  exact leave_up KS FF NF RR (fun h' R => up _ _ _ R)
end

theorem notin_yes {prog : Program} {w : World} {A : Around} {E : Value → Shared → Prop} {s : Shared} {c : Nat} {t u : Tok} {Q : Value → Shared → Prop} (hc : 48 ≤ c ∧ c ≤ 57)
    (h : Q (.bool false) s) : wpAny (model prog w) A (compareOp .NotIn (.str (tx [c]) u) (.str (Str.ofString "0123456789") t)) Q E s := by
  rw [figs_tx]
  refine P.notIn_str ?_
  have e : tx [c] = ⟨#[c]⟩ := rfl
  rw [e, StrLaws.found_one, tx_cps, decide_eq_true (fig_mem.mpr hc)]
  exact h
theorem notin_no {prog : Program} {w : World} {A : Around} {E : Value → Shared → Prop} {s : Shared} {c : Nat} {t u : Tok} {Q : Value → Shared → Prop} (hc : ¬ (48 ≤ c ∧ c ≤ 57))
    (h : Q (.bool true) s) : wpAny (model prog w) A (compareOp .NotIn (.str (tx [c]) u) (.str (Str.ofString "0123456789") t)) Q E s := by
  rw [figs_tx]
  refine P.notIn_str ?_
  have e : tx [c] = ⟨#[c]⟩ := rfl
  rw [e, StrLaws.found_one, tx_cps, decide_eq_false (fun q => hc (fig_mem.mp q))]
  exact h
theorem minus_eq : (tx [45] == Str.ofString "-") = true := by decide
theorem minus_ne {c : Nat} (h : c ≠ 45) : (tx [c] == Str.ofString "-") = false := by
  have e : Str.ofString "-" = tx [45] := by decide
  rw [e, beq_tx]
  simpa using h
theorem one_ne (c : Nat) : (tx [c] == Str.ofString "") = false := by
  have e : Str.ofString "" = tx [] := by decide
  rw [e, beq_tx]; rfl
section
variable {w : World} {p : Program} {loose : List Str} {mg mb : Str → Option Value} {h₀ : Heap} {A : Around} {s : Shared} {Q E : Value → Shared → Prop} {L : Addr} {m : Str → Option Value} {news : List (Addr × Obj)} {g : Obj → List (Addr × Obj)} {g2 : Obj → Obj → List (Addr × Obj)}
    {c d r rd : Addr} {l : List Nat} {k : Nat} {a1 a2 a3 a4 b1 b2 b3 : Nat} {n : Int} {base : Heap} {outer : List Env}
theorem quoted_lit {W : Str} (hW : W = tx [34]) {te : Tok}
    (F₀ : Fr h₀ L s.heap m) (N₀ : News h₀ L s.heap news) (X₀ : (Hd.KK w.params).In h₀) (T₀ : TopRead p loose mg mb h₀)
    (hc : (c, instObj 236 d) ∈ news) (hd : (d, curD w.params (tx l) k a1 a2 a3 a4) ∈ news) (U : UpdF d (curD w.params (tx l) k a1 a2 a3 a4) news g) (hcd : @Ne Nat c d)
    (room : A.depth + 2 < recursionLimit) (hl : (tx l).length ≤ 1048576) (hr0 : l[k]? = some 49) (hr1 : l[k + 1]? = some 34)
    (ret : ∀ h' tk' t' b1 b2 b3 b4, Fr h₀ L h' m → News h₀ L h' (g (curD w.params (tx l) ((k + 2 : Nat) : Int) b1 b2 b3 b4)) → Q (.str (tx [49]) t') { s with heap := h', toks := tk' }) :
    wpAny (model PySem.Challenge.rw_qd0064_01.row.prog w) A (call (.ref 233) [.ref c, .str W te]) Q E s := by
  subst hW
  exact quoted_one F₀ N₀ X₀ T₀ hc hd U hcd room hl hr0 hr1 ret
end
/-- a piece of a line: its text, and what it is read to: the value, and the objects that it stands on -/
structure Pc where
  text : List Nat
  is : Value → List (Addr × Obj) → Prop
noncomputable abbrev tupO (vs : Array Value) : Obj := { cls := .type "tuple", data := .seq vs }
inductive AllIs : List Pc → List Value → List (Addr × Obj) → Prop
  | nil : AllIs [] [] []
  | cons {q : Pc} {qs : List Pc} {v : Value} {vs : List Value} {ex exs : List (Addr × Obj)} : q.is v ex → AllIs qs vs exs → AllIs (q :: qs) (v :: vs) (ex ++ exs)
noncomputable def intPc (z : Int) : Pc := ⟨num z, fun v ex => (∃ t, v = .int z t) ∧ ex = []⟩
noncomputable def noPc : Pc := ⟨[45], fun v ex => v = .none ∧ ex = []⟩
noncomputable def onePc : Pc := ⟨[34, 49, 34], fun v ex => (∃ t, v = .str (tx [49]) t) ∧ ex = []⟩
noncomputable def tupPc (qs : List Pc) : Pc := ⟨40 :: (jn [32] (qs.map (·.text)) ++ [41]), fun v ex => ∃ T vs exs, v = .ref T ∧ ex = (T, tupO vs.toArray) :: exs ∧ AllIs qs vs exs⟩
/-- what the reader's item() does at a piece -/
noncomputable def ItemOK (w : World) (dp : Int) (q : Pc) : Prop :=
  ∀ {p : Program} {loose : List Str} {mg mb : Str → Option Value} {h₀ : Heap} {A : Around} {s : Shared} {Q E : Value → Shared → Prop} {L : Addr} {m : Str → Option Value} {news : List (Addr × Obj)} {g : Obj → List (Addr × Obj)}
    {c d r rd : Addr} {l : List Nat} {k : Nat} {a1 a2 a3 a4 b1 b2 b3 : Nat} {n : Int} {rest : List Nat} {args : List Value} {dt : Tok},
    (args = [.ref r, .int dp dt]) ∨ (args = [.ref r] ∧ dp = 0 ∧ dt = 655) →
    Fr h₀ L s.heap m → News h₀ L s.heap news → (Hd.KK w.params).In h₀ → TopRead p loose mg mb h₀ →
    (r, instObj 407 rd) ∈ news → (rd, rdD w.params c n b1 b2 b3) ∈ news → (c, instObj 236 d) ∈ news → (d, curD w.params (tx l) k a1 a2 a3 a4) ∈ news → UpdF d (curD w.params (tx l) k a1 a2 a3 a4) news g →
    (@LT.lt Nat _ rd r ∧ @LT.lt Nat _ r d ∧ @LT.lt Nat _ d c) → A.depth + 20 < recursionLimit + 4 * dp → (tx l).length ≤ 1048576 → l.drop k = q.text ++ rest → (∃ x y, rest = x :: y ∧ ¬ (48 ≤ x ∧ x ≤ 57)) →
    (∀ h' tk' v ex b1 b2 b3 b4, Fr h₀ L h' m → News h₀ L h' (g (curD w.params (tx l) ((k + q.text.length : Nat) : Int) b1 b2 b3 b4)) → News h₀ L h' ex → (∀ p ∈ ex, ∀ o, s.heap.get? p.1 = some o → False) → q.is v ex → Q v { s with heap := h', toks := tk' }) →
    wpAny (model PySem.Challenge.rw_qd0064_01.row.prog w) A (call (.ref 354) args) Q E s
section
variable {w : World} {dp : Int}
set_option maxHeartbeats 8000000 in
theorem item_no (hdp : dp ≤ 2) : ItemOK w dp (noPc) := by
  intro p loose mg mb h₀ A s Q E L m news g c d r rd l k a1 a2 a3 a4 b1 b2 b3 n rest args dt hargs F₀ N₀ X₀ T₀ hr hrd hc hd U ho room hl hr0 hre ret
  obtain ⟨x, y, rfl, hx⟩ := hre
  obtain ⟨O, NF⟩ := own_four F₀ N₀ hr hrd hc hd
  have G : Good w p loose mg mb h₀ := ⟨X₀, T₀⟩
  have hcd : @Ne Nat c d := by omega
  have room' : A.depth + 8 < recursionLimit := by omega
  have f1 : l[k]? = some 45 := yes_first hr0 rfl
  have f2 : l[k + 1]? = some x := by
    have : l.drop (k + 1) = x :: y := by rw [← List.drop_drop, hr0]; rfl
    exact yes_first this rfl
  have f3 := minus_eq
  have f4 := one_ne x
  refine' enter_ret (binds := [(Str.ofString "self", .ref r), (Str.ofString "depth", .int dp dt)]) G O ?h1 ?h2 (by walk_at "mk_room") ?h3 ?h4 ?h ?c1 ?c2 ?c3 ?c4
  (case h1 => k_dflt k_is)
  (case h2 => k_dflt k_is)
  (case h3 =>
    rcases hargs with rfl | ⟨rfl, rfl, rfl⟩
    · exact binds_K (Good.X (Good.keeps (by with_reducible assumption) (Own.st (by with_reducible assumption)))) rfl (by k_dflt k_is) rfl rfl rfl
    · exact binds_K (Good.X (Good.keeps (by with_reducible assumption) (Own.st (by with_reducible assumption)))) rfl (by k_dflt k_is) rfl rfl rfl)
  (case h4 => exact locs rfl)
  (case c1 => rfl); (case c2 => rfl); (case c3 => rfl); (case c4 => decide)
  intro L h₁ hL F N X T
  k_fold
  (repeat' ((fail_if_success tb_start); first | ((first | ((with_reducible show wpAny _ _ (call (Value.ref 141) [Value.ref _, Value.int _ _]) _ _ _); refine peek1 (by k_asm) (by k_asm) (by k_asm) (by k_asm) (by k_dflt k_mem) (by k_dflt k_mem) (by walk_at "mk_room") (by walk_at "mk_fact") (by with_reducible assumption) ?_; walk_at "mk_in") | ((with_reducible show wpAny _ _ (call (Value.ref 141) [Value.ref _]) _ _ _); refine peek0 (by k_asm) (by k_asm) (by k_asm) (by k_asm) (by k_dflt k_mem) (by k_dflt k_mem) (by walk_at "mk_room") (by walk_at "mk_fact") (by with_reducible assumption) ?_; walk_at "mk_in") | ((with_reducible show wpAny _ _ (compareOp CmpOp.NotIn (Value.str (tx _) _) (Value.str (Str.ofString "0123456789") _)) _ _ _); refine notin_no (by first | with_reducible assumption | omega) ?_) | ((with_reducible show wpAny _ _ (call (Value.ref 162) [Value.ref _, Value.str (Str.ofString "(") _]) _ _ _); refine skip1_no (ch := 40) (W := Str.ofString "(") (by decide) (by k_asm) (by k_asm) (by k_asm) (by k_asm) (by k_dflt k_mem) (by k_dflt k_mem) (by walk_at "mk_room") (by walk_at "mk_fact") (by with_reducible assumption) (by first | assumption | decide | omega) ?_; walk_at "mk_in") | ((with_reducible show wpAny _ _ (call (Value.ref 162) [Value.ref _, Value.str (Str.ofString "\"") _]) _ _ _); refine skip1_no (ch := 34) (W := Str.ofString "\"") (by decide) (by k_asm) (by k_asm) (by k_asm) (by k_asm) (by k_dflt k_mem) (by k_dflt k_mem) (by walk_at "mk_room") (by walk_at "mk_fact") (by with_reducible assumption) (by first | assumption | decide | omega) ?_; walk_at "mk_in") | ((with_reducible show wpAny _ _ (call (Value.ref 155) [Value.ref _]) _ _ _); refine take_yes (by k_asm) (by k_asm) (by k_asm) (by k_asm) (by k_dflt k_mem) (by k_dflt k_mem) (by k_dflt k_updF) (by with_reducible assumption) (by walk_at "mk_room") (by walk_at "mk_fact") (by with_reducible assumption) ?_; walk_at "mk_in") | tb_rel); (try dsimp only)) | walk_at "mk_tail" | (walk_at "mk_dl"; first | ((first | ((with_reducible show wpAny _ _ (call (Value.ref 141) [Value.ref _, Value.int _ _]) _ _ _); refine peek1 (by k_asm) (by k_asm) (by k_asm) (by k_asm) (by k_dflt k_mem) (by k_dflt k_mem) (by walk_at "mk_room") (by walk_at "mk_fact") (by with_reducible assumption) ?_; walk_at "mk_in") | ((with_reducible show wpAny _ _ (call (Value.ref 141) [Value.ref _]) _ _ _); refine peek0 (by k_asm) (by k_asm) (by k_asm) (by k_asm) (by k_dflt k_mem) (by k_dflt k_mem) (by walk_at "mk_room") (by walk_at "mk_fact") (by with_reducible assumption) ?_; walk_at "mk_in") | ((with_reducible show wpAny _ _ (compareOp CmpOp.NotIn (Value.str (tx _) _) (Value.str (Str.ofString "0123456789") _)) _ _ _); refine notin_no (by first | with_reducible assumption | omega) ?_) | ((with_reducible show wpAny _ _ (call (Value.ref 162) [Value.ref _, Value.str (Str.ofString "(") _]) _ _ _); refine skip1_no (ch := 40) (W := Str.ofString "(") (by decide) (by k_asm) (by k_asm) (by k_asm) (by k_asm) (by k_dflt k_mem) (by k_dflt k_mem) (by walk_at "mk_room") (by walk_at "mk_fact") (by with_reducible assumption) (by first | assumption | decide | omega) ?_; walk_at "mk_in") | ((with_reducible show wpAny _ _ (call (Value.ref 162) [Value.ref _, Value.str (Str.ofString "\"") _]) _ _ _); refine skip1_no (ch := 34) (W := Str.ofString "\"") (by decide) (by k_asm) (by k_asm) (by k_asm) (by k_asm) (by k_dflt k_mem) (by k_dflt k_mem) (by walk_at "mk_room") (by walk_at "mk_fact") (by with_reducible assumption) (by first | assumption | decide | omega) ?_; walk_at "mk_in") | ((with_reducible show wpAny _ _ (call (Value.ref 155) [Value.ref _]) _ _ _); refine take_yes (by k_asm) (by k_asm) (by k_asm) (by k_asm) (by k_dflt k_mem) (by k_dflt k_mem) (by k_dflt k_updF) (by with_reducible assumption) (by walk_at "mk_room") (by walk_at "mk_fact") (by with_reducible assumption) ?_; walk_at "mk_in") | tb_rel); (try dsimp only)) | walk1) | (walk_at "mk_late"; (try dsimp only))))
  have NN := (by assumption : News _ _ _ (_ :: _))
  (with_reducible rename Fr _ _ _ _ => FF); (with_reducible rename News _ _ _ _ => NN)
  have e := ext_rd O FF (News.get NN (.head _)) (News.get NN (.tail _ (.head _))) (News.get NN (.tail _ (.tail _ (.head _))))
  obtain ⟨F', N'⟩ := use1 F₀ N₀ U e (News.get NN (.tail _ (.tail _ (.tail _ (.head _)))))
  exact ret _ _ _ [] _ _ _ _ F' N' (fun _ h => nomatch h) (fun _ h => nomatch h) ⟨rfl, rfl⟩
set_option maxHeartbeats 8000000 in
theorem item_one (hdp : dp ≤ 2) : ItemOK w dp (onePc) := by
  intro p loose mg mb h₀ A s Q E L m news g c d r rd l k a1 a2 a3 a4 b1 b2 b3 n rest args dt hargs F₀ N₀ X₀ T₀ hr hrd hc hd U ho room hl hr0 hre ret
  obtain ⟨x, y, rfl, hx⟩ := hre
  obtain ⟨O, NF⟩ := own_four F₀ N₀ hr hrd hc hd
  have G : Good w p loose mg mb h₀ := ⟨X₀, T₀⟩
  have hcd : @Ne Nat c d := by omega
  have room' : A.depth + 8 < recursionLimit := by omega
  have f1 : l[k]? = some 34 := yes_first hr0 rfl
  have g1 : l.drop (k + 1) = 49 :: 34 :: x :: y := by rw [← List.drop_drop, hr0]; rfl
  have f2 : l[k + 1]? = some 49 := yes_first g1 rfl
  have f3 : l[k + 1 + 1]? = some 34 := by
    have : l.drop (k + 1 + 1) = 34 :: x :: y := by rw [← List.drop_drop, g1]; rfl
    exact yes_first this rfl
  refine' enter_ret (binds := [(Str.ofString "self", .ref r), (Str.ofString "depth", .int dp dt)]) G O ?h1 ?h2 (by walk_at "mk_room") ?h3 ?h4 ?h ?c1 ?c2 ?c3 ?c4
  (case h1 => k_dflt k_is)
  (case h2 => k_dflt k_is)
  (case h3 =>
    rcases hargs with rfl | ⟨rfl, rfl, rfl⟩
    · exact binds_K (Good.X (Good.keeps (by with_reducible assumption) (Own.st (by with_reducible assumption)))) rfl (by k_dflt k_is) rfl rfl rfl
    · exact binds_K (Good.X (Good.keeps (by with_reducible assumption) (Own.st (by with_reducible assumption)))) rfl (by k_dflt k_is) rfl rfl rfl)
  (case h4 => exact locs rfl)
  (case c1 => rfl); (case c2 => rfl); (case c3 => rfl); (case c4 => decide)
  intro L h₁ hL F N X T
  k_fold
  (repeat' ((fail_if_success tb_start); first | ((first | ((with_reducible show wpAny _ _ (call (Value.ref 233) [Value.ref _, Value.str (Str.ofString "\"") _]) _ _ _); refine quoted_lit (W := Str.ofString "\"") (by decide) (by k_asm) (by k_asm) (by k_asm) (by k_asm) (by k_dflt k_mem) (by k_dflt k_mem) (by k_dflt k_updF) (by first | with_reducible assumption | omega) (by walk_at "mk_room") (by walk_at "mk_fact") (by with_reducible assumption) (by with_reducible assumption) ?_; walk_at "mk_in") | ((with_reducible show wpAny _ _ (call (Value.ref 162) [Value.ref _, Value.str (Str.ofString "\"") _]) _ _ _); refine skip1_yes (ch := 34) (W := Str.ofString "\"") (by decide) (by k_asm) (by k_asm) (by k_asm) (by k_asm) (by k_dflt k_mem) (by k_dflt k_mem) (by k_dflt k_updF) (by first | assumption | omega) (by walk_at "mk_room") (by walk_at "mk_fact") (by with_reducible assumption) ?_; walk_at "mk_in") | tb_rel); (try dsimp only)) | walk_at "mk_tail" | (walk_at "mk_dl"; first | ((first | ((with_reducible show wpAny _ _ (call (Value.ref 233) [Value.ref _, Value.str (Str.ofString "\"") _]) _ _ _); refine quoted_lit (W := Str.ofString "\"") (by decide) (by k_asm) (by k_asm) (by k_asm) (by k_asm) (by k_dflt k_mem) (by k_dflt k_mem) (by k_dflt k_updF) (by first | with_reducible assumption | omega) (by walk_at "mk_room") (by walk_at "mk_fact") (by with_reducible assumption) (by with_reducible assumption) ?_; walk_at "mk_in") | ((with_reducible show wpAny _ _ (call (Value.ref 162) [Value.ref _, Value.str (Str.ofString "\"") _]) _ _ _); refine skip1_yes (ch := 34) (W := Str.ofString "\"") (by decide) (by k_asm) (by k_asm) (by k_asm) (by k_asm) (by k_dflt k_mem) (by k_dflt k_mem) (by k_dflt k_updF) (by first | assumption | omega) (by walk_at "mk_room") (by walk_at "mk_fact") (by with_reducible assumption) ?_; walk_at "mk_in") | tb_rel); (try dsimp only)) | walk1) | (walk_at "mk_late"; (try dsimp only))))
  have NN := (by assumption : News _ _ _ (_ :: _))
  (with_reducible rename Fr _ _ _ _ => FF); (with_reducible rename News _ _ _ _ => NN)
  have e := ext_rd O FF (News.get NN (.head _)) (News.get NN (.tail _ (.head _))) (News.get NN (.tail _ (.tail _ (.head _))))
  obtain ⟨F', N'⟩ := use1 F₀ N₀ U e (News.get NN (.tail _ (.tail _ (.tail _ (.head _)))))
  exact ret _ _ _ [] _ _ _ _ F' N' (fun _ h => nomatch h) (fun _ h => nomatch h) ⟨⟨_, rfl⟩, rfl⟩
set_option maxHeartbeats 8000000 in
theorem item_int {z : Int} (hdp : dp ≤ 2) (hz : (dg z.natAbs).length ≤ 160) : ItemOK w dp (intPc z) := by
  intro p loose mg mb h₀ A s Q E L m news g c d r rd l k a1 a2 a3 a4 b1 b2 b3 n rest args dt hargs F₀ N₀ X₀ T₀ hr hrd hc hd U ho room hl hr0 hre ret
  obtain ⟨x, y, rfl, hx⟩ := hre
  obtain ⟨O, NF⟩ := own_four F₀ N₀ hr hrd hc hd
  have G : Good w p loose mg mb h₀ := ⟨X₀, T₀⟩
  have hcd : @Ne Nat c d := by omega
  have room' : A.depth + 8 < recursionLimit := by omega
  have f6 : ∀ u, (x :: y).head? = some u → ¬ (48 ≤ u ∧ u ≤ 57) := fun u hu => by cases hu; exact hx
  obtain ⟨c0, r0, f5, f7⟩ := dg_cons z.natAbs
  by_cases hneg : z < 0
  · have e1 : num z = 45 :: dg z.natAbs := if_pos hneg
    have hr1 : l.drop k = num z ++ x :: y := hr0
    have f1 : l[k]? = some 45 := yes_first hr0 (by show num z ++ _ = _; rw [e1]; rfl)
    have f2 : l[k + 1]? = some c0 := by
      have : l.drop (k + 1) = dg z.natAbs ++ x :: y := by rw [← List.drop_drop, hr1, e1]; rfl
      exact yes_first this (by rw [f5]; rfl)
    have f3 := minus_eq
    have f4 := one_ne c0
    refine' enter_ret (binds := [(Str.ofString "self", .ref r), (Str.ofString "depth", .int dp dt)]) G O ?h1 ?h2 (by walk_at "mk_room") ?h3 ?h4 ?h ?c1 ?c2 ?c3 ?c4
    (case h1 => k_dflt k_is)
    (case h2 => k_dflt k_is)
    (case h3 =>
      rcases hargs with rfl | ⟨rfl, rfl, rfl⟩
      · exact binds_K (Good.X (Good.keeps (by with_reducible assumption) (Own.st (by with_reducible assumption)))) rfl (by k_dflt k_is) rfl rfl rfl
      · exact binds_K (Good.X (Good.keeps (by with_reducible assumption) (Own.st (by with_reducible assumption)))) rfl (by k_dflt k_is) rfl rfl rfl)
    (case h4 => exact locs rfl)
    (case c1 => rfl); (case c2 => rfl); (case c3 => rfl); (case c4 => decide)
    intro L h₁ hL F N X T
    k_fold
    (repeat' ((fail_if_success tb_start); first | ((first | ((with_reducible show wpAny _ _ (call (Value.ref 346) [Value.ref _]) _ _ _); refine whole_ok (by k_asm) (by k_asm) (by k_asm) (by k_asm) (by k_dflt k_mem) (by k_dflt k_mem) (by k_dflt k_mem) (by k_dflt k_mem) (by k_dflt k_updF) (by first | with_reducible assumption | (refine ⟨?_, ?_, ?_⟩ <;> omega)) (by walk_at "mk_room") (by walk_at "mk_fact") (by with_reducible assumption) (by with_reducible assumption) (by with_reducible assumption) ?_; walk_at "mk_in") | ((with_reducible show wpAny _ _ (call (Value.ref 141) [Value.ref _, Value.int _ _]) _ _ _); refine peek1 (by k_asm) (by k_asm) (by k_asm) (by k_asm) (by k_dflt k_mem) (by k_dflt k_mem) (by walk_at "mk_room") (by walk_at "mk_fact") (by with_reducible assumption) ?_; walk_at "mk_in") | ((with_reducible show wpAny _ _ (call (Value.ref 141) [Value.ref _]) _ _ _); refine peek0 (by k_asm) (by k_asm) (by k_asm) (by k_asm) (by k_dflt k_mem) (by k_dflt k_mem) (by walk_at "mk_room") (by walk_at "mk_fact") (by with_reducible assumption) ?_; walk_at "mk_in") | ((with_reducible show wpAny _ _ (compareOp CmpOp.NotIn (Value.str (tx _) _) (Value.str (Str.ofString "0123456789") _)) _ _ _); refine notin_yes (by first | with_reducible assumption | omega) ?_) | ((with_reducible show wpAny _ _ (call (Value.ref 162) [Value.ref _, Value.str (Str.ofString "(") _]) _ _ _); refine skip1_no (ch := 40) (W := Str.ofString "(") (by decide) (by k_asm) (by k_asm) (by k_asm) (by k_asm) (by k_dflt k_mem) (by k_dflt k_mem) (by walk_at "mk_room") (by walk_at "mk_fact") (by with_reducible assumption) (by first | assumption | decide | omega) ?_; walk_at "mk_in") | ((with_reducible show wpAny _ _ (call (Value.ref 162) [Value.ref _, Value.str (Str.ofString "\"") _]) _ _ _); refine skip1_no (ch := 34) (W := Str.ofString "\"") (by decide) (by k_asm) (by k_asm) (by k_asm) (by k_asm) (by k_dflt k_mem) (by k_dflt k_mem) (by walk_at "mk_room") (by walk_at "mk_fact") (by with_reducible assumption) (by first | assumption | decide | omega) ?_; walk_at "mk_in") | tb_rel); (try dsimp only)) | walk_at "mk_tail" | (walk_at "mk_dl"; first | ((first | ((with_reducible show wpAny _ _ (call (Value.ref 346) [Value.ref _]) _ _ _); refine whole_ok (by k_asm) (by k_asm) (by k_asm) (by k_asm) (by k_dflt k_mem) (by k_dflt k_mem) (by k_dflt k_mem) (by k_dflt k_mem) (by k_dflt k_updF) (by first | with_reducible assumption | (refine ⟨?_, ?_, ?_⟩ <;> omega)) (by walk_at "mk_room") (by walk_at "mk_fact") (by with_reducible assumption) (by with_reducible assumption) (by with_reducible assumption) ?_; walk_at "mk_in") | ((with_reducible show wpAny _ _ (call (Value.ref 141) [Value.ref _, Value.int _ _]) _ _ _); refine peek1 (by k_asm) (by k_asm) (by k_asm) (by k_asm) (by k_dflt k_mem) (by k_dflt k_mem) (by walk_at "mk_room") (by walk_at "mk_fact") (by with_reducible assumption) ?_; walk_at "mk_in") | ((with_reducible show wpAny _ _ (call (Value.ref 141) [Value.ref _]) _ _ _); refine peek0 (by k_asm) (by k_asm) (by k_asm) (by k_asm) (by k_dflt k_mem) (by k_dflt k_mem) (by walk_at "mk_room") (by walk_at "mk_fact") (by with_reducible assumption) ?_; walk_at "mk_in") | ((with_reducible show wpAny _ _ (compareOp CmpOp.NotIn (Value.str (tx _) _) (Value.str (Str.ofString "0123456789") _)) _ _ _); refine notin_yes (by first | with_reducible assumption | omega) ?_) | ((with_reducible show wpAny _ _ (call (Value.ref 162) [Value.ref _, Value.str (Str.ofString "(") _]) _ _ _); refine skip1_no (ch := 40) (W := Str.ofString "(") (by decide) (by k_asm) (by k_asm) (by k_asm) (by k_asm) (by k_dflt k_mem) (by k_dflt k_mem) (by walk_at "mk_room") (by walk_at "mk_fact") (by with_reducible assumption) (by first | assumption | decide | omega) ?_; walk_at "mk_in") | ((with_reducible show wpAny _ _ (call (Value.ref 162) [Value.ref _, Value.str (Str.ofString "\"") _]) _ _ _); refine skip1_no (ch := 34) (W := Str.ofString "\"") (by decide) (by k_asm) (by k_asm) (by k_asm) (by k_asm) (by k_dflt k_mem) (by k_dflt k_mem) (by walk_at "mk_room") (by walk_at "mk_fact") (by with_reducible assumption) (by first | assumption | decide | omega) ?_; walk_at "mk_in") | tb_rel); (try dsimp only)) | walk1) | (walk_at "mk_late"; (try dsimp only))))
    have NN := (by assumption : News _ _ _ (_ :: _))
    (with_reducible rename Fr _ _ _ _ => FF); (with_reducible rename News _ _ _ _ => NN)
    have e := ext_rd O FF (News.get NN (.head _)) (News.get NN (.tail _ (.head _))) (News.get NN (.tail _ (.tail _ (.head _))))
    obtain ⟨F', N'⟩ := use1 F₀ N₀ U e (News.get NN (.tail _ (.tail _ (.tail _ (.head _)))))
    exact ret _ _ _ [] _ _ _ _ F' N' (fun _ h => nomatch h) (fun _ h => nomatch h) ⟨⟨_, rfl⟩, rfl⟩
  · have e1 : num z = dg z.natAbs := if_neg hneg
    have hr1 : l.drop k = num z ++ x :: y := hr0
    have f1 : l[k]? = some c0 := yes_first hr0 (by show num z ++ _ = _; rw [e1, f5]; rfl)
    have f3 := minus_ne (c := c0) (by omega)
    refine' enter_ret (binds := [(Str.ofString "self", .ref r), (Str.ofString "depth", .int dp dt)]) G O ?h1zz ?h2zz (by walk_at "mk_room") ?h3zz ?h4zz ?hzz ?c1zz ?c2zz ?c3zz ?c4zz
    (case h1zz => k_dflt k_is)
    (case h2zz => k_dflt k_is)
    (case h3zz =>
      rcases hargs with rfl | ⟨rfl, rfl, rfl⟩
      · exact binds_K (Good.X (Good.keeps (by with_reducible assumption) (Own.st (by with_reducible assumption)))) rfl (by k_dflt k_is) rfl rfl rfl
      · exact binds_K (Good.X (Good.keeps (by with_reducible assumption) (Own.st (by with_reducible assumption)))) rfl (by k_dflt k_is) rfl rfl rfl)
    (case h4zz => exact locs rfl)
    (case c1zz => rfl); (case c2zz => rfl); (case c3zz => rfl); (case c4zz => decide)
    intro L h₁ hL F N X T
    k_fold
    (repeat' ((fail_if_success tb_start); first | ((first | ((with_reducible show wpAny _ _ (call (Value.ref 346) [Value.ref _]) _ _ _); refine whole_ok (by k_asm) (by k_asm) (by k_asm) (by k_asm) (by k_dflt k_mem) (by k_dflt k_mem) (by k_dflt k_mem) (by k_dflt k_mem) (by k_dflt k_updF) (by first | with_reducible assumption | (refine ⟨?_, ?_, ?_⟩ <;> omega)) (by walk_at "mk_room") (by walk_at "mk_fact") (by with_reducible assumption) (by with_reducible assumption) (by with_reducible assumption) ?_; walk_at "mk_in") | ((with_reducible show wpAny _ _ (call (Value.ref 141) [Value.ref _]) _ _ _); refine peek0 (by k_asm) (by k_asm) (by k_asm) (by k_asm) (by k_dflt k_mem) (by k_dflt k_mem) (by walk_at "mk_room") (by walk_at "mk_fact") (by with_reducible assumption) ?_; walk_at "mk_in") | ((with_reducible show wpAny _ _ (call (Value.ref 162) [Value.ref _, Value.str (Str.ofString "(") _]) _ _ _); refine skip1_no (ch := 40) (W := Str.ofString "(") (by decide) (by k_asm) (by k_asm) (by k_asm) (by k_asm) (by k_dflt k_mem) (by k_dflt k_mem) (by walk_at "mk_room") (by walk_at "mk_fact") (by with_reducible assumption) (by first | assumption | decide | omega) ?_; walk_at "mk_in") | ((with_reducible show wpAny _ _ (call (Value.ref 162) [Value.ref _, Value.str (Str.ofString "\"") _]) _ _ _); refine skip1_no (ch := 34) (W := Str.ofString "\"") (by decide) (by k_asm) (by k_asm) (by k_asm) (by k_asm) (by k_dflt k_mem) (by k_dflt k_mem) (by walk_at "mk_room") (by walk_at "mk_fact") (by with_reducible assumption) (by first | assumption | decide | omega) ?_; walk_at "mk_in") | tb_rel); (try dsimp only)) | walk_at "mk_tail" | (walk_at "mk_dl"; first | ((first | ((with_reducible show wpAny _ _ (call (Value.ref 346) [Value.ref _]) _ _ _); refine whole_ok (by k_asm) (by k_asm) (by k_asm) (by k_asm) (by k_dflt k_mem) (by k_dflt k_mem) (by k_dflt k_mem) (by k_dflt k_mem) (by k_dflt k_updF) (by first | with_reducible assumption | (refine ⟨?_, ?_, ?_⟩ <;> omega)) (by walk_at "mk_room") (by walk_at "mk_fact") (by with_reducible assumption) (by with_reducible assumption) (by with_reducible assumption) ?_; walk_at "mk_in") | ((with_reducible show wpAny _ _ (call (Value.ref 141) [Value.ref _]) _ _ _); refine peek0 (by k_asm) (by k_asm) (by k_asm) (by k_asm) (by k_dflt k_mem) (by k_dflt k_mem) (by walk_at "mk_room") (by walk_at "mk_fact") (by with_reducible assumption) ?_; walk_at "mk_in") | ((with_reducible show wpAny _ _ (call (Value.ref 162) [Value.ref _, Value.str (Str.ofString "(") _]) _ _ _); refine skip1_no (ch := 40) (W := Str.ofString "(") (by decide) (by k_asm) (by k_asm) (by k_asm) (by k_asm) (by k_dflt k_mem) (by k_dflt k_mem) (by walk_at "mk_room") (by walk_at "mk_fact") (by with_reducible assumption) (by first | assumption | decide | omega) ?_; walk_at "mk_in") | ((with_reducible show wpAny _ _ (call (Value.ref 162) [Value.ref _, Value.str (Str.ofString "\"") _]) _ _ _); refine skip1_no (ch := 34) (W := Str.ofString "\"") (by decide) (by k_asm) (by k_asm) (by k_asm) (by k_asm) (by k_dflt k_mem) (by k_dflt k_mem) (by walk_at "mk_room") (by walk_at "mk_fact") (by with_reducible assumption) (by first | assumption | decide | omega) ?_; walk_at "mk_in") | tb_rel); (try dsimp only)) | walk1) | (walk_at "mk_late"; (try dsimp only))))
    have NN := (by assumption : News _ _ _ (_ :: _))
    (with_reducible rename Fr _ _ _ _ => FF); (with_reducible rename News _ _ _ _ => NN)
    have e := ext_rd O FF (News.get NN (.head _)) (News.get NN (.tail _ (.head _))) (News.get NN (.tail _ (.tail _ (.head _))))
    obtain ⟨F', N'⟩ := use1 F₀ N₀ U e (News.get NN (.tail _ (.tail _ (.tail _ (.head _)))))
    exact ret _ _ _ [] _ _ _ _ F' N' (fun _ h => nomatch h) (fun _ h => nomatch h) ⟨⟨_, rfl⟩, rfl⟩
end

noncomputable def tl (qs : List Pc) : List Nat := qs.flatMap fun q => 32 :: q.text
theorem jn_tl (q : Pc) : ∀ qs : List Pc, jn [32] ((q :: qs).map (·.text)) = q.text ++ tl qs
  | [] => by simp [jn, tl]
  | q' :: qs => by
    have ih := jn_tl q' qs
    show q.text ++ [32] ++ jn [32] ((q' :: qs).map (·.text)) = _
    rw [ih]
    simp [tl]
theorem tl_next (qs : List Pc) (rest : List Nat) : ∃ x y, tl qs ++ 41 :: rest = x :: y ∧ ¬ (48 ≤ x ∧ x ≤ 57) := by
  cases qs with
  | nil => exact ⟨41, rest, rfl, by omega⟩
  | cons q r => exact ⟨32, q.text ++ tl r ++ 41 :: rest, by simp [tl], by omega⟩
theorem AllIs.snoc {q : Pc} {v : Value} {ex : List (Addr × Obj)} (h : q.is v ex) : ∀ {qs : List Pc} {vs : List Value} {exs : List (Addr × Obj)}, AllIs qs vs exs → AllIs (qs ++ [q]) (vs ++ [v]) (exs ++ ex) := by
  intro qs vs exs hh
  induction hh with
  | nil => simpa using AllIs.cons h .nil
  | cons a b ih => rw [List.append_assoc]; exact .cons a ih
theorem news_more {h₀ h : Heap} {L : Addr} {a b : List (Addr × Obj)} (x : News h₀ L h a) (y : News h₀ L h b) : News h₀ L h (a ++ b) := fun p hp => (List.mem_append.mp hp).elim (x p) (y p)
theorem fresh_out {h h' : Heap} {L : Addr} {fp ex : List (Addr × Obj)} (N : News (hideAll h (fp.map (·.1))) L h' ex) (hne : ∀ p ∈ ex, p.1 ∉ fp.map (·.1)) : ∀ p ∈ ex, ∀ o, h.get? p.1 = some o → False := fun p hp o e => by
  have := (N p hp).2.2
  rw [hideAll_get _ e (hne p hp)] at this; cases this
theorem news_out {h₀ h h' : Heap} {L L' : Addr} {m : Str → Option Value} {g : Heap} {ex : List (Addr × Obj)} (F : Fr h₀ L h m) (N : News g L' h' ex) (hf : ∀ p ∈ ex, ∀ o, h.get? p.1 = some o → False) : News h₀ L h' ex := fun p hp => by
  refine ⟨(N p hp).1, fun e => ?_, ?_⟩
  · obtain ⟨o, es, ep, ho, _⟩ := F.ns
    exact hf p hp o (e ▸ ho)
  · cases q : h₀.get? p.1 with
    | none => rfl
    | some o => exact (hf p hp o (F.keep _ _ q)).elim
theorem news_sub {h₀ h : Heap} {L : Addr} {a b : List (Addr × Obj)} (N : News h₀ L h a) (s : ∀ p ∈ b, p ∈ a) : News h₀ L h b := fun p hp => N p (s p hp)
theorem four_ne {x r rd c d : Addr} {o1 o2 o3 o4 : Obj} (h1 : @Ne Nat x r) (h2 : @Ne Nat x rd) (h3 : @Ne Nat x c) (h4 : @Ne Nat x d) : x ∉ [(r, o1), (rd, o2), (c, o3), (d, o4)].map (·.1) := by
  intro q
  simp only [List.map_cons, List.map_nil, List.mem_cons, List.not_mem_nil, or_false] at q
  rcases q with q | q | q | q
  · exact h1 q
  · exact h2 q
  · exact h3 q
  · exact h4 q
theorem tuple_mk {prog : Program} {w : World} {A : Around} {E : Value → Shared → Prop} {s : Shared} {h₀ : Heap} {L S : Addr} {m : Str → Option Value} {news : List (Addr × Obj)} {items : Array Value} {e : Nat} {Q : Value → Shared → Prop} (F : Fr h₀ L s.heap m) (N : News h₀ L s.heap news) (hm : (S, listOf items e) ∈ news) (hsz : items.size ≤ sizeLine)
    (h : ∀ h' T, Fr h₀ L h' m → News h₀ L h' ((T, tupO items) :: news) → (∀ p ∈ news, p.1 < T) → Q (.ref T) { s with heap := h' }) : wpAny (model prog w) A (call (.type "tuple") [.ref S]) Q E s := by
  refine call_tuple_list (items := items) ⟨_, N.get hm, rfl, e, rfl⟩ (fun h' hk => ?_) hsz
  obtain ⟨F', N'⟩ := use0 F N (h' := h') (fun b o _ q => hk b o q)
  exact h _ _ (F'.push _) (N'.push F' _) (fun p hp => Heap.lt_size (N' p hp).1)
theorem AllIs.len : ∀ {qs : List Pc} {vs : List Value} {exs : List (Addr × Obj)}, AllIs qs vs exs → vs.length = qs.length
  | _, _, _, .nil => rfl
  | _, _, _, .cons _ b => congrArg (· + 1) b.len
local macro_rules | `(tactic| k_all) => `(tactic| with_reducible assumption)
/-- what holds between the items of a bracket -/
inductive BrInv (P : Params) (r rd c d : Addr) (nl : Int) (b1 b2 b3 : Nat) (dp : Int) (dt : Tok) (l rest : List Nat) (q : Pc) (qs : List Pc) (k n : Nat) (m₁ : Str → Option Value) (nw : List (Addr × Obj)) : Prop
  | mk (S : Addr) (done todo : List Pc) (vs : List Value) (exs : List (Addr × Obj)) (k' c1 c2 c3 c4 e : Nat) (l1 : @LT.lt Nat _ r S ∧ @LT.lt Nat _ rd S ∧ @LT.lt Nat _ c S ∧ @LT.lt Nat _ d S) (q1 : m₁ (Str.ofString "self") = some (.ref r)) (q2 : m₁ (Str.ofString "depth") = some (.int dp dt)) (q3 : m₁ (Str.ofString "found") = some (.ref S))
      (hq : q :: qs = done ++ todo) (hn : n = todo.length) (ha : AllIs done vs exs) (n1 : ∀ p ∈ exs, p.1 ≠ S) (n2 : ∀ p ∈ exs, p.1 ≠ r) (n3 : ∀ p ∈ exs, p.1 ≠ rd) (n4 : ∀ p ∈ exs, p.1 ≠ c) (n5 : ∀ p ∈ exs, p.1 ≠ d) (hr : l.drop k' = tl todo ++ 41 :: rest) (hk : k' + (tl todo).length = k + (q.text ++ tl qs).length)
      (hw : nw = (S, listOf vs.toArray e) :: (r, instObj 407 rd) :: (rd, rdD P c nl b1 b2 b3) :: (c, instObj 236 d) :: (d, curD P (tx l) (k' : Nat) c1 c2 c3 c4) :: exs) : BrInv P r rd c d nl b1 b2 b3 dp dt l rest q qs k n m₁ nw
/-- what the reader's bracket() does behind the opening bracket -/
noncomputable def BracketOK (w : World) (dp : Int) (qs : List Pc) : Prop :=
  ∀ {p : Program} {loose : List Str} {mg mb : Str → Option Value} {h₀ : Heap} {A : Around} {s : Shared} {Q E : Value → Shared → Prop} {L : Addr} {m : Str → Option Value} {news : List (Addr × Obj)} {g : Obj → List (Addr × Obj)}
    {c d r rd : Addr} {l : List Nat} {k : Nat} {a1 a2 a3 a4 b1 b2 b3 : Nat} {n : Int} {rest : List Nat} {dt : Tok},
    Fr h₀ L s.heap m → News h₀ L s.heap news → (Hd.KK w.params).In h₀ → TopRead p loose mg mb h₀ →
    (r, instObj 407 rd) ∈ news → (rd, rdD w.params c n b1 b2 b3) ∈ news → (c, instObj 236 d) ∈ news → (d, curD w.params (tx l) k a1 a2 a3 a4) ∈ news → UpdF d (curD w.params (tx l) k a1 a2 a3 a4) news g →
    (@LT.lt Nat _ rd r ∧ @LT.lt Nat _ r d ∧ @LT.lt Nat _ d c) → A.depth + 21 < recursionLimit + 4 * dp → (tx l).length ≤ 1048576 → l.drop k = jn [32] (qs.map (·.text)) ++ 41 :: rest →
    (∀ h' tk' T vs exs b1 b2 b3 b4, Fr h₀ L h' m → News h₀ L h' (g (curD w.params (tx l) ((k + (jn [32] (qs.map (·.text))).length + 1 : Nat) : Int) b1 b2 b3 b4)) → News h₀ L h' ((T, tupO vs.toArray) :: exs) → (∀ p ∈ (T, tupO vs.toArray) :: exs, ∀ o, s.heap.get? p.1 = some o → False) → AllIs qs vs exs → Q (.ref T) { s with heap := h', toks := tk' }) →
    wpAny (model PySem.Challenge.rw_qd0064_01.row.prog w) A (call (.ref 361) [.ref r, .int dp dt]) Q E s
section
variable {w : World} {dp : Int}
set_option maxHeartbeats 8000000 in
theorem bracket_ok {qs : List Pc} (hdp : dp ≤ 2) (hI : ∀ q ∈ qs, ItemOK w dp q ∧ (q.text.head? ≠ some 41 ∧ q.text ≠ [])) (hmany : qs.length ≤ 1000) : BracketOK w dp qs := by
  intro p loose mg mb h₀ A s Q E L m news g c d r rd l k a1 a2 a3 a4 b1 b2 b3 nl rest dt F₀ N₀ X₀ T₀ hr hrd hc hd U ho room hl hr0 ret
  obtain ⟨O, NF⟩ := own_four F₀ N₀ hr hrd hc hd
  have G : Good w p loose mg mb h₀ := ⟨X₀, T₀⟩
  have hcd : @Ne Nat c d := by omega
  have room' : A.depth + 8 < recursionLimit := by omega
  have hdp0 : decide (2 < dp) = false := by simp; omega
  cases qs with
  | nil =>
    have f1 : l[k]? = some 41 := yes_first hr0 rfl
    refine' enter_ret (binds := [(Str.ofString "self", .ref r), (Str.ofString "depth", .int dp dt)]) G O ?h1 ?h2 (by walk_at "mk_room") ?h3 ?h4 ?h ?c1 ?c2 ?c3 ?c4
    walk_at "mk_enter"
    intro L h₁ hL F N X T
    k_fold
    (repeat' ((fail_if_success tb_start); first | ((first | ((with_reducible show wpAny _ _ (call (Value.ref 162) [Value.ref _, Value.str (Str.ofString ")") _]) _ _ _); refine skip1_yes (ch := 41) (W := Str.ofString ")") (by decide) (by k_asm) (by k_asm) (by k_asm) (by k_asm) (by k_dflt k_mem) (by k_dflt k_mem) (by k_dflt k_updF) (by first | assumption | omega) (by walk_at "mk_room") (by walk_at "mk_fact") (by with_reducible assumption) ?_; walk_at "mk_in") | tb_rel); (try dsimp only)) | walk_at "mk_tail" | (walk_at "mk_dl"; first | ((first | ((with_reducible show wpAny _ _ (call (Value.ref 162) [Value.ref _, Value.str (Str.ofString ")") _]) _ _ _); refine skip1_yes (ch := 41) (W := Str.ofString ")") (by decide) (by k_asm) (by k_asm) (by k_asm) (by k_asm) (by k_dflt k_mem) (by k_dflt k_mem) (by k_dflt k_updF) (by first | assumption | omega) (by walk_at "mk_room") (by walk_at "mk_fact") (by with_reducible assumption) ?_; walk_at "mk_in") | tb_rel); (try dsimp only)) | walk1) | (walk_at "mk_late"; (try dsimp only))))
    (with_reducible rename Fr _ _ _ _ => FF); (with_reducible rename News _ _ _ (_ :: _) => NN); (with_reducible rename _ ∧ _ => l1)
    have N0 : News _ _ _ [(_, tupO #[])] := news_sub NN (fun p hp => by rw [List.mem_singleton.mp hp]; exact .head _)
    have fx := fresh_out (h := s.heap) N0 (fun p hp => by
      rw [List.mem_singleton.mp hp]; exact four_ne (by omega) (by omega) (by omega) (by omega))
    have e := ext_rd O FF (News.get NN (.tail _ (.tail _ (.head _)))) (News.get NN (.tail _ (.tail _ (.tail _ (.head _))))) (News.get NN (.tail _ (.tail _ (.tail _ (.tail _ (.head _))))))
    obtain ⟨F', N'⟩ := use1 F₀ N₀ U e (News.get NN (.tail _ (.tail _ (.tail _ (.tail _ (.tail _ (.head _)))))))
    exact ret _ _ _ [] [] _ _ _ _ F' N' (news_out F₀ N0 fx) fx .nil
  | cons q qs =>
    rw [jn_tl] at hr0
    obtain ⟨iq, hq1, hq2⟩ := hI q (.head _)
    obtain ⟨ch, ct, hq3⟩ : ∃ ch ct, q.text = ch :: ct := by
      cases hh : q.text with
      | nil => exact absurd hh hq2
      | cons a b => exact ⟨a, b, rfl⟩
    have f1 : l[k]? = some ch := yes_first hr0 (by rw [hq3]; rfl)
    have f2 : ch ≠ 41 := fun e => hq1 (by rw [hq3, e]; rfl)
    refine' enter_ret (binds := [(Str.ofString "self", .ref r), (Str.ofString "depth", .int dp dt)]) G O ?h1 ?h2 (by walk_at "mk_room") ?h3 ?h4 ?h ?c1 ?c2 ?c3 ?c4
    walk_at "mk_enter"
    intro L h₁ hL F N X T
    k_fold
    (repeat' ((fail_if_success tb_start); first | ((first | ((with_reducible show wpAny _ _ (call (Value.ref 162) [Value.ref _, Value.str (Str.ofString ")") _]) _ _ _); refine skip1_no (ch := 41) (W := Str.ofString ")") (by decide) (by k_asm) (by k_asm) (by k_asm) (by k_asm) (by k_dflt k_mem) (by k_dflt k_mem) (by walk_at "mk_room") (by walk_at "mk_fact") (by with_reducible assumption) (by first | assumption | decide | omega) ?_; walk_at "mk_in") | tb_rel); (try dsimp only)) | walk_at "mk_tail" | (walk_at "mk_dl"; first | ((first | ((with_reducible show wpAny _ _ (call (Value.ref 162) [Value.ref _, Value.str (Str.ofString ")") _]) _ _ _); refine skip1_no (ch := 41) (W := Str.ofString ")") (by decide) (by k_asm) (by k_asm) (by k_asm) (by k_asm) (by k_dflt k_mem) (by k_dflt k_mem) (by walk_at "mk_room") (by walk_at "mk_fact") (by with_reducible assumption) (by first | assumption | decide | omega) ?_; walk_at "mk_in") | tb_rel); (try dsimp only)) | walk1) | (walk_at "mk_late"; (try dsimp only))))
    (with_reducible rename Fr _ _ _ _ => FF); (with_reducible rename News _ _ _ (_ :: _) => NN); (with_reducible rename _ ∧ _ => l1)
    refine' iq (.inl rfl) FF NN X T ?a1 ?a2 ?a3 ?a4 ?a5 ho ?a6 hl (rest := tl qs ++ 41 :: rest) (by rw [hr0, List.append_assoc]) (tl_next _ _) ?_
    (case a1 => k_dflt k_mem); (case a2 => k_dflt k_mem); (case a3 => k_dflt k_mem); (case a4 => k_dflt k_mem); (case a5 => k_dflt k_updF)
    case a6 => (try simp only [depth_deeper]); omega
    intro h' tk' v ex c1 c2 c3 c4 F' N' Nx fx hv
    have n1 : ∀ p ∈ ex, p.1 ≠ _ := fun p hp e => fx p hp _ (by rw [e]; exact NN.get (.head _))
    have n2 : ∀ p ∈ ex, p.1 ≠ r := fun p hp e => fx p hp _ (by rw [e]; exact NN.get (.tail _ (.head _)))
    have n3 : ∀ p ∈ ex, p.1 ≠ rd := fun p hp e => fx p hp _ (by rw [e]; exact NN.get (.tail _ (.tail _ (.head _))))
    have n4 : ∀ p ∈ ex, p.1 ≠ c := fun p hp e => fx p hp _ (by rw [e]; exact NN.get (.tail _ (.tail _ (.tail _ (.head _)))))
    have n5 : ∀ p ∈ ex, p.1 ≠ d := fun p hp e => fx p hp _ (by rw [e]; exact NN.get (.tail _ (.tail _ (.tail _ (.tail _ (.head _))))))
    have N2 := news_more N' Nx
    dsimp only [List.cons_append, List.nil_append] at N2
    clear N' FF NN
    walk_at "mk_go"
    (with_reducible rename Fr _ _ _ _ => FF); (with_reducible rename News _ _ _ (_ :: _) => NN)
    refine while_mk (BrInv w.params r rd c d nl b1 b2 b3 dp dt l rest q qs k) (n₀ := qs.length) FF NN
      ⟨_, [q], qs, [v], ex, k + q.text.length, _, _, _, _, _, l1, by walk_at "mk_look", by walk_at "mk_look", by walk_at "mk_look", rfl, rfl, by simpa using AllIs.cons hv .nil, n1, n2, n3, n4, n5, by rw [← List.drop_drop, hr0, List.append_assoc, List.drop_left' rfl], by simp; omega, rfl⟩ ?_
    clear FF NN n1 n2 n3 n4 n5 l1 fx
    rintro n m₁ nw h2 tk2 F2 N2 ⟨S, done, todo, vs, exs, k', c1, c2, c3, c4, e, l1, q1, q2, q3, hq, rfl, hall, n1, n2, n3, n4, n5, hr2, hk2, rfl⟩
    cases todo with
    | nil =>
      have f3 : l[k']? = some 41 := yes_first hr2 rfl
      (repeat' ((fail_if_success tb_start); first | ((first | ((with_reducible show wpAny _ _ (call (Value.ref 162) [Value.ref _, Value.str (Str.ofString ")") _]) _ _ _); refine skip1_yes (ch := 41) (W := Str.ofString ")") (by decide) (by k_asm) (by k_asm) (by k_asm) (by k_asm) (by k_dflt k_mem) (by k_dflt k_mem) (by k_dflt k_updF) (by first | assumption | omega) (by walk_at "mk_room") (by walk_at "mk_fact") (by with_reducible assumption) ?_; walk_at "mk_in") | tb_rel); (try dsimp only)) | walk_at "mk_tail" | (walk_at "mk_dl"; first | ((first | ((with_reducible show wpAny _ _ (call (Value.ref 162) [Value.ref _, Value.str (Str.ofString ")") _]) _ _ _); refine skip1_yes (ch := 41) (W := Str.ofString ")") (by decide) (by k_asm) (by k_asm) (by k_asm) (by k_asm) (by k_dflt k_mem) (by k_dflt k_mem) (by k_dflt k_updF) (by first | assumption | omega) (by walk_at "mk_room") (by walk_at "mk_fact") (by with_reducible assumption) ?_; walk_at "mk_in") | tb_rel); (try dsimp only)) | walk1) | (walk_at "mk_late"; (try dsimp only))))
      (with_reducible rename Fr _ _ _ _ => FF); (with_reducible rename News _ _ _ (_ :: _) => NN)
      have hlen := hall.len
      have hdl : done.length = (q :: qs).length := by rw [hq, List.append_nil]
      refine tuple_mk FF NN (.head _) (by rw [List.size_toArray, sizeLine_eq]; omega) fun h' T F' N' lt => ?_
      replace lt := lt
      have nT : ∀ p ∈ (T, tupO vs.toArray) :: exs, p.1 ∉ [(r, instObj 407 rd), (rd, rdD w.params c nl b1 b2 b3), (c, instObj 236 d), (d, curD w.params (tx l) (k : Nat) a1 a2 a3 a4)].map (·.1) := fun p hp => by
        rcases List.mem_cons.mp hp with rfl | hp
        · have k1 := ltN (lt _ (.tail _ (.head _))); have k2 := ltN (lt _ (.tail _ (.tail _ (.head _)))); have k3 := ltN (lt _ (.tail _ (.tail _ (.tail _ (.head _))))); have k4 := ltN (lt _ (.tail _ (.tail _ (.tail _ (.tail _ (.head _))))))
          dsimp only at k1 k2 k3 k4
          exact four_ne (by omega) (by omega) (by omega) (by omega)
        · exact four_ne (n2 p hp) (n3 p hp) (n4 p hp) (n5 p hp)
      have N0 : News _ _ _ ((T, tupO vs.toArray) :: exs) := news_sub N' (fun p hp => by
        rcases List.mem_cons.mp hp with rfl | hp
        · exact .head _
        · exact .tail _ (.tail _ (.tail _ (.tail _ (.tail _ (.tail _ hp))))))
      have fx := fresh_out (h := s.heap) N0 nT
      have e := ext_rd O F' (N'.get (.tail _ (.tail _ (.head _)))) (N'.get (.tail _ (.tail _ (.tail _ (.head _))))) (N'.get (.tail _ (.tail _ (.tail _ (.tail _ (.head _))))))
      obtain ⟨F3, N3⟩ := use1 F₀ N₀ U e (N'.get (.tail _ (.tail _ (.tail _ (.tail _ (.tail _ (.head _)))))))
      have ek : k' + 1 = k + (jn [32] ((q :: qs).map (·.text))).length + 1 := by
        rw [jn_tl, ← hk2]; rfl
      rw [ek] at N3
      have hall' : AllIs (q :: qs) vs exs := by rw [hq, List.append_nil]; exact hall
      exact ret _ _ _ _ _ _ _ _ _ F3 N3 (news_out F₀ N0 fx) fx hall'
    | cons q2 todo =>
      have f3 : l[k']? = some 32 := yes_first hr2 rfl
      have hr3 : l.drop (k' + 1) = q2.text ++ (tl todo ++ 41 :: rest) := by
        rw [← List.drop_drop, hr2]
        show List.drop 1 (32 :: q2.text ++ tl todo ++ 41 :: rest) = _
        simp
      (repeat' ((fail_if_success tb_start); first | ((first | ((with_reducible show wpAny _ _ (call (Value.ref 325) [Value.ref _, Value.str (Str.ofString " ") _]) _ _ _); refine need1 (ch := 32) (W := Str.ofString " ") (by decide) (by k_asm) (by k_asm) (by k_asm) (by k_asm) (by k_dflt k_mem) (by k_dflt k_mem) (by k_dflt k_mem) (by k_dflt k_mem) (by k_dflt k_updF) (by first | with_reducible assumption | (refine ⟨?_, ?_, ?_⟩ <;> omega)) (by walk_at "mk_room") (by walk_at "mk_fact") (by with_reducible assumption) ?_; walk_at "mk_in") | ((with_reducible show wpAny _ _ (call (Value.ref 162) [Value.ref _, Value.str (Str.ofString ")") _]) _ _ _); refine skip1_no (ch := 41) (W := Str.ofString ")") (by decide) (by k_asm) (by k_asm) (by k_asm) (by k_asm) (by k_dflt k_mem) (by k_dflt k_mem) (by walk_at "mk_room") (by walk_at "mk_fact") (by with_reducible assumption) (by first | assumption | decide | omega) ?_; walk_at "mk_in") | tb_rel); (try dsimp only)) | walk_at "mk_tail" | (walk_at "mk_dl"; first | ((first | ((with_reducible show wpAny _ _ (call (Value.ref 325) [Value.ref _, Value.str (Str.ofString " ") _]) _ _ _); refine need1 (ch := 32) (W := Str.ofString " ") (by decide) (by k_asm) (by k_asm) (by k_asm) (by k_asm) (by k_dflt k_mem) (by k_dflt k_mem) (by k_dflt k_mem) (by k_dflt k_mem) (by k_dflt k_updF) (by first | with_reducible assumption | (refine ⟨?_, ?_, ?_⟩ <;> omega)) (by walk_at "mk_room") (by walk_at "mk_fact") (by with_reducible assumption) ?_; walk_at "mk_in") | ((with_reducible show wpAny _ _ (call (Value.ref 162) [Value.ref _, Value.str (Str.ofString ")") _]) _ _ _); refine skip1_no (ch := 41) (W := Str.ofString ")") (by decide) (by k_asm) (by k_asm) (by k_asm) (by k_asm) (by k_dflt k_mem) (by k_dflt k_mem) (by walk_at "mk_room") (by walk_at "mk_fact") (by with_reducible assumption) (by first | assumption | decide | omega) ?_; walk_at "mk_in") | tb_rel); (try dsimp only)) | walk1) | (walk_at "mk_late"; (try dsimp only))))
      (with_reducible rename Fr _ _ _ _ => FF); (with_reducible rename News _ _ _ (_ :: _) => NN)
      have hq2 : q2 ∈ q :: qs := by rw [hq]; simp
      refine' (hI q2 hq2).1 (.inl rfl) FF NN X T ?a1 ?a2 ?a3 ?a4 ?a5 ho ?a6 hl hr3 (tl_next _ _) ?_
      (case a1 => k_dflt k_mem); (case a2 => k_dflt k_mem); (case a3 => k_dflt k_mem); (case a4 => k_dflt k_mem); (case a5 => k_dflt k_updF)
      case a6 => (try simp only [depth_deeper]); omega
      intro h' tk' v ex c1 c2 c3 c4 F' N' Nx fx hv
      have k1 : ∀ p ∈ ex, p.1 ≠ S := fun p hp e => fx p hp _ (by rw [e]; exact NN.get (.head _))
      have k2 : ∀ p ∈ ex, p.1 ≠ r := fun p hp e => fx p hp _ (by rw [e]; exact NN.get (.tail _ (.head _)))
      have k3 : ∀ p ∈ ex, p.1 ≠ rd := fun p hp e => fx p hp _ (by rw [e]; exact NN.get (.tail _ (.tail _ (.head _))))
      have k4 : ∀ p ∈ ex, p.1 ≠ c := fun p hp e => fx p hp _ (by rw [e]; exact NN.get (.tail _ (.tail _ (.tail _ (.head _)))))
      have k5 : ∀ p ∈ ex, p.1 ≠ d := fun p hp e => fx p hp _ (by rw [e]; exact NN.get (.tail _ (.tail _ (.tail _ (.tail _ (.head _))))))
      have both : ∀ {a : Addr}, (∀ p ∈ exs, p.1 ≠ a) → (∀ p ∈ ex, p.1 ≠ a) → ∀ p ∈ exs ++ ex, p.1 ≠ a := fun x y p hp => (List.mem_append.mp hp).elim (x p) (y p)
      have j1 := both n1 k1
      have j2 := both n2 k2
      have j3 := both n3 k3
      have j4 := both n4 k4
      have j5 := both n5 k5
      have N2 := news_more N' Nx
      dsimp only [List.cons_append, List.nil_append] at N2
      clear N' FF NN n1 n2 n3 n4 n5 k1 k2 k3 k4 k5
      have hvl : vs.length ≤ 1000 := by
        have h1 := hall.len
        have h2 : (q :: qs).length = done.length + (q2 :: todo).length := by rw [hq, List.length_append]
        omega
      (repeat' ((fail_if_success tb_start); first | ((first | ((with_reducible show wpAny _ _ (call (Value.builtin "list.append") [Value.ref _, _]) _ _ _); k_dflt (refine append_K (by k_asm) (by k_asm) (by k_upd) ?_ (by (rw [List.size_toArray, sizeLine_eq]; omega))); walk_at "mk_in") | tb_rel); (try dsimp only)) | walk_at "mk_tail" | (walk_at "mk_dl"; first | ((first | ((with_reducible show wpAny _ _ (call (Value.builtin "list.append") [Value.ref _, _]) _ _ _); k_dflt (refine append_K (by k_asm) (by k_asm) (by k_upd) ?_ (by (rw [List.size_toArray, sizeLine_eq]; omega))); walk_at "mk_in") | tb_rel); (try dsimp only)) | walk1) | (walk_at "mk_late"; (try dsimp only))))
      (with_reducible rename Fr _ _ _ _ => FF); (with_reducible rename News _ _ _ (_ :: _) => NN)
      rw [List.push_toArray] at NN
      exact WStep.next FF NN (show todo.length < (q2 :: todo).length by simp) ⟨S, done ++ [q2], todo, vs ++ [v], exs ++ ex, k' + 1 + q2.text.length, _, _, _, _, _, l1, by walk_at "mk_look", by walk_at "mk_look", by walk_at "mk_look", by rw [hq]; simp, rfl, AllIs.snoc hv hall, j1, j2, j3, j4, j5, by rw [← List.drop_drop, hr3, List.drop_left' rfl], by rw [← hk2]; simp [tl]; omega, rfl⟩
end

/-- a piece at which item() raises -/
noncomputable def ItemUp (w : World) (q : Pc) : Prop :=
  ∀ {p : Program} {loose : List Str} {mg mb : Str → Option Value} {h₀ : Heap} {A : Around} {s : Shared} {Q E : Value → Shared → Prop} {L : Addr} {m : Str → Option Value} {news : List (Addr × Obj)} {base : Heap} {outer : List Env}
    {c d r rd : Addr} {l : List Nat} {k : Nat} {a1 a2 a3 a4 b1 b2 b3 : Nat} {n : Int} {rest : List Nat},
    Fr h₀ L s.heap m → News h₀ L s.heap news → (Hd.KK w.params).In h₀ → TopRead p loose mg mb h₀ → Sta A base outer h₀ L → A.handled = none →
    (r, instObj 407 rd) ∈ news → (rd, rdD w.params c n b1 b2 b3) ∈ news → (c, instObj 236 d) ∈ news → (d, curD w.params (tx l) k a1 a2 a3 a4) ∈ news →
    (@LT.lt Nat _ rd r ∧ @LT.lt Nat _ r d ∧ @LT.lt Nat _ d c) → A.depth + 20 < recursionLimit → (tx l).length ≤ 1048576 → l.drop k = q.text ++ rest → (∃ x y, rest = x :: y ∧ ¬ (48 ≤ x ∧ x ≤ 57)) →
    (∀ e h' tk', Flown base outer e s.heap h' → E (.ref e) { s with heap := h', toks := tk' }) →
    wpAny (model PySem.Challenge.rw_qd0064_01.row.prog w) A (call (.ref 354) [.ref r]) Q E s
section
variable {w : World} {dp : Int}
set_option maxHeartbeats 8000000 in
theorem item_tup {qs : List Pc} (hdp : dp ≤ 1) (hB : BracketOK w (dp + 1) qs) : ItemOK w dp (tupPc qs) := by
  intro p loose mg mb h₀ A s Q E L m news g c d r rd l k a1 a2 a3 a4 b1 b2 b3 n rest args dt hargs F₀ N₀ X₀ T₀ hr hrd hc hd U ho room hl hr0 hre ret
  obtain ⟨x, y, rfl, hx⟩ := hre
  obtain ⟨O, NF⟩ := own_four F₀ N₀ hr hrd hc hd
  have G : Good w p loose mg mb h₀ := ⟨X₀, T₀⟩
  have hcd : @Ne Nat c d := by omega
  have room' : A.depth + 8 < recursionLimit := by omega
  have f1 : l[k]? = some 40 := yes_first hr0 rfl
  have hr1 : l.drop (k + 1) = jn [32] (qs.map (·.text)) ++ 41 :: (x :: y) := by
    rw [← List.drop_drop, hr0]
    show List.drop 1 (40 :: (jn [32] (qs.map (·.text)) ++ [41]) ++ x :: y) = _
    simp
  refine' enter_ret (binds := [(Str.ofString "self", .ref r), (Str.ofString "depth", .int dp dt)]) G O ?h1 ?h2 (by walk_at "mk_room") ?h3 ?h4 ?h ?c1 ?c2 ?c3 ?c4
  (case h1 => k_dflt k_is)
  (case h2 => k_dflt k_is)
  (case h3 =>
    rcases hargs with rfl | ⟨rfl, rfl, rfl⟩
    · exact binds_K (Good.X (Good.keeps (by with_reducible assumption) (Own.st (by with_reducible assumption)))) rfl (by k_dflt k_is) rfl rfl rfl
    · exact binds_K (Good.X (Good.keeps (by with_reducible assumption) (Own.st (by with_reducible assumption)))) rfl (by k_dflt k_is) rfl rfl rfl)
  (case h4 => exact locs rfl)
  (case c1 => rfl); (case c2 => rfl); (case c3 => rfl); (case c4 => decide)
  intro L h₁ hL F N X T
  k_fold
  (repeat' ((fail_if_success tb_start); first | ((first | ((with_reducible show wpAny _ _ (call (Value.ref 162) [Value.ref _, Value.str (Str.ofString "(") _]) _ _ _); refine skip1_yes (ch := 40) (W := Str.ofString "(") (by decide) (by k_asm) (by k_asm) (by k_asm) (by k_asm) (by k_dflt k_mem) (by k_dflt k_mem) (by k_dflt k_updF) (by first | assumption | omega) (by walk_at "mk_room") (by walk_at "mk_fact") (by with_reducible assumption) ?_; walk_at "mk_in") | ((with_reducible show wpAny _ _ (call (Value.ref 162) [Value.ref _, Value.str (Str.ofString "\"") _]) _ _ _); refine skip1_no (ch := 34) (W := Str.ofString "\"") (by decide) (by k_asm) (by k_asm) (by k_asm) (by k_asm) (by k_dflt k_mem) (by k_dflt k_mem) (by walk_at "mk_room") (by walk_at "mk_fact") (by with_reducible assumption) (by first | assumption | decide | omega) ?_; walk_at "mk_in") | tb_rel); (try dsimp only)) | walk_at "mk_tail" | (walk_at "mk_dl"; first | ((first | ((with_reducible show wpAny _ _ (call (Value.ref 162) [Value.ref _, Value.str (Str.ofString "(") _]) _ _ _); refine skip1_yes (ch := 40) (W := Str.ofString "(") (by decide) (by k_asm) (by k_asm) (by k_asm) (by k_asm) (by k_dflt k_mem) (by k_dflt k_mem) (by k_dflt k_updF) (by first | assumption | omega) (by walk_at "mk_room") (by walk_at "mk_fact") (by with_reducible assumption) ?_; walk_at "mk_in") | ((with_reducible show wpAny _ _ (call (Value.ref 162) [Value.ref _, Value.str (Str.ofString "\"") _]) _ _ _); refine skip1_no (ch := 34) (W := Str.ofString "\"") (by decide) (by k_asm) (by k_asm) (by k_asm) (by k_asm) (by k_dflt k_mem) (by k_dflt k_mem) (by walk_at "mk_room") (by walk_at "mk_fact") (by with_reducible assumption) (by first | assumption | decide | omega) ?_; walk_at "mk_in") | tb_rel); (try dsimp only)) | walk1) | (walk_at "mk_late"; (try dsimp only))))
  (with_reducible rename Fr _ _ _ _ => FF); (with_reducible rename News _ _ _ (_ :: _) => NN)
  refine' hB FF NN X T ?a1 ?a2 ?a3 ?a4 ?a5 ho ?a6 hl hr1 ?_
  (case a1 => k_dflt k_mem); (case a2 => k_dflt k_mem); (case a3 => k_dflt k_mem); (case a4 => k_dflt k_mem); (case a5 => k_dflt k_updF)
  case a6 => (try simp only [depth_deeper]); omega
  intro h' tk' TT vs exs c1 c2 c3 c4 F1 N1 Nx fx hall
  walk_at "mk_go"
  have fx' : ∀ p ∈ (TT, tupO vs.toArray) :: exs, ∀ o, s.heap.get? p.1 = some o → False := fresh_out (h := s.heap) Nx (fun p hp q => by
    obtain ⟨z, hz, e⟩ := List.mem_map.mp q
    rcases List.mem_cons.mp hz with rfl | hz
    · exact fx p hp _ (by rw [← e]; exact NN.get (.head _))
    · rcases List.mem_cons.mp hz with rfl | hz
      · exact fx p hp _ (by rw [← e]; exact NN.get (.tail _ (.head _)))
      · rcases List.mem_cons.mp hz with rfl | hz
        · exact fx p hp _ (by rw [← e]; exact NN.get (.tail _ (.tail _ (.head _))))
        · rw [List.mem_singleton.mp hz] at e
          exact fx p hp _ (by rw [← e]; exact NN.get (.tail _ (.tail _ (.tail _ (.head _))))))
  have e := ext_rd O F1 (News.get N1 (.head _)) (News.get N1 (.tail _ (.head _))) (News.get N1 (.tail _ (.tail _ (.head _))))
  obtain ⟨F', N'⟩ := use1 F₀ N₀ U e (News.get N1 (.tail _ (.tail _ (.tail _ (.head _)))))
  have el : k + 1 + (jn [32] (qs.map (·.text))).length + 1 = k + (tupPc qs).text.length := by
    show _ = k + (40 :: (jn [32] (qs.map (·.text)) ++ [41])).length
    simp; omega
  rw [el] at N'
  exact ret _ _ _ _ _ _ _ _ F' N' (news_out F₀ Nx fx') fx' ⟨_, _, _, rfl, rfl, hall⟩
set_option maxHeartbeats 8000000 in
theorem item_long {z : Nat} (hz : 160 < (dg z).length) : ItemUp w (intPc z) := by
  intro p loose mg mb h₀ A s Q E L m news base outer c d r rd l k a1 a2 a3 a4 b1 b2 b3 n rest F₀ N₀ X₀ T₀ KS hh hr hrd hc hd ho room hl hr0 hre up
  obtain ⟨x, y, rfl, hx⟩ := hre
  obtain ⟨O, NF⟩ := own_four F₀ N₀ hr hrd hc hd
  have G : Good w p loose mg mb h₀ := ⟨X₀, T₀⟩
  have hcd : @Ne Nat c d := by omega
  have e1 : num z = dg z := by unfold num; rw [if_neg (by omega)]; rfl
  have hr1 : l.drop k = dg z ++ x :: y := by rw [← e1]; exact hr0
  have f6 : ∀ u, (x :: y).head? = some u → ¬ (48 ≤ u ∧ u ≤ 57) := fun u hu => by cases hu; exact hx
  obtain ⟨c0, r0, f5, f7⟩ := dg_cons z
  have f1 : l[k]? = some c0 := yes_first hr1 (by rw [f5]; rfl)
  have f3 := minus_ne (c := c0) (by omega)
  refine' enter_err (binds := [(Str.ofString "self", .ref r), (Str.ofString "depth", .int 0 655)]) KS F₀ NF G O ?h1 ?h2 (by walk_at "mk_room") ?h3 ?h4 ?h ?c1 ?c2 ?c3 ?c4
  walk_at "mk_enter"
  intro L h₁ hL F N X T K2
  k_fold
  (repeat' ((fail_if_success tb_start); first | ((first | ((with_reducible show wpAny _ _ (call (Value.ref 141) [Value.ref _]) _ _ _); refine peek0 (by k_asm) (by k_asm) (by k_asm) (by k_asm) (by k_dflt k_mem) (by k_dflt k_mem) (by walk_at "mk_room") (by walk_at "mk_fact") (by with_reducible assumption) ?_; walk_at "mk_in") | ((with_reducible show wpAny _ _ (call (Value.ref 162) [Value.ref _, Value.str (Str.ofString "(") _]) _ _ _); refine skip1_no (ch := 40) (W := Str.ofString "(") (by decide) (by k_asm) (by k_asm) (by k_asm) (by k_asm) (by k_dflt k_mem) (by k_dflt k_mem) (by walk_at "mk_room") (by walk_at "mk_fact") (by with_reducible assumption) (by first | assumption | decide | omega) ?_; walk_at "mk_in") | ((with_reducible show wpAny _ _ (call (Value.ref 162) [Value.ref _, Value.str (Str.ofString "\"") _]) _ _ _); refine skip1_no (ch := 34) (W := Str.ofString "\"") (by decide) (by k_asm) (by k_asm) (by k_asm) (by k_asm) (by k_dflt k_mem) (by k_dflt k_mem) (by walk_at "mk_room") (by walk_at "mk_fact") (by with_reducible assumption) (by first | assumption | decide | omega) ?_; walk_at "mk_in") | tb_rel); (try dsimp only)) | walk_at "mk_tail" | (walk_at "mk_dl"; first | ((first | ((with_reducible show wpAny _ _ (call (Value.ref 141) [Value.ref _]) _ _ _); refine peek0 (by k_asm) (by k_asm) (by k_asm) (by k_asm) (by k_dflt k_mem) (by k_dflt k_mem) (by walk_at "mk_room") (by walk_at "mk_fact") (by with_reducible assumption) ?_; walk_at "mk_in") | ((with_reducible show wpAny _ _ (call (Value.ref 162) [Value.ref _, Value.str (Str.ofString "(") _]) _ _ _); refine skip1_no (ch := 40) (W := Str.ofString "(") (by decide) (by k_asm) (by k_asm) (by k_asm) (by k_asm) (by k_dflt k_mem) (by k_dflt k_mem) (by walk_at "mk_room") (by walk_at "mk_fact") (by with_reducible assumption) (by first | assumption | decide | omega) ?_; walk_at "mk_in") | ((with_reducible show wpAny _ _ (call (Value.ref 162) [Value.ref _, Value.str (Str.ofString "\"") _]) _ _ _); refine skip1_no (ch := 34) (W := Str.ofString "\"") (by decide) (by k_asm) (by k_asm) (by k_asm) (by k_asm) (by k_dflt k_mem) (by k_dflt k_mem) (by walk_at "mk_room") (by walk_at "mk_fact") (by with_reducible assumption) (by first | assumption | decide | omega) ?_; walk_at "mk_in") | tb_rel); (try dsimp only)) | walk1) | (walk_at "mk_late"; (try dsimp only))))
  (with_reducible rename Fr _ _ _ _ => FF); (with_reducible rename News _ _ _ (_ :: _) => NN)
  refine' whole_up FF NN X T ?a1 ?a2 ?a3 ?a4 ho K2 ?a5 ?a6 hl hr1 f6 hz ?_
  (case a1 => k_dflt k_mem); (case a2 => k_dflt k_mem); (case a3 => k_dflt k_mem); (case a4 => k_dflt k_mem)
  case a5 => walk_at "mk_hh"
  case a6 => (try simp only [depth_deeper]); omega
  intro e h' tk' R
  exact leave_up KS FF NF R (fun h' R => up _ _ _ R)
end

theorem tl_next10 (qs : List Pc) (rest : List Nat) : ∃ x y, tl qs ++ 10 :: rest = x :: y ∧ ¬ (48 ≤ x ∧ x ≤ 57) := by
  cases qs with
  | nil => exact ⟨10, rest, rfl, by omega⟩
  | cons q r => exact ⟨32, q.text ++ tl r ++ 10 :: rest, by simp [tl], by omega⟩
noncomputable def gm : List Nat := [103, 111, 116, 111, 95, 109, 97, 115, 107, 115]
theorem gm_tx : Str.ofString "goto_masks" ++ Str.ofString " " = tx (gm ++ [32]) := by decide
noncomputable def lineOf (qs : List Pc) : List Nat := (gm ++ [32]) ++ (dg qs.length ++ 58 :: (tl qs ++ [10]))
/-- what holds between the items of a line -/
inductive ItInv (P : Params) (r rd c d : Addr) (b1 b2 b3 : Nat) (l : List Nat) (qs : List Pc) (i : Nat) (m₁ : Str → Option Value) (nw : List (Addr × Obj)) : Prop
  | mk (S : Addr) (done todo : List Pc) (vs : List Value) (exs : List (Addr × Obj)) (k' c1 c2 c3 c4 e : Nat) (l1 : @LT.lt Nat _ r S ∧ @LT.lt Nat _ rd S ∧ @LT.lt Nat _ c S ∧ @LT.lt Nat _ d S) (q1 : m₁ (Str.ofString "self") = some (.ref r)) (q2 : m₁ (Str.ofString "found") = some (.ref S))
      (hq : qs = done ++ todo) (hi : i = done.length) (ha : AllIs done vs exs) (n1 : ∀ p ∈ exs, p.1 ≠ S) (n2 : ∀ p ∈ exs, p.1 ≠ r) (n3 : ∀ p ∈ exs, p.1 ≠ rd) (n4 : ∀ p ∈ exs, p.1 ≠ c) (n5 : ∀ p ∈ exs, p.1 ≠ d) (hr : l.drop k' = tl todo ++ [10])
      (hw : nw = (S, listOf vs.toArray e) :: (r, instObj 407 rd) :: (rd, rdD P c 0 b1 b2 b3) :: (c, instObj 236 d) :: (d, curD P (tx l) (k' : Nat) c1 c2 c3 c4) :: exs) : ItInv P r rd c d b1 b2 b3 l qs i m₁ nw
theorem num_nat (n : Nat) : num (n : Int) = dg n := by unfold num; rw [if_neg (by omega)]; rfl
section
variable {w : World} {p : Program} {loose : List Str} {mg mb : Str → Option Value} {h₀ : Heap} {A : Around} {s : Shared} {Q E : Value → Shared → Prop} {L : Addr} {m : Str → Option Value} {news : List (Addr × Obj)} {g : Obj → List (Addr × Obj)} {g2 : Obj → Obj → List (Addr × Obj)}
    {c d r rd : Addr} {l : List Nat} {a1 a2 a3 a4 b1 b2 b3 : Nat} {n : Int} {base : Heap} {outer : List Env}
set_option maxHeartbeats 8000000 in
theorem items_ok {B : Prop} {qs : List Pc} {tw : Tok} (hI : ∀ q ∈ qs, ItemOK w 0 q ∨ (B ∧ ItemUp w q)) (hmany : qs.length ≤ 1000)
    (F₀ : Fr h₀ L s.heap m) (N₀ : News h₀ L s.heap news) (X₀ : (Hd.KK w.params).In h₀) (T₀ : TopRead p loose mg mb h₀)
    (hr : (r, instObj 407 rd) ∈ news) (hrd : (rd, rdD w.params c 0 b1 b2 b3) ∈ news) (hc : (c, instObj 236 d) ∈ news) (hd : (d, curD w.params (tx l) (0 : Nat) a1 a2 a3 a4) ∈ news) (U : UpdF rd (rdD w.params c 0 b1 b2 b3) news g) (U2 : ∀ x, UpdF d (curD w.params (tx l) (0 : Nat) a1 a2 a3 a4) (g x) (g2 x))
    (ho : @LT.lt Nat _ rd r ∧ @LT.lt Nat _ r d ∧ @LT.lt Nat _ d c) (KS : Sta A base outer h₀ L) (hh : A.handled = none) (room : A.depth + 30 < recursionLimit) (hl : (tx l).length ≤ 1048576) (hr0 : l = lineOf qs)
    (ret : ∀ h' tk' S vs exs e c1 c2 c3 k' b1 b2 b3 b4, Fr h₀ L h' m → News h₀ L h' (g2 (rdD w.params c 1 c1 c2 c3) (curD w.params (tx l) ((k' : Nat) : Int) b1 b2 b3 b4)) → k' ≤ l.length → News h₀ L h' ((S, listOf vs.toArray e) :: exs) → (∀ p ∈ (S, listOf vs.toArray e) :: exs, ∀ o, s.heap.get? p.1 = some o → False) → (∀ p ∈ exs, p.1 ≠ S) → AllIs qs vs exs → Q (.ref S) { s with heap := h', toks := tk' })
    (up : B → ∀ e h' tk', Flown base outer e s.heap h' → E (.ref e) { s with heap := h', toks := tk' }) :
    wpAny (model PySem.Challenge.rw_qd0064_01.row.prog w) A (call (.ref 368) [.ref r, .str (Str.ofString "goto_masks") tw]) Q E s := by
  obtain ⟨O, NF⟩ := own_four F₀ N₀ hr hrd hc hd
  have G : Good w p loose mg mb h₀ := ⟨X₀, T₀⟩
  have hcd : @Ne Nat c d := by omega
  have hr1 : l.drop 0 = (gm ++ [32]) ++ (dg qs.length ++ 58 :: (tl qs ++ [10])) := by rw [hr0]; rfl
  have hr2 : l.drop (0 + (gm ++ [32]).length) = num (qs.length : Int) ++ 58 :: (tl qs ++ [10]) := by
    rw [num_nat, ← List.drop_drop, hr1, List.drop_left' rfl]
  have hr3 : l.drop (0 + (gm ++ [32]).length + (num (qs.length : Int)).length) = 58 :: (tl qs ++ [10]) := by
    rw [← List.drop_drop, hr2, List.drop_left' rfl]
  have hr4 : l.drop (0 + (gm ++ [32]).length + (num (qs.length : Int)).length + 1) = tl qs ++ [10] := by
    rw [← List.drop_drop, hr3]; rfl
  have f1 : l[0 + (gm ++ [32]).length + (num (qs.length : Int)).length]? = some 58 := yes_first hr3 rfl
  have f2 : ∀ x, (58 :: (tl qs ++ [10])).head? = some x → ¬ (48 ≤ x ∧ x ≤ 57) := fun x hx => by cases hx; omega
  have f3 : (dg ((qs.length : Int)).natAbs).length ≤ 160 := by
    have : (dg qs.length).length ≤ 4 := (dg_len (by decide)).mpr (by omega)
    show (dg qs.length).length ≤ 160
    omega
  have hlen := tx_length l
  refine' enter_err (binds := [(Str.ofString "self", .ref r), (Str.ofString "word", .str (Str.ofString "goto_masks") tw)]) KS F₀ NF G O ?h1 ?h2 (by walk_at "mk_room") ?h3 ?h4 ?h ?c1 ?c2 ?c3 ?c4
  walk_at "mk_enter"
  intro L h₁ hL F N X T K2
  k_fold
  walk_at "mk_go"
  (with_reducible rename Fr _ _ _ _ => FF); (with_reducible rename News _ _ _ (_ :: _) => NN)
  refine' need_ok gm_tx FF NN X T ?a1 ?a2 ?a3 ?a4 ?a5 ho ?a6 hl hr1 (by simp) ?_
  (case a1 => k_dflt k_mem); (case a2 => k_dflt k_mem); (case a3 => k_dflt k_mem); (case a4 => k_dflt k_mem); (case a5 => k_dflt k_updF)
  case a6 => (try simp only [depth_deeper]); omega
  intro h' tk' c1 c2 c3 c4 F' N'
  clear FF NN
  (repeat' ((fail_if_success tb_start); first | ((first | ((with_reducible show wpAny _ _ (call (Value.ref 346) [Value.ref _]) _ _ _); refine whole_ok (by k_asm) (by k_asm) (by k_asm) (by k_asm) (by k_dflt k_mem) (by k_dflt k_mem) (by k_dflt k_mem) (by k_dflt k_mem) (by k_dflt k_updF) (by first | with_reducible assumption | (refine ⟨?_, ?_, ?_⟩ <;> omega)) (by walk_at "mk_room") (by walk_at "mk_fact") (by with_reducible assumption) (by with_reducible assumption) (by with_reducible assumption) ?_; walk_at "mk_in") | ((with_reducible show wpAny _ _ (call (Value.ref 325) [Value.ref _, Value.str (Str.ofString ":") _]) _ _ _); refine need1 (ch := 58) (W := Str.ofString ":") (by decide) (by k_asm) (by k_asm) (by k_asm) (by k_asm) (by k_dflt k_mem) (by k_dflt k_mem) (by k_dflt k_mem) (by k_dflt k_mem) (by k_dflt k_updF) (by first | with_reducible assumption | (refine ⟨?_, ?_, ?_⟩ <;> omega)) (by walk_at "mk_room") (by walk_at "mk_fact") (by with_reducible assumption) ?_; walk_at "mk_in") | tb_rel); (try dsimp only)) | walk_at "mk_tail" | (walk_at "mk_dl"; first | ((first | ((with_reducible show wpAny _ _ (call (Value.ref 346) [Value.ref _]) _ _ _); refine whole_ok (by k_asm) (by k_asm) (by k_asm) (by k_asm) (by k_dflt k_mem) (by k_dflt k_mem) (by k_dflt k_mem) (by k_dflt k_mem) (by k_dflt k_updF) (by first | with_reducible assumption | (refine ⟨?_, ?_, ?_⟩ <;> omega)) (by walk_at "mk_room") (by walk_at "mk_fact") (by with_reducible assumption) (by with_reducible assumption) (by with_reducible assumption) ?_; walk_at "mk_in") | ((with_reducible show wpAny _ _ (call (Value.ref 325) [Value.ref _, Value.str (Str.ofString ":") _]) _ _ _); refine need1 (ch := 58) (W := Str.ofString ":") (by decide) (by k_asm) (by k_asm) (by k_asm) (by k_asm) (by k_dflt k_mem) (by k_dflt k_mem) (by k_dflt k_mem) (by k_dflt k_mem) (by k_dflt k_updF) (by first | with_reducible assumption | (refine ⟨?_, ?_, ?_⟩ <;> omega)) (by walk_at "mk_room") (by walk_at "mk_fact") (by with_reducible assumption) ?_; walk_at "mk_in") | tb_rel); (try dsimp only)) | walk1) | (walk_at "mk_late"; (try dsimp only))))
  (with_reducible rename _ ∧ _ => l1)
  refine wpAny_For ?_ ?hs
  case hs => intro _; rfl
  walk_at "mk_go"
  (with_reducible rename IsRange _ _ _ _ _ _ _ _ => R1); (with_reducible rename Fr _ _ _ _ => FF); (with_reducible rename News _ _ _ (_ :: _) => NN)
  refine for_range (n := qs.length) (ItInv w.params r rd c d b1 b2 b3 l qs)
    (by walk_at "mk_hh") R1 (small_one (by omega)) (size_one _) FF NN
      ⟨_, [], qs, [], [], _, _, _, _, _, _, l1, by walk_at "mk_look", by walk_at "mk_look", rfl, rfl, .nil, (fun _ h => nomatch h), (fun _ h => nomatch h), (fun _ h => nomatch h), (fun _ h => nomatch h), (fun _ h => nomatch h), hr4, rfl⟩ ?_ ?_ rfl rfl (by passes_own)
  · clear FF NN R1 l1
    rintro i t m₁ nw h2 tk2 I o hi ⟨S, done, todo, vs, exs, k', c1, c2, c3, c4, e, l1, q1, q2, hq, rfl, hall, n1, n2, n3, n4, n5, hr5, rfl⟩ nI F2 N2
    have i1 : @Ne Nat S I := nI _ (.head _)
    have i2 : @Ne Nat r I := nI _ (.tail _ (.head _))
    have i3 : @Ne Nat rd I := nI _ (.tail _ (.tail _ (.head _)))
    have i4 : @Ne Nat c I := nI _ (.tail _ (.tail _ (.tail _ (.head _))))
    have i5 : @Ne Nat d I := nI _ (.tail _ (.tail _ (.tail _ (.tail _ (.head _)))))
    have i6 : ∀ p ∈ exs, p.1 ≠ I := fun p hp => nI _ (.tail _ (.tail _ (.tail _ (.tail _ (.tail _ hp)))))
    clear nI
    cases todo with
    | nil => rw [hq] at hi; simp at hi
    | cons q2 todo =>
      have f5 : l[k']? = some 32 := yes_first hr5 rfl
      have hr6 : l.drop (k' + 1) = q2.text ++ (tl todo ++ [10]) := by
        rw [← List.drop_drop, hr5]
        show List.drop 1 (32 :: q2.text ++ tl todo ++ [10]) = _
        simp
      have hvl : vs.length ≤ 1000 := by
        have h1 := hall.len
        have h2 : qs.length = done.length + (q2 :: todo).length := by rw [hq, List.length_append]
        omega
      (repeat' ((fail_if_success tb_start); first | ((first | ((with_reducible show wpAny _ _ (call (Value.ref 325) [Value.ref _, Value.str (Str.ofString " ") _]) _ _ _); refine need1 (ch := 32) (W := Str.ofString " ") (by decide) (by k_asm) (by k_asm) (by k_asm) (by k_asm) (by k_dflt k_mem) (by k_dflt k_mem) (by k_dflt k_mem) (by k_dflt k_mem) (by k_dflt k_updF) (by first | with_reducible assumption | (refine ⟨?_, ?_, ?_⟩ <;> omega)) (by walk_at "mk_room") (by walk_at "mk_fact") (by with_reducible assumption) ?_; walk_at "mk_in") | tb_rel); (try dsimp only)) | walk_at "mk_tail" | (walk_at "mk_dl"; first | ((first | ((with_reducible show wpAny _ _ (call (Value.ref 325) [Value.ref _, Value.str (Str.ofString " ") _]) _ _ _); refine need1 (ch := 32) (W := Str.ofString " ") (by decide) (by k_asm) (by k_asm) (by k_asm) (by k_asm) (by k_dflt k_mem) (by k_dflt k_mem) (by k_dflt k_mem) (by k_dflt k_mem) (by k_dflt k_updF) (by first | with_reducible assumption | (refine ⟨?_, ?_, ?_⟩ <;> omega)) (by walk_at "mk_room") (by walk_at "mk_fact") (by with_reducible assumption) ?_; walk_at "mk_in") | tb_rel); (try dsimp only)) | walk1) | (walk_at "mk_late"; (try dsimp only))))
      (with_reducible rename Fr _ _ _ _ => FF); (with_reducible rename News _ _ _ (_ :: _) => NN)
      rcases hI q2 (by rw [hq]; simp) with hOK | ⟨hB, hUp⟩
      · refine' hOK (.inr ⟨rfl, rfl, rfl⟩) FF NN X T ?a1 ?a2 ?a3 ?a4 ?a5 ho ?a6 hl hr6 (tl_next10 _ _) ?_
        (case a1 => k_dflt k_mem); (case a2 => k_dflt k_mem); (case a3 => k_dflt k_mem); (case a4 => k_dflt k_mem); (case a5 => k_dflt k_updF)
        case a6 => (try simp only [depth_deeper]); omega
        intro h' tk' v ex c1 c2 c3 c4 F' N' Nx fx hv
        have k0 : ∀ p ∈ ex, p.1 ≠ I := fun p hp e => fx p hp _ (by rw [e]; exact NN.get (.head _))
        have k1 : ∀ p ∈ ex, p.1 ≠ S := fun p hp e => fx p hp _ (by rw [e]; exact NN.get (.tail _ (.head _)))
        have k2 : ∀ p ∈ ex, p.1 ≠ r := fun p hp e => fx p hp _ (by rw [e]; exact NN.get (.tail _ (.tail _ (.head _))))
        have k3 : ∀ p ∈ ex, p.1 ≠ rd := fun p hp e => fx p hp _ (by rw [e]; exact NN.get (.tail _ (.tail _ (.tail _ (.head _)))))
        have k4 : ∀ p ∈ ex, p.1 ≠ c := fun p hp e => fx p hp _ (by rw [e]; exact NN.get (.tail _ (.tail _ (.tail _ (.tail _ (.head _))))))
        have k5 : ∀ p ∈ ex, p.1 ≠ d := fun p hp e => fx p hp _ (by rw [e]; exact NN.get (.tail _ (.tail _ (.tail _ (.tail _ (.tail _ (.head _)))))))
        have both : ∀ {a : Addr}, (∀ p ∈ exs, p.1 ≠ a) → (∀ p ∈ ex, p.1 ≠ a) → ∀ p ∈ exs ++ ex, p.1 ≠ a := fun x y p hp => (List.mem_append.mp hp).elim (x p) (y p)
        have j0 := both i6 k0
        have j1 := both n1 k1
        have j2 := both n2 k2
        have j3 := both n3 k3
        have j4 := both n4 k4
        have j5 := both n5 k5
        have N3 := news_more N' Nx
        dsimp only [List.cons_append, List.nil_append] at N3
        clear N' FF NN n1 n2 n3 n4 n5 k0 k1 k2 k3 k4 k5 i6
        (repeat' ((fail_if_success tb_start); first | ((first | ((with_reducible show wpAny _ _ (call (Value.builtin "list.append") [Value.ref _, _]) _ _ _); k_dflt (refine append_K (by k_asm) (by k_asm) (by k_upd) ?_ (by (rw [List.size_toArray, sizeLine_eq]; omega))); walk_at "mk_in") | tb_rel); (try dsimp only)) | walk_at "mk_tail" | (walk_at "mk_dl"; first | ((first | ((with_reducible show wpAny _ _ (call (Value.builtin "list.append") [Value.ref _, _]) _ _ _); k_dflt (refine append_K (by k_asm) (by k_asm) (by k_upd) ?_ (by (rw [List.size_toArray, sizeLine_eq]; omega))); walk_at "mk_in") | tb_rel); (try dsimp only)) | walk1) | (walk_at "mk_late"; (try dsimp only))))
        (with_reducible rename Fr _ _ _ _ => FF); (with_reducible rename News _ _ _ (_ :: _) => NN)
        rw [List.push_toArray] at NN
        refine FStep.next (own := [(I, o)]) FF NN ?_ ⟨S, done ++ [q2], todo, vs ++ [v], exs ++ ex, k' + 1 + q2.text.length, _, _, _, _, _, l1, by walk_at "mk_look", by walk_at "mk_look", by rw [hq]; simp, by simp, AllIs.snoc hv hall, j1, j2, j3, j4, j5, by rw [← List.drop_drop, hr6, List.drop_left' rfl], rfl⟩
        intro p hp q hq'
        rw [List.mem_singleton.mp hq']
        rcases List.mem_cons.mp hp with rfl | hp
        · exact i1
        · rcases List.mem_cons.mp hp with rfl | hp
          · exact i2
          · rcases List.mem_cons.mp hp with rfl | hp
            · exact i3
            · rcases List.mem_cons.mp hp with rfl | hp
              · exact i4
              · rcases List.mem_cons.mp hp with rfl | hp
                · exact i5
                · exact j0 p hp
      · refine' hUp FF NN X T K2 ?a0 ?a1 ?a2 ?a3 ?a4 ho ?a6 hl hr6 (tl_next10 _ _) ?_
        (case a0 => walk_at "mk_hh"); (case a1 => k_dflt k_mem); (case a2 => k_dflt k_mem); (case a3 => k_dflt k_mem); (case a4 => k_dflt k_mem)
        case a6 => (try simp only [depth_deeper]); omega
        intro e h' tk' R
        exact leave_up KS FF NF R (fun h' R => up hB _ _ _ R)
  · clear FF NN R1 l1
    rintro m₁ nw h2 tk2 ⟨S, done, todo, vs, exs, k', c1, c2, c3, c4, e, l1, q1, q2, hq, hi, hall, n1, n2, n3, n4, n5, hr5, rfl⟩ F2 N2
    obtain rfl : todo = [] := by
      have h2 : qs.length = done.length + todo.length := by rw [hq, List.length_append]
      exact List.eq_nil_of_length_eq_zero (by omega)
    rw [List.append_nil] at hq
    subst hq
    have f5 : l[k']? = some 10 := yes_first hr5 rfl
    have hk' : k' < l.length := (List.getElem?_eq_some_iff.mp f5).1
    walk_at "mk_go"
    refine' end_line_ok (n := 0) (r := r) (rd := rd) (c := c) (d := d) F2 N2 X T ?a1 ?a2 ?a3 ?a4 ?a5 ?a7 ho ?a6 hl f5 ⟨by omega, by omega⟩ ?_
    (case a1 => k_dflt k_mem); (case a2 => k_dflt k_mem); (case a3 => k_dflt k_mem); (case a4 => k_dflt k_mem); (case a5 => k_dflt k_updF); (case a7 => intro x; k_dflt k_updF)
    case a6 => (try simp only [depth_deeper]); omega
    intro h' tk' e1 e2 e3 g1 g2 g3 g4 F' N'
    clear F2 N2
    walk_at "mk_go"
    (with_reducible rename Fr _ _ _ _ => FF); (with_reducible rename News _ _ _ (_ :: _) => NN)
    have nT : ∀ p ∈ (S, listOf vs.toArray e) :: exs, p.1 ∉ [(r, instObj 407 rd), (rd, rdD w.params c 0 b1 b2 b3), (c, instObj 236 d), (d, curD w.params (tx l) (0 : Nat) a1 a2 a3 a4)].map (·.1) := fun p hp => by
      rcases List.mem_cons.mp hp with rfl | hp
      · have k1 := l1.1; have k2 := l1.2.1; have k3 := l1.2.2.1; have k4 := l1.2.2.2
        exact four_ne (by omega) (by omega) (by omega) (by omega)
      · exact four_ne (n2 p hp) (n3 p hp) (n4 p hp) (n5 p hp)
    have N0 : News _ _ _ ((S, listOf vs.toArray e) :: exs) := news_sub NN (fun p hp => by
      rcases List.mem_cons.mp hp with rfl | hp
      · exact .head _
      · exact .tail _ (.tail _ (.tail _ (.tail _ (.tail _ hp)))))
    have fx := fresh_out (h := s.heap) N0 nT
    have ee : Ext [rd, d] s.heap _ := ext_end O FF fun p hp hn => by
      rcases List.mem_cons.mp hp with rfl | hp
      · exact News.get NN (.tail _ (.head _))
      · rcases List.mem_cons.mp hp with rfl | hp
        · exact absurd (List.Mem.head _) hn
        · rcases List.mem_cons.mp hp with rfl | hp
          · exact News.get NN (.tail _ (.tail _ (.tail _ (.head _))))
          · rw [List.mem_singleton.mp hp] at hn; exact absurd (List.Mem.tail _ (List.Mem.head _)) hn
    obtain ⟨F3, N3⟩ := use2 F₀ N₀ U U2 (by have h1 := ho.2.1; have h2 := ho.1; refine neN ?_; omega) (N₀.get hd) ee (News.get NN (.tail _ (.tail _ (.head _)))) (News.get NN (.tail _ (.tail _ (.tail _ (.tail _ (.head _)))))) (N₀.fresh hd) (N₀ _ hd).2.1
    exact ret _ _ _ _ _ _ _ _ _ _ _ _ _ _ F3 N3 hk' (news_out F₀ N0 fx) fx n1 hall
end

noncomputable def P5 : Nat := 2 ^ 500
theorem P5_pos : 1 < P5 := by unfold P5; decide
/-- the parts of a mask, the lowest one first -/
noncomputable def pts (M : Nat) : List Nat := if h : M < P5 then [M] else M % P5 :: pts (M / P5)
termination_by M
decreasing_by exact Nat.div_lt_self (by have := P5_pos; omega) P5_pos
theorem pts_lt {M : Nat} (h : M < P5) : pts M = [M] := by rw [pts, dif_pos h]
theorem pts_ge {M : Nat} (h : ¬ M < P5) : pts M = M % P5 :: pts (M / P5) := by rw [pts, dif_neg h]
theorem sh5 (n : Nat) : ((n : Nat) : Int).fdiv (2 ^ Int.toNat 500) = ((n / P5 : Nat) : Int) := by
  have e : (2 : Int) ^ Int.toNat 500 = ((P5 : Nat) : Int) := by unfold P5; rfl
  rw [e, Int.fdiv_eq_ediv_of_nonneg _ (by omega)]; rfl
theorem an5 (n : Nat) : Builtin.bitAnd ((n : Nat) : Int) (1 * 2 ^ Int.toNat 500 - 1) = ((n % P5 : Nat) : Int) := by
  have e : (1 * 2 ^ Int.toNat 500 - 1 : Int) = ((2 ^ 500 - 1 : Nat) : Int) := rfl
  rw [e]
  have h1 : decide ((0 : Int) ≤ ((n : Nat) : Int)) = true := by simp
  have h2 : decide ((0 : Int) ≤ ((2 ^ 500 - 1 : Nat) : Int)) = true := by simp
  unfold Builtin.bitAnd
  rw [h1, h2]
  show (((n &&& (2 ^ 500 - 1)) : Nat) : Int) = _
  rw [Nat.and_two_pow_sub_one_eq_mod]; rfl
theorem IntsAre.snoc {n : Int} {t : Tok} : ∀ {vs : List Value} {ns : List Int}, IntsAre vs ns → IntsAre (vs ++ [.int n t]) (ns ++ [n]) := by
  intro vs ns h
  induction h with
  | nil => exact .cons _ _ .nil
  | cons a b r ih => exact .cons a b ih
theorem IntsAre.len : ∀ {vs : List Value} {ns : List Int}, IntsAre vs ns → vs.length = ns.length
  | _, _, .nil => rfl
  | _, _, .cons _ _ r => congrArg (· + 1) (IntsAre.len r)
theorem list_at {h₀ h : Heap} {L S : Addr} {news : List (Addr × Obj)} {vs : Array Value} {e : Nat} (N : News h₀ L h news) (hm : (S, listOf vs e) ∈ news) : h.IsList S vs := ⟨_, N.get hm, rfl, e, rfl⟩
/-- a mask as mask_item gives it back -/
noncomputable def IsMask (M : Nat) (v : Value) (ex : List (Addr × Obj)) : Prop :=
  (M < P5 ∧ (∃ t, v = .int (M : Nat) t) ∧ ex = []) ∨ (¬ M < P5 ∧ ∃ T vs, v = .ref T ∧ ex = [(T, tupO vs.toArray)] ∧ IntsAre vs ((pts M).map fun n : Nat => (n : Int)))
section
variable {w : World} {p : Program} {loose : List Str} {mg mb : Str → Option Value} {h₀ : Heap} {A : Around} {s : Shared} {Q E : Value → Shared → Prop} {L : Addr} {m : Str → Option Value} {news : List (Addr × Obj)}
set_option maxHeartbeats 8000000 in
theorem mask_item_ok {M : Nat} {tm : Tok} (hM : (pts M).length ≤ 900)
    (F₀ : Fr h₀ L s.heap m) (N₀ : News h₀ L s.heap news) (X₀ : (Hd.KK w.params).In h₀) (T₀ : TopRead p loose mg mb h₀) (hu : A.units + 100 < cLine) (room : A.depth + 3 < recursionLimit)
    (ret : ∀ h' tk' v ex, Fr h₀ L h' m → News h₀ L h' news → News h₀ L h' ex → (∀ p ∈ ex, ∀ o, s.heap.get? p.1 = some o → False) → IsMask M v ex → Q v { s with heap := h', toks := tk' }) :
    wpAny (model PySem.Challenge.rw_qd0064_01.row.prog w) A (call (.ref 28) [.int M tm]) Q E s := by
  have O : Own h₀ s.heap [] := ⟨F₀.keep, (fun _ h => nomatch h), (fun _ h => nomatch h)⟩
  have G : Good w p loose mg mb h₀ := ⟨X₀, T₀⟩
  have fin : ∀ {L' : Addr} {h' : Heap} {m' : Str → Option Value}, Fr (hideAll s.heap (([] : List (Addr × Obj)).map (·.1))) L' h' m' → Fr h₀ L h' m ∧ News h₀ L h' news := fun F => use0 F₀ N₀ (ext_end (D := []) O F fun p hp _ => nomatch hp)
  refine' enter_ret (binds := [(Str.ofString "mask", .int M tm)]) G O ?h1 ?h2 (by walk_at "mk_room") ?h3 ?h4 ?h ?c1 ?c2 ?c3 ?c4
  walk_at "mk_enter"
  intro L h₁ hL F N X T
  k_fold
  walk_at "mk_go"
  (with_reducible rename Fr _ _ _ _ => FF); (with_reducible rename News _ _ _ (_ :: _) => NN)
  refine while_mk (fun n m₁ nw => ∃ (S : Addr) (vs : List Value) (ns : List Nat) (e : Nat) (t : Tok), m₁ (Str.ofString "mask") = some (.int M tm) ∧ m₁ (Str.ofString "parts") = some (.ref S) ∧ m₁ (Str.ofString "left") = some (.int (n : Nat) t) ∧ IntsAre vs (ns.map fun n : Nat => (n : Int)) ∧ pts M = ns ++ pts n ∧ (ns = [] → n = M) ∧ (ns ≠ [] → ¬ M < P5) ∧ nw = [(S, listOf vs.toArray e)]) (n₀ := M) FF NN
    ⟨_, [], [], _, _, by walk_at "mk_look", by walk_at "mk_look", by walk_at "mk_look", .nil, rfl, (fun _ => rfl), (fun h => absurd rfl h), rfl⟩ ?_
  rintro n m₁ nw h2 tk2 F2 N2 ⟨S, vs, ns, e, t, q1, q2, q3, hi, hp, hz, hnz, rfl⟩
  clear FF NN
  have hvl : vs.length ≤ 900 := by
    have h1 := IntsAre.len hi
    rw [List.length_map] at h1
    have h2 : (pts M).length = ns.length + (pts n).length := by rw [hp, List.length_append]
    omega
  (repeat' ((fail_if_success tb_start); first | ((first | ((with_reducible show wpAny _ _ (call (Value.builtin "list.append") [Value.ref _, _]) _ _ _); k_dflt (refine append_K (by k_asm) (by k_asm) (by k_upd) ?_ (by (rw [List.size_toArray, sizeLine_eq]; omega))); walk_at "mk_in") | tb_rel); (try dsimp only)) | walk_at "mk_tail" | (walk_at "mk_dl"; first | ((first | ((with_reducible show wpAny _ _ (call (Value.builtin "list.append") [Value.ref _, _]) _ _ _); k_dflt (refine append_K (by k_asm) (by k_asm) (by k_upd) ?_ (by (rw [List.size_toArray, sizeLine_eq]; omega))); walk_at "mk_in") | tb_rel); (try dsimp only)) | walk1) | (walk_at "mk_late"; (try dsimp only))))
  · (with_reducible rename Fr _ _ _ _ => FF); (with_reducible rename News _ _ _ (_ :: _) => NN)
    (with_reducible rename (0 : Int) < _ => hc)
    rw [sh5] at hc FF
    rw [an5, List.push_toArray] at NN
    have hge : ¬ n < P5 := fun h => by rw [Nat.div_eq_of_lt h] at hc; exact absurd hc (by decide)
    exact WStep.next FF NN (show n / P5 < n from Nat.div_lt_self (by have := P5_pos; omega) P5_pos) ⟨S, _, ns ++ [n % P5], _, _, by walk_at "mk_look", by walk_at "mk_look", by walk_at "mk_look", by rw [List.map_append]; exact IntsAre.snoc hi, by rw [hp, pts_ge hge]; simp, (fun h => by simp at h), (fun _ => by
      by_cases h : ns = []
      · rw [← hz h]; exact hge
      · exact hnz h), rfl⟩
  · (with_reducible rename Fr _ _ _ _ => FF)
    (with_reducible rename ¬ ((0 : Int) < _) => hc)
    (with_reducible rename decide _ = true => hd)
    have hns : ns = [] := by simpa using hd
    have hlt : M < P5 := by
      rw [sh5, hz hns] at hc
      by_cases h : M < P5
      · exact h
      · exact absurd (by have := Nat.div_pos (Nat.le_of_not_lt h) (Nat.lt_trans Nat.zero_lt_one P5_pos); omega) hc
    obtain ⟨F', N'⟩ := fin FF
    exact ret _ _ _ [] F' N' (fun _ h => nomatch h) (fun _ h => nomatch h) (.inl ⟨hlt, ⟨_, rfl⟩, rfl⟩)
  · (with_reducible rename Fr _ _ _ _ => FF); (with_reducible rename News _ _ _ (_ :: _) => NN)
    (with_reducible rename ¬ ((0 : Int) < _) => hc)
    (with_reducible rename decide _ = false => hd)
    have hns : ns ≠ [] := by simpa using hd
    have hlt : n < P5 := by
      rw [sh5] at hc
      by_cases h : n < P5
      · exact h
      · exact absurd (by have := Nat.div_pos (Nat.le_of_not_lt h) (Nat.lt_trans Nat.zero_lt_one P5_pos); omega) hc
    obtain ⟨F', N'⟩ := fin FF
    have N0 : News _ _ _ [(_, tupO (vs ++ [Value.int (n : Nat) t]).toArray)] := news_sub NN (fun p hp => by rw [List.mem_singleton.mp hp]; exact .head _)
    have fx := fresh_out (h := s.heap) (fp := []) N0 (fun p hp q => nomatch q)
    refine ret _ _ _ _ F' N' (news_out F₀ N0 fx) fx (.inr ⟨hnz hns, _, _, rfl, rfl, ?_⟩)
    rw [hp, pts_lt hlt, List.map_append]
    exact IntsAre.snoc hi
end

section
variable {w : World} {p : Program} {loose : List Str} {mg mb : Str → Option Value} {h₀ : Heap} {A : Around} {s : Shared} {Q E : Value → Shared → Prop} {L : Addr} {m : Str → Option Value} {news : List (Addr × Obj)} {l : List Nat}
set_option maxHeartbeats 4000000 in
theorem make_cursor {t1 : Tok}
    (F₀ : Fr h₀ L s.heap m) (N₀ : News h₀ L s.heap news) (X₀ : (Hd.KK w.params).In h₀) (T₀ : TopRead p loose mg mb h₀) (room : A.depth + 2 < recursionLimit)
    (ret : ∀ c d h' tk' a1 a2 a3 a4, Fr h₀ L h' m → News h₀ L h' ((c, instObj 236 d) :: (d, curD w.params (tx l) (0 : Nat) a1 a2 a3 a4) :: news) → (∀ p ∈ news, p.1 < d) → d < c → Q (.ref c) { s with heap := h', toks := tk' }) :
    wpAny (model PySem.Challenge.rw_qd0064_01.row.prog w) A (call (.ref 236) [.str (tx l) t1]) Q E s := by
  refine' call_cls F₀ X₀ N₀ ?k4 ?k5 ?k6 ?_
  case k4 => k_dflt k_is
  case k5 => k_dflt k_is
  case k6 => k_dflt k_is
  intro x dx h1 F1 N1 l1 l2
  have O := own_cur (x := (x, instObj 236 dx)) (y := (dx, dictOf [] 0)) F1 N1 (.head _) (.tail _ (.head _))
  have G : Good w p loose mg mb h₀ := ⟨X₀, T₀⟩
  have l2' := ltN l2
  refine' enter_cret (s := { s with heap := h1 }) (binds := [(Str.ofString "self", .ref x), (Str.ofString "text", .str (tx l) t1), (Str.ofString "at", .int 0 371)]) G O ?h1 ?h2 ?room ?h3 ?h4 ?h ?c1 ?c2 ?c3 ?c4
  case room => walk_at "mk_room"
  walk_at "mk_enter"
  intro L h₁ hL F N X T
  k_fold
  walk_at "mk_go"
  refine ⟨rfl, ?_⟩
  (with_reducible rename Fr _ _ _ _ => FF); (with_reducible rename News _ _ _ (_ :: _) => NN)
  obtain ⟨F', N'⟩ := useN (fp := [(x, instObj 236 dx), (dx, dictOf [] 0)]) (fp' := [(x, instObj 236 dx), (dx, curD w.params (tx l) (0 : Nat) _ _ _ _)]) F1 N1 (ext_of FF) (fun p hp q => by
    have h1 : @LT.lt Nat _ p.1 dx := l1 p hp
    rcases List.mem_cons.mp q with q | q
    · exact Nat.ne_of_lt (Nat.lt_trans h1 l2') q
    · exact Nat.ne_of_lt h1 (List.mem_singleton.mp q)) (fun p hp => by
    rcases List.mem_cons.mp hp with rfl | hp
    · exact ⟨.head _, NN.get (.head _)⟩
    · rw [List.mem_singleton.mp hp]; exact ⟨.tail _ (.head _), NN.get (.tail _ (.head _))⟩)
  exact ret _ _ _ _ _ _ _ _ F' N' l1 l2
end

theorem news_four {h₀ h : Heap} {L : Addr} {x y z u : Addr × Obj} {news : List (Addr × Obj)} (N' : News h₀ L h (x :: y :: news)) (N5 : News h₀ L h [z, u]) : News h₀ L h (x :: y :: z :: u :: news) := fun p hp => by
  rcases List.mem_cons.mp hp with rfl | hp
  · exact N' _ (.head _)
  · rcases List.mem_cons.mp hp with rfl | hp
    · exact N' _ (.tail _ (.head _))
    · rcases List.mem_cons.mp hp with rfl | hp
      · exact N5 _ (.head _)
      · rcases List.mem_cons.mp hp with rfl | hp
        · exact N5 _ (.tail _ (.head _))
        · exact N' _ (.tail _ (.tail _ hp))
local macro_rules | `(tactic| tb_rel) => `(tactic| (
  (with_reducible show wpAny _ _ (call (Value.ref 236) [Value.str (tx _) _]) _ _ _);
  refine' make_cursor ?F ?N ?X ?T ?room ?_; (case F => k_asm); (case N => k_asm); (case X => k_asm); (case T => k_asm); (case room => walk_at "mk_room"); intro c d h' tk' a1' a2' a3' a4' F' N' l1 l2; replace l1 := allLt_of l1; simp only [AllLt, and_true] at l1; replace l2 := ltN l2; (try k_sweep)))
section
variable {w : World} {p : Program} {loose : List Str} {mg mb : Str → Option Value} {h₀ : Heap} {A : Around} {s : Shared} {Q E : Value → Shared → Prop} {L : Addr} {m : Str → Option Value} {news : List (Addr × Obj)} {l : List Nat}
set_option maxHeartbeats 4000000 in
theorem make_reader {t1 : Tok}
    (F₀ : Fr h₀ L s.heap m) (N₀ : News h₀ L s.heap news) (X₀ : (Hd.KK w.params).In h₀) (T₀ : TopRead p loose mg mb h₀) (room : A.depth + 5 < recursionLimit)
    (ret : ∀ r rd c d h' tk' a1 a2 a3 a4 b1 b2 b3, Fr h₀ L h' m → News h₀ L h' ((r, instObj 407 rd) :: (rd, rdD w.params c 0 b1 b2 b3) :: (c, instObj 236 d) :: (d, curD w.params (tx l) (0 : Nat) a1 a2 a3 a4) :: news) → (∀ p ∈ news, p.1 < rd) → (@LT.lt Nat _ rd r ∧ @LT.lt Nat _ r d ∧ @LT.lt Nat _ d c) → Q (.ref r) { s with heap := h', toks := tk' }) :
    wpAny (model PySem.Challenge.rw_qd0064_01.row.prog w) A (call (.ref 407) [.str (tx l) t1]) Q E s := by
  refine' call_cls F₀ X₀ N₀ ?k4 ?k5 ?k6 ?_
  case k4 => k_dflt k_is
  case k5 => k_dflt k_is
  case k6 => k_dflt k_is
  intro x dx h1 F1 N1 l1 l2
  have O := own_cur (x := (x, instObj 407 dx)) (y := (dx, dictOf [] 0)) F1 N1 (.head _) (.tail _ (.head _))
  have G : Good w p loose mg mb h₀ := ⟨X₀, T₀⟩
  have l2' := ltN l2
  refine' enter_cret (s := { s with heap := h1 }) (binds := [(Str.ofString "self", .ref x), (Str.ofString "text", .str (tx l) t1)]) G O ?h1 ?h2 ?room ?h3 ?h4 ?h ?c1 ?c2 ?c3 ?c4
  case room => walk_at "mk_room"
  walk_at "mk_enter"
  intro L h₁ hL F N X T
  k_fold
  walk_at "mk_go"
  (with_reducible rename Fr _ _ _ _ => FF); (with_reducible rename News _ _ _ (_ :: _) => NN)
  (with_reducible rename _ ∧ _ => k1); (with_reducible rename _ < _ => k2)
  refine ⟨rfl, ?_⟩
  have N0 : News _ _ _ [(_, instObj 236 _), (_, curD w.params (tx l) (0 : Nat) _ _ _ _)] := news_sub NN (fun p hp => by
    rcases List.mem_cons.mp hp with rfl | hp
    · exact .head _
    · rw [List.mem_singleton.mp hp]; exact .tail _ (.head _))
  have fx := fresh_out (h := h1) (fp := [(x, instObj 407 dx), (dx, dictOf [] 0)]) N0 (fun p hp q => by
    have hq : p.1 = x ∨ p.1 = dx := by simpa using q
    rcases List.mem_cons.mp hp with rfl | hp
    · rcases hq with hq | hq
      · exact Nat.ne_of_gt (Nat.lt_trans k1.1 k2) hq
      · exact Nat.ne_of_gt (Nat.lt_trans k1.2 k2) hq
    · rw [List.mem_singleton.mp hp] at hq
      rcases hq with hq | hq
      · exact Nat.ne_of_gt k1.1 hq
      · exact Nat.ne_of_gt k1.2 hq)
  have N5 := news_out F1 N0 fx
  obtain ⟨F', N'⟩ := useN (fp := [(x, instObj 407 dx), (dx, dictOf [] 0)]) (fp' := [(x, instObj 407 dx), (dx, rdD w.params _ 0 _ _ _)]) F1 N1 (ext_of FF) (fun p hp q => by
    have h1 : @LT.lt Nat _ p.1 dx := l1 p hp
    rcases List.mem_cons.mp q with q | q
    · exact Nat.ne_of_lt (Nat.lt_trans h1 l2') q
    · exact Nat.ne_of_lt h1 (List.mem_singleton.mp q)) (fun p hp => by
    rcases List.mem_cons.mp hp with rfl | hp
    · exact ⟨.head _, NN.get (.tail _ (.tail _ (.head _)))⟩
    · rw [List.mem_singleton.mp hp]; exact ⟨.tail _ (.head _), NN.get (.tail _ (.tail _ (.tail _ (.head _))))⟩)
  exact ret _ _ _ _ _ _ _ _ _ _ _ _ _ F' (news_four N' N5) l1 ⟨l2', k1.1, k2⟩
end

theorem tx_back (x : Str) : tx x.cps.toList = x := by
  obtain ⟨a⟩ := x
  simp [tx]
theorem str_nat {prog : Program} {w : World} {A : Around} {E : Value → Shared → Prop} {s : Shared} {M : Nat} {t : Tok} {Q : Value → Shared → Prop} (hM : (dg M).length ≤ 160) (h : Q (.str (tx (dg M)) s.toks) { s with toks := s.toks + 1 }) :
    wpAny (model prog w) A (call (.type "str") [.int M t]) Q E s := by
  have h1 : M < 10 ^ 160 := (dg_len (by decide)).mp hM
  refine P.str_of_int (a := (M : Int)) ?_ ?_
  · show M.log2 < 1920
    by_cases h0 : M = 0
    · subst h0; decide
    · exact (Nat.log2_lt h0).mpr (Nat.lt_trans h1 (by decide +kernel))
  · have e : (Str.ofString (toString ((M : Nat) : Int))) = tx (dg M) := by
      rw [← tx_back (Str.ofString (toString ((M : Nat) : Int))), KIN.signs_num]; rfl
    show Q (.str (Str.ofString (toString ((M : Nat) : Int))) s.toks) _
    rw [e]; exact h
section
variable {w : World} {p : Program} {loose : List Str} {mg mb : Str → Option Value} {h₀ : Heap} {A : Around} {s : Shared} {Q E : Value → Shared → Prop} {L : Addr} {m : Str → Option Value} {news : List (Addr × Obj)}
set_option maxHeartbeats 8000000 in
theorem show_int {M : Nat} {tm : Tok} (hM : (dg M).length ≤ 160)
    (F₀ : Fr h₀ L s.heap m) (N₀ : News h₀ L s.heap news) (X₀ : (Hd.KK w.params).In h₀) (T₀ : TopRead p loose mg mb h₀) (hu : A.units + 100 < cLine) (hh : A.handled = none) (room : A.depth + 3 < recursionLimit)
    (ret : ∀ h' tk' t', Fr h₀ L h' m → News h₀ L h' news → Q (.str (tx (dg M)) t') { s with heap := h', toks := tk' }) :
    wpAny (model PySem.Challenge.rw_qd0064_01.row.prog w) A (call (.ref 264) [.int M tm]) Q E s := by
  have O : Own h₀ s.heap [] := ⟨F₀.keep, (fun _ h => nomatch h), (fun _ h => nomatch h)⟩
  have G : Good w p loose mg mb h₀ := ⟨X₀, T₀⟩
  have fin : ∀ {L' : Addr} {h' : Heap} {m' : Str → Option Value}, Fr (hideAll s.heap (([] : List (Addr × Obj)).map (·.1))) L' h' m' → Fr h₀ L h' m ∧ News h₀ L h' news := fun F => use0 F₀ N₀ (ext_end (D := []) O F fun p hp _ => nomatch hp)
  refine' enter_ret (binds := [(Str.ofString "value", .int M tm)]) G O ?h1 ?h2 (by walk_at "mk_room") ?h3 ?h4 ?h ?c1 ?c2 ?c3 ?c4
  walk_at "mk_enter"
  intro L h₁ hL F N X T
  k_fold
  walk_at "mk_go"
  refine str_nat hM ?_
  (with_reducible rename Fr _ _ _ _ => FF)
  obtain ⟨F', N'⟩ := fin FF
  exact ret _ _ _ F' N'
end

/-- what a comprehension has made, element by element -/
inductive Ran (R : Nat → Value → List (Addr × Obj) → Prop) : Nat → List Value → List (Addr × Obj) → Prop
  | nil : Ran R 0 [] []
  | snoc {n : Nat} {vs : List Value} {exs : List (Addr × Obj)} {v : Value} {ex : List (Addr × Obj)} : Ran R n vs exs → R n v ex → Ran R (n + 1) (vs ++ [v]) (exs ++ ex)
theorem Ran.len {R : Nat → Value → List (Addr × Obj) → Prop} : ∀ {n : Nat} {vs : List Value} {exs : List (Addr × Obj)}, Ran R n vs exs → vs.length = n := by
  intro n vs exs h
  induction h with
  | nil => rfl
  | snoc a _ ih => rw [List.length_append, ih]; rfl
/-- how an element ends that changes nothing -/
inductive MStep (R : Value → List (Addr × Obj) → Prop) (g : Heap) (C : Addr) (whole : List (Addr × Obj)) (s₁ : Shared) : Value → Shared → Prop
  | intro {v : Value} {h' : Heap} {tk : Nat} {mC : Str → Option Value} {ex : List (Addr × Obj)} (F : Fr g C h' mC) (N : News g C h' whole) (N2 : News g C h' ex) (f : ∀ p ∈ ex, ∀ o, s₁.heap.get? p.1 = some o → False) (r : R v ex) :
      MStep R g C whole s₁ v { s₁ with heap := h', toks := tk }
theorem MStep.plain {R : Value → List (Addr × Obj) → Prop} {g : Heap} {C : Addr} {whole : List (Addr × Obj)} {s₁ : Shared} {v : Value} {h' : Heap} {tk : Nat} {mC : Str → Option Value}
    (F : Fr g C h' mC) (N : News g C h' whole) (r : R v []) : MStep R g C whole s₁ v { s₁ with heap := h', toks := tk } := .intro F N (fun p h => (by cases h)) (fun p h => (by cases h)) r
section
variable {prog : Program} {w : World} {A : Around} {E : Value → Shared → Prop} {s : Shared} {env : Env} {h₀ : Heap} {L : Addr} {m : Str → Option Value} {news : List (Addr × Obj)} {elt iter : Expr} {x : Str} {px : Pos} {scope : Scope} {pos : Pos} {cl : List (Str × Addr)}
/-- an element of a comprehension that changes nothing: how it looks to the rule behind -/
theorem map_turn {R : Nat → Value → List (Addr × Obj) → Prop} {g : Heap} {C D I l : Addr} {o lo : Obj} {ys : List Value} {k i : Nat} {news₁ exs : List (Addr × Obj)} {h : Heap} {tk : Nat} {env' : Env}
    (hJ : Ran R i ys exs ∧ news₁ = news ++ exs) (ho : ∀ p ∈ news₁, p.1 ≠ D ∧ p.1 ≠ I ∧ p.1 ≠ l) (N : News g C h ((D, listOf ys.toArray k) :: (I, o) :: (l, lo) :: news₁))
    (t : wpAny (model prog w) A (eval elt env') (MStep (R i) g C ((D, listOf ys.toArray k) :: (I, o) :: (l, lo) :: news₁) { s with heap := h, toks := tk }) (fun _ _ => False) { s with heap := h, toks := tk }) :
    wpAny (model prog w) A (eval elt env') (CStep g C D [(I, o), (l, lo)] ys k (fun ys' nw => ∃ exs, Ran R (i + 1) ys' exs ∧ nw = news ++ exs) { s with heap := h, toks := tk }) (fun _ _ => False) { s with heap := h, toks := tk } := by
  refine wpAny_mono t (fun v s₂ q => ?_) fun _ _ f => f
  cases q with | @intro h' tk' mC ex F' N' N2 f r =>
  obtain ⟨hJ, rfl⟩ := hJ
  have hD := N.get (.head _)
  have hI := N.get (.tail _ (.head _))
  have hl := N.get (.tail _ (.tail _ (.head _)))
  refine CStep.intro (news₂ := news ++ exs ++ ex) F' (fun p hp => ?_) (fun p hp => ?_) ⟨exs ++ ex, .snoc hJ r, by rw [List.append_assoc]⟩
  · rcases List.mem_cons.mp hp with rfl | hp
    · exact N' _ (.head _)
    · rcases List.mem_cons.mp hp with rfl | hp
      · exact N' _ (.tail _ (.head _))
      · rcases List.mem_cons.mp hp with rfl | hp
        · exact N' _ (.tail _ (.tail _ (.head _)))
        · rcases List.mem_append.mp (show p ∈ (news ++ exs) ++ ex from hp) with hp | hp
          · exact N' _ (.tail _ (.tail _ (.tail _ hp)))
          · exact N2 p hp
  · rcases List.mem_append.mp hp with hp | hp
    · obtain ⟨a, b, c⟩ := ho p hp
      exact ⟨a, fun q hq => by
        rcases List.mem_cons.mp hq with rfl | hq
        · exact b
        · rw [List.mem_singleton.mp hq]; exact c⟩
    · refine ⟨fun e => f p hp _ (by rw [e]; exact hD), fun q hq e => ?_⟩
      rcases List.mem_cons.mp hq with rfl | hq
      · exact f p hp _ (by rw [e]; exact hI)
      · rw [List.mem_singleton.mp hq] at e
        exact f p hp _ (by rw [e]; exact hl)
theorem comp_map_list {use : Option (Value → Sem Unit)} {Q : Value → Shared → Prop} {l : Addr} {lo : Obj} {vs : List Value} (R : Nat → Value → List (Addr × Obj) → Prop)
    (hh : A.handled = none) (hl : s.heap.IsList l vs.toArray) (hsz : vs.length ≤ sizeLine)
    (F : Fr h₀ L s.heap m) (N : News h₀ L s.heap ((l, lo) :: news)) (hnl : ∀ p ∈ news, p.1 ≠ l)
    (hcell : ∀ y ∈ scope.names, y.2 ≠ .cell) (hkind : scope.kind = .function) (hx : scope.names.lookup x = some .local)
    (turn : ∀ i v h tk C (mC : Str → Option Value) g whole, vs[i]? = some v → (∀ b o, h₀.get? b = some o → g.get? b = some o) → (∀ p ∈ (l, lo) :: news, p ∈ whole) → Fr g C h (fun y => if y = x then some v else mC y) → News g C h whole →
      wpAny (model prog w) A (eval elt (compEnvC scope cl C env)) (MStep (R i) g C whole { s with heap := h, toks := tk }) (fun _ _ => False) { s with heap := h, toks := tk })
    (done : ∀ h' tk mC ys k exs D C, Ran R vs.length ys exs → h'.Ns C mC → Fr h₀ L h' m → News h₀ L h' ((D, listOf ys.toArray k) :: (l, lo) :: (news ++ exs)) → (∀ p ∈ exs, p.1 ≠ D ∧ p.1 ≠ l) → (∀ p ∈ news, p.1 ≠ D) → l ≠ D →
      h₀.get? C = none → C ≠ L → (∀ p ∈ (D, listOf ys.toArray k) :: (l, lo) :: (news ++ exs), p.1 ≠ C) → compPost (model prog w) A E use Q (.ref D) C (.ok .next) { s with heap := h', toks := tk }) :
    wpAny (model prog w) A (pyIter (.ref l)) (fun it s₂ => CompK prog w A env E elt iter x px scope pos cl use Q it s₂) E s := by
  refine comp_list (fun i ys nw => ∃ exs, Ran R i ys exs ∧ nw = news ++ exs) hh hl hsz F N hnl ⟨[], .nil, by simp⟩ hcell hkind hx ?_ ?_
  · rintro i v ys k news₁ h tk I o C D mC g hv hlen ⟨exs, hJ⟩ ho _ _ _ hk F₁ N₁
    refine map_turn hJ ho N₁ (turn i v h tk C mC g _ hv hk (fun p hp => ?_) F₁ N₁)
    rcases List.mem_cons.mp hp with rfl | hp
    · exact .tail _ (.tail _ (.head _))
    · rw [hJ.2]; exact .tail _ (.tail _ (.tail _ (List.mem_append_left _ hp)))
  · rintro h' tk mC ys k news₁ D C ⟨exs, hJ, rfl⟩ hlen hn F₁ N₁ hd hf hC0 hCL hC
    exact done h' tk mC ys k exs D C hJ hn F₁ N₁ (fun p hp => hd p (List.mem_append_right _ hp)) (fun p hp => (hd p (List.mem_append_left _ hp)).1) hf hC0 hCL hC
theorem comp_map_tuple {use : Option (Value → Sem Unit)} {Q : Value → Shared → Prop} {l : Addr} {lo : Obj} {vs : List Value} (R : Nat → Value → List (Addr × Obj) → Prop)
    (hh : A.handled = none) (hl : s.heap.IsTuple l vs.toArray) (hsz : vs.length ≤ sizeLine)
    (F : Fr h₀ L s.heap m) (N : News h₀ L s.heap ((l, lo) :: news)) (hnl : ∀ p ∈ news, p.1 ≠ l)
    (hcell : ∀ y ∈ scope.names, y.2 ≠ .cell) (hkind : scope.kind = .function) (hx : scope.names.lookup x = some .local)
    (turn : ∀ i v h tk C (mC : Str → Option Value) g whole, vs[i]? = some v → (∀ b o, h₀.get? b = some o → g.get? b = some o) → (∀ p ∈ (l, lo) :: news, p ∈ whole) → Fr g C h (fun y => if y = x then some v else mC y) → News g C h whole →
      wpAny (model prog w) A (eval elt (compEnvC scope cl C env)) (MStep (R i) g C whole { s with heap := h, toks := tk }) (fun _ _ => False) { s with heap := h, toks := tk })
    (done : ∀ h' tk mC ys k exs D C, Ran R vs.length ys exs → h'.Ns C mC → Fr h₀ L h' m → News h₀ L h' ((D, listOf ys.toArray k) :: (l, lo) :: (news ++ exs)) → (∀ p ∈ exs, p.1 ≠ D ∧ p.1 ≠ l) → (∀ p ∈ news, p.1 ≠ D) → l ≠ D →
      h₀.get? C = none → C ≠ L → (∀ p ∈ (D, listOf ys.toArray k) :: (l, lo) :: (news ++ exs), p.1 ≠ C) → compPost (model prog w) A E use Q (.ref D) C (.ok .next) { s with heap := h', toks := tk }) :
    wpAny (model prog w) A (pyIter (.ref l)) (fun it s₂ => CompK prog w A env E elt iter x px scope pos cl use Q it s₂) E s := by
  refine comp_tuple (fun i ys nw => ∃ exs, Ran R i ys exs ∧ nw = news ++ exs) hh hl hsz F N hnl ⟨[], .nil, by simp⟩ hcell hkind hx ?_ ?_
  · rintro i v ys k news₁ h tk I o C D mC g hv hlen ⟨exs, hJ⟩ ho _ _ _ hk F₁ N₁
    refine map_turn hJ ho N₁ (turn i v h tk C mC g _ hv hk (fun p hp => ?_) F₁ N₁)
    rcases List.mem_cons.mp hp with rfl | hp
    · exact .tail _ (.tail _ (.head _))
    · rw [hJ.2]; exact .tail _ (.tail _ (.tail _ (List.mem_append_left _ hp)))
  · rintro h' tk mC ys k news₁ D C ⟨exs, hJ, rfl⟩ hlen hn F₁ N₁ hd hf hC0 hCL hC
    exact done h' tk mC ys k exs D C hJ hn F₁ N₁ (fun p hp => hd p (List.mem_append_right _ hp)) (fun p hp => (hd p (List.mem_append_left _ hp)).1) hf hC0 hCL hC
end
/-- the elements are texts -/
noncomputable def TxR (ts : List (List Nat)) (i : Nat) (v : Value) (ex : List (Addr × Obj)) : Prop := ∃ l t, ts[i]? = some l ∧ v = .str (tx l) t ∧ ex = []
theorem StrsAre.snoc {x : Str} {t : Tok} : ∀ {vs : List Value} {xs : List Str}, StrsAre vs xs → StrsAre (vs ++ [.str x t]) (xs ++ [x]) := by
  intro vs xs h
  induction h with
  | nil => exact .cons _ _ .nil
  | cons a b r ih => exact .cons a b ih
theorem Ran.strs {ts : List (List Nat)} : ∀ {n : Nat} {vs : List Value} {exs : List (Addr × Obj)}, Ran (TxR ts) n vs exs → n ≤ ts.length → exs = [] ∧ StrsAre vs ((ts.take n).map tx) := by
  intro n vs exs hr h
  induction hr with
  | nil => exact ⟨rfl, .nil⟩
  | snoc a b ih =>
    obtain ⟨e, i⟩ := ih (Nat.le_of_succ_le h)
    obtain ⟨l, t, h1, h2, h3⟩ := b
    subst e h2 h3
    refine ⟨rfl, ?_⟩
    rw [List.take_add_one, h1, Option.toList_some, List.map_append]
    exact StrsAre.snoc i
theorem Ran.allStrs {ts : List (List Nat)} {vs : List Value} {exs : List (Addr × Obj)} (h : Ran (TxR ts) ts.length vs exs) : exs = [] ∧ StrsAre vs (ts.map tx) := by
  obtain ⟨a, b⟩ := h.strs (Nat.le_refl _)
  rw [List.take_length] at b
  exact ⟨a, b⟩

local macro_rules | `(tactic| tb_start) => `(tactic| (with_reducible show wpAny _ _ (eval (Expr.ListComp _ _ _ _) _) _ _ _))
local macro_rules | `(tactic| tb_start) => `(tactic| (with_reducible show wpAny _ _ (exec (Stmt.Assign _ (Expr.ListComp _ _ _ _) _) _) _ _ _))
local macro_rules | `(tactic| tb_rel) => `(tactic| ((with_reducible show wpAny _ _ (call (Value.ref _) ([] ++ _)) _ _ _); dsimp only [List.nil_append]))
theorem units_deep {A : Around} {env : Env} {k : Nat} (h : A.units + (k + 3) < cLine) : (A.deeper env).units + k < cLine := by rw [units_deeper]; omega
local macro_rules | `(tactic| walk_at "mk_units") => `(tactic| first | with_reducible assumption | exact room_le (by with_reducible assumption) (by decide) | (with_reducible refine units_deep ?_; walk_at "mk_units") | ((try simp only [units_in1, units_deeper, Around.mark_units, units_caller]); omega))
theorem IntsAre.nat_at : ∀ {vs : List Value} {ns : List Nat} {i : Nat} {v : Value}, IntsAre vs (ns.map fun n : Nat => (n : Int)) → vs[i]? = some v → ∃ n t, ns[i]? = some n ∧ v = .int (n : Int) t
  | [], ns, i, v, _, h => by simp at h
  | x :: vs, [], i, v, a, h => by cases a
  | x :: vs, n :: ns, 0, v, a, h => by
    cases a with
    | cons a t b => simp at h; subst h; exact ⟨n, t, rfl, rfl⟩
  | x :: vs, n :: ns, i + 1, v, a, h => by
    cases a with
    | cons a t b =>
      obtain ⟨n', t', h1, h2⟩ := IntsAre.nat_at (i := i) (ns := ns) (vs := vs) b (by simpa using h)
      exact ⟨n', t', by simpa using h1, h2⟩
section
variable {M : Model} {A : Around} {E : Value → Shared → Prop} {s : Shared} {h₀ : Heap} {L c : Addr} {m mg mb : Str → Option Value} {news : List (Addr × Obj)} {K : Frag} {p : Program} {loose : List Str} {env : Env} {x : Str} {pos : Pos} {v : Value} {Q : Value → Shared → Prop} {o : Obj}
theorem cname_L (F : Fr h₀ env.locals s.heap m) (hv : m x = some v) (h : Q v s) (hk : env.scope.kind = .function) (hx : env.kindOf x = some .local) (hd : (x == ("__debug__" : Str)) = false := by decide) : wpAny M A (eval (.Name x pos) env) Q E s :=
  wpAny_Name (wpAny_loadName_local hk hx F.ns hv h) hd
theorem cname_K (F : Fr h₀ L s.heap m) (X : K.In h₀) (T : TopRead p loose mg mb h₀) (e : nsIn K mainGlobals x = some (some v)) (h : Q v s) (hk : env.scope.kind = .function) (hx : env.kindOf x = some .globalImplicit) (hg : env.globals = mainGlobals) (hd : (x == ("__debug__" : Str)) = false := by decide) :
    wpAny M A (eval (.Name x pos) env) Q E s := Name_function_global hk hx (loadGlobal_global (by rw [hg]; exact T.g.keeps F.keep) (mg_of X T.g e) h) hd
theorem cname_B (F : Fr h₀ L s.heap m) (X : K.In h₀) (T : TopRead p loose mg mb h₀) (e : nsIn K mainGlobals x = some none) (hv : bootBuiltins x = some v) (hn : x ≠ "__name__") (h : Q v s) (hk : env.scope.kind = .function) (hx : env.kindOf x = some .globalImplicit) (hg : env.globals = mainGlobals) (hb : env.builtins = builtinsNs) (hd : (x == ("__debug__" : Str)) = false := by decide) :
    wpAny M A (eval (.Name x pos) env) Q E s := Name_function_global hk hx (loadGlobal_builtin (by rw [hg]; exact T.g.keeps F.keep) (mg_none_of X T.g e) (by rw [hb]; exact T.b.keeps F.keep) ((T.builtins x hn).trans hv) h) hd
theorem cname_C (N : News h₀ L s.heap news) (hm : (c, o) ∈ news) (hd : o.data = .cell (some v)) (h : Q v s) (hk : env.scope.kind = .function) (hx : env.kindOf x = some .cell) (hc : env.cells.lookup x = some c) (hb : (x == ("__debug__" : Str)) = false := by decide) :
    wpAny M A (eval (.Name x pos) env) Q E s := wpAny_Name (wpAny_loadName_cell hk hx hc ⟨o, N.get hm, hd⟩ h) hb
end
local macro_rules | `(tactic| tb_rel) => `(tactic| ((with_reducible show wpAny _ _ (eval (Expr.Name _ _) (compEnvC _ _ _ _)) _ _ _); k_dflt (first
  | (refine' cname_L ?F ?v ?_ ?hk ?hx; (case hk => rfl); (case hx => rfl); (case F => assumption); (case v => walk_at "mk_look"))
  | (refine' cname_K ?F ?X ?T ?e ?_ ?hk ?hx ?hg; (case hk => rfl); (case hx => rfl); (case hg => rfl); (case F => k_asm); (case X => k_asm); (case T => k_asm); (case e => k_is))
  | (refine' cname_B ?F ?X ?T ?e ?v ?n ?_ ?hk ?hx ?hg ?hb; (case hk => rfl); (case hx => rfl); (case hg => rfl); (case hb => rfl); (case F => k_asm); (case X => k_asm); (case T => k_asm); (case e => k_is); (case v => boot_by_name); (case n => decide))
  | (refine' cname_C ?N ?m ?d ?_ ?hk ?hx ?hc; (case hk => rfl); (case hx => rfl); (case hc => rfl); (case N => k_asm); (case m => k_mem); (case d => rfl)))))
theorem sum_len {B : Nat} : ∀ {ts : List (List Nat)}, (∀ t ∈ ts, t.length ≤ B) → (ts.map (·.length)).sum ≤ ts.length * B
  | [], _ => by simp
  | t :: ts, h => by
    have h1 := h t (.head _)
    have h2 := sum_len (ts := ts) fun x hx => h x (.tail _ hx)
    rw [List.map_cons, List.sum_cons, List.length_cons, Nat.succ_mul]
    omega
theorem join_sp {prog : Program} {w : World} {A : Around} {E : Value → Shared → Prop} {s : Shared} {h₀ : Heap} {L D : Addr} {news : List (Addr × Obj)} {ys : List Value} {k : Nat} {ts : List (List Nat)} {t : Tok} {Q : Value → Shared → Prop} (N : News h₀ L s.heap news) (hm : (D, listOf ys.toArray k) ∈ news) (hs : StrsAre ys (ts.map tx))
    (hl : (ts.map (·.length)).sum + ts.length ≤ 1000000) (h : ∀ t' k, Q (.str (tx (jn [32] ts)) t') { s with toks := k }) : wpAny (model prog w) A (call (.builtin "str.join") [.str (Str.ofString " ") t, .ref D]) Q E s := by
  have e : Str.ofString " " = tx [32] := by decide
  refine join_list (items := ys.toArray) (ys := ts.map tx) ⟨_, N.get hm, rfl, k, rfl⟩ hs ?_ fun t' k => ?_
  · rw [e, tx_length, List.map_map, List.length_map]
    have : (List.map ((fun x : Str => x.length) ∘ tx) ts) = ts.map (·.length) := List.map_congr_left fun x _ => tx_length x
    show (List.map ((fun x : Str => x.length) ∘ tx) ts).sum + _ ≤ _
    rw [this]
    show _ + ts.length * 1 ≤ _
    omega
  · rw [e, join_tx]; exact h t' k
theorem jn_len (ts : List (List Nat)) : (jn [32] ts).length ≤ (ts.map (·.length)).sum + ts.length := by
  match ts with
  | [] => simp [jn]
  | [x] => simp [jn]
  | x :: y :: r =>
    have h := jn_len (y :: r)
    show (x ++ [32] ++ jn [32] (y :: r)).length ≤ _
    simp only [List.length_append, List.map_cons, List.sum_cons, List.length_cons, List.length_nil] at h ⊢
    omega
section
variable {prog : Program} {w : World} {A : Around} {E : Value → Shared → Prop} {s : Shared} {a b : List Nat} {B C : Str} {t u : Tok} {Q : Value → Shared → Prop}
theorem add_tt (hB : B = tx a) (hC : C = tx b) (hz : a.length + b.length ≤ sizeLine) (h : ∀ t' tk, Q (.str (tx (a ++ b)) t') { s with toks := tk }) : wpAny (model prog w) A (binaryOp .Add (.str B t) (.str C u)) Q E s := by
  subst hB hC
  refine add_str (fun t' tk => ?_) (by rw [tx_length, tx_length]; exact hz)
  rw [tx_append]; exact h t' tk
end
local macro_rules | `(tactic| walk_at "mk_len") => `(tactic| (rw [sizeLine_eq]; (try simp only [tx_length, List.length_append, List.length_cons, List.length_nil]); omega))
section
variable {w : World} {p : Program} {loose : List Str} {mg mb : Str → Option Value} {h₀ : Heap} {A : Around} {s : Shared} {Q E : Value → Shared → Prop} {L : Addr} {m : Str → Option Value} {news : List (Addr × Obj)}
set_option maxHeartbeats 8000000 in
theorem show_tup {T0 : Addr} {vs : List Value} {ns : List Nat} (hM : ∀ n ∈ ns, (dg n).length ≤ 160) (hi : IntsAre vs (ns.map fun n : Nat => (n : Int))) (hlen : ns.length ≤ 900)
    (F₀ : Fr h₀ L s.heap m) (N₀ : News h₀ L s.heap news) (X₀ : (Hd.KK w.params).In h₀) (T₀ : TopRead p loose mg mb h₀) (hT : (T0, tupO vs.toArray) ∈ news) (hu : A.units + 110 < cLine) (hh : A.handled = none) (room : A.depth + 5 < recursionLimit)
    (ret : ∀ h' tk' t', Fr h₀ L h' m → News h₀ L h' news → Q (.str (tx (40 :: (jn [32] (ns.map dg) ++ [41]))) t') { s with heap := h', toks := tk' }) :
    wpAny (model PySem.Challenge.rw_qd0064_01.row.prog w) A (call (.ref 264) [.ref T0]) Q E s := by
  have O := own_one F₀ N₀ hT
  have G : Good w p loose mg mb h₀ := ⟨X₀, T₀⟩
  have hvl : vs.length ≤ 900 := by rw [IntsAre.len hi, List.length_map]; exact hlen
  refine' enter_ret (binds := [(Str.ofString "value", .ref T0)]) G O ?h1 ?h2 (by walk_at "mk_room") ?h3 ?h4 ?h ?c1 ?c2 ?c3 ?c4
  walk_at "mk_enter"
  intro L h₁ hL F N X T
  k_fold
  walk_at "mk_go"
  refine comp_eval (cl := []) (by rfl) (by rfl) (by decide) ?_
  walk_at "mk_go"
  (with_reducible rename Fr _ _ _ _ => FF); (with_reducible rename News _ _ _ (_ :: _) => NN)
  have N1 : News _ _ _ [(T0, tupO vs.toArray)] := news_sub NN (fun p hp => .tail _ hp)
  refine comp_map_tuple (TxR (ns.map dg)) (by walk_at "mk_hh") ⟨_, N1.get (.head _), rfl, _, rfl⟩ (by rw [sizeLine_eq]; omega) FF N1 (fun _ h => nomatch h) (by decide) rfl (by rfl) ?_ ?_
  · clear FF NN N1
    intro i v h2 tk2 C mC g whole hv hk hw F2 N2
    obtain ⟨n, t, hn, rfl⟩ := IntsAre.nat_at hi hv
    have hM2 := hM n (List.mem_of_getElem? hn)
    have X2 := X.keeps hk
    have T2 := T.keeps hk
    clear X T
    dsimp only
    (repeat' ((fail_if_success tb_start); first | ((first | ((with_reducible show wpAny _ _ (call (Value.ref 264) [Value.int (Nat.cast _) _]) _ _ _); refine show_int (by with_reducible assumption) (by k_asm) (by k_asm) (by k_asm) (by k_asm) (by walk_at "mk_units") (by walk_at "mk_hh") (by walk_at "mk_room") ?_; walk_at "mk_in") | tb_rel); (try dsimp only)) | walk_at "mk_tail" | (walk_at "mk_dl"; first | ((first | ((with_reducible show wpAny _ _ (call (Value.ref 264) [Value.int (Nat.cast _) _]) _ _ _); refine show_int (by with_reducible assumption) (by k_asm) (by k_asm) (by k_asm) (by k_asm) (by walk_at "mk_units") (by walk_at "mk_hh") (by walk_at "mk_room") ?_; walk_at "mk_in") | tb_rel); (try dsimp only)) | walk1) | (walk_at "mk_late"; (try dsimp only))))
    refine MStep.plain (by assumption) (by assumption) ?_
    exact ⟨dg n, _, by rw [List.getElem?_map, hn]; rfl, rfl, rfl⟩
  · clear FF NN N1
    intro h2 tk2 mC ys k exs D C hr hn2 F2 N2 f1 f2 f3 hC0 hCL hC
    refine post_none hn2 F2 N2 hC0 hCL hC ?_
    intro h3 tk3 F3 N3
    clear F2 N2
    dsimp only
    obtain ⟨rfl, hs⟩ := Ran.allStrs (ts := ns.map dg) (by rw [List.length_map, ← List.length_map (f := fun n : Nat => (n : Int)), ← IntsAre.len hi]; exact hr)
    rw [List.append_nil] at N3
    have hl : ((ns.map dg).map (·.length)).sum + (ns.map dg).length ≤ 1000000 := by
      have h1 : ((ns.map dg).map (·.length)).sum ≤ (ns.map dg).length * 160 := sum_len fun x hx => by
        obtain ⟨n, hn, rfl⟩ := List.mem_map.mp hx
        exact hM n hn
      rw [List.length_map] at h1 ⊢
      omega
    have hj := jn_len (ns.map dg)
    (repeat' ((fail_if_success tb_start); first | ((first | ((with_reducible show wpAny _ _ (binaryOp Operator.Add (Value.str (tx _) _) (Value.str (Str.ofString ")") _)) _ _ _); refine add_tt (b := [41]) rfl (by decide) (by walk_at "mk_len") ?_; intros) | ((with_reducible show wpAny _ _ (binaryOp Operator.Add (Value.str (Str.ofString "(") _) (Value.str (tx _) _)) _ _ _); refine add_tt (a := [40]) (by decide) rfl (by walk_at "mk_len") ?_; intros) | ((with_reducible show wpAny _ _ (call (Value.builtin "str.join") [Value.str (Str.ofString " ") _, Value.ref _]) _ _ _); refine join_sp (by k_asm) (by k_dflt k_mem) (by with_reducible assumption) (by with_reducible assumption) ?_; intros) | tb_rel); (try dsimp only)) | walk_at "mk_tail" | (walk_at "mk_dl"; first | ((first | ((with_reducible show wpAny _ _ (binaryOp Operator.Add (Value.str (tx _) _) (Value.str (Str.ofString ")") _)) _ _ _); refine add_tt (b := [41]) rfl (by decide) (by walk_at "mk_len") ?_; intros) | ((with_reducible show wpAny _ _ (binaryOp Operator.Add (Value.str (Str.ofString "(") _) (Value.str (tx _) _)) _ _ _); refine add_tt (a := [40]) (by decide) rfl (by walk_at "mk_len") ?_; intros) | ((with_reducible show wpAny _ _ (call (Value.builtin "str.join") [Value.str (Str.ofString " ") _, Value.ref _]) _ _ _); refine join_sp (by k_asm) (by k_dflt k_mem) (by with_reducible assumption) (by with_reducible assumption) ?_; intros) | tb_rel); (try dsimp only)) | walk1) | (walk_at "mk_late"; (try dsimp only))))
    (with_reducible rename Fr _ _ _ _ => FF); (with_reducible rename News _ _ _ (_ :: _) => NN)
    have e := ext_end (D := []) O FF fun p hp _ => by rw [List.mem_singleton.mp hp]; exact News.get NN (.tail _ (.head _))
    obtain ⟨F', N'⟩ := use0 F₀ N₀ e
    exact ret _ _ _ F' N'
end

theorem news_three {h₀ h : Heap} {L : Addr} {x y z : Addr × Obj} {news : List (Addr × Obj)} (N' : News h₀ L h (x :: y :: news)) (N5 : News h₀ L h [z]) : News h₀ L h (x :: y :: z :: news) := fun p hp => by
  rcases List.mem_cons.mp hp with rfl | hp
  · exact N' _ (.head _)
  · rcases List.mem_cons.mp hp with rfl | hp
    · exact N' _ (.tail _ (.head _))
    · rcases List.mem_cons.mp hp with rfl | hp
      · exact N5 _ (.head _)
      · exact N' _ (.tail _ (.tail _ hp))
section
variable {w : World} {p : Program} {loose : List Str} {mg mb : Str → Option Value} {h₀ : Heap} {A : Around} {s : Shared} {Q E : Value → Shared → Prop} {L : Addr} {m : Str → Option Value} {news : List (Addr × Obj)}
/-- the dict of a writer -/
noncomputable abbrev wrD (P : Params) (S : Addr) (b1 : Nat) : Obj := dictOf [⟨PyData.keyHash P (Str.ofString "lines"), .str (Str.ofString "lines") b1, .ref S⟩] 1
set_option pp.deepTerms false in
set_option maxHeartbeats 4000000 in
theorem make_writer {x : Str} {t1 : Tok}
    (F₀ : Fr h₀ L s.heap m) (N₀ : News h₀ L s.heap news) (X₀ : (Hd.KK w.params).In h₀) (T₀ : TopRead p loose mg mb h₀) (room : A.depth + 5 < recursionLimit)
    (ret : ∀ r rd S h' tk' b1, Fr h₀ L h' m → News h₀ L h' ((r, instObj 293 rd) :: (rd, wrD w.params S b1) :: (S, listOf #[.str x t1] 0) :: news) → (∀ p ∈ news, p.1 < rd) → (@LT.lt Nat _ rd r ∧ @LT.lt Nat _ r S) → Q (.ref r) { s with heap := h', toks := tk' }) :
    wpAny (model PySem.Challenge.rw_qd0064_01.row.prog w) A (call (.ref 293) [.str x t1]) Q E s := by
  refine' call_cls F₀ X₀ N₀ ?k4 ?k5 ?k6 ?_
  case k4 => k_dflt k_is
  case k5 => k_dflt k_is
  case k6 => k_dflt k_is
  intro x1 dx h1 F1 N1 l1 l2
  have O := own_cur (x := (x1, instObj 293 dx)) (y := (dx, dictOf [] 0)) F1 N1 (.head _) (.tail _ (.head _))
  have G : Good w p loose mg mb h₀ := ⟨X₀, T₀⟩
  have l2' := ltN l2
  refine' enter_cret (s := { s with heap := h1 }) (binds := [(Str.ofString "self", .ref x1), (Str.ofString "head", .str x t1)]) G O ?h1 ?h2 ?room ?h3 ?h4 ?h ?c1 ?c2 ?c3 ?c4
  case room => walk_at "mk_room"
  walk_at "mk_enter"
  intro L h₁ hL F N X T
  k_fold
  walk_at "mk_go"
  (with_reducible rename Fr _ _ _ _ => FF); (with_reducible rename News _ _ _ (_ :: _) => NN)
  (with_reducible rename _ ∧ _ => k1)
  refine ⟨rfl, ?_⟩
  have N0 : News _ _ _ [(_, listOf #[Value.str x t1] 0)] := news_sub NN (fun p hp => by rw [List.mem_singleton.mp hp]; exact .head _)
  have fx := fresh_out (h := h1) (fp := [(x1, instObj 293 dx), (dx, dictOf [] 0)]) N0 (fun p hp q => by
    have hq : p.1 = x1 ∨ p.1 = dx := by simpa using q
    rw [List.mem_singleton.mp hp] at hq
    rcases hq with hq | hq
    · exact Nat.ne_of_gt k1.1 hq
    · exact Nat.ne_of_gt k1.2 hq)
  have N5 := news_out F1 N0 fx
  obtain ⟨F', N'⟩ := useN (fp := [(x1, instObj 293 dx), (dx, dictOf [] 0)]) (fp' := [(x1, instObj 293 dx), (dx, wrD w.params _ _)]) F1 N1 (ext_of FF) (fun p hp q => by
    have h1 : @LT.lt Nat _ p.1 dx := l1 p hp
    rcases List.mem_cons.mp q with q | q
    · exact Nat.ne_of_lt (Nat.lt_trans h1 l2') q
    · exact Nat.ne_of_lt h1 (List.mem_singleton.mp q)) (fun p hp => by
    rcases List.mem_cons.mp hp with rfl | hp
    · exact ⟨.head _, NN.get (.tail _ (.head _))⟩
    · rw [List.mem_singleton.mp hp]; exact ⟨.tail _ (.head _), NN.get (.tail _ (.tail _ (.head _)))⟩)
  exact ret _ _ _ _ _ _ F' (news_three N' N5) l1 ⟨l2', k1.1⟩
end
section
variable {w : World} {p : Program} {loose : List Str} {mg mb : Str → Option Value} {h₀ : Heap} {A : Around} {s : Shared} {Q E : Value → Shared → Prop} {L : Addr} {m : Str → Option Value} {news : List (Addr × Obj)} {g : Obj → List (Addr × Obj)}
/-- a mask as it is written -/
noncomputable def spell (M : Nat) : List Nat := if M < P5 then dg M else 40 :: (jn [32] ((pts M).map dg) ++ [41])
set_option pp.deepTerms false in
set_option maxHeartbeats 8000000 in
/-- show_item at a mask as mask_item gives it -/
theorem show_mask {M : Nat} {v : Value} {ex : List (Addr × Obj)} (hv : IsMask M v ex) (hd : ∀ n ∈ pts M, (dg n).length ≤ 160) (hlen : (pts M).length ≤ 900)
    (F₀ : Fr h₀ L s.heap m) (N₀ : News h₀ L s.heap news) (X₀ : (Hd.KK w.params).In h₀) (T₀ : TopRead p loose mg mb h₀) (hx : ∀ p ∈ ex, p ∈ news) (hu : A.units + 110 < cLine) (hh : A.handled = none) (room : A.depth + 5 < recursionLimit)
    (ret : ∀ h' tk' t', Fr h₀ L h' m → News h₀ L h' news → Q (.str (tx (spell M)) t') { s with heap := h', toks := tk' }) :
    wpAny (model PySem.Challenge.rw_qd0064_01.row.prog w) A (call (.ref 264) [v]) Q E s := by
  rcases hv with ⟨h1, ⟨t, rfl⟩, rfl⟩ | ⟨h1, T, vs, rfl, rfl, hi⟩
  · have e : spell M = dg M := if_pos h1
    rw [e] at ret
    refine show_int (hd M (by rw [pts_lt h1]; exact .head _)) F₀ N₀ X₀ T₀ (by omega) hh (by omega) ret
  · have e : spell M = 40 :: (jn [32] ((pts M).map dg) ++ [41]) := if_neg h1
    rw [e] at ret
    exact show_tup hd hi hlen F₀ N₀ X₀ T₀ (hx _ (.head _)) hu hh room ret
end

/-- a list of natural numbers -/
noncomputable def NatsAre (vs : List Value) (ns : List Nat) : Prop := IntsAre vs (ns.map fun n : Nat => (n : Int))
theorem NatsAre.len {vs : List Value} {ns : List Nat} (h : NatsAre vs ns) : vs.length = ns.length := by
  have := IntsAre.length h
  rw [List.length_map] at this
  exact this
section
variable {prog : Program} {w : World} {A : Around} {E : Value → Shared → Prop} {s : Shared} {h₀ : Heap} {L C : Addr} {m : Str → Option Value} {news : List (Addr × Obj)} {a b k x e : Nat} {t u : Tok} {cs : List Value} {ns : List Nat}
theorem updF_upd {d : Addr} {o o' : Obj} : ∀ {l : List (Addr × Obj)} {g : Obj → List (Addr × Obj)}, UpdF d o l g → Upd d o o' l (g o') := by
  intro l g h
  induction h with
  | head h => exact .head h
  | tail h r ih => exact .tail h ih
theorem mod_nats {Q : Value → Shared → Prop} (hb : 0 < b) (h : Q (.int ((a % b : Nat) : Int) s.toks) { s with toks := s.toks + 1 }) : wpAny (model prog w) A (binaryOp .Mod (.int (a : Nat) t) (.int (b : Nat) u)) Q E s := by
  refine mod_int' (by omega) ?_
  rw [Int.fmod_eq_emod_of_nonneg _ (by omega)]
  exact h
theorem log_lt {b : Nat} (hb2 : b ≤ 2 ^ 100) : (b : Int).natAbs.log2 < 9000 := by
  show b.log2 < 9000
  by_cases h0 : b = 0
  · subst h0; decide
  · exact Nat.lt_of_le_of_lt (Nat.le_of_lt_succ ((Nat.log2_lt h0).mpr (Nat.lt_of_le_of_lt hb2 (Nat.pow_lt_pow_right (n := 101) (by decide) (by decide))))) (by decide)
theorem fdiv_nats {Q : Value → Shared → Prop} (hb : 0 < b) (hb2 : b ≤ 2 ^ 100) (h : Q (.int ((a / b : Nat) : Int) s.toks) { s with toks := s.toks + 1 }) : wpAny (model prog w) A (binaryOp .FloorDiv (.int (a : Nat) t) (.int (b : Nat) u)) Q E s := by
  refine floordiv_int (by omega) ?_ (Or.inl (PyProof.noPylong_of_log2 (log_lt hb2)))
  rw [Int.fdiv_eq_ediv_of_nonneg _ (by omega)]
  exact h
theorem sub_nats {value slice : Expr} {Q : Value → Shared → Prop} (N : News h₀ L s.heap news) (hm : (C, listOf cs.toArray e) ∈ news) (hi : NatsAre cs ns) (hk : k < cs.length) (hs : cs.length ≤ 1000) (h : ∀ t, Q (.int ((ns.getD k 0 : Nat) : Int) t) s)
    (hq : subscripted slice false (.ref C) (.int (k : Nat) u) = operate [.ref C, .int (k : Nat) u] (getItem (.ref C) (.int (k : Nat) u)) := by with_unfolding_all rfl) :
    wpAny (model prog w) A (subscriptTail value slice (.ref C) (.int (k : Nat) u)) Q E s := by
  have hl : s.heap.IsList C cs.toArray := ⟨_, N.get hm, rfl, e, rfl⟩
  refine tail_any hl.typeIs slot_list_getitem.lookup (getItem_intsK hl hi (by omega) (by rw [List.length_map]; have := hi.len; omega) (by omega) fun t => ?_) hq
  have : (List.map (fun n : Nat => (n : Int)) ns).getD (k : Int).toNat 0 = ((ns.getD k 0 : Nat) : Int) := by
    simp [List.getD_eq_getElem?_getD, List.getElem?_map]
    cases ns[k]? <;> rfl
  rw [this]
  exact h t
theorem set_nats {Q : Unit → Shared → Prop} {g : Obj → List (Addr × Obj)} (F : Fr h₀ L s.heap m) (N : News h₀ L s.heap news) (U : UpdF C (listOf cs.toArray e) news g) (hi : NatsAre cs ns) (hk : k < cs.length) (hs : cs.length ≤ 1000)
    (h : ∀ h', Fr h₀ L h' m → News h₀ L h' (g (listOf (cs.set k (.int (x : Nat) t)).toArray e)) → NatsAre (cs.set k (.int (x : Nat) t)) (ns.set k x) → Q () { s with heap := h' }) :
    wpAny (model prog w) A (setItem (.ref C) (.int (k : Nat) u) (.int (x : Nat) t)) Q E s := by
  refine ksa_set F N (updF_upd U) hi (by omega) (by rw [List.length_map]; have := hi.len; omega) (by omega) fun h' F' N' hi' _ _ => h h' F' N' ?_
  unfold NatsAre
  rw [List.map_set]
  exact hi'
end
local macro_rules | `(tactic| walk_at "mk_idx") => `(tactic| first | with_reducible assumption | omega | exact Nat.lt_of_lt_of_le (Nat.mod_lt _ (by omega)) (by omega))
section
variable {w : World} {p : Program} {loose : List Str} {mg mb : Str → Option Value} {h₀ : Heap} {A : Around} {s : Shared} {Q E : Value → Shared → Prop} {L : Addr} {m : Str → Option Value} {news : List (Addr × Obj)} {g : Obj → List (Addr × Obj)} {g2 : Obj → Obj → List (Addr × Obj)}
set_option maxHeartbeats 8000000 in
theorem tap_ok {c C : Addr} {turn many : Nat} {cs : List Value} {ns : List Nat} {t tm : Tok} {e1 e2 : Nat} (hi : NatsAre cs ns) (hn : ∀ n ∈ ns, n < 10 ^ 200) (hlen : ns.length ≤ 30) (ht : turn ≤ 1000) (hm : 0 < many) (hm2 : many ≤ 2 ^ 100)
    (F₀ : Fr h₀ L s.heap m) (N₀ : News h₀ L s.heap news) (X₀ : (Hd.KK w.params).In h₀) (T₀ : TopRead p loose mg mb h₀)
    (hc : (c, listOf #[.ref C, .int (turn : Nat) t] e1) ∈ news) (hC : (C, listOf cs.toArray e2) ∈ news) (U : UpdF c (listOf #[.ref C, .int (turn : Nat) t] e1) news g) (U2 : ∀ x, UpdF C (listOf cs.toArray e2) (g x) (g2 x)) (hne : @Ne Nat c C)
    (hu : A.units + 100 < cLine) (hh : A.handled = none) (room : A.depth + 5 < recursionLimit)
    (ret : ∀ h' tk' t' r cs' ns' t1 e1' e2', r < many → NatsAre cs' ns' → (∀ n ∈ ns', n < 10 ^ 200) → ns'.length = ns.length → Fr h₀ L h' m → News h₀ L h' (g2 (listOf #[.ref C, .int ((turn + 1 : Nat) : Int) t1] e1') (listOf cs'.toArray e2')) → Q (.int (r : Nat) t') { s with heap := h', toks := tk' }) :
    wpAny (model PySem.Challenge.rw_qd0064_01.row.prog w) A (call (.ref 424) [.ref c, .int (many : Nat) tm]) Q E s := by
  have O := own_cur F₀ N₀ hc hC
  have G : Good w p loose mg mb h₀ := ⟨X₀, T₀⟩
  have hl1 : cs.length = (ns.map fun n : Nat => (n : Int)).length := IntsAre.length hi
  have hl3 : (ns.map fun n : Nat => (n : Int)).length = ns.length := List.length_map _
  have fin : ∀ {L' : Addr} {h' : Heap} {m' : Str → Option Value} {nw : List (Addr × Obj)} {o1 o2 : Obj}, Fr (hideAll s.heap ([(c, listOf #[.ref C, .int (turn : Nat) t] e1), (C, listOf cs.toArray e2)].map (·.1))) L' h' m' → News (hideAll s.heap ([(c, listOf #[.ref C, .int (turn : Nat) t] e1), (C, listOf cs.toArray e2)].map (·.1))) L' h' nw → (c, o1) ∈ nw → (C, o2) ∈ nw → Fr h₀ L h' m ∧ News h₀ L h' (g2 o1 o2) := fun FF NN m1 m2 =>
    use2 F₀ N₀ U U2 (Ne.symm hne) (N₀.get hC) (ext_end (D := [c, C]) O FF fun p hp hn => by
      rcases List.mem_cons.mp hp with rfl | hp
      · exact absurd (List.Mem.head _) hn
      · rw [List.mem_singleton.mp hp] at hn; exact absurd (List.Mem.tail _ (List.Mem.head _)) hn) (NN.get m1) (NN.get m2) (N₀.fresh hC) (N₀ _ hC).2.1
  refine' enter_ret (binds := [(Str.ofString "cask", .ref c), (Str.ofString "many", .int (many : Nat) tm)]) G O ?h1 ?h2 (by walk_at "mk_room") ?h3 ?h4 ?h ?c1 ?c2 ?c3 ?c4
  walk_at "mk_enter"
  intro L h₁ hL F N X T
  k_fold
  have small : ∀ i, ∀ n ∈ ns.set i (ns.getD i 0 / many), n < 10 ^ 200 := fun i n hn' => by
    rcases List.mem_or_eq_of_mem_set hn' with q | rfl
    · exact hn n q
    · refine Nat.lt_of_le_of_lt (Nat.div_le_self _ _) ?_
      rw [List.getD_eq_getElem?_getD]
      cases q : ns[i]? with
      | none => exact Nat.pow_pos (by decide)
      | some v => exact hn v (List.mem_of_getElem? q)
  have conv : ∀ k : Nat, (((turn : Int) * ((turn : Int) + 7)).fdiv 2 + 3 * (k : Int)).fmod (many : Int) = (((turn * (turn + 7) / 2 + 3 * k) % many : Nat) : Int) := fun k => by
    rw [Int.fdiv_eq_ediv_of_nonneg _ (by decide), Int.fmod_eq_emod_of_nonneg _ (by omega)]
    rfl
  by_cases h0 : turn < (ns.map fun n : Nat => (n : Int)).length
  · (repeat' ((fail_if_success tb_start); first | ((first | ((with_reducible show wpAny _ _ (setItem (Value.ref _) (Value.int (Nat.cast _) _) (Value.int (Nat.cast _) _)) _ _ _); refine set_nats (by k_asm) (by k_asm) (by k_dflt k_updF) (by with_reducible assumption) (by walk_at "mk_idx") (by omega) ?_; walk_at "mk_inN") | ((with_reducible show wpAny _ _ (subscriptTail _ _ (Value.ref _) (Value.int (Nat.cast _) _)) _ _ _); refine sub_nats (by k_asm) (by k_dflt k_mem) (by with_reducible assumption) (by walk_at "mk_idx") (by omega) ?_; intros) | ((with_reducible show wpAny _ _ (binaryOp Operator.FloorDiv (Value.int (Nat.cast _) _) (Value.int (Nat.cast _) _)) _ _ _); refine fdiv_nats (by walk_at "mk_fact") (by with_reducible assumption) ?_) | ((with_reducible show wpAny _ _ (binaryOp Operator.Mod (Value.int (Nat.cast _) _) (Value.int (Nat.cast _) _)) _ _ _); refine mod_nats (by walk_at "mk_fact") ?_) | ((with_reducible show wpAny _ _ (unpackItems (Value.ref _) _ _) _ _ _); k_dflt (refine unpackItemsN_ (by k_asm) (by k_asm) (by kun_tup) (by walk_at "mk_hh") (by exact rfl) ?_); walk_at "mk_in") | tb_rel); (try dsimp only)) | walk_at "mk_tail" | (walk_at "mk_dl"; first | ((first | ((with_reducible show wpAny _ _ (setItem (Value.ref _) (Value.int (Nat.cast _) _) (Value.int (Nat.cast _) _)) _ _ _); refine set_nats (by k_asm) (by k_asm) (by k_dflt k_updF) (by with_reducible assumption) (by walk_at "mk_idx") (by omega) ?_; walk_at "mk_inN") | ((with_reducible show wpAny _ _ (subscriptTail _ _ (Value.ref _) (Value.int (Nat.cast _) _)) _ _ _); refine sub_nats (by k_asm) (by k_dflt k_mem) (by with_reducible assumption) (by walk_at "mk_idx") (by omega) ?_; intros) | ((with_reducible show wpAny _ _ (binaryOp Operator.FloorDiv (Value.int (Nat.cast _) _) (Value.int (Nat.cast _) _)) _ _ _); refine fdiv_nats (by walk_at "mk_fact") (by with_reducible assumption) ?_) | ((with_reducible show wpAny _ _ (binaryOp Operator.Mod (Value.int (Nat.cast _) _) (Value.int (Nat.cast _) _)) _ _ _); refine mod_nats (by walk_at "mk_fact") ?_) | ((with_reducible show wpAny _ _ (unpackItems (Value.ref _) _ _) _ _ _); k_dflt (refine unpackItemsN_ (by k_asm) (by k_asm) (by kun_tup) (by walk_at "mk_hh") (by exact rfl) ?_); walk_at "mk_in") | tb_rel); (try dsimp only)) | walk1) | (walk_at "mk_late"; (try dsimp only))))
    (with_reducible rename Fr _ _ _ _ => FF); (with_reducible rename News _ _ _ (_ :: _) => NN); (with_reducible rename NatsAre (List.set _ _ _) _ => HI)
    obtain ⟨F', N'⟩ := fin FF NN (by k_mem) (by k_mem)
    exact ret _ _ _ _ _ _ _ _ _ (Nat.mod_lt _ hm) HI (small _) (List.length_set ..) F' N'
  · by_cases h00 : ns = []
    · have hd : decide ((ns.map fun n : Nat => (n : Int)) = []) = true := by rw [h00]; rfl
      (repeat' ((fail_if_success tb_start); first | ((first | ((with_reducible show wpAny _ _ (unpackItems (Value.ref _) _ _) _ _ _); k_dflt (refine unpackItemsN_ (by k_asm) (by k_asm) (by kun_tup) (by walk_at "mk_hh") (by exact rfl) ?_); walk_at "mk_in") | tb_rel); (try dsimp only)) | walk_at "mk_tail" | (walk_at "mk_dl"; first | ((first | ((with_reducible show wpAny _ _ (unpackItems (Value.ref _) _ _) _ _ _); k_dflt (refine unpackItemsN_ (by k_asm) (by k_asm) (by kun_tup) (by walk_at "mk_hh") (by exact rfl) ?_); walk_at "mk_in") | tb_rel); (try dsimp only)) | walk1) | (walk_at "mk_late"; (try dsimp only))))
      (with_reducible rename Fr _ _ _ _ => FF); (with_reducible rename News _ _ _ (_ :: _) => NN)
      obtain ⟨F', N'⟩ := fin FF NN (by k_mem) (by k_mem)
      rw [conv]
      exact ret _ _ _ _ _ _ _ _ _ (Nat.mod_lt _ hm) hi hn rfl F' N'
    · have h1 : 0 < (ns.map fun n : Nat => (n : Int)).length := by rw [hl3]; exact List.length_pos_iff.mpr h00
      have hd : decide ((ns.map fun n : Nat => (n : Int)) = []) = false := by simpa using h00
      (repeat' ((fail_if_success tb_start); first | ((first | ((with_reducible show wpAny _ _ (setItem (Value.ref _) (Value.int (Nat.cast _) _) (Value.int (Nat.cast _) _)) _ _ _); refine set_nats (by k_asm) (by k_asm) (by k_dflt k_updF) (by with_reducible assumption) (by walk_at "mk_idx") (by omega) ?_; walk_at "mk_inN") | ((with_reducible show wpAny _ _ (subscriptTail _ _ (Value.ref _) (Value.int (Nat.cast _) _)) _ _ _); refine sub_nats (by k_asm) (by k_dflt k_mem) (by with_reducible assumption) (by walk_at "mk_idx") (by omega) ?_; intros) | ((with_reducible show wpAny _ _ (binaryOp Operator.FloorDiv (Value.int (Nat.cast _) _) (Value.int (Nat.cast _) _)) _ _ _); refine fdiv_nats (by walk_at "mk_fact") (by with_reducible assumption) ?_) | ((with_reducible show wpAny _ _ (binaryOp Operator.Mod (Value.int (Nat.cast _) _) (Value.int (Nat.cast _) _)) _ _ _); refine mod_nats (by walk_at "mk_fact") ?_) | ((with_reducible show wpAny _ _ (unpackItems (Value.ref _) _ _) _ _ _); k_dflt (refine unpackItemsN_ (by k_asm) (by k_asm) (by kun_tup) (by walk_at "mk_hh") (by exact rfl) ?_); walk_at "mk_in") | tb_rel); (try dsimp only)) | walk_at "mk_tail" | (walk_at "mk_dl"; first | ((first | ((with_reducible show wpAny _ _ (setItem (Value.ref _) (Value.int (Nat.cast _) _) (Value.int (Nat.cast _) _)) _ _ _); refine set_nats (by k_asm) (by k_asm) (by k_dflt k_updF) (by with_reducible assumption) (by walk_at "mk_idx") (by omega) ?_; walk_at "mk_inN") | ((with_reducible show wpAny _ _ (subscriptTail _ _ (Value.ref _) (Value.int (Nat.cast _) _)) _ _ _); refine sub_nats (by k_asm) (by k_dflt k_mem) (by with_reducible assumption) (by walk_at "mk_idx") (by omega) ?_; intros) | ((with_reducible show wpAny _ _ (binaryOp Operator.FloorDiv (Value.int (Nat.cast _) _) (Value.int (Nat.cast _) _)) _ _ _); refine fdiv_nats (by walk_at "mk_fact") (by with_reducible assumption) ?_) | ((with_reducible show wpAny _ _ (binaryOp Operator.Mod (Value.int (Nat.cast _) _) (Value.int (Nat.cast _) _)) _ _ _); refine mod_nats (by walk_at "mk_fact") ?_) | ((with_reducible show wpAny _ _ (unpackItems (Value.ref _) _ _) _ _ _); k_dflt (refine unpackItemsN_ (by k_asm) (by k_asm) (by kun_tup) (by walk_at "mk_hh") (by exact rfl) ?_); walk_at "mk_in") | tb_rel); (try dsimp only)) | walk1) | (walk_at "mk_late"; (try dsimp only))))
      · (with_reducible rename Fr _ _ _ _ => FF); (with_reducible rename News _ _ _ (_ :: _) => NN); (with_reducible rename NatsAre (List.set _ _ _) _ => HI)
        obtain ⟨F', N'⟩ := fin FF NN (by k_mem) (by k_mem)
        exact ret _ _ _ _ _ _ _ _ _ (Nat.mod_lt _ hm) HI (small _) (List.length_set ..) F' N'
      · (with_reducible rename Fr _ _ _ _ => FF); (with_reducible rename News _ _ _ (_ :: _) => NN)
        obtain ⟨F', N'⟩ := fin FF NN (by k_mem) (by k_mem)
        rw [conv]
        exact ret _ _ _ _ _ _ _ _ _ (Nat.mod_lt _ hm) hi hn rfl F' N'
end

/-- the elements are natural numbers -/
noncomputable def NtR (ms : List Nat) (i : Nat) (v : Value) (ex : List (Addr × Obj)) : Prop := ∃ n t, ms[i]? = some n ∧ v = .int (n : Nat) t ∧ ex = []
theorem Ran.nats {ms : List Nat} : ∀ {n : Nat} {vs : List Value} {exs : List (Addr × Obj)}, Ran (NtR ms) n vs exs → n ≤ ms.length → exs = [] ∧ NatsAre vs (ms.take n) := by
  intro n vs exs hr h
  induction hr with
  | nil => exact ⟨rfl, .nil⟩
  | snoc a b ih =>
    obtain ⟨e, i⟩ := ih (Nat.le_of_succ_le h)
    obtain ⟨l, t, h1, h2, h3⟩ := b
    subst e h2 h3
    refine ⟨rfl, ?_⟩
    unfold NatsAre at i ⊢
    rw [List.take_add_one, h1, Option.toList_some, List.map_append]
    exact IntsAre.snoc i
theorem Ran.allNats {ms : List Nat} {vs : List Value} {exs : List (Addr × Obj)} (h : Ran (NtR ms) ms.length vs exs) : exs = [] ∧ NatsAre vs ms := by
  obtain ⟨a, b⟩ := h.nats (Nat.le_refl _)
  rw [List.take_length] at b
  exact ⟨a, b⟩
theorem ints_at : ∀ {vs : List Value} {zs : List Int} {i : Nat} {v : Value}, IntsAre vs zs → vs[i]? = some v → ∃ z t, zs[i]? = some z ∧ v = .int z t
  | [], _, _, _, _, h => by simp at h
  | x :: vs, [], _, _, a, _ => by cases a
  | x :: vs, z :: zs, 0, v, a, h => by
    cases a with
    | cons a t b => simp at h; subst h; exact ⟨z, t, rfl, rfl⟩
  | x :: vs, z :: zs, i + 1, v, a, h => by
    cases a with
    | cons a t b =>
      obtain ⟨z', t', h1, h2⟩ := ints_at (i := i) (zs := zs) (vs := vs) b (by simpa using h)
      exact ⟨z', t', by simpa using h1, h2⟩
theorem sl_in {prog : Program} {w : World} {A : Around} {E : Value → Shared → Prop} {h₀ H : Heap} {L l : Addr} {m : Str → Option Value} {news : List (Addr × Obj)} {vs : List Value} {zs : List Int} {z : Int} {u : Tok} {g : Array GenState} {d : Drawn} {tk : Nat} {os : OsState} {value slice : Expr} {Q : Value → Shared → Prop}
    (F : Fr h₀ L H m) (N : News h₀ L H news) (hl : h₀.IsList l vs.toArray) (hi : IntsAre vs zs) (h0 : 0 ≤ z) (hs : vs.length ≤ 1000)
    (h : ∀ D h' ws, Fr h₀ L h' m → News h₀ L h' ((D, listOf ws.toArray 0) :: news) → IntsAre ws (zs.take z.toNat) → (∀ p ∈ news, p.1 < D) → Q (.ref D) ⟨h', g, d, tk, os⟩)
    (hq : subscripted slice false (.ref l) (.ref H.objs.size) = operate [.ref H.objs.size, .ref l] (getItem (.ref l) (.ref H.objs.size)) := by with_unfolding_all rfl) (ht : ∀ r, letTemporaryGo value (.ref l) r = pure () := by intro _; with_unfolding_all rfl) :
    wpAny (model prog w) A (subscriptTail value slice (.ref l) (.ref H.objs.size)) Q E ⟨H.push { cls := .type "slice", data := .fields #[.none, .int z u, .none] }, g, d, tk, os⟩ := by
  refine slice_list (s := ⟨H, g, d, tk, os⟩) F N (hl.at fun o e => F.keep _ o e) .none (.int _ _) (fun h' F' N' => ?_) hq ht (by rw [List.size_toArray, sizeLine_eq]; omega)
  refine h _ h' (slicePick vs.toArray none (some z) none).toList F' (by simpa using N') (slice_ints_uptoW hi h0) fun p hp => Nat.lt_succ_of_lt (Heap.lt_size (N p hp).1)
section
variable {w : World} {p : Program} {loose : List Str} {mg mb : Str → Option Value} {h₀ : Heap} {A : Around} {s : Shared} {Q E : Value → Shared → Prop} {L : Addr} {m : Str → Option Value} {news : List (Addr × Obj)} {g : Obj → List (Addr × Obj)} {g2 : Obj → Obj → List (Addr × Obj)}
set_option pp.deepTerms false in
set_option maxHeartbeats 8000000 in
theorem cask_ok {S0 : Addr} {vs : List Value} {zs : List Int} (hl : h₀.IsList S0 vs.toArray) (hi : IntsAre vs zs) (hlen : zs.length ≤ 63)
    (F₀ : Fr h₀ L s.heap m) (N₀ : News h₀ L s.heap news) (X₀ : (Hd.KK w.params).In h₀) (T₀ : TopRead p loose mg mb h₀)
    (hu : A.units + 110 < cLine) (hh : A.handled = none) (room : A.depth + 5 < recursionLimit)
    (ret : ∀ h' tk' c C t cs ns e1 e2, NatsAre cs ns → (∀ n ∈ ns, n < 10 ^ 200) → ns.length ≤ 30 → Fr h₀ L h' m → News h₀ L h' ((c, listOf #[.ref C, .int (0 : Nat) t] e1) :: (C, listOf cs.toArray e2) :: news) → (∀ p ∈ news, p.1 ≠ C ∧ p.1 ≠ c) → @Ne Nat c C → Q (.ref c) { s with heap := h', toks := tk' }) :
    wpAny (model PySem.Challenge.rw_qd0064_01.row.prog w) A (call (.ref 417) [.ref S0]) Q E s := by
  have O : Own h₀ s.heap [] := ⟨F₀.keep, (fun _ h => nomatch h), (fun _ h => nomatch h)⟩
  have G : Good w p loose mg mb h₀ := ⟨X₀, T₀⟩
  refine' enter_ret (binds := [(Str.ofString "script", .ref S0)]) G O ?h1 ?h2 (by walk_at "mk_room") ?h3 ?h4 ?h ?c1 ?c2 ?c3 ?c4
  walk_at "mk_enter"
  intro L h₁ hL F N X T
  k_fold
  have hl2 := Heap.IsList.at hl (fun o e => O.hide _ _ e)
  walk_at "mk_go"
  refine comp_eval (cl := []) (by rfl) (by rfl) (by decide) ?_
  walk_at "mk_go"
  have hvl0 := IntsAre.length hi
  refine' sl_in F N hl2 hi (by decide) (by omega) ?_
  intro D0 h2' ws F2' N2' HI0 l2'
  clear l2'
  walk_at "mk_go"
  (with_reducible rename Fr _ _ _ _ => FF); (with_reducible rename News _ _ _ (_ :: _) => NN); have HI : IntsAre ws (List.take 30 zs) := HI0; clear HI0
  have hwl := IntsAre.length HI
  have hwl2 : (List.take 30 zs).length ≤ 30 := by rw [List.length_take]; omega
  refine comp_map_list (NtR ((zs.take 30).map fun z => z.natAbs % 10 ^ 200)) (by walk_at "mk_hh") ⟨_, NN.get (.head _), rfl, _, rfl⟩ (by rw [sizeLine_eq]; omega) FF NN (fun _ h => nomatch h) (by decide) rfl (by rfl) ?_ ?_
  · clear FF NN
    intro i v h2 tk2 C mC g whole hv hk hw F2 N2
    obtain ⟨z, t, hz, rfl⟩ := ints_at HI hv
    have X2 := X.keeps hk
    have T2 := T.keeps hk
    clear X T
    dsimp only
    walk_at "mk_go"
    have e1 : (if z < 0 then -z else z).fmod (10 ^ Int.toNat 200) = ((z.natAbs % 10 ^ 200 : Nat) : Int) := by
      have q1 : (if z < 0 then -z else z) = ((z.natAbs : Nat) : Int) := by split <;> omega
      have q2 : (10 : Int) ^ Int.toNat 200 = ((10 ^ 200 : Nat) : Int) := by rfl
      rw [q1, q2, Int.fmod_eq_emod_of_nonneg _ (by omega)]
      rfl
    rw [e1]
    refine MStep.plain (by assumption) (by assumption) ?_
    exact ⟨_, _, by rw [List.getElem?_map, hz]; rfl, rfl, rfl⟩
  · clear FF NN
    intro h2 tk2 mC ys k exs D C hr hn2 F2 N2 f1 f2 f3 hC0 hCL hC
    refine post_none hn2 F2 N2 hC0 hCL hC ?_
    intro h3 tk3 F3 N3
    clear F2 N2
    dsimp only
    obtain ⟨rfl, hs⟩ := Ran.allNats (ms := (zs.take 30).map fun z => z.natAbs % 10 ^ 200) (by rw [List.length_map, ← hwl]; exact hr)
    rw [List.append_nil] at N3
    walk_at "mk_go"
    (with_reducible rename Fr _ _ _ _ => FF); (with_reducible rename News _ _ _ (_ :: _) => NN); (with_reducible rename _ ∧ _ => l1)
    have N0 : News _ _ _ [(_, listOf #[.ref D, .int 0 _] 0), (D, listOf ys.toArray k)] := news_sub NN (fun p hp => by
      rcases List.mem_cons.mp hp with rfl | hp
      · exact .head _
      · rw [List.mem_singleton.mp hp]; exact .tail _ (.head _))
    have fx := fresh_out (h := s.heap) (fp := []) N0 (fun p hp q => nomatch q)
    have e := ext_end (D := []) O FF fun p hp _ => nomatch hp
    obtain ⟨F', N'⟩ := use0 F₀ N₀ e
    have N5 := news_more (news_out F₀ N0 fx) N'
    refine ret _ _ _ _ _ _ _ _ _ hs ?_ ?_ F' N5 (fun p hp => ⟨fun e => ?_, fun e => ?_⟩) ?_
    · intro n hn
      obtain ⟨z, hz, rfl⟩ := List.mem_map.mp hn
      exact Nat.mod_lt _ (Nat.pow_pos (by decide))
    · rw [List.length_map]; exact hwl2
    · exact fx _ (.tail _ (.head _)) _ (by rw [← e]; exact (N₀ p hp).1)
    · exact fx _ (.head _) _ (by rw [← e]; exact (N₀ p hp).1)
    · have := l1.1
      omega
end

/-- the law's cask -/
noncomputable abbrev caskO (C : Addr) (turn : Nat) (t : Tok) (e : Nat) : Obj := listOf #[.ref C, .int (turn : Nat) t] e
structure CaskIs (cs : List Value) (ns : List Nat) : Prop where
  are : NatsAre cs ns
  lt : ∀ n ∈ ns, n < 10 ^ 200
  few : ns.length ≤ 30
section
variable {w : World} {p : Program} {loose : List Str} {mg mb : Str → Option Value} {h₀ : Heap} {A : Around} {s : Shared} {Q E : Value → Shared → Prop} {L : Addr} {m : Str → Option Value} {news : List (Addr × Obj)} {g : Obj → List (Addr × Obj)} {g2 : Obj → Obj → List (Addr × Obj)}
theorem tap_use {c C : Addr} {turn : Nat} {z : Int} {cs : List Value} {ns : List Nat} {t tm : Tok} {e1 e2 : Nat} (hk : CaskIs cs ns) (h0 : 0 < z) (h1 : z ≤ 2 ^ 100) (ht : turn ≤ 1000)
    (F₀ : Fr h₀ L s.heap m) (N₀ : News h₀ L s.heap news) (X₀ : (Hd.KK w.params).In h₀) (T₀ : TopRead p loose mg mb h₀)
    (hc : (c, caskO C turn t e1) ∈ news) (hC : (C, listOf cs.toArray e2) ∈ news) (U : UpdF c (caskO C turn t e1) news g) (U2 : ∀ x, UpdF C (listOf cs.toArray e2) (g x) (g2 x)) (hne : @Ne Nat c C)
    (hu : A.units + 100 < cLine) (hh : A.handled = none) (room : A.depth + 5 < recursionLimit)
    (ret : ∀ h' tk' t' r cs' ns' t1 e1' e2', ((r : Nat) : Int) < z → CaskIs cs' ns' → Fr h₀ L h' m → News h₀ L h' (g2 (caskO C (turn + 1) t1 e1') (listOf cs'.toArray e2')) → Q (.int (r : Nat) t') { s with heap := h', toks := tk' }) :
    wpAny (model PySem.Challenge.rw_qd0064_01.row.prog w) A (call (.ref 424) [.ref c, .int z tm]) Q E s := by
  obtain ⟨many, rfl⟩ := Int.eq_ofNat_of_zero_le (Int.le_of_lt h0)
  have h1' : many ≤ 2 ^ 100 := by
    have : ((2 : Int) ^ 100) = ((2 ^ 100 : Nat) : Int) := rfl
    rw [this] at h1
    exact Int.ofNat_le.mp h1
  exact tap_ok hk.are hk.lt hk.few ht (by omega) h1' F₀ N₀ X₀ T₀ hc hC U U2 hne hu hh room fun h' tk' t' r cs' ns' t1 e1' e2' hr hi hn hl F' N' => ret h' tk' t' r cs' ns' t1 e1' e2' (by omega) ⟨hi, hn, by rw [hl]; exact hk.few⟩ F' N'
end
local macro_rules | `(tactic| tb_rel) => `(tactic| (
  (with_reducible show wpAny _ _ (call (Value.ref 424) [Value.ref _, Value.int _ _]) _ _ _);
  refine' tap_use ?hk ?z0 ?z1 ?ht ?F ?N ?X ?T ?hc ?hC ?U ?U2 ?ne ?hu ?hh ?room ?_; (case F => k_asm); (case N => k_asm); (case X => k_asm); (case T => k_asm); (case hc => k_dflt k_mem); (case hC => k_dflt k_mem); (case hk => with_reducible assumption); (case z0 => first | omega | decide); (case z1 => first | with_reducible assumption | decide); (case ht => omega);
  (case U => k_dflt k_updF); (case U2 => intro x; k_dflt k_updF); (case ne => first | with_reducible assumption | omega); (case hu => walk_at "mk_units"); (case hh => walk_at "mk_hh"); (case room => walk_at "mk_room");
  intro h' tk' t' r' cs' ns' t1' e1' e2' hr' hk' F' N'; (try dsimp only at N'); (try k_sweep)))
section
variable {w : World} {h₀ : Heap} {A : Around} {s : Shared} {Q E : Value → Shared → Prop} {L : Addr} {m : Str → Option Value}
theorem bits_all : ∃ (vs : List Value) (n : Nat) (dd : Option Addr) (sl : Array (Option Value)), (Hd.KK w.params).lookup 412 = some ⟨.type "tuple", dd, .seq vs.toArray n, sl⟩ ∧ vs.length = 10 ∧ ∀ r < 10, ∃ b t, vs[r]? = some (.int ((b : Nat) : Int) t) ∧ b ≤ 1001 := by
  refine ⟨_, _, _, _, by k_dflt k_is, by rfl, fun r hr => ?_⟩
  match r, hr with
  | 0, _ => exact ⟨500, _, rfl, by decide⟩
  | 1, _ => exact ⟨501, _, rfl, by decide⟩
  | 2, _ => exact ⟨499, _, rfl, by decide⟩
  | 3, _ => exact ⟨1000, _, rfl, by decide⟩
  | 4, _ => exact ⟨1001, _, rfl, by decide⟩
  | 5, _ => exact ⟨999, _, rfl, by decide⟩
  | 6, _ => exact ⟨1, _, rfl, by decide⟩
  | 7, _ => exact ⟨0, _, rfl, by decide⟩
  | 8, _ => exact ⟨533, _, rfl, by decide⟩
  | 9, _ => exact ⟨40, _, rfl, by decide⟩
theorem bits_use {value slice : Expr} {r : Nat} {u : Tok} (F : Fr h₀ L s.heap m) (X : (Hd.KK w.params).In h₀) (hr : ((r : Nat) : Int) < 10) (h : ∀ b t, b ≤ 1001 → Q (.int ((b : Nat) : Int) t) s)
    (hs : subscripted slice false (.ref 412) (.int (r : Nat) u) = operate [.ref 412, .int (r : Nat) u] (getItem (.ref 412) (.int (r : Nat) u)) := by with_unfolding_all rfl) :
    wpAny (model PySem.Challenge.rw_qd0064_01.row.prog w) A (subscriptTail value slice (.ref 412) (.int (r : Nat) u)) Q E s := by
  obtain ⟨vs, n, dd, sl, hl, hlen, hall⟩ := bits_all (w := w)
  obtain ⟨b, t, hx, hb⟩ := hall r (by omega)
  refine topTup_K F X hl (by omega) (by omega) (j := r) ?_ hx (h b t hb) hs
  have e : ¬ ((r : Nat) : Int) < 0 := by omega
  unfold seqIndex?
  simp only [e, if_false]
  rw [if_pos (by simp; omega)]
  simp
theorem pow_two {b : Nat} {t u : Tok} (hb : b ≤ 4000) (h : Q (.int ((2 ^ b : Nat) : Int) s.toks) { s with toks := s.toks + 1 }) : wpAny (model PySem.Challenge.rw_qd0064_01.row.prog w) A (binaryOp .Pow (.int 2 t) (.int (b : Nat) u)) Q E s := by
  refine pow_int_small (by omega) (by omega) (by decide) ?_
  have e : (2 : Int) ^ ((b : Nat) : Int).toNat = ((2 ^ b : Nat) : Int) := by rw [Int.toNat_natCast, Int.natCast_pow]; rfl
  rw [e]; exact h
end
noncomputable def B8 : Nat := 2 ^ 8000
theorem bits_nat {a : Nat} (h : a < B8) : Builtin.Int.intBits (a : Int) ≤ 2 ^ 20 := by
  unfold Builtin.Int.intBits
  split
  · decide
  · show a.log2 + 1 ≤ 2 ^ 20
    by_cases h0 : a = 0
    · subst h0; decide
    · have h1 : a.log2 < 8000 := (Nat.log2_lt h0).mpr h
      exact Nat.le_trans h1 (by decide)
theorem bits_r {r : Nat} (h : ((r : Nat) : Int) < 2 ^ Int.toNat 100) : r < B8 := by
  have e : (2 : Int) ^ Int.toNat 100 = ((2 ^ 100 : Nat) : Int) := rfl
  rw [e] at h
  exact Nat.lt_trans (Int.ofNat_lt.mp h) (Nat.pow_lt_pow_right (by decide) (by decide))
theorem bits_p {k : Nat} (h : k < 8000) : 2 ^ k < B8 := Nat.pow_lt_pow_right (by decide) h
theorem mul_nats {a b : Nat} {t u : Tok} (ha : a < B8) (hb : b < B8) (h : Q (.int ((a * b : Nat) : Int) s.toks) { s with toks := s.toks + 1 }) : wpAny (model PySem.Challenge.rw_qd0064_01.row.prog w) A (binaryOp .Mult (.int (a : Nat) t) (.int (b : Nat) u)) Q E s :=
  mul_int h (IntMulOk.of_bits (bits_nat ha) (bits_nat hb))
theorem add_nats {a b : Nat} {t u : Tok} (h : Q (.int ((a + b : Nat) : Int) s.toks) { s with toks := s.toks + 1 }) : wpAny (model PySem.Challenge.rw_qd0064_01.row.prog w) A (binaryOp .Add (.int (a : Nat) t) (.int (b : Nat) u)) Q E s := PySem.P.add_int h
local macro_rules | `(tactic| walk_at "mk_bits") => `(tactic| first | with_reducible assumption | exact bits_r (by with_reducible assumption) | exact bits_p (by omega))
theorem size_hund (b : Nat) : Builtin.Range.rangeSize 0 (b : Int) 100 = (((b + 99) / 100 : Nat) : Int) := by
  unfold Builtin.Range.rangeSize
  simp
  omega
theorem small_hund {b : Nat} (h : b ≤ 1001) : Builtin.Range.small 0 (b : Int) 100 = true := by
  unfold Builtin.Range.small
  rw [size_hund, fits_small (j := 0) (by omega) (by omega), fits_small (j := (b : Int)) (by omega) (by omega), fits_small (j := 100) (by omega) (by omega)]
  simp
  exact ⟨fits_small (by omega) (by omega), .inr (fits_small (by omega) (by omega))⟩
theorem two_add {x b : Nat} (h : x < 2 ^ b) (hb : b ≤ 1001) : x + 2 ^ b < 2 ^ 1002 := by
  have h1 : 2 ^ b ≤ 2 ^ 1001 := Nat.pow_le_pow_right (by decide) hb
  have h2 : (2 : Nat) ^ 1002 = 2 ^ 1001 + 2 ^ 1001 := by rw [show 1002 = 1001 + 1 from rfl, Nat.pow_succ]; omega
  rw [h2]
  exact Nat.add_lt_add_of_lt_of_le (Nat.lt_of_lt_of_le h h1) h1
theorem found_lt {f r i : Nat} (h : f < 2 ^ (i * 100)) (hr : ((r : Nat) : Int) < 2 ^ Int.toNat 100) : f + r * 2 ^ (i * 100) < 2 ^ ((i + 1) * 100) := by
  have e : (2 : Int) ^ Int.toNat 100 = ((2 ^ 100 : Nat) : Int) := rfl
  rw [e] at hr
  have hr' : r + 1 ≤ 2 ^ 100 := Int.ofNat_lt.mp hr
  have h1 : 2 ^ ((i + 1) * 100) = 2 ^ 100 * 2 ^ (i * 100) := by rw [Nat.succ_mul, Nat.pow_add, Nat.mul_comm]
  have h2 : (r + 1) * 2 ^ (i * 100) ≤ 2 ^ 100 * 2 ^ (i * 100) := Nat.mul_le_mul_right _ hr'
  rw [Nat.succ_mul] at h2
  rw [h1]
  omega
theorem two_sub (b : Nat) : ((2 ^ b : Nat) : Int) - 1 = ((2 ^ b - 1 : Nat) : Int) := by
  have : 0 < 2 ^ b := Nat.pow_pos (by decide)
  omega
theorem two_lt {b : Nat} (h : b ≤ 1001) : 2 ^ b - 1 < 2 ^ 1002 ∧ 2 ^ b < 2 ^ 1002 := by
  have h1 : 2 ^ b < 2 ^ 1002 := Nat.pow_lt_pow_right (by decide) (by omega)
  exact ⟨Nat.lt_of_le_of_lt (Nat.sub_le _ _) h1, h1⟩
section
variable {w : World} {p : Program} {loose : List Str} {mg mb : Str → Option Value} {h₀ : Heap} {A : Around} {s : Shared} {Q E : Value → Shared → Prop} {L : Addr} {m : Str → Option Value} {news : List (Addr × Obj)} {g : Obj → List (Addr × Obj)} {g2 : Obj → Obj → List (Addr × Obj)}
set_option pp.deepTerms false in
set_option maxHeartbeats 8000000 in
theorem lmask_ok {c C : Addr} {turn : Nat} {cs : List Value} {ns : List Nat} {t tm : Tok} {e1 e2 : Nat} (hk : CaskIs cs ns) (ht : turn ≤ 900)
    (F₀ : Fr h₀ L s.heap m) (N₀ : News h₀ L s.heap news) (X₀ : (Hd.KK w.params).In h₀) (T₀ : TopRead p loose mg mb h₀)
    (hc : (c, caskO C turn t e1) ∈ news) (hC : (C, listOf cs.toArray e2) ∈ news) (U : UpdF c (caskO C turn t e1) news g) (U2 : ∀ x, UpdF C (listOf cs.toArray e2) (g x) (g2 x)) (hne : @Ne Nat c C)
    (hu : A.units + 110 < cLine) (hh : A.handled = none) (room : A.depth + 7 < recursionLimit)
    (ret : ∀ h' tk' t' M turn' cs' ns' t1 e1' e2', M < 2 ^ 1002 → turn' ≤ turn + 20 → CaskIs cs' ns' → Fr h₀ L h' m → News h₀ L h' (g2 (caskO C turn' t1 e1') (listOf cs'.toArray e2')) → Q (.int (M : Nat) t') { s with heap := h', toks := tk' }) :
    wpAny (model PySem.Challenge.rw_qd0064_01.row.prog w) A (call (.ref 431) [.ref c]) Q E s := by
  have O := own_cur F₀ N₀ hc hC
  have G : Good w p loose mg mb h₀ := ⟨X₀, T₀⟩
  have fin : ∀ {L' : Addr} {h' : Heap} {m' : Str → Option Value} {nw : List (Addr × Obj)} {o1 o2 : Obj}, Fr (hideAll s.heap ([(c, caskO C turn t e1), (C, listOf cs.toArray e2)].map (·.1))) L' h' m' → News (hideAll s.heap ([(c, caskO C turn t e1), (C, listOf cs.toArray e2)].map (·.1))) L' h' nw → (c, o1) ∈ nw → (C, o2) ∈ nw → Fr h₀ L h' m ∧ News h₀ L h' (g2 o1 o2) := fun FF NN m1 m2 =>
    use2 F₀ N₀ U U2 (Ne.symm hne) (N₀.get hC) (ext_end (D := [c, C]) O FF fun p hp hn => by
      rcases List.mem_cons.mp hp with rfl | hp
      · exact absurd (List.Mem.head _) hn
      · rw [List.mem_singleton.mp hp] at hn; exact absurd (List.Mem.tail _ (List.Mem.head _)) hn) (NN.get m1) (NN.get m2) (N₀.fresh hC) (N₀ _ hC).2.1
  refine' enter_ret (binds := [(Str.ofString "cask", .ref c)]) G O ?h1 ?h2 (by walk_at "mk_room") ?h3 ?h4 ?h ?c1 ?c2 ?c3 ?c4
  walk_at "mk_enter"
  intro L h₁ hL F N X T
  k_fold
  (repeat' ((fail_if_success tb_start); first | ((first | ((with_reducible show wpAny _ _ (binaryOp Operator.Pow (Value.int 2 _) (Value.int (Nat.cast _) _)) _ _ _); refine pow_two (by omega) ?_) | ((with_reducible show wpAny _ _ (subscriptTail _ _ (Value.ref 412) (Value.int (Nat.cast _) _)) _ _ _); refine bits_use (by k_asm) (by k_asm) (by with_reducible assumption) ?_; intros) | ((with_reducible show wpAny _ _ (unpackItems (Value.ref _) _ _) _ _ _); k_dflt (refine unpackItemsN_ (by k_asm) (by k_asm) (by kun_tup) (by walk_at "mk_hh") (by exact rfl) ?_); walk_at "mk_in") | tb_rel); (try dsimp only)) | walk_at "mk_tail" | (walk_at "mk_dl"; first | ((first | ((with_reducible show wpAny _ _ (binaryOp Operator.Pow (Value.int 2 _) (Value.int (Nat.cast _) _)) _ _ _); refine pow_two (by omega) ?_) | ((with_reducible show wpAny _ _ (subscriptTail _ _ (Value.ref 412) (Value.int (Nat.cast _) _)) _ _ _); refine bits_use (by k_asm) (by k_asm) (by with_reducible assumption) ?_; intros) | ((with_reducible show wpAny _ _ (unpackItems (Value.ref _) _ _) _ _ _); k_dflt (refine unpackItemsN_ (by k_asm) (by k_asm) (by kun_tup) (by walk_at "mk_hh") (by exact rfl) ?_); walk_at "mk_in") | tb_rel); (try dsimp only)) | walk1) | (walk_at "mk_late"; (try dsimp only))))
  · (with_reducible rename Fr _ _ _ _ => FF); (with_reducible rename News _ _ _ (_ :: _) => NN); (with_reducible rename CaskIs _ _ => HK); (with_reducible rename _ ≤ 1001 => hb)
    obtain ⟨F', N'⟩ := fin FF NN (by k_mem) (by k_mem)
    rw [two_sub]
    exact ret _ _ _ _ _ _ _ _ _ _ (two_lt hb).1 (by omega) HK F' N'
  · (with_reducible rename Fr _ _ _ _ => FF); (with_reducible rename News _ _ _ (_ :: _) => NN); (with_reducible rename CaskIs _ _ => HK); (with_reducible rename _ ≤ 1001 => hb)
    obtain ⟨F', N'⟩ := fin FF NN (by k_mem) (by k_mem)
    exact ret _ _ _ _ _ _ _ _ _ _ (two_lt hb).2 (by omega) HK F' N'
  refine wpAny_For ?_ ?hs
  case hs => intro _; rfl
  walk_at "mk_go"
  rename_i b tb hb h1 tk1 tr r cs1 ns1 t2 e3 e4 hr hk1 D h2 l1 h3 h4 h5 ha h6 F6 N6 h7 tk7 ta ua va R0 q1 F0 N0
  (with_reducible rename IsRange _ _ _ _ _ _ _ _ => R1); (with_reducible rename Fr _ _ _ _ => FF); (with_reducible rename News _ _ _ (_ :: _) => NN)
  have hp : 0 < 2 ^ b := Nat.pow_pos (by decide)
  refine for_range (n := (b + 99) / 100) (fun i m₁ nw => ∃ (f : Nat) (tf : Tok) (cs' : List Value) (ns' : List Nat) (t1 : Tok) (ea eb : Nat), m₁ (Str.ofString "cask") = some (.ref c) ∧ m₁ (Str.ofString "size") = some (.int (b : Nat) tb) ∧ m₁ (Str.ofString "way") = some (.int (r : Nat) tr) ∧
      m₁ (Str.ofString "found") = some (.int (f : Nat) tf) ∧ f < 2 ^ (i * 100) ∧ CaskIs cs' ns' ∧ nw = [(c, caskO C (turn + 2 + i) t1 ea), (C, listOf cs'.toArray eb)])
    (by walk_at "mk_hh") R1 (small_hund (by omega)) (size_hund _) FF (news_sub NN fun p hp => .tail _ hp)
      ⟨0, _, _, _, _, _, _, by walk_at "mk_look", by walk_at "mk_look", by walk_at "mk_look", by walk_at "mk_look", by decide, hk1, rfl⟩ ?_ ?_ rfl rfl (by passes_own)
  · clear FF NN R1 F6 N6
    rintro i ti m₁ nw h8 tk8 I o hi ⟨f, tf, cs', ns', t4, ea, eb, q1, q2, q3, q4, hf, HK, rfl⟩ nI F2 N2
    have i1 : @Ne Nat c I := nI _ (.head _)
    have i2 : @Ne Nat C I := nI _ (.tail _ (.head _))
    have ei : ((0 : Int) + (i : Int) * 100) = ((i * 100 : Nat) : Int) := by omega
    rw [ei] at F2
    clear nI
    (repeat' ((fail_if_success tb_start); first | ((first | ((with_reducible show wpAny _ _ (binaryOp Operator.Pow (Value.int 2 _) (Value.int (Nat.cast _) _)) _ _ _); refine pow_two (by omega) ?_) | ((with_reducible show wpAny _ _ (binaryOp Operator.Add (Value.int (Nat.cast _) _) (Value.int (Nat.cast _) _)) _ _ _); refine add_nats ?_) | ((with_reducible show wpAny _ _ (binaryOp Operator.Mult (Value.int (Nat.cast _) _) (Value.int (Nat.cast _) _)) _ _ _); refine mul_nats (by walk_at "mk_bits") (by walk_at "mk_bits") ?_) | tb_rel); (try dsimp only)) | walk_at "mk_tail" | (walk_at "mk_dl"; first | ((first | ((with_reducible show wpAny _ _ (binaryOp Operator.Pow (Value.int 2 _) (Value.int (Nat.cast _) _)) _ _ _); refine pow_two (by omega) ?_) | ((with_reducible show wpAny _ _ (binaryOp Operator.Add (Value.int (Nat.cast _) _) (Value.int (Nat.cast _) _)) _ _ _); refine add_nats ?_) | ((with_reducible show wpAny _ _ (binaryOp Operator.Mult (Value.int (Nat.cast _) _) (Value.int (Nat.cast _) _)) _ _ _); refine mul_nats (by walk_at "mk_bits") (by walk_at "mk_bits") ?_) | tb_rel); (try dsimp only)) | walk1) | (walk_at "mk_late"; (try dsimp only))))
    (with_reducible rename Fr _ _ _ _ => FF); (with_reducible rename News _ _ _ (_ :: _) => NN); (with_reducible rename CaskIs _ _ => HK2); (with_reducible rename _ < (2 : Int) ^ Int.toNat 100 => hr2)
    refine FStep.next (own := [(I, o)]) FF (news_sub NN fun p hp => hp) ?_ ⟨_, _, _, _, _, _, _, by walk_at "mk_look", by walk_at "mk_look", by walk_at "mk_look", by walk_at "mk_look", found_lt hf hr2, HK2, rfl⟩
    intro p hp q hq'
    rw [List.mem_singleton.mp hq']
    rcases List.mem_cons.mp hp with rfl | hp
    · exact i1
    · rw [List.mem_singleton.mp hp]; exact i2
  · clear FF NN R1 F6 N6
    rintro m₁ nw h8 tk8 ⟨f, tf, cs', ns', t4, ea, eb, q1, q2, q3, q4, hf, HK, rfl⟩ F2 N2
    (repeat' ((fail_if_success tb_start); first | ((first | ((with_reducible show wpAny _ _ (binaryOp Operator.Pow (Value.int 2 _) (Value.int (Nat.cast _) _)) _ _ _); refine pow_two (by omega) ?_) | ((with_reducible show wpAny _ _ (binaryOp Operator.Add (Value.int (Nat.cast _) _) (Value.int (Nat.cast _) _)) _ _ _); refine add_nats ?_) | ((with_reducible show wpAny _ _ (binaryOp Operator.Mod (Value.int (Nat.cast _) _) (Value.int (Nat.cast _) _)) _ _ _); refine mod_nats (by walk_at "mk_fact") ?_) | tb_rel); (try dsimp only)) | walk_at "mk_tail" | (walk_at "mk_dl"; first | ((first | ((with_reducible show wpAny _ _ (binaryOp Operator.Pow (Value.int 2 _) (Value.int (Nat.cast _) _)) _ _ _); refine pow_two (by omega) ?_) | ((with_reducible show wpAny _ _ (binaryOp Operator.Add (Value.int (Nat.cast _) _) (Value.int (Nat.cast _) _)) _ _ _); refine add_nats ?_) | ((with_reducible show wpAny _ _ (binaryOp Operator.Mod (Value.int (Nat.cast _) _) (Value.int (Nat.cast _) _)) _ _ _); refine mod_nats (by walk_at "mk_fact") ?_) | tb_rel); (try dsimp only)) | walk1) | (walk_at "mk_late"; (try dsimp only))))
    · (with_reducible rename Fr _ _ _ _ => FF); (with_reducible rename News _ _ _ (_ :: _) => NN)
      obtain ⟨F', N'⟩ := fin FF NN (by k_mem) (by k_mem)
      exact ret _ _ _ _ _ _ _ _ _ _ (Nat.lt_trans (Nat.mod_lt _ hp) (two_lt hb).2) (by omega) HK F' N'
    · (with_reducible rename Fr _ _ _ _ => FF); (with_reducible rename News _ _ _ (_ :: _) => NN)
      obtain ⟨F', N'⟩ := fin FF NN (by k_mem) (by k_mem)
      exact ret _ _ _ _ _ _ _ _ _ _ (two_add (Nat.mod_lt _ hp) hb) (by omega) HK F' N'
end

section
variable {w : World} {p : Program} {loose : List Str} {mg mb : Str → Option Value} {b : Heap} {A : Around} {s : Shared} {Q E : Value → Shared → Prop} {fp : List (Addr × Obj)}
/-- a def that keeps one of its names in a cell -/
theorem enter_fnC {R : Result → Shared → Prop}
    {name qual : Str} {params : Arguments} {body : List Stmt} {scope : Scope} {dV kV doc pm cdv ct oc : Value} {an od : Option Addr} {osl : Array (Option Value)} {f : Addr} {args : Args} {binds : List (Str × Value)}
    (G : Good w p loose mg mb b) (O : Own b s.heap fp)
    (ho : (Hd.KK w.params).lookup f = some ⟨oc, od, .func (fnOf name qual params body scope dV kV doc pm an cdv ct), osl⟩) (hcd : codeIn (Hd.KK w.params) cdv qual = true)
    (hroom : A.depth < recursionLimit)
    (hbind : BindsTo s (fnOf name qual params body scope dV kV doc pm an cdv ct) args binds) (hkind : (binds.all fun y => scope.names.lookup y.1 == some .local || scope.names.lookup y.1 == some .cell) = true)
    (hnd : ((cellsFrom 0 scope.names []).map (·.1)).Nodup)
    (h : ∀ L h₁ tk cells, s.heap.objs.size ≤ L → Fr (hideAll s.heap (fp.map (·.1))) L h₁ (bindL (envOfC qual scope L f cdv).kindOf binds fun _ => none) → News (hideAll s.heap (fp.map (·.1))) L h₁ (cells ++ fp) →
      CellsAre (bindC (envOfC qual scope L f cdv).kindOf binds fun _ => none) (cellsFrom (L + 1) scope.names []) cells →
      (Hd.KK w.params).In (hideAll s.heap (fp.map (·.1))) → TopRead p loose mg mb (hideAll s.heap (fp.map (·.1))) →
      wpAny (model PySem.Challenge.rw_qd0064_01.row.prog w) (A.deeper (envOfC qual scope L f cdv)) (execs body (envOfC qual scope L f cdv))
        (fun fl s' => R (.ok (.ret (match fl with | .ret v => v | _ => .none))) s') (fun _ _ => False)
        { s with heap := h₁, toks := tk })
    (hco : scope.isCoroutine = false) (hgen : scope.isGenerator = false) (hk : scope.kind = .function) : codeAny (model PySem.Challenge.rw_qd0064_01.row.prog w) A (.call (.ref f) args) R s := by
  have GH := G.keeps O.hide
  refine codeAny_call_function hroom (O.st _ _ (G.X _ _ ho)) rfl hco hgen rfl (codeRec_of (G.X.keeps O.st) hcd) (hbind _ _ _ _ ?_)
  refine wpAny_newFunctionEnv_cells hk (kindsX hkind _) fun env' he s' x => ?_
  subst he
  refine ⟨(G.T.nolimit.keeps O.st).keeps x.toInCall.keep, codeAny_func ?_⟩
  obtain ⟨h₁, tk, rfl, _⟩ := x.done
  have hk₁ := x.toInCall.keep
  obtain ⟨cells, NC, Y⟩ := Cl.news (h₀ := s.heap) (Nat.le_refl _) fun n c hm => ⟨x.cell n c (lookup_of_mem_nodup (cellsFrom_names scope.names 0 (s.heap.objs.size + 1) [] [] rfl ▸ hnd) hm), x.above n c hm⟩
  refine wpAny_mono (h s.heap.objs.size h₁ tk cells (Nat.le_refl _) ⟨x.toInCall.ns, fun b o e => hk₁ b o (of_hideAll _ e), Nat.le_of_eq (hideAll_size _ _)⟩ (fun p hp => ?_) Y GH.X GH.T) (fun _ _ y => y) fun _ _ y => y.elim
  rcases List.mem_append.mp hp with hp | hp
  · refine ⟨(NC p hp).1, (NC p hp).2.1, ?_⟩
    cases q : (hideAll s.heap (fp.map (·.1))).get? p.1 with
    | none => rfl
    | some o => have := of_hideAll _ q; rw [(NC p hp).2.2] at this; cases this
  · exact ⟨hk₁ _ _ (O.at_ p hp), Nat.ne_of_lt (Heap.lt_size (O.at_ p hp)), hideAll_none _ (List.mem_map_of_mem hp)⟩
theorem enter_retC
    {name qual : Str} {params : Arguments} {body : List Stmt} {scope : Scope} {dV kV doc pm cdv ct oc : Value} {an od : Option Addr} {osl : Array (Option Value)} {f : Addr} {args : List Value} {binds : List (Str × Value)}
    (G : Good w p loose mg mb b) (O : Own b s.heap fp)
    (ho : (Hd.KK w.params).lookup f = some ⟨oc, od, .func (fnOf name qual params body scope dV kV doc pm an cdv ct), osl⟩) (hcd : codeIn (Hd.KK w.params) cdv qual = true)
    (hroom : A.depth < recursionLimit)
    (hbind : BindsTo s (fnOf name qual params body scope dV kV doc pm an cdv ct) ⟨args, []⟩ binds) (hkind : (binds.all fun y => scope.names.lookup y.1 == some .local || scope.names.lookup y.1 == some .cell) = true)
    (hnd : ((cellsFrom 0 scope.names []).map (·.1)).Nodup)
    (h : ∀ L h₁ tk cells, s.heap.objs.size ≤ L → Fr (hideAll s.heap (fp.map (·.1))) L h₁ (bindL (envOfC qual scope L f cdv).kindOf binds fun _ => none) → News (hideAll s.heap (fp.map (·.1))) L h₁ (cells ++ fp) →
      CellsAre (bindC (envOfC qual scope L f cdv).kindOf binds fun _ => none) (cellsFrom (L + 1) scope.names []) cells →
      (Hd.KK w.params).In (hideAll s.heap (fp.map (·.1))) → TopRead p loose mg mb (hideAll s.heap (fp.map (·.1))) →
      wpAny (model PySem.Challenge.rw_qd0064_01.row.prog w) (A.deeper (envOfC qual scope L f cdv)) (execs body (envOfC qual scope L f cdv))
        (fun fl s' => Q (match fl with | .ret v => v | _ => .none) s') (fun _ _ => False)
        { s with heap := h₁, toks := tk })
    (hco : scope.isCoroutine = false) (hgen : scope.isGenerator = false) (hk : scope.kind = .function) : wpAny (model PySem.Challenge.rw_qd0064_01.row.prog w) A (call (.ref f) args) Q E s :=
  wpAny_call (enter_fnC G O ho hcd hroom hbind hkind hnd (fun L h₁ tk cells l F N Y X T => wpAny_mono (h L h₁ tk cells l F N Y X T) (fun _ _ x => x) (fun _ _ x => x.elim)) hco hgen hk)
end
theorem pts_takeB {B : Nat} (h5 : 0 < B) (lt : ∀ M, M < B → pts M = [M]) (ge : ∀ M, ¬ M < B → pts M = M % B :: pts (M / B)) (n : Nat) : ∀ M, M < B ^ (n + 1) → (n = 0 ∨ B ^ n ≤ M) → pts M = (List.range (n + 1)).map fun j => M / B ^ j % B := by
  induction n with
  | zero =>
    intro M h _
    have h' : M < B := by simpa using h
    rw [lt M h']
    simp [Nat.mod_eq_of_lt h']
  | succ n ih =>
    intro M h hb
    have hb : B ^ (n + 1) ≤ M := by rcases hb with q | q; omega; exact q
    have h1 : B ≤ M := Nat.le_trans (by rw [Nat.pow_succ]; exact Nat.le_mul_of_pos_left _ (Nat.pow_pos h5)) hb
    have h2 : M / B < B ^ (n + 1) := (Nat.div_lt_iff_lt_mul h5).mpr (by rw [← Nat.pow_succ]; exact h)
    have h3 : B ^ n ≤ M / B := (Nat.le_div_iff_mul_le h5).mpr (by rw [← Nat.pow_succ]; exact hb)
    rw [ge M (Nat.not_lt.mpr h1), ih (M / B) h2 (.inr h3), List.range_succ_eq_map (n := n + 1), List.map_cons, List.map_map]
    congr 1
    · simp
    · refine List.map_congr_left fun j _ => ?_
      show M / B / B ^ j % B = M / B ^ (j + 1) % B
      rw [Nat.div_div_eq_div_mul, Nat.pow_succ, Nat.mul_comm]
theorem part_lastB {B n M : Nat} (h5 : 0 < B) (h : M < B ^ (n + 1)) (hz : M / B ^ n % B = 0) : M < B ^ n := by
  have h1 : M / B ^ n < B := (Nat.div_lt_iff_lt_mul (Nat.pow_pos h5)).mpr (by rw [Nat.mul_comm, ← Nat.pow_succ]; exact h)
  rw [Nat.mod_eq_of_lt h1] at hz
  rcases (Nat.div_eq_zero_iff).mp hz with q | q
  · exact absurd q (Nat.ne_of_gt (Nat.pow_pos h5))
  · exact q
theorem part_someB {B n M : Nat} (hz : M / B ^ n % B ≠ 0) : B ^ n ≤ M := by
  by_cases h : B ^ n ≤ M
  · exact h
  · exact absurd (by rw [Nat.div_eq_of_lt (Nat.lt_of_not_le h)]; exact Nat.zero_mod _) hz
theorem nats_snoc {n : Nat} {t : Tok} {vs : List Value} {ns : List Nat} (h : NatsAre vs ns) : NatsAre (vs ++ [.int (n : Nat) t]) (ns ++ [n]) := by
  unfold NatsAre at h ⊢
  rw [List.map_append]
  exact IntsAre.snoc h
theorem P5_pos0 : 0 < P5 := Nat.lt_trans Nat.zero_lt_one P5_pos
noncomputable def part (M j : Nat) : Nat := M / P5 ^ j % P5
section
variable {w : World} {A : Around} {s : Shared} {Q E : Value → Shared → Prop}
theorem bits_small {a : Nat} (h : a ≤ 1000) : a < B8 := Nat.lt_of_le_of_lt h (Nat.lt_of_lt_of_le (by decide : 1000 < 2 ^ 10) (Nat.pow_le_pow_right (by decide) (by decide)))
theorem mul_500 {a : Nat} {t u : Tok} (ha : a ≤ 100) (h : Q (.int ((500 * a : Nat) : Int) s.toks) { s with toks := s.toks + 1 }) : wpAny (model PySem.Challenge.rw_qd0064_01.row.prog w) A (binaryOp .Mult (.int 500 t) (.int (a : Nat) u)) Q E s :=
  mul_nats (a := 500) (bits_small (by decide)) (bits_small (Nat.le_trans ha (by decide))) h
theorem fdiv_big {a b : Nat} {t u : Tok} (hb : 0 < b) (hb2 : b < B8) (h : Q (.int ((a / b : Nat) : Int) s.toks) { s with toks := s.toks + 1 }) : wpAny (model PySem.Challenge.rw_qd0064_01.row.prog w) A (binaryOp .FloorDiv (.int (a : Nat) t) (.int (b : Nat) u)) Q E s := by
  refine floordiv_int (by omega) ?_ (Or.inl (PyProof.noPylong_of_log2 ?_))
  · rw [Int.fdiv_eq_ediv_of_nonneg _ (by omega)]
    exact h
  · show b.log2 < 9000
    exact Nat.lt_trans ((Nat.log2_lt (Nat.ne_of_gt hb)).mpr hb2) (by decide)
theorem mod_500 {a : Nat} {t u : Tok} (h : Q (.int ((a % P5 : Nat) : Int) s.toks) { s with toks := s.toks + 1 }) : wpAny (model PySem.Challenge.rw_qd0064_01.row.prog w) A (binaryOp .Mod (.int (a : Nat) t) (.int (2 ^ Int.toNat 500) u)) Q E s := by
  have e : (2 : Int) ^ Int.toNat 500 = ((P5 : Nat) : Int) := by unfold P5; rfl
  rw [e]
  exact mod_nats (Nat.lt_trans Nat.zero_lt_one P5_pos) h
end
theorem len_led {prog : Program} {w : World} {A : Around} {E : Value → Shared → Prop} {s : Shared} {h₀ : Heap} {L D : Addr} {news : List (Addr × Obj)} {vs : List Value} {e : Nat} {Q : Value → Shared → Prop} (N : News h₀ L s.heap news) (hm : (D, listOf vs.toArray e) ∈ news) (hs : vs.length ≤ 1000)
    (h : Q (.int (vs.length : Nat) (s.toks + 1)) { s with toks := s.toks + 1 + 1 }) : wpAny (model prog w) A (call (.builtin "len") [.ref D]) Q E s :=
  len_list (items := vs.toArray) ⟨_, N.get hm, rfl, e, rfl⟩ (by rw [List.size_toArray]; omega) (by rw [List.size_toArray]; exact h)
theorem pop_led {prog : Program} {w : World} {A : Around} {E : Value → Shared → Prop} {s : Shared} {h₀ : Heap} {L D : Addr} {m : Str → Option Value} {news : List (Addr × Obj)} {g : Obj → List (Addr × Obj)} {vs : List Value} {ns : List Nat} {x e : Nat} {Q : Value → Shared → Prop} (F : Fr h₀ L s.heap m) (N : News h₀ L s.heap news) (U : UpdF D (listOf vs.toArray e) news g) (hi : NatsAre vs (ns ++ [x])) (hs : vs.length ≤ 1000)
    (h : ∀ h' t, Fr h₀ L h' m → News h₀ L h' (g (listOf vs.dropLast.toArray (e + 1))) → NatsAre vs.dropLast ns → Q (.int ((x : Nat) : Int) t) { s with heap := h' }) : wpAny (model prog w) A (call (.builtin "list.pop") [.ref D]) Q E s := by
  have hlen := hi.len
  rw [List.length_append, List.length_singleton] at hlen
  have hi2 : IntsAre vs (ns.map (fun n : Nat => (n : Int)) ++ [(x : Int)]) := by
    have := hi
    unfold NatsAre at this
    rw [List.map_append] at this
    exact this
  refine kpa_pop F N (updF_upd U) hi2 (by omega) (by rw [sizeLine_eq]; omega) fun h' t F' N' hI => ?_
  have e1 : (ns.map (fun n : Nat => (n : Int)) ++ [(x : Int)]).getLastD 0 = (x : Int) := by simp
  rw [e1]
  refine h h' t F' N' ?_
  rw [List.dropLast_concat] at hI
  exact hI
theorem sub_last {prog : Program} {w : World} {A : Around} {E : Value → Shared → Prop} {s : Shared} {h₀ : Heap} {L D : Addr} {news : List (Addr × Obj)} {vs : List Value} {ns : List Nat} {x e : Nat} {u : Tok} {value slice : Expr} {Q : Value → Shared → Prop} (N : News h₀ L s.heap news) (hm : (D, listOf vs.toArray e) ∈ news) (hi : NatsAre vs (ns ++ [x])) (hs : vs.length ≤ 1000)
    (h : ∀ t, Q (.int ((x : Nat) : Int) t) s) (hq : subscripted slice false (.ref D) (.int (-1) u) = operate [.ref D, .int (-1) u] (getItem (.ref D) (.int (-1) u)) := by with_unfolding_all rfl) :
    wpAny (model prog w) A (subscriptTail value slice (.ref D) (.int (-1) u)) Q E s := by
  have hl : s.heap.IsList D vs.toArray := ⟨_, N.get hm, rfl, e, rfl⟩
  have hlen := hi.len
  rw [List.length_append, List.length_singleton] at hlen
  have hx : (ns.map (fun n : Nat => (n : Int)) ++ [(x : Int)])[ns.length]? = some (x : Int) := by simp
  have hi2 : IntsAre vs (ns.map (fun n : Nat => (n : Int)) ++ [(x : Int)]) := by
    have := hi
    unfold NatsAre at this
    rw [List.map_append] at this
    exact this
  obtain ⟨t, ht⟩ := hi2.get _ _ hx
  refine tail_any hl.typeIs slot_list_getitem.lookup (wpAny_getItem_list_neg hl (by decide) (by rw [List.size_toArray]; omega) (by decide) ?_ (h t)) hq
  rw [List.size_toArray]
  have : ((-1 : Int) + (vs.length : Int)).toNat = ns.length := by omega
  rw [this]
  simpa using ht
theorem post_asgS {prog : Program} {w : World} {A : Around} {E : Value → Shared → Prop} {s : Shared} {env : Env} {h₀ : Heap} {m : Str → Option Value} {y : Str} {py : Pos} {Q : Shared → Prop} {h' : Heap} {tk : Nat} {mC : Str → Option Value} {l : List (Addr × Obj)} {D C : Addr}
    (hy : env.kindOf y = some .local) (hp : (env.scope.kind == .class || (env.scope.kind == .module && env.locals != env.globals)) = false)
    (hn : h'.Ns C mC) (F : Fr h₀ env.locals h' m) (N : News h₀ env.locals h' l) (hC0 : h₀.get? C = none) (hCL : C ≠ env.locals) (hl : ∀ p ∈ l, p.1 ≠ C)
    (done : ∀ h' tk, Fr h₀ env.locals h' (fun z => if z = y then some (.ref D) else m z) → News h₀ env.locals h' l → Q { s with heap := h', toks := tk }) :
    compPost (model prog w) A E (some (assign (.Name y py) env)) (fun _ s' => Q s') (.ref D) C (.ok .next) { s with heap := h', toks := tk } :=
  post_asg (Q := fun _ s' => Q s') hy hp hn F N hC0 hCL hl done
local macro_rules | `(tactic| tb_rel) => `(tactic| ((with_reducible show wpAny _ _ (eval (Expr.Name _ _) (envOfC _ _ _ _ _)) _ _ _); k_dflt (first
  | (refine' cname_L ?F ?v ?_ ?hk ?hx; (case hk => rfl); (case hx => rfl); (case F => first | k_asm | assumption); (case v => walk_at "mk_look"))
  | (refine' cname_C ?N ?m ?d ?_ ?hk ?hx ?hc; (case hk => rfl); (case hx => rfl); (case hc => rfl); (case N => k_asm); (case m => k_mem); (case d => first | rfl | assumption))
  | (refine' cname_K ?F ?X ?T ?e ?_ ?hk ?hx ?hg; (case hk => rfl); (case hx => rfl); (case hg => rfl); (case F => k_asm); (case X => k_asm); (case T => k_asm); (case e => k_is))
  | (refine' cname_B ?F ?X ?T ?e ?v ?n ?_ ?hk ?hx ?hg ?hb; (case hk => rfl); (case hx => rfl); (case hg => rfl); (case hb => rfl); (case F => k_asm); (case X => k_asm); (case T => k_asm); (case e => k_is); (case v => boot_by_name); (case n => decide)))))
section
variable {w : World} {p : Program} {loose : List Str} {mg mb : Str → Option Value} {h₀ : Heap} {A : Around} {s : Shared} {Q E : Value → Shared → Prop} {L : Addr} {m : Str → Option Value} {news : List (Addr × Obj)}
set_option pp.deepTerms false in
set_option maxHeartbeats 8000000 in
theorem lparts_ok {M : Nat} {tm : Tok} (hM : M < 2 ^ 1002)
    (F₀ : Fr h₀ L s.heap m) (N₀ : News h₀ L s.heap news) (X₀ : (Hd.KK w.params).In h₀) (T₀ : TopRead p loose mg mb h₀) (hu : A.units + 110 < cLine) (hh : A.handled = none) (room : A.depth + 5 < recursionLimit)
    (ret : ∀ h' tk' S vs e, Fr h₀ L h' m → News h₀ L h' news → News h₀ L h' [(S, listOf vs.toArray e)] → (∀ o, s.heap.get? S = some o → False) → NatsAre vs (pts M) → Q (.ref S) { s with heap := h', toks := tk' }) :
    wpAny (model PySem.Challenge.rw_qd0064_01.row.prog w) A (call (.ref 436) [.int (M : Nat) tm]) Q E s := by
  have O : Own h₀ s.heap [] := ⟨F₀.keep, (fun _ h => nomatch h), (fun _ h => nomatch h)⟩
  have G : Good w p loose mg mb h₀ := ⟨X₀, T₀⟩
  refine' enter_retC (binds := [(Str.ofString "mask", .int (M : Nat) tm)]) G O ?h1 ?h2 (by walk_at "mk_room") ?h3 ?h4 ?h5 ?h ?c1 ?c2 ?c3
  case h1 => k_dflt k_is
  case h2 => k_dflt k_is
  case h3 => first | exact BindsTo.of_eq rfl | exact binds_K (Good.X (Good.keeps (by with_reducible assumption) (Own.st (by with_reducible assumption)))) rfl (by k_dflt k_is) rfl rfl rfl
  case h4 => rfl
  case h5 => decide
  case c1 => rfl
  case c2 => rfl
  case c3 => rfl
  intro L h₁ tk cells hL F N Y X T
  obtain ⟨o, rfl, hd0⟩ := CellsAre.one Y
  have hd : o.data = .cell (some (.int (M : Nat) tm)) := hd0
  clear hd0 Y
  replace N : News _ L h₁ [(L + 1, o)] := N
  try k_fold
  walk_at "mk_go"
  refine comp_assign (cl := [(Str.ofString "mask", L + 1)]) (by with_unfolding_all rfl) (by with_unfolding_all rfl) (by rfl) (by decide) ?_
  walk_at "mk_go"
  (with_reducible rename IsRange _ _ _ _ _ _ _ _ => R1); (with_reducible rename Fr _ _ _ _ => FF); (with_reducible rename News _ _ _ (_ :: _) => NN)
  refine comp_range (n := 8) (fun i ys nw => NatsAre ys ((List.range i).map (part M)) ∧ nw = [(L + 1, o)]) (by walk_at "mk_hh") R1 (by decide) (by decide) (by rw [sizeLine_eq]; decide) FF NN ⟨.nil, rfl⟩ (by decide) (by rfl) (by rfl) ?_ ?_
  · clear FF NN R1
    rintro i t ys k nw h2 tk2 I o2 C D mC g hi hlen ⟨hys, rfl⟩ hn1 hn2 hk F2 N2
    have ei : ((0 : Int) + (i : Int) * 1) = ((i : Nat) : Int) := by omega
    rw [ei] at F2
    have X2 := X.keeps hk
    have T2 := T.keeps hk
    clear X T
    dsimp only
    (repeat' ((fail_if_success tb_start); first | ((first | ((with_reducible show wpAny _ _ (binaryOp Operator.Mod (Value.int (Nat.cast _) _) (Value.int (2 ^ Int.toNat 500) _)) _ _ _); refine mod_500 ?_) | ((with_reducible show wpAny _ _ (binaryOp Operator.FloorDiv (Value.int (Nat.cast _) _) (Value.int (Nat.cast (2 ^ _)) _)) _ _ _); refine fdiv_big (Nat.pow_pos (by decide)) (by walk_at "mk_bits") ?_) | ((with_reducible show wpAny _ _ (binaryOp Operator.Mult (Value.int 500 _) (Value.int (Nat.cast _) _)) _ _ _); refine mul_500 (by omega) ?_) | ((with_reducible show wpAny _ _ (binaryOp Operator.Pow (Value.int 2 _) (Value.int (Nat.cast _) _)) _ _ _); refine pow_two (by omega) ?_) | tb_rel); (try dsimp only)) | walk_at "mk_tail" | (walk_at "mk_dl"; first | ((first | ((with_reducible show wpAny _ _ (binaryOp Operator.Mod (Value.int (Nat.cast _) _) (Value.int (2 ^ Int.toNat 500) _)) _ _ _); refine mod_500 ?_) | ((with_reducible show wpAny _ _ (binaryOp Operator.FloorDiv (Value.int (Nat.cast _) _) (Value.int (Nat.cast (2 ^ _)) _)) _ _ _); refine fdiv_big (Nat.pow_pos (by decide)) (by walk_at "mk_bits") ?_) | ((with_reducible show wpAny _ _ (binaryOp Operator.Mult (Value.int 500 _) (Value.int (Nat.cast _) _)) _ _ _); refine mul_500 (by omega) ?_) | ((with_reducible show wpAny _ _ (binaryOp Operator.Pow (Value.int 2 _) (Value.int (Nat.cast _) _)) _ _ _); refine pow_two (by omega) ?_) | tb_rel); (try dsimp only)) | walk1) | (walk_at "mk_late"; (try dsimp only))))
    have ep : M / 2 ^ (500 * i) % P5 = part M i := by unfold part P5; rw [← Nat.pow_mul]
    rw [ep]
    refine CStep.intro (by assumption) (by assumption) (fun p hp => ?_) ⟨?_, rfl⟩
    · rw [List.mem_singleton.mp hp]
      refine ⟨(hn1 _ (.head _)).1, fun q hq => ?_⟩
      rw [List.mem_singleton.mp hq]
      exact (hn1 _ (.head _)).2
    · rw [List.range_succ, List.map_append]
      exact nats_snoc hys
  · clear FF NN R1
    rintro h2 tk2 mC ys k nw D C ⟨hys, rfl⟩ hlen hn2 F2 N2 f1 hC0 hCL hC
    refine' post_asgS ?pa ?pb ?pc ?pd ?pe ?pf ?pg ?ph ?_
    (case pa => rfl)
    (case pb => rfl)
    (case pc => exact hn2)
    (case pd => exact F2)
    (case pe => exact N2)
    (case pf => exact hC0)
    (case pg => exact hCL)
    (case ph => exact hC)
    intro h3 tk3 F3 N3
    clear F2 N2
    dsimp only
    walk_at "mk_go"
    have FF : Fr _ L h3 _ := F3
    have NN : News _ L h3 _ := N3
    have hM8 : M < P5 ^ 8 := by
      have e : P5 ^ 8 = 2 ^ 4000 := by unfold P5; rw [← Nat.pow_mul]
      rw [e]
      exact Nat.lt_trans hM (Nat.pow_lt_pow_right (by decide) (by decide))
    refine while_mkN (fun n nw => ∃ vs' e, NatsAre vs' ((List.range n).map (part M)) ∧ 1 ≤ n ∧ n ≤ 8 ∧ M < P5 ^ n ∧ nw = [(D, listOf vs'.toArray e), (L + 1, o)]) (n₀ := 8) FF NN ⟨ys, k, hys, by decide, by decide, hM8, rfl⟩ ?_
    rintro n nw h4 tk4 F4 N4 ⟨vs', e, hv, h1, h8, hMn, rfl⟩
    clear F3 N3 FF NN
    have hvl : vs'.length = n := by rw [hv.len, List.length_map, List.length_range]
    have hvl2 : (List.map (fun n : Nat => (n : Int)) ((List.range n).map (part M))).length = n := by rw [List.length_map, List.length_map, List.length_range]
    have fin : ∀ {h' : Heap} {m' : Str → Option Value} {tk' : Nat} {n : Nat} {vs' : List Value} {e : Nat}, Fr (hideAll s.heap (([] : List (Addr × Obj)).map (·.1))) L h' m' → News (hideAll s.heap (([] : List (Addr × Obj)).map (·.1))) L h' [(D, listOf vs'.toArray e), (L + 1, o)] → NatsAre vs' ((List.range (n + 1)).map (part M)) → M < P5 ^ (n + 1) → (n = 0 ∨ P5 ^ n ≤ M) → Q (.ref D) { s with heap := h', toks := tk' } := fun {h' m' tk' n vs' e} FF NN hv hb hn => by
      have N0 : News _ _ _ [(D, listOf vs'.toArray e)] := news_sub NN (fun p hp => by rw [List.mem_singleton.mp hp]; exact .head _)
      have fx := fresh_out (h := s.heap) (fp := []) N0 (fun p hp q => nomatch q)
      have e1 := ext_end (D := []) O FF fun p hp _ => nomatch hp
      obtain ⟨F', N'⟩ := use0 F₀ N₀ e1
      refine ret _ _ _ _ _ F' N' (news_out F₀ N0 fx) (fun o e => fx _ (.head _) o e) ?_
      rw [pts_takeB P5_pos0 (fun M h => pts_lt h) (fun M h => pts_ge h) n M hb hn]
      exact hv
    by_cases hn1 : n = 1
    · subst hn1
      (repeat' ((fail_if_success tb_start); first | ((first | ((with_reducible show wpAny _ _ (call (Value.builtin "len") [Value.ref _]) _ _ _); refine len_led (by k_asm) (by k_dflt k_mem) (by first | omega | decide) ?_) | tb_rel); (try dsimp only)) | walk_at "mk_tail" | (walk_at "mk_dl"; first | ((first | ((with_reducible show wpAny _ _ (call (Value.builtin "len") [Value.ref _]) _ _ _); refine len_led (by k_asm) (by k_dflt k_mem) (by first | omega | decide) ?_) | tb_rel); (try dsimp only)) | walk1) | (walk_at "mk_late"; (try dsimp only))))
      (with_reducible rename Fr _ _ _ _ => FF); (with_reducible rename News _ _ _ (_ :: _) => NN)
      exact fin FF NN hv hMn (.inl rfl)
    · obtain ⟨j, rfl⟩ : ∃ j, n = j + 2 := ⟨n - 2, by omega⟩
      have hv2 : NatsAre vs' ((List.range (j + 1)).map (part M) ++ [part M (j + 1)]) := by
        rw [List.range_succ, List.map_append] at hv; exact hv
      by_cases hz : part M (j + 1) = 0
      · have hq : (((part M (j + 1) : Nat) : Int) == 0) = true := by rw [hz]; rfl
        (repeat' ((fail_if_success tb_start); first | ((first | ((with_reducible show wpAny _ _ (subscriptTail _ _ (Value.ref _) (Value.int (-1) _)) _ _ _); refine sub_last (by k_asm) (by k_dflt k_mem) (by with_reducible assumption) (by omega) ?_; intros) | ((with_reducible show wpAny _ _ (call (Value.builtin "list.pop") [Value.ref _]) _ _ _); refine pop_led (by k_asm) (by k_asm) (by k_dflt k_updF) (by with_reducible assumption) (by omega) ?_; walk_at "mk_inN") | ((with_reducible show wpAny _ _ (call (Value.builtin "len") [Value.ref _]) _ _ _); refine len_led (by k_asm) (by k_dflt k_mem) (by first | omega | decide) ?_) | tb_rel); (try dsimp only)) | walk_at "mk_tail" | (walk_at "mk_dl"; first | ((first | ((with_reducible show wpAny _ _ (subscriptTail _ _ (Value.ref _) (Value.int (-1) _)) _ _ _); refine sub_last (by k_asm) (by k_dflt k_mem) (by with_reducible assumption) (by omega) ?_; intros) | ((with_reducible show wpAny _ _ (call (Value.builtin "list.pop") [Value.ref _]) _ _ _); refine pop_led (by k_asm) (by k_asm) (by k_dflt k_updF) (by with_reducible assumption) (by omega) ?_; walk_at "mk_inN") | ((with_reducible show wpAny _ _ (call (Value.builtin "len") [Value.ref _]) _ _ _); refine len_led (by k_asm) (by k_dflt k_mem) (by first | omega | decide) ?_) | tb_rel); (try dsimp only)) | walk1) | (walk_at "mk_late"; (try dsimp only))))
        (with_reducible rename Fr _ _ _ _ => FF); (with_reducible rename News _ _ _ (_ :: _) => NN); (with_reducible rename NatsAre (List.dropLast _) _ => HV)
        exact WStepN.next FF NN (show j + 1 < j + 2 by omega) ⟨_, _, HV, by omega, by omega, part_lastB P5_pos0 hMn hz, rfl⟩
      · have hq : (((part M (j + 1) : Nat) : Int) == 0) = false := by rw [beq_eq_false_iff_ne]; omega
        (repeat' ((fail_if_success tb_start); first | ((first | ((with_reducible show wpAny _ _ (subscriptTail _ _ (Value.ref _) (Value.int (-1) _)) _ _ _); refine sub_last (by k_asm) (by k_dflt k_mem) (by with_reducible assumption) (by omega) ?_; intros) | ((with_reducible show wpAny _ _ (call (Value.builtin "len") [Value.ref _]) _ _ _); refine len_led (by k_asm) (by k_dflt k_mem) (by first | omega | decide) ?_) | tb_rel); (try dsimp only)) | walk_at "mk_tail" | (walk_at "mk_dl"; first | ((first | ((with_reducible show wpAny _ _ (subscriptTail _ _ (Value.ref _) (Value.int (-1) _)) _ _ _); refine sub_last (by k_asm) (by k_dflt k_mem) (by with_reducible assumption) (by omega) ?_; intros) | ((with_reducible show wpAny _ _ (call (Value.builtin "len") [Value.ref _]) _ _ _); refine len_led (by k_asm) (by k_dflt k_mem) (by first | omega | decide) ?_) | tb_rel); (try dsimp only)) | walk1) | (walk_at "mk_late"; (try dsimp only))))
        all_goals (with_reducible rename Fr _ _ _ _ => FF); (with_reducible rename News _ _ _ (_ :: _) => NN)
        all_goals exact fin FF NN hv hMn (.inr (part_someB hz))
end

theorem sub_first {prog : Program} {w : World} {A : Around} {E : Value → Shared → Prop} {s : Shared} {h₀ : Heap} {L D : Addr} {news : List (Addr × Obj)} {vs : List Value} {ns : List Nat} {x e : Nat} {u : Tok} {value slice : Expr} {Q : Value → Shared → Prop} (N : News h₀ L s.heap news) (hm : (D, listOf vs.toArray e) ∈ news) (hi : NatsAre vs (x :: ns)) (hs : vs.length ≤ 1000)
    (h : ∀ t, Q (.int ((x : Nat) : Int) t) s) (hq : subscripted slice false (.ref D) (.int 0 u) = operate [.ref D, .int 0 u] (getItem (.ref D) (.int 0 u)) := by with_unfolding_all rfl) :
    wpAny (model prog w) A (subscriptTail value slice (.ref D) (.int 0 u)) Q E s :=
  sub_nats (k := 0) N hm hi (by rw [hi.len]; simp) hs h hq
theorem nats_at : ∀ {vs : List Value} {ns : List Nat} {i : Nat} {v : Value}, NatsAre vs ns → vs[i]? = some v → ∃ n t, ns[i]? = some n ∧ v = .int (n : Int) t := fun h hv => IntsAre.nat_at h hv
section
variable {w : World} {p : Program} {loose : List Str} {mg mb : Str → Option Value} {h₀ : Heap} {A : Around} {s : Shared} {Q E : Value → Shared → Prop} {L : Addr} {m : Str → Option Value} {news : List (Addr × Obj)}
set_option pp.deepTerms false in
set_option maxHeartbeats 8000000 in
theorem spelled_ok {M : Nat} {S : Addr} {vs : List Value} {e : Nat} (hv : NatsAre vs (pts M)) (hM : ∀ n ∈ pts M, (dg n).length ≤ 160) (hlen : (pts M).length ≤ 900)
    (F₀ : Fr h₀ L s.heap m) (N₀ : News h₀ L s.heap news) (X₀ : (Hd.KK w.params).In h₀) (T₀ : TopRead p loose mg mb h₀) (hT : (S, listOf vs.toArray e) ∈ news) (hu : A.units + 110 < cLine) (hh : A.handled = none) (room : A.depth + 5 < recursionLimit)
    (ret : ∀ h' tk' t', Fr h₀ L h' m → News h₀ L h' news → Q (.str (tx (spell M)) t') { s with heap := h', toks := tk' }) :
    wpAny (model PySem.Challenge.rw_qd0064_01.row.prog w) A (call (.ref 441) [.ref S]) Q E s := by
  have O := own_one F₀ N₀ hT
  have G : Good w p loose mg mb h₀ := ⟨X₀, T₀⟩
  have hvl : vs.length = (pts M).length := hv.len
  refine' enter_ret (binds := [(Str.ofString "parts", .ref S)]) G O ?h1 ?h2 (by walk_at "mk_room") ?h3 ?h4 ?h ?c1 ?c2 ?c3 ?c4
  walk_at "mk_enter"
  intro L h₁ hL F N X T
  k_fold
  by_cases h1 : M < P5
  · have e1 : spell M = dg M := if_pos h1
    have e2 := pts_lt h1
    rw [e1] at ret
    rw [e2] at hv hvl hM
    have hM2 := hM M (.head _)
    have hl1 : vs.length = 1 := hvl
    have hl2 : (((vs.length : Nat) : Int) == 1) = true := by rw [hl1]; rfl
    (repeat' ((fail_if_success tb_start); first | ((first | ((with_reducible show wpAny _ _ (call (Value.type "str") [Value.int (Nat.cast _) _]) _ _ _); refine str_nat (by with_reducible assumption) ?_) | ((with_reducible show wpAny _ _ (subscriptTail _ _ (Value.ref _) (Value.int 0 _)) _ _ _); refine sub_first (by k_asm) (by k_dflt k_mem) (by with_reducible assumption) (by omega) ?_; intros) | ((with_reducible show wpAny _ _ (call (Value.builtin "len") [Value.ref _]) _ _ _); refine len_led (by k_asm) (by k_dflt k_mem) (by first | omega | decide) ?_) | tb_rel); (try dsimp only)) | walk_at "mk_tail" | (walk_at "mk_dl"; first | ((first | ((with_reducible show wpAny _ _ (call (Value.type "str") [Value.int (Nat.cast _) _]) _ _ _); refine str_nat (by with_reducible assumption) ?_) | ((with_reducible show wpAny _ _ (subscriptTail _ _ (Value.ref _) (Value.int 0 _)) _ _ _); refine sub_first (by k_asm) (by k_dflt k_mem) (by with_reducible assumption) (by omega) ?_; intros) | ((with_reducible show wpAny _ _ (call (Value.builtin "len") [Value.ref _]) _ _ _); refine len_led (by k_asm) (by k_dflt k_mem) (by first | omega | decide) ?_) | tb_rel); (try dsimp only)) | walk1) | (walk_at "mk_late"; (try dsimp only))))
    (with_reducible rename Fr _ _ _ _ => FF); (with_reducible rename News _ _ _ (_ :: _) => NN)
    have e := ext_end (D := []) O FF fun p hp _ => by rw [List.mem_singleton.mp hp]; exact News.get NN (.head _)
    obtain ⟨F', N'⟩ := use0 F₀ N₀ e
    exact ret _ _ _ F' N'
  · have e1 : spell M = 40 :: (jn [32] ((pts M).map dg) ++ [41]) := if_neg h1
    rw [e1] at ret
    have hl1 : vs.length ≠ 1 := by
      rw [hvl, pts_ge h1]
      have : (pts (M / P5)).length ≠ 0 := by
        by_cases h2 : M / P5 < P5
        · rw [pts_lt h2]; simp
        · rw [pts_ge h2]; simp
      rw [List.length_cons]
      omega
    have hl2 : (((vs.length : Nat) : Int) == 1) = false := by rw [beq_eq_false_iff_ne]; omega
    (repeat' ((fail_if_success tb_start); first | ((first | ((with_reducible show wpAny _ _ (call (Value.builtin "len") [Value.ref _]) _ _ _); refine len_led (by k_asm) (by k_dflt k_mem) (by first | omega | decide) ?_) | tb_rel); (try dsimp only)) | walk_at "mk_tail" | (walk_at "mk_dl"; first | ((first | ((with_reducible show wpAny _ _ (call (Value.builtin "len") [Value.ref _]) _ _ _); refine len_led (by k_asm) (by k_dflt k_mem) (by first | omega | decide) ?_) | tb_rel); (try dsimp only)) | walk1) | (walk_at "mk_late"; (try dsimp only))))
    refine comp_eval (cl := []) (by rfl) (by rfl) (by decide) ?_
    walk_at "mk_go"
    have hl : (((pts M).map dg).map (·.length)).sum + ((pts M).map dg).length ≤ 1000000 := by
      have h1 : (((pts M).map dg).map (·.length)).sum ≤ ((pts M).map dg).length * 160 := sum_len fun x hx => by
        obtain ⟨n, hn, rfl⟩ := List.mem_map.mp hx
        exact hM n hn
      rw [List.length_map] at h1 ⊢
      omega
    have hj := jn_len ((pts M).map dg)
    (with_reducible rename Fr _ _ _ _ => FF); (with_reducible rename News _ _ _ (_ :: _) => NN)
    refine comp_map_list (TxR ((pts M).map dg)) (by walk_at "mk_hh") ⟨_, NN.get (.head _), rfl, _, rfl⟩ (by rw [sizeLine_eq]; omega) FF NN (fun _ h => nomatch h) (by decide) rfl (by rfl) ?_ ?_
    · clear FF NN
      intro i v h2 tk2 C mC g whole hvi hk hw F2 N2
      obtain ⟨n, t, hn, rfl⟩ := nats_at hv hvi
      have hM2 := hM n (List.mem_of_getElem? hn)
      have X2 := X.keeps hk
      have T2 := T.keeps hk
      clear X T
      dsimp only
      (repeat' ((fail_if_success tb_start); first | ((first | ((with_reducible show wpAny _ _ (call (Value.type "str") [Value.int (Nat.cast _) _]) _ _ _); refine str_nat (by with_reducible assumption) ?_) | tb_rel); (try dsimp only)) | walk_at "mk_tail" | (walk_at "mk_dl"; first | ((first | ((with_reducible show wpAny _ _ (call (Value.type "str") [Value.int (Nat.cast _) _]) _ _ _); refine str_nat (by with_reducible assumption) ?_) | tb_rel); (try dsimp only)) | walk1) | (walk_at "mk_late"; (try dsimp only))))
      refine MStep.plain (by assumption) (by assumption) ?_
      exact ⟨dg n, _, by rw [List.getElem?_map, hn]; rfl, rfl, rfl⟩
    · clear FF NN
      intro h2 tk2 mC ys k exs D C hr hn2 F2 N2 f1 f2 f3 hC0 hCL hC
      refine post_none hn2 F2 N2 hC0 hCL hC ?_
      intro h3 tk3 F3 N3
      clear F2 N2
      dsimp only
      obtain ⟨rfl, hs⟩ := Ran.allStrs (ts := (pts M).map dg) (by rw [List.length_map, ← hvl]; exact hr)
      rw [List.append_nil] at N3
      (repeat' ((fail_if_success tb_start); first | ((first | ((with_reducible show wpAny _ _ (binaryOp Operator.Add (Value.str (tx _) _) (Value.str (Str.ofString ")") _)) _ _ _); refine add_tt (b := [41]) rfl (by decide) (by walk_at "mk_len") ?_; intros) | ((with_reducible show wpAny _ _ (binaryOp Operator.Add (Value.str (Str.ofString "(") _) (Value.str (tx _) _)) _ _ _); refine add_tt (a := [40]) (by decide) rfl (by walk_at "mk_len") ?_; intros) | ((with_reducible show wpAny _ _ (call (Value.builtin "str.join") [Value.str (Str.ofString " ") _, Value.ref _]) _ _ _); refine join_sp (by k_asm) (by k_dflt k_mem) (by with_reducible assumption) (by with_reducible assumption) ?_; intros) | tb_rel); (try dsimp only)) | walk_at "mk_tail" | (walk_at "mk_dl"; first | ((first | ((with_reducible show wpAny _ _ (binaryOp Operator.Add (Value.str (tx _) _) (Value.str (Str.ofString ")") _)) _ _ _); refine add_tt (b := [41]) rfl (by decide) (by walk_at "mk_len") ?_; intros) | ((with_reducible show wpAny _ _ (binaryOp Operator.Add (Value.str (Str.ofString "(") _) (Value.str (tx _) _)) _ _ _); refine add_tt (a := [40]) (by decide) rfl (by walk_at "mk_len") ?_; intros) | ((with_reducible show wpAny _ _ (call (Value.builtin "str.join") [Value.str (Str.ofString " ") _, Value.ref _]) _ _ _); refine join_sp (by k_asm) (by k_dflt k_mem) (by with_reducible assumption) (by with_reducible assumption) ?_; intros) | tb_rel); (try dsimp only)) | walk1) | (walk_at "mk_late"; (try dsimp only))))
      (with_reducible rename Fr _ _ _ _ => FF); (with_reducible rename News _ _ _ (_ :: _) => NN)
      have e := ext_end (D := []) O FF fun p hp _ => by rw [List.mem_singleton.mp hp]; exact News.get NN (.tail _ (.head _))
      obtain ⟨F', N'⟩ := use0 F₀ N₀ e
      exact ret _ _ _ F' N'
end

theorem own_sub {h₀ h : Heap} {L : Addr} {m : Str → Option Value} {news fp : List (Addr × Obj)} (F : Fr h₀ L h m) (N : News h₀ L h news) (hm : ∀ p ∈ fp, p ∈ news) : Own h₀ h fp ∧ News h₀ L h fp :=
  ⟨⟨F.keep, fun p hp => N.get (hm p hp), fun p hp => N.fresh (hm p hp)⟩, fun p hp => N p (hm p hp)⟩
/-- the elements are masks as mask_item gives them -/
noncomputable def MaskR (Ms : List Nat) (i : Nat) (v : Value) (ex : List (Addr × Obj)) : Prop := ∃ M, Ms[i]? = some M ∧ IsMask M v ex
theorem Ran.at {R : Nat → Value → List (Addr × Obj) → Prop} : ∀ {n : Nat} {vs : List Value} {exs : List (Addr × Obj)}, Ran R n vs exs → ∀ i v, vs[i]? = some v → ∃ ex, R i v ex ∧ ∀ p ∈ ex, p ∈ exs := by
  intro n vs exs hr
  induction hr with
  | nil => intro i v h; cases h
  | @snoc n vs exs w ex a b ih =>
    intro i v h
    have hl := a.len
    by_cases hi : i < vs.length
    · rw [List.getElem?_append_left hi] at h
      obtain ⟨ex, h1, h2⟩ := ih i v h
      exact ⟨ex, h1, fun p hp => List.mem_append_left _ (h2 p hp)⟩
    · have hi2 : i = vs.length := by
        have := (List.getElem?_eq_some_iff.mp h).1
        rw [List.length_append, List.length_singleton] at this
        omega
      subst hi2
      rw [List.getElem?_append_right (Nat.le_refl _), Nat.sub_self] at h
      simp at h
      subst h
      rw [hl]
      exact ⟨_, b, fun p hp => List.mem_append_right _ hp⟩
theorem news_swap {h₀ h : Heap} {L : Addr} {x y : Addr × Obj} {news : List (Addr × Obj)} (N : News h₀ L h (x :: y :: news)) : News h₀ L h (y :: x :: news) := news_sub N (fun p hp => by
  rcases List.mem_cons.mp hp with rfl | hp
  · exact .tail _ (.head _)
  · rcases List.mem_cons.mp hp with rfl | hp
    · exact .head _
    · exact .tail _ (.tail _ hp))
theorem spell_len {M : Nat} (hd : ∀ n ∈ pts M, (dg n).length ≤ 160) (hlen : (pts M).length ≤ 900) : (spell M).length ≤ 200000 := by
  unfold spell
  split
  · rename_i h
    have := hd M (by rw [pts_lt h]; exact .head _)
    omega
  · have h1 : (((pts M).map dg).map (·.length)).sum ≤ ((pts M).map dg).length * 160 := sum_len fun x hx => by
      obtain ⟨n, hn, rfl⟩ := List.mem_map.mp hx
      exact hd n hn
    have h2 := jn_len ((pts M).map dg)
    rw [List.length_map] at h1 h2
    simp only [List.length_cons, List.length_append, List.length_nil]
    omega
theorem add_led {prog : Program} {w : World} {A : Around} {E : Value → Shared → Prop} {s : Shared} {h₀ : Heap} {L a b : Addr} {m : Str → Option Value} {news : List (Addr × Obj)} {vs ws : List Value} {e1 e2 : Nat} {Q : Value → Shared → Prop} (F : Fr h₀ L s.heap m) (N : News h₀ L s.heap news) (ha : (a, listOf vs.toArray e1) ∈ news) (hb : (b, listOf ws.toArray e2) ∈ news) (hs : vs.length + ws.length ≤ 1000)
    (h : ∀ D h', Fr h₀ L h' m → News h₀ L h' ((D, listOf (vs ++ ws).toArray 0) :: news) → (∀ p ∈ news, p.1 < D) → Q (.ref D) { s with heap := h' }) : wpAny (model prog w) A (binaryOp .Add (.ref a) (.ref b)) Q E s :=
  add_lists F N ⟨_, N.get ha, rfl, e1, rfl⟩ ⟨_, N.get hb, rfl, e2, rfl⟩ (fun h' F' N' => h _ h' F' N' fun p hp => Heap.lt_size (N p hp).1) (by rw [sizeLine_eq]; omega)
section
variable {w : World} {p : Program} {loose : List Str} {mg mb : Str → Option Value} {h₀ : Heap} {A : Around} {s : Shared} {Q E : Value → Shared → Prop} {L : Addr} {m : Str → Option Value} {news : List (Addr × Obj)} {g : Obj → List (Addr × Obj)}
set_option pp.deepTerms false in
set_option maxHeartbeats 8000000 in
theorem add_ok {r rd S I : Addr} {b1 e0 e1 : Nat} {x : Str} {t tw : Tok} {Ms : List Nat} {vs : List Value} {exs : List (Addr × Obj)} (hv : Ran (MaskR Ms) Ms.length vs exs) (hM : ∀ M ∈ Ms, (∀ n ∈ pts M, (dg n).length ≤ 160) ∧ (pts M).length ≤ 900) (hms : Ms.length ≤ 2)
    (F₀ : Fr h₀ L s.heap m) (N₀ : News h₀ L s.heap news) (X₀ : (Hd.KK w.params).In h₀) (T₀ : TopRead p loose mg mb h₀)
    (hr : (r, instObj 293 rd) ∈ news) (hrd : (rd, wrD w.params S b1) ∈ news) (hS : (S, listOf #[.str x t] e0) ∈ news) (hI : (I, listOf vs.toArray e1) ∈ news) (hx : ∀ p ∈ exs, p ∈ news) (U : UpdF S (listOf #[.str x t] e0) news g)
    (hne : @Ne Nat I r ∧ @Ne Nat I rd ∧ @Ne Nat I S ∧ @Ne Nat S r ∧ @Ne Nat S rd) (hxe : ∀ p ∈ exs, p.1 ≠ I) (hxs : ∀ p ∈ exs, p.1 ≠ S)
    (hu : A.units + 120 < cLine) (hh : A.handled = none) (room : A.depth + 8 < recursionLimit)
    (ret : ∀ h' tk' t' e', Fr h₀ L h' m → News h₀ L h' (g (listOf #[.str x t, .str (tx (jn [32] (gm :: (dg Ms.length ++ [58]) :: Ms.map spell))) t'] e')) → Q .none { s with heap := h', toks := tk' }) :
    wpAny (model PySem.Challenge.rw_qd0064_01.row.prog w) A (call (.ref 283) [.ref r, .str (Str.ofString "goto_masks") tw, .ref I]) Q E s := by
  obtain ⟨O, NF⟩ := own_sub (fp := (I, listOf vs.toArray e1) :: (r, instObj 293 rd) :: (rd, wrD w.params S b1) :: (S, listOf #[.str x t] e0) :: exs) F₀ N₀ (fun p hp => by
    rcases List.mem_cons.mp hp with rfl | hp
    · exact hI
    · rcases List.mem_cons.mp hp with rfl | hp
      · exact hr
      · rcases List.mem_cons.mp hp with rfl | hp
        · exact hrd
        · rcases List.mem_cons.mp hp with rfl | hp
          · exact hS
          · exact hx p hp)
  have G : Good w p loose mg mb h₀ := ⟨X₀, T₀⟩
  refine' enter_ret (binds := [(Str.ofString "self", .ref r), (Str.ofString "word", .str (Str.ofString "goto_masks") tw), (Str.ofString "items", .ref I)]) G O ?h1 ?h2 (by walk_at "mk_room") ?h3 ?h4 ?h ?c1 ?c2 ?c3 ?c4
  walk_at "mk_enter"
  intro L h₁ hL F N X T
  k_fold
  have hvl : vs.length = Ms.length := hv.len
  have hdl4 : (dg vs.length).length ≤ 4 := (dg_len (by decide)).mpr (by omega)
  have hdl : (dg vs.length).length ≤ 160 := by omega
  (repeat' ((fail_if_success tb_start); first | ((first | ((with_reducible show wpAny _ _ (call (Value.type "str") [Value.int (Nat.cast _) _]) _ _ _); refine str_nat (by with_reducible assumption) ?_) | ((with_reducible show wpAny _ _ (binaryOp Operator.Add (Value.str (tx _) _) (Value.str (Str.ofString ":") _)) _ _ _); refine add_tt (b := [58]) rfl (by decide) (by walk_at "mk_len") ?_; intros) | ((with_reducible show wpAny _ _ (call (Value.builtin "len") [Value.ref _]) _ _ _); refine len_led (by k_asm) (by k_dflt k_mem) (by first | omega | decide) ?_) | tb_rel); (try dsimp only)) | walk_at "mk_tail" | (walk_at "mk_dl"; first | ((first | ((with_reducible show wpAny _ _ (call (Value.type "str") [Value.int (Nat.cast _) _]) _ _ _); refine str_nat (by with_reducible assumption) ?_) | ((with_reducible show wpAny _ _ (binaryOp Operator.Add (Value.str (tx _) _) (Value.str (Str.ofString ":") _)) _ _ _); refine add_tt (b := [58]) rfl (by decide) (by walk_at "mk_len") ?_; intros) | ((with_reducible show wpAny _ _ (call (Value.builtin "len") [Value.ref _]) _ _ _); refine len_led (by k_asm) (by k_dflt k_mem) (by first | omega | decide) ?_) | tb_rel); (try dsimp only)) | walk1) | (walk_at "mk_late"; (try dsimp only))))
  refine comp_eval (cl := []) (by rfl) (by rfl) (by decide) ?_
  walk_at "mk_go"
  (with_reducible rename Fr _ _ _ _ => FF); (with_reducible rename News _ _ _ (_ :: _) => NN)
  (with_reducible rename _ ∧ _ => l1)
  have N1 := news_swap NN
  have hsp : ∀ M ∈ Ms, (spell M).length ≤ 200000 := fun M hm => spell_len (hM M hm).1 (hM M hm).2
  refine comp_map_list (TxR (Ms.map spell)) (by walk_at "mk_hh") ⟨_, N1.get (.head _), rfl, _, rfl⟩ (by rw [sizeLine_eq]; omega) FF N1 (fun p hp => ?_) (by decide) rfl (by rfl) ?_ ?_
  · rcases List.mem_cons.mp hp with rfl | hp
    · exact Nat.ne_of_gt l1.1
    · rcases List.mem_cons.mp hp with rfl | hp
      · exact Ne.symm hne.1
      · rcases List.mem_cons.mp hp with rfl | hp
        · exact Ne.symm hne.2.1
        · rcases List.mem_cons.mp hp with rfl | hp
          · exact Ne.symm hne.2.2.1
          · exact hxe p hp
  · clear FF NN N1
    intro i v h2 tk2 C mC g whole hvi hk hw F2 N2
    obtain ⟨ex, ⟨M, hm, his⟩, hsub⟩ := hv.at i v hvi
    have hmm := hM M (List.mem_of_getElem? hm)
    have X2 := X.keeps hk
    have T2 := T.keeps hk
    have hx2 : ∀ p ∈ ex, p ∈ whole := fun p hp => hw p (.tail _ (.tail _ (.tail _ (.tail _ (.tail _ (hsub p hp))))))
    clear X T
    dsimp only
    walk_at "mk_go"
    refine' show_mask his hmm.1 hmm.2 ?sF ?sN X2 T2 hx2 ?su ?sh ?sr ?_
    (case sF => assumption)
    (case sN => assumption)
    (case su => walk_at "mk_units")
    (case sh => walk_at "mk_hh")
    (case sr => walk_at "mk_room")
    intro h3 tk3 t3 F3 N3
    refine MStep.plain F3 N3 ?_
    exact ⟨spell M, _, by rw [List.getElem?_map, hm]; rfl, rfl, rfl⟩
  · clear FF NN N1
    intro h2 tk2 mC ys k exs2 D C hr2 hn2 F2 N2 f1 f2 f3 hC0 hCL hC
    refine post_none hn2 F2 N2 hC0 hCL hC ?_
    intro h3 tk3 F3 N3
    clear F2 N2
    dsimp only
    obtain ⟨rfl, hs⟩ := Ran.allStrs (ts := Ms.map spell) (by rw [List.length_map, ← hvl]; exact hr2)
    have d1 : @Ne Nat S D := f2 _ (.tail _ (.tail _ (.tail _ (.head _))))
    have d2 : @Ne Nat r D := f2 _ (.tail _ (.head _))
    have d3 : @Ne Nat rd D := f2 _ (.tail _ (.tail _ (.head _)))
    have d4 : @Ne Nat I D := f3
    have d5 : ∀ p ∈ exs, p.1 ≠ D := fun p hp => f2 p (.tail _ (.tail _ (.tail _ (.tail _ hp))))
    rw [List.append_nil] at N3
    have hyl : ys.length = Ms.length := by have := hs.length; simpa using this
    have hj : ∀ t', StrsAre (Value.str (Str.ofString "goto_masks") tw :: Value.str (tx (dg vs.length ++ [58])) t' :: ys) ((gm :: (dg vs.length ++ [58]) :: Ms.map spell).map tx) := fun t' => by
      have eg : Str.ofString "goto_masks" = tx gm := by decide
      rw [eg]
      exact .cons _ _ (.cons _ _ hs)
    have hl2 : ((gm :: (dg vs.length ++ [58]) :: Ms.map spell).map (·.length)).sum + (gm :: (dg vs.length ++ [58]) :: Ms.map spell).length ≤ 1000000 := by
      have h1 : ((Ms.map spell).map (·.length)).sum ≤ (Ms.map spell).length * 200000 := sum_len fun x hx => by
        obtain ⟨M, hM, rfl⟩ := List.mem_map.mp hx
        exact hsp M hM
      rw [List.length_map] at h1
      simp only [List.map_cons, List.sum_cons, List.length_cons, List.length_append, List.length_nil, List.length_map, gm]
      omega
    (repeat' ((fail_if_success tb_start); first | ((first | ((with_reducible show wpAny _ _ (binaryOp Operator.Add (Value.ref _) (Value.ref _)) _ _ _); refine add_led (by k_asm) (by k_asm) (by k_dflt k_mem) (by k_dflt k_mem) (by ((try simp only [List.length_cons, List.length_nil]); omega)) ?_; walk_at "mk_inLd") | tb_rel); (try dsimp only)) | walk_at "mk_tail" | (walk_at "mk_dl"; first | ((first | ((with_reducible show wpAny _ _ (binaryOp Operator.Add (Value.ref _) (Value.ref _)) _ _ _); refine add_led (by k_asm) (by k_asm) (by k_dflt k_mem) (by k_dflt k_mem) (by ((try simp only [List.length_cons, List.length_nil]); omega)) ?_; walk_at "mk_inLd") | tb_rel); (try dsimp only)) | walk1) | (walk_at "mk_late"; (try dsimp only))))
    (with_reducible rename Fr _ _ _ _ => FF); (with_reducible rename News _ _ _ (_ :: _) => NN)
    refine join_sp NN (List.Mem.head _) (hj _) hl2 ?_
    intro t5 k5
    walk_at "mk_go"
    (with_reducible rename Fr _ _ _ _ => FF); (with_reducible rename News _ _ _ (_ :: _) => NN)
    have e : Ext [S] s.heap _ := ext_end O FF fun p hp hn => by
      rcases List.mem_cons.mp hp with rfl | hp
      · exact NN.get (.tail _ (.tail _ (.head _)))
      · rcases List.mem_cons.mp hp with rfl | hp
        · exact NN.get (.tail _ (.tail _ (.tail _ (.tail _ (.head _)))))
        · rcases List.mem_cons.mp hp with rfl | hp
          · exact NN.get (.tail _ (.tail _ (.tail _ (.tail _ (.tail _ (.head _))))))
          · rcases List.mem_cons.mp hp with rfl | hp
            · exact absurd (List.Mem.head _) hn
            · exact NN.get (.tail _ (.tail _ (.tail _ (.tail _ (.tail _ (.tail _ (.tail _ hp)))))))
    obtain ⟨F', N'⟩ := use1 F₀ N₀ U e (NN.get (.tail _ (.tail _ (.tail _ (.tail _ (.tail _ (.tail _ (.head _))))))))
    rw [hvl] at N'
    exact ret _ _ _ _ F' N'
end

/-- what is left of a comprehension behind its first source's iterator -/
noncomputable def CompG (prog : Program) (w : World) (A : Around) (env : Env) (E : Value → Shared → Prop) (e : Expr) (scope : Scope) (cl : List (Str × Addr)) (use : Option (Value → Sem Unit)) (Q : Value → Shared → Prop) (it : Value) (s₂ : Shared) : Prop :=
  wpAny (model prog w) A (newList []) (fun acc s₃ => wpAny (model prog w) A (newFunctionEnv scope env.globals cl [] env.qual none .none (some env)) (fun cenv s₄ =>
    codeAny (model prog w) A (.compStart e 0 it acc { cenv with scope := relabel scope env }) (compPost (model prog w) A E use Q acc cenv.locals) s₄) E s₃) E s₂
section
variable {prog : Program} {w : World} {A : Around} {E : Value → Shared → Prop} {s : Shared} {env : Env} {h₀ : Heap} {L : Addr} {m : Str → Option Value} {news : List (Addr × Obj)}
theorem comp_evalG {elt target iter : Expr} {rest : List Comprehension} {scope : Scope} {cl : List (Str × Addr)} {pos : Pos} {Q : Value → Shared → Prop} (hclos : closureFor scope env = pure cl) (hkind : scope.kind = .function) (hnames : ∀ x ∈ scope.names, x.2 = .local → scope.names.lookup x.1 = some .local)
    (h : wpAny (model prog w) A (eval iter env) (fun xv s₁ => wpAny (model prog w) A (pyIter xv) (fun it s₂ => CompG prog w A env E (.ListComp elt (⟨target, iter, [], 0⟩ :: rest) scope pos) scope cl none Q it s₂) E s₁) E s)
    (hs : ∀ x, foldedSetIterable iter env x = pure x := by intro _; rfl) :
    wpAny (model prog w) A (eval (.ListComp elt (⟨target, iter, [], 0⟩ :: rest) scope pos) env) Q E s := by
  rw [eval_ListComp]
  exact wpAny_comprehension_free (use := none) rfl hs hclos hkind hnames h
theorem comp_begin {e : Expr} {it : Value} {scope : Scope} {cl : List (Str × Addr)} {RR : Value → Addr → Result → Shared → Prop} (hcell : ∀ y ∈ scope.names, y.2 ≠ .cell) (hkind : scope.kind = .function)
    (h : ∀ h₁ tk (D C : Nat) mC, s.heap.objs.size ≤ D → s.heap.objs.size ≤ C → D ≠ C → (∀ b o, s.heap.get? b = some o → h₁.get? b = some o) → h₁.get? D = some (listOf #[] 0) → h₁.Ns C mC →
      codeAny (model prog w) A (.compStart e 0 it (.ref D) (compEnvC scope cl C env)) (RR (.ref D) C) { s with heap := h₁, toks := tk }) :
    wpAny (model prog w) A (newList []) (fun acc s₃ => wpAny (model prog w) A (newFunctionEnv scope env.globals cl [] env.qual none .none (some env)) (fun cenv s₄ =>
      codeAny (model prog w) A (.compStart e 0 it acc { cenv with scope := relabel scope env }) (RR acc cenv.locals) s₄) E s₃) E s := by
  refine wpAny_newObj_type (wpAny_newFunctionEnv hcell (by intro y hy; simp at hy) (fun h₁ hns₁ hsb₁ => ?_) hkind)
  dsimp only at hns₁ hsb₁ ⊢
  generalize hH2 : s.heap.push { cls := .type "list", dict := none, data := .seq ([] : List Value).toArray } = H2 at hns₁ hsb₁ ⊢
  have hC : H2.objs.size = s.heap.objs.size + 1 := by rw [← hH2, Heap.size_push]
  have lt : ∀ {b o}, s.heap.get? b = some o → b < s.heap.objs.size := fun e => Heap.lt_size e
  have hDC : s.heap.objs.size ≠ H2.objs.size := by rw [hC]; exact Nat.ne_of_lt (Nat.lt_succ_self _)
  exact h h₁ _ _ _ _ (Nat.le_refl _) (by rw [hC]; exact Nat.le_succ _) hDC (fun b o e => hsb₁.extBut b o (by rw [hC]; exact Nat.ne_of_lt (Nat.lt_succ_of_lt (lt e))) (Heap.get?_push_of_some _ (hH2 ▸ Heap.get?_push_of_some _ e)))
    (hsb₁.extBut _ _ hDC (Heap.get?_push_of_some _ (hH2 ▸ Heap.get?_push_size _ rfl))) hns₁
theorem fresh_none {g : Heap} {L : Addr} {m : Str → Option Value} (F : Fr h₀ L g m) {a : Addr} (ha : g.objs.size ≤ a) : h₀.get? a = none ∧ a ≠ L := by
  refine ⟨?_, fun e => ?_⟩
  · cases q : h₀.get? a with
    | none => rfl
    | some o => exact absurd (Heap.lt_size (F.keep _ _ q)) (Nat.not_lt.mpr ha)
  · exact absurd (F.ns.lt) (Nat.not_lt.mpr (e ▸ ha))
theorem comp_pairs {elt iter : Expr} {a b : Str} {pa pb tp : Pos} {kk : Nat} {scope : Scope} {cl : List (Str × Addr)} {pos : Pos} {use : Option (Value → Sem Unit)} {Q : Value → Shared → Prop} {l : Addr} {vs : List Value} (R : Nat → Value → Value → Prop)
    (hh : A.handled = none) (hl : s.heap.IsList l vs.toArray) (hsz : vs.length ≤ sizeLine)
    (F : Fr h₀ L s.heap m) (N : News h₀ L s.heap news)
    (hcell : ∀ y ∈ scope.names, y.2 ≠ .cell) (hkind : scope.kind = .function) (hxa : scope.names.lookup a = some .local) (hxb : scope.names.lookup b = some .local) (hab : ¬ a = b)
    (turn : ∀ (i : Nat) v t h tk C (m₂ : Str → Option Value), vs[i]? = some v → Fr s.heap C h (fun z => if z = b then some v else if z = a then some (.int (i : Nat) t) else m₂ z) →
      wpAny (model prog w) A (eval elt (compEnvC scope cl C env)) (fun y s₂ => R i v y ∧ ∃ tk', s₂ = { s with heap := h, toks := tk' }) (fun _ _ => False) { s with heap := h, toks := tk })
    (done : ∀ h' tk mC (ys : List Value) k D C, ys.length = vs.length → (∀ i v, vs[i]? = some v → ∃ y, ys[i]? = some y ∧ R i v y) → h'.Ns C mC → Fr h₀ L h' m → News h₀ L h' ((D, listOf ys.toArray k) :: news) → (∀ p ∈ news, p.1 ≠ D) →
      h₀.get? C = none → C ≠ L → (∀ p ∈ (D, listOf ys.toArray k) :: news, p.1 ≠ C) → compPost (model prog w) A E use Q (.ref D) C (.ok .next) { s with heap := h', toks := tk }) :
    wpAny (model prog w) A (call (.type "enumerate") [.ref l]) (fun xv s₁ => wpAny (model prog w) A (pyIter xv) (fun it s₂ => CompG prog w A env E (.ListComp elt [⟨.Tuple [.Name a pa, .Name b pb] kk tp, iter, [], 0⟩] scope pos) scope cl use Q it s₂) E s₁) E s := by
  have hlt : l < s.heap.objs.size := by obtain ⟨o, x, _⟩ := hl; exact Heap.lt_size x
  refine call_enumerate_list hl fun h1 hE hI hz hk => ?_
  refine wpAny_pyIter_enum hE ?_
  refine comp_begin hcell hkind ?_
  intro h2 tk D C mC hD hC hDC hk2 hD2 hns
  dsimp only at hD hC hk2
  have hD' : s.heap.objs.size + 2 ≤ D := by omega
  have hC' : s.heap.objs.size + 2 ≤ C := by omega
  have W := WalksT.enumerate (prog := prog) (w := w) hh (s.heap.objs.size + 1) s.heap.objs.size l (Nat.succ_ne_self _) (Nat.ne_of_lt (Nat.lt_succ_of_lt hlt)) (Nat.ne_of_lt hlt) vs.toArray
  rw [List.size_toArray] at W
  have hst : (∃ old, IsEnum h2 (s.heap.objs.size + 1) s.heap.objs.size 0 old) ∧ h2.IsListIter s.heap.objs.size l 0 ∧ h2.IsList l vs.toArray :=
    ⟨⟨_, hk2 _ _ hE⟩, hI.at fun o e => hk2 _ o e, hl.at fun o e => hk2 _ o (hk _ o e)⟩
  have wr : ∀ {x : Nat}, x ∈ ([s.heap.objs.size + 1, s.heap.objs.size] : List Nat) → x < s.heap.objs.size + 2 := fun hx => by
    rcases List.mem_cons.mp hx with rfl | hx
    · omega
    · rw [List.mem_singleton.mp hx]; omega
  have hlt' : @LT.lt Nat _ l s.heap.objs.size := hlt
  have fpC : ∀ {x : Nat}, x ∈ ([s.heap.objs.size + 1, s.heap.objs.size, l] : List Nat) → x < s.heap.objs.size + 2 := fun hx => by
    rcases List.mem_cons.mp hx with rfl | hx
    · omega
    · rcases List.mem_cons.mp hx with rfl | hx
      · omega
      · rw [List.mem_singleton.mp hx]; omega
  have loop : codeAny (model prog w) A (.compLoop (.ListComp elt [⟨.Tuple [.Name a pa, .Name b pb] kk tp, iter, [], 0⟩] scope pos) 0 (.ref (s.heap.objs.size + 1)) (.ref D) (compEnvC scope cl C env))
      (compPost (model prog w) A E use Q (.ref D) C) { s with heap := h2, toks := tk } := by
    refine kcp_loop (fun n s' => ∃ h' tk i ys k mC, s' = { s with heap := h', toks := tk } ∧ i ≤ vs.length ∧ n = vs.length + 1 - i ∧ ys.length = i ∧
        ((∃ old, IsEnum h' (s.heap.objs.size + 1) s.heap.objs.size i old) ∧ h'.IsListIter s.heap.objs.size l i ∧ h'.IsList l vs.toArray) ∧ (∀ b o, s.heap.get? b = some o → h'.get? b = some o) ∧ h'.Ns C mC ∧
        h'.get? D = some (listOf ys.toArray k) ∧ (∀ j v, j < i → vs[j]? = some v → ∃ y, ys[j]? = some y ∧ R j v y)) ?_ (vs.length + 1)
      ⟨h2, tk, 0, [], 0, mC, rfl, Nat.zero_le _, rfl, rfl, hst, fun b o e => hk2 b o (hk b o e), hns, hD2, fun j v hj => absurd hj (Nat.not_lt_zero _)⟩
    rintro n s' ⟨h', tk, i, ys, k, mC, rfl, hi, rfl, hyl, hst', hkp, hn', hD1, hR⟩
    by_cases hlt : i < vs.length
    · refine W.item i _ _ _ hlt hst' fun T vals h3 tk3 hP hT0 hT hM hk3 => ?_
      obtain ⟨t, v, hv, rfl⟩ := hP
      refine W.go _ _ _ i T _ _ _ hM fun h4 hst4 hk4 => ?_
      have up : ∀ (c : Nat) o, s.heap.objs.size + 2 ≤ c → h'.get? c = some o → h4.get? c = some o := fun c o hc e => hk4 c o (fun q => by have := wr q; omega) (hk3 c o (fun q => by have := wr q; omega) e)
      have up0 : ∀ (c : Nat) o, s.heap.get? c = some o → h4.get? c = some o := fun c o e => by
        have hc : @LT.lt Nat _ c s.heap.objs.size := Heap.lt_size e
        have nw : c ∉ ([s.heap.objs.size + 1, s.heap.objs.size] : List Nat) := fun q => by
          rcases List.mem_cons.mp q with q | q
          · omega
          · have := List.mem_singleton.mp q; omega
        exact hk4 c o nw (hk3 c o nw (hkp c o e))
      refine kcp_assign (env := compEnvC scope cl C env) hh (hT.at fun o e => hk4 _ o (W.apart i T _ hM) e) (lookup_relabel_local hxa) (lookup_relabel_local hxb) (by simp [compEnvC, relabel, hkind]) (hn'.at' fun o e => up _ o hC' e) fun h5 tk5 hn5 hk5 => ?_
      have kC : ∀ (c : Nat) o, c < s.heap.objs.size + 2 → h4.get? c = some o → h5.get? c = some o := fun c o hc e => hk5 c o (fun q => by have q : c = C := q; omega) e
      have F5 : Fr s.heap C h5 (fun z => if z = b then some v else if z = a then some (.int i t) else mC z) := ⟨hn5, fun c o e => kC c o (by have : @LT.lt Nat _ c s.heap.objs.size := Heap.lt_size e; omega) (up0 c o e), by show @LE.le Nat _ _ _; omega⟩
      refine wpAny_mono (turn i v t h5 _ C mC (by simpa using hv) F5) (fun y s5 h => ?_) fun _ _ e => e.elim
      obtain ⟨hy, tk6, rfl⟩ := h
      have hD5 : h5.get? D = some (listOf ys.toArray k) := hk5 D _ (by simpa [compEnvC] using hDC) (up _ _ hD' hD1)
      refine append_at (hsz := by rw [List.size_toArray]; omega) hD5 fun h6 hs6 hD6 => ?_
      have kD : ∀ (c : Nat) o, c ≠ D → h5.get? c = some o → h6.get? c = some o := fun c o hc e => hs6.extBut c o hc e
      refine ⟨vs.length + 1 - (i + 1), by omega, h6, tk6, i + 1, ys ++ [y], k + 1, _, rfl, hlt, rfl, by simp [hyl], ?_, fun c o e => ?_, hn5.sameBut hs6 (Ne.symm hDC), by rw [hD6]; simp, fun j u hj hu => ?_⟩
      · have := W.frame (i + 1) h4 h6 hst4 fun c hc o e => kD c o (fun q => by have := fpC hc; omega) (kC c o (fpC hc) e)
        exact this
      · exact kD c o (by have : @LT.lt Nat _ c s.heap.objs.size := Heap.lt_size e; omega) (F5.keep c o e)
      · by_cases hji : j < i
        · obtain ⟨y', h1, h2⟩ := hR j u hji hu
          exact ⟨y', by rw [List.getElem?_append_left (by omega)]; exact h1, h2⟩
        · obtain rfl : j = i := by omega
          have : u = v := by rw [show vs.toArray[j]? = vs[j]? by simp] at hv; rw [hu] at hv; exact Option.some.inj hv
          subst this
          exact ⟨y, by rw [List.getElem?_append_right (by omega), hyl, Nat.sub_self]; rfl, hy⟩
    · have hin : i = vs.length := by omega
      subst hin
      refine W.done _ _ _ hst' fun h3 tk3 hk3 => ?_
      have up : ∀ (c : Nat) o, s.heap.objs.size + 2 ≤ c → h'.get? c = some o → h3.get? c = some o := fun c o hc e => hk3 c o (fun q => by have := wr q; omega) e
      have up0 : ∀ (c : Nat) o, s.heap.get? c = some o → h3.get? c = some o := fun c o e => by
        have hc : @LT.lt Nat _ c s.heap.objs.size := Heap.lt_size e
        have nw : c ∉ ([s.heap.objs.size + 1, s.heap.objs.size] : List Nat) := fun q => by
          rcases List.mem_cons.mp q with q | q
          · omega
          · have := List.mem_singleton.mp q; omega
        exact hk3 c o nw (hkp c o e)
      have zD := fresh_none F (show @LE.le Nat _ s.heap.objs.size D by omega)
      have zC := fresh_none F (show @LE.le Nat _ s.heap.objs.size C by omega)
      refine done h3 tk3 mC ys k D C (by omega) (fun i v hv => hR i v (List.getElem?_eq_some_iff.mp hv).1 hv) (hn'.at' fun o e => up _ o hC' e) (F.keeps up0) (fun p hp => ?_) (fun p hp => ?_) zC.1 zC.2 (fun p hp => ?_)
      · rcases List.mem_cons.mp hp with rfl | hp
        · exact ⟨up _ _ hD' hD1, zD.2, zD.1⟩
        · exact ⟨up0 _ _ (N p hp).1, (N p hp).2⟩
      · have : @LT.lt Nat _ p.1 s.heap.objs.size := Heap.lt_size (N p hp).1; show @Ne Nat _ _; omega
      · rcases List.mem_cons.mp hp with rfl | hp
        · exact hDC
        · have : @LT.lt Nat _ p.1 s.heap.objs.size := Heap.lt_size (N p hp).1; show @Ne Nat _ _; omega
  exact codeAny_compStart_list loop (W.self 0 _ _ _ hst loop)
end
section
variable {prog : Program} {w : World} {A : Around} {E : Value → Shared → Prop} {s : Shared} {env : Env} {h₀ : Heap} {L : Addr} {m : Str → Option Value} {news : List (Addr × Obj)}
theorem turn_two0 (elt t1 i1 t2 i2 : Expr) (scope : Scope) (pos : Pos) (it acc : Value) (env : Env) :
    compTurn (.ListComp elt [⟨t1, i1, [], 0⟩, ⟨t2, i2, [], 0⟩] scope pos) 0 it acc env = (standAt i1.pos >>= fun _ => pyNext it >>= fun r => match r with
      | none => pure (.done .next)
      | some v => letOwnedTupleGo t1 it v >>= fun _ => assign t1 env v >>= fun _ =>
        eval i2 env >>= fun x => standAt i2.pos >>= fun _ => foldedSetIterable i2 env x >>= fun x => holding [x] (pyIter x) >>= fun j => runOwn (.compStart (.ListComp elt [⟨t1, i1, [], 0⟩, ⟨t2, i2, [], 0⟩] scope pos) 1 j acc env) env >>= fun _ =>
          again (.compLoop (.ListComp elt [⟨t1, i1, [], 0⟩, ⟨t2, i2, [], 0⟩] scope pos) 0 it acc env)) := by rfl
theorem turn_two1 (elt t1 i1 t2 i2 : Expr) (scope : Scope) (pos : Pos) (it acc : Value) (env : Env) :
    compTurn (.ListComp elt [⟨t1, i1, [], 0⟩, ⟨t2, i2, [], 0⟩] scope pos) 1 it acc env = (standAt i2.pos >>= fun _ => pyNext it >>= fun r => match r with
      | none => pure (.done .next)
      | some v => letOwnedTupleGo t2 it v >>= fun _ => assign t2 env v >>= fun _ =>
        (eval elt env >>= fun x => call (.builtin "list.append") [acc, x] >>= fun _ => pure ()) >>= fun _ =>
          again (.compLoop (.ListComp elt [⟨t1, i1, [], 0⟩, ⟨t2, i2, [], 0⟩] scope pos) 1 it acc env)) := by rfl
theorem loop_two0 {elt t1 i1 t2 i2 : Expr} {scope : Scope} {pos : Pos} {it acc : Value} {R : Result → Shared → Prop} (I : Nat → Shared → Prop)
    (turn : ∀ n s, I n s → wpAny (model prog w) A (pyNext it) (fun r s₁ => match r with
      | none => R (.ok .next) s₁
      | some v => wpAny (model prog w) A (assign t1 env v) (fun _ s₂ => wpAny (model prog w) A (eval i2 env) (fun x s₃ =>
          wpAny (model prog w) A (pyIter x) (fun j s₄ => codeAny (model prog w) A (.compStart (.ListComp elt [⟨t1, i1, [], 0⟩, ⟨t2, i2, [], 0⟩] scope pos) 1 j acc env) (fun r s₅ => r = .ok .next ∧ ∃ m, m < n ∧ I m s₅) s₄) (fun _ _ => False) s₃)
          (fun _ _ => False) s₂) (fun _ _ => False) s₁) (fun _ _ => False) s)
    (n : Nat) (h : I n s) (ht : ∀ v, letOwnedTupleGo t1 it v = pure () := by intro _; rfl) (hs : ∀ x, foldedSetIterable i2 env x = pure x := by intro _; rfl) :
    codeAny (model prog w) A (.compLoop (.ListComp elt [⟨t1, i1, [], 0⟩, ⟨t2, i2, [], 0⟩] scope pos) 0 it acc env) R s := by
  refine codeAny_loop rfl I (fun n s hI => ?_) n h
  show wpAny _ A ((compTurn (.ListComp elt [⟨t1, i1, [], 0⟩, ⟨t2, i2, [], 0⟩] scope pos) 0 it acc env).onRaise (fun x => do noteFrame x env; theTreesLotGoes x)) _ _ s
  refine wpAny_noted ?_
  rw [turn_two0]
  refine wpAny_bind (wpAny_standAt (wpAny_bind (wpAny_mono (turn n s hI) (fun r s₁ h₁ => ?_) fun _ _ h' => h'.elim)))
  cases r with
  | none => exact wpAny_pure h₁
  | some v =>
    refine wpAny_bind (wpAny_of_eq (ht v) ?_)
    refine wpAny_bind (wpAny_mono h₁ (fun _ s₂ h₂ => wpAny_bind (wpAny_mono h₂ (fun x s₃ h₃ => ?_) fun _ _ h' => h'.elim)) fun _ _ h' => h'.elim)
    refine wpAny_bind (wpAny_standAt (wpAny_bind (wpAny_of_eq (hs x) ?_)))
    refine wpAny_bind (wpAny_holding (wpAny_mono h₃ (fun j s₄ h₄ => ?_) fun _ _ h' => h'.elim))
    refine wpAny_bind (wpAny_runOwn (codeAny_mono h₄ fun r s₅ h₅ => ?_))
    obtain ⟨rfl, h₅⟩ := h₅
    exact wpAny_pure ⟨rfl, h₅⟩
theorem loop_two1 {elt t1 i1 t2 i2 : Expr} {scope : Scope} {pos : Pos} {it acc : Value} {R : Result → Shared → Prop} (I : Nat → Shared → Prop)
    (turn : ∀ n s, I n s → wpAny (model prog w) A (pyNext it) (fun r s₁ => match r with
      | none => R (.ok .next) s₁
      | some v => wpAny (model prog w) A (assign t2 env v) (fun _ s₂ => wpAny (model prog w) A (eval elt env) (fun x s₃ =>
          wpAny (model prog w) A (call (.builtin "list.append") [acc, x]) (fun _ s₄ => ∃ m, m < n ∧ I m s₄) (fun _ _ => False) s₃)
          (fun _ _ => False) s₂) (fun _ _ => False) s₁) (fun _ _ => False) s)
    (n : Nat) (h : I n s) (ht : ∀ v, letOwnedTupleGo t2 it v = pure () := by intro _; rfl) :
    codeAny (model prog w) A (.compLoop (.ListComp elt [⟨t1, i1, [], 0⟩, ⟨t2, i2, [], 0⟩] scope pos) 1 it acc env) R s := by
  refine codeAny_loop rfl I (fun n s hI => ?_) n h
  show wpAny _ A ((compTurn (.ListComp elt [⟨t1, i1, [], 0⟩, ⟨t2, i2, [], 0⟩] scope pos) 1 it acc env).onRaise (fun x => do noteFrame x env; theTreesLotGoes x)) _ _ s
  refine wpAny_noted ?_
  rw [turn_two1]
  refine wpAny_bind (wpAny_standAt (wpAny_bind (wpAny_mono (turn n s hI) (fun r s₁ h₁ => ?_) fun _ _ h' => h'.elim)))
  cases r with
  | none => exact wpAny_pure h₁
  | some v =>
    refine wpAny_bind (wpAny_of_eq (ht v) ?_)
    exact wpAny_bind (wpAny_mono h₁ (fun _ s₂ h₂ => wpAny_bind (wpAny_bind (wpAny_mono h₂ (fun x s₃ h₃ => wpAny_bind (wpAny_mono h₃
      (fun _ s₄ h₄ => wpAny_pure (wpAny_pure ⟨rfl, h₄⟩)) fun _ _ h' => h'.elim)) fun _ _ h' => h'.elim))) fun _ _ h' => h'.elim)
theorem start_two1 {elt t1 i1 t2 i2 : Expr} {scope : Scope} {pos : Pos} {it acc : Value} {R : Result → Shared → Prop}
    (h0 : codeAny (model prog w) A (.compLoop (.ListComp elt [⟨t1, i1, [], 0⟩, ⟨t2, i2, [], 0⟩] scope pos) 1 it acc env) R s)
    (h : wpAny (model prog w) A (pyIter it) (fun it' s' => codeAny (model prog w) A (.compLoop (.ListComp elt [⟨t1, i1, [], 0⟩, ⟨t2, i2, [], 0⟩] scope pos) 1 it' acc env) R s') (fun _ _ => False) s) :
    codeAny (model prog w) A (.compStart (.ListComp elt [⟨t1, i1, [], 0⟩, ⟨t2, i2, [], 0⟩] scope pos) 1 it acc env) R s := by
  refine codeAny_of_tree ?_
  show wpAny _ _ ((compStart (.ListComp elt [⟨t1, i1, [], 0⟩, ⟨t2, i2, [], 0⟩] scope pos) 1 it acc env).onRaise (fun x => do noteFrame x env; standAt theWindowsPlace)) _ _ s
  refine wpAny_notedAt ?_
  unfold compStart
  show wpAny _ _ (ask >>= _) _ _ s
  refine wpAny_bind (wpAny_askSetting (wpAny_ite ?_))
  split
  · first
      | exact wpAny_bind (wpAny_pure (wpAny_pure (And.intro rfl h0)))
      | exact wpAny_pure (And.intro rfl h0)
  · first
      | exact wpAny_bind (wpAny_rule (wpAny_bind (wpAny_standAt (wpAny_bind (wpAny_mono h (fun it' s' h' => wpAny_pure (And.intro rfl h')) fun _ _ x => x.elim)))))
      | (refine wpAny_bind (wpAny_rule ?_); show wpAny _ _ (standAt i2.pos >>= _) _ _ s; exact wpAny_bind (wpAny_standAt (wpAny_bind (wpAny_mono h (fun it' s' h' => wpAny_pure (And.intro rfl h')) fun _ _ x => x.elim))))
end
section
variable {prog : Program} {w : World} {A : Around} {E : Value → Shared → Prop} {s : Shared} {env : Env} {h₀ : Heap} {L : Addr} {m : Str → Option Value} {news : List (Addr × Obj)}
/-- between the turns: the old objects stand, the made list holds ys -/
noncomputable def Nst (base : Heap) (C D : Nat) (h : Heap) (ys : List Value) : Prop := (∀ b o, base.get? b = some o → h.get? b = some o) ∧ (∃ mC, h.Ns C mC) ∧ ∃ k, h.get? D = some (listOf ys.toArray k)
theorem nest_inner {elt t1 i1 i2 : Expr} {y : Str} {py : Pos} {scope : Scope} {cl : List (Str × Addr)} {pos : Pos} {C D S J : Nat} {base : Heap} {ws ys : List Value} (R : Value → Value → Prop)
    (hh : A.handled = none) (hkind : scope.kind = .function) (hy : scope.names.lookup y = some .local) (hC : base.objs.size ≤ C) (hD : base.objs.size ≤ D) (hDC : D ≠ C)
    (hS : base.IsList S ws.toArray) (hJ : base.objs.size ≤ J) (hJC : J ≠ C) (hJD : J ≠ D) (hit : s.heap.IsListIter J S 0) (hst : Nst base C D s.heap ys) (hsz : ys.length + ws.length ≤ sizeLine)
    (turn : ∀ v h tk (m₂ : Str → Option Value), v ∈ ws → Fr base C h (fun z => if z = y then some v else m₂ z) →
      wpAny (model prog w) A (eval elt (compEnvC scope cl C env)) (fun u s₂ => R v u ∧ ∃ tk', s₂ = { s with heap := h, toks := tk' }) (fun _ _ => False) { s with heap := h, toks := tk }) :
    codeAny (model prog w) A (.compStart (.ListComp elt [⟨t1, i1, [], 0⟩, ⟨.Name y py, i2, [], 0⟩] scope pos) 1 (.ref J) (.ref D) (compEnvC scope cl C env))
      (fun r s' => r = .ok .next ∧ ∃ h' tk' zs, s' = { s with heap := h', toks := tk' } ∧ Nst base C D h' (ys ++ zs) ∧ Paired R ws zs ∧ (∀ b o, b ≠ C → b ≠ D → b ≠ J → s.heap.get? b = some o → h'.get? b = some o)) s := by
  have hSlt : S < base.objs.size := by obtain ⟨o, x, _⟩ := hS; exact Heap.lt_size x
  have hSJ : @Ne Nat S J := by have : @LT.lt Nat _ S base.objs.size := hSlt; omega
  have W := Walks.list (prog := prog) (w := w) hh J S hSJ ws.toArray
  rw [List.size_toArray] at W
  obtain ⟨hkp0, ⟨mC0, hn0⟩, k0, hD0⟩ := hst
  have st0 : s.heap.IsListIter J S 0 ∧ s.heap.IsList S ws.toArray := ⟨hit, hS.at fun o e => hkp0 _ o e⟩
  have loop : codeAny (model prog w) A (.compLoop (.ListComp elt [⟨t1, i1, [], 0⟩, ⟨.Name y py, i2, [], 0⟩] scope pos) 1 (.ref J) (.ref D) (compEnvC scope cl C env))
      (fun r s' => r = .ok .next ∧ ∃ h' tk' zs, s' = { s with heap := h', toks := tk' } ∧ Nst base C D h' (ys ++ zs) ∧ Paired R ws zs ∧ (∀ b o, b ≠ C → b ≠ D → b ≠ J → s.heap.get? b = some o → h'.get? b = some o)) s := by
    refine loop_two1 (fun n s' => ∃ h' tk i zs k mC, s' = { s with heap := h', toks := tk } ∧ i ≤ ws.length ∧ n = ws.length + 1 - i ∧ (h'.IsListIter J S i ∧ h'.IsList S ws.toArray) ∧ (∀ b o, base.get? b = some o → h'.get? b = some o) ∧ h'.Ns C mC ∧
        h'.get? D = some (listOf (ys ++ zs).toArray k) ∧ Paired R (ws.take i) zs ∧ (∀ b o, b ≠ C → b ≠ D → b ≠ J → s.heap.get? b = some o → h'.get? b = some o)) ?_ (ws.length + 1)
      ⟨s.heap, s.toks, 0, [], k0, mC0, rfl, Nat.zero_le _, rfl, st0, hkp0, hn0, by simpa using hD0, .nil, fun _ _ _ _ _ e => e⟩
    rintro n s' ⟨h', tk, i, zs, k, mC, rfl, hi, rfl, hst', hkp, hn', hD1, hR, hkk⟩
    have hzl : zs.length = i := by have := hR.length; rw [List.length_take] at this; omega
    by_cases hlt : i < ws.length
    · refine W.item i _ _ _ hlt hst' fun v h3 tk3 hv hst3 hk3 => ?_
      have hv' : ws[i]? = some v := by simpa using hv
      have up : ∀ (c : Nat) o, c ≠ J → h'.get? c = some o → h3.get? c = some o := fun c o hc e => hk3 c o (by simpa using hc) e
      refine wpAny_assign_Name (wpAny_storeName_local (lookup_relabel_local hy) (hn'.at' fun o e => up _ o (Ne.symm hJC) e) (fun h4 hn4 hs4 => ?_) (by simp [compEnvC, relabel, hkind]))
      have kC : ∀ (c : Nat) o, c ≠ C → h3.get? c = some o → h4.get? c = some o := fun c o hc e => hs4.extBut c o hc e
      have F4 : Fr base C h4 (fun z => if z = y then some v else mC z) := ⟨hn4, fun c o e => by
        have hc : @LT.lt Nat _ c base.objs.size := Heap.lt_size e
        exact kC c o (by omega) (up c o (by omega) (hkp c o e)), hC⟩
      refine wpAny_mono (turn v h4 _ mC (List.mem_of_getElem? hv') F4) (fun u s5 h => ?_) fun _ _ e => e.elim
      obtain ⟨hu, tk5, rfl⟩ := h
      refine append_at (hsz := by rw [List.size_toArray, List.length_append]; omega) (kC D _ hDC (up D _ (Ne.symm hJD) hD1)) fun h6 hs6 hD6 => ?_
      have kD : ∀ (c : Nat) o, c ≠ D → h4.get? c = some o → h6.get? c = some o := fun c o hc e => hs6.extBut c o hc e
      refine ⟨ws.length + 1 - (i + 1), by omega, h6, tk5, i + 1, zs ++ [u], k + 1, _, rfl, hlt, rfl, ?_, fun c o e => ?_, hn4.sameBut hs6 (Ne.symm hDC), by rw [hD6]; simp [List.push_toArray], ?_, fun c o h1 h2 h3 e => ?_⟩
      · refine W.frame (i + 1) h3 h6 hst3 fun c hc o e => ?_
        have hc' : c = J ∨ c = S := by simpa using hc
        have hSn : @LT.lt Nat _ S base.objs.size := hSlt
        rcases hc' with rfl | rfl
        · exact kD _ o hJD (kC _ o hJC e)
        · exact kD _ o (by omega) (kC _ o (by omega) e)
      · have hc : @LT.lt Nat _ c base.objs.size := Heap.lt_size e
        exact kD c o (by omega) (F4.keep c o e)
      · rw [List.take_add_one, hv']
        exact hR.snoc hu
      · exact kD c o h2 (kC c o h1 (up c o h3 (hkk c o h1 h2 h3 e)))
    · have hin : i = ws.length := by omega
      subst hin
      refine W.done _ _ _ hst' fun h3 tk3 hk3 => ?_
      have up : ∀ (c : Nat) o, c ≠ J → h'.get? c = some o → h3.get? c = some o := fun c o hc e => hk3 c o (by simpa using hc) e
      refine ⟨rfl, h3, tk3, zs, rfl, ⟨fun c o e => ?_, ⟨mC, hn'.at' fun o e => up _ o (Ne.symm hJC) e⟩, k, up D _ (Ne.symm hJD) hD1⟩, by rw [List.take_length] at hR; exact hR, fun c o h1 h2 h3 e => up c o h3 (hkk c o h1 h2 h3 e)⟩
      have hc : @LT.lt Nat _ c base.objs.size := Heap.lt_size e
      exact up c o (by omega) (hkp c o e)
  exact start_two1 loop (W.self 0 _ _ _ st0 loop)
theorem paired_app {α β : Type} {F : α → β → Prop} {a c : List α} {b d : List β} (h : Paired F a b) (k : Paired F c d) : Paired F (a ++ c) (b ++ d) := by
  induction h with
  | nil => exact k
  | cons x _ ih => exact .cons x ih
theorem flat_take {vss : List (List Value)} (i : Nat) : (vss.take i).flatten.length ≤ vss.flatten.length := by
  have e : vss.flatten = (vss.take i).flatten ++ (vss.drop i).flatten := by rw [← List.flatten_append, List.take_append_drop]
  rw [e, List.length_append]; omega
theorem comp_nest {elt iter : Expr} {x y : Str} {px py px2 : Pos} {scope : Scope} {cl : List (Str × Addr)} {pos : Pos} {use : Option (Value → Sem Unit)} {Q : Value → Shared → Prop} {l : Addr} {us : List Value} {vss : List (List Value)} (R : Value → Value → Prop)
    (hh : A.handled = none) (hl : s.heap.IsList l us.toArray) (hlen : us.length = vss.length) (hus : ∀ (i : Nat) u, us[i]? = some u → ∃ S ws, u = .ref S ∧ vss[i]? = some ws ∧ s.heap.IsList S ws.toArray) (hsz : vss.flatten.length ≤ sizeLine)
    (F : Fr h₀ L s.heap m) (N : News h₀ L s.heap news)
    (hcell : ∀ y ∈ scope.names, y.2 ≠ .cell) (hkind : scope.kind = .function) (hx : scope.names.lookup x = some .local) (hy : scope.names.lookup y = some .local) (hd : (x == ("__debug__" : Str)) = false)
    (turn : ∀ v h tk C (m₂ : Str → Option Value), (∃ ws ∈ vss, v ∈ ws) → Fr s.heap C h (fun z => if z = y then some v else m₂ z) →
      wpAny (model prog w) A (eval elt (compEnvC scope cl C env)) (fun u s₂ => R v u ∧ ∃ tk', s₂ = { s with heap := h, toks := tk' }) (fun _ _ => False) { s with heap := h, toks := tk })
    (done : ∀ h' tk mC (ys : List Value) k D C, Paired R vss.flatten ys → h'.Ns C mC → Fr h₀ L h' m → News h₀ L h' ((D, listOf ys.toArray k) :: news) → (∀ p ∈ news, p.1 ≠ D) →
      h₀.get? C = none → C ≠ L → (∀ p ∈ (D, listOf ys.toArray k) :: news, p.1 ≠ C) → compPost (model prog w) A E use Q (.ref D) C (.ok .next) { s with heap := h', toks := tk }) :
    wpAny (model prog w) A (pyIter (.ref l)) (fun it s₂ => CompG prog w A env E (.ListComp elt [⟨.Name x px, iter, [], 0⟩, ⟨.Name y py, .Name x px2, [], 0⟩] scope pos) scope cl use Q it s₂) E s := by
  refine wpAny_pyIter_list hl ?_
  refine comp_begin hcell hkind ?_
  intro h2 tk D C mC hD hC hDC hk2 hD2 hns
  dsimp only at hD hC hk2
  rw [Heap.size_push] at hD hC
  have hlt : @LT.lt Nat _ l s.heap.objs.size := by obtain ⟨o, x, _⟩ := hl; exact Heap.lt_size x
  have W := Walks.list (prog := prog) (w := w) hh s.heap.objs.size l (Nat.ne_of_lt hlt) us.toArray
  rw [List.size_toArray] at W
  have up1 : ∀ b o, s.heap.get? b = some o → h2.get? b = some o := fun b o e => hk2 b o (Heap.get?_push_of_some _ e)
  have hIC : s.heap.objs.size ≠ C := by omega
  have hID : s.heap.objs.size ≠ D := by omega
  have st0 : h2.IsListIter s.heap.objs.size l 0 ∧ h2.IsList l us.toArray := ⟨⟨_, hk2 _ _ (Heap.get?_push_size _ rfl), rfl, rfl⟩, hl.at fun o e => up1 _ o e⟩
  have loop : codeAny (model prog w) A (.compLoop (.ListComp elt [⟨.Name x px, iter, [], 0⟩, ⟨.Name y py, .Name x px2, [], 0⟩] scope pos) 0 (.ref s.heap.objs.size) (.ref D) (compEnvC scope cl C env))
      (compPost (model prog w) A E use Q (.ref D) C) { s with heap := h2, toks := tk } := by
    refine loop_two0 (fun n s' => ∃ h' tk i ys, s' = { s with heap := h', toks := tk } ∧ i ≤ us.length ∧ n = us.length + 1 - i ∧ (h'.IsListIter s.heap.objs.size l i ∧ h'.IsList l us.toArray) ∧ Nst s.heap C D h' ys ∧ Paired R (vss.take i).flatten ys) ?_ (us.length + 1)
      ⟨h2, tk, 0, [], rfl, Nat.zero_le _, rfl, st0, ⟨up1, ⟨_, hns⟩, 0, hD2⟩, .nil⟩
    rintro n s' ⟨h', tk, i, ys, rfl, hi, rfl, hst', hN, hR⟩
    have hyl := hR.length
    have hft := flat_take (vss := vss) i
    by_cases hlt2 : i < us.length
    · refine W.item i _ _ _ hlt2 hst' fun v h3 tk3 hv hst3 hk3 => ?_
      have hv' : us[i]? = some v := by simpa using hv
      obtain ⟨S, ws, rfl, hws, hS⟩ := hus i v hv'
      have up : ∀ (c : Nat) o, c ≠ s.heap.objs.size → h'.get? c = some o → h3.get? c = some o := fun c o hc e => hk3 c o (by simpa using hc) e
      obtain ⟨hkp, ⟨mC', hn'⟩, k, hD1⟩ := hN
      refine wpAny_assign_Name (wpAny_storeName_local (lookup_relabel_local hx) (hn'.at' fun o e => up _ o (Ne.symm hIC) e) (fun h4 hn4 hs4 => ?_) (by simp [compEnvC, relabel, hkind]))
      have kC : ∀ (c : Nat) o, c ≠ C → h3.get? c = some o → h4.get? c = some o := fun c o hc e => hs4.extBut c o hc e
      have kp4 : ∀ c o, s.heap.get? c = some o → h4.get? c = some o := fun c o e => by
        have hc : @LT.lt Nat _ c s.heap.objs.size := Heap.lt_size e
        exact kC c o (by omega) (up c o (by omega) (hkp c o e))
      have hC4 : @LT.lt Nat _ C h4.objs.size := hn4.lt
      have hD4 : h4.get? D = some (listOf ys.toArray k) := kC D _ hDC (up D _ (Ne.symm hID) hD1)
      have hD4s : @LT.lt Nat _ D h4.objs.size := Heap.lt_size hD4
      refine wpAny_Name (wpAny_loadName_local (v := .ref S) (by show (relabel scope env).kind = _; exact hkind) (lookup_relabel_local hx) hn4 (by simp) ?_) hd
      refine wpAny_pyIter_list (hS.at fun o e => kp4 _ o e) ?_
      have hSlt : @LT.lt Nat _ S s.heap.objs.size := by obtain ⟨o, x, _⟩ := hS; exact Heap.lt_size x
      have h4s : @LE.le Nat _ s.heap.objs.size h4.objs.size := by omega
      have push : ∀ (b : Addr) (o : Obj), h4.get? b = some o → (h4.push { cls := .type "list_iterator", data := .fields #[.ref S, .int 0 0] }).get? b = some o := fun b o e => Heap.get?_push_of_some _ e
      have hfl : (vss.take i).flatten.length + ws.length ≤ vss.flatten.length := by
        have := flat_take (vss := vss) (i + 1)
        rw [List.take_add_one, hws, List.flatten_append, List.length_append] at this
        simpa using this
      refine codeAny_mono (nest_inner (base := s.heap) (C := C) (D := D) (S := S) (J := h4.objs.size) (ws := ws) (ys := ys) R hh hkind hy (by omega) (by omega) hDC hS h4s (by omega) (by omega)
        ⟨_, Heap.get?_push_size _ rfl, rfl, rfl⟩ ⟨fun b o e => push _ _ (kp4 b o e), ⟨_, hn4.at' fun o e => push _ _ e⟩, k, push _ _ hD4⟩ (by omega)
        (fun v h tk m₂ hv hF => turn v h tk C m₂ ⟨ws, List.mem_of_getElem? hws, hv⟩ hF)) ?_
      rintro r s5 ⟨rfl, h5, tk5, zs, rfl, hN5, hP, hkk⟩
      refine ⟨rfl, us.length + 1 - (i + 1), by omega, h5, tk5, i + 1, ys ++ zs, rfl, hlt2, rfl, ?_, hN5, ?_⟩
      · refine W.frame (i + 1) h3 h5 hst3 fun c hc o e => ?_
        have hc' : c = s.heap.objs.size ∨ c = l := by simpa using hc
        rcases hc' with rfl | rfl
        · exact hkk _ o hIC hID (by omega) (push _ _ (kC _ o hIC e))
        · exact hkk _ o (by omega) (by omega) (by omega) (push _ _ (kC _ o (by omega) e))
      · rw [List.take_add_one, hws, List.flatten_append]
        exact paired_app hR (by simpa using hP)
    · have hin : i = us.length := by omega
      subst hin
      refine W.done _ _ _ hst' fun h3 tk3 hk3 => ?_
      have up : ∀ (c : Nat) o, c ≠ s.heap.objs.size → h'.get? c = some o → h3.get? c = some o := fun c o hc e => hk3 c o (by simpa using hc) e
      obtain ⟨hkp, ⟨mC', hn'⟩, k, hD1⟩ := hN
      have up0 : ∀ (c : Nat) o, s.heap.get? c = some o → h3.get? c = some o := fun c o e => by
        have hc : @LT.lt Nat _ c s.heap.objs.size := Heap.lt_size e
        exact up c o (by omega) (hkp c o e)
      have zD := fresh_none F (show @LE.le Nat _ s.heap.objs.size D by omega)
      have zC := fresh_none F (show @LE.le Nat _ s.heap.objs.size C by omega)
      rw [hlen, List.take_length] at hR
      refine done h3 tk3 _ ys k D C hR (hn'.at' fun o e => up _ o (Ne.symm hIC) e) (F.keeps up0) (fun p hp => ?_) (fun p hp => ?_) zC.1 zC.2 (fun p hp => ?_)
      · rcases List.mem_cons.mp hp with rfl | hp
        · exact ⟨up _ _ (Ne.symm hID) hD1, zD.2, zD.1⟩
        · exact ⟨up0 _ _ (N p hp).1, (N p hp).2⟩
      · have : @LT.lt Nat _ p.1 s.heap.objs.size := Heap.lt_size (N p hp).1; show @Ne Nat _ _; omega
      · rcases List.mem_cons.mp hp with rfl | hp
        · exact hDC
        · have : @LT.lt Nat _ p.1 s.heap.objs.size := Heap.lt_size (N p hp).1; show @Ne Nat _ _; omega
  exact codeAny_compStart_list loop (W.self 0 _ _ _ st0 loop)
end

theorem pts_lt5 : ∀ (M : Nat), ∀ n ∈ pts M, n < P5 := by
  intro M
  induction M using Nat.strongRecOn with
  | ind M ih =>
    intro n hn
    by_cases h : M < P5
    · rw [pts_lt h] at hn; rw [List.mem_singleton.mp hn]; exact h
    · rw [pts_ge h] at hn
      rcases List.mem_cons.mp hn with rfl | hn
      · exact Nat.mod_lt _ (by have := P5_pos; omega)
      · exact ih (M / P5) (Nat.div_lt_self (by have := P5_pos; omega) P5_pos) n hn
theorem p5_ten : P5 + 1 < 10 ^ 151 := by unfold P5; decide +kernel
/-- the text of a tuple of whole numbers -/
noncomputable def ti (zs : List Int) : List Nat := 40 :: (jn [32] (zs.map num) ++ [41])
noncomputable def brk (M : Nat) : List Nat := 40 :: jn [32] ((pts M).map dg)
noncomputable def zof (M : Nat) : List Int := (pts M).map fun n : Nat => (n : Int)
/-- how _law_odd spells a mask -/
inductive OddTx (M : Nat) : List Nat → Prop
  | whole : 1 < (pts M).length → OddTx M (dg M)
  | one : (pts M).length = 1 → OddTx M (brk M ++ [41])
  | zero : OddTx M (brk M ++ [32, 48, 41])
  | big (k : Nat) : k < (pts M).length → OddTx M (ti ((zof M).take k ++ [((P5 : Nat) : Int)] ++ (zof M).drop (k + 1)))
  | neg (k p : Nat) : (pts M)[k]? = some p → OddTx M (ti ((zof M).take k ++ [-1 - ((p : Nat) : Int)] ++ (zof M).drop (k + 1)))
  | tup : OddTx M (brk M ++ [32, 40, 49, 41, 41])
  | str : OddTx M (brk M ++ [32, 34, 49, 34, 41])
  | none : OddTx M (brk M ++ [32, 45, 41])
  | empty : OddTx M [40, 41]
theorem num_len {z : Int} (h : (dg z.natAbs).length ≤ 160) : (num z).length ≤ 161 := by
  unfold num
  split
  · simp only [List.length_cons]; omega
  · omega
theorem zof_mem {M : Nat} {z : Int} (h : z ∈ zof M) : (dg z.natAbs).length ≤ 160 := by
  obtain ⟨n, hn, rfl⟩ := List.mem_map.mp h
  have : n < 10 ^ 151 := Nat.lt_trans (Nat.lt_succ_of_lt (pts_lt5 M n hn)) p5_ten
  have := (dg_len (m := n) (k := 151) (by decide)).mpr this
  rw [Int.natAbs_natCast]; omega

theorem isi_none {prog : Program} {w : World} {A : Around} {E : Value → Shared → Prop} {s : Shared} {Q : Value → Shared → Prop} (h : Q (.bool false) { s with toks := s.toks + 1 }) : wpAny (model prog w) A (call (.builtin "isinstance") [.none, .type "int"]) Q E s := by
  walk_at "call builtin:isinstance"
  exact h
theorem isi_tup {prog : Program} {w : World} {A : Around} {E : Value → Shared → Prop} {s : Shared} {Q : Value → Shared → Prop} {h₀ : Heap} {L T : Addr} {news : List (Addr × Obj)} {vs : Array Value} (N : News h₀ L s.heap news) (hm : (T, tupO vs) ∈ news) (h : Q (.bool true) s) : wpAny (model prog w) A (call (.builtin "isinstance") [.ref T, .type "tuple"]) Q E s :=
  IsiPair.tuple_tuple (N.get hm) rfl h
theorem isi_tupi {prog : Program} {w : World} {A : Around} {E : Value → Shared → Prop} {s : Shared} {Q : Value → Shared → Prop} {h₀ : Heap} {L T : Addr} {news : List (Addr × Obj)} {vs : Array Value} (N : News h₀ L s.heap news) (hm : (T, tupO vs) ∈ news) (h : Q (.bool false) { s with toks := s.toks + 1 }) : wpAny (model prog w) A (call (.builtin "isinstance") [.ref T, .type "int"]) Q E s :=
  IsiPair.tuple_int (N.get hm) rfl h

open PySem.SeqAt (shaped noMix noMixAll)
noncomputable def val : List Nat → Nat
  | [] => 0
  | p :: ps => p + P5 * val ps
theorem val_pts (M : Nat) : val (pts M) = M := by
  induction M using Nat.strongRecOn with
  | ind M ih =>
    by_cases h : M < P5
    · rw [pts_lt h]; simp [val]
    · rw [pts_ge h]
      show M % P5 + P5 * val (pts (M / P5)) = M
      rw [ih (M / P5) (Nat.div_lt_self (by have := P5_pos; omega) P5_pos)]
      exact Nat.mod_add_div M P5
theorem val_snoc (p : Nat) : ∀ ps : List Nat, val (ps ++ [p]) = val ps + P5 ^ ps.length * p
  | [] => by simp [val]
  | q :: ps => by
    show q + P5 * val (ps ++ [p]) = q + P5 * val ps + P5 ^ (ps.length + 1) * p
    rw [val_snoc p ps, Nat.mul_add, Nat.pow_succ, Nat.mul_comm (P5 ^ ps.length) P5, Nat.mul_assoc]
    omega
theorem val_lt : ∀ ps : List Nat, (∀ p ∈ ps, p < P5) → val ps < P5 ^ ps.length
  | [], _ => by simp [val]
  | q :: ps, h => by
    have h1 := val_lt ps fun p hp => h p (.tail _ hp)
    have h2 := h q (.head _)
    show q + P5 * val ps < P5 ^ (ps.length + 1)
    rw [Nat.pow_succ, Nat.mul_comm (P5 ^ ps.length) P5]
    calc q + P5 * val ps < P5 * 1 + P5 * val ps := by omega
      _ = P5 * (1 + val ps) := by rw [Nat.mul_add]
      _ ≤ P5 * P5 ^ ps.length := Nat.mul_le_mul_left _ (by omega)
theorem p5_pow (k : Nat) : P5 ^ k = 2 ^ (500 * k) := by unfold P5; rw [← Nat.pow_mul]
theorem bitNot_nat (n : Nat) : Builtin.bitNot (n : Int) = Int.negSucc n := by
  unfold Builtin.bitNot
  omega
theorem bitNot_neg (n : Nat) : Builtin.bitNot (Int.negSucc n) = (n : Int) := by
  unfold Builtin.bitNot
  omega
theorem bitOr_nat (a b : Nat) : Builtin.bitOr (a : Int) (b : Int) = ((a ||| b : Nat) : Int) := by
  unfold Builtin.bitOr
  rw [bitNot_nat, bitNot_nat]
  unfold Builtin.bitAnd
  have h1 : decide ((0 : Int) ≤ Int.negSucc a) = false := by simp
  have h2 : decide ((0 : Int) ≤ Int.negSucc b) = false := by simp
  rw [h1, h2]
  simp [Builtin.bitNot]
  omega
theorem or_step {ps : List Nat} {p k : Nat} (h : ∀ p ∈ ps, p < P5) (hk : ps.length = k) : Builtin.bitOr ((val ps : Nat) : Int) ((p * 2 ^ (500 * k) : Nat) : Int) = ((val (ps ++ [p]) : Nat) : Int) := by
  subst hk
  rw [bitOr_nat, val_snoc, p5_pow]
  have h1 := val_lt ps h
  rw [p5_pow] at h1
  rw [Nat.or_comm, Nat.mul_comm p, ← Nat.two_pow_add_eq_or_of_lt h1]
  omega
noncomputable def maskD (M : Nat) : PyData := if M < P5 then .int (M : Nat) else .tuple (((pts M).map fun n : Nat => (n : Int)).map PyData.int)
noncomputable def itemD (ps : List Nat) : Bool → PyData
  | false => .int ((ps.headD 0 : Nat) : Int)
  | true => .tuple ((ps.map fun n : Nat => (n : Int)).map PyData.int)
theorem IsMask.reads {h₀ h : Heap} {L : Addr} {M : Nat} {v : Value} {ex : List (Addr × Obj)} (H : IsMask M v ex) (N : News h₀ L h ex) : Reads h v (maskD M) [] := by
  rcases H with ⟨h1, ⟨t, rfl⟩, rfl⟩ | ⟨h1, T, vs, rfl, rfl, hi⟩
  · rw [maskD, if_pos h1]; exact .int _ _
  · rw [maskD, if_neg h1]
    exact Reads.tuple (N.get (.head _)) rfl rfl (by simpa using readsAll_of_ints hi)
theorem shaped_tints (ns : List Int) : shaped (.tuple (ns.map PyData.int)) = true := by
  have h1 := PySem.W.depthAll_ints ns
  have h2 : PyData.depth (.tuple (ns.map PyData.int)) ≤ 64 := by simp only [PyData.depth]; omega
  show (PyData.canLay0 (.tuple (ns.map PyData.int)) && decide (PyData.depth (.tuple (ns.map PyData.int)) ≤ 64)) = true
  rw [Bool.and_eq_true]
  exact ⟨by simp only [PyData.canLay0]; exact canLayAll0_ints ns, decide_eq_true h2⟩
theorem shaped_int (n : Int) : shaped (.int n) = true := by
  have h2 : PyData.depth (.int n) ≤ 64 := by simp only [PyData.depth]; omega
  show (PyData.canLay0 (.int n) && decide (PyData.depth (.int n) ≤ 64)) = true
  rw [Bool.and_eq_true]
  exact ⟨by simp only [PyData.canLay0], decide_eq_true h2⟩
theorem shaped_mask (M : Nat) : shaped (maskD M) = true := by
  unfold maskD; split
  · exact shaped_int _
  · exact shaped_tints _
theorem shaped_item (ps : List Nat) (b : Bool) : shaped (itemD ps b) = true := by
  cases b
  · exact shaped_int _
  · exact shaped_tints _
theorem noMix_mi (M : Nat) (ps : List Nat) (b : Bool) : noMix (maskD M) (itemD ps b) = true := by
  unfold maskD; cases b <;> split <;> simp only [itemD, noMix] <;> exact noMix_ints _ _
theorem same_mi (M : Nat) (ps : List Nat) (b : Bool) : PySem.Spec.same (maskD M) (itemD ps b) = true ↔ maskD M = itemD ps b := by
  unfold maskD; cases b <;> split <;> simp only [itemD, PySem.Spec.same]
  · simp
  · simp
  · simp
  · rw [same_ints]
    simp only [decide_eq_true_eq, PyData.tuple.injEq]
    refine ⟨fun h => by rw [h], fun h => ?_⟩
    have : ∀ xs ys : List Int, xs.map PyData.int = ys.map PyData.int → xs = ys := fun xs => by
      induction xs with
      | nil => intro ys h; cases ys with
        | nil => rfl
        | cons a b => cases h
      | cons x xs ih => intro ys h; cases ys with
        | nil => cases h
        | cons a b =>
          simp only [List.map_cons, List.cons.injEq, PyData.int.injEq] at h
          rw [h.1, ih _ h.2]
    exact this _ _ h
section
variable {w : World} {p : Program} {A : Around} {s : Shared} {Q E : Value → Shared → Prop}
theorem ne_mask {h₀ : Heap} {L : Addr} {M : Nat} {v u : Value} {ex : List (Addr × Obj)} {ps : List Nat} {b : Bool} (H : IsMask M v ex) (N : News h₀ L s.heap ex) (R : Reads s.heap u (itemD ps b) []) (hu : A.units + 64 < cLine)
    (h : Q (.bool (!PySem.Spec.same (maskD M) (itemD ps b))) s) : wpAny (model p w) A (compareOp .NotEq v u) Q E s :=
  ne_dataH_same (H.reads N) R (shaped_mask M) (shaped_item ps b) hu (noMix_mi M ps b) h
end
/-- an element of a piece: some p = a part, none = no part -/
noncomputable def ElIs (v : Value) (ex : List (Addr × Obj)) : Option Nat → Prop
  | some p => p < P5 ∧ ∃ t, v = .int (p : Nat) t
  | none => (∃ z t, v = .int z t ∧ z < 0) ∨ (∃ z t, v = .int ((z : Nat) : Int) t ∧ P5 ≤ z) ∨ v = .none ∨ (∃ x t, v = .str x t) ∨ (∃ T vs, v = .ref T ∧ (T, tupO vs) ∈ ex)
inductive ElsAre (ex : List (Addr × Obj)) : List Value → List (Option Nat) → Prop
  | nil : ElsAre ex [] []
  | cons {v : Value} {vs : List Value} {g : Option Nat} {gs : List (Option Nat)} : ElIs v ex g → ElsAre ex vs gs → ElsAre ex (v :: vs) (g :: gs)
theorem ElsAre.len {ex : List (Addr × Obj)} : ∀ {vs : List Value} {gs : List (Option Nat)}, ElsAre ex vs gs → vs.length = gs.length := by
  intro vs gs h
  induction h with
  | nil => rfl
  | cons _ r ih => exact congrArg (· + 1) ih
theorem ElsAre.at {ex : List (Addr × Obj)} : ∀ {vs : List Value} {gs : List (Option Nat)} {i : Nat} {g : Option Nat}, ElsAre ex vs gs → gs[i]? = some g → ∃ v, vs[i]? = some v ∧ ElIs v ex g
  | _, _, _, _, .nil, h => by simp at h
  | _, _, 0, _, .cons a _, h => by
    simp only [List.getElem?_cons_zero, Option.some.injEq] at h
    subst h; exact ⟨_, rfl, a⟩
  | _, _, i + 1, _, .cons _ r, h => by
    simp only [List.getElem?_cons_succ] at h ⊢
    exact ElsAre.at r h
theorem ElsAre.ints {ex : List (Addr × Obj)} : ∀ {vs : List Value} {ps : List Nat}, ElsAre ex vs (ps.map some) → IntsAre vs (ps.map fun n : Nat => (n : Int))
  | [], [], _ => .nil
  | v :: vs, p :: ps, h => by
    cases h with
    | cons a r =>
      obtain ⟨_, t, rfl⟩ := a
      exact .cons _ _ (ElsAre.ints r)
noncomputable def ItemIs (v : Value) (ex : List (Addr × Obj)) (gs : List (Option Nat)) : Bool → Prop
  | false => ∃ g, gs = [g] ∧ ElIs v ex g ∧ ∃ z t, v = .int z t
  | true => ∃ T vs, v = .ref T ∧ (T, tupO vs.toArray) ∈ ex ∧ ElsAre ex vs gs
theorem ItemIs.reads {h₀ h : Heap} {L : Addr} {v : Value} {ex : List (Addr × Obj)} {ps : List Nat} {b : Bool} (H : ItemIs v ex (ps.map some) b) (N : News h₀ L h ex) : Reads h v (itemD ps b) [] := by
  cases b with
  | false =>
    obtain ⟨g, e, a, _⟩ := H
    cases ps with
    | nil => cases e
    | cons p ps =>
      cases ps with
      | cons _ _ => cases e
      | nil =>
        cases e
        obtain ⟨_, t, rfl⟩ := a
        exact .int _ _
  | true =>
    obtain ⟨T, vs, rfl, hm, he⟩ := H
    exact Reads.tuple (N.get hm) rfl rfl (by simpa using readsAll_of_ints he.ints)
theorem AllIs.at : ∀ {qs : List Pc} {vs : List Value} {exs : List (Addr × Obj)} {i : Nat} {q : Pc}, AllIs qs vs exs → qs[i]? = some q → ∃ v ex, vs[i]? = some v ∧ q.is v ex ∧ ∀ p ∈ ex, p ∈ exs
  | _, _, _, _, _, .nil, h => by simp at h
  | _, _, _, 0, _, .cons a _, h => by
    simp only [List.getElem?_cons_zero, Option.some.injEq] at h
    subst h; exact ⟨_, _, rfl, a, fun p hp => List.mem_append_left _ hp⟩
  | _, _, _, i + 1, _, .cons _ r, h => by
    simp only [List.getElem?_cons_succ] at h ⊢
    obtain ⟨v, ex, h1, h2, h3⟩ := AllIs.at r h
    exact ⟨v, ex, h1, h2, fun p hp => List.mem_append_right _ (h3 p hp)⟩
/-- a piece of a line with its elements, and whether it is a tuple -/
noncomputable abbrev Dsc := Pc × List (Option Nat) × Bool
noncomputable def outv (d : Dsc) : Nat := val (d.2.1.map (·.getD 0))
noncomputable def good (d : Dsc) : Prop := ∃ ps : List Nat, d.2.1 = ps.map some ∧ maskD (val ps) = itemD ps d.2.2
theorem outv_some {q : Pc} {ps : List Nat} {b : Bool} : outv (q, ps.map some, b) = val ps := by
  unfold outv
  simp [Function.comp_def]
theorem pts_len_le : ∀ (n : Nat) {M : Nat}, M < P5 ^ (n + 1) → (pts M).length ≤ n + 1
  | 0, M, h => by
    rw [pts_lt (by simpa using h)]; exact Nat.le_refl _
  | n + 1, M, h => by
    by_cases h1 : M < P5
    · rw [pts_lt h1]; simp
    · rw [pts_ge h1]
      have h2 : M / P5 < P5 ^ (n + 1) := by
        rw [Nat.div_lt_iff_lt_mul (by have := P5_pos; omega)]
        rw [Nat.pow_succ] at h; exact h
      have := pts_len_le n h2
      simp only [List.length_cons]; omega
section
variable {prog : Program} {w : World} {A : Around} {E : Value → Shared → Prop} {s : Shared} {h₀ : Heap} {L T : Addr} {news : List (Addr × Obj)} {wl : List Value} {Q : Value → Shared → Prop}
theorem len_tupN (N : News h₀ L s.heap news) (hm : (T, tupO wl.toArray) ∈ news) (hs : wl.length ≤ 1000000) (h : Q (.int ((wl.length : Nat) : Int) (s.toks + 1)) { s with toks := s.toks + 1 + 1 }) : wpAny (model prog w) A (call (.builtin "len") [.ref T]) Q E s :=
  len_tuple (News.isTup N hm) (by rw [List.size_toArray]; omega) (by rw [List.size_toArray]; exact h)
theorem sub_tupN {value slice : Expr} {k : Nat} {u : Tok} {x : Value} (N : News h₀ L s.heap news) (hm : (T, tupO wl.toArray) ∈ news) (hs : wl.length ≤ 1000000) (hx : wl[k]? = some x) (h : Q x s)
    (hq : subscripted slice false (.ref T) (.int (k : Nat) u) = operate [.ref T, .int (k : Nat) u] (getItem (.ref T) (.int (k : Nat) u)) := by with_unfolding_all rfl) :
    wpAny (model prog w) A (subscriptTail value slice (.ref T) (.int (k : Nat) u)) Q E s := by
  have hT := News.isTup N hm
  have hk : k < wl.length := (List.getElem?_eq_some_iff.mp hx).1
  exact tail_any hT.typeIs PyProof.Rows.slot_tuple_getitem.lookup (PyProof.Rows.getItem_tuple hT (by omega) (by omega) (by rw [List.size_toArray]; exact seqIndex_of (by omega) (by omega)) (by simpa using hx) h) hq
end
theorem shl_nat {prog : Program} {w : World} {A : Around} {E : Value → Shared → Prop} {s : Shared} {Q : Value → Shared → Prop} {p n : Nat} {t u : Tok} (hp : p < P5) (hn : n ≤ 4000) (h : Q (.int ((p * 2 ^ n : Nat) : Int) s.toks) { s with toks := s.toks + 1 }) :
    wpAny (model prog w) A (binaryOp .LShift (.int (p : Nat) t) (.int (n : Nat) u)) Q E s := by
  have hb : p < B8 := Nat.lt_of_lt_of_le hp (by unfold P5 B8; exact Nat.pow_le_pow_right (by decide) (by decide))
  have := bits_nat hb
  refine lshift_int (by omega) (by omega) ?_
  have e : (((p : Nat) : Int) * 2 ^ (Int.toNat (n : Nat))) = ((p * 2 ^ n : Nat) : Int) := by simp
  rw [e]; exact h

/-- a lid, that the walk ends at it -/
noncomputable def Opq (p : Prop) : Prop := p
theorem news_ins {h₀ h : Heap} {L : Addr} {x : Addr × Obj} {a b : List (Addr × Obj)} (N : News h₀ L h a) (M : News h₀ L h (x :: b)) : News h₀ L h (x :: (a ++ b)) := fun p hp => by
  rcases List.mem_cons.mp hp with rfl | hp
  · exact M _ (.head _)
  · rcases List.mem_append.mp hp with hp | hp
    · exact N _ hp
    · exact M _ (.tail _ hp)
theorem news_add {h₀ h : Heap} {L : Addr} {x : Addr × Obj} {a : List (Addr × Obj)} (N : News h₀ L h a) (hx : x ∈ a) : News h₀ L h (x :: a) := fun p hp => by
  rcases List.mem_cons.mp hp with rfl | hp
  · exact N _ hx
  · exact N _ hp
/-- what holds between the turns of read_masks -/
inductive RmOut (P : Params) (r rd c d FL : Addr) (c1 c2 c3 d1 d2 d3 d4 many : Nat) (t : Tok) (l : List Nat) (k' : Nat) (ds : List Dsc) (exs : List (Addr × Obj)) (i : Nat) (m₁ : Str → Option Value) (nw : List (Addr × Obj)) : Prop
  | mk (ws : List Value) (e : Nat) (q1 : m₁ (Str.ofString "reader") = some (.ref r)) (q2 : m₁ (Str.ofString "many") = some (.int (many : Nat) t)) (q3 : m₁ (Str.ofString "found") = some (.ref FL)) (hg : ∀ q ∈ ds.take i, good q) (hws : NatsAre ws ((ds.take i).map outv))
      (hw : nw = (FL, listOf ws.toArray e) :: (r, instObj 407 rd) :: (rd, rdD P c 1 c1 c2 c3) :: (c, instObj 236 d) :: (d, curD P (tx l) (k' : Nat) d1 d2 d3 d4) :: exs) : RmOut P r rd c d FL c1 c2 c3 d1 d2 d3 d4 many t l k' ds exs i m₁ nw
/-- what stands when an item's parts are known -/
inductive RmMid (g : Heap) (L : Addr) (s : Shared) (r FL : Addr) (many : Nat) (t : Tok) (ex base : List (Addr × Obj)) (v : Value) (gs : List (Option Nat)) : Flow → Shared → Prop
  | mk (T : Addr) (wl : List Value) (h' : Heap) (tk : Nat) (m' : Str → Option Value) (F : Fr g L h' m') (N : News g L h' ((T, tupO wl.toArray) :: base)) (p1 : m' (Str.ofString "reader") = some (.ref r)) (p2 : m' (Str.ofString "many") = some (.int (many : Nat) t)) (p3 : m' (Str.ofString "found") = some (.ref FL)) (p4 : m' (Str.ofString "item") = some v)
      (t0 : Tok) (p5 : m' (Str.ofString "mask") = some (.int ((0 : Nat) : Int) t0)) (p6 : m' (Str.ofString "parts") = some (.ref T)) (nT : @Ne Nat T FL) (he : ElsAre ex wl gs) : RmMid g L s r FL many t ex base v gs .next { s with heap := h', toks := tk }
/-- what holds between the turns over an item's parts -/
inductive RmIn (r FL TT : Addr) (many : Nat) (t : Tok) (v : Value) (gs : List (Option Nat)) (base : List (Addr × Obj)) (k : Nat) (m₁ : Str → Option Value) (nw : List (Addr × Obj)) : Prop
  | mk (ps : List Nat) (t5 : Tok) (p1 : m₁ (Str.ofString "reader") = some (.ref r)) (p2 : m₁ (Str.ofString "many") = some (.int (many : Nat) t)) (p3 : m₁ (Str.ofString "found") = some (.ref FL)) (p4 : m₁ (Str.ofString "item") = some v) (p5 : m₁ (Str.ofString "mask") = some (.int ((val ps : Nat) : Int) t5)) (p6 : m₁ (Str.ofString "parts") = some (.ref TT))
      (htk : gs.take k = ps.map some) (hps : ∀ p ∈ ps, p < P5) (hw : nw = base) : RmIn r FL TT many t v gs base k m₁ nw
section
variable {w : World} {p : Program} {loose : List Str} {mg mb : Str → Option Value} {h₀ : Heap} {A : Around} {s : Shared} {Q E : Value → Shared → Prop} {L : Addr} {m : Str → Option Value} {news : List (Addr × Obj)} {g : Obj → List (Addr × Obj)} {g2 : Obj → Obj → List (Addr × Obj)}
    {c d r rd : Addr} {l : List Nat} {a1 a2 a3 a4 b1 b2 b3 : Nat} {n : Int} {base : Heap} {outer : List Env}
local macro_rules | `(tactic| tb_start) => `(tactic| (with_reducible show wpAny _ _ (exec (Stmt.Assign _ (Expr.IfExp _ _ _ _) _) _) _ _ _))
set_option pp.deepTerms false in
set_option maxHeartbeats 8000000 in
theorem read_ok {B : Prop} {ds : List Dsc} {many : Nat} {t : Tok} (hI : ∀ q ∈ ds, ItemOK w 0 q.1 ∨ (B ∧ ItemUp w q.1)) (hD : ∀ q ∈ ds, ∀ v ex, q.1.is v ex → ItemIs v ex q.2.1 q.2.2) (hlen : ∀ q ∈ ds, q.2.1.length ≤ 8) (hmany : ds.length ≤ 1000)
    (F₀ : Fr h₀ L s.heap m) (N₀ : News h₀ L s.heap news) (X₀ : (Hd.KK w.params).In h₀) (T₀ : TopRead p loose mg mb h₀)
    (hr : (r, instObj 407 rd) ∈ news) (hrd : (rd, rdD w.params c 0 b1 b2 b3) ∈ news) (hc : (c, instObj 236 d) ∈ news) (hd : (d, curD w.params (tx l) (0 : Nat) a1 a2 a3 a4) ∈ news) (U : UpdF rd (rdD w.params c 0 b1 b2 b3) news g) (U2 : ∀ x, UpdF d (curD w.params (tx l) (0 : Nat) a1 a2 a3 a4) (g x) (g2 x))
    (ho : @LT.lt Nat _ rd r ∧ @LT.lt Nat _ r d ∧ @LT.lt Nat _ d c) (KS : Sta A base outer h₀ L) (hh : A.handled = none) (hu : A.units + 200 < cLine) (room : A.depth + 40 < recursionLimit) (hl : (tx l).length ≤ 1048576) (hr0 : l = lineOf (ds.map (·.1)))
    (ret : ∀ h' tk' S ws e c1 c2 c3 k' b1 b2 b3 b4, (∀ q ∈ ds, good q) → many = ds.length → Fr h₀ L h' m → News h₀ L h' (g2 (rdD w.params c 1 c1 c2 c3) (curD w.params (tx l) ((k' : Nat) : Int) b1 b2 b3 b4)) → News h₀ L h' [(S, listOf ws.toArray e)] → (∀ o, s.heap.get? S = some o → False) → NatsAre ws (ds.map outv) → Q (.ref S) { s with heap := h', toks := tk' })
    (up : B ∨ (∃ q ∈ ds, ¬ good q) ∨ many ≠ ds.length → ∀ e h' tk', Flown base outer e s.heap h' → E (.ref e) { s with heap := h', toks := tk' }) :
    wpAny (model PySem.Challenge.rw_qd0064_01.row.prog w) A (call (.ref 35) [.ref r, .int (many : Nat) t]) Q E s := by
  obtain ⟨O, NF⟩ := own_four F₀ N₀ hr hrd hc hd
  have G : Good w p loose mg mb h₀ := ⟨X₀, T₀⟩
  refine' enter_err (binds := [(Str.ofString "reader", .ref r), (Str.ofString "many", .int (many : Nat) t)]) KS F₀ NF G O ?h1 ?h2 (by walk_at "mk_room") ?h3 ?h4 ?h ?c1 ?c2 ?c3 ?c4
  walk_at "mk_enter"
  intro L h₁ hL F N X T K2
  k_fold
  walk_at "mk_go"
  refine wpAny_For ?_ ?hs
  case hs => intro _; rfl
  walk_at "mk_go"
  (with_reducible rename Fr _ _ _ _ => FF); (with_reducible rename News _ _ _ (_ :: _) => NN)
  (with_reducible rename _ ∧ _ => lf)
  first
    | (rename_i FL _ _ _; have lq : @LT.lt Nat _ r FL := lf.1; clear lq)
    | (rename_i FL _ _; have lq : @LT.lt Nat _ r FL := lf.1; clear lq)
    | (rename_i FL _; have lq : @LT.lt Nat _ r FL := lf.1; clear lq)
    | (rename_i FL _ _ _ _; have lq : @LT.lt Nat _ r FL := lf.1; clear lq)
  refine' items_ok (B := B) (qs := ds.map (·.1)) ?i1 (by simpa using hmany) FF NN X T ?a1 ?a2 ?a3 ?a4 ?a5 ?a7 ho K2 ?a0 ?a6 hl hr0 ?_ ?_
  (case i1 => intro q hq; obtain ⟨z, hz, rfl⟩ := List.mem_map.mp hq; exact hI z hz)
  (case a0 => walk_at "mk_hh"); (case a1 => k_dflt k_mem); (case a2 => k_dflt k_mem); (case a3 => k_dflt k_mem); (case a4 => k_dflt k_mem); (case a5 => k_dflt k_updF); (case a7 => intro x; k_dflt k_updF)
  (case a6 => (try simp only [depth_deeper]); omega)
  rotate_left
  · intro hB e h' tk' R
    exact leave_up KS FF NF R (fun h' R => up (.inl hB) _ _ _ R)
  intro h' tk' S vs exs e c1 c2 c3 k' d1 d2 d3 d4 F' N' hk' NS fx nS hall
  have n0 : ∀ p ∈ exs, p.1 ≠ _ := fun p hp e => fx p (.tail _ hp) _ (by rw [e]; exact NN.get (.head _))
  have n1 : ∀ p ∈ exs, p.1 ≠ r := fun p hp e => fx p (.tail _ hp) _ (by rw [e]; exact NN.get (.tail _ (.head _)))
  have n2 : ∀ p ∈ exs, p.1 ≠ rd := fun p hp e => fx p (.tail _ hp) _ (by rw [e]; exact NN.get (.tail _ (.tail _ (.head _))))
  have n3 : ∀ p ∈ exs, p.1 ≠ c := fun p hp e => fx p (.tail _ hp) _ (by rw [e]; exact NN.get (.tail _ (.tail _ (.tail _ (.head _)))))
  have n4 : ∀ p ∈ exs, p.1 ≠ d := fun p hp e => fx p (.tail _ hp) _ (by rw [e]; exact NN.get (.tail _ (.tail _ (.tail _ (.tail _ (.head _))))))
  have s0 : @Ne Nat _ S := fun e => fx _ (.head _) _ (by show Heap.get? _ S = _; rw [← e]; exact NN.get (.head _))
  have s1 : @Ne Nat r S := fun e => fx _ (.head _) _ (by show Heap.get? _ S = _; rw [← e]; exact NN.get (.tail _ (.head _)))
  have s2 : @Ne Nat rd S := fun e => fx _ (.head _) _ (by show Heap.get? _ S = _; rw [← e]; exact NN.get (.tail _ (.tail _ (.head _))))
  have s3 : @Ne Nat c S := fun e => fx _ (.head _) _ (by show Heap.get? _ S = _; rw [← e]; exact NN.get (.tail _ (.tail _ (.tail _ (.head _)))))
  have s4 : @Ne Nat d S := fun e => fx _ (.head _) _ (by show Heap.get? _ S = _; rw [← e]; exact NN.get (.tail _ (.tail _ (.tail _ (.tail _ (.head _))))))
  clear fx
  have N3 := news_ins N' NS
  dsimp only [List.cons_append, List.nil_append] at N3
  clear N' FF NN
  walk_at "mk_go"
  (with_reducible rename Fr _ _ _ _ => FF); (with_reducible rename News _ _ _ (_ :: _) => NN)
  have hvn : vs.length = ds.length := by have := hall.len; simpa using this
  refine for_list (RmOut w.params r rd c d FL c1 c2 c3 d1 d2 d3 d4 many t l k' ds exs)
    (by walk_at "mk_hh") (list_at NN (.head _)) ⟨rfl, _, rfl⟩ FF NN ?_ ⟨[], _, by walk_at "mk_look", by walk_at "mk_look", by walk_at "mk_look", (fun _ h => by simp at h), .nil, rfl⟩ ?_ ?_ rfl rfl (by passes_own)
  · intro p hp
    rcases List.mem_cons.mp hp with rfl | hp
    · exact s0
    · rcases List.mem_cons.mp hp with rfl | hp
      · exact s1
      · rcases List.mem_cons.mp hp with rfl | hp
        · exact s2
        · rcases List.mem_cons.mp hp with rfl | hp
          · exact s3
          · rcases List.mem_cons.mp hp with rfl | hp
            · exact s4
            · exact nS p hp
  · clear FF NN
    rintro i v m₁ nw h2 tk2 I o hvi ⟨ws, e', q1, q2, q3, hg, hws, rfl⟩ hI1 sI F2 N2
    have i0 : @Ne Nat FL I := (hI1 _ (.head _)).1
    have i1 : @Ne Nat r I := (hI1 _ (.tail _ (.head _))).1
    have i2 : @Ne Nat rd I := (hI1 _ (.tail _ (.tail _ (.head _)))).1
    have i3 : @Ne Nat c I := (hI1 _ (.tail _ (.tail _ (.tail _ (.head _))))).1
    have i4 : @Ne Nat d I := (hI1 _ (.tail _ (.tail _ (.tail _ (.tail _ (.head _)))))).1
    have i5 : ∀ p ∈ exs, p.1 ≠ I := fun p hp => (hI1 _ (.tail _ (.tail _ (.tail _ (.tail _ (.tail _ hp)))))).1
    clear hI1
    have hin : i < ds.length := by rw [← hvn]; exact (List.getElem?_eq_some_iff.mp hvi).1
    obtain ⟨q, hq⟩ : ∃ q, ds[i]? = some q := ⟨ds[i], by simp [hin]⟩
    obtain ⟨v', ex, hv', hqv, hex⟩ := hall.at (i := i) (q := q.1) (by rw [List.getElem?_map, hq]; rfl)
    obtain rfl : v = v' := by rw [hvi] at hv'; exact Option.some.inj hv'
    have hqm : q ∈ ds := List.mem_of_getElem? hq
    have hit := hD q hqm v ex hqv
    have hq8 := hlen q hqm
    walk_at "mk_go"
    (with_reducible rename Fr _ _ _ _ => FF); (with_reducible rename News _ _ _ (_ :: _) => NN)
    refine wpAny_mono (Q := RmMid (hideAll s.heap ([(r, instObj 407 rd), (rd, rdD w.params c 0 b1 b2 b3), (c, instObj 236 d), (d, curD w.params (tx l) (0 : Nat) a1 a2 a3 a4)].map (·.1))) L s r FL many t ex ((I, o) :: (S, listOf vs.toArray e) :: (FL, listOf ws.toArray e') :: (r, instObj 407 rd) :: (rd, rdD w.params c 1 c1 c2 c3) :: (c, instObj 236 d) :: (d, curD w.params (tx l) (k' : Nat) d1 d2 d3 d4) :: exs) v q.2.1) ?_ ?_ (fun _ _ h => h)
    · cases hb : q.2.2 with
      | false =>
        rw [hb] at hit
        obtain ⟨g1, hg1, hel, z, tz, rfl⟩ := hit
        walk1
        (repeat' ((fail_if_success tb_start); first | ((first | ((with_reducible show wpAny _ _ (call (Value.builtin "isinstance") [Value.int _ _, Value.type "tuple"]) _ _ _); refine IsiPair.int_tuple ?_) | tb_rel); (try dsimp only)) | walk_at "mk_tail" | (walk_at "mk_dl"; first | ((first | ((with_reducible show wpAny _ _ (call (Value.builtin "isinstance") [Value.int _ _, Value.type "tuple"]) _ _ _); refine IsiPair.int_tuple ?_) | tb_rel); (try dsimp only)) | walk1) | (walk_at "mk_late"; (try dsimp only))))
        (with_reducible rename Fr _ _ _ _ => FF); (with_reducible rename News _ _ _ (_ :: _) => NN)
        (with_reducible rename _ ∧ _ => lt)
        exact RmMid.mk _ [_] _ _ _ FF NN (by walk_at "mk_look") (by walk_at "mk_look") (by walk_at "mk_look") (by walk_at "mk_look") _ (by walk_at "mk_look") (by walk_at "mk_look") (Nat.ne_of_lt lt.2.2.1).symm (hg1 ▸ .cons hel .nil)
      | true =>
        rw [hb] at hit
        obtain ⟨T, wl, rfl, hTm, hels⟩ := hit
        have hTx := hex _ hTm
        replace NN := news_add NN (x := (T, tupO wl.toArray)) (.tail _ (.tail _ (.tail _ (.tail _ (.tail _ (.tail _ (.tail _ hTx)))))))
        walk1
        (repeat' ((fail_if_success tb_start); first | ((first | ((with_reducible show wpAny _ _ (call (Value.builtin "isinstance") [Value.ref _, Value.type "tuple"]) _ _ _); refine isi_tup (by k_asm) (by k_dflt k_mem) ?_) | tb_rel); (try dsimp only)) | walk_at "mk_tail" | (walk_at "mk_dl"; first | ((first | ((with_reducible show wpAny _ _ (call (Value.builtin "isinstance") [Value.ref _, Value.type "tuple"]) _ _ _); refine isi_tup (by k_asm) (by k_dflt k_mem) ?_) | tb_rel); (try dsimp only)) | walk1) | (walk_at "mk_late"; (try dsimp only))))
        (with_reducible rename Fr _ _ _ _ => FF); (with_reducible rename News _ _ _ (_ :: _) => NN)
        exact RmMid.mk _ wl _ _ _ FF NN (by walk_at "mk_look") (by walk_at "mk_look") (by walk_at "mk_look") (by walk_at "mk_look") _ (by walk_at "mk_look") (by walk_at "mk_look") (n0 _ hTx) hels
    · clear FF NN
      rintro f s' ⟨TT, wl, h', tk, m', F3, N3, p1, p2, p3, p4, t0, p5, p6, nT, hels⟩
      have hwl : wl.length ≤ 8 := by rw [hels.len]; exact hq8
      walk_at "mk_go"
      refine wpAny_For ?_ ?hs
      case hs => intro _; rfl
      (repeat' ((fail_if_success tb_start); first | ((first | ((with_reducible show wpAny _ _ (call (Value.builtin "len") [Value.ref _]) _ _ _); refine len_tupN (by k_asm) (by k_dflt k_mem) (by omega) ?_) | tb_rel); (try dsimp only)) | walk_at "mk_tail" | (walk_at "mk_dl"; first | ((first | ((with_reducible show wpAny _ _ (call (Value.builtin "len") [Value.ref _]) _ _ _); refine len_tupN (by k_asm) (by k_dflt k_mem) (by omega) ?_) | tb_rel); (try dsimp only)) | walk1) | (walk_at "mk_late"; (try dsimp only))))
      (with_reducible rename IsRange _ _ _ _ _ _ _ _ => R1); (with_reducible rename Fr _ _ _ _ => FF); (with_reducible rename News _ _ _ (_ :: _) => NN)
      refine for_range (n := wl.length) (RmIn r FL TT many t v q.2.1 ((TT, tupO wl.toArray) :: (I, o) :: (S, listOf vs.toArray e) :: (FL, listOf ws.toArray e') :: (r, instObj 407 rd) :: (rd, rdD w.params c 1 c1 c2 c3) :: (c, instObj 236 d) :: (d, curD w.params (tx l) (k' : Nat) d1 d2 d3 d4) :: exs))
        (by walk_at "mk_hh") R1 (small_one (by omega)) (size_one _) FF NN ⟨[], _, by walk_at "mk_look", by walk_at "mk_look", by walk_at "mk_look", by walk_at "mk_look", by walk_at "mk_look", by walk_at "mk_look", rfl, (fun _ h => nomatch h), rfl⟩ ?_ ?_ rfl rfl (by passes_own)
      · clear FF NN R1
        rintro k tkk m₁ nw h5 tk5 I2 o2 hk ⟨ps, t5, p1, p2, p3, p4, p5, p6, htk, hps, rfl⟩ nI2 F5 N5
        have ek : ((0 : Int) + (k : Nat) * 1) = ((k : Nat) : Int) := by omega
        rw [ek] at F5
        have u1 : @Ne Nat TT I2 := nI2 _ (.head _)
        have u2 : @Ne Nat I I2 := nI2 _ (.tail _ (.head _))
        have u3 : @Ne Nat S I2 := nI2 _ (.tail _ (.tail _ (.head _)))
        have u4 : @Ne Nat FL I2 := nI2 _ (.tail _ (.tail _ (.tail _ (.head _))))
        have hkg : k < q.2.1.length := by rw [← hels.len]; exact hk
        have hk8 : k ≤ 8 := by omega
        have hpl : ps.length = k := by
          have := congrArg List.length htk
          rw [List.length_take, List.length_map] at this
          omega
        obtain ⟨gk, hgk⟩ : ∃ gk, q.2.1[k]? = some gk := ⟨q.2.1[k], by simp [hkg]⟩
        obtain ⟨x, hx, hel⟩ := hels.at hgk
        have htk1 : q.2.1.take (k + 1) = ps.map some ++ [gk] := by rw [List.take_add_one, htk, hgk]; rfl
        cases gk with
        | some p0 =>
          obtain ⟨hp, tp, rfl⟩ := hel
          have f1 : decide (((p0 : Nat) : Int) < 0) = false := by simp
          have f2 : (((p0 : Nat) : Int).fdiv (2 ^ Int.toNat 500)) = 0 := by rw [sh5, Nat.div_eq_of_lt hp]; rfl
          (repeat' ((fail_if_success tb_start); first | ((first | ((with_reducible show wpAny _ _ (binaryOp Operator.LShift (Value.int (Nat.cast _) _) (Value.int (Nat.cast _) _)) _ _ _); refine shl_nat (by with_reducible assumption) (by omega) ?_) | ((with_reducible show wpAny _ _ (subscriptTail _ _ (Value.ref _) (Value.int (Nat.cast _) _)) _ _ _); refine sub_tupN (by k_asm) (by k_dflt k_mem) (by omega) (by with_reducible assumption) ?_) | ((with_reducible show wpAny _ _ (call (Value.builtin "isinstance") [Value.int _ _, Value.type "int"]) _ _ _); refine IsiPair.int_int ?_) | ((with_reducible show wpAny _ _ (binaryOp Operator.Mult (Value.int 500 _) (Value.int (Nat.cast _) _)) _ _ _); refine mul_500 (by omega) ?_) | tb_rel); (try dsimp only)) | walk_at "mk_tail" | (walk_at "mk_dl"; first | ((first | ((with_reducible show wpAny _ _ (binaryOp Operator.LShift (Value.int (Nat.cast _) _) (Value.int (Nat.cast _) _)) _ _ _); refine shl_nat (by with_reducible assumption) (by omega) ?_) | ((with_reducible show wpAny _ _ (subscriptTail _ _ (Value.ref _) (Value.int (Nat.cast _) _)) _ _ _); refine sub_tupN (by k_asm) (by k_dflt k_mem) (by omega) (by with_reducible assumption) ?_) | ((with_reducible show wpAny _ _ (call (Value.builtin "isinstance") [Value.int _ _, Value.type "int"]) _ _ _); refine IsiPair.int_int ?_) | ((with_reducible show wpAny _ _ (binaryOp Operator.Mult (Value.int 500 _) (Value.int (Nat.cast _) _)) _ _ _); refine mul_500 (by omega) ?_) | tb_rel); (try dsimp only)) | walk1) | (walk_at "mk_late"; (try dsimp only))))
          · exact absurd f2 (by assumption)
          (with_reducible rename Fr _ _ _ _ => FF); (with_reducible rename News _ _ _ (_ :: _) => NN)
          rw [or_step hps hpl] at FF
          refine FStep.next (own := [(I2, o2)]) FF NN ?_ ⟨ps ++ [p0], _, by walk_at "mk_look", by walk_at "mk_look", by walk_at "mk_look", by walk_at "mk_look", by walk_at "mk_look", by walk_at "mk_look", by rw [htk1]; simp, fun p hp' => (List.mem_append.mp hp').elim (hps p) (fun h => by rw [List.mem_singleton.mp h]; exact hp), rfl⟩
          intro p hp' q' hq'
          rw [List.mem_singleton.mp hq']
          exact nI2 p hp'
        | none =>
          have hbad : ¬ good q := by
            rintro ⟨ps', e1, _⟩
            rw [e1, List.getElem?_map] at hgk
            cases h : ps'[k]? <;> rw [h] at hgk <;> cases hgk
          rcases hel with ⟨z, tz, rfl, hz⟩ | ⟨z, tz, rfl, hz⟩ | rfl | ⟨x5, tx5, rfl⟩ | ⟨T5, v5, rfl, hT5⟩
          · have f1 : decide (z < 0) = true := by simpa using hz
            (repeat' ((fail_if_success tb_start); first | ((first | ((with_reducible show wpAny _ _ (subscriptTail _ _ (Value.ref _) (Value.int (Nat.cast _) _)) _ _ _); refine sub_tupN (by k_asm) (by k_dflt k_mem) (by omega) (by with_reducible assumption) ?_) | ((with_reducible show wpAny _ _ (call (Value.builtin "isinstance") [Value.int _ _, Value.type "int"]) _ _ _); refine IsiPair.int_int ?_) | tb_rel); (try dsimp only)) | walk_at "mk_tail" | (walk_at "mk_dl"; first | ((first | ((with_reducible show wpAny _ _ (subscriptTail _ _ (Value.ref _) (Value.int (Nat.cast _) _)) _ _ _); refine sub_tupN (by k_asm) (by k_dflt k_mem) (by omega) (by with_reducible assumption) ?_) | ((with_reducible show wpAny _ _ (call (Value.builtin "isinstance") [Value.int _ _, Value.type "int"]) _ _ _); refine IsiPair.int_int ?_) | tb_rel); (try dsimp only)) | walk1) | (walk_at "mk_late"; (try dsimp only))))
            (with_reducible rename Fr _ _ _ _ => FF); (with_reducible rename News _ _ _ (_ :: _) => NN)
            exact fail_up FF NN X T (by k_dflt k_mem) (by k_dflt k_mem) (by k_dflt k_mem) (by k_dflt k_mem) K2 (by walk_at "mk_hh") (by (try simp only [depth_deeper]); omega) hl hk' (fun e h' tk' R => leave_up KS FF NF R (fun h' R => up ((.inr (.inl ⟨q, hqm, hbad⟩))) _ _ _ R))
          · have f1 : decide (((z : Nat) : Int) < 0) = false := by simp
            have f2 : ¬ (((z : Nat) : Int).fdiv (2 ^ Int.toNat 500)) = 0 := by
              rw [sh5]
              have := Nat.div_pos hz (by have := P5_pos; omega)
              omega
            (repeat' ((fail_if_success tb_start); first | ((first | ((with_reducible show wpAny _ _ (subscriptTail _ _ (Value.ref _) (Value.int (Nat.cast _) _)) _ _ _); refine sub_tupN (by k_asm) (by k_dflt k_mem) (by omega) (by with_reducible assumption) ?_) | ((with_reducible show wpAny _ _ (call (Value.builtin "isinstance") [Value.int _ _, Value.type "int"]) _ _ _); refine IsiPair.int_int ?_) | ((with_reducible show wpAny _ _ (binaryOp Operator.Mult (Value.int 500 _) (Value.int (Nat.cast _) _)) _ _ _); refine mul_500 (by omega) ?_) | tb_rel); (try dsimp only)) | walk_at "mk_tail" | (walk_at "mk_dl"; first | ((first | ((with_reducible show wpAny _ _ (subscriptTail _ _ (Value.ref _) (Value.int (Nat.cast _) _)) _ _ _); refine sub_tupN (by k_asm) (by k_dflt k_mem) (by omega) (by with_reducible assumption) ?_) | ((with_reducible show wpAny _ _ (call (Value.builtin "isinstance") [Value.int _ _, Value.type "int"]) _ _ _); refine IsiPair.int_int ?_) | ((with_reducible show wpAny _ _ (binaryOp Operator.Mult (Value.int 500 _) (Value.int (Nat.cast _) _)) _ _ _); refine mul_500 (by omega) ?_) | tb_rel); (try dsimp only)) | walk1) | (walk_at "mk_late"; (try dsimp only))))
            · (with_reducible rename Fr _ _ _ _ => FF); (with_reducible rename News _ _ _ (_ :: _) => NN)
              exact fail_up FF NN X T (by k_dflt k_mem) (by k_dflt k_mem) (by k_dflt k_mem) (by k_dflt k_mem) K2 (by walk_at "mk_hh") (by (try simp only [depth_deeper]); omega) hl hk' (fun e h' tk' R => leave_up KS FF NF R (fun h' R => up ((.inr (.inl ⟨q, hqm, hbad⟩))) _ _ _ R))

            · exact absurd (by assumption) f2
          · (repeat' ((fail_if_success tb_start); first | ((first | ((with_reducible show wpAny _ _ (subscriptTail _ _ (Value.ref _) (Value.int (Nat.cast _) _)) _ _ _); refine sub_tupN (by k_asm) (by k_dflt k_mem) (by omega) (by with_reducible assumption) ?_) | ((with_reducible show wpAny _ _ (call (Value.builtin "isinstance") [Value.none, Value.type "int"]) _ _ _); refine isi_none ?_) | tb_rel); (try dsimp only)) | walk_at "mk_tail" | (walk_at "mk_dl"; first | ((first | ((with_reducible show wpAny _ _ (subscriptTail _ _ (Value.ref _) (Value.int (Nat.cast _) _)) _ _ _); refine sub_tupN (by k_asm) (by k_dflt k_mem) (by omega) (by with_reducible assumption) ?_) | ((with_reducible show wpAny _ _ (call (Value.builtin "isinstance") [Value.none, Value.type "int"]) _ _ _); refine isi_none ?_) | tb_rel); (try dsimp only)) | walk1) | (walk_at "mk_late"; (try dsimp only))))
            (with_reducible rename Fr _ _ _ _ => FF); (with_reducible rename News _ _ _ (_ :: _) => NN)
            exact fail_up FF NN X T (by k_dflt k_mem) (by k_dflt k_mem) (by k_dflt k_mem) (by k_dflt k_mem) K2 (by walk_at "mk_hh") (by (try simp only [depth_deeper]); omega) hl hk' (fun e h' tk' R => leave_up KS FF NF R (fun h' R => up ((.inr (.inl ⟨q, hqm, hbad⟩))) _ _ _ R))
          · (repeat' ((fail_if_success tb_start); first | ((first | ((with_reducible show wpAny _ _ (subscriptTail _ _ (Value.ref _) (Value.int (Nat.cast _) _)) _ _ _); refine sub_tupN (by k_asm) (by k_dflt k_mem) (by omega) (by with_reducible assumption) ?_) | ((with_reducible show wpAny _ _ (call (Value.builtin "isinstance") [Value.str _ _, Value.type "int"]) _ _ _); refine IsiPair.str_int ?_) | tb_rel); (try dsimp only)) | walk_at "mk_tail" | (walk_at "mk_dl"; first | ((first | ((with_reducible show wpAny _ _ (subscriptTail _ _ (Value.ref _) (Value.int (Nat.cast _) _)) _ _ _); refine sub_tupN (by k_asm) (by k_dflt k_mem) (by omega) (by with_reducible assumption) ?_) | ((with_reducible show wpAny _ _ (call (Value.builtin "isinstance") [Value.str _ _, Value.type "int"]) _ _ _); refine IsiPair.str_int ?_) | tb_rel); (try dsimp only)) | walk1) | (walk_at "mk_late"; (try dsimp only))))
            (with_reducible rename Fr _ _ _ _ => FF); (with_reducible rename News _ _ _ (_ :: _) => NN)
            exact fail_up FF NN X T (by k_dflt k_mem) (by k_dflt k_mem) (by k_dflt k_mem) (by k_dflt k_mem) K2 (by walk_at "mk_hh") (by (try simp only [depth_deeper]); omega) hl hk' (fun e h' tk' R => leave_up KS FF NF R (fun h' R => up ((.inr (.inl ⟨q, hqm, hbad⟩))) _ _ _ R))
          · have hTx := hex _ hT5
            replace N5 := news_add N5 (x := (T5, tupO v5)) (.tail _ (.tail _ (.tail _ (.tail _ (.tail _ (.tail _ (.tail _ (.tail _ (.tail _ hTx)))))))))
            (repeat' ((fail_if_success tb_start); first | ((first | ((with_reducible show wpAny _ _ (subscriptTail _ _ (Value.ref _) (Value.int (Nat.cast _) _)) _ _ _); refine sub_tupN (by k_asm) (by k_dflt k_mem) (by omega) (by with_reducible assumption) ?_) | ((with_reducible show wpAny _ _ (call (Value.builtin "isinstance") [Value.ref _, Value.type "int"]) _ _ _); refine isi_tupi (by k_asm) (by k_dflt k_mem) ?_) | tb_rel); (try dsimp only)) | walk_at "mk_tail" | (walk_at "mk_dl"; first | ((first | ((with_reducible show wpAny _ _ (subscriptTail _ _ (Value.ref _) (Value.int (Nat.cast _) _)) _ _ _); refine sub_tupN (by k_asm) (by k_dflt k_mem) (by omega) (by with_reducible assumption) ?_) | ((with_reducible show wpAny _ _ (call (Value.builtin "isinstance") [Value.ref _, Value.type "int"]) _ _ _); refine isi_tupi (by k_asm) (by k_dflt k_mem) ?_) | tb_rel); (try dsimp only)) | walk1) | (walk_at "mk_late"; (try dsimp only))))
            (with_reducible rename Fr _ _ _ _ => FF); (with_reducible rename News _ _ _ (_ :: _) => NN)
            exact fail_up FF NN X T (by k_dflt k_mem) (by k_dflt k_mem) (by k_dflt k_mem) (by k_dflt k_mem) K2 (by walk_at "mk_hh") (by (try simp only [depth_deeper]); omega) hl hk' (fun e h' tk' R => leave_up KS FF NF R (fun h' R => up ((.inr (.inl ⟨q, hqm, hbad⟩))) _ _ _ R))
      · clear FF NN R1
        rintro m₁ nw h5 tk5 ⟨ps, t5, p1, p2, p3, p4, p5, p6, htk, hps, rfl⟩ F5 N5
        have hgs : q.2.1 = ps.map some := by
          rw [← htk, List.take_of_length_le]
          rw [← hels.len]; exact Nat.le_refl _
        have hpl : ps.length ≤ 8 := by
          have := congrArg List.length hgs
          rw [List.length_map] at this
          omega
        have hpt : (pts (val ps)).length ≤ 900 := by
          have h1 := val_lt ps hps
          have h2 : P5 ^ ps.length ≤ P5 ^ (8 + 1) := Nat.pow_le_pow_right (by have := P5_pos; omega) (by omega)
          have := pts_len_le 8 (Nat.lt_of_lt_of_le h1 h2)
          omega
        walk_at "mk_go"
        (with_reducible rename Fr _ _ _ _ => FF); (with_reducible rename News _ _ _ (_ :: _) => NN)
        refine mask_item_ok hpt FF NN X T ?_ ?_ ?_
        · walk_at "mk_units"
        · walk_at "mk_room"
        intro h6 tk6 v6 ex6 F6 N6 NX fx6 hM
        clear FF NN
        walk_at "mk_go"
        have NE : News _ _ _ ex := news_sub N6 (fun p hp => .tail _ (.tail _ (.tail _ (.tail _ (.tail _ (.tail _ (.tail _ (.tail _ (hex p hp)))))))))
        have hit2 : ItemIs v ex (ps.map some) q.2.2 := by rw [← hgs]; exact hit
        refine ne_mask hM NX (hit2.reads NE) ?_ ?_
        · walk_at "mk_units"
        clear NX NE
        cases hsm : PySem.Spec.same (maskD (val ps)) (itemD ps q.2.2) with
        | false =>
          have hbad : ¬ good q := by
            rintro ⟨ps', e1, e2⟩
            rw [hgs] at e1
            have e3 : ps = ps' := by
              have : ∀ a b : List Nat, a.map some = b.map some → a = b := fun a => by
                induction a with
                | nil => intro b h; cases b with
                  | nil => rfl
                  | cons _ _ => cases h
                | cons x a ih => intro b h; cases b with
                  | nil => cases h
                  | cons y b =>
                    simp only [List.map_cons, List.cons.injEq, Option.some.injEq] at h
                    rw [h.1, ih b h.2]
              exact this _ _ e1
            rw [e3] at hsm
            rw [(same_mi _ _ _).mpr e2] at hsm
            cases hsm
          walk_at "mk_go"
          (with_reducible rename Fr _ _ _ _ => FF); (with_reducible rename News _ _ _ (_ :: _) => NN)
          exact fail_up FF NN X T (by k_dflt k_mem) (by k_dflt k_mem) (by k_dflt k_mem) (by k_dflt k_mem) K2 (by walk_at "mk_hh") (by (try simp only [depth_deeper]); omega) hl hk' (fun e h' tk' R => leave_up KS FF NF R (fun h' R => up (.inr (.inl ⟨q, hqm, hbad⟩)) _ _ _ R))
        | true =>
          have hgood : good q := ⟨ps, hgs, (same_mi _ _ _).mp hsm⟩
          have hwn : ws.length ≤ 1000 := by
            have := hws.len
            rw [List.length_map, List.length_take] at this
            omega
          (repeat' ((fail_if_success tb_start); first | ((first | ((with_reducible show wpAny _ _ (call (Value.builtin "list.append") [Value.ref _, _]) _ _ _); k_dflt (refine append_K (by k_asm) (by k_asm) (by k_upd) ?_ (by (rw [List.size_toArray, sizeLine_eq]; omega))); walk_at "mk_in") | tb_rel); (try dsimp only)) | walk_at "mk_tail" | (walk_at "mk_dl"; first | ((first | ((with_reducible show wpAny _ _ (call (Value.builtin "list.append") [Value.ref _, _]) _ _ _); k_dflt (refine append_K (by k_asm) (by k_asm) (by k_upd) ?_ (by (rw [List.size_toArray, sizeLine_eq]; omega))); walk_at "mk_in") | tb_rel); (try dsimp only)) | walk1) | (walk_at "mk_late"; (try dsimp only))))
          (with_reducible rename Fr _ _ _ _ => FF); (with_reducible rename News _ _ _ (_ :: _) => NN)
          rw [List.push_toArray] at NN
          have hov : outv q = val ps := by
            obtain ⟨q1, q2, q3⟩ := q
            have : q2 = ps.map some := hgs
            rw [this]; exact outv_some
          have N7 := news_sub NN (b := (I, o) :: (S, listOf vs.toArray e) :: (FL, listOf (ws ++ [Value.int ((val ps : Nat) : Int) _]).toArray _) :: (r, instObj 407 rd) :: (rd, rdD w.params c 1 c1 c2 c3) :: (c, instObj 236 d) :: (d, curD w.params (tx l) (k' : Nat) d1 d2 d3 d4) :: exs) (fun p hp => .tail _ hp)
          refine FStep.next (own := [(I, o), (S, listOf vs.toArray e)]) FF N7 ?_ ⟨_, _, by walk_at "mk_look", by walk_at "mk_look", by walk_at "mk_look", ?_, ?_, rfl⟩
          · intro p hp q' hq'
            have own : p.1 ≠ I ∧ p.1 ≠ S := by
              rcases List.mem_cons.mp hp with rfl | hp
              · exact ⟨i0, s0⟩
              · rcases List.mem_cons.mp hp with rfl | hp
                · exact ⟨i1, s1⟩
                · rcases List.mem_cons.mp hp with rfl | hp
                  · exact ⟨i2, s2⟩
                  · rcases List.mem_cons.mp hp with rfl | hp
                    · exact ⟨i3, s3⟩
                    · rcases List.mem_cons.mp hp with rfl | hp
                      · exact ⟨i4, s4⟩
                      · exact ⟨i5 p hp, nS p hp⟩
            rcases List.mem_cons.mp hq' with rfl | hq'
            · exact own.1
            · rw [List.mem_singleton.mp hq']; exact own.2
          · intro z hz
            rw [List.take_add_one, hq] at hz
            rcases List.mem_append.mp hz with hz | hz
            · exact hg z hz
            · rw [List.mem_singleton.mp hz]; exact hgood
          · rw [List.take_add_one, hq, List.map_append]
            show NatsAre _ (_ ++ [outv q])
            rw [hov]
            exact nats_snoc hws
  · clear FF NN
    rintro m₁ nw h2 tk2 ⟨ws, e', q1, q2, q3, hg, hws, rfl⟩ hnS F2 N2
    rw [hvn, List.take_length] at hg hws
    have hwn : ws.length = ds.length := by have := hws.len; rw [List.length_map] at this; exact this
    have hw1 : ws.length ≤ 1000 := by omega
    (repeat' ((fail_if_success tb_start); first | ((first | ((with_reducible show wpAny _ _ (call (Value.builtin "len") [Value.ref _]) _ _ _); refine len_led (by k_asm) (by k_dflt k_mem) (by first | omega | decide) ?_) | tb_rel); (try dsimp only)) | walk_at "mk_tail" | (walk_at "mk_dl"; first | ((first | ((with_reducible show wpAny _ _ (call (Value.builtin "len") [Value.ref _]) _ _ _); refine len_led (by k_asm) (by k_dflt k_mem) (by first | omega | decide) ?_) | tb_rel); (try dsimp only)) | walk1) | (walk_at "mk_late"; (try dsimp only))))
    · (with_reducible rename ¬ (_ = _) => hne); (with_reducible rename Fr _ _ _ _ => FF); (with_reducible rename News _ _ _ (_ :: _) => NN)
      exact fail_up FF NN X T (by k_dflt k_mem) (by k_dflt k_mem) (by k_dflt k_mem) (by k_dflt k_mem) K2 (by walk_at "mk_hh") (by (try simp only [depth_deeper]); omega) hl hk' (fun e h' tk' R => leave_up KS FF NF R (fun h' R => up (.inr (.inr fun hm => hne (by rw [hwn, hm]))) _ _ _ R))
    · (with_reducible rename Fr _ _ _ _ => FF); (with_reducible rename News _ _ _ (_ :: _) => NN)
      (with_reducible rename ((_ : Int) = _) => heq)
      have hm : many = ds.length := by omega
      have N0 : News _ _ _ [(FL, listOf ws.toArray e')] := news_sub NN (fun p hp => by rw [List.mem_singleton.mp hp]; exact .tail _ (.head _))
      have nT : ∀ p ∈ [(FL, listOf ws.toArray e')], p.1 ∉ [(r, instObj 407 rd), (rd, rdD w.params c 0 b1 b2 b3), (c, instObj 236 d), (d, curD w.params (tx l) (0 : Nat) a1 a2 a3 a4)].map (·.1) := fun p hp => by
        rw [List.mem_singleton.mp hp]
        have k1 := lf.1; have k2 := lf.2.1; have k3 := lf.2.2.1; have k4 := lf.2.2.2
        exact four_ne (by omega) (by omega) (by omega) (by omega)
      have fx := fresh_out (h := s.heap) N0 nT
      have ee : Ext [rd, d] s.heap _ := ext_end O FF fun p hp hn => by
        rcases List.mem_cons.mp hp with rfl | hp
        · exact News.get NN (.tail _ (.tail _ (.head _)))
        · rcases List.mem_cons.mp hp with rfl | hp
          · exact absurd (List.Mem.head _) hn
          · rcases List.mem_cons.mp hp with rfl | hp
            · exact News.get NN (.tail _ (.tail _ (.tail _ (.tail _ (.head _)))))
            · rw [List.mem_singleton.mp hp] at hn; exact absurd (List.Mem.tail _ (List.Mem.head _)) hn
      obtain ⟨F3, N3⟩ := use2 F₀ N₀ U U2 (by have h1 := ho.2.1; have h2 := ho.1; refine neN ?_; omega) (N₀.get hd) ee (News.get NN (.tail _ (.tail _ (.tail _ (.head _))))) (News.get NN (.tail _ (.tail _ (.tail _ (.tail _ (.tail _ (.head _))))))) (N₀.fresh hd) (N₀ _ hd).2.1
      exact ret _ _ _ _ _ _ _ _ _ _ _ _ _ hg hm F3 N3 (news_out F₀ N0 fx) (fun o ho' => fx _ (.head _) _ ho') hws
end

theorem enter_try {w : World} {p : Program} {loose : List Str} {mg mb : Str → Option Value} {b : Heap} {A : Around} {s : Shared} {Q E : Value → Shared → Prop}
    {name qual : Str} {params : Arguments} {body : List Stmt} {scope : Scope} {dV kV doc pm cdv ct oc : Value} {an od : Option Addr} {osl : Array (Option Value)} {f : Addr} {args : List Value} {binds : List (Str × Value)}
    {h₀ : Heap} {envL : Env} {Lc : Addr} {mc : Str → Option Value} (hfr : A.frames = some [envL]) (hfL : envL.frame = some Lc) (hkL : envL.scope.kind ≠ .module) (Fc : Fr h₀ Lc s.heap mc)
    (G : Good w p loose mg mb b) (O : Own b s.heap [])
    (ho : (Hd.KK w.params).lookup f = some ⟨oc, od, .func (fnOf name qual params body scope dV kV doc pm an cdv ct), osl⟩) (hcd : codeIn (Hd.KK w.params) cdv qual = true)
    (hroom : A.depth < recursionLimit)
    (hbind : BindsTo s (fnOf name qual params body scope dV kV doc pm an cdv ct) ⟨args, []⟩ binds) (hloc : ∀ y ∈ binds, scope.names.lookup y.1 = some .local)
    (h : ∀ L h₁, s.heap.objs.size ≤ L → Fr (hideAll s.heap (([] : List (Addr × Obj)).map (·.1))) L h₁ (fun y => binds.reverse.lookup y) →
      (Hd.KK w.params).In (hideAll s.heap (([] : List (Addr × Obj)).map (·.1))) → TopRead p loose mg mb (hideAll s.heap (([] : List (Addr × Obj)).map (·.1))) →
      Sta (A.deeper (envOf qual scope L f cdv)) (hideAll s.heap [Lc]) [envOf qual scope L f cdv, envL] (hideAll s.heap (([] : List (Addr × Obj)).map (·.1))) L →
      wpAny (model PySem.Challenge.rw_qd0064_01.row.prog w) (A.deeper (envOf qual scope L f cdv)) (execs body (envOf qual scope L f cdv))
        (fun fl s' => Q (match fl with | .ret v => v | _ => .none) s')
        (fun e s' => wpAny (model PySem.Challenge.rw_qd0064_01.row.prog w) (A.deeper (envOf qual scope L f cdv)) (leaving (envOf qual scope L f cdv) e) (fun _ s'' => E e s'') (fun e' s'' => E e' s'') s')
        { s with heap := h₁, toks := s.toks + binds.length })
    (hco : scope.isCoroutine = false) (hgen : scope.isGenerator = false) (hk : scope.kind = .function)
    (hcell : ∀ x ∈ scope.names, x.2 ≠ .cell) : wpAny (model PySem.Challenge.rw_qd0064_01.row.prog w) A (call (.ref f) args) Q E s := by
  refine wpAny_call (enter_fn G O ho hcd hroom hbind hloc (fun L h₁ l F N X T => h L h₁ l F X T ?_) hco hgen hk hcell)
  obtain ⟨oL, es, ep, hL, hd, _⟩ := Fc.ns
  have keep : ∀ b o, s.heap.get? b = some o → (hideAll s.heap (([] : List (Addr × Obj)).map (·.1))).get? b = some o := fun b o e => hideAll_get _ e (by simp)
  refine ⟨Around.frames_deeper hfr, fun b o e => keep b o (of_hideAll _ e), _, _, rfl, by show scope.kind ≠ .module; rw [hk]; decide, rfl, hkL, ⟨Lc, oL, hfL, hideAll_none _ (.head _), keep _ _ hL, fun vs z => by rw [hd] at z; cases z⟩, trivial⟩
theorem cls109 {w : World} {h : Heap} (X : (Hd.KK w.params).In h) : ∃ nm qn N bs bm hdct sn sub ab col dd k0 k1 k2 k3 k5 newId,
    h.get? 109 = some (excClassObj nm qn 109 N bs bm hdct sn sub ab col dd k0 k1 k2 k3 k5 newId) ∧ bm.contains (.type "BaseException") = true := by
  obtain ⟨nm, qn, N, bs, C2, sn, sub, ab, col, dd, k0, k1, k2, k3, k5, ho⟩ := exc2_obj X (exc109 w.params)
  exact ⟨_, _, _, _, _, _, _, _, _, _, _, _, _, _, _, _, _, ho.1, rfl⟩
theorem caught109 {w : World} {p : Program} {loose : List Str} {mg mb : Str → Option Value} {A₀ : Around} {E : Value → Shared → Prop} {s' : Shared} {base hc : Heap} {outer : List Env} {L a e : Addr} {m : Str → Option Value} {name : Str} {scope : Scope} {cd : Value} {g : Heap}
    {b₀ : Stmt} {suite : List Stmt} {pos np : Pos} {rest : List ExceptHandler} {Q : Flow → Shared → Prop}
    (hst : A₀.frames = some outer) (R : Flown base (envOf name scope L a cd :: outer) e hc s'.heap) (F : Fr g L hc m) (XB : (Hd.KK w.params).In base) (TB : TopRead p loose mg mb base) (hab : base.objs.size ≤ L)
    (ex : nsIn (Hd.KK w.params) mainGlobals (Str.ofString "TableError") = some (some (.ref 109)))
    (k : ∀ h', Fr base L h' m → (∀ b ∈ outer.filterMap (·.frame), ∀ o, hc.get? b = some o → (∀ vs, o.data ≠ .fields vs) → ∃ sl, h'.get? b = some { o with slots := sl }) →
      wpAny (model PySem.Challenge.rw_qd0064_01.row.prog w) ((A₀.deeper (envOf name scope L a cd)).mark (some (.ref e))) (execs (b₀ :: suite) (envOf name scope L a cd)) Q E { s' with heap := h' })
    (hk : scope.kind = .function := by rfl) (hx : (envOf name scope L a cd).kindOf (Str.ofString "TableError") = some .globalImplicit := by rfl) (hd : (Str.ofString "TableError" == ("__debug__" : Str)) = false := by decide)
    (hE : PassesOwnAt (model PySem.Challenge.rw_qd0064_01.row.prog w) ((A₀.deeper (envOf name scope L a cd)).mark (some (.ref e))) (A₀.deeper (envOf name scope L a cd)) (envOf name scope L a cd) E := by passes_own) :
    wpAny (model PySem.Challenge.rw_qd0064_01.row.prog w) (A₀.deeper (envOf name scope L a cd)) (noteFrame (.ref e) (envOf name scope L a cd))
      (fun _ s₂ => wpAny (model PySem.Challenge.rw_qd0064_01.row.prog w) (A₀.deeper (envOf name scope L a cd)) (setFlight (.ref e) none) (fun _ s₃ =>
        wpAny (model PySem.Challenge.rw_qd0064_01.row.prog w) (A₀.deeper (envOf name scope L a cd)) (handleBy (.ref e) (envOf name scope L a cd) (.ExceptHandler (some (.Name (Str.ofString "TableError") np)) none (b₀ :: suite) pos :: rest)) Q E s₃) E s₂) E s' := by
  obtain ⟨⟨a0, hfl⟩, U⟩ := R
  have hns : s'.heap.Ns L m := by
    obtain ⟨o, es, ep, ho, hd, r⟩ := F.ns
    obtain ⟨sl, hs⟩ := U L (List.mem_filterMap.mpr ⟨_, .head _, rfl⟩) o ho (fun vs q => by rw [hd] at q; cases q)
    exact ⟨_, es, ep, hs, hd, r⟩
  refine wpAny_looks_onW (Around.frames_deeper hst) rfl hfl fun h₄ hheld₄ hsm₄ => ?_
  refine wpAny_landsW hheld₄ fun h₅ hheld hsm₅' => ?_
  have hsm₅ := hsm₄.trans hsm₅'
  have F₅ : Fr base L h₅ m := ⟨hsm₅.ns hns, hheld.1, hab⟩
  obtain ⟨ob, hob, hobc⟩ := hheld.there
  obtain ⟨nm, q', N, bs, bm, hdct, sn, sub, ab, col, dd, k0, k1, k2, k3, k5, newId, hC, hbase⟩ := cls109 XB
  have hC₅ := F₅.keep _ _ hC
  refine wpAny_handleBy_cons (codeAny_handlers_test (name_K F₅ XB TB ex ?_ hk hx hd)) (by intro q; cases q)
  refine wpAny_excMatches_sub_self hC₅ hob hobc hbase (codeAny_handlers_suite ?_)
  refine lands_againW hheld fun h₆ hfl₆ hsm₆ => ?_
  have F₆ : Fr base L h₆ m := ⟨hsm₆.ns F₅.ns, hfl₆.1, hab⟩
  refine wpAny_passesOwnAt hE (k h₆ F₆ fun b hb o ho hd => ?_)
  have hb' : b ∈ (envOf name scope L a cd :: outer).filterMap (·.frame) := by
    obtain ⟨env, he, hf⟩ := List.mem_filterMap.mp hb
    exact List.mem_filterMap.mpr ⟨env, .tail _ he, hf⟩
  obtain ⟨sl, hs⟩ := U b hb' o ho hd
  obtain ⟨sl', hs'⟩ := (hsm₅.trans hsm₆) b _ hs hd
  exact ⟨sl', hs'⟩

section
variable {w : World} {p : Program} {loose : List Str} {mg mb : Str → Option Value} {h₀ : Heap} {A : Around} {s : Shared} {Q E : Value → Shared → Prop} {L : Addr} {m : Str → Option Value} {news : List (Addr × Obj)} {l : List Nat}
set_option pp.deepTerms false in
set_option maxHeartbeats 8000000 in
theorem lread_ok {B : Prop} {ds : List Dsc} {many : Nat} {t1 t : Tok} {envL : Env} (hI : ∀ q ∈ ds, ItemOK w 0 q.1 ∨ (B ∧ ItemUp w q.1)) (hD : ∀ q ∈ ds, ∀ v ex, q.1.is v ex → ItemIs v ex q.2.1 q.2.2) (hlen : ∀ q ∈ ds, q.2.1.length ≤ 8) (hmany : ds.length ≤ 1000)
    (F₀ : Fr h₀ L s.heap m) (N₀ : News h₀ L s.heap news) (X₀ : (Hd.KK w.params).In h₀) (T₀ : TopRead p loose mg mb h₀)
    (hfr : A.frames = some [envL]) (hfL : envL.frame = some L) (hkL : envL.scope.kind ≠ .module) (hh : A.handled = none) (hu : A.units + 300 < cLine) (room : A.depth + 60 < recursionLimit) (hl : (tx l).length ≤ 1048576) (hr0 : l = lineOf (ds.map (·.1)))
    (ret : ∀ h' tk' S ws e, (∀ q ∈ ds, good q) → many = ds.length → Fr h₀ L h' m → News h₀ L h' ((S, listOf ws.toArray e) :: news) → (∀ o, s.heap.get? S = some o → False) → NatsAre ws (ds.map outv) → Q (.ref S) { s with heap := h', toks := tk' })
    (up : B ∨ (∃ q ∈ ds, ¬ good q) ∨ many ≠ ds.length → ∀ h' tk', Fr h₀ L h' m → News h₀ L h' news → Q .none { s with heap := h', toks := tk' }) :
    wpAny (model PySem.Challenge.rw_qd0064_01.row.prog w) A (call (.ref 453) [.str (tx l) t1, .int (many : Nat) t]) Q E s := by
  have O : Own h₀ s.heap [] := ⟨F₀.keep, (fun _ h => nomatch h), (fun _ h => nomatch h)⟩
  have G : Good w p loose mg mb h₀ := ⟨X₀, T₀⟩
  refine' enter_try (binds := [(Str.ofString "line", .str (tx l) t1), (Str.ofString "many", .int (many : Nat) t)]) hfr hfL hkL F₀ G O ?h1 ?h2 (by walk_at "mk_room") ?h3 ?h4 ?h ?c1 ?c2 ?c3 ?c4
  walk_at "mk_enter"
  intro L1 h₁ hL F X T K2
  k_fold
  walk_at "mk_go"
  (with_reducible rename Fr _ _ _ _ => FF)
  refine make_reader (news := []) FF (fun p hp => nomatch hp) X T ?_ ?_
  · walk_at "mk_room"
  intro r rd c d h2 tk2 a1 a2 a3 a4 b1 b2 b3 F2 N2 l2 ho
  clear FF l2
  walk_at "mk_go"
  (with_reducible rename Fr _ _ _ _ => FF); (with_reducible rename News _ _ _ (_ :: _) => NN)
  refine' read_ok hI hD hlen hmany FF NN X T ?a1 ?a2 ?a3 ?a4 ?a5 ?a7 ho K2 ?a0 ?a8 ?a6 hl hr0 ?_ ?_
  (case a0 => walk_at "mk_hh"); (case a1 => k_dflt k_mem); (case a2 => k_dflt k_mem); (case a3 => k_dflt k_mem); (case a4 => k_dflt k_mem); (case a5 => k_dflt k_updF); (case a7 => intro x; k_dflt k_updF)
  (case a6 => (try simp only [depth_deeper]); omega)
  (case a8 => walk_at "mk_units")
  · intro h' tk' S ws e c1 c2 c3 k' b1 b2 b3 b4 hg hm F3 N3 NS fx hws
    clear FF NN
    have fx' := fresh_out (h := s.heap) (fp := []) NS (fun p hp q => nomatch q)
    obtain ⟨F4, N4⟩ := use0 F₀ N₀ (ext_end (D := []) O F3 fun p hp _ => nomatch hp)
    have N5 := news_more (news_out F₀ NS fx') N4
    dsimp only [List.cons_append, List.nil_append] at N5
    clear F3 N3 NS
    walk_at "mk_go"
    exact ret _ _ _ _ _ hg hm F4 N5 (fun o ho' => fx' _ (.head _) _ ho') hws
  · intro hB e h' tk' R
    have hLn : h₀.get? L = none := by
      cases q : h₀.get? L with
      | none => rfl
      | some o => exact absurd (Nat.lt_of_lt_of_le (Heap.lt_size q) F₀.above) (Nat.lt_irrefl _)
    have GB : Good w p loose mg mb (hideAll s.heap [L]) := G.keeps (fun b o e => hideAll_get _ (F₀.keep b o e) fun q => by rw [List.mem_singleton.mp q, hLn] at e; cases e)
    refine caught109 (base := hideAll s.heap [L]) (outer := [envL]) (p := p) (loose := loose) (mg := mg) (mb := mb) hfr R FF GB.X GB.T (by rw [hideAll_size]; exact hL) ?_ ?_
    · k_dflt k_is
    · intro h6 F6 U6
      have X6 := GB.X
      have T6 := GB.T
      have fin : Fr h₀ L h6 m ∧ News h₀ L h6 news := by
        obtain ⟨oL, es, ep, hLo, hdL, rL⟩ := F₀.ns
        have st : ∀ b o, b ≠ L → s.heap.get? b = some o → h6.get? b = some o := fun b o n e => F6.keep b o (hideAll_get _ e fun q => n (List.mem_singleton.mp q))
        refine ⟨⟨?_, fun b o e => st b o (fun q => by rw [q, hLn] at e; cases e) (F₀.keep b o e), F₀.above⟩, fun p hp => ⟨st _ _ (N₀ p hp).2.1 (N₀ p hp).1, (N₀ p hp).2⟩⟩
        have h2L := FF.keep L oL (hideAll_get _ hLo (by simp))
        obtain ⟨sl, hs⟩ := U6 L (List.mem_filterMap.mpr ⟨_, .head _, hfL⟩) oL h2L (fun vs z => by rw [hdL] at z; cases z)
        exact ⟨_, es, ep, hs, hdL, rL⟩
      clear FF NN
      walk_at "mk_go"
      exact up hB _ _ fin.1 fin.2
end

theorem str_int {prog : Program} {w : World} {A : Around} {E : Value → Shared → Prop} {s : Shared} {z : Int} {t : Tok} {Q : Value → Shared → Prop} (hz : (dg z.natAbs).length ≤ 160) (h : Q (.str (tx (num z)) s.toks) { s with toks := s.toks + 1 }) :
    wpAny (model prog w) A (call (.type "str") [.int z t]) Q E s := by
  have h1 : z.natAbs < 10 ^ 160 := (dg_len (by decide)).mp hz
  refine P.str_of_int (a := z) ?_ ?_
  · show z.natAbs.log2 < 1920
    by_cases h0 : z.natAbs = 0
    · rw [h0]; decide
    · exact (Nat.log2_lt h0).mpr (Nat.lt_trans h1 (by decide +kernel))
  · have e : (Str.ofString (toString z)) = tx (num z) := by
      rw [← tx_back (Str.ofString (toString z))]
      cases z with
      | ofNat n => rw [show Int.ofNat n = ((n : Nat) : Int) from rfl, KIN.signs_num, num_nat]; rfl
      | negSucc n =>
        have e2 : (Str.ofString (toString (Int.negSucc n))).cps.toList = 45 :: (Nat.toDigits 10 (n + 1)).map Char.toNat := by
          have e3 : toString (Int.negSucc n) = "-" ++ Nat.repr (n + 1) := rfl
          rw [e3, signs_ofString, String.toList_append, List.map_append, Nat.toList_repr]
          rfl
        rw [e2]
        unfold num
        rw [if_pos (by omega)]
        rfl
    show Q (.str (Str.ofString (toString z)) s.toks) _
    rw [e]; exact h
theorem cast_sum : ∀ zs : List Nat, (zs.map fun n : Nat => (n : Int)).sum = ((zs.sum : Nat) : Int)
  | [] => rfl
  | z :: zs => by rw [List.map_cons, List.sum_cons, List.sum_cons, cast_sum zs]; omega
theorem sum_val {prog : Program} {w : World} {A : Around} {E : Value → Shared → Prop} {s : Shared} {h₀ : Heap} {L D : Addr} {m : Str → Option Value} {news : List (Addr × Obj)} {ys : List Value} {zs : List Nat} {k S : Nat} {Q : Value → Shared → Prop} (F : Fr h₀ L s.heap m) (N : News h₀ L s.heap news) (hh : A.handled = none) (hm : (D, listOf ys.toArray k) ∈ news) (hi : NatsAre ys zs) (hs : zs.sum = S)
    (h : ∀ h' tk t', Fr h₀ L h' m → News h₀ L h' news → Q (.int (S : Nat) t') { s with heap := h', toks := tk }) : wpAny (model prog w) A (call (.builtin "sum") [.ref D]) Q E s :=
  PyProof.Rows.LSm.sum_ints F N hh ⟨_, N.get hm, rfl, k, rfl⟩ hi fun h' tk t' F' N' => by
    have := h h' tk t' F' N'
    rw [← hs, ← cast_sum] at this
    exact this
theorem str_big {prog : Program} {w : World} {A : Around} {E : Value → Shared → Prop} {s : Shared} {M : Nat} {t : Tok} {Q : Value → Shared → Prop} (hM : M < 2 ^ 1002) (h : Q (.str (tx (dg M)) s.toks) { s with toks := s.toks + 1 }) :
    wpAny (model prog w) A (call (.type "str") [.int (M : Nat) t]) Q E s := by
  refine P.str_of_int (a := (M : Int)) ?_ ?_
  · show M.log2 < 1920
    by_cases h0 : M = 0
    · rw [h0]; decide
    · exact Nat.lt_trans ((Nat.log2_lt h0).mpr hM) (by decide)
  · have e : Str.ofString (toString (M : Int)) = tx (dg M) := by
      rw [← tx_back (Str.ofString (toString (M : Int))), KIN.signs_num]; rfl
    show Q (.str (Str.ofString (toString (M : Int))) s.toks) _
    rw [e]; exact h
noncomputable def shf (k : Nat) : List Nat → List Nat
  | [] => []
  | n :: ns => n * 2 ^ (500 * k) :: shf (k + 1) ns
theorem shf_sum : ∀ (ns : List Nat) (k : Nat), (shf k ns).sum = P5 ^ k * val ns
  | [], k => by simp [shf, val]
  | n :: ns, k => by
    show n * 2 ^ (500 * k) + (shf (k + 1) ns).sum = P5 ^ k * (n + P5 * val ns)
    rw [shf_sum ns (k + 1), ← p5_pow, Nat.mul_add, Nat.mul_comm n, Nat.pow_succ, Nat.mul_assoc]
theorem shf_get : ∀ (ns : List Nat) (k i n : Nat), ns[i]? = some n → (shf k ns)[i]? = some (n * 2 ^ (500 * (k + i)))
  | [], k, i, n, h => by simp at h
  | m :: ns, k, 0, n, h => by
    simp at h; subst h; rfl
  | m :: ns, k, i + 1, n, h => by
    have := shf_get ns (k + 1) i n (by simpa using h)
    rw [show k + 1 + i = k + (i + 1) by omega] at this
    simpa [shf] using this
theorem shf_len : ∀ (ns : List Nat) (k : Nat), (shf k ns).length = ns.length
  | [], _ => rfl
  | _ :: ns, k => congrArg (· + 1) (shf_len ns (k + 1))
theorem nats_of : ∀ {ys : List Value} {zs : List Nat}, ys.length = zs.length → (∀ (i n : Nat), zs[i]? = some n → ∃ t, ys[i]? = some (Value.int (n : Nat) t)) → NatsAre ys zs
  | [], [], _, _ => .nil
  | y :: ys, z :: zs, hl, h => by
    obtain ⟨t, ht⟩ := h 0 z rfl
    simp at ht
    subst ht
    exact .cons _ _ (nats_of (ys := ys) (zs := zs) (by simpa using hl) fun i n hn => by
      obtain ⟨t, ht⟩ := h (i + 1) n (by simpa using hn)
      exact ⟨t, by simpa using ht⟩)
theorem shf_nats {M : Nat} {vs ys : List Value} (hv : NatsAre vs (pts M)) (hl : ys.length = vs.length) (h : ∀ i v, vs[i]? = some v → ∃ y, ys[i]? = some y ∧ ∃ n t t', (pts M)[i]? = some n ∧ v = Value.int (n : Nat) t ∧ y = Value.int ((n * 2 ^ (500 * i) : Nat) : Int) t') : NatsAre ys (shf 0 (pts M)) ∧ (shf 0 (pts M)).sum = M := by
  refine ⟨nats_of (by rw [hl, hv.len, shf_len]) fun i z hz => ?_, by rw [shf_sum, val_pts]; simp⟩
  have hi : i < (pts M).length := by rw [← shf_len (pts M) 0]; exact (List.getElem?_eq_some_iff.mp hz).1
  have hi2 : i < vs.length := by rw [hv.len]; exact hi
  obtain ⟨y, h1, n, t, t', h2, _, rfl⟩ := h i vs[i] (List.getElem?_eq_getElem hi2)
  have := shf_get (pts M) 0 i n h2
  rw [this, Nat.zero_add] at hz
  rw [← Option.some.inj hz]
  exact ⟨t', h1⟩
section
variable {prog : Program} {w : World} {A : Around} {E : Value → Shared → Prop} {h₀ H : Heap} {L l : Addr} {m : Str → Option Value} {news : List (Addr × Obj)} {vs : List Value} {zs : List Int} {e : Nat} {z : Int} {u : Tok} {g : Array GenState} {d : Drawn} {tk : Nat} {os : OsState} {value slice : Expr} {Q : Value → Shared → Prop}
theorem sl_to (F : Fr h₀ L H m) (N : News h₀ L H news) (hm : (l, listOf vs.toArray e) ∈ news) (hi : IntsAre vs zs) (h0 : 0 ≤ z) (hk : z ≤ vs.length) (hs : vs.length ≤ 1000)
    (h : ∀ D h' ws, Fr h₀ L h' m → News h₀ L h' ((D, listOf ws.toArray 0) :: news) → IntsAre ws (zs.take z.toNat) → (∀ p ∈ news, p.1 < D) → Q (.ref D) ⟨h', g, d, tk, os⟩)
    (hq : subscripted slice false (.ref l) (.ref H.objs.size) = operate [.ref H.objs.size, .ref l] (getItem (.ref l) (.ref H.objs.size)) := by with_unfolding_all rfl) (ht : ∀ r, letTemporaryGo value (.ref l) r = pure () := by intro _; with_unfolding_all rfl) :
    wpAny (model prog w) A (subscriptTail value slice (.ref l) (.ref H.objs.size)) Q E ⟨H.push { cls := .type "slice", data := .fields #[.none, .int z u, .none] }, g, d, tk, os⟩ := by
  have hl := hi.length
  refine slice_list (s := ⟨H, g, d, tk, os⟩) F N ⟨_, N.get hm, rfl, e, rfl⟩ .none (.int _ _) (fun h' F' N' => ?_) hq ht (by rw [List.size_toArray, sizeLine_eq]; omega)
  refine h _ h' (slicePick vs.toArray none (some z) none).toList F' (by simpa using N') (slice_ints_upto hi h0 (by omega)) fun p hp => Nat.lt_succ_of_lt (Heap.lt_size (N p hp).1)
theorem sl_from (F : Fr h₀ L H m) (N : News h₀ L H news) (hm : (l, listOf vs.toArray e) ∈ news) (hi : IntsAre vs zs) (h0 : 0 ≤ z) (hk : z ≤ vs.length) (hs : vs.length ≤ 1000)
    (h : ∀ D h' ws, Fr h₀ L h' m → News h₀ L h' ((D, listOf ws.toArray 0) :: news) → IntsAre ws (zs.drop z.toNat) → (∀ p ∈ news, p.1 < D) → Q (.ref D) ⟨h', g, d, tk, os⟩)
    (hq : subscripted slice false (.ref l) (.ref H.objs.size) = operate [.ref H.objs.size, .ref l] (getItem (.ref l) (.ref H.objs.size)) := by with_unfolding_all rfl) (ht : ∀ r, letTemporaryGo value (.ref l) r = pure () := by intro _; with_unfolding_all rfl) :
    wpAny (model prog w) A (subscriptTail value slice (.ref l) (.ref H.objs.size)) Q E ⟨H.push { cls := .type "slice", data := .fields #[.int z u, .none, .none] }, g, d, tk, os⟩ := by
  have hl := hi.length
  refine slice_list (s := ⟨H, g, d, tk, os⟩) F N ⟨_, N.get hm, rfl, e, rfl⟩ (.int _ _) .none (fun h' F' N' => ?_) hq ht (by rw [List.size_toArray, sizeLine_eq]; omega)
  refine h _ h' (slicePick vs.toArray (some z) none none).toList F' (by simpa using N') (slice_ints_from hi h0 (by omega)) fun p hp => Nat.lt_succ_of_lt (Heap.lt_size (N p hp).1)
end
theorem add_ints {prog : Program} {w : World} {A : Around} {E : Value → Shared → Prop} {s : Shared} {h₀ : Heap} {L a b : Addr} {m : Str → Option Value} {news : List (Addr × Obj)} {vs ws : List Value} {z1 z2 : List Int} {e1 e2 : Nat} {Q : Value → Shared → Prop} (F : Fr h₀ L s.heap m) (N : News h₀ L s.heap news) (ha : (a, listOf vs.toArray e1) ∈ news) (hb : (b, listOf ws.toArray e2) ∈ news) (i1 : IntsAre vs z1) (i2 : IntsAre ws z2) (hs : z1.length + z2.length ≤ 1000)
    (h : ∀ D h' us, Fr h₀ L h' m → News h₀ L h' ((D, listOf us.toArray 0) :: news) → IntsAre us (z1 ++ z2) → (∀ p ∈ news, p.1 < D) → Q (.ref D) { s with heap := h' }) : wpAny (model prog w) A (binaryOp .Add (.ref a) (.ref b)) Q E s :=
  add_led F N ha hb (by rw [IntsAre.length i1, IntsAre.length i2]; exact hs) fun D h' F' N' l => h D h' _ F' N' (i1.append i2) l
theorem news_rot {h₀ h : Heap} {L : Addr} {x1 x2 x3 x4 : Addr × Obj} {r : List (Addr × Obj)} (N : News h₀ L h (x1 :: x2 :: x3 :: x4 :: r)) : News h₀ L h (x4 :: x2 :: x3 :: r) := news_sub N (fun p hp => by
  rcases List.mem_cons.mp hp with rfl | hp
  · exact .tail _ (.tail _ (.tail _ (.head _)))
  · rcases List.mem_cons.mp hp with rfl | hp
    · exact .tail _ (.head _)
    · rcases List.mem_cons.mp hp with rfl | hp
      · exact .tail _ (.tail _ (.head _))
      · exact .tail _ (.tail _ (.tail _ (.tail _ hp))))
theorem pack_any {M a b : Nat} {ws : List Value} {x : Int} (hl : (pts M).length ≤ 3) (hx : x.natAbs < 10 ^ 151) (h : IntsAre ws ((zof M).take a ++ [x] ++ (zof M).drop b)) (ho : OddTx M (ti ((zof M).take a ++ [x] ++ (zof M).drop b))) :
    ∃ zs : List Int, IntsAre ws zs ∧ (∀ z ∈ zs, (dg z.natAbs).length ≤ 160) ∧ zs.length ≤ 7 ∧ OddTx M (ti zs) := by
  refine ⟨_, h, fun z hz => ?_, ?_, ho⟩
  · rcases List.mem_append.mp hz with hz | hz
    · rcases List.mem_append.mp hz with hz | hz
      · exact zof_mem (List.mem_of_mem_take hz)
      · rw [List.mem_singleton.mp hz]
        have := (dg_len (m := x.natAbs) (k := 151) (by decide)).mpr hx
        omega
    · exact zof_mem (List.mem_of_mem_drop hz)
  · have : (zof M).length = (pts M).length := by unfold zof; rw [List.length_map]
    simp only [List.length_append, List.length_take, List.length_drop, List.length_cons, List.length_nil]
    omega
theorem pack_big {M r : Nat} {ws : List Value} (hl : (pts M).length ≤ 3) (hr : r < (pts M).length) (h : IntsAre ws ((zof M).take ((r : Nat) : Int).toNat ++ [2 ^ Int.toNat 500] ++ (zof M).drop (((r : Nat) : Int) + 1).toNat)) :
    ∃ zs : List Int, IntsAre ws zs ∧ (∀ z ∈ zs, (dg z.natAbs).length ≤ 160) ∧ zs.length ≤ 7 ∧ OddTx M (ti zs) := by
  have e1 : ((r : Nat) : Int).toNat = r := by omega
  have e2 : (((r : Nat) : Int) + 1).toNat = r + 1 := by omega
  have e3 : (2 : Int) ^ Int.toNat 500 = ((P5 : Nat) : Int) := by unfold P5; rfl
  rw [e1, e2, e3] at h
  exact pack_any hl (by rw [Int.natAbs_natCast]; exact Nat.lt_trans (Nat.lt_succ_self _) p5_ten) h (OddTx.big r hr)
theorem pack_neg {M r : Nat} {ws : List Value} (hl : (pts M).length ≤ 3) (hr : r < (pts M).length) (h : IntsAre ws ((zof M).take ((r : Nat) : Int).toNat ++ [-1 - (((pts M).getD r 0 : Nat) : Int)] ++ (zof M).drop (((r : Nat) : Int) + 1).toNat)) :
    ∃ zs : List Int, IntsAre ws zs ∧ (∀ z ∈ zs, (dg z.natAbs).length ≤ 160) ∧ zs.length ≤ 7 ∧ OddTx M (ti zs) := by
  have e1 : ((r : Nat) : Int).toNat = r := by omega
  have e2 : (((r : Nat) : Int) + 1).toNat = r + 1 := by omega
  rw [e1, e2] at h
  have e3 : (pts M)[r]? = some ((pts M).getD r 0) := by
    rw [List.getD_eq_getElem?_getD, List.getElem?_eq_getElem hr]; rfl
  have h1 := pts_lt5 M _ (List.mem_of_getElem? e3)
  have h2 := p5_ten
  exact pack_any hl (by omega) h (OddTx.neg r _ e3)
section
variable {w : World} {p : Program} {loose : List Str} {mg mb : Str → Option Value} {h₀ : Heap} {A : Around} {s : Shared} {Q E : Value → Shared → Prop} {L : Addr} {m : Str → Option Value} {news : List (Addr × Obj)} {g : Obj → List (Addr × Obj)} {g2 : Obj → Obj → List (Addr × Obj)}
set_option pp.deepTerms false in
set_option maxHeartbeats 8000000 in
theorem odd_ok {M : Nat} {S c C : Addr} {vs : List Value} {e turn : Nat} {cs : List Value} {ns : List Nat} {t : Tok} {e1 e2 : Nat} (hv : NatsAre vs (pts M)) (hMs : M < 2 ^ 1002) (hlen : (pts M).length ≤ 3) (hlen0 : 0 < (pts M).length) (hk : CaskIs cs ns) (ht : turn ≤ 900)
    (F₀ : Fr h₀ L s.heap m) (N₀ : News h₀ L s.heap news) (X₀ : (Hd.KK w.params).In h₀) (T₀ : TopRead p loose mg mb h₀)
    (hc : (c, caskO C turn t e1) ∈ news) (hC : (C, listOf cs.toArray e2) ∈ news) (hT : (S, listOf vs.toArray e) ∈ news) (U : UpdF c (caskO C turn t e1) news g) (U2 : ∀ x, UpdF C (listOf cs.toArray e2) (g x) (g2 x)) (hne : @Ne Nat c C) (hne1 : @Ne Nat S c) (hne2 : @Ne Nat S C)
    (hu : A.units + 130 < cLine) (hh : A.handled = none) (room : A.depth + 8 < recursionLimit)
    (ret : ∀ h' tk' t' x turn' cs' ns' t1 e1' e2', OddTx M x → turn' ≤ turn + 2 → CaskIs cs' ns' → Fr h₀ L h' m → News h₀ L h' (g2 (caskO C turn' t1 e1') (listOf cs'.toArray e2')) → Q (.str (tx x) t') { s with heap := h', toks := tk' }) :
    wpAny (model PySem.Challenge.rw_qd0064_01.row.prog w) A (call (.ref 446) [.ref c, .ref S]) Q E s := by
  have hvl : vs.length = (pts M).length := hv.len
  have hzl0 : (zof M).length = (pts M).length := by unfold zof; rw [List.length_map]
  have hvi : IntsAre vs (zof M) := hv
  have hM : ∀ n ∈ pts M, (dg n).length ≤ 151 := fun n hn => (dg_len (by decide)).mpr (Nat.lt_trans (Nat.lt_succ_of_lt (pts_lt5 M n hn)) p5_ten)
  have hfp : ∀ p ∈ [(c, caskO C turn t e1), (C, listOf cs.toArray e2), (S, listOf vs.toArray e)], p ∈ news := fun p hp => by
    rcases List.mem_cons.mp hp with rfl | hp
    · exact hc
    · rcases List.mem_cons.mp hp with rfl | hp
      · exact hC
      · rw [List.mem_singleton.mp hp]; exact hT
  have O : Own h₀ s.heap [(c, caskO C turn t e1), (C, listOf cs.toArray e2), (S, listOf vs.toArray e)] := ⟨F₀.keep, fun p hp => N₀.get (hfp p hp), fun p hp => N₀.fresh (hfp p hp)⟩
  have G : Good w p loose mg mb h₀ := ⟨X₀, T₀⟩
  have fin : ∀ {L' : Addr} {h' : Heap} {m' : Str → Option Value} {nw : List (Addr × Obj)} {o1 o2 : Obj}, Fr (hideAll s.heap ([(c, caskO C turn t e1), (C, listOf cs.toArray e2), (S, listOf vs.toArray e)].map (·.1))) L' h' m' → News (hideAll s.heap ([(c, caskO C turn t e1), (C, listOf cs.toArray e2), (S, listOf vs.toArray e)].map (·.1))) L' h' nw → (c, o1) ∈ nw → (C, o2) ∈ nw → (S, listOf vs.toArray e) ∈ nw → Fr h₀ L h' m ∧ News h₀ L h' (g2 o1 o2) := fun FF NN m1 m2 m3 =>
    use2 F₀ N₀ U U2 (Ne.symm hne) (N₀.get hC) (ext_end (D := [c, C]) O FF fun p hp hn => by
      rcases List.mem_cons.mp hp with rfl | hp
      · exact absurd (List.Mem.head _) hn
      · rcases List.mem_cons.mp hp with rfl | hp
        · exact absurd (List.Mem.tail _ (List.Mem.head _)) hn
        · rw [List.mem_singleton.mp hp]; exact NN.get m3) (NN.get m1) (NN.get m2) (N₀.fresh hC) (N₀ _ hC).2.1
  refine' enter_ret (binds := [(Str.ofString "cask", .ref c), (Str.ofString "parts", .ref S)]) G O ?h1 ?h2 (by walk_at "mk_room") ?h3 ?h4 ?h ?c1 ?c2 ?c3 ?c4
  walk_at "mk_enter"
  intro L h₁ hL F N X T
  k_fold
  have hz1 : ((vs.length : Nat) : Int) ≤ 2 ^ 100 := by omega
  (repeat' ((fail_if_success tb_start); first | ((first | ((with_reducible show wpAny _ _ (call (Value.builtin "len") [Value.ref _]) _ _ _); refine len_led (by k_asm) (by k_dflt k_mem) (by first | omega | decide) ?_) | ((with_reducible show wpAny _ _ (unpackItems (Value.ref _) _ _) _ _ _); k_dflt (refine unpackItemsN_ (by k_asm) (by k_asm) (by kun_tup) (by walk_at "mk_hh") (by exact rfl) ?_); walk_at "mk_in") | tb_rel); (try dsimp only)) | walk_at "mk_tail" | (walk_at "mk_dl"; first | ((first | ((with_reducible show wpAny _ _ (call (Value.builtin "len") [Value.ref _]) _ _ _); refine len_led (by k_asm) (by k_dflt k_mem) (by first | omega | decide) ?_) | ((with_reducible show wpAny _ _ (unpackItems (Value.ref _) _ _) _ _ _); k_dflt (refine unpackItemsN_ (by k_asm) (by k_asm) (by kun_tup) (by walk_at "mk_hh") (by exact rfl) ?_); walk_at "mk_in") | tb_rel); (try dsimp only)) | walk1) | (walk_at "mk_late"; (try dsimp only))))
  refine comp_eval (cl := []) (by rfl) (by rfl) (by decide) ?_
  walk_at "mk_go"
  have hl : (((pts M).map dg).map (·.length)).sum + ((pts M).map dg).length ≤ 1000000 := by
    have h1 : (((pts M).map dg).map (·.length)).sum ≤ ((pts M).map dg).length * 160 := sum_len fun x hx => by
      obtain ⟨n, hn, rfl⟩ := List.mem_map.mp hx
      have := hM n hn; omega
    rw [List.length_map] at h1 ⊢
    omega
  have hj := jn_len ((pts M).map dg)
  (with_reducible rename Fr _ _ _ _ => FF); (with_reducible rename News _ _ _ (_ :: _) => NN)
  replace NN := news_rot NN
  refine comp_map_list (TxR ((pts M).map dg)) (by walk_at "mk_hh") ⟨_, NN.get (.head _), rfl, _, rfl⟩ (by rw [sizeLine_eq]; omega) FF NN (fun p hp => by
    rcases List.mem_cons.mp hp with rfl | hp
    · exact Ne.symm hne1
    · rw [List.mem_singleton.mp hp]; exact Ne.symm hne2) (by decide) rfl (by rfl) ?_ ?_
  · clear FF NN
    intro i v h2 tk2 C mC g whole hvi hk hw F2 N2
    obtain ⟨n, t, hn, rfl⟩ := nats_at hv hvi
    have hM2 : (dg n).length ≤ 160 := by have := hM n (List.mem_of_getElem? hn); omega
    have X2 := X.keeps hk
    have T2 := T.keeps hk
    clear X T
    dsimp only
    (repeat' ((fail_if_success tb_start); first | ((first | ((with_reducible show wpAny _ _ (call (Value.type "str") [Value.int (Nat.cast _) _]) _ _ _); refine str_nat (by with_reducible assumption) ?_) | tb_rel); (try dsimp only)) | walk_at "mk_tail" | (walk_at "mk_dl"; first | ((first | ((with_reducible show wpAny _ _ (call (Value.type "str") [Value.int (Nat.cast _) _]) _ _ _); refine str_nat (by with_reducible assumption) ?_) | tb_rel); (try dsimp only)) | walk1) | (walk_at "mk_late"; (try dsimp only))))
    refine MStep.plain (by assumption) (by assumption) ?_
    exact ⟨dg n, _, by rw [List.getElem?_map, hn]; rfl, rfl, rfl⟩
  · clear FF NN
    intro h2 tk2 mC ys k exs D C hr hn2 F2 N2 f1 f2 f3 hC0 hCL hC
    refine post_none hn2 F2 N2 hC0 hCL hC ?_
    intro h3 tk3 F3 N3
    clear F2 N2
    dsimp only
    obtain ⟨rfl, hs⟩ := Ran.allStrs (ts := (pts M).map dg) (by rw [List.length_map, ← hvl]; exact hr)
    dsimp only [List.append_nil, List.cons_append, List.nil_append] at N3
    (repeat' ((fail_if_success tb_start); first | ((first | ((with_reducible show wpAny _ _ (binaryOp Operator.Add (Value.str (tx _) _) (Value.str (Str.ofString " -)") _)) _ _ _); refine add_tt (b := [32, 45, 41]) rfl (by decide) (by walk_at "mk_len") ?_; intros) | ((with_reducible show wpAny _ _ (binaryOp Operator.Add (Value.str (tx _) _) (Value.str (Str.ofString " \"1\")") _)) _ _ _); refine add_tt (b := [32, 34, 49, 34, 41]) rfl (by decide) (by walk_at "mk_len") ?_; intros) | ((with_reducible show wpAny _ _ (binaryOp Operator.Add (Value.str (tx _) _) (Value.str (Str.ofString " (1))") _)) _ _ _); refine add_tt (b := [32, 40, 49, 41, 41]) rfl (by decide) (by walk_at "mk_len") ?_; intros) | ((with_reducible show wpAny _ _ (binaryOp Operator.Add (Value.str (tx _) _) (Value.str (Str.ofString " 0)") _)) _ _ _); refine add_tt (b := [32, 48, 41]) rfl (by decide) (by walk_at "mk_len") ?_; intros) | ((with_reducible show wpAny _ _ (binaryOp Operator.Add (Value.str (Str.ofString "(") _) (Value.str (tx _) _)) _ _ _); refine add_tt (a := [40]) (by decide) rfl (by walk_at "mk_len") ?_; intros) | ((with_reducible show wpAny _ _ (call (Value.builtin "str.join") [Value.str (Str.ofString " ") _, Value.ref _]) _ _ _); refine join_sp (by k_asm) (by k_dflt k_mem) (by with_reducible assumption) (by with_reducible assumption) ?_; intros) | tb_rel); (try dsimp only)) | walk_at "mk_tail" | (walk_at "mk_dl"; first | ((first | ((with_reducible show wpAny _ _ (binaryOp Operator.Add (Value.str (tx _) _) (Value.str (Str.ofString " -)") _)) _ _ _); refine add_tt (b := [32, 45, 41]) rfl (by decide) (by walk_at "mk_len") ?_; intros) | ((with_reducible show wpAny _ _ (binaryOp Operator.Add (Value.str (tx _) _) (Value.str (Str.ofString " \"1\")") _)) _ _ _); refine add_tt (b := [32, 34, 49, 34, 41]) rfl (by decide) (by walk_at "mk_len") ?_; intros) | ((with_reducible show wpAny _ _ (binaryOp Operator.Add (Value.str (tx _) _) (Value.str (Str.ofString " (1))") _)) _ _ _); refine add_tt (b := [32, 40, 49, 41, 41]) rfl (by decide) (by walk_at "mk_len") ?_; intros) | ((with_reducible show wpAny _ _ (binaryOp Operator.Add (Value.str (tx _) _) (Value.str (Str.ofString " 0)") _)) _ _ _); refine add_tt (b := [32, 48, 41]) rfl (by decide) (by walk_at "mk_len") ?_; intros) | ((with_reducible show wpAny _ _ (binaryOp Operator.Add (Value.str (Str.ofString "(") _) (Value.str (tx _) _)) _ _ _); refine add_tt (a := [40]) (by decide) rfl (by walk_at "mk_len") ?_; intros) | ((with_reducible show wpAny _ _ (call (Value.builtin "str.join") [Value.str (Str.ofString " ") _, Value.ref _]) _ _ _); refine join_sp (by k_asm) (by k_dflt k_mem) (by with_reducible assumption) (by with_reducible assumption) ?_; intros) | tb_rel); (try dsimp only)) | walk1) | (walk_at "mk_late"; (try dsimp only))))
    · refine comp_evalG (cl := []) (by rfl) (by rfl) (by decide) ?_
      walk_at "mk_go"
      (with_reducible rename Fr _ _ _ _ => FF); (with_reducible rename News _ _ _ (_ :: _) => NN)
      have hS0 := list_at NN (by k_dflt k_mem : (S, listOf vs.toArray e) ∈ _)
      refine comp_pairs (fun i v y => ∃ n t t', (pts M)[i]? = some n ∧ v = Value.int (n : Nat) t ∧ y = Value.int ((n * 2 ^ (500 * i) : Nat) : Int) t') (by walk_at "mk_hh") hS0 (by rw [sizeLine_eq]; omega) FF NN (by decide) rfl (by rfl) (by rfl) (by decide) ?_ ?_
      · intro i v t h2 tk2 C m₂ hvi F2
        obtain ⟨n, tn, hn, rfl⟩ := nats_at hv hvi
        have hi3 : i < 3 := Nat.lt_of_lt_of_le (List.getElem?_eq_some_iff.mp hn).1 hlen
        have hnB : n < B8 := Nat.lt_of_lt_of_le (pts_lt5 M n (List.mem_of_getElem? hn)) (by unfold P5 B8; exact Nat.pow_le_pow_right (by decide) (by decide))
        have X2 := X.keeps FF.keep
        have T2 := T.keeps FF.keep
        clear X T FF NN
        dsimp only
        (repeat' ((fail_if_success tb_start); first | ((first | ((with_reducible show wpAny _ _ (binaryOp Operator.Mult (Value.int 500 _) (Value.int (Nat.cast _) _)) _ _ _); refine mul_500 (by omega) ?_) | ((with_reducible show wpAny _ _ (binaryOp Operator.Pow (Value.int 2 _) (Value.int (Nat.cast _) _)) _ _ _); refine pow_two (by omega) ?_) | ((with_reducible show wpAny _ _ (binaryOp Operator.Mult (Value.int (Nat.cast _) _) (Value.int (Nat.cast _) _)) _ _ _); refine mul_nats (by walk_at "mk_bits") (by walk_at "mk_bits") ?_) | tb_rel); (try dsimp only)) | walk_at "mk_tail" | (walk_at "mk_dl"; first | ((first | ((with_reducible show wpAny _ _ (binaryOp Operator.Mult (Value.int 500 _) (Value.int (Nat.cast _) _)) _ _ _); refine mul_500 (by omega) ?_) | ((with_reducible show wpAny _ _ (binaryOp Operator.Pow (Value.int 2 _) (Value.int (Nat.cast _) _)) _ _ _); refine pow_two (by omega) ?_) | ((with_reducible show wpAny _ _ (binaryOp Operator.Mult (Value.int (Nat.cast _) _) (Value.int (Nat.cast _) _)) _ _ _); refine mul_nats (by walk_at "mk_bits") (by walk_at "mk_bits") ?_) | tb_rel); (try dsimp only)) | walk1) | (walk_at "mk_late"; (try dsimp only))))
        all_goals exact ⟨⟨n, _, _, hn, rfl, rfl⟩, _, rfl⟩
      · clear FF NN
        intro h2 tk2 mC ys k D C hyl hys hn2 F2 N2 f1 hC0 hCL hC
        refine post_none hn2 F2 N2 hC0 hCL hC ?_
        intro h3 tk3 F3 N3
        clear F2 N2
        dsimp only
        obtain ⟨hz1, hz2⟩ := shf_nats hv hyl hys
        (repeat' ((fail_if_success tb_start); first | ((first | ((with_reducible show wpAny _ _ (call (Value.type "str") [Value.int (Nat.cast _) _]) _ _ _); refine str_big (by with_reducible assumption) ?_) | ((with_reducible show wpAny _ _ (call (Value.builtin "sum") [Value.ref _]) _ _ _); refine sum_val (by k_asm) (by k_asm) (by walk_at "mk_hh") (by k_dflt k_mem) (by with_reducible assumption) (by with_reducible assumption) ?_; walk_at "mk_in") | ((with_reducible show wpAny _ _ (call (Value.builtin "len") [Value.ref _]) _ _ _); refine len_led (by k_asm) (by k_dflt k_mem) (by first | omega | decide) ?_) | ((with_reducible show wpAny _ _ (binaryOp Operator.Add (Value.str (tx _) _) (Value.str (Str.ofString ")") _)) _ _ _); refine add_tt (b := [41]) rfl (by decide) (by walk_at "mk_len") ?_; intros) | tb_rel); (try dsimp only)) | walk_at "mk_tail" | (walk_at "mk_dl"; first | ((first | ((with_reducible show wpAny _ _ (call (Value.type "str") [Value.int (Nat.cast _) _]) _ _ _); refine str_big (by with_reducible assumption) ?_) | ((with_reducible show wpAny _ _ (call (Value.builtin "sum") [Value.ref _]) _ _ _); refine sum_val (by k_asm) (by k_asm) (by walk_at "mk_hh") (by k_dflt k_mem) (by with_reducible assumption) (by with_reducible assumption) ?_; walk_at "mk_in") | ((with_reducible show wpAny _ _ (call (Value.builtin "len") [Value.ref _]) _ _ _); refine len_led (by k_asm) (by k_dflt k_mem) (by first | omega | decide) ?_) | ((with_reducible show wpAny _ _ (binaryOp Operator.Add (Value.str (tx _) _) (Value.str (Str.ofString ")") _)) _ _ _); refine add_tt (b := [41]) rfl (by decide) (by walk_at "mk_len") ?_; intros) | tb_rel); (try dsimp only)) | walk1) | (walk_at "mk_late"; (try dsimp only))))
        · (with_reducible rename Fr _ _ _ _ => FF); (with_reducible rename News _ _ _ (_ :: _) => NN)
          obtain ⟨F', N'⟩ := fin FF NN (by k_dflt k_mem) (by k_dflt k_mem) (by k_dflt k_mem)
          exact ret _ _ _ _ _ _ _ _ _ _ (OddTx.whole (by omega)) (by omega) (by with_reducible assumption) F' N'
        · (with_reducible rename Fr _ _ _ _ => FF); (with_reducible rename News _ _ _ (_ :: _) => NN)
          obtain ⟨F', N'⟩ := fin FF NN (by k_dflt k_mem) (by k_dflt k_mem) (by k_dflt k_mem)
          exact ret _ _ _ _ _ _ _ _ _ _ (OddTx.one (by omega)) (by omega) (by with_reducible assumption) F' N'
    · (with_reducible rename Fr _ _ _ _ => FF); (with_reducible rename News _ _ _ (_ :: _) => NN)
      obtain ⟨F', N'⟩ := fin FF NN (by k_dflt k_mem) (by k_dflt k_mem) (by k_dflt k_mem)
      exact ret _ _ _ _ _ _ _ _ _ _ OddTx.zero (by omega) (by with_reducible assumption) F' N'
    · refine comp_eval (cl := []) (by rfl) (by rfl) (by decide) ?_
      (repeat' ((fail_if_success tb_start); first | ((first | ((with_reducible show wpAny _ _ (binaryOp Operator.Add (Value.ref _) (Value.ref _)) _ _ _); refine add_ints (by k_asm) (by k_asm) (by k_dflt k_mem) (by k_dflt k_mem) (by first | with_reducible assumption | exact .cons _ _ .nil) (by first | with_reducible assumption | exact .cons _ _ .nil) (by ((try simp only [List.length_append, List.length_take, List.length_drop, List.length_cons, List.length_nil]); omega)) ?_; walk_at "mk_inL") | ((with_reducible show wpAny _ _ (subscriptTail _ (Expr.Slice (some _) none none _) (Value.ref _) (Value.ref _)) _ _ _); refine sl_from (by k_asm) (by k_asm) (by k_dflt k_mem) (by with_reducible assumption) (by omega) (by omega) (by omega) ?_; walk_at "mk_inL") | ((with_reducible show wpAny _ _ (subscriptTail _ (Expr.Slice none (some _) none _) (Value.ref _) (Value.ref _)) _ _ _); refine sl_to (by k_asm) (by k_asm) (by k_dflt k_mem) (by with_reducible assumption) (by omega) (by omega) (by omega) ?_; walk_at "mk_inL") | tb_rel); (try dsimp only)) | walk_at "mk_tail" | (walk_at "mk_dl"; first | ((first | ((with_reducible show wpAny _ _ (binaryOp Operator.Add (Value.ref _) (Value.ref _)) _ _ _); refine add_ints (by k_asm) (by k_asm) (by k_dflt k_mem) (by k_dflt k_mem) (by first | with_reducible assumption | exact .cons _ _ .nil) (by first | with_reducible assumption | exact .cons _ _ .nil) (by ((try simp only [List.length_append, List.length_take, List.length_drop, List.length_cons, List.length_nil]); omega)) ?_; walk_at "mk_inL") | ((with_reducible show wpAny _ _ (subscriptTail _ (Expr.Slice (some _) none none _) (Value.ref _) (Value.ref _)) _ _ _); refine sl_from (by k_asm) (by k_asm) (by k_dflt k_mem) (by with_reducible assumption) (by omega) (by omega) (by omega) ?_; walk_at "mk_inL") | ((with_reducible show wpAny _ _ (subscriptTail _ (Expr.Slice none (some _) none _) (Value.ref _) (Value.ref _)) _ _ _); refine sl_to (by k_asm) (by k_asm) (by k_dflt k_mem) (by with_reducible assumption) (by omega) (by omega) (by omega) ?_; walk_at "mk_inL") | tb_rel); (try dsimp only)) | walk1) | (walk_at "mk_late"; (try dsimp only))))
      (with_reducible rename Fr _ _ _ _ => FF); (with_reducible rename News _ _ _ (_ :: _) => NN)
      (with_reducible rename IntsAre _ (_ ++ _ ++ _) => hI2)
      obtain ⟨zs, hI3, hzs, hzl, hodd⟩ := pack_big hlen (by omega) hI2
      clear hI2
      have hwl := hI3.length
      have hlz : ((zs.map num).map (·.length)).sum + (zs.map num).length ≤ 1000000 := by
        have h1 : ((zs.map num).map (·.length)).sum ≤ (zs.map num).length * 161 := sum_len fun x hx => by
          obtain ⟨n, hn, rfl⟩ := List.mem_map.mp hx
          exact num_len (hzs n hn)
        rw [List.length_map] at h1 ⊢
        omega
      have hjz := jn_len (zs.map num)
      refine comp_map_list (TxR (zs.map num)) (by walk_at "mk_hh") ⟨_, NN.get (.head _), rfl, _, rfl⟩ (by rw [sizeLine_eq]; omega) FF NN ?_ (by decide) rfl (by rfl) ?_ ?_
      · clear FF NN
        intro p hp
        iterate 14 (all_goals (first | exact absurd hp List.not_mem_nil | (rcases List.mem_cons.mp hp with rfl | hp; · exact Nat.ne_of_lt (by omega))))
      · clear FF NN
        intro i v h2 tk2 C mC g whole hvi hk hw F2 N2
        obtain ⟨z, t, hz, rfl⟩ := ints_at hI3 hvi
        have hz2 := hzs z (List.mem_of_getElem? hz)
        have X2 := X.keeps hk
        have T2 := T.keeps hk
        clear X T
        dsimp only
        (repeat' ((fail_if_success tb_start); first | ((first | ((with_reducible show wpAny _ _ (call (Value.type "str") [Value.int _ _]) _ _ _); refine str_int (by with_reducible assumption) ?_) | tb_rel); (try dsimp only)) | walk_at "mk_tail" | (walk_at "mk_dl"; first | ((first | ((with_reducible show wpAny _ _ (call (Value.type "str") [Value.int _ _]) _ _ _); refine str_int (by with_reducible assumption) ?_) | tb_rel); (try dsimp only)) | walk1) | (walk_at "mk_late"; (try dsimp only))))
        refine MStep.plain (by assumption) (by assumption) ?_
        exact ⟨num z, _, by rw [List.getElem?_map, hz]; rfl, rfl, rfl⟩
      · clear FF NN
        intro h2 tk2 mC ys k exs D C hr hn2 F2 N2 f1 f2 f3 hC0 hCL hC
        refine post_none hn2 F2 N2 hC0 hCL hC ?_
        intro h3 tk3 F3 N3
        clear F2 N2
        dsimp only
        obtain ⟨rfl, hs⟩ := Ran.allStrs (ts := zs.map num) (by rw [List.length_map, ← hwl]; exact hr)
        dsimp only [List.append_nil, List.cons_append, List.nil_append] at N3
        (repeat' ((fail_if_success tb_start); first | ((first | ((with_reducible show wpAny _ _ (binaryOp Operator.Add (Value.str (tx _) _) (Value.str (Str.ofString ")") _)) _ _ _); refine add_tt (b := [41]) rfl (by decide) (by walk_at "mk_len") ?_; intros) | ((with_reducible show wpAny _ _ (binaryOp Operator.Add (Value.str (Str.ofString "(") _) (Value.str (tx _) _)) _ _ _); refine add_tt (a := [40]) (by decide) rfl (by walk_at "mk_len") ?_; intros) | ((with_reducible show wpAny _ _ (call (Value.builtin "str.join") [Value.str (Str.ofString " ") _, Value.ref _]) _ _ _); refine join_sp (by k_asm) (by k_dflt k_mem) (by with_reducible assumption) (by with_reducible assumption) ?_; intros) | tb_rel); (try dsimp only)) | walk_at "mk_tail" | (walk_at "mk_dl"; first | ((first | ((with_reducible show wpAny _ _ (binaryOp Operator.Add (Value.str (tx _) _) (Value.str (Str.ofString ")") _)) _ _ _); refine add_tt (b := [41]) rfl (by decide) (by walk_at "mk_len") ?_; intros) | ((with_reducible show wpAny _ _ (binaryOp Operator.Add (Value.str (Str.ofString "(") _) (Value.str (tx _) _)) _ _ _); refine add_tt (a := [40]) (by decide) rfl (by walk_at "mk_len") ?_; intros) | ((with_reducible show wpAny _ _ (call (Value.builtin "str.join") [Value.str (Str.ofString " ") _, Value.ref _]) _ _ _); refine join_sp (by k_asm) (by k_dflt k_mem) (by with_reducible assumption) (by with_reducible assumption) ?_; intros) | tb_rel); (try dsimp only)) | walk1) | (walk_at "mk_late"; (try dsimp only))))
        (with_reducible rename Fr _ _ _ _ => FF); (with_reducible rename News _ _ _ (_ :: _) => NN)
        obtain ⟨F', N'⟩ := fin FF NN (by k_dflt k_mem) (by k_dflt k_mem) (by k_dflt k_mem)
        exact ret _ _ _ _ _ _ _ _ _ _ hodd (by omega) (by with_reducible assumption) F' N'
    · refine comp_eval (cl := []) (by rfl) (by rfl) (by decide) ?_
      (repeat' ((fail_if_success tb_start); first | ((first | ((with_reducible show wpAny _ _ (binaryOp Operator.Add (Value.ref _) (Value.ref _)) _ _ _); refine add_ints (by k_asm) (by k_asm) (by k_dflt k_mem) (by k_dflt k_mem) (by first | with_reducible assumption | exact .cons _ _ .nil) (by first | with_reducible assumption | exact .cons _ _ .nil) (by ((try simp only [List.length_append, List.length_take, List.length_drop, List.length_cons, List.length_nil]); omega)) ?_; walk_at "mk_inL") | ((with_reducible show wpAny _ _ (subscriptTail _ (Expr.Slice (some _) none none _) (Value.ref _) (Value.ref _)) _ _ _); refine sl_from (by k_asm) (by k_asm) (by k_dflt k_mem) (by with_reducible assumption) (by omega) (by omega) (by omega) ?_; walk_at "mk_inL") | ((with_reducible show wpAny _ _ (subscriptTail _ (Expr.Slice none (some _) none _) (Value.ref _) (Value.ref _)) _ _ _); refine sl_to (by k_asm) (by k_asm) (by k_dflt k_mem) (by with_reducible assumption) (by omega) (by omega) (by omega) ?_; walk_at "mk_inL") | ((with_reducible show wpAny _ _ (subscriptTail _ _ (Value.ref _) (Value.int (Nat.cast _) _)) _ _ _); refine sub_nats (by k_asm) (by k_dflt k_mem) (by with_reducible assumption) (by walk_at "mk_idx") (by omega) ?_; intros) | tb_rel); (try dsimp only)) | walk_at "mk_tail" | (walk_at "mk_dl"; first | ((first | ((with_reducible show wpAny _ _ (binaryOp Operator.Add (Value.ref _) (Value.ref _)) _ _ _); refine add_ints (by k_asm) (by k_asm) (by k_dflt k_mem) (by k_dflt k_mem) (by first | with_reducible assumption | exact .cons _ _ .nil) (by first | with_reducible assumption | exact .cons _ _ .nil) (by ((try simp only [List.length_append, List.length_take, List.length_drop, List.length_cons, List.length_nil]); omega)) ?_; walk_at "mk_inL") | ((with_reducible show wpAny _ _ (subscriptTail _ (Expr.Slice (some _) none none _) (Value.ref _) (Value.ref _)) _ _ _); refine sl_from (by k_asm) (by k_asm) (by k_dflt k_mem) (by with_reducible assumption) (by omega) (by omega) (by omega) ?_; walk_at "mk_inL") | ((with_reducible show wpAny _ _ (subscriptTail _ (Expr.Slice none (some _) none _) (Value.ref _) (Value.ref _)) _ _ _); refine sl_to (by k_asm) (by k_asm) (by k_dflt k_mem) (by with_reducible assumption) (by omega) (by omega) (by omega) ?_; walk_at "mk_inL") | ((with_reducible show wpAny _ _ (subscriptTail _ _ (Value.ref _) (Value.int (Nat.cast _) _)) _ _ _); refine sub_nats (by k_asm) (by k_dflt k_mem) (by with_reducible assumption) (by walk_at "mk_idx") (by omega) ?_; intros) | tb_rel); (try dsimp only)) | walk1) | (walk_at "mk_late"; (try dsimp only))))
      (with_reducible rename Fr _ _ _ _ => FF); (with_reducible rename News _ _ _ (_ :: _) => NN)
      (with_reducible rename IntsAre _ (_ ++ _ ++ _) => hI2)
      obtain ⟨zs, hI3, hzs, hzl, hodd⟩ := pack_neg hlen (by omega) hI2
      clear hI2
      have hwl := hI3.length
      have hlz : ((zs.map num).map (·.length)).sum + (zs.map num).length ≤ 1000000 := by
        have h1 : ((zs.map num).map (·.length)).sum ≤ (zs.map num).length * 161 := sum_len fun x hx => by
          obtain ⟨n, hn, rfl⟩ := List.mem_map.mp hx
          exact num_len (hzs n hn)
        rw [List.length_map] at h1 ⊢
        omega
      have hjz := jn_len (zs.map num)
      refine comp_map_list (TxR (zs.map num)) (by walk_at "mk_hh") ⟨_, NN.get (.head _), rfl, _, rfl⟩ (by rw [sizeLine_eq]; omega) FF NN ?_ (by decide) rfl (by rfl) ?_ ?_
      · clear FF NN
        intro p hp
        iterate 14 (all_goals (first | exact absurd hp List.not_mem_nil | (rcases List.mem_cons.mp hp with rfl | hp; · exact Nat.ne_of_lt (by omega))))
      · clear FF NN
        intro i v h2 tk2 C mC g whole hvi hk hw F2 N2
        obtain ⟨z, t, hz, rfl⟩ := ints_at hI3 hvi
        have hz2 := hzs z (List.mem_of_getElem? hz)
        have X2 := X.keeps hk
        have T2 := T.keeps hk
        clear X T
        dsimp only
        (repeat' ((fail_if_success tb_start); first | ((first | ((with_reducible show wpAny _ _ (call (Value.type "str") [Value.int _ _]) _ _ _); refine str_int (by with_reducible assumption) ?_) | tb_rel); (try dsimp only)) | walk_at "mk_tail" | (walk_at "mk_dl"; first | ((first | ((with_reducible show wpAny _ _ (call (Value.type "str") [Value.int _ _]) _ _ _); refine str_int (by with_reducible assumption) ?_) | tb_rel); (try dsimp only)) | walk1) | (walk_at "mk_late"; (try dsimp only))))
        refine MStep.plain (by assumption) (by assumption) ?_
        exact ⟨num z, _, by rw [List.getElem?_map, hz]; rfl, rfl, rfl⟩
      · clear FF NN
        intro h2 tk2 mC ys k exs D C hr hn2 F2 N2 f1 f2 f3 hC0 hCL hC
        refine post_none hn2 F2 N2 hC0 hCL hC ?_
        intro h3 tk3 F3 N3
        clear F2 N2
        dsimp only
        obtain ⟨rfl, hs⟩ := Ran.allStrs (ts := zs.map num) (by rw [List.length_map, ← hwl]; exact hr)
        dsimp only [List.append_nil, List.cons_append, List.nil_append] at N3
        (repeat' ((fail_if_success tb_start); first | ((first | ((with_reducible show wpAny _ _ (binaryOp Operator.Add (Value.str (tx _) _) (Value.str (Str.ofString ")") _)) _ _ _); refine add_tt (b := [41]) rfl (by decide) (by walk_at "mk_len") ?_; intros) | ((with_reducible show wpAny _ _ (binaryOp Operator.Add (Value.str (Str.ofString "(") _) (Value.str (tx _) _)) _ _ _); refine add_tt (a := [40]) (by decide) rfl (by walk_at "mk_len") ?_; intros) | ((with_reducible show wpAny _ _ (call (Value.builtin "str.join") [Value.str (Str.ofString " ") _, Value.ref _]) _ _ _); refine join_sp (by k_asm) (by k_dflt k_mem) (by with_reducible assumption) (by with_reducible assumption) ?_; intros) | tb_rel); (try dsimp only)) | walk_at "mk_tail" | (walk_at "mk_dl"; first | ((first | ((with_reducible show wpAny _ _ (binaryOp Operator.Add (Value.str (tx _) _) (Value.str (Str.ofString ")") _)) _ _ _); refine add_tt (b := [41]) rfl (by decide) (by walk_at "mk_len") ?_; intros) | ((with_reducible show wpAny _ _ (binaryOp Operator.Add (Value.str (Str.ofString "(") _) (Value.str (tx _) _)) _ _ _); refine add_tt (a := [40]) (by decide) rfl (by walk_at "mk_len") ?_; intros) | ((with_reducible show wpAny _ _ (call (Value.builtin "str.join") [Value.str (Str.ofString " ") _, Value.ref _]) _ _ _); refine join_sp (by k_asm) (by k_dflt k_mem) (by with_reducible assumption) (by with_reducible assumption) ?_; intros) | tb_rel); (try dsimp only)) | walk1) | (walk_at "mk_late"; (try dsimp only))))
        (with_reducible rename Fr _ _ _ _ => FF); (with_reducible rename News _ _ _ (_ :: _) => NN)
        obtain ⟨F', N'⟩ := fin FF NN (by k_dflt k_mem) (by k_dflt k_mem) (by k_dflt k_mem)
        exact ret _ _ _ _ _ _ _ _ _ _ hodd (by omega) (by with_reducible assumption) F' N'
    · (with_reducible rename Fr _ _ _ _ => FF); (with_reducible rename News _ _ _ (_ :: _) => NN)
      obtain ⟨F', N'⟩ := fin FF NN (by k_dflt k_mem) (by k_dflt k_mem) (by k_dflt k_mem)
      exact ret _ _ _ _ _ _ _ _ _ _ OddTx.tup (by omega) (by with_reducible assumption) F' N'
    · (with_reducible rename Fr _ _ _ _ => FF); (with_reducible rename News _ _ _ (_ :: _) => NN)
      obtain ⟨F', N'⟩ := fin FF NN (by k_dflt k_mem) (by k_dflt k_mem) (by k_dflt k_mem)
      exact ret _ _ _ _ _ _ _ _ _ _ OddTx.str (by omega) (by with_reducible assumption) F' N'
    · (with_reducible rename Fr _ _ _ _ => FF); (with_reducible rename News _ _ _ (_ :: _) => NN)
      obtain ⟨F', N'⟩ := fin FF NN (by k_dflt k_mem) (by k_dflt k_mem) (by k_dflt k_mem)
      exact ret _ _ _ _ _ _ _ _ _ _ OddTx.none (by omega) (by with_reducible assumption) F' N'
    · (with_reducible rename Fr _ _ _ _ => FF); (with_reducible rename News _ _ _ (_ :: _) => NN)
      obtain ⟨F', N'⟩ := fin FF NN (by k_dflt k_mem) (by k_dflt k_mem) (by k_dflt k_mem)
      exact ret _ _ _ _ _ _ _ _ _ _ OddTx.empty (by omega) (by with_reducible assumption) F' N'
end

/-- a piece reads to an element -/
noncomputable def Elem (q : Pc) (g : Option Nat) : Prop := ∀ v ex, q.is v ex → ElIs v ex g
theorem ElIs.mono {v : Value} {ex ex' : List (Addr × Obj)} {g : Option Nat} (h : ElIs v ex g) (s : ∀ p ∈ ex, p ∈ ex') : ElIs v ex' g := by
  cases g with
  | some p => exact h
  | none =>
    rcases h with h | h | h | h | ⟨T, vs, h1, h2⟩
    · exact .inl h
    · exact .inr (.inl h)
    · exact .inr (.inr (.inl h))
    · exact .inr (.inr (.inr (.inl h)))
    · exact .inr (.inr (.inr (.inr ⟨T, vs, h1, s _ h2⟩)))
theorem els_of {E : List (Addr × Obj)} : ∀ {l : List (Pc × Option Nat)}, (∀ x ∈ l, Elem x.1 x.2) → ∀ {vs : List Value} {exs : List (Addr × Obj)}, AllIs (l.map (·.1)) vs exs → (∀ p ∈ exs, p ∈ E) → ElsAre E vs (l.map (·.2))
  | [], _, _, _, .nil, _ => .nil
  | x :: l, h, _, _, .cons a b, s => .cons ((h x (.head _) _ _ a).mono fun p hp => s p (List.mem_append_left _ hp)) (els_of (fun y hy => h y (.tail _ hy)) b fun p hp => s p (List.mem_append_right _ hp))
/-- a piece in brackets -/
noncomputable def tupD (l : List (Pc × Option Nat)) : Dsc := (tupPc (l.map (·.1)), l.map (·.2), true)
theorem tupD_is {l : List (Pc × Option Nat)} (h : ∀ x ∈ l, Elem x.1 x.2) {v : Value} {ex : List (Addr × Obj)} (hv : (tupD l).1.is v ex) : ItemIs v ex (tupD l).2.1 (tupD l).2.2 := by
  obtain ⟨T, vs, exs, rfl, rfl, ha⟩ := hv
  exact ⟨T, vs, rfl, .head _, els_of h ha fun p hp => .tail _ hp⟩
noncomputable def Fine (w : World) (x : Pc × Option Nat) : Prop := Elem x.1 x.2 ∧ ItemOK w 1 x.1 ∧ x.1.text.head? ≠ some 41 ∧ x.1.text ≠ []
theorem tupD_ok {w : World} {l : List (Pc × Option Nat)} (h : ∀ x ∈ l, Fine w x) (hl : l.length ≤ 1000) : ItemOK w 0 (tupD l).1 := by
  refine item_tup (by decide) (bracket_ok (by decide) (fun q hq => ?_) (by rw [List.length_map]; exact hl))
  obtain ⟨x, hx, rfl⟩ := List.mem_map.mp hq
  exact ⟨(h x hx).2.1, (h x hx).2.2⟩
/-- a whole number as an element -/
noncomputable def gz (z : Int) : Option Nat := if 0 ≤ z ∧ z < ((P5 : Nat) : Int) then some z.toNat else none
theorem elem_int (z : Int) : Elem (intPc z) (gz z) := by
  rintro v ex ⟨⟨t, rfl⟩, rfl⟩
  unfold gz
  split
  · rename_i h
    have h1 : z.toNat < P5 := by omega
    refine ⟨h1, t, ?_⟩
    rw [Int.toNat_of_nonneg h.1]
  · rename_i h
    by_cases h0 : z < 0
    · exact .inl ⟨z, t, rfl, h0⟩
    · refine .inr (.inl ⟨z.toNat, t, ?_, by omega⟩)
      rw [Int.toNat_of_nonneg (by omega)]
theorem num_head {z : Int} : (num z).head? ≠ some 41 ∧ num z ≠ [] := by
  obtain ⟨c, r, e, h1, h2⟩ := dg_cons z.natAbs
  unfold num
  split
  · exact ⟨by simp, by simp⟩
  · rw [e]; exact ⟨by simp; omega, by simp⟩
theorem fine_int {w : World} {z : Int} (hz : (dg z.natAbs).length ≤ 160) : Fine w (intPc z, gz z) :=
  ⟨elem_int z, item_int (by decide) hz, num_head⟩
theorem fine_one {w : World} : Fine w (onePc, none) := ⟨by rintro v ex ⟨⟨t, rfl⟩, rfl⟩; exact .inr (.inr (.inr (.inl ⟨_, _, rfl⟩))), item_one (by decide), by decide, by decide⟩
theorem fine_no {w : World} : Fine w (noPc, none) := ⟨by rintro v ex ⟨rfl, rfl⟩; exact .inr (.inr (.inl rfl)), item_no (by decide), by decide, by decide⟩
theorem fine_tup {w : World} : Fine w (tupPc [intPc 1], none) := by
  refine ⟨?_, item_tup (by decide) (bracket_ok (by decide) (fun q hq => ?_) (by decide)), by decide, by decide⟩
  · rintro v ex ⟨T, vs, exs, rfl, rfl, ha⟩
    exact .inr (.inr (.inr (.inr ⟨T, _, rfl, .head _⟩)))
  · rw [List.mem_singleton.mp hq]
    exact ⟨item_int (by decide) (by decide), num_head (z := 1)⟩
noncomputable def intD (z : Int) : Pc × Option Nat := (intPc z, gz z)
theorem ti_text (zs : List Int) : (tupD (zs.map intD)).1.text = ti zs := by
  show 40 :: (jn [32] ((((zs.map intD).map (·.1)).map (·.text))) ++ [41]) = _
  unfold ti
  rw [List.map_map, List.map_map]
  rfl
theorem jn_snoc (y : List Nat) : ∀ (xs : List (List Nat)), xs ≠ [] → jn [32] (xs ++ [y]) = jn [32] xs ++ 32 :: y
  | [], h => absurd rfl h
  | [x], _ => by simp [jn]
  | x :: x' :: xs, _ => by
    have ih := jn_snoc y (x' :: xs) (by simp)
    show x ++ [32] ++ jn [32] ((x' :: xs) ++ [y]) = x ++ [32] ++ jn [32] (x' :: xs) ++ 32 :: y
    rw [ih, List.append_assoc, List.append_assoc, List.append_assoc]
theorem zof_text (M : Nat) : (((zof M).map intD).map (·.1)).map (·.text) = (pts M).map dg := by
  unfold zof
  rw [List.map_map, List.map_map, List.map_map]
  exact List.map_congr_left fun n _ => num_nat n
theorem pts_ne (M : Nat) : pts M ≠ [] := by
  by_cases h : M < P5
  · rw [pts_lt h]; simp
  · rw [pts_ge h]; simp
theorem more_text (M : Nat) (x : Pc × Option Nat) : (tupD ((zof M).map intD ++ [x])).1.text = brk M ++ 32 :: (x.1.text ++ [41]) := by
  show 40 :: (jn [32] ((((zof M).map intD ++ [x]).map (·.1)).map (·.text)) ++ [41]) = _
  rw [List.map_append, List.map_append, zof_text]
  show 40 :: (jn [32] ((pts M).map dg ++ [x.1.text]) ++ [41]) = _
  rw [jn_snoc _ _ (by simpa using pts_ne M)]
  simp [brk]
theorem gz_nat {n : Nat} (h : n < P5) : gz ((n : Nat) : Int) = some n := by
  unfold gz
  rw [if_pos ⟨Int.natCast_nonneg n, Int.ofNat_lt.mpr h⟩, Int.toNat_natCast]
theorem gs_of : ∀ l : List Nat, (∀ n ∈ l, n < P5) → ((l.map fun n : Nat => (n : Int)).map intD).map (·.2) = l.map some
  | [], _ => rfl
  | n :: l, h => by
    have h1 : (intD ((n : Nat) : Int)).2 = some n := by
      dsimp only [intD]
      exact gz_nat (n := n) (h n (.head _))
    rw [List.map_cons, List.map_cons, List.map_cons, List.map_cons, gs_of l fun m hm => h m (.tail _ hm), h1]
theorem zof_gs (M : Nat) : ((zof M).map intD).map (·.2) = (pts M).map some := gs_of _ (pts_lt5 M)
theorem not_good_none {d : Dsc} (h : none ∈ d.2.1) : ¬ good d := by
  rintro ⟨ps, e, _⟩
  rw [e] at h
  obtain ⟨a, _, q⟩ := List.mem_map.mp h
  cases q
theorem some_inj : ∀ {a b : List Nat}, a.map some = b.map some → a = b
  | [], [], _ => rfl
  | [], _ :: _, h => by cases h
  | _ :: _, [], h => by cases h
  | x :: a, y :: b, h => by
    simp only [List.map_cons, List.cons.injEq, Option.some.injEq] at h
    rw [h.1, some_inj h.2]
theorem good_ps {q : Pc} {ps : List Nat} {b : Bool} (h : good (q, ps.map some, b)) : maskD (val ps) = itemD ps b := by
  obtain ⟨ps', e, h⟩ := h
  have : ps = ps' := some_inj e
  rw [this]; exact h
theorem tupD_data {M : Nat} {ps : List Nat} (h : maskD M = itemD ps true) : ¬ M < P5 ∧ pts M = ps := by
  unfold maskD at h
  split at h
  · cases h
  · rename_i h1
    refine ⟨h1, ?_⟩
    have e : ((pts M).map fun n : Nat => (n : Int)).map PyData.int = (ps.map fun n : Nat => (n : Int)).map PyData.int := by
      have := h
      simp only [itemD, PyData.tuple.injEq] at this
      exact this
    rw [List.map_map, List.map_map] at e
    have inj : ∀ a b : List Nat, a.map (PyData.int ∘ fun n : Nat => (n : Int)) = b.map (PyData.int ∘ fun n : Nat => (n : Int)) → a = b := fun a => by
      induction a with
      | nil => intro b h; cases b with
        | nil => rfl
        | cons _ _ => cases h
      | cons x a ih => intro b h; cases b with
        | nil => cases h
        | cons y b =>
          simp only [List.map_cons, List.cons.injEq, Function.comp_apply, PyData.int.injEq] at h
          rw [ih b h.2, Int.ofNat_inj.mp h.1]
    exact inj _ _ e
/-- what is wanted of a piece of the read line -/
structure PcOK (w : World) (d : Dsc) : Prop where
  ok : ItemOK w 0 d.1 ∨ (True ∧ ItemUp w d.1)
  is : ∀ v ex, d.1.is v ex → ItemIs v ex d.2.1 d.2.2
  len : d.2.1.length ≤ 8
theorem zof_fine {w : World} {M : Nat} {x : Pc × Option Nat} (h : x ∈ (zof M).map intD) : Fine w x := by
  obtain ⟨z, hz, rfl⟩ := List.mem_map.mp h
  exact fine_int (zof_mem hz)
theorem zof_len (M : Nat) : (zof M).length = (pts M).length := by unfold zof; rw [List.length_map]
theorem tupD_PcOK {w : World} {l : List (Pc × Option Nat)} (h : ∀ x ∈ l, Fine w x) (hl : l.length ≤ 8) : PcOK w (tupD l) :=
  ⟨.inl (tupD_ok h (by omega)), fun v ex hv => tupD_is (fun x hx => (h x hx).1) hv, by show (l.map _).length ≤ 8; rw [List.length_map]; exact hl⟩
theorem pts_one {M : Nat} (h : (pts M).length = 1) : M < P5 := by
  by_cases h1 : M < P5
  · exact h1
  · rw [pts_ge h1, List.length_cons] at h
    have := List.length_pos_iff.mpr (pts_ne (M / P5))
    omega
theorem pts_more {M : Nat} (h : 1 < (pts M).length) : ¬ M < P5 := fun h1 => by rw [pts_lt h1] at h; simp at h
theorem zof_z {M : Nat} {z : Int} (h : z ∈ zof M) : (dg z.natAbs).length ≤ 160 := zof_mem h
theorem odd_pc {w : World} {M : Nat} {x : List Nat} (hl : (pts M).length ≤ 3) (h : OddTx M x) : ∃ d : Dsc, d.1.text = x ∧ PcOK w d ∧ ¬ good d := by
  have hzl := zof_len M
  have mid : ∀ (k : Nat) (z : Int), z.natAbs < 10 ^ 151 → (z < 0 ∨ ((P5 : Nat) : Int) ≤ z) → ∃ d : Dsc, d.1.text = ti ((zof M).take k ++ [z] ++ (zof M).drop (k + 1)) ∧ PcOK w d ∧ ¬ good d := fun k z hz hb => by
    refine ⟨tupD (((zof M).take k ++ [z] ++ (zof M).drop (k + 1)).map intD), ti_text _, tupD_PcOK (fun x hx => ?_) ?_, not_good_none ?_⟩
    · obtain ⟨y, hy, rfl⟩ := List.mem_map.mp hx
      refine fine_int ?_
      rcases List.mem_append.mp hy with hy | hy
      · rcases List.mem_append.mp hy with hy | hy
        · exact zof_mem (List.mem_of_mem_take hy)
        · rw [List.mem_singleton.mp hy]
          have := (dg_len (m := z.natAbs) (k := 151) (by decide)).mpr hz
          omega
      · exact zof_mem (List.mem_of_mem_drop hy)
    · simp only [List.length_map, List.length_append, List.length_take, List.length_drop, List.length_cons, List.length_nil]
      omega
    · have e : gz z = none := by unfold gz; rw [if_neg (by omega)]
      refine List.mem_map.mpr ⟨intD z, List.mem_map.mpr ⟨z, ?_, rfl⟩, e⟩
      exact List.mem_append_left _ (List.mem_append_right _ (.head _))
  have more : ∀ x : Pc × Option Nat, Fine w x → x.2 = none → ∃ d : Dsc, d.1.text = brk M ++ 32 :: (x.1.text ++ [41]) ∧ PcOK w d ∧ ¬ good d := fun x hx hn => by
    refine ⟨tupD ((zof M).map intD ++ [x]), more_text M x, tupD_PcOK (fun y hy => ?_) ?_, not_good_none ?_⟩
    · rcases List.mem_append.mp hy with hy | hy
      · exact zof_fine hy
      · rw [List.mem_singleton.mp hy]; exact hx
    · rw [List.length_append, List.length_map, List.length_singleton]; omega
    · exact List.mem_map.mpr ⟨x, List.mem_append_right _ (.head _), hn⟩
  cases h with
  | whole h1 =>
    have hM := pts_more h1
    refine ⟨(intPc (M : Nat), [none], false), num_nat M, ⟨?_, ?_, (by decide : 1 ≤ 8)⟩, not_good_none (.head _)⟩
    · by_cases h2 : (dg M).length ≤ 160
      · exact .inl (item_int (z := (M : Nat)) (by decide) h2)
      · exact .inr ⟨trivial, item_long (by omega)⟩
    · rintro v ex ⟨⟨t, rfl⟩, rfl⟩
      exact ⟨none, rfl, .inr (.inl ⟨M, t, rfl, by omega⟩), _, _, rfl⟩
  | one h1 =>
    have hM := pts_one h1
    refine ⟨tupD ((zof M).map intD), ?_, tupD_PcOK (fun y hy => zof_fine hy) (by rw [List.length_map]; omega), ?_⟩
    · show 40 :: (jn [32] ((((zof M).map intD).map (·.1)).map (·.text)) ++ [41]) = _
      rw [zof_text]; rfl
    · intro hg
      have hg' : good (tupPc (((zof M).map intD).map (·.1)), (pts M).map some, true) := by rw [← zof_gs]; exact hg
      have := good_ps hg'
      rw [val_pts] at this
      exact (tupD_data this).1 hM
  | zero =>
    refine ⟨tupD ((zof M).map intD ++ [intD 0]), ?_, tupD_PcOK (fun y hy => ?_) ?_, ?_⟩
    · rw [more_text]; rfl
    · rcases List.mem_append.mp hy with hy | hy
      · exact zof_fine hy
      · rw [List.mem_singleton.mp hy]; exact fine_int (by decide)
    · rw [List.length_append, List.length_map, List.length_singleton]; omega
    · intro hg
      have e : (tupD ((zof M).map intD ++ [intD 0])).2.1 = (pts M ++ [0]).map some := by
        show ((zof M).map intD ++ [intD 0]).map (·.2) = _
        rw [List.map_append, zof_gs, List.map_append]
        show _ ++ [gz ((0 : Nat) : Int)] = _
        rw [gz_nat P5_pos0]; rfl
      have hg' : good (tupPc (((zof M).map intD ++ [intD 0]).map (·.1)), (pts M ++ [0]).map some, true) := by rw [← e]; exact hg
      have := good_ps hg'
      rw [val_snoc, val_pts, Nat.mul_zero, Nat.add_zero] at this
      have h2 := congrArg List.length (tupD_data this).2
      rw [List.length_append] at h2
      simp at h2
  | big k hk => exact mid k _ (by rw [Int.natAbs_natCast]; exact Nat.lt_trans (Nat.lt_succ_self _) p5_ten) (.inr (Int.le_refl _))
  | neg k p hp =>
    have h1 := pts_lt5 M p (List.mem_of_getElem? hp)
    have h2 := p5_ten
    exact mid k _ (by omega) (.inl (by omega))
  | tup => exact more (tupPc [intPc 1], none) fine_tup rfl
  | str => exact more (onePc, none) fine_one rfl
  | none => exact more (noPc, none) fine_no rfl
  | empty =>
    refine ⟨tupD [], rfl, tupD_PcOK (fun _ h => nomatch h) (by decide), ?_⟩
    intro hg
    have hg' : good (tupPc [], ([] : List Nat).map some, true) := hg
    exact (tupD_data (good_ps hg')).1 P5_pos0
/-- the piece of a mask as it is due -/
noncomputable def dueD (M : Nat) : Dsc := if M < P5 then (intPc (M : Nat), [some M], false) else tupD ((zof M).map intD)
theorem due_pc {w : World} {M : Nat} (hl : (pts M).length ≤ 3) : (dueD M).1.text = spell M ∧ PcOK w (dueD M) ∧ good (dueD M) ∧ outv (dueD M) = M := by
  have hzl := zof_len M
  unfold dueD spell
  by_cases h : M < P5
  · simp only [if_pos h]
    have hd : (dg M).length ≤ 160 := by
      have := (dg_len (m := M) (k := 151) (by decide)).mpr (Nat.lt_trans (Nat.lt_succ_of_lt h) p5_ten)
      omega
    refine ⟨num_nat M, ⟨.inl (item_int (z := (M : Nat)) (by decide) hd), ?_, (by decide : 1 ≤ 8)⟩, ⟨[M], rfl, ?_⟩, ?_⟩
    · rintro v ex ⟨⟨t, rfl⟩, rfl⟩
      exact ⟨some M, rfl, ⟨h, t, rfl⟩, _, _, rfl⟩
    · show maskD (M + P5 * 0) = _
      rw [Nat.mul_zero, Nat.add_zero, maskD, if_pos h]; rfl
    · show M + P5 * 0 = M
      omega
  · simp only [if_neg h]
    refine ⟨?_, tupD_PcOK (fun y hy => zof_fine hy) (by rw [List.length_map]; omega), ⟨pts M, zof_gs M, ?_⟩, ?_⟩
    · show 40 :: (jn [32] ((((zof M).map intD).map (·.1)).map (·.text)) ++ [41]) = _
      rw [zof_text]
    · rw [val_pts, maskD, if_neg h]; rfl
    · unfold outv
      show val ((((zof M).map intD).map (·.2)).map (·.getD 0)) = M
      rw [zof_gs, List.map_map]
      have : (fun a : Option Nat => a.getD 0) ∘ some = id := rfl
      rw [this, List.map_id, val_pts]

theorem mem_snoc {α : Type} {p : α} {a b : List α} (h : p ∈ a ++ b) : p ∈ a ∨ p ∈ b := List.mem_append.mp h
section
variable {prog : Program} {w : World} {A : Around} {E : Value → Shared → Prop} {s : Shared} {env : Env} {h₀ : Heap} {L : Addr} {m : Str → Option Value} {news : List (Addr × Obj)} {elt iter : Expr} {x : Str} {px : Pos} {scope : Scope} {pos : Pos} {cl : List (Str × Addr)}
/-- back from the comprehension's ground -/
theorem led_back {C : Addr} {h' : Heap} {mC : Str → Option Value} (F : Fr h₀ L s.heap m) (N : News h₀ L s.heap news) (F' : Fr (hideAll s.heap (news.map (·.1))) C h' mC) : Fr h₀ L h' m := by
  obtain ⟨oL, es, ep, hLo, a, b, c⟩ := F.ns
  have nL : L ∉ news.map (·.1) := fun q => by
    obtain ⟨p, hp, e⟩ := List.mem_map.mp q
    exact (N p hp).2.1 e
  have n0 : ∀ b o, h₀.get? b = some o → b ∉ news.map (·.1) := fun b o e q => by
    obtain ⟨p, hp, e'⟩ := List.mem_map.mp q
    rw [← e', (N p hp).2.2] at e; cases e
  exact ⟨⟨oL, es, ep, F'.keep _ _ (hideAll_get _ hLo nL), a, b, c⟩, fun b o e => F'.keep _ _ (hideAll_get _ (F.keep b o e) (n0 b o e)), F.above⟩
/-- a comprehension over a list of the ledger, whose elements change nothing -/
theorem comp_led {use : Option (Value → Sem Unit)} {Q : Value → Shared → Prop} {l : Addr} {vs : List Value} {e₀ : Nat} (R : Nat → Value → List (Addr × Obj) → Prop)
    (hh : A.handled = none) (hm : (l, listOf vs.toArray e₀) ∈ news) (hsz : vs.length ≤ sizeLine)
    (F : Fr h₀ L s.heap m) (N : News h₀ L s.heap news)
    (hcell : ∀ y ∈ scope.names, y.2 ≠ .cell) (hkind : scope.kind = .function) (hx : scope.names.lookup x = some .local)
    (turn : ∀ i v h tk C (mC : Str → Option Value) g whole, vs[i]? = some v → (∀ b o, h₀.get? b = some o → g.get? b = some o) → (∀ p ∈ news, p ∈ whole) → Fr g C h (fun y => if y = x then some v else mC y) → News g C h whole →
      wpAny (model prog w) A (eval elt (compEnvC scope cl C env)) (MStep (R i) g C whole { s with heap := h, toks := tk }) (fun _ _ => False) { s with heap := h, toks := tk })
    (done : ∀ h' tk mC ys k exs D C, Ran R vs.length ys exs → h'.Ns C mC → Fr h₀ L h' m → News h₀ L h' ((D, listOf ys.toArray k) :: (exs ++ news)) → (∀ p ∈ (D, listOf ys.toArray k) :: exs, ∀ o, s.heap.get? p.1 = some o → False) → (∀ p ∈ exs, p.1 ≠ D) →
      h₀.get? C = none → C ≠ L → (∀ p ∈ (D, listOf ys.toArray k) :: (exs ++ news), p.1 ≠ C) → compPost (model prog w) A E use Q (.ref D) C (.ok .next) { s with heap := h', toks := tk }) :
    wpAny (model prog w) A (pyIter (.ref l)) (fun it s₂ => CompK prog w A env E elt iter x px scope pos cl use Q it s₂) E s := by
  have hl : s.heap.IsList l vs.toArray := ⟨_, N.get hm, rfl, e₀, rfl⟩
  refine wpAny_pyIter_list hl ?_
  refine comp_begin hcell hkind ?_
  intro h2 tk D C mC hD hC hDC hk2 hD2 hns
  dsimp only at hD hC hk2
  rw [Heap.size_push] at hD hC
  have lt : ∀ {b : Nat} {o}, s.heap.get? b = some o → b < s.heap.objs.size := fun e => Heap.lt_size e
  have hlt : @LT.lt Nat _ l s.heap.objs.size := lt (N.get hm)
  have W := Walks.list (prog := prog) (w := w) hh s.heap.objs.size l (Nat.ne_of_lt hlt) vs.toArray
  rw [List.size_toArray] at W
  have up1 : ∀ b o, s.heap.get? b = some o → h2.get? b = some o := fun b o e => hk2 b o (Heap.get?_push_of_some _ e)
  have hIC : s.heap.objs.size ≠ C := by omega
  have hID : s.heap.objs.size ≠ D := by omega
  have gk : ∀ {b o}, (hideAll s.heap (news.map (·.1))).get? b = some o → s.heap.get? b = some o := fun e => of_hideAll _ e
  have gn : ∀ (b : Nat), s.heap.objs.size ≤ b → (hideAll s.heap (news.map (·.1))).get? b = none := fun b hb => by
    cases q : (hideAll s.heap (news.map (·.1))).get? b with
    | none => rfl
    | some o => exact absurd (lt (gk q)) (Nat.not_lt.mpr hb)
  have st0 : h2.IsListIter s.heap.objs.size l 0 ∧ h2.IsList l vs.toArray := ⟨⟨_, hk2 _ _ (Heap.get?_push_size _ rfl), rfl, rfl⟩, hl.at fun o e => up1 _ o e⟩
  have nlt : ∀ p ∈ news, @LT.lt Nat _ p.1 s.heap.objs.size := fun p hp => lt (N p hp).1
  have F0 : Fr (hideAll s.heap (news.map (·.1))) C h2 mC := ⟨hns, fun b o e => up1 b o (gk e), by rw [hideAll_size]; show @LE.le Nat _ _ _; omega⟩
  have N0 : News (hideAll s.heap (news.map (·.1))) C h2 ((D, listOf ([] : List Value).toArray 0) :: (news ++ [])) := fun p hp => by
    rcases List.mem_cons.mp hp with rfl | hp
    · exact ⟨hD2, hDC, gn _ (by omega)⟩
    · rw [List.append_nil] at hp
      have := nlt p hp
      exact ⟨up1 _ _ (N p hp).1, (by show @Ne Nat _ _; omega), hideAll_none _ (List.mem_map_of_mem hp)⟩
  have loop : codeAny (model prog w) A (.compLoop (.ListComp elt [⟨.Name x px, iter, [], 0⟩] scope pos) 0 (.ref s.heap.objs.size) (.ref D) (compEnvC scope cl C env))
      (compPost (model prog w) A E use Q (.ref D) C) { s with heap := h2, toks := tk } := by
    refine codeAny_compLoop_list (fun n s' => ∃ h' tk mC ys k exs, s' = { s with heap := h', toks := tk } ∧ (h'.IsListIter s.heap.objs.size l ys.length ∧ h'.IsList l vs.toArray) ∧ Fr (hideAll s.heap (news.map (·.1))) C h' mC ∧
        News (hideAll s.heap (news.map (·.1))) C h' ((D, listOf ys.toArray k) :: (news ++ exs)) ∧ (∀ p ∈ exs, p.1 ≠ D ∧ p.1 ≠ s.heap.objs.size ∧ ∀ o, s.heap.get? p.1 = some o → False) ∧ Ran R ys.length ys exs ∧ ys.length ≤ vs.length ∧ n = vs.length + 1 - ys.length) ?_ (vs.length + 1)
      ⟨h2, tk, mC, [], 0, [], rfl, st0, F0, N0, (fun p hp => by cases hp), .nil, Nat.zero_le _, rfl⟩
    rintro n s' ⟨h', tk, mC, ys, k, exs, rfl, hst', F', N', hx', hR, hle, rfl⟩
    have step : ∀ h₂ : Heap, (∀ b o, b ∉ [s.heap.objs.size] → h'.get? b = some o → h₂.get? b = some o) → Fr (hideAll s.heap (news.map (·.1))) C h₂ mC ∧ News (hideAll s.heap (news.map (·.1))) C h₂ ((D, listOf ys.toArray k) :: (news ++ exs)) := fun h₂ hk₂ =>
      ⟨⟨F'.ns.at' fun o e => hk₂ _ o (by simpa using Ne.symm hIC) e, fun b o e => hk₂ b o (fun q => by
          have q := List.mem_singleton.mp q
          rw [q, gn _ (Nat.le_refl _)] at e; cases e) (F'.keep b o e), F'.above⟩,
        fun p hp => ⟨hk₂ _ _ (fun q => by
          have q : p.1 = s.heap.objs.size := List.mem_singleton.mp q
          rcases List.mem_cons.mp hp with rfl | hp
          · exact hID q.symm
          · rcases List.mem_append.mp hp with hp | hp
            · exact absurd q (Nat.ne_of_lt (nlt p hp))
            · exact (hx' p hp).2.1 q) (N' p hp).1, (N' p hp).2⟩⟩
    by_cases hlt2 : ys.length < vs.length
    · refine W.item ys.length _ _ _ hlt2 hst' fun v h₂ tk₂ hv hst₂ hk₂ => ?_
      have hv' : vs[ys.length]? = some v := by simpa using hv
      obtain ⟨F₂, N₂⟩ := step h₂ hk₂
      refine wpAny_assign_Name (wpAny_storeName_local (lookup_relabel_local hx) F₂.ns (fun h₃ hn₃ hs₃ => ?_) (by simp [compEnvC, relabel, hkind]))
      have F₃ := F₂.set hn₃ hs₃
      have N₃ := N₂.set hs₃
      have hst₃ : h₃.IsListIter s.heap.objs.size l (ys.length + 1) ∧ h₃.IsList l vs.toArray := W.frame _ h₂ h₃ hst₂ fun c hc o e => hs₃.extBut c o (fun q => by
        have hc' : c = s.heap.objs.size ∨ c = l := by simpa using hc
        have q : c = C := q
        rcases hc' with r | r
        · exact hIC (r ▸ q)
        · exact (show @Ne Nat l C by omega) (r ▸ q)) e
      obtain ⟨oI, hoI, hcI⟩ := hst₃.1
      have NN : News (hideAll s.heap (news.map (·.1))) C h₃ ((D, listOf ys.toArray k) :: (s.heap.objs.size, oI) :: (news ++ exs)) := fun p hp => by
        rcases List.mem_cons.mp hp with rfl | hp
        · exact N₃ _ (.head _)
        · rcases List.mem_cons.mp hp with rfl | hp
          · exact ⟨hoI, hIC, gn _ (Nat.le_refl _)⟩
          · exact N₃ p (.tail _ hp)
      refine wpAny_mono (turn ys.length v h₃ _ C mC _ _ hv' (fun b o e => ?_) (fun p hp => .tail _ (.tail _ (List.mem_append_left _ hp))) F₃ NN) (fun u s₄ h₄ => ?_) (fun _ _ f => f.elim)
      · refine hideAll_get _ (F.keep b o e) fun q => ?_
        obtain ⟨p, hp, e'⟩ := List.mem_map.mp q
        rw [← e', (N p hp).2.2] at e; cases e
      · cases h₄ with | @intro h4 tk4 mC4 ex F4 N4 N5 f r =>
        have fD : ∀ p ∈ ex, p.1 ≠ D := fun p hp q => f p hp _ (by show h₃.get? p.1 = _; rw [q]; exact NN.get (.head _))
        have fI : ∀ p ∈ ex, p.1 ≠ s.heap.objs.size := fun p hp q => f p hp oI (by show h₃.get? p.1 = _; rw [q]; exact hoI)
        have fo : ∀ p ∈ ex, ∀ o, s.heap.get? p.1 = some o → False := fun p hp o q => by
          by_cases hn : p.1 ∈ news.map (·.1)
          · obtain ⟨z, hz, ez⟩ := List.mem_map.mp hn
            exact f p hp z.2 (by show h₃.get? p.1 = _; rw [← ez]; exact NN.get (.tail _ (.tail _ (List.mem_append_left _ hz))))
          · exact f p hp o (F₃.keep _ _ (hideAll_get _ q hn))
        refine append_at (hsz := by rw [List.size_toArray]; omega) (N4.get (.head _)) fun h5 hs5 hD5 => ?_
        have kD : ∀ (c : Nat) o, c ≠ D → h4.get? c = some o → h5.get? c = some o := fun c o hc e => hs5.extBut c o hc e
        have hlen : (ys ++ [u]).length = ys.length + 1 := by simp
        refine ⟨vs.length + 1 - (ys ++ [u]).length, by omega, h5, tk4, mC4, ys ++ [u], k + 1, exs ++ ex, rfl, ?_, ⟨F4.ns.sameBut hs5 (Ne.symm hDC), fun b o e => kD b o (fun q => by rw [q, gn _ (by omega)] at e; cases e) (F4.keep b o e), F4.above⟩, fun p hp => ?_, fun p hp => ?_, ?_, by omega, rfl⟩
        · rw [hlen]
          refine ⟨⟨oI, kD _ _ hID (N4.get (.tail _ (.head _))), hcI⟩, ?_⟩
          exact ⟨_, kD _ _ (show @Ne Nat l D by omega) (N4.get (.tail _ (.tail _ (List.mem_append_left _ hm)))), rfl, e₀, rfl⟩
        · rcases List.mem_cons.mp hp with rfl | hp
          · exact ⟨by rw [hD5]; simp [List.push_toArray], hDC, gn _ (by omega)⟩
          · rw [← List.append_assoc] at hp
            rcases List.mem_append.mp hp with hp | hp
            · have hpD : p.1 ≠ D := by
                rcases List.mem_append.mp hp with hp | hp
                · have := nlt p hp; show @Ne Nat _ _; omega
                · exact (hx' p hp).1
              exact ⟨kD _ _ hpD (N4.get (.tail _ (.tail _ hp))), (N4 p (.tail _ (.tail _ hp))).2⟩
            · exact ⟨kD _ _ (fD p hp) (N5 p hp).1, (N5 p hp).2⟩
        · rcases List.mem_append.mp hp with hp | hp
          · exact hx' p hp
          · exact ⟨fD p hp, fI p hp, fo p hp⟩
        · rw [hlen]; exact .snoc hR r
    · have hin : ys.length = vs.length := by omega
      rw [hin] at hst'
      refine W.done _ _ _ hst' fun h₂ tk₂ hk₂ => ?_
      obtain ⟨F₂, N₂⟩ := step h₂ hk₂
      have zD := fresh_none F (show @LE.le Nat _ s.heap.objs.size D by omega)
      have zC := fresh_none F (show @LE.le Nat _ s.heap.objs.size C by omega)
      have FB := led_back F N F₂
      rw [hin] at hR
      have low : ∀ p ∈ exs, h₀.get? p.1 = none ∧ p.1 ≠ L := fun p hp => by
        refine ⟨?_, fun q => ?_⟩
        · cases r : h₀.get? p.1 with
          | none => rfl
          | some o => exact ((hx' p hp).2.2 o (F.keep _ _ r)).elim
        · obtain ⟨oL, es, ep, hLo, _⟩ := F.ns
          exact (hx' p hp).2.2 oL (by rw [q]; exact hLo)
      refine done h₂ tk₂ mC ys k exs D C hR F₂.ns FB (fun p hp => ?_) (fun p hp o q => ?_) (fun p hp => (hx' p hp).1) zC.1 zC.2 (fun p hp => ?_)
      · rcases List.mem_cons.mp hp with rfl | hp
        · exact ⟨N₂.get (.head _), zD.2, zD.1⟩
        · rcases List.mem_append.mp hp with hp | hp
          · exact ⟨N₂.get (.tail _ (List.mem_append_right _ hp)), (low p hp).2, (low p hp).1⟩
          · exact ⟨N₂.get (.tail _ (List.mem_append_left _ hp)), (N p hp).2⟩
      · rcases List.mem_cons.mp hp with rfl | hp
        · exact absurd (lt q) (by show ¬ D < _; omega)
        · exact (hx' p hp).2.2 o q
      · rcases List.mem_cons.mp hp with rfl | hp
        · exact hDC
        · rcases List.mem_append.mp hp with hp | hp
          · exact (N₂ p (.tail _ (List.mem_append_right _ hp))).2.1
          · exact (N₂ p (.tail _ (List.mem_append_left _ hp))).2.1
  exact codeAny_compStart_list loop (W.self 0 _ _ _ st0 loop)
end

noncomputable def lawBody : List Stmt := match Hd.st 34 with | .FunctionDef (body := b) .. => b | _ => []
noncomputable def lawScope : Scope := match Hd.st 34 with | .FunctionDef (scope := sc) .. => sc | _ => default
noncomputable abbrev lawEnv (L : Addr) : Env := envOfC (Str.ofString "law") lawScope L 458 (.ref 457)
/-- what every step of the law stands on -/
structure Ctx (w : World) (p : Program) (loose : List Str) (mg mb : Str → Option Value) (g : Heap) (A : Around) (L : Addr) : Prop where
  X : (Hd.KK w.params).In g
  T : TopRead p loose mg mb g
  hfr : A.frames = some [lawEnv L]
  hu : A.units + 390 < cLine
  hh : A.handled = none
  room : A.depth + 79 < recursionLimit
/-- the law may end with True, whatever was made -/
noncomputable def Fin' (g : Heap) (s : Shared) (Q : Flow → Shared → Prop) : Prop := ∀ h' tk', (∀ b o, g.get? b = some o → h'.get? b = some o) → Q (.ret (.bool true)) { s with heap := h', toks := tk' }
theorem Fin'.at {g : Heap} {s : Shared} {Q : Flow → Shared → Prop} (R : Fin' g s Q) (h : Heap) (tk : Nat) : Fin' g { s with heap := h, toks := tk } Q := fun h' tk' k => R h' tk' k
structure MsOK (Ms : List Nat) : Prop where
  l1 : 1 ≤ Ms.length
  l2 : Ms.length ≤ 2
  lt : ∀ M ∈ Ms, M < 2 ^ 1002
/-- the elements are the parts of masks -/
noncomputable def DueR (Ms : List Nat) (i : Nat) (v : Value) (ex : List (Addr × Obj)) : Prop := ∃ M S vs e, Ms[i]? = some M ∧ v = .ref S ∧ ex = [(S, listOf vs.toArray e)] ∧ NatsAre vs (pts M)
/-- the line's text -/
noncomputable def lineT (Ms : List Nat) : List Nat := jn [32] (gm :: (dg Ms.length ++ [58]) :: Ms.map spell)
theorem off_of {g h : Heap} {L : Addr} {news l : List (Addr × Obj)} (N : News g L h news) (f : ∀ p ∈ l, ∀ o, h.get? p.1 = some o → False) {q : Addr × Obj} (hq : q ∈ news) {p : Addr × Obj} (hp : p ∈ l) : p.1 ≠ q.1 := fun e => f p hp q.2 (by rw [e]; exact (N q hq).1)
theorem pts3 {M : Nat} (h : M < 2 ^ 1002) : (pts M).length ≤ 3 := pts_len_le 2 (by rw [p5_pow]; exact Nat.lt_trans h (Nat.pow_lt_pow_right (by decide) (by decide)))
theorem pts_dg {M n : Nat} (h : n ∈ pts M) : (dg n).length ≤ 151 := (dg_len (by decide)).mpr (Nat.lt_trans (Nat.lt_succ_of_lt (pts_lt5 M n h)) p5_ten)
noncomputable def Seg1 (w : World) : Prop := ∀ {p : Program} {loose : List Str} {mg mb : Str → Option Value} {g : Heap} {A : Around} {s : Shared} {E : Value → Shared → Prop} {Q : Flow → Shared → Prop} {L : Addr} {m : Str → Option Value}
    {Dm c C : Addr} {mvs cs : List Value} {Ms ns : List Nat} {km turn e1 e2 : Nat} {t : Tok} {oc : Obj}, NatsAre mvs Ms → MsOK Ms → CaskIs cs ns → turn ≤ 60 → oc.data = .cell (some (.ref c)) →
    Fr g L s.heap m → News g L s.heap [(Dm, listOf mvs.toArray km), (c, caskO C turn t e1), (C, listOf cs.toArray e2), (L + 1, oc)] → Ctx w p loose mg mb g A L →
    @Ne Nat c C → (∀ p ∈ [(Dm, listOf mvs.toArray km), (L + 1, oc)], p.1 ≠ c ∧ p.1 ≠ C) → m (Str.ofString "masks") = some (.ref Dm) → Fin' g s Q →
    wpAny (model PySem.Challenge.rw_qd0064_01.row.prog w) A (execs (lawBody.drop 2) (lawEnv L)) Q E s
/-- from statement k on, with nothing but the masks, their parts and the cask -/
noncomputable def SegD (k : Nat) (w : World) : Prop := ∀ {p : Program} {loose : List Str} {mg mb : Str → Option Value} {g : Heap} {A : Around} {s : Shared} {E : Value → Shared → Prop} {Q : Flow → Shared → Prop} {L : Addr} {m : Str → Option Value}
    {Dd Dm c C : Addr} {dvs mvs cs : List Value} {Ms ns : List Nat} {kd km turn e1 e2 : Nat} {t : Tok} {oc : Obj} {exs : List (Addr × Obj)}, NatsAre mvs Ms → MsOK Ms → CaskIs cs ns → turn ≤ 60 → oc.data = .cell (some (.ref c)) → Ran (DueR Ms) Ms.length dvs exs →
    Fr g L s.heap m → News g L s.heap ((Dd, listOf dvs.toArray kd) :: (Dm, listOf mvs.toArray km) :: (c, caskO C turn t e1) :: (C, listOf cs.toArray e2) :: (L + 1, oc) :: exs) → Ctx w p loose mg mb g A L →
    @Ne Nat c C → (∀ p ∈ (Dd, listOf dvs.toArray kd) :: (Dm, listOf mvs.toArray km) :: (L + 1, oc) :: exs, p.1 ≠ c ∧ p.1 ≠ C) → m (Str.ofString "masks") = some (.ref Dm) → m (Str.ofString "dues") = some (.ref Dd) → Fin' g s Q →
    wpAny (model PySem.Challenge.rw_qd0064_01.row.prog w) A (execs (lawBody.drop k) (lawEnv L)) Q E s
/-- with the writer -/
noncomputable def SegW (w : World) : Prop := ∀ {p : Program} {loose : List Str} {mg mb : Str → Option Value} {g : Heap} {A : Around} {s : Shared} {E : Value → Shared → Prop} {Q : Flow → Shared → Prop} {L : Addr} {m : Str → Option Value}
    {Dd Dm c C r rd S : Addr} {dvs mvs cs : List Value} {Ms ns : List Nat} {kd km turn e1 e2 b1 e3 : Nat} {t t1 t2 : Tok} {oc : Obj} {exs : List (Addr × Obj)}, NatsAre mvs Ms → MsOK Ms → CaskIs cs ns → turn ≤ 60 → oc.data = .cell (some (.ref c)) → Ran (DueR Ms) Ms.length dvs exs →
    Fr g L s.heap m → News g L s.heap ((r, instObj 293 rd) :: (rd, wrD w.params S b1) :: (S, listOf #[.str (Str.ofString "head") t1, .str (tx (lineT Ms)) t2] e3) :: (Dd, listOf dvs.toArray kd) :: (Dm, listOf mvs.toArray km) :: (c, caskO C turn t e1) :: (C, listOf cs.toArray e2) :: (L + 1, oc) :: exs) → Ctx w p loose mg mb g A L →
    @Ne Nat c C → (∀ p ∈ (Dd, listOf dvs.toArray kd) :: (Dm, listOf mvs.toArray km) :: (L + 1, oc) :: exs, p.1 ≠ c ∧ p.1 ≠ C) → m (Str.ofString "masks") = some (.ref Dm) → m (Str.ofString "dues") = some (.ref Dd) → m (Str.ofString "writer") = some (.ref r) → Fin' g s Q →
    wpAny (model PySem.Challenge.rw_qd0064_01.row.prog w) A (execs (lawBody.drop 7) (lawEnv L)) Q E s
/-- with the writer and the line -/
noncomputable def SegV (w : World) : Prop := ∀ {p : Program} {loose : List Str} {mg mb : Str → Option Value} {g : Heap} {A : Around} {s : Shared} {E : Value → Shared → Prop} {Q : Flow → Shared → Prop} {L : Addr} {m : Str → Option Value}
    {Dd Dm c C r rd S : Addr} {dvs mvs cs : List Value} {Ms ns : List Nat} {kd km turn e1 e2 b1 e3 : Nat} {t t1 t2 t3 : Tok} {oc : Obj} {exs : List (Addr × Obj)}, NatsAre mvs Ms → MsOK Ms → CaskIs cs ns → turn ≤ 60 → oc.data = .cell (some (.ref c)) → Ran (DueR Ms) Ms.length dvs exs →
    Fr g L s.heap m → News g L s.heap ((r, instObj 293 rd) :: (rd, wrD w.params S b1) :: (S, listOf #[.str (Str.ofString "head") t1, .str (tx (lineT Ms)) t2] e3) :: (Dd, listOf dvs.toArray kd) :: (Dm, listOf mvs.toArray km) :: (c, caskO C turn t e1) :: (C, listOf cs.toArray e2) :: (L + 1, oc) :: exs) → Ctx w p loose mg mb g A L →
    @Ne Nat c C → (∀ p ∈ (Dd, listOf dvs.toArray kd) :: (Dm, listOf mvs.toArray km) :: (L + 1, oc) :: exs, p.1 ≠ c ∧ p.1 ≠ C) → m (Str.ofString "masks") = some (.ref Dm) → m (Str.ofString "dues") = some (.ref Dd) → m (Str.ofString "writer") = some (.ref r) → m (Str.ofString "line") = some (.str (tx (lineT Ms)) t3) → Fin' g s Q →
    wpAny (model PySem.Challenge.rw_qd0064_01.row.prog w) A (execs (lawBody.drop 8) (lawEnv L)) Q E s
/-- with the line -/
noncomputable def SegL (w : World) : Prop := ∀ {p : Program} {loose : List Str} {mg mb : Str → Option Value} {g : Heap} {A : Around} {s : Shared} {E : Value → Shared → Prop} {Q : Flow → Shared → Prop} {L : Addr} {m : Str → Option Value}
    {Dd Dm c C : Addr} {dvs mvs cs : List Value} {Ms ns : List Nat} {kd km turn e1 e2 : Nat} {t t3 : Tok} {oc : Obj} {exs : List (Addr × Obj)}, NatsAre mvs Ms → MsOK Ms → CaskIs cs ns → turn ≤ 60 → oc.data = .cell (some (.ref c)) → Ran (DueR Ms) Ms.length dvs exs →
    Fr g L s.heap m → News g L s.heap ((Dd, listOf dvs.toArray kd) :: (Dm, listOf mvs.toArray km) :: (c, caskO C turn t e1) :: (C, listOf cs.toArray e2) :: (L + 1, oc) :: exs) → Ctx w p loose mg mb g A L →
    @Ne Nat c C → (∀ p ∈ (Dd, listOf dvs.toArray kd) :: (Dm, listOf mvs.toArray km) :: (L + 1, oc) :: exs, p.1 ≠ c ∧ p.1 ≠ C) → m (Str.ofString "masks") = some (.ref Dm) → m (Str.ofString "dues") = some (.ref Dd) → m (Str.ofString "line") = some (.str (tx (lineT Ms)) t3) → Fin' g s Q →
    wpAny (model PySem.Challenge.rw_qd0064_01.row.prog w) A (execs (lawBody.drop 9) (lawEnv L)) Q E s
/-- with the spot -/
noncomputable def SegS (w : World) : Prop := ∀ {p : Program} {loose : List Str} {mg mb : Str → Option Value} {g : Heap} {A : Around} {s : Shared} {E : Value → Shared → Prop} {Q : Flow → Shared → Prop} {L : Addr} {m : Str → Option Value}
    {Dd Dm c C : Addr} {dvs mvs cs : List Value} {Ms ns : List Nat} {kd km turn e1 e2 r : Nat} {t t3 : Tok} {oc : Obj} {exs : List (Addr × Obj)}, NatsAre mvs Ms → MsOK Ms → CaskIs cs ns → turn ≤ 61 → oc.data = .cell (some (.ref c)) → Ran (DueR Ms) Ms.length dvs exs → r < Ms.length →
    Fr g L s.heap m → News g L s.heap ((Dd, listOf dvs.toArray kd) :: (Dm, listOf mvs.toArray km) :: (c, caskO C turn t e1) :: (C, listOf cs.toArray e2) :: (L + 1, oc) :: exs) → Ctx w p loose mg mb g A L →
    @Ne Nat c C → (∀ p ∈ (Dd, listOf dvs.toArray kd) :: (Dm, listOf mvs.toArray km) :: (L + 1, oc) :: exs, p.1 ≠ c ∧ p.1 ≠ C) → m (Str.ofString "masks") = some (.ref Dm) → m (Str.ofString "dues") = some (.ref Dd) → m (Str.ofString "spot") = some (.int (r : Nat) t3) → Fin' g s Q →
    wpAny (model PySem.Challenge.rw_qd0064_01.row.prog w) A (execs (lawBody.drop 11) (lawEnv L)) Q E s
local macro_rules | `(tactic| tb_start) => `(tactic| (with_reducible show wpAny _ _ (execs (_ :: _) _) _ _ _))
theorem one_cast (r : Nat) : (1 : Int) + (r : Int) = ((1 + r : Nat) : Int) := by omega

open PySem.SeqAt (shaped noMix noMixAll)
theorem readsAll_of {h : Heap} : ∀ {vs : List Value} {ds : List PyData}, vs.length = ds.length → (∀ (i : Nat) v d, vs[i]? = some v → ds[i]? = some d → Reads h v d []) → ReadsAll h vs ds []
  | [], [], _, _ => .nil
  | v :: vs, d :: ds, hl, f => ReadsAll.cons (as := []) (bs := []) (f 0 v d rfl rfl) (readsAll_of (by simpa using hl) fun i v' d' h1 h2 => f (i + 1) v' d' (by simpa using h1) (by simpa using h2))
theorem ran_reads {h g : Heap} {L : Addr} {Ms : List Nat} {vs : List Value} {exs : List (Addr × Obj)} (hR : Ran (MaskR Ms) Ms.length vs exs) (N : News g L h exs) : ReadsAll h vs (Ms.map maskD) [] := by
  refine readsAll_of (by rw [hR.len, List.length_map]) fun i v d h1 h2 => ?_
  obtain ⟨ex, ⟨M, hM, hi⟩, hx⟩ := hR.at i v h1
  rw [List.getElem?_map, hM] at h2
  have e : maskD M = d := by simpa using h2
  rw [← e]
  exact hi.reads (news_sub N hx)
theorem canLayAll_of : ∀ ds : List PyData, (∀ d ∈ ds, d.canLay0 = true) → PyData.canLayAll0 ds = true
  | [], _ => by simp only [PyData.canLayAll0]
  | d :: ds, h => by
    simp only [PyData.canLayAll0, Bool.and_eq_true]
    exact ⟨h d (.head _), canLayAll_of ds fun x hx => h x (.tail _ hx)⟩
theorem depthAll_le {k : Nat} : ∀ ds : List PyData, (∀ d ∈ ds, d.depth ≤ k) → PyData.depthAll ds ≤ k
  | [], _ => by simp only [PyData.depthAll]; omega
  | d :: ds, h => by
    have h1 := h d (.head _)
    have h2 := depthAll_le ds fun x hx => h x (.tail _ hx)
    simp only [PyData.depthAll]
    omega
theorem depth_mask (M : Nat) : (maskD M).depth ≤ 2 := by
  unfold maskD; split
  · simp only [PyData.depth]; omega
  · have h1 := PySem.W.depthAll_ints ((pts M).map fun n : Nat => (n : Int))
    simp only [PyData.depth]; omega
theorem shaped_list {ds : List PyData} (h : ∀ d ∈ ds, d.canLay0 = true ∧ d.depth ≤ 3) : shaped (.list ds) = true := by
  have h1 := canLayAll_of ds fun d hd => (h d hd).1
  have h2 := depthAll_le (k := 3) ds fun d hd => (h d hd).2
  have h3 : PyData.depth (.list ds) ≤ 64 := by simp only [PyData.depth]; omega
  show (PyData.canLay0 (.list ds) && decide (PyData.depth (.list ds) ≤ 64)) = true
  rw [Bool.and_eq_true]
  exact ⟨by simp only [PyData.canLay0]; exact h1, decide_eq_true h3⟩
theorem shaped_masks (Ms : List Nat) : shaped (.list (Ms.map maskD)) = true := shaped_list fun d hd => by
  obtain ⟨M, _, rfl⟩ := List.mem_map.mp hd
  have := depth_mask M
  exact ⟨PySem.SeqAt.canLay_of_shaped (shaped_mask M), by omega⟩
theorem ne_same {prog : Program} {w : World} {A : Around} {E : Value → Shared → Prop} {s : Shared} {a b : Value} {d : PyData} {as bs : List Addr} {Q : Value → Shared → Prop} (ra : Reads s.heap a d as) (rb : Reads s.heap b d bs) (hd : shaped d = true) (hu : A.units + 64 < cLine) (h : Q (.bool false) s) :
    wpAny (model prog w) A (compareOp .NotEq a b) Q E s :=
  ne_dataH ra rb hd hd hu (by rw [PySem.SeqAt.eqv_refl d (PySem.SeqAt.canLay_of_shaped hd)]; exact h)
theorem ne_masks {prog : Program} {w : World} {A : Around} {E : Value → Shared → Prop} {s : Shared} {g : Heap} {L a b : Addr} {news ex1 ex2 : List (Addr × Obj)} {vs ws : List Value} {Ms : List Nat} {k1 k2 : Nat} {Q : Value → Shared → Prop} (N : News g L s.heap news) (ha : (a, listOf vs.toArray k1) ∈ news) (hb : (b, listOf ws.toArray k2) ∈ news)
    (h1 : Ran (MaskR Ms) Ms.length vs ex1) (h2 : Ran (MaskR Ms) Ms.length ws ex2) (x1 : ∀ p ∈ ex1, p ∈ news) (x2 : ∀ p ∈ ex2, p ∈ news) (hu : A.units + 64 < cLine) (h : Q (.bool false) s) :
    wpAny (model prog w) A (compareOp .NotEq (.ref a) (.ref b)) Q E s :=
  ne_same (Reads.list (N.get ha) rfl rfl (by simpa using ran_reads h1 (news_sub N x1))) (Reads.list (N.get hb) rfl rfl (by simpa using ran_reads h2 (news_sub N x2))) (shaped_masks Ms) hu h

section
variable {w : World} {p : Program} {loose : List Str} {mg mb : Str → Option Value} {g : Heap} {A : Around} {s : Shared} {E : Value → Shared → Prop} {Q : Flow → Shared → Prop} {L : Addr} {m : Str → Option Value}
set_option pp.deepTerms false in
set_option maxHeartbeats 8000000 in
theorem seg0 {S0 : Addr} {vs : List Value} {zs : List Int} {o : Obj} (hl : g.IsList S0 vs.toArray) (hi : IntsAre vs zs) (hlen : zs.length ≤ 63) (hd : o.data = .cell none) (hs : m (Str.ofString "script") = some (.ref S0))
    (F : Fr g L s.heap m) (N : News g L s.heap [(L + 1, o)]) (K : Ctx w p loose mg mb g A L) (seg1 : Seg1 w) (ret : Fin' g s Q) :
    wpAny (model PySem.Challenge.rw_qd0064_01.row.prog w) A (execs lawBody (lawEnv L)) Q E s := by
  obtain ⟨X, T, hfr, hu, hh, room⟩ := id K
  refine wpAny_execs_cons ?_
  walk_at "mk_go"
  refine cask_ok hl hi hlen F N X T ?_ ?_ ?_ ?_
  · walk_at "mk_units"
  · walk_at "mk_hh"
  · walk_at "mk_room"
  intro h1 tk1 c C t cs ns e1 e2 hc1 hc2 hc3 F1 N1 ha hne
  clear F N
  have a1 := ha _ (.head _)
  clear ha
  have hk : CaskIs cs ns := ⟨hc1, hc2, hc3⟩
  have n1 : @Ne Nat c (L + 1) := Ne.symm a1.2
  have n2 : @Ne Nat C (L + 1) := Ne.symm a1.1
  walk_at "mk_go"
  refine wpAny_execs_cons ?_
  refine comp_assign (cl := [(Str.ofString "cask", L + 1)]) (by with_unfolding_all rfl) (by with_unfolding_all rfl) (by rfl) (by decide) ?_
  (with_reducible rename Fr _ _ _ _ => FF); (with_reducible rename News _ _ _ _ => NN)
  try dsimp only [List.cons_append, List.nil_append] at NN
  walk_at "mk_go"
  (with_reducible rename IsRange _ _ _ _ _ _ _ _ => R1); (with_reducible rename Fr _ _ _ _ => FF); (with_reducible rename News _ _ _ _ => NN); (with_reducible rename ((_ : Nat) : Int) < 2 => hr2); (with_reducible rename CaskIs _ _ => hk2)
  obtain ⟨oc, hoc, NN⟩ : ∃ oc : Obj, oc.data = .cell (some (.ref c)) ∧ News g L _ [(c, caskO C (0 + 1) _ _), (C, listOf _ _), (L + 1, oc)] := ⟨_, by assumption, NN⟩
  rw [one_cast] at R1
  refine comp_range (fun i ys nw => ∃ (Ms : List Nat) (turn' : Nat) (t' : Tok) (e1' e2' : Nat) (cs' : List Value) (ns' : List Nat), NatsAre ys Ms ∧ Ms.length = i ∧ (∀ M ∈ Ms, M < 2 ^ 1002) ∧ turn' ≤ 1 + 20 * i ∧ CaskIs cs' ns' ∧ nw = [(c, caskO C turn' t' e1'), (C, listOf cs'.toArray e2'), (L + 1, oc)])
    (by walk_at "mk_hh") R1 (small_one (by omega)) (size_one _) (by rw [sizeLine_eq]; omega) FF NN ⟨[], 1, _, _, _, _, _, .nil, rfl, (fun _ h => nomatch h), by omega, hk2, rfl⟩ (by decide) (by rfl) (by rfl) ?_ ?_
  · clear FF NN R1
    rintro i t5 ys k nw h2 tk2 I o2 C2 D mC g2 hi2 hlen2 ⟨Ms, turn', t', e1', e2', cs', ns', hys, hml, hMs, ht', hk', rfl⟩ hn1 hn2 hk3 F2 N2
    have X2 := X.keeps hk3
    have T2 := T.keeps hk3
    clear X T
    have d1 : @Ne Nat c D := (hn1 _ (.head _)).1
    have d2 : @Ne Nat C D := (hn1 _ (.tail _ (.head _))).1
    have d3 : @Ne Nat (L + 1) D := (hn1 _ (.tail _ (.tail _ (.head _)))).1
    have d4 : @Ne Nat c I := (hn1 _ (.head _)).2
    have d5 : @Ne Nat C I := (hn1 _ (.tail _ (.head _))).2
    have d6 : @Ne Nat (L + 1) I := (hn1 _ (.tail _ (.tail _ (.head _)))).2
    have d7 : @Ne Nat I D := hn2
    clear hn1
    dsimp only [List.cons_append, List.nil_append] at N2 ⊢
    walk_at "mk_go"
    refine' lmask_ok (tm := 0) hk' ?ht F2 N2 X2 T2 ?hc ?hC ?U ?U2 ?ne ?hu ?hh ?room ?_
    (case hc => k_dflt k_mem); (case hC => k_dflt k_mem); (case ht => omega); (case U => k_dflt k_updF); (case U2 => intro x; k_dflt k_updF); (case ne => exact hne); (case hu => walk_at "mk_units"); (case hh => walk_at "mk_hh"); (case room => walk_at "mk_room")
    intro h3 tk3 t3 M turn3 cs3 ns3 t4 e3 e4 hM ht3 hk4 F3 N3
    refine CStep.intro (own := [(I, o2)]) F3 N3 (fun p hp => ?_) ⟨Ms ++ [M], turn3, t4, e3, e4, cs3, ns3, nats_snoc hys, by simp [hml], (fun M' h => ?_), by omega, hk4, rfl⟩
    · have q : p.1 ≠ D ∧ p.1 ≠ I := by
        rcases List.mem_cons.mp hp with rfl | hp
        · exact ⟨d1, d4⟩
        · rcases List.mem_cons.mp hp with rfl | hp
          · exact ⟨d2, d5⟩
          · rw [List.mem_singleton.mp hp]; exact ⟨d3, d6⟩
      exact ⟨q.1, fun z hz => by rw [List.mem_singleton.mp hz]; exact q.2⟩
    · rcases List.mem_append.mp h with h | h
      · exact hMs M' h
      · rw [List.mem_singleton.mp h]; exact hM
  · clear FF NN R1
    rintro h2 tk2 mC ys k nw D C2 ⟨Ms, turn', t', e1', e2', cs', ns', hys, hml, hMs, ht', hk', rfl⟩ hlen2 hn2 F2 N2 f1 hC0 hCL hC
    refine' post_asgS ?pa ?pb ?pc ?pd ?pe ?pf ?pg ?ph ?_
    (case pa => rfl)
    (case pb => rfl)
    (case pc => exact hn2)
    (case pd => exact F2)
    (case pe => exact N2)
    (case pf => exact hC0)
    (case pg => exact hCL)
    (case ph => exact hC)
    intro h3 tk3 F3 N3
    clear F2 N2
    dsimp only
    refine seg1 (turn := turn') hys ⟨by omega, by omega, hMs⟩ hk' (by omega) hoc F3 (news_sub N3 fun p hp => by simpa using hp) K hne (fun p hp => ?_) (by walk_at "mk_look") (ret.at _ _)
    rcases List.mem_cons.mp hp with rfl | hp
    · exact ⟨Ne.symm (f1 _ (.head _)), Ne.symm (f1 _ (.tail _ (.head _)))⟩
    · rw [List.mem_singleton.mp hp]; exact ⟨Ne.symm n1, Ne.symm n2⟩
end

section
variable {w : World}
set_option pp.deepTerms false in
set_option maxHeartbeats 8000000 in
theorem seg1 (sd : SegD 3 w) : Seg1 w := by
  intro p loose mg mb g A s E Q L m Dm c C mvs cs Ms ns km turn e1 e2 t oc hm hM hk ht hoc F N K hne hoff hm1 ret
  obtain ⟨X, T, hfr, hu, hh, room⟩ := id K
  have hl1 := hM.l1
  have hl2 := hM.l2
  have hml : mvs.length = Ms.length := hm.len
  refine wpAny_execs_cons ?_
  refine comp_assign (cl := []) (by with_unfolding_all rfl) (by with_unfolding_all rfl) (by rfl) (by decide) ?_
  walk_at "mk_go"
  refine comp_led (DueR Ms) (by walk_at "mk_hh") (.head _) (by rw [sizeLine_eq]; omega) F N (by decide) rfl (by rfl) ?_ ?_
  · intro i v h2 tk2 C2 mC g2 whole hv hk3 hw F2 N2
    obtain ⟨M, tM, hMi, rfl⟩ := nats_at hm hv
    have X2 := X.keeps hk3
    have T2 := T.keeps hk3
    clear X T F N
    try dsimp only
    walk_at "mk_go"
    refine lparts_ok (hM.lt M (List.mem_of_getElem? hMi)) F2 N2 X2 T2 ?_ ?_ ?_ ?_
    · walk_at "mk_units"
    · walk_at "mk_hh"
    · walk_at "mk_room"
    intro h3 tk3 S vs e F3 N3 N4 fx hvs
    exact MStep.intro F3 N3 N4 (fun p hp o q => by rw [List.mem_singleton.mp hp] at q; exact fx o q) ⟨M, S, vs, e, hMi, rfl, rfl, hvs⟩
  · intro h2 tk2 mC ys k exs D C2 hR hn2 F2 N2 fD fxD hC0 hCL hC
    have o1 : ∀ p ∈ (D, listOf ys.toArray k) :: exs, p.1 ≠ c ∧ p.1 ≠ C := fun p hp => ⟨off_of N fD (.tail _ (.head _)) hp, off_of N fD (.tail _ (.tail _ (.head _))) hp⟩
    clear F N
    refine' post_asgS ?pa ?pb ?pc ?pd ?pe ?pf ?pg ?ph ?_
    (case pa => rfl)
    (case pb => rfl)
    (case pc => exact hn2)
    (case pd => exact F2)
    (case pe => exact N2)
    (case pf => exact hC0)
    (case pg => exact hCL)
    (case ph => exact hC)
    intro h3 tk3 F3 N3
    clear F2 N2
    try dsimp only
    rw [hml] at hR
    have N4 : News g L h3 ((D, listOf ys.toArray k) :: (Dm, listOf mvs.toArray km) :: (c, caskO C turn t e1) :: (C, listOf cs.toArray e2) :: (L + 1, oc) :: exs) := news_sub N3 fun p hp => by
      rcases List.mem_cons.mp hp with rfl | hp
      · exact .head _
      · refine .tail _ (List.mem_append.mpr ?_)
        rcases List.mem_cons.mp hp with rfl | hp
        · exact .inr (.head _)
        · rcases List.mem_cons.mp hp with rfl | hp
          · exact .inr (.tail _ (.head _))
          · rcases List.mem_cons.mp hp with rfl | hp
            · exact .inr (.tail _ (.tail _ (.head _)))
            · rcases List.mem_cons.mp hp with rfl | hp
              · exact .inr (.tail _ (.tail _ (.tail _ (.head _))))
              · exact .inl hp
    refine sd hm hM hk ht hoc hR F3 N4 K hne (fun p hp => ?_) (by walk_at "mk_look") (by walk_at "mk_look") (ret.at _ _)
    · rcases List.mem_cons.mp hp with rfl | hp
      · exact o1 _ (.head _)
      · rcases List.mem_cons.mp hp with rfl | hp
        · exact hoff _ (.head _)
        · rcases List.mem_cons.mp hp with rfl | hp
          · exact hoff _ (.tail _ (.head _))
          · exact o1 _ (.tail _ hp)
end

theorem tuple_mk2 {prog : Program} {w : World} {A : Around} {E : Value → Shared → Prop} {s : Shared} {h₀ : Heap} {L S : Addr} {m : Str → Option Value} {news : List (Addr × Obj)} {items : Array Value} {e : Nat} {Q : Value → Shared → Prop} (F : Fr h₀ L s.heap m) (N : News h₀ L s.heap news) (hm : (S, listOf items e) ∈ news) (hsz : items.size ≤ sizeLine)
    (h : ∀ h' T, Fr h₀ L h' m → News h₀ L h' ((T, tupO items) :: news) → (∀ o, s.heap.get? T = some o → False) → Q (.ref T) { s with heap := h' }) : wpAny (model prog w) A (call (.type "tuple") [.ref S]) Q E s := by
  refine call_tuple_list (items := items) ⟨_, N.get hm, rfl, e, rfl⟩ (fun h' hk => ?_) hsz
  obtain ⟨F', N'⟩ := use0 F N (h' := h') (fun b o _ q => hk b o q)
  exact h _ _ (F'.push _) (N'.push F' _) (fun o q => absurd (Heap.lt_size (hk _ _ q)) (Nat.lt_irrefl _))
section
variable {w : World}
local macro_rules | `(tactic| tb_start) => `(tactic| (with_reducible show wpAny _ _ (compareOp CmpOp.NotEq (Value.ref _) (Value.ref _)) _ _ _))
set_option pp.deepTerms false in
set_option maxHeartbeats 8000000 in
theorem seg3 (sd : SegD 4 w) : SegD 3 w := by
  intro p loose mg mb g A s E Q L m Dd Dm c C dvs mvs cs Ms ns kd km turn e1 e2 t oc exs hm hM hk ht hoc hdR F N K hne hoff hm1 hm2 ret
  obtain ⟨X, T, hfr, hu, hh, room⟩ := id K
  have hl1 := hM.l1
  have hl2 := hM.l2
  have hml : mvs.length = Ms.length := hm.len
  have hdl : dvs.length = Ms.length := hdR.len
  refine wpAny_execs_cons ?_
  walk_at "mk_go"
  refine comp_eval (cl := []) (by rfl) (by rfl) (by decide) ?_
  walk_at "mk_go"
  refine comp_led (MaskR Ms) (by walk_at "mk_hh") (.tail _ (.head _)) (by rw [sizeLine_eq]; omega) F N (by decide) rfl (by rfl) ?_ ?_
  · intro i v h2 tk2 C2 mC g2 whole hv hk3 hw F2 N2
    obtain ⟨M, tM, hMi, rfl⟩ := nats_at hm hv
    have hpl := pts3 (hM.lt M (List.mem_of_getElem? hMi))
    have X2 := X.keeps hk3
    have T2 := T.keeps hk3
    clear X T F N
    try dsimp only
    walk_at "mk_go"
    refine mask_item_ok (by omega) F2 N2 X2 T2 ?_ ?_ ?_
    · walk_at "mk_units"
    · walk_at "mk_room"
    intro h3 tk3 v3 ex3 F3 N3 N4 fx hi
    exact MStep.intro F3 N3 N4 fx ⟨M, hMi, hi⟩
  · intro h2 tk2 mC ys k ex1 D1 C2 hR1 hn2 F2 N2 fD1 fxD1 hC0 hCL hC
    clear F N
    refine post_none hn2 F2 N2 hC0 hCL hC ?_
    intro h3 tk3 F3 N3
    clear F2 N2
    try dsimp only
    walk_at "mk_go"
    refine comp_eval (cl := []) (by rfl) (by rfl) (by decide) ?_
    walk_at "mk_go"
    have hml2 : Ran (MaskR Ms) Ms.length ys ex1 := hml ▸ hR1
    refine comp_led (MaskR Ms) (by walk_at "mk_hh") (.tail _ (List.mem_append_right _ (.head _))) (by rw [sizeLine_eq]; omega) F3 N3 (by decide) rfl (by rfl) ?_ ?_
    · intro i v h4 tk4 C4 mC4 g4 whole hv hk4 hw F4 N4
      obtain ⟨ex, ⟨M, S, vs, e, hMi, rfl, rfl, hvs⟩, hsub⟩ := hdR.at i v hv
      have hpl := pts3 (hM.lt M (List.mem_of_getElem? hMi))
      have hvl : vs.length = (pts M).length := hvs.len
      have X4 := X.keeps hk4
      have T4 := T.keeps hk4
      have hSw : (S, listOf vs.toArray e) ∈ whole := hw _ (.tail _ (List.mem_append_right _ (.tail _ (.tail _ (.tail _ (.tail _ (.tail _ (hsub _ (.head _)))))))))
      have N5 := news_add N4 hSw
      clear X T F3 N3 N4
      try dsimp only
      by_cases h1 : M < P5
      · have e2 := pts_lt h1
        rw [e2] at hvs
        have hl1 : vs.length = 1 := by rw [hvl, e2]; rfl
        have hl3 : (((vs.length : Nat) : Int) == 1) = true := by rw [hl1]; rfl
        (repeat' ((fail_if_success tb_start); first | ((first | ((with_reducible show wpAny _ _ (subscriptTail _ _ (Value.ref _) (Value.int 0 _)) _ _ _); refine sub_first (by k_asm) (by k_dflt k_mem) (by with_reducible assumption) (by omega) ?_; intros) | ((with_reducible show wpAny _ _ (call (Value.builtin "len") [Value.ref _]) _ _ _); refine len_led (by k_asm) (by k_dflt k_mem) (by first | omega | decide) ?_) | tb_rel); (try dsimp only)) | walk_at "mk_tail" | (walk_at "mk_dl"; first | ((first | ((with_reducible show wpAny _ _ (subscriptTail _ _ (Value.ref _) (Value.int 0 _)) _ _ _); refine sub_first (by k_asm) (by k_dflt k_mem) (by with_reducible assumption) (by omega) ?_; intros) | ((with_reducible show wpAny _ _ (call (Value.builtin "len") [Value.ref _]) _ _ _); refine len_led (by k_asm) (by k_dflt k_mem) (by first | omega | decide) ?_) | tb_rel); (try dsimp only)) | walk1) | (walk_at "mk_late"; (try dsimp only))))
        (with_reducible rename Fr _ _ _ _ => FF); (with_reducible rename News _ _ _ _ => NN)
        exact MStep.plain FF (news_sub NN fun p hp => .tail _ hp) ⟨M, hMi, .inl ⟨h1, ⟨_, rfl⟩, rfl⟩⟩
      · have hl1 : vs.length ≠ 1 := fun q => h1 (pts_one (by rw [← hvl]; exact q))
        have hl3 : (((vs.length : Nat) : Int) == 1) = false := by rw [beq_eq_false_iff_ne]; omega
        (repeat' ((fail_if_success tb_start); first | ((first | ((with_reducible show wpAny _ _ (call (Value.type "tuple") [Value.ref _]) _ _ _); refine tuple_mk2 (by k_asm) (by k_asm) (by k_dflt k_mem) (by (rw [List.size_toArray, sizeLine_eq]; omega)) ?_; intros) | ((with_reducible show wpAny _ _ (call (Value.builtin "len") [Value.ref _]) _ _ _); refine len_led (by k_asm) (by k_dflt k_mem) (by first | omega | decide) ?_) | tb_rel); (try dsimp only)) | walk_at "mk_tail" | (walk_at "mk_dl"; first | ((first | ((with_reducible show wpAny _ _ (call (Value.type "tuple") [Value.ref _]) _ _ _); refine tuple_mk2 (by k_asm) (by k_asm) (by k_dflt k_mem) (by (rw [List.size_toArray, sizeLine_eq]; omega)) ?_; intros) | ((with_reducible show wpAny _ _ (call (Value.builtin "len") [Value.ref _]) _ _ _); refine len_led (by k_asm) (by k_dflt k_mem) (by first | omega | decide) ?_) | tb_rel); (try dsimp only)) | walk1) | (walk_at "mk_late"; (try dsimp only))))
        (with_reducible rename Fr _ _ _ _ => FF); (with_reducible rename News _ _ _ _ => NN); (with_reducible rename ∀ o, Heap.get? _ _ = some o → False => fT)
        refine MStep.intro FF (news_sub NN fun p hp => .tail _ (.tail _ hp)) (news_sub NN (b := [_]) fun p hp => by rw [List.mem_singleton.mp hp]; exact .head _) (fun p hp o q => ?_) ⟨M, hMi, .inr ⟨h1, _, vs, rfl, rfl, hvs⟩⟩
        rw [List.mem_singleton.mp hp] at q
        exact fT o q
    · intro h4 tk4 mC4 zs k4 ex2 D2 C4 hR2 hn4 F4 N4 fD2 fxD2 hC02 hCL2 hC22
      clear F3 N3
      refine post_none hn4 F4 N4 hC02 hCL2 hC22 ?_
      intro h5 tk5 F5 N5
      clear F4 N4
      try dsimp only
      walk_at "mk_go"
      have hR2' : Ran (MaskR Ms) Ms.length zs ex2 := hdl ▸ hR2
      refine ne_masks N5 (.tail _ (List.mem_append_right _ (.head _))) (.head _) hml2 hR2' (fun p hp => .tail _ (List.mem_append_right _ (.tail _ (List.mem_append_left _ hp)))) (fun p hp => .tail _ (List.mem_append_left _ hp)) (by walk_at "mk_units") ?_
      walk_at "mk_go"
      exact sd hm hM hk ht hoc hdR F5 (news_sub N5 fun p hp => .tail _ (List.mem_append_right _ (.tail _ (List.mem_append_right _ hp)))) K hne hoff hm1 hm2 (ret.at _ _)
end

theorem due_lists {Ms : List Nat} : ∀ {n : Nat} {dvs : List Value} {exs : List (Addr × Obj)}, Ran (DueR Ms) n dvs exs → ∃ vss : List (List Value), vss.length = n ∧ (∀ (i : Nat) u, dvs[i]? = some u → ∃ S ws e, u = Value.ref S ∧ vss[i]? = some ws ∧ (S, listOf ws.toArray e) ∈ exs) ∧ (∀ ws ∈ vss, ∃ M ∈ Ms, NatsAre ws (pts M)) := by
  intro n dvs exs hr
  induction hr with
  | nil => exact ⟨[], rfl, (fun i u h => by cases h), (fun _ h => nomatch h)⟩
  | @snoc n vs exs v ex a b ih =>
    obtain ⟨vss, h1, h2, h3⟩ := ih
    obtain ⟨M, S, ws, e, hM, rfl, rfl, hws⟩ := b
    have hl := a.len
    refine ⟨vss ++ [ws], by simp [h1], fun i u h => ?_, fun x hx => ?_⟩
    · by_cases hi : i < vs.length
      · rw [List.getElem?_append_left hi] at h
        obtain ⟨S', ws', e', q1, q2, q3⟩ := h2 i u h
        exact ⟨S', ws', e', q1, by rw [List.getElem?_append_left (by omega)]; exact q2, List.mem_append_left _ q3⟩
      · have hi2 : i = vs.length := by
          have := (List.getElem?_eq_some_iff.mp h).1
          rw [List.length_append, List.length_singleton] at this
          omega
        subst hi2
        rw [List.getElem?_append_right (Nat.le_refl _), Nat.sub_self] at h
        simp at h
        exact ⟨S, ws, e, h.symm, by rw [List.getElem?_append_right (by omega), show vs.length - vss.length = 0 by omega]; rfl, List.mem_append_right _ (.head _)⟩
    · rcases List.mem_append.mp hx with hx | hx
      · exact h3 x hx
      · rw [List.mem_singleton.mp hx]; exact ⟨M, List.mem_of_getElem? hM, hws⟩
theorem flat_len : ∀ {vss : List (List Value)}, (∀ ws ∈ vss, 1 ≤ ws.length ∧ ws.length ≤ 3) → vss.length ≤ vss.flatten.length ∧ vss.flatten.length ≤ 3 * vss.length
  | [], _ => ⟨Nat.le_refl _, Nat.le_refl _⟩
  | ws :: vss, h => by
    have h1 := h ws (.head _)
    have h2 := flat_len fun x hx => h x (.tail _ hx)
    rw [List.flatten_cons, List.length_append, List.length_cons]
    omega
theorem nats_mem : ∀ {vs : List Value} {ns : List Nat} {v : Value}, NatsAre vs ns → v ∈ vs → ∃ n t, n ∈ ns ∧ v = .int (n : Int) t := fun {vs ns v} h hv => by
  obtain ⟨i, hi, rfl⟩ := List.getElem_of_mem hv
  obtain ⟨n, t, hn, e⟩ := nats_at h (List.getElem?_eq_getElem hi)
  exact ⟨n, t, List.mem_of_getElem? hn, e⟩
noncomputable def LenR (_v u : Value) : Prop := ∃ (z : Int) (t : Tok), u = .int z t ∧ z ≤ 160
theorem lens_of {vs ys : List Value} (h : Paired LenR vs ys) : ∃ zs : List Int, IntsAre ys zs ∧ zs.length = vs.length ∧ ∀ z ∈ zs, z ≤ 160 := by
  induction h with
  | nil => exact ⟨[], .nil, rfl, fun _ h => nomatch h⟩
  | cons a _ ih =>
    obtain ⟨zs, h1, h2, h3⟩ := ih
    obtain ⟨z, t, rfl, hz⟩ := a
    refine ⟨z :: zs, .cons _ _ h1, by simp [h2], fun x hx => ?_⟩
    rcases List.mem_cons.mp hx with rfl | hx
    · exact hz
    · exact h3 x hx
section
variable {w : World}
local macro_rules | `(tactic| tb_start) => `(tactic| (with_reducible show wpAny _ _ (call (Value.builtin "max") [Value.ref _]) _ _ _))
set_option pp.deepTerms false in
set_option maxHeartbeats 8000000 in
theorem seg4 (sd : SegD 5 w) : SegD 4 w := by
  intro p loose mg mb g A s E Q L m Dd Dm c C dvs mvs cs Ms ns kd km turn e1 e2 t oc exs hm hM hk ht hoc hdR F N K hne hoff hm1 hm2 ret
  obtain ⟨X, T, hfr, hu, hh, room⟩ := id K
  have hl1 := hM.l1
  have hl2 := hM.l2
  have hdl : dvs.length = Ms.length := hdR.len
  obtain ⟨vss, v1, v2, v3⟩ := due_lists hdR
  have hfl := flat_len (vss := vss) fun ws hw => by
    obtain ⟨M, hMm, hws⟩ := v3 ws hw
    have h1 := List.length_pos_iff.mpr (pts_ne M)
    have h2 := pts3 (hM.lt M hMm)
    rw [hws.len]
    omega
  refine wpAny_execs_cons ?_
  walk_at "mk_go"
  refine comp_evalG (cl := []) (by rfl) (by rfl) (by decide) ?_
  walk_at "mk_go"
  refine comp_nest LenR (by walk_at "mk_hh") (list_at N (.head _)) (by rw [hdl, v1]) (fun i u hu => ?_) (by rw [sizeLine_eq]; omega) F N (by decide) rfl (by rfl) (by rfl) (by decide) ?_ ?_
  · obtain ⟨S, ws, e, q1, q2, q3⟩ := v2 i u hu
    exact ⟨S, ws, q1, q2, list_at N (.tail _ (.tail _ (.tail _ (.tail _ (.tail _ q3)))))⟩
  · rintro v h2 tk2 C2 m₂ ⟨ws, hws, hv⟩ F2
    obtain ⟨M, hMm, hn⟩ := v3 ws hws
    obtain ⟨n, tn, hnm, rfl⟩ := nats_mem hn hv
    have hd1 := pts_dg hnm
    have hd2 : (dg n).length ≤ 160 := by omega
    have X2 := X.keeps F.keep
    have T2 := T.keeps F.keep
    clear X T F N
    try dsimp only
    refine wpAny_mono (Q := fun u s₂ => Opq (LenR (.int (n : Nat) tn) u ∧ ∃ tk', s₂ = { s with heap := h2, toks := tk' })) ?_ (fun _ _ h => h) (fun _ _ h => h)
    (repeat' ((fail_if_success tb_start); first | ((first | ((with_reducible show wpAny _ _ (call (Value.type "str") [Value.int (Nat.cast _) _]) _ _ _); refine str_nat (by with_reducible assumption) ?_) | ((with_reducible show wpAny _ _ (call (Value.builtin "len") [Value.str _ _]) _ _ _); refine P.len_str (by (try simp only [tx_length]); omega) ?_) | tb_rel); (try dsimp only)) | walk_at "mk_tail" | (walk_at "mk_dl"; first | ((first | ((with_reducible show wpAny _ _ (call (Value.type "str") [Value.int (Nat.cast _) _]) _ _ _); refine str_nat (by with_reducible assumption) ?_) | ((with_reducible show wpAny _ _ (call (Value.builtin "len") [Value.str _ _]) _ _ _); refine P.len_str (by (try simp only [tx_length]); omega) ?_) | tb_rel); (try dsimp only)) | walk1) | (walk_at "mk_late"; (try dsimp only))))
    exact ⟨⟨_, _, rfl, by rw [tx_length]; omega⟩, _, rfl⟩
  · intro h2 tk2 mC ys k D C2 hP hn2 F2 N2 fD hC0 hCL hC
    clear F N
    refine post_none hn2 F2 N2 hC0 hCL hC ?_
    intro h3 tk3 F3 N3
    clear F2 N2
    obtain ⟨zs, z1, z2, z3⟩ := lens_of hP
    try dsimp only
    walk_at "mk_go"
    refine kso_max F3 N3 (list_at N3 (.head _)) z1 (by omega) (by walk_at "mk_hh") ?_
    intro h4 Mx tx4 tk4 F4 N4 hmem hle
    have hq : decide ((160 : Int) < Mx) = false := by
      have := z3 Mx hmem
      simp; omega
    clear F3 N3
    walk_at "mk_go"
    exact sd hm hM hk ht hoc hdR F4 (news_sub N4 fun p hp => .tail _ hp) K hne hoff hm1 hm2 (ret.at _ _)
end

theorem masks_dg {Ms : List Nat} (hM : MsOK Ms) : ∀ M ∈ Ms, (∀ n ∈ pts M, (dg n).length ≤ 160) ∧ (pts M).length ≤ 900 := fun M h => ⟨fun n hn => by have := pts_dg hn; omega, by have := pts3 (hM.lt M h); omega⟩
section
variable {w : World}
set_option pp.deepTerms false in
set_option maxHeartbeats 8000000 in
theorem seg5 (sw : SegW w) : SegD 5 w := by
  intro p loose mg mb g A s E Q L m Dd Dm c C dvs mvs cs Ms ns kd km turn e1 e2 t oc exs hm hM hk ht hoc hdR F N K hne hoff hm1 hm2 ret
  obtain ⟨X, T, hfr, hu, hh, room⟩ := id K
  have hl1 := hM.l1
  have hl2 := hM.l2
  have hml : mvs.length = Ms.length := hm.len
  refine wpAny_execs_cons ?_
  walk_at "mk_go"
  refine make_writer F N X T ?_ ?_
  · walk_at "mk_room"
  intro r rd S h1 tk1 b1 F1 N1 l1 l2
  clear F N
  walk_at "mk_go"
  refine wpAny_execs_cons ?_
  walk_at "mk_go"
  refine comp_eval (cl := []) (by rfl) (by rfl) (by decide) ?_
  walk_at "mk_go"
  (with_reducible rename Fr _ _ _ _ => FF); (with_reducible rename News _ _ _ _ => NN)
  refine comp_led (MaskR Ms) (by walk_at "mk_hh") (.tail _ (.tail _ (.tail _ (.tail _ (.head _))))) (by rw [sizeLine_eq]; omega) FF NN (by decide) rfl (by rfl) ?_ ?_
  · intro i v h2 tk2 C2 mC g2 whole hv hk3 hw F2 N2
    obtain ⟨M, tM, hMi, rfl⟩ := nats_at hm hv
    have hpl := pts3 (hM.lt M (List.mem_of_getElem? hMi))
    have X2 := X.keeps hk3
    have T2 := T.keeps hk3
    clear X T FF NN
    try dsimp only
    walk_at "mk_go"
    refine mask_item_ok (by omega) F2 N2 X2 T2 ?_ ?_ ?_
    · walk_at "mk_units"
    · walk_at "mk_room"
    intro h3 tk3 v3 ex3 F3 N3 N4 fx hi
    exact MStep.intro F3 N3 N4 fx ⟨M, hMi, hi⟩
  · intro h2 tk2 mC ys k ex1 I C2 hR1 hn2 F2 N2 fI fxI hC0 hCL hC
    have oI : ∀ q ∈ (I, listOf ys.toArray k) :: ex1, ∀ z ∈ ((r, instObj 293 rd) :: (rd, wrD w.params S b1) :: (S, listOf #[.str (Str.ofString "head") _] 0) :: (Dd, listOf dvs.toArray kd) :: (Dm, listOf mvs.toArray km) :: (c, caskO C turn t e1) :: (C, listOf cs.toArray e2) :: (L + 1, oc) :: exs), q.1 ≠ z.1 := fun q hq z hz => off_of NN fI hz hq
    clear FF NN
    refine post_none hn2 F2 N2 hC0 hCL hC ?_
    intro h3 tk3 F3 N3
    clear F2 N2
    try dsimp only
    walk_at "mk_go"
    have hR2 : Ran (MaskR Ms) Ms.length ys ex1 := hml ▸ hR1
    have sI := fun z hz => oI (I, listOf ys.toArray k) (.head _) z hz
    have sX := fun q hq z hz => oI q (.tail _ hq) z hz
    clear oI
    have N4 : News g L h3 ((S, listOf #[.str (Str.ofString "head") s.toks] 0) :: (I, listOf ys.toArray k) :: (r, instObj 293 rd) :: (rd, wrD w.params S b1) :: (Dd, listOf dvs.toArray kd) :: (Dm, listOf mvs.toArray km) :: (c, caskO C turn t e1) :: (C, listOf cs.toArray e2) :: (L + 1, oc) :: (exs ++ ex1)) := news_sub N3 fun q hq => by
      rcases List.mem_cons.mp hq with rfl | hq
      · exact .tail _ (List.mem_append_right _ (.tail _ (.tail _ (.head _))))
      · rcases List.mem_cons.mp hq with rfl | hq
        · exact .head _
        · rcases List.mem_cons.mp hq with rfl | hq
          · exact .tail _ (List.mem_append_right _ (.head _))
          · rcases List.mem_cons.mp hq with rfl | hq
            · exact .tail _ (List.mem_append_right _ (.tail _ (.head _)))
            · have hq : q ∈ ((Dd, listOf dvs.toArray kd) :: (Dm, listOf mvs.toArray km) :: (c, caskO C turn t e1) :: (C, listOf cs.toArray e2) :: (L + 1, oc) :: exs) ++ ex1 := hq
              rcases List.mem_append.mp hq with hq | hq
              · exact .tail _ (List.mem_append_right _ (.tail _ (.tail _ (.tail _ hq))))
              · exact .tail _ (List.mem_append_left _ hq)
    have lS : ∀ q ∈ ((Dd, listOf dvs.toArray kd) :: (Dm, listOf mvs.toArray km) :: (c, caskO C turn t e1) :: (C, listOf cs.toArray e2) :: (L + 1, oc) :: exs), q.1 ≠ S := fun q hq => Nat.ne_of_lt (Nat.lt_trans (l1 q hq) (Nat.lt_trans l2.1 l2.2))
    have U : UpdF S (listOf #[.str (Str.ofString "head") s.toks] 0) ((S, listOf #[.str (Str.ofString "head") s.toks] 0) :: (I, listOf ys.toArray k) :: (r, instObj 293 rd) :: (rd, wrD w.params S b1) :: (Dd, listOf dvs.toArray kd) :: (Dm, listOf mvs.toArray km) :: (c, caskO C turn t e1) :: (C, listOf cs.toArray e2) :: (L + 1, oc) :: (exs ++ ex1)) (fun o' => (S, o') :: (I, listOf ys.toArray k) :: (r, instObj 293 rd) :: (rd, wrD w.params S b1) :: (Dd, listOf dvs.toArray kd) :: (Dm, listOf mvs.toArray km) :: (c, caskO C turn t e1) :: (C, listOf cs.toArray e2) :: (L + 1, oc) :: (exs ++ ex1)) := .head fun q hq => by
      rcases List.mem_cons.mp hq with rfl | hq
      · exact sI _ (.tail _ (.tail _ (.head _)))
      · rcases List.mem_cons.mp hq with rfl | hq
        · exact Nat.ne_of_lt l2.2
        · rcases List.mem_cons.mp hq with rfl | hq
          · exact Nat.ne_of_lt (Nat.lt_trans l2.1 l2.2)
          · have hq : q ∈ ((Dd, listOf dvs.toArray kd) :: (Dm, listOf mvs.toArray km) :: (c, caskO C turn t e1) :: (C, listOf cs.toArray e2) :: (L + 1, oc) :: exs) ++ ex1 := hq
            rcases List.mem_append.mp hq with hq | hq
            · exact lS q hq
            · exact sX q hq _ (.tail _ (.tail _ (.head _)))
    have inX : ∀ q ∈ ex1, q ∈ ((S, listOf #[.str (Str.ofString "head") s.toks] 0) :: (I, listOf ys.toArray k) :: (r, instObj 293 rd) :: (rd, wrD w.params S b1) :: (Dd, listOf dvs.toArray kd) :: (Dm, listOf mvs.toArray km) :: (c, caskO C turn t e1) :: (C, listOf cs.toArray e2) :: (L + 1, oc) :: (exs ++ ex1)) := fun q hq => .tail _ (.tail _ (.tail _ (.tail _ (.tail _ (.tail _ (.tail _ (.tail _ (.tail _ (List.mem_append_right _ hq)))))))))
    refine add_ok (b1 := b1) (rd := rd) (S := S) hR2 (masks_dg hM) hl2 F3 N4 X T (.tail _ (.tail _ (.head _))) (.tail _ (.tail _ (.tail _ (.head _)))) (.head _) (.tail _ (.head _)) inX U
      ⟨sI _ (.head _), sI _ (.tail _ (.head _)), sI _ (.tail _ (.tail _ (.head _))), (Nat.ne_of_lt l2.2).symm, (Nat.ne_of_lt (Nat.lt_trans l2.1 l2.2)).symm⟩ fxI (fun q hq => sX q hq _ (.tail _ (.tail _ (.head _)))) ?_ ?_ ?_ ?_
    · walk_at "mk_units"
    · walk_at "mk_hh"
    · walk_at "mk_room"
    intro h5 tk5 t5 e5 F5 N5
    clear F3 N3 N4 U inX
    walk_at "mk_go"
    (with_reducible rename Fr _ _ _ _ => FF)
    refine sw (r := r) (rd := rd) (S := S) (b1 := b1) (kd := kd) (km := km) (e1 := e1) (e2 := e2) (t := t) (t1 := s.toks) (t2 := t5) (e3 := e5) hm hM hk ht hoc hdR FF (news_sub N5 fun q hq => ?_) K hne hoff (by walk_at "mk_look") (by walk_at "mk_look") (by walk_at "mk_look") (ret.at _ _)
    rcases List.mem_cons.mp hq with rfl | hq
    · exact .tail _ (.tail _ (.head _))
    · rcases List.mem_cons.mp hq with rfl | hq
      · exact .tail _ (.tail _ (.tail _ (.head _)))
      · rcases List.mem_cons.mp hq with rfl | hq
        · exact .head _
        · exact .tail _ (.tail _ (.tail _ (.tail _ (List.mem_append_left ex1 (a := q) (as := (Dd, listOf dvs.toArray kd) :: (Dm, listOf mvs.toArray km) :: (c, caskO C turn t e1) :: (C, listOf cs.toArray e2) :: (L + 1, oc) :: exs) hq))))
end

theorem jn_cons (x : List Nat) {r : List (List Nat)} (h : r ≠ []) : jn [32] (x :: r) = x ++ 32 :: jn [32] r := by
  cases r with
  | nil => exact absurd rfl h
  | cons y r => show x ++ [32] ++ jn [32] (y :: r) = _; rw [List.append_assoc]; rfl
theorem line_eq {n : Nat} {ts : List (List Nat)} (h : ts ≠ []) : 103 :: 111 :: 116 :: 111 :: 95 :: 109 :: 97 :: 115 :: 107 :: 115 :: 32 :: (dg n ++ [58, 32]) ++ jn [32] ts = jn [32] (gm :: (dg n ++ [58]) :: ts) := by
  rw [jn_cons _ (by simp), jn_cons _ h]
  simp [gm]
theorem few_len {ts : List (List Nat)} {B : Nat} (h : ∀ t ∈ ts, t.length ≤ B) (hl : ts.length ≤ 2) (hB : B ≤ 200000) : (ts.map (·.length)).sum + ts.length ≤ 1000000 := by
  have h1 := sum_len h
  have h2 : ts.length * B ≤ 2 * 200000 := Nat.mul_le_mul hl hB
  omega
section
variable {w : World}
set_option pp.deepTerms false in
set_option maxHeartbeats 8000000 in
theorem seg7 (sv : SegV w) : SegW w := by
  intro p loose mg mb g A s E Q L m Dd Dm c C r rd S dvs mvs cs Ms ns kd km turn e1 e2 b1 e3 t t1 t2 oc exs hm hM hk ht hoc hdR F N K hne hoff hm1 hm2 hm3 ret
  obtain ⟨X, T, hfr, hu, hh, room⟩ := id K
  have hl1 := hM.l1
  have hl2 := hM.l2
  have hml : mvs.length = Ms.length := hm.len
  have hdl : dvs.length = Ms.length := hdR.len
  have hg1 : (dg mvs.length).length ≤ 4 := (dg_len (by decide)).mpr (by omega)
  have hg2 : (dg mvs.length).length ≤ 160 := by omega
  have hsp : ∀ x ∈ Ms.map spell, x.length ≤ 200000 := fun x hx => by
    obtain ⟨M, h, rfl⟩ := List.mem_map.mp hx
    exact spell_len (masks_dg hM M h).1 (masks_dg hM M h).2
  have hsl := few_len hsp (by rw [List.length_map]; exact hl2) (Nat.le_refl _)
  have hjl := jn_len (Ms.map spell)
  refine wpAny_execs_cons ?_
  (repeat' ((fail_if_success tb_start); first | ((first | ((with_reducible show wpAny _ _ (binaryOp Operator.Add (Value.str (tx _) _) (Value.str (Str.ofString ": ") _)) _ _ _); refine add_tt (b := [58, 32]) rfl (by decide) (by walk_at "mk_len") ?_; intros) | ((with_reducible show wpAny _ _ (binaryOp Operator.Add (Value.str (Str.ofString "goto_masks ") _) (Value.str (tx _) _)) _ _ _); refine add_tt (a := [103, 111, 116, 111, 95, 109, 97, 115, 107, 115, 32]) (by decide) rfl (by walk_at "mk_len") ?_; intros) | ((with_reducible show wpAny _ _ (call (Value.type "str") [Value.int (Nat.cast _) _]) _ _ _); refine str_nat (by with_reducible assumption) ?_) | ((with_reducible show wpAny _ _ (call (Value.builtin "len") [Value.ref _]) _ _ _); refine len_led (by k_asm) (by k_dflt k_mem) (by first | omega | decide) ?_) | tb_rel); (try dsimp only)) | walk_at "mk_tail" | (walk_at "mk_dl"; first | ((first | ((with_reducible show wpAny _ _ (binaryOp Operator.Add (Value.str (tx _) _) (Value.str (Str.ofString ": ") _)) _ _ _); refine add_tt (b := [58, 32]) rfl (by decide) (by walk_at "mk_len") ?_; intros) | ((with_reducible show wpAny _ _ (binaryOp Operator.Add (Value.str (Str.ofString "goto_masks ") _) (Value.str (tx _) _)) _ _ _); refine add_tt (a := [103, 111, 116, 111, 95, 109, 97, 115, 107, 115, 32]) (by decide) rfl (by walk_at "mk_len") ?_; intros) | ((with_reducible show wpAny _ _ (call (Value.type "str") [Value.int (Nat.cast _) _]) _ _ _); refine str_nat (by with_reducible assumption) ?_) | ((with_reducible show wpAny _ _ (call (Value.builtin "len") [Value.ref _]) _ _ _); refine len_led (by k_asm) (by k_dflt k_mem) (by first | omega | decide) ?_) | tb_rel); (try dsimp only)) | walk1) | (walk_at "mk_late"; (try dsimp only))))
  refine comp_eval (cl := []) (by rfl) (by rfl) (by decide) ?_
  walk_at "mk_go"
  (with_reducible rename Fr _ _ _ _ => FF); (with_reducible rename News _ _ _ _ => NN)
  refine comp_led (TxR (Ms.map spell)) (by walk_at "mk_hh") (.tail _ (.tail _ (.tail _ (.head _)))) (by rw [sizeLine_eq]; omega) FF NN (by decide) rfl (by rfl) ?_ ?_
  · intro i v h4 tk4 C4 mC4 g4 whole hv hk4 hw F4 N4
    obtain ⟨ex, ⟨M, S', vs, e, hMi, rfl, rfl, hvs⟩, hsub⟩ := hdR.at i v hv
    have hMd := masks_dg hM M (List.mem_of_getElem? hMi)
    have X4 := X.keeps hk4
    have T4 := T.keeps hk4
    have hSw : (S', listOf vs.toArray e) ∈ whole := hw _ (.tail _ (.tail _ (.tail _ (.tail _ (.tail _ (.tail _ (.tail _ (.tail _ (hsub _ (.head _))))))))))
    clear X T FF NN
    try dsimp only
    walk_at "mk_go"
    refine spelled_ok hvs hMd.1 hMd.2 F4 N4 X4 T4 hSw ?_ ?_ ?_ ?_
    · walk_at "mk_units"
    · walk_at "mk_hh"
    · walk_at "mk_room"
    intro h5 tk5 t5 F5 N5
    exact MStep.plain F5 N5 ⟨spell M, _, by rw [List.getElem?_map, hMi]; rfl, rfl, rfl⟩
  · intro h4 tk4 mC4 ys k4 ex2 D2 C4 hR2 hn4 F4 N4 fD2 fxD2 hC02 hCL2 hC22
    clear FF NN
    refine post_none hn4 F4 N4 hC02 hCL2 hC22 ?_
    intro h5 tk5 F5 N5
    clear F4 N4
    obtain ⟨rfl, hs⟩ := Ran.allStrs (ts := Ms.map spell) (by rw [List.length_map, ← hdl]; exact hR2)
    try dsimp only [List.nil_append] at N5
    try dsimp only
    (repeat' ((fail_if_success tb_start); first | ((first | ((with_reducible show wpAny _ _ (binaryOp Operator.Add (Value.str (tx _) _) (Value.str (tx _) _)) _ _ _); refine add_tt rfl rfl (by walk_at "mk_len") ?_; intros) | ((with_reducible show wpAny _ _ (call (Value.builtin "str.join") [Value.str (Str.ofString " ") _, Value.ref _]) _ _ _); refine join_sp (by k_asm) (by k_dflt k_mem) (by with_reducible assumption) (by with_reducible assumption) ?_; intros) | tb_rel); (try dsimp only)) | walk_at "mk_tail" | (walk_at "mk_dl"; first | ((first | ((with_reducible show wpAny _ _ (binaryOp Operator.Add (Value.str (tx _) _) (Value.str (tx _) _)) _ _ _); refine add_tt rfl rfl (by walk_at "mk_len") ?_; intros) | ((with_reducible show wpAny _ _ (call (Value.builtin "str.join") [Value.str (Str.ofString " ") _, Value.ref _]) _ _ _); refine join_sp (by k_asm) (by k_dflt k_mem) (by with_reducible assumption) (by with_reducible assumption) ?_; intros) | tb_rel); (try dsimp only)) | walk1) | (walk_at "mk_late"; (try dsimp only))))
    have hne0 : Ms.map spell ≠ [] := by
      intro q
      have h0 : (Ms.map spell).length = 0 := by rw [q]; rfl
      rw [List.length_map] at h0
      omega
    have eL : 103 :: 111 :: 116 :: 111 :: 95 :: 109 :: 97 :: 115 :: 107 :: 115 :: 32 :: (dg mvs.length ++ [58, 32]) ++ jn [32] (Ms.map spell) = lineT Ms := by rw [hml]; exact line_eq hne0
    (with_reducible rename Fr _ _ _ _ => FF); (with_reducible rename News _ _ _ _ => NN)
    dsimp only [List.cons_append] at eL FF
    rw [eL] at FF
    exact sv hm hM hk ht hoc hdR FF (news_sub NN fun p hp => .tail _ hp) K hne hoff (by walk_at "mk_look") (by walk_at "mk_look") (by walk_at "mk_look") rfl (ret.at _ _)
end

open PySem.SeqAt (shaped noMix noMixAll)
theorem due_ok {w : World} {M : Nat} (hl : (pts M).length ≤ 3) : ItemOK w 0 (dueD M).1 ∧ True := by
  have hzl := zof_len M
  unfold dueD
  by_cases h : M < P5
  · simp only [if_pos h]
    have hd : (dg M).length ≤ 160 := by
      have := (dg_len (m := M) (k := 151) (by decide)).mpr (Nat.lt_trans (Nat.lt_succ_of_lt h) p5_ten)
      omega
    exact ⟨item_int (z := (M : Nat)) (by decide) hd, trivial⟩
  · simp only [if_neg h]
    exact ⟨tupD_ok (fun y hy => zof_fine hy) (by rw [List.length_map]; omega), trivial⟩
theorem line_of {qs : List Pc} (h : qs ≠ []) : jn [32] (gm :: (dg qs.length ++ [58]) :: qs.map (·.text)) ++ [10] = lineOf qs := by
  cases qs with
  | nil => exact absurd rfl h
  | cons q qs =>
    rw [jn_cons _ (by simp), jn_cons _ (by simp), jn_tl]
    unfold lineOf
    simp [tl]
theorem jn_mem {c : Nat} : ∀ {ts : List (List Nat)}, c ∈ jn [32] ts → c = 32 ∨ ∃ t ∈ ts, c ∈ t
  | [], h => by simp [jn] at h
  | [x], h => .inr ⟨x, .head _, h⟩
  | x :: y :: r, h => by
    have h : c ∈ (x ++ [32]) ++ jn [32] (y :: r) := h
    rcases List.mem_append.mp h with h | h
    · rcases List.mem_append.mp h with h | h
      · exact .inr ⟨x, .head _, h⟩
      · exact .inl (List.mem_singleton.mp h)
    · rcases jn_mem h with h | ⟨t, ht, hc⟩
      · exact .inl h
      · exact .inr ⟨t, .tail _ ht, hc⟩
theorem spell_small {M c : Nat} (h : c ∈ spell M) : c < 128 := by
  unfold spell at h
  split at h
  · have := (dg_dig M c h).2; omega
  · rcases List.mem_cons.mp h with rfl | h
    · decide
    · rcases List.mem_append.mp h with h | h
      · rcases jn_mem h with rfl | ⟨t, ht, hc⟩
        · decide
        · obtain ⟨n, _, rfl⟩ := List.mem_map.mp ht
          have := (dg_dig n c hc).2; omega
      · rw [List.mem_singleton.mp h]; decide
theorem line_small {Ms : List Nat} {c : Nat} (h : c ∈ lineT Ms) : c < 128 := by
  rcases jn_mem h with rfl | ⟨t, ht, hc⟩
  · decide
  · rcases List.mem_cons.mp ht with rfl | ht
    · have : ∀ x ∈ gm, x < 128 := by decide
      exact this c hc
    · rcases List.mem_cons.mp ht with rfl | ht
      · rcases List.mem_append.mp hc with hc | hc
        · have := (dg_dig _ c hc).2; omega
        · rw [List.mem_singleton.mp hc]; decide
      · obtain ⟨M, _, rfl⟩ := List.mem_map.mp ht
        exact spell_small hc
theorem strOk_tx {l : List Nat} (h : ∀ c ∈ l, c < 128) : PyData.strOk (tx l) = true := by
  unfold PyData.strOk
  rw [tx_cps', List.all_toArray, List.all_eq_true]
  intro c hc
  have := h c hc
  rw [decide_eq_true_eq]; omega
theorem line_len {Ms : List Nat} (hM : MsOK Ms) : (lineT Ms).length ≤ 1000000 := by
  have h1 := jn_len (gm :: (dg Ms.length ++ [58]) :: Ms.map spell)
  have hg1 : (dg Ms.length).length ≤ 4 := (dg_len (by decide)).mpr (by have := hM.l2; omega)
  have h2 : ((Ms.map spell).map (·.length)).sum ≤ (Ms.map spell).length * 200000 := sum_len fun x hx => by
    obtain ⟨M, h, rfl⟩ := List.mem_map.mp hx
    exact spell_len (masks_dg hM M h).1 (masks_dg hM M h).2
  have h3 := hM.l2
  rw [List.length_map] at h2
  unfold lineT
  simp only [List.map_cons, List.sum_cons, List.length_cons, List.length_append, List.length_nil, List.length_map, gm] at h1 ⊢
  omega
theorem due_text {w : World} {Ms : List Nat} (hM : MsOK Ms) : ((Ms.map dueD).map (·.1)).map (·.text) = Ms.map spell := by
  rw [List.map_map, List.map_map]
  exact List.map_congr_left fun M h => (due_pc (w := w) (pts3 (hM.lt M h))).1
theorem due_out {w : World} {Ms : List Nat} (hM : MsOK Ms) : (Ms.map dueD).map outv = Ms := by
  rw [List.map_map]
  have : Ms.map (outv ∘ dueD) = Ms.map id := List.map_congr_left fun M h => (due_pc (w := w) (pts3 (hM.lt M h))).2.2.2
  rw [this, List.map_id]
theorem due_line {w : World} {Ms : List Nat} (hM : MsOK Ms) : lineT Ms ++ [10] = lineOf ((Ms.map dueD).map (·.1)) := by
  rw [← line_of (by
    intro q
    have h0 : ((Ms.map dueD).map (·.1)).length = 0 := by rw [q]; rfl
    rw [List.length_map, List.length_map] at h0
    have := hM.l1; omega), due_text (w := w) hM, List.length_map, List.length_map]
  rfl
theorem lawKind (L : Addr) : (lawEnv L).scope.kind ≠ .module := fun h => absurd (show ScopeKind.function = .module from h) (by decide)
theorem reads_nats {h : Heap} {vs : List Value} {ns : List Nat} (hv : NatsAre vs ns) : ReadsAll h vs ((ns.map fun n : Nat => (n : Int)).map PyData.int) [] := readsAll_of_ints hv
theorem shaped_nats (ns : List Nat) : shaped (.list ((ns.map fun n : Nat => (n : Int)).map PyData.int)) = true := shaped_list fun d hd => by
  obtain ⟨z, _, rfl⟩ := List.mem_map.mp hd
  exact ⟨by simp only [PyData.canLay0], by simp only [PyData.depth]; omega⟩
section
variable {w : World}
local macro_rules | `(tactic| tb_start) => `(tactic| (with_reducible show wpAny _ _ (compareOp CmpOp.NotEq (Value.ref _) (Value.ref _)) _ _ _))
local macro_rules | `(tactic| tb_start) => `(tactic| (with_reducible show wpAny _ _ (call (Value.ref 453) _) _ _ _))
set_option pp.deepTerms false in
set_option maxHeartbeats 8000000 in
theorem seg8 (sl : SegL w) : SegV w := by
  intro p loose mg mb g A s E Q L m Dd Dm c C r rd S dvs mvs cs Ms ns kd km turn e1 e2 b1 e3 t t1 t2 t3 oc exs hm hM hk ht hoc hdR F N K hne hoff hm1 hm2 hm3 hm4 ret
  obtain ⟨X, T, hfr, hu, hh, room⟩ := id K
  have hl1 := hM.l1
  have hl2 := hM.l2
  have hml : mvs.length = Ms.length := hm.len
  have hll := line_len hM
  refine wpAny_execs_cons ?_
  walk_at "mk_go"
  (with_reducible rename Fr _ _ _ _ => FF); (with_reducible rename News _ _ _ _ => NN)
  have hstr : ∀ v ∈ ([PyData.str (Str.ofString "head"), PyData.str (tx (lineT Ms))] : List PyData), v.canLay0 = true ∧ v.depth ≤ 3 := fun v hv => by
    rcases List.mem_cons.mp hv with rfl | hv
    · exact ⟨by simp only [PyData.canLay0]; rw [show Str.ofString "head" = tx [104, 101, 97, 100] by decide]; exact strOk_tx (by decide), by simp only [PyData.depth]; omega⟩
    · rw [List.mem_singleton.mp hv]
      exact ⟨by simp only [PyData.canLay0]; exact strOk_tx fun c hc => line_small hc, by simp only [PyData.depth]; omega⟩
  refine ne_same (d := .list [.str (Str.ofString "head"), .str (tx (lineT Ms))]) (Reads.list (NN.get (.tail _ (.tail _ (.tail _ (.head _))))) rfl rfl (.cons (.str _ _) (.cons (.str _ _) .nil))) (Reads.list (NN.get (.head _)) rfl rfl (.cons (.str _ _) (.cons (.str _ _) .nil))) (shaped_list hstr) (by walk_at "mk_units") ?_
  (repeat' ((fail_if_success tb_start); first | ((first | ((with_reducible show wpAny _ _ (binaryOp Operator.Add (Value.str (tx _) _) (Value.str (Str.ofString "\n") _)) _ _ _); refine add_tt (b := [10]) rfl (by decide) (by walk_at "mk_len") ?_; intros) | ((with_reducible show wpAny _ _ (call (Value.builtin "len") [Value.ref _]) _ _ _); refine len_led (by k_asm) (by k_dflt k_mem) (by first | omega | decide) ?_) | tb_rel); (try dsimp only)) | walk_at "mk_tail" | (walk_at "mk_dl"; first | ((first | ((with_reducible show wpAny _ _ (binaryOp Operator.Add (Value.str (tx _) _) (Value.str (Str.ofString "\n") _)) _ _ _); refine add_tt (b := [10]) rfl (by decide) (by walk_at "mk_len") ?_; intros) | ((with_reducible show wpAny _ _ (call (Value.builtin "len") [Value.ref _]) _ _ _); refine len_led (by k_asm) (by k_dflt k_mem) (by first | omega | decide) ?_) | tb_rel); (try dsimp only)) | walk1) | (walk_at "mk_late"; (try dsimp only))))
  have hdue : ∀ q ∈ Ms.map dueD, ∃ M, M ∈ Ms ∧ q = dueD M ∧ (pts M).length ≤ 3 := fun q hq => by
    obtain ⟨M, h, rfl⟩ := List.mem_map.mp hq
    exact ⟨M, h, rfl, pts3 (hM.lt M h)⟩
  refine lread_ok (B := False) (ds := Ms.map dueD) (many := mvs.length) (fun q hq => .inl ?_) (fun q hq => ?_) (fun q hq => ?_) ?_ FF NN X T hfr rfl (lawKind L) hh ?_ ?_ ?_ (due_line (w := w) hM) ?_ ?_
  · obtain ⟨M, h, rfl, h3⟩ := hdue q hq
    exact (due_ok h3).1
  · obtain ⟨M, h, rfl, h3⟩ := hdue q hq
    exact (due_pc (w := w) h3).2.1.is
  · obtain ⟨M, h, rfl, h3⟩ := hdue q hq
    exact (due_pc (w := w) h3).2.1.len
  · rw [List.length_map]; omega
  · walk_at "mk_units"
  · walk_at "mk_room"
  · rw [tx_length, List.length_append, List.length_singleton]; omega
  · intro h5 tk5 S5 ws e5 hg hmn F5 N5 fx hws
    clear FF NN
    rw [due_out (w := w) hM] at hws
    walk_at "mk_go"
    refine ne_same (Reads.list (N5.get (.head _)) rfl rfl (by simpa using reads_nats hws)) (Reads.list (N5.get (.tail _ (.tail _ (.tail _ (.tail _ (.tail _ (.tail _ (.head _)))))))) rfl rfl (by simpa using reads_nats hm)) (shaped_nats Ms) (by walk_at "mk_units") ?_
    walk_at "mk_go"
    exact sl hm hM hk ht hoc hdR F5 (news_sub N5 fun p hp => .tail _ (.tail _ (.tail _ (.tail _ (.tail _ hp))))) K hne hoff hm1 hm2 hm4 (ret.at _ _)
  · intro hbad
    exfalso
    rcases hbad with h | ⟨q, hq, h⟩ | h
    · exact h
    · obtain ⟨M, _, rfl, h3⟩ := hdue q hq
      exact h (due_pc (w := w) h3).2.2.1
    · rw [List.length_map] at h; exact h hml
end

section
variable {w : World}
local macro_rules | `(tactic| tb_start) => `(tactic| (with_reducible show wpAny _ _ (call (Value.ref 453) _) _ _ _))
set_option pp.deepTerms false in
set_option maxHeartbeats 8000000 in
theorem seg9 (sd : SegD 10 w) : SegL w := by
  intro p loose mg mb g A s E Q L m Dd Dm c C dvs mvs cs Ms ns kd km turn e1 e2 t t3 oc exs hm hM hk ht hoc hdR F N K hne hoff hm1 hm2 hm4 ret
  obtain ⟨X, T, hfr, hu, hh, room⟩ := id K
  have hl1 := hM.l1
  have hl2 := hM.l2
  have hml : mvs.length = Ms.length := hm.len
  have hll := line_len hM
  have hdue : ∀ q ∈ Ms.map dueD, ∃ M, M ∈ Ms ∧ q = dueD M ∧ (pts M).length ≤ 3 := fun q hq => by
    obtain ⟨M, h, rfl⟩ := List.mem_map.mp hq
    exact ⟨M, h, rfl, pts3 (hM.lt M h)⟩
  refine wpAny_execs_cons ?_
  (repeat' ((fail_if_success tb_start); first | ((first | ((with_reducible show wpAny _ _ (binaryOp Operator.Add (Value.str (tx _) _) (Value.str (Str.ofString "\n") _)) _ _ _); refine add_tt (b := [10]) rfl (by decide) (by walk_at "mk_len") ?_; intros) | ((with_reducible show wpAny _ _ (call (Value.builtin "len") [Value.ref _]) _ _ _); refine len_led (by k_asm) (by k_dflt k_mem) (by first | omega | decide) ?_) | tb_rel); (try dsimp only)) | walk_at "mk_tail" | (walk_at "mk_dl"; first | ((first | ((with_reducible show wpAny _ _ (binaryOp Operator.Add (Value.str (tx _) _) (Value.str (Str.ofString "\n") _)) _ _ _); refine add_tt (b := [10]) rfl (by decide) (by walk_at "mk_len") ?_; intros) | ((with_reducible show wpAny _ _ (call (Value.builtin "len") [Value.ref _]) _ _ _); refine len_led (by k_asm) (by k_dflt k_mem) (by first | omega | decide) ?_) | tb_rel); (try dsimp only)) | walk1) | (walk_at "mk_late"; (try dsimp only))))
  have e1' : ((mvs.length : Nat) : Int) + 1 = ((mvs.length + 1 : Nat) : Int) := by omega
  rw [e1']
  (with_reducible rename Fr _ _ _ _ => FF); (with_reducible rename News _ _ _ _ => NN)
  refine lread_ok (B := False) (ds := Ms.map dueD) (many := mvs.length + 1) (fun q hq => .inl ?_) (fun q hq => ?_) (fun q hq => ?_) ?_ FF NN X T hfr rfl (lawKind L) hh ?_ ?_ ?_ (due_line (w := w) hM) ?_ ?_
  · obtain ⟨M, h, rfl, h3⟩ := hdue q hq
    exact (due_ok h3).1
  · obtain ⟨M, h, rfl, h3⟩ := hdue q hq
    exact (due_pc (w := w) h3).2.1.is
  · obtain ⟨M, h, rfl, h3⟩ := hdue q hq
    exact (due_pc (w := w) h3).2.1.len
  · rw [List.length_map]; omega
  · walk_at "mk_units"
  · walk_at "mk_room"
  · rw [tx_length, List.length_append, List.length_singleton]; omega
  · intro h5 tk5 S5 ws e5 hg hmn
    rw [List.length_map] at hmn
    omega
  · intro hbad h5 tk5 F5 N5
    clear FF NN hbad
    walk_at "mk_go"
    exact sd hm hM hk ht hoc hdR F5 N5 K hne hoff hm1 hm2 (ret.at _ _)
end

section
variable {w : World}
local macro_rules | `(tactic| tb_start) => `(tactic| (with_reducible show wpAny _ _ (call (Value.ref 424) _) _ _ _))
set_option pp.deepTerms false in
set_option maxHeartbeats 8000000 in
theorem seg10 (ss : SegS w) : SegD 10 w := by
  intro p loose mg mb g A s E Q L m Dd Dm c C dvs mvs cs Ms ns kd km turn e1 e2 t oc exs hm hM hk ht hoc hdR F N K hne hoff hm1 hm2 ret
  obtain ⟨X, T, hfr, hu, hh, room⟩ := id K
  have hl1 := hM.l1
  have hl2 := hM.l2
  have hml : mvs.length = Ms.length := hm.len
  refine wpAny_execs_cons ?_
  (repeat' ((fail_if_success tb_start); first | ((first | ((with_reducible show wpAny _ _ (call (Value.builtin "len") [Value.ref _]) _ _ _); refine len_led (by k_asm) (by k_dflt k_mem) (by first | omega | decide) ?_) | tb_rel); (try dsimp only)) | walk_at "mk_tail" | (walk_at "mk_dl"; first | ((first | ((with_reducible show wpAny _ _ (call (Value.builtin "len") [Value.ref _]) _ _ _); refine len_led (by k_asm) (by k_dflt k_mem) (by first | omega | decide) ?_) | tb_rel); (try dsimp only)) | walk1) | (walk_at "mk_late"; (try dsimp only))))
  (with_reducible rename Fr _ _ _ _ => FF); (with_reducible rename News _ _ _ _ => NN)
  have N1 : News g L s.heap ((c, caskO C turn t e1) :: (C, listOf cs.toArray e2) :: (Dd, listOf dvs.toArray kd) :: (Dm, listOf mvs.toArray km) :: (L + 1, oc) :: exs) := news_sub NN fun q hq => by
    rcases List.mem_cons.mp hq with rfl | hq
    · exact .tail _ (.tail _ (.head _))
    · rcases List.mem_cons.mp hq with rfl | hq
      · exact .tail _ (.tail _ (.tail _ (.head _)))
      · rcases List.mem_cons.mp hq with rfl | hq
        · exact .head _
        · rcases List.mem_cons.mp hq with rfl | hq
          · exact .tail _ (.head _)
          · exact .tail _ (.tail _ (.tail _ (.tail _ hq)))
  have U : UpdF c (caskO C turn t e1) ((c, caskO C turn t e1) :: (C, listOf cs.toArray e2) :: (Dd, listOf dvs.toArray kd) :: (Dm, listOf mvs.toArray km) :: (L + 1, oc) :: exs) (fun o' => (c, o') :: (C, listOf cs.toArray e2) :: (Dd, listOf dvs.toArray kd) :: (Dm, listOf mvs.toArray km) :: (L + 1, oc) :: exs) := .head fun q hq => by
    rcases List.mem_cons.mp hq with rfl | hq
    · exact Ne.symm hne
    · exact (hoff q hq).1
  have U2 : ∀ x, UpdF C (listOf cs.toArray e2) ((c, x) :: (C, listOf cs.toArray e2) :: (Dd, listOf dvs.toArray kd) :: (Dm, listOf mvs.toArray km) :: (L + 1, oc) :: exs) (fun o' => (c, x) :: (C, o') :: (Dd, listOf dvs.toArray kd) :: (Dm, listOf mvs.toArray km) :: (L + 1, oc) :: exs) := fun x => .tail hne (.head fun q hq => (hoff q hq).2)
  refine tap_use hk (by omega) (by omega) (by omega) FF N1 X T (.head _) (.tail _ (.head _)) U U2 hne ?_ ?_ ?_ ?_
  · walk_at "mk_units"
  · walk_at "mk_hh"
  · walk_at "mk_room"
  intro h5 tk5 t5 r cs5 ns5 t6 e5 e6 hr hk5 F5 N5
  try dsimp only at N5
  clear FF NN N1 U U2
  walk_at "mk_go"
  (with_reducible rename Fr _ _ _ _ => FF); (with_reducible rename News _ _ _ _ => NN)
  have N6 : News g L _ ((Dd, listOf dvs.toArray kd) :: (Dm, listOf mvs.toArray km) :: (c, caskO C (turn + 1) t6 e5) :: (C, listOf cs5.toArray e6) :: (L + 1, oc) :: exs) := news_sub NN fun q hq => by
    rcases List.mem_cons.mp hq with rfl | hq
    · exact .tail _ (.tail _ (.head _))
    · rcases List.mem_cons.mp hq with rfl | hq
      · exact .tail _ (.tail _ (.tail _ (.head _)))
      · rcases List.mem_cons.mp hq with rfl | hq
        · exact .head _
        · rcases List.mem_cons.mp hq with rfl | hq
          · exact .tail _ (.head _)
          · exact .tail _ (.tail _ (.tail _ (.tail _ hq)))
  exact ss (r := r) hm hM hk5 (by omega) hoc hdR (by omega) FF N6 K hne hoff (by walk_at "mk_look") (by walk_at "mk_look") (by walk_at "mk_look") (ret.at _ _)
end

theorem sub_listN {prog : Program} {w : World} {A : Around} {E : Value → Shared → Prop} {s : Shared} {h₀ : Heap} {L D : Addr} {news : List (Addr × Obj)} {wl : List Value} {e k : Nat} {u : Tok} {x : Value} {value slice : Expr} {Q : Value → Shared → Prop} (N : News h₀ L s.heap news) (hm : (D, listOf wl.toArray e) ∈ news) (hs : wl.length ≤ 1000) (hx : wl[k]? = some x) (h : Q x s)
    (hq : subscripted slice false (.ref D) (.int (k : Nat) u) = operate [.ref D, .int (k : Nat) u] (getItem (.ref D) (.int (k : Nat) u)) := by with_unfolding_all rfl) :
    wpAny (model prog w) A (subscriptTail value slice (.ref D) (.int (k : Nat) u)) Q E s := by
  have hl : s.heap.IsList D wl.toArray := ⟨_, N.get hm, rfl, e, rfl⟩
  have hk : k < wl.length := (List.getElem?_eq_some_iff.mp hx).1
  exact tail_any hl.typeIs slot_list_getitem.lookup (wpAny_getItem_list hl (by omega) (by omega) (by simpa using hx) h) hq
theorem set_any {prog : Program} {w : World} {A : Around} {E : Value → Shared → Prop} {s : Shared} {h₀ : Heap} {L D : Addr} {m : Str → Option Value} {news : List (Addr × Obj)} {g : Obj → List (Addr × Obj)} {vs : List Value} {e k : Nat} {u : Tok} {x : Value} {Q : Unit → Shared → Prop} (F : Fr h₀ L s.heap m) (N : News h₀ L s.heap news) (U : UpdF D (listOf vs.toArray e) news g) (hk : k < vs.length) (hs : vs.length ≤ 1000)
    (h : ∀ h', Fr h₀ L h' m → News h₀ L h' (g (listOf (vs.set k x).toArray e)) → Q () { s with heap := h' }) :
    wpAny (model prog w) A (setItem (.ref D) (.int (k : Nat) u) x) Q E s := by
  obtain ⟨pre, post, rfl, hg, a, b⟩ := U.split
  have z := N (D, listOf vs.toArray e) (List.mem_append.mpr (.inr (.head _)))
  refine ki_setAt z.1 (by omega) (by omega) (by rw [List.size_toArray]; omega) (h _ (F.change (Heap.SameBut.update ..) z.2.1 z.2.2) ?_)
  rw [hg]
  refine ki_turn _ N a b ?_ ?_
  · show vs.toArray.setIfInBounds ((k : Nat) : Int).toNat x = (vs.set k x).toArray
    rw [Int.toNat_natCast]
    apply Array.toList_inj.mp
    simp
  · simp
theorem StrsAre.set {x : Str} {t : Tok} : ∀ {vs : List Value} {xs : List Str} (k : Nat), StrsAre vs xs → StrsAre (vs.set k (.str x t)) (xs.set k x)
  | _, _, _, .nil => .nil
  | _, _, 0, .cons a b r => .cons x t r
  | _, _, k + 1, .cons a b r => .cons a b (StrsAre.set k r)
theorem brk_len {M : Nat} (hl : (pts M).length ≤ 3) : (brk M).length ≤ 500 := by
  unfold brk
  have h1 := jn_len ((pts M).map dg)
  have h2 : (((pts M).map dg).map (·.length)).sum ≤ ((pts M).map dg).length * 151 := sum_len fun x hx => by
    obtain ⟨n, hn, rfl⟩ := List.mem_map.mp hx
    exact pts_dg hn
  rw [List.length_map] at h1 h2
  rw [List.length_cons]
  omega
theorem ti_len {zs : List Int} (hz : ∀ z ∈ zs, (dg z.natAbs).length ≤ 160) (hl : zs.length ≤ 8) : (ti zs).length ≤ 2000 := by
  unfold ti
  have h1 := jn_len (zs.map num)
  have h2 : ((zs.map num).map (·.length)).sum ≤ (zs.map num).length * 161 := sum_len fun x hx => by
    obtain ⟨n, hn, rfl⟩ := List.mem_map.mp hx
    exact num_len (hz n hn)
  rw [List.length_map] at h1 h2
  simp only [List.length_cons, List.length_append, List.length_nil]
  omega
theorem odd_len {M : Nat} {x : List Nat} (hM : M < 2 ^ 1002) (hl : (pts M).length ≤ 3) (h : OddTx M x) : x.length ≤ 200000 := by
  have hb := brk_len hl
  have hz := zof_len M
  have mid : ∀ (k : Nat) (z : Int), z.natAbs < 10 ^ 151 → (ti ((zof M).take k ++ [z] ++ (zof M).drop (k + 1))).length ≤ 200000 := fun k z hzz => by
    refine Nat.le_trans (ti_len (fun y hy => ?_) ?_) (by decide)
    · rcases List.mem_append.mp hy with hy | hy
      · rcases List.mem_append.mp hy with hy | hy
        · exact zof_mem (List.mem_of_mem_take hy)
        · rw [List.mem_singleton.mp hy]
          have := (dg_len (m := z.natAbs) (k := 151) (by decide)).mpr hzz
          omega
      · exact zof_mem (List.mem_of_mem_drop hy)
    · simp only [List.length_append, List.length_take, List.length_drop, List.length_cons, List.length_nil]
      omega
  cases h with
  | whole _ =>
    have : (dg M).length ≤ 400 := (dg_len (by decide)).mpr (Nat.lt_trans hM (by decide +kernel))
    omega
  | one _ => rw [List.length_append]; simp; omega
  | zero => rw [List.length_append]; simp; omega
  | big k hk => exact mid k _ (by rw [Int.natAbs_natCast]; exact Nat.lt_trans (Nat.lt_succ_self _) p5_ten)
  | neg k p hp =>
    have h1 := pts_lt5 M p (List.mem_of_getElem? hp)
    have h2 := p5_ten
    exact mid k _ (by omega)
  | tup => rw [List.length_append]; simp; omega
  | str => rw [List.length_append]; simp; omega
  | none => rw [List.length_append]; simp; omega
  | empty => simp
theorem mem_set_self {α : Type} {d : α} : ∀ {l : List α} {r : Nat}, r < l.length → d ∈ l.set r d
  | [], _, h => by simp at h
  | _ :: _, 0, _ => .head _
  | _ :: l, r + 1, h => .tail _ (mem_set_self (by simpa using h))
theorem mem_of_set {α : Type} {d q : α} : ∀ {l : List α} {r : Nat}, q ∈ l.set r d → q ∈ l ∨ q = d
  | [], _, h => by simp at h
  | x :: l, 0, h => by
    rcases List.mem_cons.mp h with rfl | h
    · exact .inr rfl
    · exact .inl (.tail _ h)
  | x :: l, r + 1, h => by
    rcases List.mem_cons.mp h with rfl | h
    · exact .inl (.head _)
    · rcases mem_of_set h with h | h
      · exact .inl (.tail _ h)
      · exact .inr h
/-- the read line with one mask spelled otherwise -/
theorem odd_line {w : World} {Ms : List Nat} (hM : MsOK Ms) {r : Nat} {d : Dsc} {x : List Nat} (hx : d.1.text = x) :
    103 :: 111 :: 116 :: 111 :: 95 :: 109 :: 97 :: 115 :: 107 :: 115 :: 32 :: (dg Ms.length ++ [58, 32]) ++ jn [32] ((Ms.map spell).set r x) ++ [10] = lineOf (((Ms.map dueD).set r d).map (·.1)) := by
  have hl := hM.l1
  have e : (((Ms.map dueD).set r d).map (·.1)).map (·.text) = (Ms.map spell).set r x := by
    rw [List.map_set, List.map_set, due_text (w := w) hM, hx]
  have hn : (((Ms.map dueD).set r d).map (·.1)).length = Ms.length := by rw [List.length_map, List.length_set, List.length_map]
  rw [← line_of (by intro q; rw [q] at hn; simp at hn; omega), e, hn, line_eq (by
    intro q
    have h0 : ((Ms.map spell).set r x).length = 0 := by rw [q]; rfl
    rw [List.length_set, List.length_map] at h0
    omega)]
section
variable {w : World}
local macro_rules | `(tactic| tb_start) => `(tactic| (with_reducible show wpAny _ _ (call (Value.ref 453) _) _ _ _))
local macro_rules | `(tactic| tb_start) => `(tactic| (with_reducible show wpAny _ _ (call (Value.ref 446) _) _ _ _))
local macro_rules | `(tactic| tb_start) => `(tactic| (with_reducible show wpAny _ _ (setItem (Value.ref _) (Value.int _ _) (Value.str _ _)) _ _ _))
set_option pp.deepTerms false in
set_option maxHeartbeats 8000000 in
theorem seg11 : SegS w := by
  intro p loose mg mb g A s E Q L m Dd Dm c C dvs mvs cs Ms ns kd km turn e1 e2 r t t3 oc exs hm hM hk ht hoc hdR hr F N K hne hoff hm1 hm2 hm3 ret
  obtain ⟨X, T, hfr, hu, hh, room⟩ := id K
  have hl1 := hM.l1
  have hl2 := hM.l2
  have hml : mvs.length = Ms.length := hm.len
  have hdl : dvs.length = Ms.length := hdR.len
  refine wpAny_execs_cons ?_
  refine comp_assign (cl := []) (by with_unfolding_all rfl) (by with_unfolding_all rfl) (by rfl) (by decide) ?_
  walk_at "mk_go"
  refine comp_led (TxR (Ms.map spell)) (by walk_at "mk_hh") (.head _) (by rw [sizeLine_eq]; omega) F N (by decide) rfl (by rfl) ?_ ?_
  · intro i v h4 tk4 C4 mC4 g4 whole hv hk4 hw F4 N4
    obtain ⟨ex, ⟨M, S', vs, e, hMi, rfl, rfl, hvs⟩, hsub⟩ := hdR.at i v hv
    have hMd := masks_dg hM M (List.mem_of_getElem? hMi)
    have X4 := X.keeps hk4
    have T4 := T.keeps hk4
    have hSw : (S', listOf vs.toArray e) ∈ whole := hw _ (.tail _ (.tail _ (.tail _ (.tail _ (.tail _ (hsub _ (.head _)))))))
    clear X T F N
    try dsimp only
    walk_at "mk_go"
    refine spelled_ok hvs hMd.1 hMd.2 F4 N4 X4 T4 hSw ?_ ?_ ?_ ?_
    · walk_at "mk_units"
    · walk_at "mk_hh"
    · walk_at "mk_room"
    intro h5 tk5 t5 F5 N5
    exact MStep.plain F5 N5 ⟨spell M, _, by rw [List.getElem?_map, hMi]; rfl, rfl, rfl⟩
  · intro h4 tk4 mC4 ys k4 ex2 I C4 hR2 hn4 F4 N4 fD2 fxD2 hC02 hCL2 hC22
    have oI : ∀ q ∈ ((Dd, listOf dvs.toArray kd) :: (Dm, listOf mvs.toArray km) :: (c, caskO C turn t e1) :: (C, listOf cs.toArray e2) :: (L + 1, oc) :: exs), I ≠ q.1 := fun q hq => off_of N fD2 hq (.head _)
    clear F N fD2
    refine' post_asgS ?pa ?pb ?pc ?pd ?pe ?pf ?pg ?ph ?_
    (case pa => rfl)
    (case pb => rfl)
    (case pc => exact hn4)
    (case pd => exact F4)
    (case pe => exact N4)
    (case pf => exact hC02)
    (case pg => exact hCL2)
    (case ph => exact hC22)
    intro h5 tk5 F5 N5
    clear F4 N4
    obtain ⟨rfl, hs⟩ := Ran.allStrs (ts := Ms.map spell) (by rw [List.length_map, ← hdl]; exact hR2)
    have hyl : ys.length = Ms.length := by have := hs.length; simpa using this
    try dsimp only [List.nil_append] at N5
    try dsimp only
    obtain ⟨v0, hv0⟩ : ∃ v0, dvs[r]? = some v0 := ⟨_, List.getElem?_eq_getElem (by omega)⟩
    obtain ⟨ex, ⟨M, S', vs, e, hMi, rfl, rfl, hvs⟩, hsub⟩ := hdR.at r v0 hv0
    have hMM := hM.lt M (List.mem_of_getElem? hMi)
    have hSe : (S', listOf vs.toArray e) ∈ exs := hsub _ (.head _)
    refine wpAny_execs_cons ?_
    (repeat' ((fail_if_success tb_start); first | ((first | ((with_reducible show wpAny _ _ (subscriptTail _ _ (Value.ref _) (Value.int (Nat.cast _) _)) _ _ _); refine sub_listN (by k_asm) (by k_dflt k_mem) (by omega) (by with_reducible assumption) ?_) | tb_rel); (try dsimp only)) | walk_at "mk_tail" | (walk_at "mk_dl"; first | ((first | ((with_reducible show wpAny _ _ (subscriptTail _ _ (Value.ref _) (Value.int (Nat.cast _) _)) _ _ _); refine sub_listN (by k_asm) (by k_dflt k_mem) (by omega) (by with_reducible assumption) ?_) | tb_rel); (try dsimp only)) | walk1) | (walk_at "mk_late"; (try dsimp only))))
    have N6 : News g L h5 ((c, caskO C turn t e1) :: (C, listOf cs.toArray e2) :: (I, listOf ys.toArray k4) :: (Dd, listOf dvs.toArray kd) :: (Dm, listOf mvs.toArray km) :: (L + 1, oc) :: exs) := news_sub N5 fun q hq => by
      rcases List.mem_cons.mp hq with rfl | hq
      · exact .tail _ (.tail _ (.tail _ (.head _)))
      · rcases List.mem_cons.mp hq with rfl | hq
        · exact .tail _ (.tail _ (.tail _ (.tail _ (.head _))))
        · rcases List.mem_cons.mp hq with rfl | hq
          · exact .head _
          · rcases List.mem_cons.mp hq with rfl | hq
            · exact .tail _ (.head _)
            · rcases List.mem_cons.mp hq with rfl | hq
              · exact .tail _ (.tail _ (.head _))
              · exact .tail _ (.tail _ (.tail _ (.tail _ (.tail _ hq))))
    have U : UpdF c (caskO C turn t e1) ((c, caskO C turn t e1) :: (C, listOf cs.toArray e2) :: (I, listOf ys.toArray k4) :: (Dd, listOf dvs.toArray kd) :: (Dm, listOf mvs.toArray km) :: (L + 1, oc) :: exs) (fun o' => (c, o') :: (C, listOf cs.toArray e2) :: (I, listOf ys.toArray k4) :: (Dd, listOf dvs.toArray kd) :: (Dm, listOf mvs.toArray km) :: (L + 1, oc) :: exs) := .head fun q hq => by
      rcases List.mem_cons.mp hq with rfl | hq
      · exact Ne.symm hne
      · rcases List.mem_cons.mp hq with rfl | hq
        · exact oI _ (.tail _ (.tail _ (.head _)))
        · exact (hoff q hq).1
    have U2 : ∀ x, UpdF C (listOf cs.toArray e2) ((c, x) :: (C, listOf cs.toArray e2) :: (I, listOf ys.toArray k4) :: (Dd, listOf dvs.toArray kd) :: (Dm, listOf mvs.toArray km) :: (L + 1, oc) :: exs) (fun o' => (c, x) :: (C, o') :: (I, listOf ys.toArray k4) :: (Dd, listOf dvs.toArray kd) :: (Dm, listOf mvs.toArray km) :: (L + 1, oc) :: exs) := fun x => .tail hne (.head fun q hq => by
      rcases List.mem_cons.mp hq with rfl | hq
      · exact oI _ (.tail _ (.tail _ (.tail _ (.head _))))
      · exact (hoff q hq).2)
    have hSo := hoff _ (.tail _ (.tail _ (.tail _ hSe)))
    refine odd_ok (M := M) (S := S') hvs hMM (pts3 hMM) (List.length_pos_iff.mpr (pts_ne M)) hk (by omega) F5 N6 X T (.head _) (.tail _ (.head _)) (.tail _ (.tail _ (.tail _ (.tail _ (.tail _ (.tail _ hSe)))))) U U2 hne hSo.1 hSo.2 ?_ ?_ ?_ ?_
    · walk_at "mk_units"
    · walk_at "mk_hh"
    · walk_at "mk_room"
    intro h6 tk6 t6 x turn6 cs6 ns6 t7 e6 e7 hx ht6 hk6 F6 N7
    have hxl := odd_len hMM (pts3 hMM) hx
    clear F5 N5 N6 U U2
    walk_at "mk_go"
    have N8 : News g L h6 ((I, listOf ys.toArray k4) :: (Dd, listOf dvs.toArray kd) :: (Dm, listOf mvs.toArray km) :: (L + 1, oc) :: exs) := news_sub N7 fun q hq => .tail _ (.tail _ hq)
    have U : UpdF I (listOf ys.toArray k4) ((I, listOf ys.toArray k4) :: (Dd, listOf dvs.toArray kd) :: (Dm, listOf mvs.toArray km) :: (L + 1, oc) :: exs) (fun o' => (I, o') :: (Dd, listOf dvs.toArray kd) :: (Dm, listOf mvs.toArray km) :: (L + 1, oc) :: exs) := .head fun q hq => by
      rcases List.mem_cons.mp hq with rfl | hq
      · exact Ne.symm (oI _ (.head _))
      · rcases List.mem_cons.mp hq with rfl | hq
        · exact Ne.symm (oI _ (.tail _ (.head _)))
        · exact Ne.symm (oI q (.tail _ (.tail _ (.tail _ (.tail _ hq)))))
    refine set_any F6 N8 U (by omega) (by omega) ?_
    intro h8 F8 N9
    try dsimp only at N9
    clear F6 N7 N8 U
    have hs9 : StrsAre (ys.set r (.str (tx x) t6)) (((Ms.map spell).set r x).map tx) := by
      rw [List.map_set]
      exact StrsAre.set r hs
    have hsp : ∀ y ∈ (Ms.map spell).set r x, y.length ≤ 200000 := fun y hy => by
      rcases mem_of_set hy with hy | rfl
      · obtain ⟨M', h, rfl⟩ := List.mem_map.mp hy
        exact spell_len (masks_dg hM M' h).1 (masks_dg hM M' h).2
      · exact hxl
    have hsl := few_len hsp (by rw [List.length_set, List.length_map]; exact hl2) (Nat.le_refl _)
    have hjl := jn_len ((Ms.map spell).set r x)
    have hg1 : (dg mvs.length).length ≤ 4 := (dg_len (by decide)).mpr (by omega)
    have hg2 : (dg mvs.length).length ≤ 160 := by omega
    obtain ⟨d, hdt, hdp, hdg⟩ := odd_pc (w := w) (pts3 hMM) hx
    have hol := odd_line (w := w) hM (r := r) hdt
    rw [← hml] at hol
    walk_at "mk_go"
    refine wpAny_execs_cons ?_
    (repeat' ((fail_if_success tb_start); first | ((first | ((with_reducible show wpAny _ _ (binaryOp Operator.Add (Value.str (tx _) _) (Value.str (Str.ofString "\n") _)) _ _ _); refine add_tt (b := [10]) rfl (by decide) (by walk_at "mk_len") ?_; intros) | ((with_reducible show wpAny _ _ (binaryOp Operator.Add (Value.str (tx _) _) (Value.str (Str.ofString ": ") _)) _ _ _); refine add_tt (b := [58, 32]) rfl (by decide) (by walk_at "mk_len") ?_; intros) | ((with_reducible show wpAny _ _ (binaryOp Operator.Add (Value.str (Str.ofString "goto_masks ") _) (Value.str (tx _) _)) _ _ _); refine add_tt (a := [103, 111, 116, 111, 95, 109, 97, 115, 107, 115, 32]) (by decide) rfl (by walk_at "mk_len") ?_; intros) | ((with_reducible show wpAny _ _ (call (Value.type "str") [Value.int (Nat.cast _) _]) _ _ _); refine str_nat (by with_reducible assumption) ?_) | ((with_reducible show wpAny _ _ (call (Value.builtin "len") [Value.ref _]) _ _ _); refine len_led (by k_asm) (by k_dflt k_mem) (by first | omega | decide) ?_) | ((with_reducible show wpAny _ _ (binaryOp Operator.Add (Value.str (tx _) _) (Value.str (tx _) _)) _ _ _); refine add_tt rfl rfl (by walk_at "mk_len") ?_; intros) | ((with_reducible show wpAny _ _ (call (Value.builtin "str.join") [Value.str (Str.ofString " ") _, Value.ref _]) _ _ _); refine join_sp (by k_asm) (by k_dflt k_mem) (by with_reducible assumption) (by with_reducible assumption) ?_; intros) | tb_rel); (try dsimp only)) | walk_at "mk_tail" | (walk_at "mk_dl"; first | ((first | ((with_reducible show wpAny _ _ (binaryOp Operator.Add (Value.str (tx _) _) (Value.str (Str.ofString "\n") _)) _ _ _); refine add_tt (b := [10]) rfl (by decide) (by walk_at "mk_len") ?_; intros) | ((with_reducible show wpAny _ _ (binaryOp Operator.Add (Value.str (tx _) _) (Value.str (Str.ofString ": ") _)) _ _ _); refine add_tt (b := [58, 32]) rfl (by decide) (by walk_at "mk_len") ?_; intros) | ((with_reducible show wpAny _ _ (binaryOp Operator.Add (Value.str (Str.ofString "goto_masks ") _) (Value.str (tx _) _)) _ _ _); refine add_tt (a := [103, 111, 116, 111, 95, 109, 97, 115, 107, 115, 32]) (by decide) rfl (by walk_at "mk_len") ?_; intros) | ((with_reducible show wpAny _ _ (call (Value.type "str") [Value.int (Nat.cast _) _]) _ _ _); refine str_nat (by with_reducible assumption) ?_) | ((with_reducible show wpAny _ _ (call (Value.builtin "len") [Value.ref _]) _ _ _); refine len_led (by k_asm) (by k_dflt k_mem) (by first | omega | decide) ?_) | ((with_reducible show wpAny _ _ (binaryOp Operator.Add (Value.str (tx _) _) (Value.str (tx _) _)) _ _ _); refine add_tt rfl rfl (by walk_at "mk_len") ?_; intros) | ((with_reducible show wpAny _ _ (call (Value.builtin "str.join") [Value.str (Str.ofString " ") _, Value.ref _]) _ _ _); refine join_sp (by k_asm) (by k_dflt k_mem) (by with_reducible assumption) (by with_reducible assumption) ?_; intros) | tb_rel); (try dsimp only)) | walk1) | (walk_at "mk_late"; (try dsimp only))))
    have hds : ∀ q ∈ (Ms.map dueD).set r d, PcOK w q := fun q hq => by
      rcases mem_of_set hq with hq | rfl
      · obtain ⟨M', h, rfl⟩ := List.mem_map.mp hq
        exact (due_pc (w := w) (pts3 (hM.lt M' h))).2.1
      · exact hdp
    dsimp only [List.cons_append] at hol
    refine lread_ok (B := True) (ds := (Ms.map dueD).set r d) (many := mvs.length) (fun q hq => (hds q hq).ok) (fun q hq => (hds q hq).is) (fun q hq => (hds q hq).len) ?_ F8 N9 X T hfr rfl (lawKind L) hh ?_ ?_ ?_ hol ?_ ?_
    · rw [List.length_set, List.length_map]; omega
    · walk_at "mk_units"
    · walk_at "mk_room"
    · simp only [tx_length, List.length_cons, List.length_append, List.length_nil]; omega
    · intro h9 tk9 S9 ws e9 hg
      exact absurd (hg d (mem_set_self (by rw [List.length_map]; exact hr))) hdg
    · intro _ h9 tk9 F9 N10
      clear F8 N9
      walk_at "mk_go"
      exact ret _ _ F9.keep
end

theorem law_all (w : World) : Seg1 w := seg1 (seg3 (seg4 (seg5 (seg7 (seg8 (seg9 (seg10 seg11)))))))
section
variable {w : World} {p : Program} {loose : List Str} {mg mb : Str → Option Value} {A : Around} {s : Shared} {Q E : Value → Shared → Prop}
set_option pp.deepTerms false in
set_option maxHeartbeats 8000000 in
theorem law_ok {S0 : Addr} {vs : List Value} {zs : List Int} (hl : s.heap.IsList S0 vs.toArray) (hi : IntsAre vs zs) (hlen : zs.length ≤ 63)
    (X₀ : (Hd.KK w.params).In s.heap) (T₀ : TopRead p loose mg mb s.heap) (hfr : A.frames = some []) (hu : A.units + 400 < cLine) (hh : A.handled = none) (room : A.depth + 80 < recursionLimit)
    (ret : ∀ h' tk', (∀ b o, s.heap.get? b = some o → h'.get? b = some o) → Q (.bool true) { s with heap := h', toks := tk' }) :
    wpAny (model PySem.Challenge.rw_qd0064_01.row.prog w) A (call (.ref 458) [.ref S0]) Q E s := by
  have O : Own s.heap s.heap [] := ⟨fun _ _ e => e, (fun _ h => nomatch h), (fun _ h => nomatch h)⟩
  have G : Good w p loose mg mb s.heap := ⟨X₀, T₀⟩
  refine' enter_retC (binds := [(Str.ofString "script", .ref S0)]) G O ?h1 ?h2 (by walk_at "mk_room") ?h3 ?h4 ?h5 ?h ?c1 ?c2 ?c3
  case h1 => k_dflt k_is
  case h2 => k_dflt k_is
  case h3 => first | exact BindsTo.of_eq rfl | exact binds_K (Good.X (Good.keeps (by with_reducible assumption) (Own.st (by with_reducible assumption)))) rfl (by k_dflt k_is) rfl rfl rfl
  case h4 => rfl
  case h5 => decide
  case c1 => rfl
  case c2 => rfl
  case c3 => rfl
  intro L h₁ tk cells hL F N Y X T
  obtain ⟨o, rfl, hd0⟩ := CellsAre.one Y
  have hd : o.data = .cell none := hd0
  clear hd0 Y
  replace N : News _ L h₁ [(L + 1, o)] := N
  have hl2 := Heap.IsList.at hl (fun o e => O.hide _ _ e)
  show wpAny _ (A.deeper (lawEnv L)) (execs lawBody (lawEnv L)) _ _ _
  refine seg0 hl2 hi hlen hd ?_ F N ⟨X, T, Around.frames_deeper hfr, ?_, ?_, ?_⟩ (law_all w) ?_
  · rfl
  · walk_at "mk_units"
  · walk_at "mk_hh"
  · walk_at "mk_room"
  · exact fun h' tk' k => ret h' tk' fun b o e => k b o (O.hide _ _ e)
end
theorem hd2 (walk : ∀ d kwd, defOf Hd.q0 (Str.ofString "law") = some (d, kwd) → WalkO Hd.q0 Hd.loose0 (XL Hd.q0 []) Hd.H0.says (OpenRow.toRowW PySem.Challenge.rw_qd0064_01.row) d kwd fun f vs => PySem.call f vs) : PySem.Challenge.rw_qd0064_01.Holds := by
  refine holds_law Hd.said fun said' => ?_
  refine holds_open (q := Hd.q0) (loose := Hd.loose0) (Xt := Hd.X0) (XP := XL Hd.q0 []) (Yf := Hd.H0.obs) (Ya := Hd.H0.val) (YP := Hd.H0.says) (N := 6310) Hd.left0 Hd.H0.of Hd.H0.keeps (fun s e => xl_of s (Bool.and_eq_true_iff.mp e).1) XL.keeps (by rfl) (by rfl) (by rfl) (fun s e => recFacts_of (Bool.and_eq_true_iff.mp e).2) (by rfl) said' (by decide +kernel) ⟨rfl, rfl, rfl, rfl, rfl, by decide +kernel⟩ ?_ (walk _ _ rfl)
  w_witness2
set_option pp.deepTerms false in
set_option maxHeartbeats 8000000 in
theorem last : PySem.Challenge.rw_qd0064_01.Holds := by
  refine hd2 fun d kwd hdef => ?_
  intro w s₀ s₁ mg mb G Y a o pm cd doc dV kV ho hd hcd hD hmg hg args vals as hpre hlay hrd hwl hlo
  have KX : (Hd.KK w.params).In s₁.heap := kIn_of Y
  have hname := defOf_name hdef
  refine Ground.open G ?_
  intro T B D TE TW
  have TR := topRead_of T
  have e458 : nsIn (Hd.KK w.params) mainGlobals (Str.ofString "law") = some (some (.ref 458)) := by k_dflt k_is
  have h458 := mg_of KX TR.g e458
  rw [hname, h458] at hmg
  have ha : 458 = a := by injection hmg with h; injection h
  subst ha
  clear G Y ho hd hcd hD hmg T B D TE TW
  wrow_args hpre hlay hrd hwl hlo
  (with_reducible rename Heap.IsList _ _ _ => HL); (with_reducible rename IntsAre _ _ => HI); (with_reducible rename ¬ (_ < _) => HN)
  show wpAny _ callerA (call (.ref 458) [.ref _]) _ _ s₁
  refine law_ok HL HI (by omega) KX TR rfl (by decide +kernel) rfl (by decide +kernel) ?_
  intro h' tk' keep
  refine GoodW.toG ⟨.inl ⟨.bool true, .bool true, [], rfl, fun _ => rfl, .bool _, ?_, fun _ => ⟨.nil, fun _ h => nomatch h⟩⟩, keep, rfl, hg⟩
  show (WShape.has [] (.bool true) .bool && WTm.holds [] (.eq .res (.lit (.bool true))) _) = true
  refine Bool.and_eq_true_iff.mpr ⟨?_, ?_⟩
  · first | rfl | decide | decide +kernel
  · (unfold WTm.holds; simp only [WTm.value]; rw [PySem.W.same_self])

end Mk
theorem PySem.Challenge.cw_qd0064_01_holds : PySem.Challenge.rw_qd0064_01.Holds :=
  Mk.last
