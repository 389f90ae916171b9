import PyProof.Rows.All
import Wide.All
import OpenK.AllK
import Wide.FinOn
import PyProof.WalksPairs
import PyProof.ForAny
import OpenK.KCell
import OpenK.KApp
import PyProof.CompFree
import OpenK.KList
import PyProof.ExcArgs
import PySem.Challenge.RW_no0277_01
set_option Elab.async false
set_option maxRecDepth 100000
set_option maxHeartbeats 0
set_option linter.unusedVariables false
noncomputable section
open PySem PySem.W PySem.Calls PyProof.Rows
namespace Mine
noncomputable abbrev pg : Program := PySem.Challenge.rw_no0277_01.row.prog
noncomputable def nth : List Stmt → Nat → Stmt
  | [], _ => .Pass default
  | a :: _, 0 => a
  | _ :: r, n + 1 => nth r n
noncomputable def st (i : Nat) : Stmt := nth pg.main.body i
noncomputable def sub (s : Stmt) (i : Nat) : Stmt := match s with | .ClassDef _ _ _ b .. => nth b i | _ => .Pass default
noncomputable def fA (s : Stmt) : Arguments := match s with | .FunctionDef _ a .. => a | _ => default
noncomputable def fB (s : Stmt) : List Stmt := match s with | .FunctionDef _ _ b .. => b | _ => []
noncomputable def fS (s : Stmt) : Scope := match s with | .FunctionDef _ _ _ _ _ _ s .. => s | _ => default
noncomputable abbrev BN := BT.node
noncomputable abbrev BE := BT.nil
noncomputable abbrev LF (o : Obj) : BT := BT.node o BT.nil BT.nil
@[reducible] noncomputable def dE (P : Params) (s : Str) (t : Tok) (v : Value) : DictEntry := .mk (PyData.keyHash P s) (.str s t) v
noncomputable abbrev m0 : Nat := nat_lit 11
noncomputable abbrev ann : Option Value := (some (Value.ref 6))
noncomputable def env : Env := { scope := pg.main.scope, locals := mainNs, globals := mainNs, cells := [], code := (Value.ref 13), frame := some 14 }
noncomputable abbrev bE : List Stmt := [st 0, st 1, st 2, st 3, st 4, st 5, st 6, st 7, st 8, st 9, st 10, st 11, st 12, st 13, st 14, st 15, st 16, st 17, st 18, st 19, st 20, st 21, st 22, st 23, st 24, st 25, st 26, st 27, st 28, st 29, st 30, st 31, st 32, st 33, st 34, st 35, st 36, st 37, st 38, st 39, st 40, st 41, st 42, st 43, st 44, st 45, st 46, st 47, st 48, st 49, st 50, st 51, st 52, st 53, st 54, st 55, st 56, st 57, st 58, st 59, st 60, st 61, st 62, st 63, st 64, st 65, st 66, st 67, st 68, st 69, st 70, st 71, st 72, st 73, st 74, st 75, st 76]
noncomputable abbrev cE : Code := Code.body bE env
noncomputable abbrev qE : Pos := (Pos.mk 0 0 0 0)
noncomputable abbrev fE : List Frame := [topFrame qE]
noncomputable abbrev G00 (w : World) (os : OsState) : Shared := Shared.mk (boot_heap w.params) (Array.mk []) boot_drawn boot_toks os
noncomputable def o0 : Obj := .mk (.type "tuple") none (.seq #[] 0) #[]
noncomputable def o1 : Obj := .mk .none none (.fields #[]) #[]
noncomputable def o2 : Obj := .mk (.type "code") none (.fields #[.str "<module>" 182, .str "<module>" 183, .str "/claim/cut.py" 184, .int 1 0, .int 0 0, .int 0 0, .int 0 0, .int 0 0, .ref 11, .bool false, .int 181 0, .ref 12, .none, .none, .none, .none, .int 185 0, .int 1 0, .str "/claim/cut.py" 186]) #[]
noncomputable def o3 : Obj := .mk (.type "frame") none .plain #[(some (.ref 13)), (some (.ref 3)), (some (.ref 3)), none, (some (.str "__main__" 164)), none, (some (.ref 0))]
noncomputable def Ha (P : Params) : Heap := Heap.mk (Array.mk [boot_o_0 P, boot_o_1 P, boot_o_2 P, boot_o_3 P, boot_o_4 P, boot_o_5 P, boot_o_6 P, boot_o_7 P, boot_o_8 P, boot_o_9 P, boot_o_10 P, o0, o1, o2, o3]) (Life.mk [] [] [] 0 [] [] false #[] [] 0 false false false 0 [2000, 10, 10] false 0 true [] [] 0 false)
noncomputable abbrev Ga (w : World) (os : OsState) : Shared := Shared.mk (Ha w.params) #[] (Drawn.mk 0 0 0 0) (nat_lit 187) os
theorem pre (w : World) : (fun os => topGo treeTable pg w m0 ann (nat_lit 12) (G00 w os) (topStub pg)) = fun os => some (Ga w os, Thread.mk (denote treeTable cE) cE (Pos.mk 0 0 0 0) fE) := by (try rewrite [Fast.te15667345088766844465]); (try rewrite [Fast.te14364793385576792824]); (try rewrite [Fast.te11892475500146522536]); kernel_rfl
noncomputable def t0 (P : Params) : BT := (BN (boot_o_0 P) (BN (boot_o_1 P) (BN (boot_o_3 P) (LF (boot_o_7 P)) (LF o0)) (BN (boot_o_5 P) (LF (boot_o_9 P)) (LF o2))) (BN (boot_o_2 P) (BN (boot_o_4 P) (LF (boot_o_8 P)) (LF o1)) (BN (boot_o_6 P) (LF (boot_o_10 P)) (LF o3))))
noncomputable abbrev S0 (w : World) (os : OsState) : SharedT := SharedT.mk (t0 w.params) (nat_lit 15) (Life.mk [] [] [] 0 [] [] false #[] [] 0 false false false 0 [2000, 10, 10] false 0 true [] [] 0 false) #[] (Drawn.mk 0 0 0 0) (nat_lit 187) os
theorem block (w : World) : (fun os => segRun treeTable pg w m0 ann 1 (nat_lit 1) (Ga w os) (blockOf bE env cE (Pos.mk 0 0 0 0) fE)) = fun os => some (Flow.next, (S0 w os).abs, cE, (Pos.mk 0 0 0 0)) := by (try rewrite [Fast.te14374325043358763698]); (try rewrite [Fast.te14364793385576792824]); kernel_rfl
noncomputable def o4 (P : Params) : Obj := .mk .none none (.dict #[dE P "type.__subclasses__.Exception.0" 214 (.int 31 0), dE P "type.__subclasses__.Exception.n" 215 (.int 1 0)] 2) #[]
noncomputable def o5 (P : Params) : Obj := .mk (.type "dict") none (.dict #[dE P "__name__" 165 (.str "f77.errors" 187), dE P "__doc__" 166 .none, dE P "__package__" 167 .none, dE P "__loader__" 168 (.builtin "__main__.__loader__#opaque"), dE P "__spec__" 169 .none, dE P "__annotations__" 170 (.ref 6), dE P "__builtins__" 171 (.ref 4), dE P "__file__" 173 (.str "/claim/cut.py" 172), dE P "__cached__" 174 .none, dE P "F77Error" 217 (.ref 31)] 10) #[]
noncomputable def o6 : Obj := .mk .none none (.fields #[.int 2 0, .int 0 0, .ref 20]) #[]
noncomputable def o7 : Obj := .mk (.type "tuple") none (.seq #[.type "Exception"] 0) #[]
noncomputable def o8 : Obj := .mk (.type "builtin_function_or_method") none (.fields #[.builtin "type.__prepare__", .type "type"]) #[]
noncomputable def o9 (P : Params) : Obj := .mk (.type "dict") none (.dict #[dE P "__module__" 196 (.str "f77.errors" 187), dE P "__qualname__" 198 (.str "F77Error" 197), dE P "__firstlineno__" 200 (.int 2 199), dE P "__init__" 208 (.ref 28), dE P "__static_attributes__" 210 (.ref 29)] 5) #[]
noncomputable def o10 : Obj := .mk (.type "tuple") none (.seq #[] 0) #[]
noncomputable def o11 : Obj := .mk .none none (.fields #[.int 4 0, .int 4 0, .ref 27]) #[]
noncomputable def o12 : Obj := .mk (.type "code") none (.fields #[.str "F77Error" 191, .str "F77Error" 192, .str "/claim/cut.py" 193, .int 2 0, .int 0 0, .int 0 0, .int 0 0, .int 0 0, .ref 18, .bool false, .int 181 0, .ref 19, .none, .none, .none, .none, .int 194 0, .int 2 0, .str "/claim/cut.py" 195]) #[]
noncomputable def o13 : Obj := .mk (.type "frame") none .plain #[(some (.ref 20)), (some (.ref 3)), (some (.ref 17)), none, (some (.str "f77.errors" 187)), none, (some (.ref 0))]
noncomputable def o14 : Obj := .mk (.type "tuple") none (.seq #[] 0) #[]
noncomputable def o15 : Obj := .mk .none none (.fields #[]) #[]
noncomputable def o16 : Obj := .mk (.type "tuple") none (.seq #[.str "self" 204, .str "text" 205] 0) #[]
noncomputable def o17 : Obj := .mk (.type "tuple") none (.seq #[] 0) #[]
noncomputable def o18 : Obj := .mk .none none (.func (FuncData.mk "__init__" "F77Error.__init__" (fA (sub (st 1) 0)) (FuncBody.stmts (fB (sub (st 1) 0))) (fS (sub (st 1) 0)) 0 [] .none .none .none .none none .none .none 0)) #[]
noncomputable def o19 : Obj := .mk (.type "code") none (.fields #[.str "__init__" 201, .str "F77Error.__init__" 202, .str "/claim/cut.py" 203, .int 4 0, .int 2 0, .int 0 0, .int 0 0, .int 3 0, .ref 22, .bool true, .int 181 0, .ref 23, .none, .ref 24, .ref 25, .ref 26, .int 206 0, .int 4 0, .str "/claim/cut.py" 207]) #[]
noncomputable def o20 : Obj := .mk (.type "function") none (.func (FuncData.mk "__init__" "F77Error.__init__" (fA (sub (st 1) 0)) (FuncBody.stmts (fB (sub (st 1) 0))) (fS (sub (st 1) 0)) 3 [] .none .none .none (.str "f77.errors" 187) none (.ref 27) .none 0)) #[]
noncomputable def o21 : Obj := .mk (.type "tuple") none (.seq #[.str "text" 209] 0) #[]
noncomputable def o22 (P : Params) : Obj := .mk (.type "dict") none (.dict #[dE P "__module__" 196 (.str "f77.errors" 187), dE P "__firstlineno__" 200 (.int 2 199), dE P "__init__" 208 (.ref 28), dE P "__static_attributes__" 210 (.ref 29), dE P "__weakref__" 212 (.ref 32), dE P "__doc__" 213 .none] 3) #[]
noncomputable def o23 : Obj := .mk (.type "type") none (.cls (ClassData.mk "F77Error" [.type "Exception"] [.ref 31, .type "Exception", .type "BaseException", .type "object"] 30 "F77Error" true [] [] false none false)) #[(some (.ref 15)), none, (some (.str "F77Error" 189)), (some (.str "F77Error" 197)), (some (.builtin "Exception.__new__")), (some (.bool true))]
noncomputable def o24 : Obj := .mk (.type "getset_descriptor") none (.fields #[.str "__weakref__" 211, .ref 31, .builtin "ExceptionGroup.__weakref__", .none]) #[]
noncomputable def o25 : Obj := .mk (.type "super") none (.fields #[.ref 31, .ref 31, .ref 31]) #[]
noncomputable def o26 : Obj := .mk (.type "builtin_function_or_method") none (.fields #[.builtin "object.__init_subclass__", .ref 31]) #[]
noncomputable def t1 (P : Params) : BT := (BN (boot_o_0 P) (BN (boot_o_1 P) (BN (o5 P) (BN (boot_o_7 P) (BN o7 (LF o23) BE) (LF o15)) (BN o0 (LF o11) (LF o19))) (BN (boot_o_5 P) (BN (boot_o_9 P) (BN (o9 P) (LF o25) BE) (LF o17)) (BN o2 (LF o13) (LF o21)))) (BN (o4 P) (BN (boot_o_4 P) (BN (boot_o_8 P) (BN o8 (LF o24) BE) (LF o16)) (BN o6 (LF o12) (LF o20))) (BN (boot_o_6 P) (BN (boot_o_10 P) (BN o10 (LF o26) BE) (LF o18)) (BN o3 (LF o14) (LF (o22 P))))))
noncomputable abbrev S1 (w : World) (os : OsState) : SharedT := SharedT.mk (t1 w.params) (nat_lit 35) (Life.mk [] [] [] 0 [] [] false #[] [] 0 false false false 0 [2000, 10, 10] false 0 true [] [] 0 false) #[] (Drawn.mk 0 0 0 0) (nat_lit 218) os
noncomputable abbrev sts1 : List Stmt := [st 0, st 1]
theorem pc1 (w : World) : (fun os => segRunT treeTable pg w m0 ann 1 (nat_lit 238) (S0 w os) (piecesOf sts1 env cE (Pos.mk 0 0 0 0) fE)) = fun os => some (Flow.next, S1 w os, cE, (Pos.mk 2 0 6 24)) := by (try rewrite [Fast.te10110043849684766642]); (try rewrite [Fast.te14364793385576792824]); kernel_rfl
noncomputable def o27 (P : Params) : Obj := .mk (.type "dict") none (.dict #[dE P "__name__" 165 (.str "f77.errors" 187), dE P "__doc__" 166 .none, dE P "__package__" 167 .none, dE P "__loader__" 168 (.builtin "__main__.__loader__#opaque"), dE P "__spec__" 169 .none, dE P "__annotations__" 170 (.ref 6), dE P "__builtins__" 171 (.ref 4), dE P "__file__" 173 (.str "/claim/cut.py" 172), dE P "__cached__" 174 .none, dE P "F77Error" 217 (.ref 31), dE P "RunFault" 233 (.ref 44)] 11) #[]
noncomputable def o28 : Obj := .mk .none none (.fields #[.int 2 0, .int 0 0, .ref 20, .int 7 0, .int 0 0, .ref 40]) #[]
noncomputable def o29 : Obj := .mk (.type "type") none (.cls (ClassData.mk "F77Error" [.type "Exception"] [.ref 31, .type "Exception", .type "BaseException", .type "object"] 30 "F77Error" true [] [.ref 44] false none false)) #[(some (.ref 15)), none, (some (.str "F77Error" 189)), (some (.str "F77Error" 197)), (some (.builtin "Exception.__new__")), (some (.bool true))]
noncomputable def o30 : Obj := .mk (.type "tuple") none (.seq #[.ref 31] 0) #[]
noncomputable def o31 : Obj := .mk (.type "builtin_function_or_method") none (.fields #[.builtin "type.__prepare__", .type "type"]) #[]
noncomputable def o32 (P : Params) : Obj := .mk (.type "dict") none (.dict #[dE P "__module__" 225 (.str "f77.errors" 187), dE P "__qualname__" 227 (.str "RunFault" 226), dE P "__firstlineno__" 229 (.int 7 228), dE P "__static_attributes__" 230 (.ref 42)] 4) #[]
noncomputable def o33 : Obj := .mk (.type "tuple") none (.seq #[] 0) #[]
noncomputable def o34 : Obj := .mk .none none (.fields #[]) #[]
noncomputable def o35 : Obj := .mk (.type "code") none (.fields #[.str "RunFault" 220, .str "RunFault" 221, .str "/claim/cut.py" 222, .int 7 0, .int 0 0, .int 0 0, .int 0 0, .int 0 0, .ref 38, .bool false, .int 181 0, .ref 39, .none, .none, .none, .none, .int 223 0, .int 7 0, .str "/claim/cut.py" 224]) #[]
noncomputable def o36 : Obj := .mk (.type "frame") none .plain #[(some (.ref 40)), (some (.ref 3)), (some (.ref 37)), none, (some (.str "f77.errors" 187)), none, (some (.ref 0))]
noncomputable def o37 : Obj := .mk (.type "tuple") none (.seq #[] 0) #[]
noncomputable def o38 (P : Params) : Obj := .mk (.type "dict") none (.dict #[dE P "__module__" 225 (.str "f77.errors" 187), dE P "__firstlineno__" 229 (.int 7 228), dE P "__static_attributes__" 230 (.ref 42), dE P "__doc__" 231 .none] 2) #[]
noncomputable def o39 : Obj := .mk (.type "type") none (.cls (ClassData.mk "RunFault" [.ref 31] [.ref 44, .ref 31, .type "Exception", .type "BaseException", .type "object"] 43 "RunFault" true [] [] false none false)) #[(some (.ref 35)), none, (some (.str "RunFault" 218)), (some (.str "RunFault" 226)), (some (.builtin "Exception.__new__")), (some (.bool true))]
noncomputable def o40 : Obj := .mk (.type "super") none (.fields #[.ref 44, .ref 44, .ref 44]) #[]
noncomputable def o41 : Obj := .mk (.type "builtin_function_or_method") none (.fields #[.builtin "object.__init_subclass__", .ref 44]) #[]
noncomputable def t2 (P : Params) : BT := (BN (boot_o_0 P) (BN (boot_o_1 P) (BN (o27 P) (BN (boot_o_7 P) (BN o7 (LF o29) BE) (BN o15 (LF o34) BE)) (BN o0 (BN o11 (LF o30) BE) (BN o19 (LF (o38 P)) BE))) (BN (boot_o_5 P) (BN (boot_o_9 P) (BN (o9 P) (LF o25) BE) (BN o17 (LF o36) BE)) (BN o2 (BN o13 (LF (o32 P)) BE) (BN o21 (LF o40) BE)))) (BN (o4 P) (BN (boot_o_4 P) (BN (boot_o_8 P) (BN o8 (LF o24) BE) (BN o16 (LF o35) BE)) (BN o28 (BN o12 (LF o31) BE) (BN o20 (LF o39) BE))) (BN (boot_o_6 P) (BN (boot_o_10 P) (BN o10 (LF o26) BE) (BN o18 (LF o37) BE)) (BN o3 (BN o14 (LF o33) BE) (BN (o22 P) (LF o41) BE)))))
noncomputable abbrev S2 (w : World) (os : OsState) : SharedT := SharedT.mk (t2 w.params) (nat_lit 47) (Life.mk [] [] [] 0 [] [] false #[] [] 0 false false false 0 [2000, 10, 10] false 0 true [] [] 0 false) #[] (Drawn.mk 0 0 0 0) (nat_lit 234) os
noncomputable abbrev sts2 : List Stmt := [st 2]
theorem pc2 (w : World) : (fun os => segRunT treeTable pg w m0 ann 1 (nat_lit 214) (S1 w os) (piecesOf sts2 env cE (Pos.mk 2 0 6 24) fE)) = fun os => some (Flow.next, S2 w os, cE, (Pos.mk 7 0 8 8)) := by (try rewrite [Fast.te10110043849684766642]); (try rewrite [Fast.te14364793385576792824]); kernel_rfl
noncomputable def o42 (P : Params) : Obj := .mk (.type "dict") none (.dict #[dE P "__name__" 165 (.str "f77.errors" 187), dE P "__doc__" 166 .none, dE P "__package__" 167 .none, dE P "__loader__" 168 (.builtin "__main__.__loader__#opaque"), dE P "__spec__" 169 .none, dE P "__annotations__" 170 (.ref 6), dE P "__builtins__" 171 (.ref 4), dE P "__file__" 173 (.str "/claim/cut.py" 172), dE P "__cached__" 174 .none, dE P "F77Error" 217 (.ref 31), dE P "RunFault" 233 (.ref 44), dE P "FormatFault" 259 (.ref 63)] 12) #[]
noncomputable def o43 : Obj := .mk .none none (.fields #[.int 2 0, .int 0 0, .ref 20, .int 7 0, .int 0 0, .ref 40, .int 9 0, .int 0 0, .ref 52]) #[]
noncomputable def o44 : Obj := .mk (.type "type") none (.cls (ClassData.mk "F77Error" [.type "Exception"] [.ref 31, .type "Exception", .type "BaseException", .type "object"] 30 "F77Error" true [] [.ref 44, .ref 63] false none false)) #[(some (.ref 15)), none, (some (.str "F77Error" 189)), (some (.str "F77Error" 197)), (some (.builtin "Exception.__new__")), (some (.bool true))]
noncomputable def o45 : Obj := .mk (.type "tuple") none (.seq #[.ref 31] 0) #[]
noncomputable def o46 : Obj := .mk (.type "builtin_function_or_method") none (.fields #[.builtin "type.__prepare__", .type "type"]) #[]
noncomputable def o47 (P : Params) : Obj := .mk (.type "dict") none (.dict #[dE P "__module__" 241 (.str "f77.errors" 187), dE P "__qualname__" 243 (.str "FormatFault" 242), dE P "__firstlineno__" 245 (.int 9 244), dE P "__init__" 254 (.ref 60), dE P "__static_attributes__" 256 (.ref 61)] 5) #[]
noncomputable def o48 : Obj := .mk (.type "tuple") none (.seq #[] 0) #[]
noncomputable def o49 : Obj := .mk .none none (.fields #[.int 11 0, .int 4 0, .ref 59]) #[]
noncomputable def o50 : Obj := .mk (.type "code") none (.fields #[.str "FormatFault" 236, .str "FormatFault" 237, .str "/claim/cut.py" 238, .int 9 0, .int 0 0, .int 0 0, .int 0 0, .int 0 0, .ref 50, .bool false, .int 181 0, .ref 51, .none, .none, .none, .none, .int 239 0, .int 9 0, .str "/claim/cut.py" 240]) #[]
noncomputable def o51 : Obj := .mk (.type "frame") none .plain #[(some (.ref 52)), (some (.ref 3)), (some (.ref 49)), none, (some (.str "f77.errors" 187)), none, (some (.ref 0))]
noncomputable def o52 : Obj := .mk (.type "tuple") none (.seq #[] 0) #[]
noncomputable def o53 : Obj := .mk .none none (.fields #[]) #[]
noncomputable def o54 : Obj := .mk (.type "tuple") none (.seq #[.str "self" 249, .str "at" 250, .str "text" 251] 0) #[]
noncomputable def o55 : Obj := .mk (.type "tuple") none (.seq #[] 0) #[]
noncomputable def o56 : Obj := .mk .none none (.func (FuncData.mk "__init__" "FormatFault.__init__" (fA (sub (st 3) 0)) (FuncBody.stmts (fB (sub (st 3) 0))) (fS (sub (st 3) 0)) 0 [] .none .none .none .none none .none .none 0)) #[]
noncomputable def o57 : Obj := .mk (.type "code") none (.fields #[.str "__init__" 246, .str "FormatFault.__init__" 247, .str "/claim/cut.py" 248, .int 11 0, .int 3 0, .int 0 0, .int 0 0, .int 3 0, .ref 54, .bool true, .int 181 0, .ref 55, .none, .ref 56, .ref 57, .ref 58, .int 252 0, .int 11 0, .str "/claim/cut.py" 253]) #[]
noncomputable def o58 : Obj := .mk (.type "function") none (.func (FuncData.mk "__init__" "FormatFault.__init__" (fA (sub (st 3) 0)) (FuncBody.stmts (fB (sub (st 3) 0))) (fS (sub (st 3) 0)) 3 [] .none .none .none (.str "f77.errors" 187) none (.ref 59) .none 0)) #[]
noncomputable def o59 : Obj := .mk (.type "tuple") none (.seq #[.str "at" 255] 0) #[]
noncomputable def o60 (P : Params) : Obj := .mk (.type "dict") none (.dict #[dE P "__module__" 241 (.str "f77.errors" 187), dE P "__firstlineno__" 245 (.int 9 244), dE P "__init__" 254 (.ref 60), dE P "__static_attributes__" 256 (.ref 61), dE P "__doc__" 257 .none] 2) #[]
noncomputable def o61 : Obj := .mk (.type "type") none (.cls (ClassData.mk "FormatFault" [.ref 31] [.ref 63, .ref 31, .type "Exception", .type "BaseException", .type "object"] 62 "FormatFault" true [] [] false none false)) #[(some (.ref 47)), none, (some (.str "FormatFault" 234)), (some (.str "FormatFault" 242)), (some (.builtin "Exception.__new__")), (some (.bool true))]
noncomputable def o62 : Obj := .mk (.type "super") none (.fields #[.ref 63, .ref 63, .ref 63]) #[]
noncomputable def o63 : Obj := .mk (.type "builtin_function_or_method") none (.fields #[.builtin "object.__init_subclass__", .ref 63]) #[]
noncomputable def t3 (P : Params) : BT := (BN (boot_o_0 P) (BN (boot_o_1 P) (BN (o42 P) (BN (boot_o_7 P) (BN o7 (BN o44 (LF o61) BE) (LF o45)) (BN o15 (LF o34) (LF o53))) (BN o0 (BN o11 (LF o30) (LF o49)) (BN o19 (LF (o38 P)) (LF o57)))) (BN (boot_o_5 P) (BN (boot_o_9 P) (BN (o9 P) (BN o25 (LF o63) BE) (LF (o47 P))) (BN o17 (LF o36) (LF o55))) (BN o2 (BN o13 (LF (o32 P)) (LF o51)) (BN o21 (LF o40) (LF o59))))) (BN (o4 P) (BN (boot_o_4 P) (BN (boot_o_8 P) (BN o8 (BN o24 (LF o62) BE) (LF o46)) (BN o16 (LF o35) (LF o54))) (BN o43 (BN o12 (LF o31) (LF o50)) (BN o20 (LF o39) (LF o58)))) (BN (boot_o_6 P) (BN (boot_o_10 P) (BN o10 (LF o26) (LF o48)) (BN o18 (LF o37) (LF o56))) (BN o3 (BN o14 (LF o33) (LF o52)) (BN (o22 P) (LF o41) (LF (o60 P)))))))
noncomputable abbrev S3 (w : World) (os : OsState) : SharedT := SharedT.mk (t3 w.params) (nat_lit 66) (Life.mk [] [] [] 0 [] [] false #[] [] 0 false false false 0 [2000, 10, 10] false 0 true [] [] 0 false) #[] (Drawn.mk 0 0 0 0) (nat_lit 260) os
noncomputable abbrev sts3 : List Stmt := [st 3]
theorem pc3 (w : World) : (fun os => segRunT treeTable pg w m0 ann 1 (nat_lit 247) (S2 w os) (piecesOf sts3 env cE (Pos.mk 7 0 8 8) fE)) = fun os => some (Flow.next, S3 w os, cE, (Pos.mk 9 0 13 20)) := by (try rewrite [Fast.te10110043849684766642]); (try rewrite [Fast.te14364793385576792824]); kernel_rfl
noncomputable def o64 (P : Params) : Obj := .mk (.type "dict") none (.dict #[dE P "__name__" 165 (.str "f77.errors" 187), dE P "__doc__" 166 .none, dE P "__package__" 167 .none, dE P "__loader__" 168 (.builtin "__main__.__loader__#opaque"), dE P "__spec__" 169 .none, dE P "__annotations__" 170 (.ref 6), dE P "__builtins__" 171 (.ref 4), dE P "__file__" 173 (.str "/claim/cut.py" 172), dE P "__cached__" 174 .none, dE P "F77Error" 217 (.ref 31), dE P "RunFault" 233 (.ref 44), dE P "FormatFault" 259 (.ref 63), dE P "IoFault" 285 (.ref 82)] 13) #[]
noncomputable def o65 : Obj := .mk .none none (.fields #[.int 2 0, .int 0 0, .ref 20, .int 7 0, .int 0 0, .ref 40, .int 9 0, .int 0 0, .ref 52, .int 14 0, .int 0 0, .ref 71]) #[]
noncomputable def o66 : Obj := .mk (.type "type") none (.cls (ClassData.mk "F77Error" [.type "Exception"] [.ref 31, .type "Exception", .type "BaseException", .type "object"] 30 "F77Error" true [] [.ref 44, .ref 63, .ref 82] false none false)) #[(some (.ref 15)), none, (some (.str "F77Error" 189)), (some (.str "F77Error" 197)), (some (.builtin "Exception.__new__")), (some (.bool true))]
noncomputable def o67 : Obj := .mk (.type "tuple") none (.seq #[.ref 31] 0) #[]
noncomputable def o68 : Obj := .mk (.type "builtin_function_or_method") none (.fields #[.builtin "type.__prepare__", .type "type"]) #[]
noncomputable def o69 (P : Params) : Obj := .mk (.type "dict") none (.dict #[dE P "__module__" 267 (.str "f77.errors" 187), dE P "__qualname__" 269 (.str "IoFault" 268), dE P "__firstlineno__" 271 (.int 14 270), dE P "__init__" 280 (.ref 79), dE P "__static_attributes__" 282 (.ref 80)] 5) #[]
noncomputable def o70 : Obj := .mk (.type "tuple") none (.seq #[] 0) #[]
noncomputable def o71 : Obj := .mk .none none (.fields #[.int 16 0, .int 4 0, .ref 78]) #[]
noncomputable def o72 : Obj := .mk (.type "code") none (.fields #[.str "IoFault" 262, .str "IoFault" 263, .str "/claim/cut.py" 264, .int 14 0, .int 0 0, .int 0 0, .int 0 0, .int 0 0, .ref 69, .bool false, .int 181 0, .ref 70, .none, .none, .none, .none, .int 265 0, .int 14 0, .str "/claim/cut.py" 266]) #[]
noncomputable def o73 : Obj := .mk (.type "frame") none .plain #[(some (.ref 71)), (some (.ref 3)), (some (.ref 68)), none, (some (.str "f77.errors" 187)), none, (some (.ref 0))]
noncomputable def o74 : Obj := .mk (.type "tuple") none (.seq #[] 0) #[]
noncomputable def o75 : Obj := .mk .none none (.fields #[]) #[]
noncomputable def o76 : Obj := .mk (.type "tuple") none (.seq #[.str "self" 275, .str "code" 276, .str "text" 277] 0) #[]
noncomputable def o77 : Obj := .mk (.type "tuple") none (.seq #[] 0) #[]
noncomputable def o78 : Obj := .mk .none none (.func (FuncData.mk "__init__" "IoFault.__init__" (fA (sub (st 4) 0)) (FuncBody.stmts (fB (sub (st 4) 0))) (fS (sub (st 4) 0)) 0 [] .none .none .none .none none .none .none 0)) #[]
noncomputable def o79 : Obj := .mk (.type "code") none (.fields #[.str "__init__" 272, .str "IoFault.__init__" 273, .str "/claim/cut.py" 274, .int 16 0, .int 3 0, .int 0 0, .int 0 0, .int 3 0, .ref 73, .bool true, .int 181 0, .ref 74, .none, .ref 75, .ref 76, .ref 77, .int 278 0, .int 16 0, .str "/claim/cut.py" 279]) #[]
noncomputable def o80 : Obj := .mk (.type "function") none (.func (FuncData.mk "__init__" "IoFault.__init__" (fA (sub (st 4) 0)) (FuncBody.stmts (fB (sub (st 4) 0))) (fS (sub (st 4) 0)) 3 [] .none .none .none (.str "f77.errors" 187) none (.ref 78) .none 0)) #[]
noncomputable def o81 : Obj := .mk (.type "tuple") none (.seq #[.str "code" 281] 0) #[]
noncomputable def o82 (P : Params) : Obj := .mk (.type "dict") none (.dict #[dE P "__module__" 267 (.str "f77.errors" 187), dE P "__firstlineno__" 271 (.int 14 270), dE P "__init__" 280 (.ref 79), dE P "__static_attributes__" 282 (.ref 80), dE P "__doc__" 283 .none] 2) #[]
noncomputable def o83 : Obj := .mk (.type "type") none (.cls (ClassData.mk "IoFault" [.ref 31] [.ref 82, .ref 31, .type "Exception", .type "BaseException", .type "object"] 81 "IoFault" true [] [] false none false)) #[(some (.ref 66)), none, (some (.str "IoFault" 260)), (some (.str "IoFault" 268)), (some (.builtin "Exception.__new__")), (some (.bool true))]
noncomputable def o84 : Obj := .mk (.type "super") none (.fields #[.ref 82, .ref 82, .ref 82]) #[]
noncomputable def o85 : Obj := .mk (.type "builtin_function_or_method") none (.fields #[.builtin "object.__init_subclass__", .ref 82]) #[]
noncomputable def t4 (P : Params) : BT := (BN (boot_o_0 P) (BN (boot_o_1 P) (BN (o64 P) (BN (boot_o_7 P) (BN o7 (BN o66 (LF o61) BE) (BN o45 (LF o80) BE)) (BN o15 (BN o34 (LF o72) BE) (LF o53))) (BN o0 (BN o11 (BN o30 (LF o68) BE) (BN o49 (LF o84) BE)) (BN o19 (BN (o38 P) (LF o76) BE) (LF o57)))) (BN (boot_o_5 P) (BN (boot_o_9 P) (BN (o9 P) (BN o25 (LF o63) BE) (BN (o47 P) (LF (o82 P)) BE)) (BN o17 (BN o36 (LF o74) BE) (LF o55))) (BN o2 (BN o13 (BN (o32 P) (LF o70) BE) (LF o51)) (BN o21 (BN o40 (LF o78) BE) (LF o59))))) (BN (o4 P) (BN (boot_o_4 P) (BN (boot_o_8 P) (BN o8 (BN o24 (LF o62) BE) (BN o46 (LF o81) BE)) (BN o16 (BN o35 (LF o73) BE) (LF o54))) (BN o65 (BN o12 (BN o31 (LF (o69 P)) BE) (BN o50 (LF o85) BE)) (BN o20 (BN o39 (LF o77) BE) (LF o58)))) (BN (boot_o_6 P) (BN (boot_o_10 P) (BN o10 (BN o26 (LF o67) BE) (BN o48 (LF o83) BE)) (BN o18 (BN o37 (LF o75) BE) (LF o56))) (BN o3 (BN o14 (BN o33 (LF o71) BE) (LF o52)) (BN (o22 P) (BN o41 (LF o79) BE) (LF (o60 P)))))))
noncomputable abbrev S4 (w : World) (os : OsState) : SharedT := SharedT.mk (t4 w.params) (nat_lit 85) (Life.mk [] [] [] 0 [] [] false #[] [] 0 false false false 0 [2000, 10, 10] false 0 true [] [] 0 false) #[] (Drawn.mk 0 0 0 0) (nat_lit 286) os
noncomputable abbrev sts4 : List Stmt := [st 4]
theorem pc4 (w : World) : (fun os => segRunT treeTable pg w m0 ann 1 (nat_lit 247) (S3 w os) (piecesOf sts4 env cE (Pos.mk 9 0 13 20) fE)) = fun os => some (Flow.next, S4 w os, cE, (Pos.mk 14 0 18 24)) := by (try rewrite [Fast.te10110043849684766642]); (try rewrite [Fast.te14364793385576792824]); kernel_rfl
noncomputable def o86 (P : Params) : Obj := .mk (.type "dict") none (.dict #[dE P "__name__" 165 (.str "f77.reals" 322), dE P "__doc__" 166 .none, dE P "__package__" 167 .none, dE P "__loader__" 168 (.builtin "__main__.__loader__#opaque"), dE P "__spec__" 169 .none, dE P "__annotations__" 170 (.ref 6), dE P "__builtins__" 171 (.ref 4), dE P "__file__" 173 (.str "/claim/cut.py" 172), dE P "__cached__" 174 .none, dE P "F77Error" 217 (.ref 31), dE P "RunFault" 233 (.ref 44), dE P "FormatFault" 259 (.ref 63), dE P "IoFault" 285 (.ref 82), dE P "EndFault" 309 (.ref 101), dE P "INTEGER" 311 (.int 0 310), dE P "REAL" 313 (.int 1 312), dE P "DOUBLE" 315 (.int 2 314), dE P "COMPLEX" 317 (.int 3 316), dE P "LOGICAL" 319 (.int 4 318), dE P "CHARACTER" 321 (.int 5 320), dE P "NOUGHT" 326 (.ref 104), dE P "FIGURES" 328 (.str "0123456789" 327), dE P "count_digits" 336 (.ref 111)] 23) #[]
noncomputable def o87 : Obj := .mk .none none (.fields #[.int 2 0, .int 0 0, .ref 20, .int 7 0, .int 0 0, .ref 40, .int 9 0, .int 0 0, .ref 52, .int 14 0, .int 0 0, .ref 71, .int 19 0, .int 0 0, .ref 90, .int 32 0, .int 0 0, .ref 110]) #[]
noncomputable def o88 : Obj := .mk (.type "type") none (.cls (ClassData.mk "IoFault" [.ref 31] [.ref 82, .ref 31, .type "Exception", .type "BaseException", .type "object"] 81 "IoFault" true [] [.ref 101] false none false)) #[(some (.ref 66)), none, (some (.str "IoFault" 260)), (some (.str "IoFault" 268)), (some (.builtin "Exception.__new__")), (some (.bool true))]
noncomputable def o89 : Obj := .mk (.type "tuple") none (.seq #[.ref 82] 0) #[]
noncomputable def o90 : Obj := .mk (.type "builtin_function_or_method") none (.fields #[.builtin "type.__prepare__", .type "type"]) #[]
noncomputable def o91 (P : Params) : Obj := .mk (.type "dict") none (.dict #[dE P "__module__" 293 (.str "f77.errors" 187), dE P "__qualname__" 295 (.str "EndFault" 294), dE P "__firstlineno__" 297 (.int 19 296), dE P "__init__" 305 (.ref 98), dE P "__static_attributes__" 306 (.ref 99)] 5) #[]
noncomputable def o92 : Obj := .mk (.type "tuple") none (.seq #[] 0) #[]
noncomputable def o93 : Obj := .mk .none none (.fields #[.int 21 0, .int 4 0, .ref 97]) #[]
noncomputable def o94 : Obj := .mk (.type "code") none (.fields #[.str "EndFault" 288, .str "EndFault" 289, .str "/claim/cut.py" 290, .int 19 0, .int 0 0, .int 0 0, .int 0 0, .int 0 0, .ref 88, .bool false, .int 181 0, .ref 89, .none, .none, .none, .none, .int 291 0, .int 19 0, .str "/claim/cut.py" 292]) #[]
noncomputable def o95 : Obj := .mk (.type "frame") none .plain #[(some (.ref 90)), (some (.ref 3)), (some (.ref 87)), none, (some (.str "f77.errors" 187)), none, (some (.ref 0))]
noncomputable def o96 : Obj := .mk (.type "tuple") none (.seq #[] 0) #[]
noncomputable def o97 : Obj := .mk .none none (.fields #[]) #[]
noncomputable def o98 : Obj := .mk (.type "tuple") none (.seq #[.str "self" 301, .str "text" 302] 0) #[]
noncomputable def o99 : Obj := .mk (.type "tuple") none (.seq #[] 0) #[]
noncomputable def o100 : Obj := .mk .none none (.func (FuncData.mk "__init__" "EndFault.__init__" (fA (sub (st 5) 0)) (FuncBody.stmts (fB (sub (st 5) 0))) (fS (sub (st 5) 0)) 0 [] .none .none .none .none none .none .none 0)) #[]
noncomputable def o101 : Obj := .mk (.type "code") none (.fields #[.str "__init__" 298, .str "EndFault.__init__" 299, .str "/claim/cut.py" 300, .int 21 0, .int 2 0, .int 0 0, .int 0 0, .int 3 0, .ref 92, .bool true, .int 181 0, .ref 93, .none, .ref 94, .ref 95, .ref 96, .int 303 0, .int 21 0, .str "/claim/cut.py" 304]) #[]
noncomputable def o102 : Obj := .mk (.type "function") none (.func (FuncData.mk "__init__" "EndFault.__init__" (fA (sub (st 5) 0)) (FuncBody.stmts (fB (sub (st 5) 0))) (fS (sub (st 5) 0)) 3 [] .none .none .none (.str "f77.errors" 187) none (.ref 97) .none 0)) #[]
noncomputable def o103 : Obj := .mk (.type "tuple") none (.seq #[] 0) #[]
noncomputable def o104 (P : Params) : Obj := .mk (.type "dict") none (.dict #[dE P "__module__" 293 (.str "f77.errors" 187), dE P "__firstlineno__" 297 (.int 19 296), dE P "__init__" 305 (.ref 98), dE P "__static_attributes__" 306 (.ref 99), dE P "__doc__" 307 .none] 2) #[]
noncomputable def o105 : Obj := .mk (.type "type") none (.cls (ClassData.mk "EndFault" [.ref 82] [.ref 101, .ref 82, .ref 31, .type "Exception", .type "BaseException", .type "object"] 100 "EndFault" true [] [] false none false)) #[(some (.ref 85)), none, (some (.str "EndFault" 286)), (some (.str "EndFault" 294)), (some (.builtin "Exception.__new__")), (some (.bool true))]
noncomputable def o106 : Obj := .mk (.type "super") none (.fields #[.ref 101, .ref 101, .ref 101]) #[]
noncomputable def o107 : Obj := .mk (.type "builtin_function_or_method") none (.fields #[.builtin "object.__init_subclass__", .ref 101]) #[]
noncomputable def o108 : Obj := .mk (.type "tuple") none (.seq #[.int 0 324, .int 0 325] 0) #[]
noncomputable def o109 : Obj := .mk (.type "tuple") none (.seq #[] 0) #[]
noncomputable def o110 : Obj := .mk .none none (.fields #[]) #[]
noncomputable def o111 : Obj := .mk (.type "tuple") none (.seq #[.str "n" 332, .str "count" 333] 0) #[]
noncomputable def o112 : Obj := .mk (.type "tuple") none (.seq #[] 0) #[]
noncomputable def o113 : Obj := .mk .none none (.func (FuncData.mk "count_digits" "count_digits" (fA (st 15)) (FuncBody.stmts (fB (st 15))) (fS (st 15)) 0 [] .none .none .none .none none .none .none 0)) #[]
noncomputable def o114 : Obj := .mk (.type "code") none (.fields #[.str "count_digits" 329, .str "count_digits" 330, .str "/claim/cut.py" 331, .int 32 0, .int 1 0, .int 0 0, .int 0 0, .int 3 0, .ref 105, .bool true, .int 181 0, .ref 106, .none, .ref 107, .ref 108, .ref 109, .int 334 0, .int 32 0, .str "/claim/cut.py" 335]) #[]
noncomputable def o115 : Obj := .mk (.type "function") none (.func (FuncData.mk "count_digits" "count_digits" (fA (st 15)) (FuncBody.stmts (fB (st 15))) (fS (st 15)) 3 [] .none .none .none (.str "f77.reals" 322) none (.ref 110) .none 0)) #[]
noncomputable def t5 (P : Params) : BT := (BN (boot_o_0 P) (BN (boot_o_1 P) (BN (o86 P) (BN (boot_o_7 P) (BN o7 (BN o66 (LF o61) (LF o99)) (BN o45 (LF o80) (LF o115))) (BN o15 (BN o34 (LF o72) (LF o107)) (BN o53 (LF (o91 P)) BE))) (BN o0 (BN o11 (BN o30 (LF o68) (LF o103)) (BN o49 (LF o84) BE)) (BN o19 (BN (o38 P) (LF o76) (LF o111)) (BN o57 (LF o95) BE)))) (BN (boot_o_5 P) (BN (boot_o_9 P) (BN (o9 P) (BN o25 (LF o63) (LF o101)) (BN (o47 P) (LF (o82 P)) BE)) (BN o17 (BN o36 (LF o74) (LF o109)) (BN o55 (LF o93) BE))) (BN o2 (BN o13 (BN (o32 P) (LF o70) (LF o105)) (BN o51 (LF o89) BE)) (BN o21 (BN o40 (LF o78) (LF o113)) (BN o59 (LF o97) BE))))) (BN (o4 P) (BN (boot_o_4 P) (BN (boot_o_8 P) (BN o8 (BN o24 (LF o62) (LF o100)) (BN o46 (LF o81) BE)) (BN o16 (BN o35 (LF o73) (LF o108)) (BN o54 (LF o92) BE))) (BN o87 (BN o12 (BN o31 (LF (o69 P)) (LF (o104 P))) (BN o50 (LF o85) BE)) (BN o20 (BN o39 (LF o77) (LF o112)) (BN o58 (LF o96) BE)))) (BN (boot_o_6 P) (BN (boot_o_10 P) (BN o10 (BN o26 (LF o67) (LF o102)) (BN o48 (LF o88) BE)) (BN o18 (BN o37 (LF o75) (LF o110)) (BN o56 (LF o94) BE))) (BN o3 (BN o14 (BN o33 (LF o71) (LF o106)) (BN o52 (LF o90) BE)) (BN (o22 P) (BN o41 (LF o79) (LF o114)) (BN (o60 P) (LF o98) BE))))))
noncomputable abbrev S5 (w : World) (os : OsState) : SharedT := SharedT.mk (t5 w.params) (nat_lit 112) (Life.mk [] [] [] 0 [] [] false #[] [] 0 false false false 0 [2000, 10, 10] false 0 true [] [] 0 false) #[] (Drawn.mk 0 0 0 0) (nat_lit 337) os
noncomputable abbrev sts5 : List Stmt := [st 5, st 6, st 7, st 8, st 9, st 10, st 11, st 12, st 13, st 14, st 15]
theorem pc5 (w : World) : (fun os => segRunT treeTable pg w m0 ann 1 (nat_lit 373) (S4 w os) (piecesOf sts5 env cE (Pos.mk 14 0 18 24) fE)) = fun os => some (Flow.next, S5 w os, cE, (Pos.mk 32 0 41 16)) := by (try rewrite [Fast.te10110043849684766642]); (try rewrite [Fast.te14364793385576792824]); kernel_rfl
noncomputable def o116 (P : Params) : Obj := .mk (.type "dict") none (.dict #[dE P "__name__" 165 (.str "f77.fmtread" 377), dE P "__doc__" 166 .none, dE P "__package__" 167 .none, dE P "__loader__" 168 (.builtin "__main__.__loader__#opaque"), dE P "__spec__" 169 .none, dE P "__annotations__" 170 (.ref 6), dE P "__builtins__" 171 (.ref 4), dE P "__file__" 173 (.str "/claim/cut.py" 172), dE P "__cached__" 174 .none, dE P "F77Error" 217 (.ref 31), dE P "RunFault" 233 (.ref 44), dE P "FormatFault" 259 (.ref 63), dE P "IoFault" 285 (.ref 82), dE P "EndFault" 309 (.ref 101), dE P "INTEGER" 311 (.int 0 310), dE P "REAL" 313 (.int 1 312), dE P "DOUBLE" 315 (.int 2 314), dE P "COMPLEX" 317 (.int 3 316), dE P "LOGICAL" 319 (.int 4 318), dE P "CHARACTER" 321 (.int 5 320), dE P "NOUGHT" 326 (.ref 104), dE P "FIGURES" 328 (.str "0123456789" 327), dE P "count_digits" 336 (.ref 111), dE P "strip_zeros" 344 (.ref 118), dE P "round_digits" 357 (.ref 125), dE P "round_real" 368 (.ref 132), dE P "digits_of" 376 (.ref 139), dE P "BAD_FIELD" 380 (.int 1 379), dE P "TOO_GREAT" 382 (.int 2 381), dE P "WRONG_KIND" 384 (.int 3 383), dE P "REAL_WORDS" 389 (.ref 140), dE P "solid_field" 399 (.ref 147), dE P "whole_of" 409 (.ref 154), dE P "cut_sign" 416 (.ref 161), dE P "in_width" 425 (.ref 168), dE P "read_int" 438 (.ref 175), dE P "cut_exponent" 446 (.ref 182), dE P "field_exponent" 456 (.ref 189)] 38) #[]
noncomputable def o117 : Obj := .mk .none none (.fields #[.int 2 0, .int 0 0, .ref 20, .int 7 0, .int 0 0, .ref 40, .int 9 0, .int 0 0, .ref 52, .int 14 0, .int 0 0, .ref 71, .int 19 0, .int 0 0, .ref 90, .int 32 0, .int 0 0, .ref 110, .int 42 0, .int 0 0, .ref 117, .int 49 0, .int 0 0, .ref 124, .int 59 0, .int 0 0, .ref 131, .int 67 0, .int 0 0, .ref 138, .int 74 0, .int 0 0, .ref 146, .int 82 0, .int 0 0, .ref 153, .int 92 0, .int 0 0, .ref 160, .int 98 0, .int 0 0, .ref 167, .int 101 0, .int 0 0, .ref 174, .int 112 0, .int 0 0, .ref 181, .int 119 0, .int 0 0, .ref 188]) #[]
noncomputable def o118 : Obj := .mk (.type "tuple") none (.seq #[] 0) #[]
noncomputable def o119 : Obj := .mk .none none (.fields #[]) #[]
noncomputable def o120 : Obj := .mk (.type "tuple") none (.seq #[.str "m" 340, .str "e" 341] 0) #[]
noncomputable def o121 : Obj := .mk (.type "tuple") none (.seq #[] 0) #[]
noncomputable def o122 : Obj := .mk .none none (.func (FuncData.mk "strip_zeros" "strip_zeros" (fA (st 16)) (FuncBody.stmts (fB (st 16))) (fS (st 16)) 0 [] .none .none .none .none none .none .none 0)) #[]
noncomputable def o123 : Obj := .mk (.type "code") none (.fields #[.str "strip_zeros" 337, .str "strip_zeros" 338, .str "/claim/cut.py" 339, .int 42 0, .int 2 0, .int 0 0, .int 0 0, .int 3 0, .ref 112, .bool true, .int 181 0, .ref 113, .none, .ref 114, .ref 115, .ref 116, .int 342 0, .int 42 0, .str "/claim/cut.py" 343]) #[]
noncomputable def o124 : Obj := .mk (.type "function") none (.func (FuncData.mk "strip_zeros" "strip_zeros" (fA (st 16)) (FuncBody.stmts (fB (st 16))) (fS (st 16)) 3 [] .none .none .none (.str "f77.reals" 322) none (.ref 117) .none 0)) #[]
noncomputable def o125 : Obj := .mk (.type "tuple") none (.seq #[] 0) #[]
noncomputable def o126 : Obj := .mk .none none (.fields #[]) #[]
noncomputable def o127 : Obj := .mk (.type "tuple") none (.seq #[.str "m" 348, .str "e" 349, .str "digits" 350, .str "drop" 351, .str "power" 352, .str "kept" 353, .str "rest" 354] 0) #[]
noncomputable def o128 : Obj := .mk (.type "tuple") none (.seq #[] 0) #[]
noncomputable def o129 : Obj := .mk .none none (.func (FuncData.mk "round_digits" "round_digits" (fA (st 17)) (FuncBody.stmts (fB (st 17))) (fS (st 17)) 0 [] .none .none .none .none none .none .none 0)) #[]
noncomputable def o130 : Obj := .mk (.type "code") none (.fields #[.str "round_digits" 345, .str "round_digits" 346, .str "/claim/cut.py" 347, .int 49 0, .int 3 0, .int 0 0, .int 0 0, .int 3 0, .ref 119, .bool true, .int 181 0, .ref 120, .none, .ref 121, .ref 122, .ref 123, .int 355 0, .int 49 0, .str "/claim/cut.py" 356]) #[]
noncomputable def o131 : Obj := .mk (.type "function") none (.func (FuncData.mk "round_digits" "round_digits" (fA (st 17)) (FuncBody.stmts (fB (st 17))) (fS (st 17)) 3 [] .none .none .none (.str "f77.reals" 322) none (.ref 124) .none 0)) #[]
noncomputable def o132 : Obj := .mk (.type "tuple") none (.seq #[] 0) #[]
noncomputable def o133 : Obj := .mk .none none (.fields #[]) #[]
noncomputable def o134 : Obj := .mk (.type "tuple") none (.seq #[.str "m" 361, .str "e" 362, .str "digits" 363, .str "top" 364, .str "lead" 365] 0) #[]
noncomputable def o135 : Obj := .mk (.type "tuple") none (.seq #[] 0) #[]
noncomputable def o136 : Obj := .mk .none none (.func (FuncData.mk "round_real" "round_real" (fA (st 18)) (FuncBody.stmts (fB (st 18))) (fS (st 18)) 0 [] .none .none .none .none none .none .none 0)) #[]
noncomputable def o137 : Obj := .mk (.type "code") none (.fields #[.str "round_real" 358, .str "round_real" 359, .str "/claim/cut.py" 360, .int 59 0, .int 4 0, .int 0 0, .int 0 0, .int 3 0, .ref 126, .bool true, .int 181 0, .ref 127, .none, .ref 128, .ref 129, .ref 130, .int 366 0, .int 59 0, .str "/claim/cut.py" 367]) #[]
noncomputable def o138 : Obj := .mk (.type "function") none (.func (FuncData.mk "round_real" "round_real" (fA (st 18)) (FuncBody.stmts (fB (st 18))) (fS (st 18)) 3 [] .none .none .none (.str "f77.reals" 322) none (.ref 131) .none 0)) #[]
noncomputable def o139 : Obj := .mk (.type "tuple") none (.seq #[] 0) #[]
noncomputable def o140 : Obj := .mk .none none (.fields #[]) #[]
noncomputable def o141 : Obj := .mk (.type "tuple") none (.seq #[.str "kind" 372, .str "limits" 373] 0) #[]
noncomputable def o142 : Obj := .mk (.type "tuple") none (.seq #[] 0) #[]
noncomputable def o143 : Obj := .mk .none none (.func (FuncData.mk "digits_of" "digits_of" (fA (st 19)) (FuncBody.stmts (fB (st 19))) (fS (st 19)) 0 [] .none .none .none .none none .none .none 0)) #[]
noncomputable def o144 : Obj := .mk (.type "code") none (.fields #[.str "digits_of" 369, .str "digits_of" 370, .str "/claim/cut.py" 371, .int 67 0, .int 2 0, .int 0 0, .int 0 0, .int 3 0, .ref 133, .bool true, .int 181 0, .ref 134, .none, .ref 135, .ref 136, .ref 137, .int 374 0, .int 67 0, .str "/claim/cut.py" 375]) #[]
noncomputable def o145 : Obj := .mk (.type "function") none (.func (FuncData.mk "digits_of" "digits_of" (fA (st 19)) (FuncBody.stmts (fB (st 19))) (fS (st 19)) 3 [] .none .none .none (.str "f77.reals" 322) none (.ref 138) .none 0)) #[]
noncomputable def o146 : Obj := .mk (.type "tuple") none (.seq #[.str "F" 385, .str "E" 386, .str "D" 387, .str "G" 388] 0) #[]
noncomputable def o147 : Obj := .mk (.type "tuple") none (.seq #[] 0) #[]
noncomputable def o148 : Obj := .mk .none none (.fields #[]) #[]
noncomputable def o149 : Obj := .mk (.type "tuple") none (.seq #[.str "field" 393, .str "is_zero" 394, .str "out" 395, .str "sign" 396] 0) #[]
noncomputable def o150 : Obj := .mk (.type "tuple") none (.seq #[] 0) #[]
noncomputable def o151 : Obj := .mk .none none (.func (FuncData.mk "solid_field" "solid_field" (fA (st 25)) (FuncBody.stmts (fB (st 25))) (fS (st 25)) 0 [] .none .none .none .none none .none .none 0)) #[]
noncomputable def o152 : Obj := .mk (.type "code") none (.fields #[.str "solid_field" 390, .str "solid_field" 391, .str "/claim/cut.py" 392, .int 74 0, .int 2 0, .int 0 0, .int 0 0, .int 3 0, .ref 141, .bool true, .int 181 0, .ref 142, .none, .ref 143, .ref 144, .ref 145, .int 397 0, .int 74 0, .str "/claim/cut.py" 398]) #[]
noncomputable def o153 : Obj := .mk (.type "function") none (.func (FuncData.mk "solid_field" "solid_field" (fA (st 25)) (FuncBody.stmts (fB (st 25))) (fS (st 25)) 3 [] .none .none .none (.str "f77.fmtread" 377) none (.ref 146) .none 0)) #[]
noncomputable def o154 : Obj := .mk (.type "tuple") none (.seq #[] 0) #[]
noncomputable def o155 : Obj := .mk .none none (.fields #[]) #[]
noncomputable def o156 : Obj := .mk (.type "tuple") none (.seq #[.str "figures" 403, .str "number" 404, .str "sign" 405, .str "at" 406] 0) #[]
noncomputable def o157 : Obj := .mk (.type "tuple") none (.seq #[] 0) #[]
noncomputable def o158 : Obj := .mk .none none (.func (FuncData.mk "whole_of" "whole_of" (fA (st 26)) (FuncBody.stmts (fB (st 26))) (fS (st 26)) 0 [] .none .none .none .none none .none .none 0)) #[]
noncomputable def o159 : Obj := .mk (.type "code") none (.fields #[.str "whole_of" 400, .str "whole_of" 401, .str "/claim/cut.py" 402, .int 82 0, .int 1 0, .int 0 0, .int 0 0, .int 3 0, .ref 148, .bool true, .int 181 0, .ref 149, .none, .ref 150, .ref 151, .ref 152, .int 407 0, .int 82 0, .str "/claim/cut.py" 408]) #[]
noncomputable def o160 : Obj := .mk (.type "function") none (.func (FuncData.mk "whole_of" "whole_of" (fA (st 26)) (FuncBody.stmts (fB (st 26))) (fS (st 26)) 3 [] .none .none .none (.str "f77.fmtread" 377) none (.ref 153) .none 0)) #[]
noncomputable def o161 : Obj := .mk (.type "tuple") none (.seq #[] 0) #[]
noncomputable def o162 : Obj := .mk .none none (.fields #[]) #[]
noncomputable def o163 : Obj := .mk (.type "tuple") none (.seq #[.str "text" 413] 0) #[]
noncomputable def o164 : Obj := .mk (.type "tuple") none (.seq #[] 0) #[]
noncomputable def o165 : Obj := .mk .none none (.func (FuncData.mk "cut_sign" "cut_sign" (fA (st 27)) (FuncBody.stmts (fB (st 27))) (fS (st 27)) 0 [] .none .none .none .none none .none .none 0)) #[]
noncomputable def o166 : Obj := .mk (.type "code") none (.fields #[.str "cut_sign" 410, .str "cut_sign" 411, .str "/claim/cut.py" 412, .int 92 0, .int 1 0, .int 0 0, .int 0 0, .int 3 0, .ref 155, .bool true, .int 181 0, .ref 156, .none, .ref 157, .ref 158, .ref 159, .int 414 0, .int 92 0, .str "/claim/cut.py" 415]) #[]
noncomputable def o167 : Obj := .mk (.type "function") none (.func (FuncData.mk "cut_sign" "cut_sign" (fA (st 27)) (FuncBody.stmts (fB (st 27))) (fS (st 27)) 3 [] .none .none .none (.str "f77.fmtread" 377) none (.ref 160) .none 0)) #[]
noncomputable def o168 : Obj := .mk (.type "tuple") none (.seq #[] 0) #[]
noncomputable def o169 : Obj := .mk .none none (.fields #[]) #[]
noncomputable def o170 : Obj := .mk (.type "tuple") none (.seq #[.str "number" 420, .str "width" 421, .str "limit" 422] 0) #[]
noncomputable def o171 : Obj := .mk (.type "tuple") none (.seq #[] 0) #[]
noncomputable def o172 : Obj := .mk .none none (.func (FuncData.mk "in_width" "in_width" (fA (st 28)) (FuncBody.stmts (fB (st 28))) (fS (st 28)) 0 [] .none .none .none .none none .none .none 0)) #[]
noncomputable def o173 : Obj := .mk (.type "code") none (.fields #[.str "in_width" 417, .str "in_width" 418, .str "/claim/cut.py" 419, .int 98 0, .int 2 0, .int 0 0, .int 0 0, .int 3 0, .ref 162, .bool true, .int 181 0, .ref 163, .none, .ref 164, .ref 165, .ref 166, .int 423 0, .int 98 0, .str "/claim/cut.py" 424]) #[]
noncomputable def o174 : Obj := .mk (.type "function") none (.func (FuncData.mk "in_width" "in_width" (fA (st 28)) (FuncBody.stmts (fB (st 28))) (fS (st 28)) 3 [] .none .none .none (.str "f77.fmtread" 377) none (.ref 167) .none 0)) #[]
noncomputable def o175 : Obj := .mk (.type "tuple") none (.seq #[] 0) #[]
noncomputable def o176 : Obj := .mk .none none (.fields #[]) #[]
noncomputable def o177 : Obj := .mk (.type "tuple") none (.seq #[.str "field" 429, .str "is_zero" 430, .str "width" 431, .str "text" 432, .str "sign" 433, .str "rest" 434, .str "number" 435] 0) #[]
noncomputable def o178 : Obj := .mk (.type "tuple") none (.seq #[] 0) #[]
noncomputable def o179 : Obj := .mk .none none (.func (FuncData.mk "read_int" "read_int" (fA (st 29)) (FuncBody.stmts (fB (st 29))) (fS (st 29)) 0 [] .none .none .none .none none .none .none 0)) #[]
noncomputable def o180 : Obj := .mk (.type "code") none (.fields #[.str "read_int" 426, .str "read_int" 427, .str "/claim/cut.py" 428, .int 101 0, .int 3 0, .int 0 0, .int 0 0, .int 3 0, .ref 169, .bool true, .int 181 0, .ref 170, .none, .ref 171, .ref 172, .ref 173, .int 436 0, .int 101 0, .str "/claim/cut.py" 437]) #[]
noncomputable def o181 : Obj := .mk (.type "function") none (.func (FuncData.mk "read_int" "read_int" (fA (st 29)) (FuncBody.stmts (fB (st 29))) (fS (st 29)) 3 [] .none .none .none (.str "f77.fmtread" 377) none (.ref 174) .none 0)) #[]
noncomputable def o182 : Obj := .mk (.type "tuple") none (.seq #[] 0) #[]
noncomputable def o183 : Obj := .mk .none none (.fields #[]) #[]
noncomputable def o184 : Obj := .mk (.type "tuple") none (.seq #[.str "text" 442, .str "at" 443] 0) #[]
noncomputable def o185 : Obj := .mk (.type "tuple") none (.seq #[] 0) #[]
noncomputable def o186 : Obj := .mk .none none (.func (FuncData.mk "cut_exponent" "cut_exponent" (fA (st 30)) (FuncBody.stmts (fB (st 30))) (fS (st 30)) 0 [] .none .none .none .none none .none .none 0)) #[]
noncomputable def o187 : Obj := .mk (.type "code") none (.fields #[.str "cut_exponent" 439, .str "cut_exponent" 440, .str "/claim/cut.py" 441, .int 112 0, .int 1 0, .int 0 0, .int 0 0, .int 3 0, .ref 176, .bool true, .int 181 0, .ref 177, .none, .ref 178, .ref 179, .ref 180, .int 444 0, .int 112 0, .str "/claim/cut.py" 445]) #[]
noncomputable def o188 : Obj := .mk (.type "function") none (.func (FuncData.mk "cut_exponent" "cut_exponent" (fA (st 30)) (FuncBody.stmts (fB (st 30))) (fS (st 30)) 3 [] .none .none .none (.str "f77.fmtread" 377) none (.ref 181) .none 0)) #[]
noncomputable def o189 : Obj := .mk (.type "tuple") none (.seq #[] 0) #[]
noncomputable def o190 : Obj := .mk .none none (.fields #[]) #[]
noncomputable def o191 : Obj := .mk (.type "tuple") none (.seq #[.str "text" 450, .str "sign" 451, .str "rest" 452, .str "number" 453] 0) #[]
noncomputable def o192 : Obj := .mk (.type "tuple") none (.seq #[] 0) #[]
noncomputable def o193 : Obj := .mk .none none (.func (FuncData.mk "field_exponent" "field_exponent" (fA (st 31)) (FuncBody.stmts (fB (st 31))) (fS (st 31)) 0 [] .none .none .none .none none .none .none 0)) #[]
noncomputable def o194 : Obj := .mk (.type "code") none (.fields #[.str "field_exponent" 447, .str "field_exponent" 448, .str "/claim/cut.py" 449, .int 119 0, .int 1 0, .int 0 0, .int 0 0, .int 3 0, .ref 183, .bool true, .int 181 0, .ref 184, .none, .ref 185, .ref 186, .ref 187, .int 454 0, .int 119 0, .str "/claim/cut.py" 455]) #[]
noncomputable def o195 : Obj := .mk (.type "function") none (.func (FuncData.mk "field_exponent" "field_exponent" (fA (st 31)) (FuncBody.stmts (fB (st 31))) (fS (st 31)) 3 [] .none .none .none (.str "f77.fmtread" 377) none (.ref 188) .none 0)) #[]
noncomputable def t6 (P : Params) : BT := (BN (boot_o_0 P) (BN (boot_o_1 P) (BN (o116 P) (BN (boot_o_7 P) (BN o7 (BN o66 (BN o61 (LF o133) BE) (BN o99 (LF o165) BE)) (BN o45 (BN o80 (LF o149) BE) (BN o115 (LF o181) BE))) (BN o15 (BN o34 (BN o72 (LF o141) BE) (BN o107 (LF o173) BE)) (BN o53 (BN (o91 P) (LF o157) BE) (BN o125 (LF o189) BE)))) (BN o0 (BN o11 (BN o30 (BN o68 (LF o137) BE) (BN o103 (LF o169) BE)) (BN o49 (BN o84 (LF o153) BE) (BN o121 (LF o185) BE))) (BN o19 (BN (o38 P) (BN o76 (LF o145) BE) (BN o111 (LF o177) BE)) (BN o57 (BN o95 (LF o161) BE) (BN o129 (LF o193) BE))))) (BN (boot_o_5 P) (BN (boot_o_9 P) (BN (o9 P) (BN o25 (BN o63 (LF o135) BE) (BN o101 (LF o167) BE)) (BN (o47 P) (BN (o82 P) (LF o151) BE) (BN o119 (LF o183) BE))) (BN o17 (BN o36 (BN o74 (LF o143) BE) (BN o109 (LF o175) BE)) (BN o55 (BN o93 (LF o159) BE) (BN o127 (LF o191) BE)))) (BN o2 (BN o13 (BN (o32 P) (BN o70 (LF o139) BE) (BN o105 (LF o171) BE)) (BN o51 (BN o89 (LF o155) BE) (BN o123 (LF o187) BE))) (BN o21 (BN o40 (BN o78 (LF o147) BE) (BN o113 (LF o179) BE)) (BN o59 (BN o97 (LF o163) BE) (BN o131 (LF o195) BE)))))) (BN (o4 P) (BN (boot_o_4 P) (BN (boot_o_8 P) (BN o8 (BN o24 (BN o62 (LF o134) BE) (BN o100 (LF o166) BE)) (BN o46 (BN o81 (LF o150) BE) (BN o118 (LF o182) BE))) (BN o16 (BN o35 (BN o73 (LF o142) BE) (BN o108 (LF o174) BE)) (BN o54 (BN o92 (LF o158) BE) (BN o126 (LF o190) BE)))) (BN o117 (BN o12 (BN o31 (BN (o69 P) (LF o138) BE) (BN (o104 P) (LF o170) BE)) (BN o50 (BN o85 (LF o154) BE) (BN o122 (LF o186) BE))) (BN o20 (BN o39 (BN o77 (LF o146) BE) (BN o112 (LF o178) BE)) (BN o58 (BN o96 (LF o162) BE) (BN o130 (LF o194) BE))))) (BN (boot_o_6 P) (BN (boot_o_10 P) (BN o10 (BN o26 (BN o67 (LF o136) BE) (BN o102 (LF o168) BE)) (BN o48 (BN o88 (LF o152) BE) (BN o120 (LF o184) BE))) (BN o18 (BN o37 (BN o75 (LF o144) BE) (BN o110 (LF o176) BE)) (BN o56 (BN o94 (LF o160) BE) (BN o128 (LF o192) BE)))) (BN o3 (BN o14 (BN o33 (BN o71 (LF o140) BE) (BN o106 (LF o172) BE)) (BN o52 (BN o90 (LF o156) BE) (BN o124 (LF o188) BE))) (BN (o22 P) (BN o41 (BN o79 (LF o148) BE) (BN o114 (LF o180) BE)) (BN (o60 P) (BN o98 (LF o164) BE) (LF o132)))))))
noncomputable abbrev S6 (w : World) (os : OsState) : SharedT := SharedT.mk (t6 w.params) (nat_lit 190) (Life.mk [] [] [] 0 [] [] false #[] [] 0 false false false 0 [2000, 10, 10] false 0 true [] [] 0 false) #[] (Drawn.mk 0 0 0 0) (nat_lit 457) os
noncomputable abbrev sts6 : List Stmt := [st 16, st 17, st 18, st 19, st 20, st 21, st 22, st 23, st 24, st 25, st 26, st 27, st 28, st 29, st 30, st 31]
theorem pc6 (w : World) : (fun os => segRunT treeTable pg w m0 ann 1 (nat_lit 400) (S5 w os) (piecesOf sts6 env cE (Pos.mk 32 0 41 16) fE)) = fun os => some (Flow.next, S6 w os, cE, (Pos.mk 119 0 124 24)) := by (try rewrite [Fast.te10110043849684766642]); (try rewrite [Fast.te14364793385576792824]); kernel_rfl
noncomputable def o196 (P : Params) : Obj := .mk (.type "dict") none (.dict #[dE P "__name__" 165 (.str "f77.listio" 520), dE P "__doc__" 166 .none, dE P "__package__" 167 .none, dE P "__loader__" 168 (.builtin "__main__.__loader__#opaque"), dE P "__spec__" 169 .none, dE P "__annotations__" 170 (.ref 6), dE P "__builtins__" 171 (.ref 4), dE P "__file__" 173 (.str "/claim/cut.py" 172), dE P "__cached__" 174 .none, dE P "F77Error" 217 (.ref 31), dE P "RunFault" 233 (.ref 44), dE P "FormatFault" 259 (.ref 63), dE P "IoFault" 285 (.ref 82), dE P "EndFault" 309 (.ref 101), dE P "INTEGER" 311 (.int 0 310), dE P "REAL" 313 (.int 1 312), dE P "DOUBLE" 315 (.int 2 314), dE P "COMPLEX" 317 (.int 3 316), dE P "LOGICAL" 319 (.int 4 318), dE P "CHARACTER" 321 (.int 5 320), dE P "NOUGHT" 326 (.ref 104), dE P "FIGURES" 328 (.str "0123456789" 327), dE P "count_digits" 336 (.ref 111), dE P "strip_zeros" 344 (.ref 118), dE P "round_digits" 357 (.ref 125), dE P "round_real" 368 (.ref 132), dE P "digits_of" 376 (.ref 139), dE P "BAD_FIELD" 380 (.int 1 379), dE P "TOO_GREAT" 382 (.int 2 381), dE P "WRONG_KIND" 384 (.int 3 383), dE P "REAL_WORDS" 389 (.ref 140), dE P "solid_field" 399 (.ref 147), dE P "whole_of" 409 (.ref 154), dE P "cut_sign" 416 (.ref 161), dE P "in_width" 425 (.ref 168), dE P "read_int" 438 (.ref 175), dE P "cut_exponent" 446 (.ref 182), dE P "field_exponent" 456 (.ref 189), dE P "read_figures" 468 (.ref 196), dE P "read_real" 489 (.ref 203), dE P "read_logical" 497 (.ref 210), dE P "read_text" 505 (.ref 217), dE P "read_value" 519 (.ref 224), dE P "SEPARATORS" 526 (.ref 225), dE P "PART_ENDS" 532 (.ref 226)] 45) #[]
noncomputable def o197 : Obj := .mk .none none (.fields #[.int 2 0, .int 0 0, .ref 20, .int 7 0, .int 0 0, .ref 40, .int 9 0, .int 0 0, .ref 52, .int 14 0, .int 0 0, .ref 71, .int 19 0, .int 0 0, .ref 90, .int 32 0, .int 0 0, .ref 110, .int 42 0, .int 0 0, .ref 117, .int 49 0, .int 0 0, .ref 124, .int 59 0, .int 0 0, .ref 131, .int 67 0, .int 0 0, .ref 138, .int 74 0, .int 0 0, .ref 146, .int 82 0, .int 0 0, .ref 153, .int 92 0, .int 0 0, .ref 160, .int 98 0, .int 0 0, .ref 167, .int 101 0, .int 0 0, .ref 174, .int 112 0, .int 0 0, .ref 181, .int 119 0, .int 0 0, .ref 188, .int 125 0, .int 0 0, .ref 195, .int 137 0, .int 0 0, .ref 202, .int 152 0, .int 0 0, .ref 209, .int 163 0, .int 0 0, .ref 216, .int 167 0, .int 0 0, .ref 223]) #[]
noncomputable def o198 : Obj := .mk (.type "tuple") none (.seq #[] 0) #[]
noncomputable def o199 : Obj := .mk .none none (.fields #[]) #[]
noncomputable def o200 : Obj := .mk (.type "tuple") none (.seq #[.str "text" 460, .str "d" 461, .str "point" 462, .str "figures" 463, .str "places" 464, .str "number" 465] 0) #[]
noncomputable def o201 : Obj := .mk (.type "tuple") none (.seq #[] 0) #[]
noncomputable def o202 : Obj := .mk .none none (.func (FuncData.mk "read_figures" "read_figures" (fA (st 32)) (FuncBody.stmts (fB (st 32))) (fS (st 32)) 0 [] .none .none .none .none none .none .none 0)) #[]
noncomputable def o203 : Obj := .mk (.type "code") none (.fields #[.str "read_figures" 457, .str "read_figures" 458, .str "/claim/cut.py" 459, .int 125 0, .int 2 0, .int 0 0, .int 0 0, .int 3 0, .ref 190, .bool true, .int 181 0, .ref 191, .none, .ref 192, .ref 193, .ref 194, .int 466 0, .int 125 0, .str "/claim/cut.py" 467]) #[]
noncomputable def o204 : Obj := .mk (.type "function") none (.func (FuncData.mk "read_figures" "read_figures" (fA (st 32)) (FuncBody.stmts (fB (st 32))) (fS (st 32)) 3 [] .none .none .none (.str "f77.fmtread" 377) none (.ref 195) .none 0)) #[]
noncomputable def o205 : Obj := .mk (.type "tuple") none (.seq #[] 0) #[]
noncomputable def o206 : Obj := .mk .none none (.fields #[]) #[]
noncomputable def o207 : Obj := .mk (.type "tuple") none (.seq #[.str "field" 472, .str "d" 473, .str "scale" 474, .str "is_zero" 475, .str "digits" 476, .str "top" 477, .str "text" 478, .str "sign" 479, .str "rest" 480, .str "figures" 481, .str "tail" 482, .str "has_exponent" 483, .str "number" 484, .str "places" 485, .str "power" 486] 0) #[]
noncomputable def o208 : Obj := .mk (.type "tuple") none (.seq #[] 0) #[]
noncomputable def o209 : Obj := .mk .none none (.func (FuncData.mk "read_real" "read_real" (fA (st 33)) (FuncBody.stmts (fB (st 33))) (fS (st 33)) 0 [] .none .none .none .none none .none .none 0)) #[]
noncomputable def o210 : Obj := .mk (.type "code") none (.fields #[.str "read_real" 469, .str "read_real" 470, .str "/claim/cut.py" 471, .int 137 0, .int 6 0, .int 0 0, .int 0 0, .int 3 0, .ref 197, .bool true, .int 181 0, .ref 198, .none, .ref 199, .ref 200, .ref 201, .int 487 0, .int 137 0, .str "/claim/cut.py" 488]) #[]
noncomputable def o211 : Obj := .mk (.type "function") none (.func (FuncData.mk "read_real" "read_real" (fA (st 33)) (FuncBody.stmts (fB (st 33))) (fS (st 33)) 3 [] .none .none .none (.str "f77.fmtread" 377) none (.ref 202) .none 0)) #[]
noncomputable def o212 : Obj := .mk (.type "tuple") none (.seq #[] 0) #[]
noncomputable def o213 : Obj := .mk .none none (.fields #[]) #[]
noncomputable def o214 : Obj := .mk (.type "tuple") none (.seq #[.str "field" 493, .str "at" 494] 0) #[]
noncomputable def o215 : Obj := .mk (.type "tuple") none (.seq #[] 0) #[]
noncomputable def o216 : Obj := .mk .none none (.func (FuncData.mk "read_logical" "read_logical" (fA (st 34)) (FuncBody.stmts (fB (st 34))) (fS (st 34)) 0 [] .none .none .none .none none .none .none 0)) #[]
noncomputable def o217 : Obj := .mk (.type "code") none (.fields #[.str "read_logical" 490, .str "read_logical" 491, .str "/claim/cut.py" 492, .int 152 0, .int 1 0, .int 0 0, .int 0 0, .int 3 0, .ref 204, .bool true, .int 181 0, .ref 205, .none, .ref 206, .ref 207, .ref 208, .int 495 0, .int 152 0, .str "/claim/cut.py" 496]) #[]
noncomputable def o218 : Obj := .mk (.type "function") none (.func (FuncData.mk "read_logical" "read_logical" (fA (st 34)) (FuncBody.stmts (fB (st 34))) (fS (st 34)) 3 [] .none .none .none (.str "f77.fmtread" 377) none (.ref 209) .none 0)) #[]
noncomputable def o219 : Obj := .mk (.type "tuple") none (.seq #[] 0) #[]
noncomputable def o220 : Obj := .mk .none none (.fields #[]) #[]
noncomputable def o221 : Obj := .mk (.type "tuple") none (.seq #[.str "field" 501, .str "length" 502] 0) #[]
noncomputable def o222 : Obj := .mk (.type "tuple") none (.seq #[] 0) #[]
noncomputable def o223 : Obj := .mk .none none (.func (FuncData.mk "read_text" "read_text" (fA (st 35)) (FuncBody.stmts (fB (st 35))) (fS (st 35)) 0 [] .none .none .none .none none .none .none 0)) #[]
noncomputable def o224 : Obj := .mk (.type "code") none (.fields #[.str "read_text" 498, .str "read_text" 499, .str "/claim/cut.py" 500, .int 163 0, .int 2 0, .int 0 0, .int 0 0, .int 3 0, .ref 211, .bool true, .int 181 0, .ref 212, .none, .ref 213, .ref 214, .ref 215, .int 503 0, .int 163 0, .str "/claim/cut.py" 504]) #[]
noncomputable def o225 : Obj := .mk (.type "function") none (.func (FuncData.mk "read_text" "read_text" (fA (st 35)) (FuncBody.stmts (fB (st 35))) (fS (st 35)) 3 [] .none .none .none (.str "f77.fmtread" 377) none (.ref 216) .none 0)) #[]
noncomputable def o226 : Obj := .mk (.type "tuple") none (.seq #[] 0) #[]
noncomputable def o227 : Obj := .mk .none none (.fields #[]) #[]
noncomputable def o228 : Obj := .mk (.type "tuple") none (.seq #[.str "item" 509, .str "kind" 510, .str "length" 511, .str "field" 512, .str "scale" 513, .str "is_zero" 514, .str "limits" 515, .str "word" 516] 0) #[]
noncomputable def o229 : Obj := .mk (.type "tuple") none (.seq #[] 0) #[]
noncomputable def o230 : Obj := .mk .none none (.func (FuncData.mk "read_value" "read_value" (fA (st 36)) (FuncBody.stmts (fB (st 36))) (fS (st 36)) 0 [] .none .none .none .none none .none .none 0)) #[]
noncomputable def o231 : Obj := .mk (.type "code") none (.fields #[.str "read_value" 506, .str "read_value" 507, .str "/claim/cut.py" 508, .int 167 0, .int 7 0, .int 0 0, .int 0 0, .int 3 0, .ref 218, .bool true, .int 181 0, .ref 219, .none, .ref 220, .ref 221, .ref 222, .int 517 0, .int 167 0, .str "/claim/cut.py" 518]) #[]
noncomputable def o232 : Obj := .mk (.type "function") none (.func (FuncData.mk "read_value" "read_value" (fA (st 36)) (FuncBody.stmts (fB (st 36))) (fS (st 36)) 3 [] .none .none .none (.str "f77.fmtread" 377) none (.ref 223) .none 0)) #[]
noncomputable def o233 : Obj := .mk (.type "tuple") none (.seq #[.str "" 522, .str " " 523, .str "," 524, .str "/" 525] 0) #[]
noncomputable def o234 : Obj := .mk (.type "tuple") none (.seq #[.str "" 527, .str " " 528, .str "," 529, .str "/" 530, .str ")" 531] 0) #[]
noncomputable def t7 (P : Params) : BT := (BN (boot_o_0 P) (BN (boot_o_1 P) (BN (o196 P) (BN (boot_o_7 P) (BN o7 (BN o66 (BN o61 (LF o133) (LF o199)) (BN o99 (LF o165) (LF o231))) (BN o45 (BN o80 (LF o149) (LF o215)) (BN o115 (LF o181) BE))) (BN o15 (BN o34 (BN o72 (LF o141) (LF o207)) (BN o107 (LF o173) BE)) (BN o53 (BN (o91 P) (LF o157) (LF o223)) (BN o125 (LF o189) BE)))) (BN o0 (BN o11 (BN o30 (BN o68 (LF o137) (LF o203)) (BN o103 (LF o169) BE)) (BN o49 (BN o84 (LF o153) (LF o219)) (BN o121 (LF o185) BE))) (BN o19 (BN (o38 P) (BN o76 (LF o145) (LF o211)) (BN o111 (LF o177) BE)) (BN o57 (BN o95 (LF o161) (LF o227)) (BN o129 (LF o193) BE))))) (BN (boot_o_5 P) (BN (boot_o_9 P) (BN (o9 P) (BN o25 (BN o63 (LF o135) (LF o201)) (BN o101 (LF o167) (LF o233))) (BN (o47 P) (BN (o82 P) (LF o151) (LF o217)) (BN o119 (LF o183) BE))) (BN o17 (BN o36 (BN o74 (LF o143) (LF o209)) (BN o109 (LF o175) BE)) (BN o55 (BN o93 (LF o159) (LF o225)) (BN o127 (LF o191) BE)))) (BN o2 (BN o13 (BN (o32 P) (BN o70 (LF o139) (LF o205)) (BN o105 (LF o171) BE)) (BN o51 (BN o89 (LF o155) (LF o221)) (BN o123 (LF o187) BE))) (BN o21 (BN o40 (BN o78 (LF o147) (LF o213)) (BN o113 (LF o179) BE)) (BN o59 (BN o97 (LF o163) (LF o229)) (BN o131 (LF o195) BE)))))) (BN (o4 P) (BN (boot_o_4 P) (BN (boot_o_8 P) (BN o8 (BN o24 (BN o62 (LF o134) (LF o200)) (BN o100 (LF o166) (LF o232))) (BN o46 (BN o81 (LF o150) (LF o216)) (BN o118 (LF o182) BE))) (BN o16 (BN o35 (BN o73 (LF o142) (LF o208)) (BN o108 (LF o174) BE)) (BN o54 (BN o92 (LF o158) (LF o224)) (BN o126 (LF o190) BE)))) (BN o197 (BN o12 (BN o31 (BN (o69 P) (LF o138) (LF o204)) (BN (o104 P) (LF o170) BE)) (BN o50 (BN o85 (LF o154) (LF o220)) (BN o122 (LF o186) BE))) (BN o20 (BN o39 (BN o77 (LF o146) (LF o212)) (BN o112 (LF o178) BE)) (BN o58 (BN o96 (LF o162) (LF o228)) (BN o130 (LF o194) BE))))) (BN (boot_o_6 P) (BN (boot_o_10 P) (BN o10 (BN o26 (BN o67 (LF o136) (LF o202)) (BN o102 (LF o168) (LF o234))) (BN o48 (BN o88 (LF o152) (LF o218)) (BN o120 (LF o184) BE))) (BN o18 (BN o37 (BN o75 (LF o144) (LF o210)) (BN o110 (LF o176) BE)) (BN o56 (BN o94 (LF o160) (LF o226)) (BN o128 (LF o192) BE)))) (BN o3 (BN o14 (BN o33 (BN o71 (LF o140) (LF o206)) (BN o106 (LF o172) BE)) (BN o52 (BN o90 (LF o156) (LF o222)) (BN o124 (LF o188) BE))) (BN (o22 P) (BN o41 (BN o79 (LF o148) (LF o214)) (BN o114 (LF o180) BE)) (BN (o60 P) (BN o98 (LF o164) (LF o230)) (BN o132 (LF o198) BE)))))))
noncomputable abbrev S7 (w : World) (os : OsState) : SharedT := SharedT.mk (t7 w.params) (nat_lit 227) (Life.mk [] [] [] 0 [] [] false #[] [] 0 false false false 0 [2000, 10, 10] false 0 true [] [] 0 false) #[] (Drawn.mk 0 0 0 0) (nat_lit 533) os
noncomputable abbrev sts7 : List Stmt := [st 32, st 33, st 34, st 35, st 36, st 37, st 38, st 39]
theorem pc7 (w : World) : (fun os => segRunT treeTable pg w m0 ann 1 (nat_lit 212) (S6 w os) (piecesOf sts7 env cE (Pos.mk 119 0 124 24) fE)) = fun os => some (Flow.next, S7 w os, cE, (Pos.mk 180 0 180 9)) := by (try rewrite [Fast.te10110043849684766642]); (try rewrite [Fast.te14364793385576792824]); kernel_rfl
noncomputable def o235 (P : Params) : Obj := .mk (.type "dict") none (.dict #[dE P "__name__" 165 (.str "f77.listio" 520), dE P "__doc__" 166 .none, dE P "__package__" 167 .none, dE P "__loader__" 168 (.builtin "__main__.__loader__#opaque"), dE P "__spec__" 169 .none, dE P "__annotations__" 170 (.ref 6), dE P "__builtins__" 171 (.ref 4), dE P "__file__" 173 (.str "/claim/cut.py" 172), dE P "__cached__" 174 .none, dE P "F77Error" 217 (.ref 31), dE P "RunFault" 233 (.ref 44), dE P "FormatFault" 259 (.ref 63), dE P "IoFault" 285 (.ref 82), dE P "EndFault" 309 (.ref 101), dE P "INTEGER" 311 (.int 0 310), dE P "REAL" 313 (.int 1 312), dE P "DOUBLE" 315 (.int 2 314), dE P "COMPLEX" 317 (.int 3 316), dE P "LOGICAL" 319 (.int 4 318), dE P "CHARACTER" 321 (.int 5 320), dE P "NOUGHT" 326 (.ref 104), dE P "FIGURES" 328 (.str "0123456789" 327), dE P "count_digits" 336 (.ref 111), dE P "strip_zeros" 344 (.ref 118), dE P "round_digits" 357 (.ref 125), dE P "round_real" 368 (.ref 132), dE P "digits_of" 376 (.ref 139), dE P "BAD_FIELD" 380 (.int 1 379), dE P "TOO_GREAT" 382 (.int 2 381), dE P "WRONG_KIND" 384 (.int 3 383), dE P "REAL_WORDS" 389 (.ref 140), dE P "solid_field" 399 (.ref 147), dE P "whole_of" 409 (.ref 154), dE P "cut_sign" 416 (.ref 161), dE P "in_width" 425 (.ref 168), dE P "read_int" 438 (.ref 175), dE P "cut_exponent" 446 (.ref 182), dE P "field_exponent" 456 (.ref 189), dE P "read_figures" 468 (.ref 196), dE P "read_real" 489 (.ref 203), dE P "read_logical" 497 (.ref 210), dE P "read_text" 505 (.ref 217), dE P "read_value" 519 (.ref 224), dE P "SEPARATORS" 526 (.ref 225), dE P "PART_ENDS" 532 (.ref 226), dE P "ListReader" 567 (.ref 243), dE P "sign_here" 574 (.ref 254), dE P "step_on" 581 (.ref 261), dE P "skip_blanks" 588 (.ref 268), dE P "skip_gaps" 595 (.ref 275), dE P "take_run" 604 (.ref 282)] 51) #[]
noncomputable def o236 : Obj := .mk .none none (.fields #[.int 2 0, .int 0 0, .ref 20, .int 7 0, .int 0 0, .ref 40, .int 9 0, .int 0 0, .ref 52, .int 14 0, .int 0 0, .ref 71, .int 19 0, .int 0 0, .ref 90, .int 32 0, .int 0 0, .ref 110, .int 42 0, .int 0 0, .ref 117, .int 49 0, .int 0 0, .ref 124, .int 59 0, .int 0 0, .ref 131, .int 67 0, .int 0 0, .ref 138, .int 74 0, .int 0 0, .ref 146, .int 82 0, .int 0 0, .ref 153, .int 92 0, .int 0 0, .ref 160, .int 98 0, .int 0 0, .ref 167, .int 101 0, .int 0 0, .ref 174, .int 112 0, .int 0 0, .ref 181, .int 119 0, .int 0 0, .ref 188, .int 125 0, .int 0 0, .ref 195, .int 137 0, .int 0 0, .ref 202, .int 152 0, .int 0 0, .ref 209, .int 163 0, .int 0 0, .ref 216, .int 167 0, .int 0 0, .ref 223, .int 181 0, .int 0 0, .ref 232, .int 191 0, .int 0 0, .ref 253, .int 193 0, .int 0 0, .ref 260, .int 199 0, .int 0 0, .ref 267, .int 202 0, .int 0 0, .ref 274, .int 205 0, .int 0 0, .ref 281]) #[]
noncomputable def o237 : Obj := .mk (.type "tuple") none (.seq #[] 0) #[]
noncomputable def o238 : Obj := .mk (.type "builtin_function_or_method") none (.fields #[.builtin "type.__prepare__", .type "type"]) #[]
noncomputable def o239 (P : Params) : Obj := .mk (.type "dict") none (.dict #[dE P "__module__" 540 (.str "f77.listio" 520), dE P "__qualname__" 542 (.str "ListReader" 541), dE P "__firstlineno__" 544 (.int 181 543), dE P "__init__" 552 (.ref 240), dE P "__static_attributes__" 560 (.ref 241)] 5) #[]
noncomputable def o240 : Obj := .mk (.type "tuple") none (.seq #[] 0) #[]
noncomputable def o241 : Obj := .mk .none none (.fields #[.int 183 0, .int 4 0, .ref 239]) #[]
noncomputable def o242 : Obj := .mk (.type "code") none (.fields #[.str "ListReader" 535, .str "ListReader" 536, .str "/claim/cut.py" 537, .int 181 0, .int 0 0, .int 0 0, .int 0 0, .int 0 0, .ref 230, .bool false, .int 181 0, .ref 231, .none, .none, .none, .none, .int 538 0, .int 181 0, .str "/claim/cut.py" 539]) #[]
noncomputable def o243 : Obj := .mk (.type "frame") none .plain #[(some (.ref 232)), (some (.ref 3)), (some (.ref 229)), none, (some (.str "f77.listio" 520)), none, (some (.ref 0))]
noncomputable def o244 : Obj := .mk (.type "tuple") none (.seq #[] 0) #[]
noncomputable def o245 : Obj := .mk .none none (.fields #[]) #[]
noncomputable def o246 : Obj := .mk (.type "tuple") none (.seq #[.str "self" 548, .str "source" 549] 0) #[]
noncomputable def o247 : Obj := .mk (.type "tuple") none (.seq #[] 0) #[]
noncomputable def o248 : Obj := .mk .none none (.func (FuncData.mk "__init__" "ListReader.__init__" (fA (sub (st 40) 0)) (FuncBody.stmts (fB (sub (st 40) 0))) (fS (sub (st 40) 0)) 0 [] .none .none .none .none none .none .none 0)) #[]
noncomputable def o249 : Obj := .mk (.type "code") none (.fields #[.str "__init__" 545, .str "ListReader.__init__" 546, .str "/claim/cut.py" 547, .int 183 0, .int 2 0, .int 0 0, .int 0 0, .int 3 0, .ref 234, .bool true, .int 181 0, .ref 235, .none, .ref 236, .ref 237, .ref 238, .int 550 0, .int 183 0, .str "/claim/cut.py" 551]) #[]
noncomputable def o250 : Obj := .mk (.type "function") none (.func (FuncData.mk "__init__" "ListReader.__init__" (fA (sub (st 40) 0)) (FuncBody.stmts (fB (sub (st 40) 0))) (fS (sub (st 40) 0)) 3 [] .none .none .none (.str "f77.listio" 520) none (.ref 239) .none 0)) #[]
noncomputable def o251 : Obj := .mk (.type "tuple") none (.seq #[.str "col" 553, .str "held" 554, .str "is_behind" 555, .str "is_done" 556, .str "left" 557, .str "record" 558, .str "source" 559] 0) #[]
noncomputable def o252 (P : Params) : Obj := .mk (.type "dict") none (.dict #[dE P "__module__" 540 (.str "f77.listio" 520), dE P "__firstlineno__" 544 (.int 181 543), dE P "__init__" 552 (.ref 240), dE P "__static_attributes__" 560 (.ref 241), dE P "__dict__" 562 (.ref 244), dE P "__weakref__" 564 (.ref 245), dE P "__doc__" 565 .none] 4) #[]
noncomputable def o253 : Obj := .mk (.type "type") none (.cls (ClassData.mk "ListReader" [.type "object"] [.ref 243, .type "object"] 242 "ListReader" true [] [] false none false)) #[none, none, (some (.str "ListReader" 533)), (some (.str "ListReader" 541)), (some (.builtin "object.__new__")), (some (.bool true))]
noncomputable def o254 : Obj := .mk (.type "getset_descriptor") none (.fields #[.str "__dict__" 561, .ref 243, .builtin "function.__dict__", .builtin "function.__dict__#set"]) #[]
noncomputable def o255 : Obj := .mk (.type "getset_descriptor") none (.fields #[.str "__weakref__" 563, .ref 243, .builtin "ExceptionGroup.__weakref__", .none]) #[]
noncomputable def o256 : Obj := .mk (.type "super") none (.fields #[.ref 243, .ref 243, .ref 243]) #[]
noncomputable def o257 : Obj := .mk (.type "builtin_function_or_method") none (.fields #[.builtin "object.__init_subclass__", .ref 243]) #[]
noncomputable def o258 : Obj := .mk (.type "tuple") none (.seq #[] 0) #[]
noncomputable def o259 : Obj := .mk .none none (.fields #[]) #[]
noncomputable def o260 : Obj := .mk (.type "tuple") none (.seq #[.str "reader" 571] 0) #[]
noncomputable def o261 : Obj := .mk (.type "tuple") none (.seq #[] 0) #[]
noncomputable def o262 : Obj := .mk .none none (.func (FuncData.mk "sign_here" "sign_here" (fA (st 41)) (FuncBody.stmts (fB (st 41))) (fS (st 41)) 0 [] .none .none .none .none none .none .none 0)) #[]
noncomputable def o263 : Obj := .mk (.type "code") none (.fields #[.str "sign_here" 568, .str "sign_here" 569, .str "/claim/cut.py" 570, .int 191 0, .int 1 0, .int 0 0, .int 0 0, .int 3 0, .ref 248, .bool true, .int 181 0, .ref 249, .none, .ref 250, .ref 251, .ref 252, .int 572 0, .int 191 0, .str "/claim/cut.py" 573]) #[]
noncomputable def o264 : Obj := .mk (.type "function") none (.func (FuncData.mk "sign_here" "sign_here" (fA (st 41)) (FuncBody.stmts (fB (st 41))) (fS (st 41)) 3 [] .none .none .none (.str "f77.listio" 520) none (.ref 253) .none 0)) #[]
noncomputable def o265 : Obj := .mk (.type "tuple") none (.seq #[] 0) #[]
noncomputable def o266 : Obj := .mk .none none (.fields #[]) #[]
noncomputable def o267 : Obj := .mk (.type "tuple") none (.seq #[.str "reader" 578] 0) #[]
noncomputable def o268 : Obj := .mk (.type "tuple") none (.seq #[] 0) #[]
noncomputable def o269 : Obj := .mk .none none (.func (FuncData.mk "step_on" "step_on" (fA (st 42)) (FuncBody.stmts (fB (st 42))) (fS (st 42)) 0 [] .none .none .none .none none .none .none 0)) #[]
noncomputable def o270 : Obj := .mk (.type "code") none (.fields #[.str "step_on" 575, .str "step_on" 576, .str "/claim/cut.py" 577, .int 193 0, .int 1 0, .int 0 0, .int 0 0, .int 3 0, .ref 255, .bool true, .int 181 0, .ref 256, .none, .ref 257, .ref 258, .ref 259, .int 579 0, .int 193 0, .str "/claim/cut.py" 580]) #[]
noncomputable def o271 : Obj := .mk (.type "function") none (.func (FuncData.mk "step_on" "step_on" (fA (st 42)) (FuncBody.stmts (fB (st 42))) (fS (st 42)) 3 [] .none .none .none (.str "f77.listio" 520) none (.ref 260) .none 0)) #[]
noncomputable def o272 : Obj := .mk (.type "tuple") none (.seq #[] 0) #[]
noncomputable def o273 : Obj := .mk .none none (.fields #[]) #[]
noncomputable def o274 : Obj := .mk (.type "tuple") none (.seq #[.str "reader" 585] 0) #[]
noncomputable def o275 : Obj := .mk (.type "tuple") none (.seq #[] 0) #[]
noncomputable def o276 : Obj := .mk .none none (.func (FuncData.mk "skip_blanks" "skip_blanks" (fA (st 43)) (FuncBody.stmts (fB (st 43))) (fS (st 43)) 0 [] .none .none .none .none none .none .none 0)) #[]
noncomputable def o277 : Obj := .mk (.type "code") none (.fields #[.str "skip_blanks" 582, .str "skip_blanks" 583, .str "/claim/cut.py" 584, .int 199 0, .int 1 0, .int 0 0, .int 0 0, .int 3 0, .ref 262, .bool true, .int 181 0, .ref 263, .none, .ref 264, .ref 265, .ref 266, .int 586 0, .int 199 0, .str "/claim/cut.py" 587]) #[]
noncomputable def o278 : Obj := .mk (.type "function") none (.func (FuncData.mk "skip_blanks" "skip_blanks" (fA (st 43)) (FuncBody.stmts (fB (st 43))) (fS (st 43)) 3 [] .none .none .none (.str "f77.listio" 520) none (.ref 267) .none 0)) #[]
noncomputable def o279 : Obj := .mk (.type "tuple") none (.seq #[] 0) #[]
noncomputable def o280 : Obj := .mk .none none (.fields #[]) #[]
noncomputable def o281 : Obj := .mk (.type "tuple") none (.seq #[.str "reader" 592] 0) #[]
noncomputable def o282 : Obj := .mk (.type "tuple") none (.seq #[] 0) #[]
noncomputable def o283 : Obj := .mk .none none (.func (FuncData.mk "skip_gaps" "skip_gaps" (fA (st 44)) (FuncBody.stmts (fB (st 44))) (fS (st 44)) 0 [] .none .none .none .none none .none .none 0)) #[]
noncomputable def o284 : Obj := .mk (.type "code") none (.fields #[.str "skip_gaps" 589, .str "skip_gaps" 590, .str "/claim/cut.py" 591, .int 202 0, .int 1 0, .int 0 0, .int 0 0, .int 3 0, .ref 269, .bool true, .int 181 0, .ref 270, .none, .ref 271, .ref 272, .ref 273, .int 593 0, .int 202 0, .str "/claim/cut.py" 594]) #[]
noncomputable def o285 : Obj := .mk (.type "function") none (.func (FuncData.mk "skip_gaps" "skip_gaps" (fA (st 44)) (FuncBody.stmts (fB (st 44))) (fS (st 44)) 3 [] .none .none .none (.str "f77.listio" 520) none (.ref 274) .none 0)) #[]
noncomputable def o286 : Obj := .mk (.type "tuple") none (.seq #[] 0) #[]
noncomputable def o287 : Obj := .mk .none none (.fields #[]) #[]
noncomputable def o288 : Obj := .mk (.type "tuple") none (.seq #[.str "reader" 599, .str "ends" 600, .str "run" 601] 0) #[]
noncomputable def o289 : Obj := .mk (.type "tuple") none (.seq #[] 0) #[]
noncomputable def o290 : Obj := .mk .none none (.func (FuncData.mk "take_run" "take_run" (fA (st 45)) (FuncBody.stmts (fB (st 45))) (fS (st 45)) 0 [] .none .none .none .none none .none .none 0)) #[]
noncomputable def o291 : Obj := .mk (.type "code") none (.fields #[.str "take_run" 596, .str "take_run" 597, .str "/claim/cut.py" 598, .int 205 0, .int 2 0, .int 0 0, .int 0 0, .int 3 0, .ref 276, .bool true, .int 181 0, .ref 277, .none, .ref 278, .ref 279, .ref 280, .int 602 0, .int 205 0, .str "/claim/cut.py" 603]) #[]
noncomputable def o292 : Obj := .mk (.type "function") none (.func (FuncData.mk "take_run" "take_run" (fA (st 45)) (FuncBody.stmts (fB (st 45))) (fS (st 45)) 3 [] .none .none .none (.str "f77.listio" 520) none (.ref 281) .none 0)) #[]
noncomputable def t8 (P : Params) : BT := (BN (boot_o_0 P) (BN (boot_o_1 P) (BN (o235 P) (BN (boot_o_7 P) (BN o7 (BN o66 (BN o61 (BN o133 (LF o265) BE) (LF o199)) (BN o99 (LF o165) (LF o231))) (BN o45 (BN o80 (BN o149 (LF o281) BE) (LF o215)) (BN o115 (LF o181) (LF o249)))) (BN o15 (BN o34 (BN o72 (BN o141 (LF o273) BE) (LF o207)) (BN o107 (LF o173) (LF o241))) (BN o53 (BN (o91 P) (BN o157 (LF o289) BE) (LF o223)) (BN o125 (LF o189) (LF o257))))) (BN o0 (BN o11 (BN o30 (BN o68 (BN o137 (LF o269) BE) (LF o203)) (BN o103 (LF o169) (LF o237))) (BN o49 (BN o84 (BN o153 (LF o285) BE) (LF o219)) (BN o121 (LF o185) (LF o253)))) (BN o19 (BN (o38 P) (BN o76 (BN o145 (LF o277) BE) (LF o211)) (BN o111 (LF o177) (LF o245))) (BN o57 (BN o95 (LF o161) (LF o227)) (BN o129 (LF o193) (LF o261)))))) (BN (boot_o_5 P) (BN (boot_o_9 P) (BN (o9 P) (BN o25 (BN o63 (BN o135 (LF o267) BE) (LF o201)) (BN o101 (LF o167) (LF o233))) (BN (o47 P) (BN (o82 P) (BN o151 (LF o283) BE) (LF o217)) (BN o119 (LF o183) (LF o251)))) (BN o17 (BN o36 (BN o74 (BN o143 (LF o275) BE) (LF o209)) (BN o109 (LF o175) (LF o243))) (BN o55 (BN o93 (BN o159 (LF o291) BE) (LF o225)) (BN o127 (LF o191) (LF o259))))) (BN o2 (BN o13 (BN (o32 P) (BN o70 (BN o139 (LF o271) BE) (LF o205)) (BN o105 (LF o171) (LF (o239 P)))) (BN o51 (BN o89 (BN o155 (LF o287) BE) (LF o221)) (BN o123 (LF o187) (LF o255)))) (BN o21 (BN o40 (BN o78 (BN o147 (LF o279) BE) (LF o213)) (BN o113 (LF o179) (LF o247))) (BN o59 (BN o97 (LF o163) (LF o229)) (BN o131 (LF o195) (LF o263))))))) (BN (o4 P) (BN (boot_o_4 P) (BN (boot_o_8 P) (BN o8 (BN o24 (BN o62 (BN o134 (LF o266) BE) (LF o200)) (BN o100 (LF o166) (LF o232))) (BN o46 (BN o81 (BN o150 (LF o282) BE) (LF o216)) (BN o118 (LF o182) (LF o250)))) (BN o16 (BN o35 (BN o73 (BN o142 (LF o274) BE) (LF o208)) (BN o108 (LF o174) (LF o242))) (BN o54 (BN o92 (BN o158 (LF o290) BE) (LF o224)) (BN o126 (LF o190) (LF o258))))) (BN o236 (BN o12 (BN o31 (BN (o69 P) (BN o138 (LF o270) BE) (LF o204)) (BN (o104 P) (LF o170) (LF o238))) (BN o50 (BN o85 (BN o154 (LF o286) BE) (LF o220)) (BN o122 (LF o186) (LF o254)))) (BN o20 (BN o39 (BN o77 (BN o146 (LF o278) BE) (LF o212)) (BN o112 (LF o178) (LF o246))) (BN o58 (BN o96 (LF o162) (LF o228)) (BN o130 (LF o194) (LF o262)))))) (BN (boot_o_6 P) (BN (boot_o_10 P) (BN o10 (BN o26 (BN o67 (BN o136 (LF o268) BE) (LF o202)) (BN o102 (LF o168) (LF o234))) (BN o48 (BN o88 (BN o152 (LF o284) BE) (LF o218)) (BN o120 (LF o184) (LF (o252 P))))) (BN o18 (BN o37 (BN o75 (BN o144 (LF o276) BE) (LF o210)) (BN o110 (LF o176) (LF o244))) (BN o56 (BN o94 (BN o160 (LF o292) BE) (LF o226)) (BN o128 (LF o192) (LF o260))))) (BN o3 (BN o14 (BN o33 (BN o71 (BN o140 (LF o272) BE) (LF o206)) (BN o106 (LF o172) (LF o240))) (BN o52 (BN o90 (BN o156 (LF o288) BE) (LF o222)) (BN o124 (LF o188) (LF o256)))) (BN (o22 P) (BN o41 (BN o79 (BN o148 (LF o280) BE) (LF o214)) (BN o114 (LF o180) (LF o248))) (BN (o60 P) (BN o98 (LF o164) (LF o230)) (BN o132 (LF o198) (LF o264))))))))
noncomputable abbrev S8 (w : World) (os : OsState) : SharedT := SharedT.mk (t8 w.params) (nat_lit 283) (Life.mk [] [] [] 0 [] [] false #[] [] 0 false false false 0 [2000, 10, 10] false 0 true [] [] 0 false) #[] (Drawn.mk 0 0 0 0) (nat_lit 605) os
noncomputable abbrev sts8 : List Stmt := [st 40, st 41, st 42, st 43, st 44, st 45]
theorem pc8 (w : World) : (fun os => segRunT treeTable pg w m0 ann 1 (nat_lit 376) (S7 w os) (piecesOf sts8 env cE (Pos.mk 180 0 180 9) fE)) = fun os => some (Flow.next, S8 w os, cE, (Pos.mk 205 0 210 14)) := by (try rewrite [Fast.te10110043849684766642]); (try rewrite [Fast.te14364793385576792824]); kernel_rfl
noncomputable def o293 (P : Params) : Obj := .mk (.type "dict") none (.dict #[dE P "__name__" 165 (.str "f77.fmtrun" 702), dE P "__doc__" 166 .none, dE P "__package__" 167 .none, dE P "__loader__" 168 (.builtin "__main__.__loader__#opaque"), dE P "__spec__" 169 .none, dE P "__annotations__" 170 (.ref 6), dE P "__builtins__" 171 (.ref 4), dE P "__file__" 173 (.str "/claim/cut.py" 172), dE P "__cached__" 174 .none, dE P "F77Error" 217 (.ref 31), dE P "RunFault" 233 (.ref 44), dE P "FormatFault" 259 (.ref 63), dE P "IoFault" 285 (.ref 82), dE P "EndFault" 309 (.ref 101), dE P "INTEGER" 311 (.int 0 310), dE P "REAL" 313 (.int 1 312), dE P "DOUBLE" 315 (.int 2 314), dE P "COMPLEX" 317 (.int 3 316), dE P "LOGICAL" 319 (.int 4 318), dE P "CHARACTER" 321 (.int 5 320), dE P "NOUGHT" 326 (.ref 104), dE P "FIGURES" 328 (.str "0123456789" 327), dE P "count_digits" 336 (.ref 111), dE P "strip_zeros" 344 (.ref 118), dE P "round_digits" 357 (.ref 125), dE P "round_real" 368 (.ref 132), dE P "digits_of" 376 (.ref 139), dE P "BAD_FIELD" 380 (.int 1 379), dE P "TOO_GREAT" 382 (.int 2 381), dE P "WRONG_KIND" 384 (.int 3 383), dE P "REAL_WORDS" 389 (.ref 140), dE P "solid_field" 399 (.ref 147), dE P "whole_of" 409 (.ref 154), dE P "cut_sign" 416 (.ref 161), dE P "in_width" 425 (.ref 168), dE P "read_int" 438 (.ref 175), dE P "cut_exponent" 446 (.ref 182), dE P "field_exponent" 456 (.ref 189), dE P "read_figures" 468 (.ref 196), dE P "read_real" 489 (.ref 203), dE P "read_logical" 497 (.ref 210), dE P "read_text" 505 (.ref 217), dE P "read_value" 519 (.ref 224), dE P "SEPARATORS" 526 (.ref 225), dE P "PART_ENDS" 532 (.ref 226), dE P "ListReader" 567 (.ref 243), dE P "sign_here" 574 (.ref 254), dE P "step_on" 581 (.ref 261), dE P "skip_blanks" 588 (.ref 268), dE P "skip_gaps" 595 (.ref 275), dE P "take_run" 604 (.ref 282), dE P "take_sign" 612 (.ref 289), dE P "take_repeat" 622 (.ref 296), dE P "take_quoted" 631 (.ref 303), dE P "take_pair" 640 (.ref 310), dE P "take_constant" 649 (.ref 317), dE P "next_constant" 656 (.ref 324), dE P "part_real" 665 (.ref 331), dE P "fitted_text" 673 (.ref 338), dE P "value_of" 684 (.ref 345), dE P "read_item" 695 (.ref 352), dE P "read_list" 701 (.ref 357), dE P "DATA_WORDS" 711 (.ref 358), dE P "add_flat" 723 (.ref 365)] 64) #[]
noncomputable def o294 : Obj := .mk .none none (.fields #[.int 2 0, .int 0 0, .ref 20, .int 7 0, .int 0 0, .ref 40, .int 9 0, .int 0 0, .ref 52, .int 14 0, .int 0 0, .ref 71, .int 19 0, .int 0 0, .ref 90, .int 32 0, .int 0 0, .ref 110, .int 42 0, .int 0 0, .ref 117, .int 49 0, .int 0 0, .ref 124, .int 59 0, .int 0 0, .ref 131, .int 67 0, .int 0 0, .ref 138, .int 74 0, .int 0 0, .ref 146, .int 82 0, .int 0 0, .ref 153, .int 92 0, .int 0 0, .ref 160, .int 98 0, .int 0 0, .ref 167, .int 101 0, .int 0 0, .ref 174, .int 112 0, .int 0 0, .ref 181, .int 119 0, .int 0 0, .ref 188, .int 125 0, .int 0 0, .ref 195, .int 137 0, .int 0 0, .ref 202, .int 152 0, .int 0 0, .ref 209, .int 163 0, .int 0 0, .ref 216, .int 167 0, .int 0 0, .ref 223, .int 181 0, .int 0 0, .ref 232, .int 191 0, .int 0 0, .ref 253, .int 193 0, .int 0 0, .ref 260, .int 199 0, .int 0 0, .ref 267, .int 202 0, .int 0 0, .ref 274, .int 205 0, .int 0 0, .ref 281, .int 211 0, .int 0 0, .ref 288, .int 215 0, .int 0 0, .ref 295, .int 227 0, .int 0 0, .ref 302, .int 238 0, .int 0 0, .ref 309, .int 249 0, .int 0 0, .ref 316, .int 260 0, .int 0 0, .ref 323, .int 284 0, .int 0 0, .ref 330, .int 288 0, .int 0 0, .ref 337, .int 290 0, .int 0 0, .ref 344, .int 303 0, .int 0 0, .ref 351, .int 308 0, .int 0 0, .ref 356, .int 313 0, .int 0 0, .ref 364]) #[]
noncomputable def o295 : Obj := .mk (.type "tuple") none (.seq #[] 0) #[]
noncomputable def o296 : Obj := .mk .none none (.fields #[]) #[]
noncomputable def o297 : Obj := .mk (.type "tuple") none (.seq #[.str "reader" 608, .str "sign" 609] 0) #[]
noncomputable def o298 : Obj := .mk (.type "tuple") none (.seq #[] 0) #[]
noncomputable def o299 : Obj := .mk .none none (.func (FuncData.mk "take_sign" "take_sign" (fA (st 46)) (FuncBody.stmts (fB (st 46))) (fS (st 46)) 0 [] .none .none .none .none none .none .none 0)) #[]
noncomputable def o300 : Obj := .mk (.type "code") none (.fields #[.str "take_sign" 605, .str "take_sign" 606, .str "/claim/cut.py" 607, .int 211 0, .int 2 0, .int 0 0, .int 0 0, .int 3 0, .ref 283, .bool true, .int 181 0, .ref 284, .none, .ref 285, .ref 286, .ref 287, .int 610 0, .int 211 0, .str "/claim/cut.py" 611]) #[]
noncomputable def o301 : Obj := .mk (.type "function") none (.func (FuncData.mk "take_sign" "take_sign" (fA (st 46)) (FuncBody.stmts (fB (st 46))) (fS (st 46)) 3 [] .none .none .none (.str "f77.listio" 520) none (.ref 288) .none 0)) #[]
noncomputable def o302 : Obj := .mk (.type "tuple") none (.seq #[] 0) #[]
noncomputable def o303 : Obj := .mk .none none (.fields #[]) #[]
noncomputable def o304 : Obj := .mk (.type "tuple") none (.seq #[.str "reader" 616, .str "record" 617, .str "at" 618, .str "times" 619] 0) #[]
noncomputable def o305 : Obj := .mk (.type "tuple") none (.seq #[] 0) #[]
noncomputable def o306 : Obj := .mk .none none (.func (FuncData.mk "take_repeat" "take_repeat" (fA (st 47)) (FuncBody.stmts (fB (st 47))) (fS (st 47)) 0 [] .none .none .none .none none .none .none 0)) #[]
noncomputable def o307 : Obj := .mk (.type "code") none (.fields #[.str "take_repeat" 613, .str "take_repeat" 614, .str "/claim/cut.py" 615, .int 215 0, .int 1 0, .int 0 0, .int 0 0, .int 3 0, .ref 290, .bool true, .int 181 0, .ref 291, .none, .ref 292, .ref 293, .ref 294, .int 620 0, .int 215 0, .str "/claim/cut.py" 621]) #[]
noncomputable def o308 : Obj := .mk (.type "function") none (.func (FuncData.mk "take_repeat" "take_repeat" (fA (st 47)) (FuncBody.stmts (fB (st 47))) (fS (st 47)) 3 [] .none .none .none (.str "f77.listio" 520) none (.ref 295) .none 0)) #[]
noncomputable def o309 : Obj := .mk (.type "tuple") none (.seq #[] 0) #[]
noncomputable def o310 : Obj := .mk .none none (.fields #[]) #[]
noncomputable def o311 : Obj := .mk (.type "tuple") none (.seq #[.str "reader" 626, .str "text" 627, .str "sign" 628] 0) #[]
noncomputable def o312 : Obj := .mk (.type "tuple") none (.seq #[] 0) #[]
noncomputable def o313 : Obj := .mk .none none (.func (FuncData.mk "take_quoted" "take_quoted" (fA (st 48)) (FuncBody.stmts (fB (st 48))) (fS (st 48)) 0 [] .none .none .none .none none .none .none 0)) #[]
noncomputable def o314 : Obj := .mk (.type "code") none (.fields #[.str "take_quoted" 623, .str "take_quoted" 624, .str "/claim/cut.py" 625, .int 227 0, .int 1 0, .int 0 0, .int 0 0, .int 3 0, .ref 297, .bool true, .int 181 0, .ref 298, .none, .ref 299, .ref 300, .ref 301, .int 629 0, .int 227 0, .str "/claim/cut.py" 630]) #[]
noncomputable def o315 : Obj := .mk (.type "function") none (.func (FuncData.mk "take_quoted" "take_quoted" (fA (st 48)) (FuncBody.stmts (fB (st 48))) (fS (st 48)) 3 [] .none .none .none (.str "f77.listio" 520) none (.ref 302) .none 0)) #[]
noncomputable def o316 : Obj := .mk (.type "tuple") none (.seq #[] 0) #[]
noncomputable def o317 : Obj := .mk .none none (.fields #[]) #[]
noncomputable def o318 : Obj := .mk (.type "tuple") none (.seq #[.str "reader" 635, .str "first" 636, .str "second" 637] 0) #[]
noncomputable def o319 : Obj := .mk (.type "tuple") none (.seq #[] 0) #[]
noncomputable def o320 : Obj := .mk .none none (.func (FuncData.mk "take_pair" "take_pair" (fA (st 49)) (FuncBody.stmts (fB (st 49))) (fS (st 49)) 0 [] .none .none .none .none none .none .none 0)) #[]
noncomputable def o321 : Obj := .mk (.type "code") none (.fields #[.str "take_pair" 632, .str "take_pair" 633, .str "/claim/cut.py" 634, .int 238 0, .int 1 0, .int 0 0, .int 0 0, .int 3 0, .ref 304, .bool true, .int 181 0, .ref 305, .none, .ref 306, .ref 307, .ref 308, .int 638 0, .int 238 0, .str "/claim/cut.py" 639]) #[]
noncomputable def o322 : Obj := .mk (.type "function") none (.func (FuncData.mk "take_pair" "take_pair" (fA (st 49)) (FuncBody.stmts (fB (st 49))) (fS (st 49)) 3 [] .none .none .none (.str "f77.listio" 520) none (.ref 309) .none 0)) #[]
noncomputable def o323 : Obj := .mk (.type "tuple") none (.seq #[] 0) #[]
noncomputable def o324 : Obj := .mk .none none (.fields #[]) #[]
noncomputable def o325 : Obj := .mk (.type "tuple") none (.seq #[.str "reader" 644, .str "sign" 645, .str "found" 646] 0) #[]
noncomputable def o326 : Obj := .mk (.type "tuple") none (.seq #[] 0) #[]
noncomputable def o327 : Obj := .mk .none none (.func (FuncData.mk "take_constant" "take_constant" (fA (st 50)) (FuncBody.stmts (fB (st 50))) (fS (st 50)) 0 [] .none .none .none .none none .none .none 0)) #[]
noncomputable def o328 : Obj := .mk (.type "code") none (.fields #[.str "take_constant" 641, .str "take_constant" 642, .str "/claim/cut.py" 643, .int 249 0, .int 1 0, .int 0 0, .int 0 0, .int 3 0, .ref 311, .bool true, .int 181 0, .ref 312, .none, .ref 313, .ref 314, .ref 315, .int 647 0, .int 249 0, .str "/claim/cut.py" 648]) #[]
noncomputable def o329 : Obj := .mk (.type "function") none (.func (FuncData.mk "take_constant" "take_constant" (fA (st 50)) (FuncBody.stmts (fB (st 50))) (fS (st 50)) 3 [] .none .none .none (.str "f77.listio" 520) none (.ref 316) .none 0)) #[]
noncomputable def o330 : Obj := .mk (.type "tuple") none (.seq #[] 0) #[]
noncomputable def o331 : Obj := .mk .none none (.fields #[]) #[]
noncomputable def o332 : Obj := .mk (.type "tuple") none (.seq #[.str "reader" 653] 0) #[]
noncomputable def o333 : Obj := .mk (.type "tuple") none (.seq #[] 0) #[]
noncomputable def o334 : Obj := .mk .none none (.func (FuncData.mk "next_constant" "next_constant" (fA (st 51)) (FuncBody.stmts (fB (st 51))) (fS (st 51)) 0 [] .none .none .none .none none .none .none 0)) #[]
noncomputable def o335 : Obj := .mk (.type "code") none (.fields #[.str "next_constant" 650, .str "next_constant" 651, .str "/claim/cut.py" 652, .int 260 0, .int 1 0, .int 0 0, .int 0 0, .int 3 0, .ref 318, .bool true, .int 181 0, .ref 319, .none, .ref 320, .ref 321, .ref 322, .int 654 0, .int 260 0, .str "/claim/cut.py" 655]) #[]
noncomputable def o336 : Obj := .mk (.type "function") none (.func (FuncData.mk "next_constant" "next_constant" (fA (st 51)) (FuncBody.stmts (fB (st 51))) (fS (st 51)) 3 [] .none .none .none (.str "f77.listio" 520) none (.ref 323) .none 0)) #[]
noncomputable def o337 : Obj := .mk (.type "tuple") none (.seq #[] 0) #[]
noncomputable def o338 : Obj := .mk .none none (.fields #[]) #[]
noncomputable def o339 : Obj := .mk (.type "tuple") none (.seq #[.str "run" 660, .str "kind" 661, .str "limits" 662] 0) #[]
noncomputable def o340 : Obj := .mk (.type "tuple") none (.seq #[] 0) #[]
noncomputable def o341 : Obj := .mk .none none (.func (FuncData.mk "part_real" "part_real" (fA (st 52)) (FuncBody.stmts (fB (st 52))) (fS (st 52)) 0 [] .none .none .none .none none .none .none 0)) #[]
noncomputable def o342 : Obj := .mk (.type "code") none (.fields #[.str "part_real" 657, .str "part_real" 658, .str "/claim/cut.py" 659, .int 284 0, .int 3 0, .int 0 0, .int 0 0, .int 3 0, .ref 325, .bool true, .int 181 0, .ref 326, .none, .ref 327, .ref 328, .ref 329, .int 663 0, .int 284 0, .str "/claim/cut.py" 664]) #[]
noncomputable def o343 : Obj := .mk (.type "function") none (.func (FuncData.mk "part_real" "part_real" (fA (st 52)) (FuncBody.stmts (fB (st 52))) (fS (st 52)) 3 [] .none .none .none (.str "f77.listio" 520) none (.ref 330) .none 0)) #[]
noncomputable def o344 : Obj := .mk (.type "tuple") none (.seq #[] 0) #[]
noncomputable def o345 : Obj := .mk .none none (.fields #[]) #[]
noncomputable def o346 : Obj := .mk (.type "tuple") none (.seq #[.str "text" 669, .str "length" 670] 0) #[]
noncomputable def o347 : Obj := .mk (.type "tuple") none (.seq #[] 0) #[]
noncomputable def o348 : Obj := .mk .none none (.func (FuncData.mk "fitted_text" "fitted_text" (fA (st 53)) (FuncBody.stmts (fB (st 53))) (fS (st 53)) 0 [] .none .none .none .none none .none .none 0)) #[]
noncomputable def o349 : Obj := .mk (.type "code") none (.fields #[.str "fitted_text" 666, .str "fitted_text" 667, .str "/claim/cut.py" 668, .int 288 0, .int 2 0, .int 0 0, .int 0 0, .int 3 0, .ref 332, .bool true, .int 181 0, .ref 333, .none, .ref 334, .ref 335, .ref 336, .int 671 0, .int 288 0, .str "/claim/cut.py" 672]) #[]
noncomputable def o350 : Obj := .mk (.type "function") none (.func (FuncData.mk "fitted_text" "fitted_text" (fA (st 53)) (FuncBody.stmts (fB (st 53))) (fS (st 53)) 3 [] .none .none .none (.str "f77.listio" 520) none (.ref 337) .none 0)) #[]
noncomputable def o351 : Obj := .mk (.type "tuple") none (.seq #[] 0) #[]
noncomputable def o352 : Obj := .mk .none none (.fields #[]) #[]
noncomputable def o353 : Obj := .mk (.type "tuple") none (.seq #[.str "constant" 677, .str "kind" 678, .str "length" 679, .str "limits" 680, .str "form" 681] 0) #[]
noncomputable def o354 : Obj := .mk (.type "tuple") none (.seq #[] 0) #[]
noncomputable def o355 : Obj := .mk .none none (.func (FuncData.mk "value_of" "value_of" (fA (st 54)) (FuncBody.stmts (fB (st 54))) (fS (st 54)) 0 [] .none .none .none .none none .none .none 0)) #[]
noncomputable def o356 : Obj := .mk (.type "code") none (.fields #[.str "value_of" 674, .str "value_of" 675, .str "/claim/cut.py" 676, .int 290 0, .int 4 0, .int 0 0, .int 0 0, .int 3 0, .ref 339, .bool true, .int 181 0, .ref 340, .none, .ref 341, .ref 342, .ref 343, .int 682 0, .int 290 0, .str "/claim/cut.py" 683]) #[]
noncomputable def o357 : Obj := .mk (.type "function") none (.func (FuncData.mk "value_of" "value_of" (fA (st 54)) (FuncBody.stmts (fB (st 54))) (fS (st 54)) 3 [] .none .none .none (.str "f77.listio" 520) none (.ref 344) .none 0)) #[]
noncomputable def o358 : Obj := .mk (.type "tuple") none (.seq #[] 0) #[]
noncomputable def o359 : Obj := .mk .none none (.fields #[]) #[]
noncomputable def o360 : Obj := .mk (.type "tuple") none (.seq #[.str "reader" 688, .str "kind" 689, .str "length" 690, .str "limits" 691, .str "constant" 692] 0) #[]
noncomputable def o361 : Obj := .mk (.type "tuple") none (.seq #[] 0) #[]
noncomputable def o362 : Obj := .mk .none none (.func (FuncData.mk "read_item" "read_item" (fA (st 55)) (FuncBody.stmts (fB (st 55))) (fS (st 55)) 0 [] .none .none .none .none none .none .none 0)) #[]
noncomputable def o363 : Obj := .mk (.type "code") none (.fields #[.str "read_item" 685, .str "read_item" 686, .str "/claim/cut.py" 687, .int 303 0, .int 4 0, .int 0 0, .int 0 0, .int 3 0, .ref 346, .bool true, .int 181 0, .ref 347, .none, .ref 348, .ref 349, .ref 350, .int 693 0, .int 303 0, .str "/claim/cut.py" 694]) #[]
noncomputable def o364 : Obj := .mk (.type "function") none (.func (FuncData.mk "read_item" "read_item" (fA (st 55)) (FuncBody.stmts (fB (st 55))) (fS (st 55)) 3 [] .none .none .none (.str "f77.listio" 520) none (.ref 351) .none 0)) #[]
noncomputable def o365 : Obj := .mk (.type "tuple") none (.seq #[] 0) #[]
noncomputable def o366 : Obj := .mk .none none (.fields #[]) #[]
noncomputable def o367 : Obj := .mk .none none (.func (FuncData.mk "read_list" "read_list" (fA (st 56)) (FuncBody.stmts (fB (st 56))) (fS (st 56)) 0 [] .none .none .none .none none .none .none 0)) #[]
noncomputable def o368 : Obj := .mk (.type "code") none (.fields #[.str "read_list" 696, .str "read_list" 697, .str "/claim/cut.py" 698, .int 308 0, .int 3 0, .int 0 0, .int 0 0, .int 3 0, .ref 353, .bool true, .int 181 0, .ref 354, .none, .none, .none, .ref 355, .int 699 0, .int 308 0, .str "/claim/cut.py" 700]) #[]
noncomputable def o369 : Obj := .mk (.type "function") none (.func (FuncData.mk "read_list" "read_list" (fA (st 56)) (FuncBody.stmts (fB (st 56))) (fS (st 56)) 3 [] .none .none .none (.str "f77.listio" 520) none (.ref 356) .none 0)) #[]
noncomputable def o370 : Obj := .mk (.type "tuple") none (.seq #[.str "I" 704, .str "F" 705, .str "E" 706, .str "D" 707, .str "G" 708, .str "L" 709, .str "A" 710] 0) #[]
noncomputable def o371 : Obj := .mk (.type "tuple") none (.seq #[] 0) #[]
noncomputable def o372 : Obj := .mk .none none (.fields #[]) #[]
noncomputable def o373 : Obj := .mk (.type "tuple") none (.seq #[.str "item" 715, .str "flat" 716, .str "word" 717, .str "start" 718, .str "inner" 719, .str "part" 720] 0) #[]
noncomputable def o374 : Obj := .mk (.type "tuple") none (.seq #[] 0) #[]
noncomputable def o375 : Obj := .mk .none none (.func (FuncData.mk "add_flat" "add_flat" (fA (st 59)) (FuncBody.stmts (fB (st 59))) (fS (st 59)) 0 [] .none .none .none .none none .none .none 0)) #[]
noncomputable def o376 : Obj := .mk (.type "code") none (.fields #[.str "add_flat" 712, .str "add_flat" 713, .str "/claim/cut.py" 714, .int 313 0, .int 2 0, .int 0 0, .int 0 0, .int 3 0, .ref 359, .bool true, .int 181 0, .ref 360, .none, .ref 361, .ref 362, .ref 363, .int 721 0, .int 313 0, .str "/claim/cut.py" 722]) #[]
noncomputable def o377 : Obj := .mk (.type "function") none (.func (FuncData.mk "add_flat" "add_flat" (fA (st 59)) (FuncBody.stmts (fB (st 59))) (fS (st 59)) 3 [] .none .none .none (.str "f77.fmtrun" 702) none (.ref 364) .none 0)) #[]
noncomputable def t9 (P : Params) : BT := (BN (boot_o_0 P) (BN (boot_o_1 P) (BN (o293 P) (BN (boot_o_7 P) (BN o7 (BN o66 (BN o61 (BN o133 (LF o265) BE) (BN o199 (LF o331) BE)) (BN o99 (BN o165 (LF o299) BE) (BN o231 (LF o363) BE))) (BN o45 (BN o80 (BN o149 (LF o281) BE) (BN o215 (LF o347) BE)) (BN o115 (BN o181 (LF o315) BE) (LF o249)))) (BN o15 (BN o34 (BN o72 (BN o141 (LF o273) BE) (BN o207 (LF o339) BE)) (BN o107 (BN o173 (LF o307) BE) (BN o241 (LF o371) BE))) (BN o53 (BN (o91 P) (BN o157 (LF o289) BE) (BN o223 (LF o355) BE)) (BN o125 (BN o189 (LF o323) BE) (LF o257))))) (BN o0 (BN o11 (BN o30 (BN o68 (BN o137 (LF o269) BE) (BN o203 (LF o335) BE)) (BN o103 (BN o169 (LF o303) BE) (BN o237 (LF o367) BE))) (BN o49 (BN o84 (BN o153 (LF o285) BE) (BN o219 (LF o351) BE)) (BN o121 (BN o185 (LF o319) BE) (LF o253)))) (BN o19 (BN (o38 P) (BN o76 (BN o145 (LF o277) BE) (BN o211 (LF o343) BE)) (BN o111 (BN o177 (LF o311) BE) (BN o245 (LF o375) BE))) (BN o57 (BN o95 (BN o161 (LF o295) BE) (BN o227 (LF o359) BE)) (BN o129 (BN o193 (LF o327) BE) (LF o261)))))) (BN (boot_o_5 P) (BN (boot_o_9 P) (BN (o9 P) (BN o25 (BN o63 (BN o135 (LF o267) BE) (BN o201 (LF o333) BE)) (BN o101 (BN o167 (LF o301) BE) (BN o233 (LF o365) BE))) (BN (o47 P) (BN (o82 P) (BN o151 (LF o283) BE) (BN o217 (LF o349) BE)) (BN o119 (BN o183 (LF o317) BE) (LF o251)))) (BN o17 (BN o36 (BN o74 (BN o143 (LF o275) BE) (BN o209 (LF o341) BE)) (BN o109 (BN o175 (LF o309) BE) (BN o243 (LF o373) BE))) (BN o55 (BN o93 (BN o159 (LF o291) BE) (BN o225 (LF o357) BE)) (BN o127 (BN o191 (LF o325) BE) (LF o259))))) (BN o2 (BN o13 (BN (o32 P) (BN o70 (BN o139 (LF o271) BE) (BN o205 (LF o337) BE)) (BN o105 (BN o171 (LF o305) BE) (BN (o239 P) (LF o369) BE))) (BN o51 (BN o89 (BN o155 (LF o287) BE) (BN o221 (LF o353) BE)) (BN o123 (BN o187 (LF o321) BE) (LF o255)))) (BN o21 (BN o40 (BN o78 (BN o147 (LF o279) BE) (BN o213 (LF o345) BE)) (BN o113 (BN o179 (LF o313) BE) (BN o247 (LF o377) BE))) (BN o59 (BN o97 (BN o163 (LF o297) BE) (BN o229 (LF o361) BE)) (BN o131 (BN o195 (LF o329) BE) (LF o263))))))) (BN (o4 P) (BN (boot_o_4 P) (BN (boot_o_8 P) (BN o8 (BN o24 (BN o62 (BN o134 (LF o266) BE) (BN o200 (LF o332) BE)) (BN o100 (BN o166 (LF o300) BE) (BN o232 (LF o364) BE))) (BN o46 (BN o81 (BN o150 (LF o282) BE) (BN o216 (LF o348) BE)) (BN o118 (BN o182 (LF o316) BE) (LF o250)))) (BN o16 (BN o35 (BN o73 (BN o142 (LF o274) BE) (BN o208 (LF o340) BE)) (BN o108 (BN o174 (LF o308) BE) (BN o242 (LF o372) BE))) (BN o54 (BN o92 (BN o158 (LF o290) BE) (BN o224 (LF o356) BE)) (BN o126 (BN o190 (LF o324) BE) (LF o258))))) (BN o294 (BN o12 (BN o31 (BN (o69 P) (BN o138 (LF o270) BE) (BN o204 (LF o336) BE)) (BN (o104 P) (BN o170 (LF o304) BE) (BN o238 (LF o368) BE))) (BN o50 (BN o85 (BN o154 (LF o286) BE) (BN o220 (LF o352) BE)) (BN o122 (BN o186 (LF o320) BE) (LF o254)))) (BN o20 (BN o39 (BN o77 (BN o146 (LF o278) BE) (BN o212 (LF o344) BE)) (BN o112 (BN o178 (LF o312) BE) (BN o246 (LF o376) BE))) (BN o58 (BN o96 (BN o162 (LF o296) BE) (BN o228 (LF o360) BE)) (BN o130 (BN o194 (LF o328) BE) (LF o262)))))) (BN (boot_o_6 P) (BN (boot_o_10 P) (BN o10 (BN o26 (BN o67 (BN o136 (LF o268) BE) (BN o202 (LF o334) BE)) (BN o102 (BN o168 (LF o302) BE) (BN o234 (LF o366) BE))) (BN o48 (BN o88 (BN o152 (LF o284) BE) (BN o218 (LF o350) BE)) (BN o120 (BN o184 (LF o318) BE) (LF (o252 P))))) (BN o18 (BN o37 (BN o75 (BN o144 (LF o276) BE) (BN o210 (LF o342) BE)) (BN o110 (BN o176 (LF o310) BE) (BN o244 (LF o374) BE))) (BN o56 (BN o94 (BN o160 (LF o292) BE) (BN o226 (LF o358) BE)) (BN o128 (BN o192 (LF o326) BE) (LF o260))))) (BN o3 (BN o14 (BN o33 (BN o71 (BN o140 (LF o272) BE) (BN o206 (LF o338) BE)) (BN o106 (BN o172 (LF o306) BE) (BN o240 (LF o370) BE))) (BN o52 (BN o90 (BN o156 (LF o288) BE) (BN o222 (LF o354) BE)) (BN o124 (BN o188 (LF o322) BE) (LF o256)))) (BN (o22 P) (BN o41 (BN o79 (BN o148 (LF o280) BE) (BN o214 (LF o346) BE)) (BN o114 (BN o180 (LF o314) BE) (LF o248))) (BN (o60 P) (BN o98 (BN o164 (LF o298) BE) (BN o230 (LF o362) BE)) (BN o132 (BN o198 (LF o330) BE) (LF o264))))))))
noncomputable abbrev S9 (w : World) (os : OsState) : SharedT := SharedT.mk (t9 w.params) (nat_lit 366) (Life.mk [] [] [] 0 [] [] false #[] [] 0 false false false 0 [2000, 10, 10] false 0 true [] [] 0 false) #[] (Drawn.mk 0 0 0 0) (nat_lit 724) os
noncomputable abbrev sts9 : List Stmt := [st 46, st 47, st 48, st 49, st 50, st 51, st 52, st 53, st 54, st 55, st 56, st 57, st 58, st 59]
theorem pc9 (w : World) : (fun os => segRunT treeTable pg w m0 ann 1 (nat_lit 398) (S8 w os) (piecesOf sts9 env cE (Pos.mk 205 0 210 14) fE)) = fun os => some (Flow.next, S9 w os, cE, (Pos.mk 313 0 323 31)) := by (try rewrite [Fast.te10110043849684766642]); (try rewrite [Fast.te14364793385576792824]); kernel_rfl
noncomputable def o378 (P : Params) : Obj := .mk (.type "dict") none (.dict #[dE P "__name__" 165 (.str "f77.fmtrun" 702), dE P "__doc__" 166 .none, dE P "__package__" 167 .none, dE P "__loader__" 168 (.builtin "__main__.__loader__#opaque"), dE P "__spec__" 169 .none, dE P "__annotations__" 170 (.ref 6), dE P "__builtins__" 171 (.ref 4), dE P "__file__" 173 (.str "/claim/cut.py" 172), dE P "__cached__" 174 .none, dE P "F77Error" 217 (.ref 31), dE P "RunFault" 233 (.ref 44), dE P "FormatFault" 259 (.ref 63), dE P "IoFault" 285 (.ref 82), dE P "EndFault" 309 (.ref 101), dE P "INTEGER" 311 (.int 0 310), dE P "REAL" 313 (.int 1 312), dE P "DOUBLE" 315 (.int 2 314), dE P "COMPLEX" 317 (.int 3 316), dE P "LOGICAL" 319 (.int 4 318), dE P "CHARACTER" 321 (.int 5 320), dE P "NOUGHT" 326 (.ref 104), dE P "FIGURES" 328 (.str "0123456789" 327), dE P "count_digits" 336 (.ref 111), dE P "strip_zeros" 344 (.ref 118), dE P "round_digits" 357 (.ref 125), dE P "round_real" 368 (.ref 132), dE P "digits_of" 376 (.ref 139), dE P "BAD_FIELD" 380 (.int 1 379), dE P "TOO_GREAT" 382 (.int 2 381), dE P "WRONG_KIND" 384 (.int 3 383), dE P "REAL_WORDS" 389 (.ref 140), dE P "solid_field" 399 (.ref 147), dE P "whole_of" 409 (.ref 154), dE P "cut_sign" 416 (.ref 161), dE P "in_width" 425 (.ref 168), dE P "read_int" 438 (.ref 175), dE P "cut_exponent" 446 (.ref 182), dE P "field_exponent" 456 (.ref 189), dE P "read_figures" 468 (.ref 196), dE P "read_real" 489 (.ref 203), dE P "read_logical" 497 (.ref 210), dE P "read_text" 505 (.ref 217), dE P "read_value" 519 (.ref 224), dE P "SEPARATORS" 526 (.ref 225), dE P "PART_ENDS" 532 (.ref 226), dE P "ListReader" 567 (.ref 243), dE P "sign_here" 574 (.ref 254), dE P "step_on" 581 (.ref 261), dE P "skip_blanks" 588 (.ref 268), dE P "skip_gaps" 595 (.ref 275), dE P "take_run" 604 (.ref 282), dE P "take_sign" 612 (.ref 289), dE P "take_repeat" 622 (.ref 296), dE P "take_quoted" 631 (.ref 303), dE P "take_pair" 640 (.ref 310), dE P "take_constant" 649 (.ref 317), dE P "next_constant" 656 (.ref 324), dE P "part_real" 665 (.ref 331), dE P "fitted_text" 673 (.ref 338), dE P "value_of" 684 (.ref 345), dE P "read_item" 695 (.ref 352), dE P "read_list" 701 (.ref 357), dE P "DATA_WORDS" 711 (.ref 358), dE P "add_flat" 723 (.ref 365), dE P "flat_of" 733 (.ref 372), dE P "FormatControl" 791 (.ref 410)] 66) #[]
noncomputable def o379 : Obj := .mk .none none (.fields #[.int 2 0, .int 0 0, .ref 20, .int 7 0, .int 0 0, .ref 40, .int 9 0, .int 0 0, .ref 52, .int 14 0, .int 0 0, .ref 71, .int 19 0, .int 0 0, .ref 90, .int 32 0, .int 0 0, .ref 110, .int 42 0, .int 0 0, .ref 117, .int 49 0, .int 0 0, .ref 124, .int 59 0, .int 0 0, .ref 131, .int 67 0, .int 0 0, .ref 138, .int 74 0, .int 0 0, .ref 146, .int 82 0, .int 0 0, .ref 153, .int 92 0, .int 0 0, .ref 160, .int 98 0, .int 0 0, .ref 167, .int 101 0, .int 0 0, .ref 174, .int 112 0, .int 0 0, .ref 181, .int 119 0, .int 0 0, .ref 188, .int 125 0, .int 0 0, .ref 195, .int 137 0, .int 0 0, .ref 202, .int 152 0, .int 0 0, .ref 209, .int 163 0, .int 0 0, .ref 216, .int 167 0, .int 0 0, .ref 223, .int 181 0, .int 0 0, .ref 232, .int 191 0, .int 0 0, .ref 253, .int 193 0, .int 0 0, .ref 260, .int 199 0, .int 0 0, .ref 267, .int 202 0, .int 0 0, .ref 274, .int 205 0, .int 0 0, .ref 281, .int 211 0, .int 0 0, .ref 288, .int 215 0, .int 0 0, .ref 295, .int 227 0, .int 0 0, .ref 302, .int 238 0, .int 0 0, .ref 309, .int 249 0, .int 0 0, .ref 316, .int 260 0, .int 0 0, .ref 323, .int 284 0, .int 0 0, .ref 330, .int 288 0, .int 0 0, .ref 337, .int 290 0, .int 0 0, .ref 344, .int 303 0, .int 0 0, .ref 351, .int 308 0, .int 0 0, .ref 356, .int 313 0, .int 0 0, .ref 364, .int 324 0, .int 0 0, .ref 371, .int 332 0, .int 0 0, .ref 378]) #[]
noncomputable def o380 : Obj := .mk (.type "tuple") none (.seq #[] 0) #[]
noncomputable def o381 : Obj := .mk .none none (.fields #[]) #[]
noncomputable def o382 : Obj := .mk (.type "tuple") none (.seq #[.str "tree" 727, .str "flat" 728, .str "again" 729, .str "item" 730] 0) #[]
noncomputable def o383 : Obj := .mk (.type "tuple") none (.seq #[] 0) #[]
noncomputable def o384 : Obj := .mk .none none (.func (FuncData.mk "flat_of" "flat_of" (fA (st 60)) (FuncBody.stmts (fB (st 60))) (fS (st 60)) 0 [] .none .none .none .none none .none .none 0)) #[]
noncomputable def o385 : Obj := .mk (.type "code") none (.fields #[.str "flat_of" 724, .str "flat_of" 725, .str "/claim/cut.py" 726, .int 324 0, .int 1 0, .int 0 0, .int 0 0, .int 3 0, .ref 366, .bool true, .int 181 0, .ref 367, .none, .ref 368, .ref 369, .ref 370, .int 731 0, .int 324 0, .str "/claim/cut.py" 732]) #[]
noncomputable def o386 : Obj := .mk (.type "function") none (.func (FuncData.mk "flat_of" "flat_of" (fA (st 60)) (FuncBody.stmts (fB (st 60))) (fS (st 60)) 3 [] .none .none .none (.str "f77.fmtrun" 702) none (.ref 371) .none 0)) #[]
noncomputable def o387 : Obj := .mk (.type "tuple") none (.seq #[] 0) #[]
noncomputable def o388 : Obj := .mk (.type "builtin_function_or_method") none (.fields #[.builtin "type.__prepare__", .type "type"]) #[]
noncomputable def o389 (P : Params) : Obj := .mk (.type "dict") none (.dict #[dE P "__module__" 741 (.str "f77.fmtrun" 702), dE P "__qualname__" 743 (.str "FormatControl" 742), dE P "__firstlineno__" 745 (.int 332 744), dE P "__init__" 753 (.ref 386), dE P "next_item" 763 (.ref 393), dE P "close_group" 771 (.ref 400), dE P "revert" 778 (.ref 407), dE P "__static_attributes__" 784 (.ref 408)] 8) #[]
noncomputable def o390 : Obj := .mk (.type "tuple") none (.seq #[] 0) #[]
noncomputable def o391 : Obj := .mk .none none (.fields #[.int 334 0, .int 4 0, .ref 385, .int 340 0, .int 4 0, .ref 392, .int 362 0, .int 4 0, .ref 399, .int 370 0, .int 4 0, .ref 406]) #[]
noncomputable def o392 : Obj := .mk (.type "code") none (.fields #[.str "FormatControl" 736, .str "FormatControl" 737, .str "/claim/cut.py" 738, .int 332 0, .int 0 0, .int 0 0, .int 0 0, .int 0 0, .ref 376, .bool false, .int 181 0, .ref 377, .none, .none, .none, .none, .int 739 0, .int 332 0, .str "/claim/cut.py" 740]) #[]
noncomputable def o393 : Obj := .mk (.type "frame") none .plain #[(some (.ref 378)), (some (.ref 3)), (some (.ref 375)), none, (some (.str "f77.fmtrun" 702)), none, (some (.ref 0))]
noncomputable def o394 : Obj := .mk (.type "tuple") none (.seq #[] 0) #[]
noncomputable def o395 : Obj := .mk .none none (.fields #[]) #[]
noncomputable def o396 : Obj := .mk (.type "tuple") none (.seq #[.str "self" 749, .str "tree" 750] 0) #[]
noncomputable def o397 : Obj := .mk (.type "tuple") none (.seq #[] 0) #[]
noncomputable def o398 : Obj := .mk .none none (.func (FuncData.mk "__init__" "FormatControl.__init__" (fA (sub (st 61) 0)) (FuncBody.stmts (fB (sub (st 61) 0))) (fS (sub (st 61) 0)) 0 [] .none .none .none .none none .none .none 0)) #[]
noncomputable def o399 : Obj := .mk (.type "code") none (.fields #[.str "__init__" 746, .str "FormatControl.__init__" 747, .str "/claim/cut.py" 748, .int 334 0, .int 2 0, .int 0 0, .int 0 0, .int 3 0, .ref 380, .bool true, .int 181 0, .ref 381, .none, .ref 382, .ref 383, .ref 384, .int 751 0, .int 334 0, .str "/claim/cut.py" 752]) #[]
noncomputable def o400 : Obj := .mk (.type "function") none (.func (FuncData.mk "__init__" "FormatControl.__init__" (fA (sub (st 61) 0)) (FuncBody.stmts (fB (sub (st 61) 0))) (fS (sub (st 61) 0)) 3 [] .none .none .none (.str "f77.fmtrun" 702) none (.ref 385) .none 0)) #[]
noncomputable def o401 : Obj := .mk (.type "tuple") none (.seq #[] 0) #[]
noncomputable def o402 : Obj := .mk .none none (.fields #[]) #[]
noncomputable def o403 : Obj := .mk (.type "tuple") none (.seq #[.str "self" 757, .str "has_value" 758, .str "entry" 759, .str "word" 760] 0) #[]
noncomputable def o404 : Obj := .mk (.type "tuple") none (.seq #[] 0) #[]
noncomputable def o405 : Obj := .mk .none none (.func (FuncData.mk "next_item" "FormatControl.next_item" (fA (sub (st 61) 1)) (FuncBody.stmts (fB (sub (st 61) 1))) (fS (sub (st 61) 1)) 0 [] .none .none .none .none none .none .none 0)) #[]
noncomputable def o406 : Obj := .mk (.type "code") none (.fields #[.str "next_item" 754, .str "FormatControl.next_item" 755, .str "/claim/cut.py" 756, .int 340 0, .int 2 0, .int 0 0, .int 0 0, .int 3 0, .ref 387, .bool true, .int 181 0, .ref 388, .none, .ref 389, .ref 390, .ref 391, .int 761 0, .int 340 0, .str "/claim/cut.py" 762]) #[]
noncomputable def o407 : Obj := .mk (.type "function") none (.func (FuncData.mk "next_item" "FormatControl.next_item" (fA (sub (st 61) 1)) (FuncBody.stmts (fB (sub (st 61) 1))) (fS (sub (st 61) 1)) 3 [] .none .none .none (.str "f77.fmtrun" 702) none (.ref 392) .none 0)) #[]
noncomputable def o408 : Obj := .mk (.type "tuple") none (.seq #[] 0) #[]
noncomputable def o409 : Obj := .mk .none none (.fields #[]) #[]
noncomputable def o410 : Obj := .mk (.type "tuple") none (.seq #[.str "self" 767, .str "start" 768] 0) #[]
noncomputable def o411 : Obj := .mk (.type "tuple") none (.seq #[] 0) #[]
noncomputable def o412 : Obj := .mk .none none (.func (FuncData.mk "close_group" "FormatControl.close_group" (fA (sub (st 61) 2)) (FuncBody.stmts (fB (sub (st 61) 2))) (fS (sub (st 61) 2)) 0 [] .none .none .none .none none .none .none 0)) #[]
noncomputable def o413 : Obj := .mk (.type "code") none (.fields #[.str "close_group" 764, .str "FormatControl.close_group" 765, .str "/claim/cut.py" 766, .int 362 0, .int 2 0, .int 0 0, .int 0 0, .int 3 0, .ref 394, .bool true, .int 181 0, .ref 395, .none, .ref 396, .ref 397, .ref 398, .int 769 0, .int 362 0, .str "/claim/cut.py" 770]) #[]
noncomputable def o414 : Obj := .mk (.type "function") none (.func (FuncData.mk "close_group" "FormatControl.close_group" (fA (sub (st 61) 2)) (FuncBody.stmts (fB (sub (st 61) 2))) (fS (sub (st 61) 2)) 3 [] .none .none .none (.str "f77.fmtrun" 702) none (.ref 399) .none 0)) #[]
noncomputable def o415 : Obj := .mk (.type "tuple") none (.seq #[] 0) #[]
noncomputable def o416 : Obj := .mk .none none (.fields #[]) #[]
noncomputable def o417 : Obj := .mk (.type "tuple") none (.seq #[.str "self" 775] 0) #[]
noncomputable def o418 : Obj := .mk (.type "tuple") none (.seq #[] 0) #[]
noncomputable def o419 : Obj := .mk .none none (.func (FuncData.mk "revert" "FormatControl.revert" (fA (sub (st 61) 3)) (FuncBody.stmts (fB (sub (st 61) 3))) (fS (sub (st 61) 3)) 0 [] .none .none .none .none none .none .none 0)) #[]
noncomputable def o420 : Obj := .mk (.type "code") none (.fields #[.str "revert" 772, .str "FormatControl.revert" 773, .str "/claim/cut.py" 774, .int 370 0, .int 1 0, .int 0 0, .int 0 0, .int 3 0, .ref 401, .bool true, .int 181 0, .ref 402, .none, .ref 403, .ref 404, .ref 405, .int 776 0, .int 370 0, .str "/claim/cut.py" 777]) #[]
noncomputable def o421 : Obj := .mk (.type "function") none (.func (FuncData.mk "revert" "FormatControl.revert" (fA (sub (st 61) 3)) (FuncBody.stmts (fB (sub (st 61) 3))) (fS (sub (st 61) 3)) 3 [] .none .none .none (.str "f77.fmtrun" 702) none (.ref 406) .none 0)) #[]
noncomputable def o422 : Obj := .mk (.type "tuple") none (.seq #[.str "again" 779, .str "at" 780, .str "counts" 781, .str "flat" 782, .str "is_used" 783] 0) #[]
noncomputable def o423 (P : Params) : Obj := .mk (.type "dict") none (.dict #[dE P "__module__" 741 (.str "f77.fmtrun" 702), dE P "__firstlineno__" 745 (.int 332 744), dE P "__init__" 753 (.ref 386), dE P "next_item" 763 (.ref 393), dE P "close_group" 771 (.ref 400), dE P "revert" 778 (.ref 407), dE P "__static_attributes__" 784 (.ref 408), dE P "__dict__" 786 (.ref 411), dE P "__weakref__" 788 (.ref 412), dE P "__doc__" 789 .none] 4) #[]
noncomputable def o424 : Obj := .mk (.type "type") none (.cls (ClassData.mk "FormatControl" [.type "object"] [.ref 410, .type "object"] 409 "FormatControl" true [] [] false none false)) #[none, none, (some (.str "FormatControl" 734)), (some (.str "FormatControl" 742)), (some (.builtin "object.__new__")), (some (.bool true))]
noncomputable def o425 : Obj := .mk (.type "getset_descriptor") none (.fields #[.str "__dict__" 785, .ref 410, .builtin "function.__dict__", .builtin "function.__dict__#set"]) #[]
noncomputable def o426 : Obj := .mk (.type "getset_descriptor") none (.fields #[.str "__weakref__" 787, .ref 410, .builtin "ExceptionGroup.__weakref__", .none]) #[]
noncomputable def o427 : Obj := .mk (.type "super") none (.fields #[.ref 410, .ref 410, .ref 410]) #[]
noncomputable def o428 : Obj := .mk (.type "builtin_function_or_method") none (.fields #[.builtin "object.__init_subclass__", .ref 410]) #[]
noncomputable def t10 (P : Params) : BT := (BN (boot_o_0 P) (BN (boot_o_1 P) (BN (o378 P) (BN (boot_o_7 P) (BN o7 (BN o66 (BN o61 (BN o133 (LF o265) (LF o397)) (BN o199 (LF o331) BE)) (BN o99 (BN o165 (LF o299) BE) (BN o231 (LF o363) BE))) (BN o45 (BN o80 (BN o149 (LF o281) (LF o413)) (BN o215 (LF o347) BE)) (BN o115 (BN o181 (LF o315) BE) (BN o249 (LF o381) BE)))) (BN o15 (BN o34 (BN o72 (BN o141 (LF o273) (LF o405)) (BN o207 (LF o339) BE)) (BN o107 (BN o173 (LF o307) BE) (BN o241 (LF o371) BE))) (BN o53 (BN (o91 P) (BN o157 (LF o289) (LF o421)) (BN o223 (LF o355) BE)) (BN o125 (BN o189 (LF o323) BE) (BN o257 (LF (o389 P)) BE))))) (BN o0 (BN o11 (BN o30 (BN o68 (BN o137 (LF o269) (LF o401)) (BN o203 (LF o335) BE)) (BN o103 (BN o169 (LF o303) BE) (BN o237 (LF o367) BE))) (BN o49 (BN o84 (BN o153 (LF o285) (LF o417)) (BN o219 (LF o351) BE)) (BN o121 (BN o185 (LF o319) BE) (BN o253 (LF o385) BE)))) (BN o19 (BN (o38 P) (BN o76 (BN o145 (LF o277) (LF o409)) (BN o211 (LF o343) BE)) (BN o111 (BN o177 (LF o311) BE) (BN o245 (LF o375) BE))) (BN o57 (BN o95 (BN o161 (LF o295) (LF o425)) (BN o227 (LF o359) BE)) (BN o129 (BN o193 (LF o327) BE) (BN o261 (LF o393) BE)))))) (BN (boot_o_5 P) (BN (boot_o_9 P) (BN (o9 P) (BN o25 (BN o63 (BN o135 (LF o267) (LF o399)) (BN o201 (LF o333) BE)) (BN o101 (BN o167 (LF o301) BE) (BN o233 (LF o365) BE))) (BN (o47 P) (BN (o82 P) (BN o151 (LF o283) (LF o415)) (BN o217 (LF o349) BE)) (BN o119 (BN o183 (LF o317) BE) (BN o251 (LF o383) BE)))) (BN o17 (BN o36 (BN o74 (BN o143 (LF o275) (LF o407)) (BN o209 (LF o341) BE)) (BN o109 (BN o175 (LF o309) BE) (BN o243 (LF o373) BE))) (BN o55 (BN o93 (BN o159 (LF o291) (LF (o423 P))) (BN o225 (LF o357) BE)) (BN o127 (BN o191 (LF o325) BE) (BN o259 (LF o391) BE))))) (BN o2 (BN o13 (BN (o32 P) (BN o70 (BN o139 (LF o271) (LF o403)) (BN o205 (LF o337) BE)) (BN o105 (BN o171 (LF o305) BE) (BN (o239 P) (LF o369) BE))) (BN o51 (BN o89 (BN o155 (LF o287) (LF o419)) (BN o221 (LF o353) BE)) (BN o123 (BN o187 (LF o321) BE) (BN o255 (LF o387) BE)))) (BN o21 (BN o40 (BN o78 (BN o147 (LF o279) (LF o411)) (BN o213 (LF o345) BE)) (BN o113 (BN o179 (LF o313) BE) (BN o247 (LF o377) BE))) (BN o59 (BN o97 (BN o163 (LF o297) (LF o427)) (BN o229 (LF o361) BE)) (BN o131 (BN o195 (LF o329) BE) (BN o263 (LF o395) BE))))))) (BN (o4 P) (BN (boot_o_4 P) (BN (boot_o_8 P) (BN o8 (BN o24 (BN o62 (BN o134 (LF o266) (LF o398)) (BN o200 (LF o332) BE)) (BN o100 (BN o166 (LF o300) BE) (BN o232 (LF o364) BE))) (BN o46 (BN o81 (BN o150 (LF o282) (LF o414)) (BN o216 (LF o348) BE)) (BN o118 (BN o182 (LF o316) BE) (BN o250 (LF o382) BE)))) (BN o16 (BN o35 (BN o73 (BN o142 (LF o274) (LF o406)) (BN o208 (LF o340) BE)) (BN o108 (BN o174 (LF o308) BE) (BN o242 (LF o372) BE))) (BN o54 (BN o92 (BN o158 (LF o290) (LF o422)) (BN o224 (LF o356) BE)) (BN o126 (BN o190 (LF o324) BE) (BN o258 (LF o390) BE))))) (BN o379 (BN o12 (BN o31 (BN (o69 P) (BN o138 (LF o270) (LF o402)) (BN o204 (LF o336) BE)) (BN (o104 P) (BN o170 (LF o304) BE) (BN o238 (LF o368) BE))) (BN o50 (BN o85 (BN o154 (LF o286) (LF o418)) (BN o220 (LF o352) BE)) (BN o122 (BN o186 (LF o320) BE) (BN o254 (LF o386) BE)))) (BN o20 (BN o39 (BN o77 (BN o146 (LF o278) (LF o410)) (BN o212 (LF o344) BE)) (BN o112 (BN o178 (LF o312) BE) (BN o246 (LF o376) BE))) (BN o58 (BN o96 (BN o162 (LF o296) (LF o426)) (BN o228 (LF o360) BE)) (BN o130 (BN o194 (LF o328) BE) (BN o262 (LF o394) BE)))))) (BN (boot_o_6 P) (BN (boot_o_10 P) (BN o10 (BN o26 (BN o67 (BN o136 (LF o268) (LF o400)) (BN o202 (LF o334) BE)) (BN o102 (BN o168 (LF o302) BE) (BN o234 (LF o366) BE))) (BN o48 (BN o88 (BN o152 (LF o284) (LF o416)) (BN o218 (LF o350) BE)) (BN o120 (BN o184 (LF o318) BE) (BN (o252 P) (LF o384) BE)))) (BN o18 (BN o37 (BN o75 (BN o144 (LF o276) (LF o408)) (BN o210 (LF o342) BE)) (BN o110 (BN o176 (LF o310) BE) (BN o244 (LF o374) BE))) (BN o56 (BN o94 (BN o160 (LF o292) (LF o424)) (BN o226 (LF o358) BE)) (BN o128 (BN o192 (LF o326) BE) (BN o260 (LF o392) BE))))) (BN o3 (BN o14 (BN o33 (BN o71 (BN o140 (LF o272) (LF o404)) (BN o206 (LF o338) BE)) (BN o106 (BN o172 (LF o306) BE) (BN o240 (LF o370) BE))) (BN o52 (BN o90 (BN o156 (LF o288) (LF o420)) (BN o222 (LF o354) BE)) (BN o124 (BN o188 (LF o322) BE) (BN o256 (LF o388) BE)))) (BN (o22 P) (BN o41 (BN o79 (BN o148 (LF o280) (LF o412)) (BN o214 (LF o346) BE)) (BN o114 (BN o180 (LF o314) BE) (BN o248 (LF o380) BE))) (BN (o60 P) (BN o98 (BN o164 (LF o298) (LF o428)) (BN o230 (LF o362) BE)) (BN o132 (BN o198 (LF o330) BE) (BN o264 (LF o396) BE))))))))
noncomputable abbrev S10 (w : World) (os : OsState) : SharedT := SharedT.mk (t10 w.params) (nat_lit 415) (Life.mk [] [] [] 0 [] [] false #[] [] 0 false false false 0 [2000, 10, 10] false 0 true [] [] 0 false) #[] (Drawn.mk 0 0 0 0) (nat_lit 792) os
noncomputable abbrev sts10 : List Stmt := [st 60, st 61]
theorem pc10 (w : World) : (fun os => segRunT treeTable pg w m0 ann 1 (nat_lit 356) (S9 w os) (piecesOf sts10 env cE (Pos.mk 313 0 323 31) fE)) = fun os => some (Flow.next, S10 w os, cE, (Pos.mk 332 0 375 21)) := by (try rewrite [Fast.te10110043849684766642]); (try rewrite [Fast.te14364793385576792824]); kernel_rfl
noncomputable def o429 (P : Params) : Obj := .mk (.type "dict") none (.dict #[dE P "__name__" 165 (.str "f77.fmtrun" 702), dE P "__doc__" 166 .none, dE P "__package__" 167 .none, dE P "__loader__" 168 (.builtin "__main__.__loader__#opaque"), dE P "__spec__" 169 .none, dE P "__annotations__" 170 (.ref 6), dE P "__builtins__" 171 (.ref 4), dE P "__file__" 173 (.str "/claim/cut.py" 172), dE P "__cached__" 174 .none, dE P "F77Error" 217 (.ref 31), dE P "RunFault" 233 (.ref 44), dE P "FormatFault" 259 (.ref 63), dE P "IoFault" 285 (.ref 82), dE P "EndFault" 309 (.ref 101), dE P "INTEGER" 311 (.int 0 310), dE P "REAL" 313 (.int 1 312), dE P "DOUBLE" 315 (.int 2 314), dE P "COMPLEX" 317 (.int 3 316), dE P "LOGICAL" 319 (.int 4 318), dE P "CHARACTER" 321 (.int 5 320), dE P "NOUGHT" 326 (.ref 104), dE P "FIGURES" 328 (.str "0123456789" 327), dE P "count_digits" 336 (.ref 111), dE P "strip_zeros" 344 (.ref 118), dE P "round_digits" 357 (.ref 125), dE P "round_real" 368 (.ref 132), dE P "digits_of" 376 (.ref 139), dE P "BAD_FIELD" 380 (.int 1 379), dE P "TOO_GREAT" 382 (.int 2 381), dE P "WRONG_KIND" 384 (.int 3 383), dE P "REAL_WORDS" 389 (.ref 140), dE P "solid_field" 399 (.ref 147), dE P "whole_of" 409 (.ref 154), dE P "cut_sign" 416 (.ref 161), dE P "in_width" 425 (.ref 168), dE P "read_int" 438 (.ref 175), dE P "cut_exponent" 446 (.ref 182), dE P "field_exponent" 456 (.ref 189), dE P "read_figures" 468 (.ref 196), dE P "read_real" 489 (.ref 203), dE P "read_logical" 497 (.ref 210), dE P "read_text" 505 (.ref 217), dE P "read_value" 519 (.ref 224), dE P "SEPARATORS" 526 (.ref 225), dE P "PART_ENDS" 532 (.ref 226), dE P "ListReader" 567 (.ref 243), dE P "sign_here" 574 (.ref 254), dE P "step_on" 581 (.ref 261), dE P "skip_blanks" 588 (.ref 268), dE P "skip_gaps" 595 (.ref 275), dE P "take_run" 604 (.ref 282), dE P "take_sign" 612 (.ref 289), dE P "take_repeat" 622 (.ref 296), dE P "take_quoted" 631 (.ref 303), dE P "take_pair" 640 (.ref 310), dE P "take_constant" 649 (.ref 317), dE P "next_constant" 656 (.ref 324), dE P "part_real" 665 (.ref 331), dE P "fitted_text" 673 (.ref 338), dE P "value_of" 684 (.ref 345), dE P "read_item" 695 (.ref 352), dE P "read_list" 701 (.ref 357), dE P "DATA_WORDS" 711 (.ref 358), dE P "add_flat" 723 (.ref 365), dE P "flat_of" 733 (.ref 372), dE P "FormatControl" 791 (.ref 410), dE P "FormatModes" 831 (.ref 438), dE P "moved" 840 (.ref 449)] 68) #[]
noncomputable def o430 : Obj := .mk .none none (.fields #[.int 2 0, .int 0 0, .ref 20, .int 7 0, .int 0 0, .ref 40, .int 9 0, .int 0 0, .ref 52, .int 14 0, .int 0 0, .ref 71, .int 19 0, .int 0 0, .ref 90, .int 32 0, .int 0 0, .ref 110, .int 42 0, .int 0 0, .ref 117, .int 49 0, .int 0 0, .ref 124, .int 59 0, .int 0 0, .ref 131, .int 67 0, .int 0 0, .ref 138, .int 74 0, .int 0 0, .ref 146, .int 82 0, .int 0 0, .ref 153, .int 92 0, .int 0 0, .ref 160, .int 98 0, .int 0 0, .ref 167, .int 101 0, .int 0 0, .ref 174, .int 112 0, .int 0 0, .ref 181, .int 119 0, .int 0 0, .ref 188, .int 125 0, .int 0 0, .ref 195, .int 137 0, .int 0 0, .ref 202, .int 152 0, .int 0 0, .ref 209, .int 163 0, .int 0 0, .ref 216, .int 167 0, .int 0 0, .ref 223, .int 181 0, .int 0 0, .ref 232, .int 191 0, .int 0 0, .ref 253, .int 193 0, .int 0 0, .ref 260, .int 199 0, .int 0 0, .ref 267, .int 202 0, .int 0 0, .ref 274, .int 205 0, .int 0 0, .ref 281, .int 211 0, .int 0 0, .ref 288, .int 215 0, .int 0 0, .ref 295, .int 227 0, .int 0 0, .ref 302, .int 238 0, .int 0 0, .ref 309, .int 249 0, .int 0 0, .ref 316, .int 260 0, .int 0 0, .ref 323, .int 284 0, .int 0 0, .ref 330, .int 288 0, .int 0 0, .ref 337, .int 290 0, .int 0 0, .ref 344, .int 303 0, .int 0 0, .ref 351, .int 308 0, .int 0 0, .ref 356, .int 313 0, .int 0 0, .ref 364, .int 324 0, .int 0 0, .ref 371, .int 332 0, .int 0 0, .ref 378, .int 376 0, .int 0 0, .ref 420, .int 394 0, .int 0 0, .ref 448]) #[]
noncomputable def o431 : Obj := .mk (.type "tuple") none (.seq #[] 0) #[]
noncomputable def o432 : Obj := .mk (.type "builtin_function_or_method") none (.fields #[.builtin "type.__prepare__", .type "type"]) #[]
noncomputable def o433 (P : Params) : Obj := .mk (.type "dict") none (.dict #[dE P "__module__" 799 (.str "f77.fmtrun" 702), dE P "__qualname__" 801 (.str "FormatModes" 800), dE P "__firstlineno__" 803 (.int 376 802), dE P "__init__" 811 (.ref 428), dE P "set_by" 820 (.ref 435), dE P "__static_attributes__" 824 (.ref 436)] 6) #[]
noncomputable def o434 : Obj := .mk (.type "tuple") none (.seq #[] 0) #[]
noncomputable def o435 : Obj := .mk .none none (.fields #[.int 378 0, .int 4 0, .ref 427, .int 383 0, .int 4 0, .ref 434]) #[]
noncomputable def o436 : Obj := .mk (.type "code") none (.fields #[.str "FormatModes" 794, .str "FormatModes" 795, .str "/claim/cut.py" 796, .int 376 0, .int 0 0, .int 0 0, .int 0 0, .int 0 0, .ref 418, .bool false, .int 181 0, .ref 419, .none, .none, .none, .none, .int 797 0, .int 376 0, .str "/claim/cut.py" 798]) #[]
noncomputable def o437 : Obj := .mk (.type "frame") none .plain #[(some (.ref 420)), (some (.ref 3)), (some (.ref 417)), none, (some (.str "f77.fmtrun" 702)), none, (some (.ref 0))]
noncomputable def o438 : Obj := .mk (.type "tuple") none (.seq #[] 0) #[]
noncomputable def o439 : Obj := .mk .none none (.fields #[]) #[]
noncomputable def o440 : Obj := .mk (.type "tuple") none (.seq #[.str "self" 807, .str "is_zeros" 808] 0) #[]
noncomputable def o441 : Obj := .mk (.type "tuple") none (.seq #[] 0) #[]
noncomputable def o442 : Obj := .mk .none none (.func (FuncData.mk "__init__" "FormatModes.__init__" (fA (sub (st 62) 0)) (FuncBody.stmts (fB (sub (st 62) 0))) (fS (sub (st 62) 0)) 0 [] .none .none .none .none none .none .none 0)) #[]
noncomputable def o443 : Obj := .mk (.type "code") none (.fields #[.str "__init__" 804, .str "FormatModes.__init__" 805, .str "/claim/cut.py" 806, .int 378 0, .int 2 0, .int 0 0, .int 0 0, .int 3 0, .ref 422, .bool true, .int 181 0, .ref 423, .none, .ref 424, .ref 425, .ref 426, .int 809 0, .int 378 0, .str "/claim/cut.py" 810]) #[]
noncomputable def o444 : Obj := .mk (.type "function") none (.func (FuncData.mk "__init__" "FormatModes.__init__" (fA (sub (st 62) 0)) (FuncBody.stmts (fB (sub (st 62) 0))) (fS (sub (st 62) 0)) 3 [] .none .none .none (.str "f77.fmtrun" 702) none (.ref 427) .none 0)) #[]
noncomputable def o445 : Obj := .mk (.type "tuple") none (.seq #[] 0) #[]
noncomputable def o446 : Obj := .mk .none none (.fields #[]) #[]
noncomputable def o447 : Obj := .mk (.type "tuple") none (.seq #[.str "self" 815, .str "item" 816, .str "word" 817] 0) #[]
noncomputable def o448 : Obj := .mk (.type "tuple") none (.seq #[] 0) #[]
noncomputable def o449 : Obj := .mk .none none (.func (FuncData.mk "set_by" "FormatModes.set_by" (fA (sub (st 62) 1)) (FuncBody.stmts (fB (sub (st 62) 1))) (fS (sub (st 62) 1)) 0 [] .none .none .none .none none .none .none 0)) #[]
noncomputable def o450 : Obj := .mk (.type "code") none (.fields #[.str "set_by" 812, .str "FormatModes.set_by" 813, .str "/claim/cut.py" 814, .int 383 0, .int 2 0, .int 0 0, .int 0 0, .int 3 0, .ref 429, .bool true, .int 181 0, .ref 430, .none, .ref 431, .ref 432, .ref 433, .int 818 0, .int 383 0, .str "/claim/cut.py" 819]) #[]
noncomputable def o451 : Obj := .mk (.type "function") none (.func (FuncData.mk "set_by" "FormatModes.set_by" (fA (sub (st 62) 1)) (FuncBody.stmts (fB (sub (st 62) 1))) (fS (sub (st 62) 1)) 3 [] .none .none .none (.str "f77.fmtrun" 702) none (.ref 434) .none 0)) #[]
noncomputable def o452 : Obj := .mk (.type "tuple") none (.seq #[.str "is_plus" 821, .str "is_zeros" 822, .str "scale" 823] 0) #[]
noncomputable def o453 (P : Params) : Obj := .mk (.type "dict") none (.dict #[dE P "__module__" 799 (.str "f77.fmtrun" 702), dE P "__firstlineno__" 803 (.int 376 802), dE P "__init__" 811 (.ref 428), dE P "set_by" 820 (.ref 435), dE P "__static_attributes__" 824 (.ref 436), dE P "__dict__" 826 (.ref 439), dE P "__weakref__" 828 (.ref 440), dE P "__doc__" 829 .none] 4) #[]
noncomputable def o454 : Obj := .mk (.type "type") none (.cls (ClassData.mk "FormatModes" [.type "object"] [.ref 438, .type "object"] 437 "FormatModes" true [] [] false none false)) #[none, none, (some (.str "FormatModes" 792)), (some (.str "FormatModes" 800)), (some (.builtin "object.__new__")), (some (.bool true))]
noncomputable def o455 : Obj := .mk (.type "getset_descriptor") none (.fields #[.str "__dict__" 825, .ref 438, .builtin "function.__dict__", .builtin "function.__dict__#set"]) #[]
noncomputable def o456 : Obj := .mk (.type "getset_descriptor") none (.fields #[.str "__weakref__" 827, .ref 438, .builtin "ExceptionGroup.__weakref__", .none]) #[]
noncomputable def o457 : Obj := .mk (.type "super") none (.fields #[.ref 438, .ref 438, .ref 438]) #[]
noncomputable def o458 : Obj := .mk (.type "builtin_function_or_method") none (.fields #[.builtin "object.__init_subclass__", .ref 438]) #[]
noncomputable def o459 : Obj := .mk (.type "tuple") none (.seq #[] 0) #[]
noncomputable def o460 : Obj := .mk .none none (.fields #[]) #[]
noncomputable def o461 : Obj := .mk (.type "tuple") none (.seq #[.str "at" 835, .str "item" 836, .str "word" 837] 0) #[]
noncomputable def o462 : Obj := .mk (.type "tuple") none (.seq #[] 0) #[]
noncomputable def o463 : Obj := .mk .none none (.func (FuncData.mk "moved" "moved" (fA (st 63)) (FuncBody.stmts (fB (st 63))) (fS (st 63)) 0 [] .none .none .none .none none .none .none 0)) #[]
noncomputable def o464 : Obj := .mk (.type "code") none (.fields #[.str "moved" 832, .str "moved" 833, .str "/claim/cut.py" 834, .int 394 0, .int 2 0, .int 0 0, .int 0 0, .int 3 0, .ref 443, .bool true, .int 181 0, .ref 444, .none, .ref 445, .ref 446, .ref 447, .int 838 0, .int 394 0, .str "/claim/cut.py" 839]) #[]
noncomputable def o465 : Obj := .mk (.type "function") none (.func (FuncData.mk "moved" "moved" (fA (st 63)) (FuncBody.stmts (fB (st 63))) (fS (st 63)) 3 [] .none .none .none (.str "f77.fmtrun" 702) none (.ref 448) .none 0)) #[]
noncomputable def t11 (P : Params) : BT := (BN (boot_o_0 P) (BN (boot_o_1 P) (BN (o429 P) (BN (boot_o_7 P) (BN o7 (BN o66 (BN o61 (BN o133 (LF o265) (LF o397)) (BN o199 (LF o331) (LF o463))) (BN o99 (BN o165 (LF o299) (LF o431)) (BN o231 (LF o363) BE))) (BN o45 (BN o80 (BN o149 (LF o281) (LF o413)) (BN o215 (LF o347) BE)) (BN o115 (BN o181 (LF o315) (LF o447)) (BN o249 (LF o381) BE)))) (BN o15 (BN o34 (BN o72 (BN o141 (LF o273) (LF o405)) (BN o207 (LF o339) BE)) (BN o107 (BN o173 (LF o307) (LF o439)) (BN o241 (LF o371) BE))) (BN o53 (BN (o91 P) (BN o157 (LF o289) (LF o421)) (BN o223 (LF o355) BE)) (BN o125 (BN o189 (LF o323) (LF o455)) (BN o257 (LF (o389 P)) BE))))) (BN o0 (BN o11 (BN o30 (BN o68 (BN o137 (LF o269) (LF o401)) (BN o203 (LF o335) BE)) (BN o103 (BN o169 (LF o303) (LF o435)) (BN o237 (LF o367) BE))) (BN o49 (BN o84 (BN o153 (LF o285) (LF o417)) (BN o219 (LF o351) BE)) (BN o121 (BN o185 (LF o319) (LF o451)) (BN o253 (LF o385) BE)))) (BN o19 (BN (o38 P) (BN o76 (BN o145 (LF o277) (LF o409)) (BN o211 (LF o343) BE)) (BN o111 (BN o177 (LF o311) (LF o443)) (BN o245 (LF o375) BE))) (BN o57 (BN o95 (BN o161 (LF o295) (LF o425)) (BN o227 (LF o359) BE)) (BN o129 (BN o193 (LF o327) (LF o459)) (BN o261 (LF o393) BE)))))) (BN (boot_o_5 P) (BN (boot_o_9 P) (BN (o9 P) (BN o25 (BN o63 (BN o135 (LF o267) (LF o399)) (BN o201 (LF o333) (LF o465))) (BN o101 (BN o167 (LF o301) (LF (o433 P))) (BN o233 (LF o365) BE))) (BN (o47 P) (BN (o82 P) (BN o151 (LF o283) (LF o415)) (BN o217 (LF o349) BE)) (BN o119 (BN o183 (LF o317) (LF o449)) (BN o251 (LF o383) BE)))) (BN o17 (BN o36 (BN o74 (BN o143 (LF o275) (LF o407)) (BN o209 (LF o341) BE)) (BN o109 (BN o175 (LF o309) (LF o441)) (BN o243 (LF o373) BE))) (BN o55 (BN o93 (BN o159 (LF o291) (LF (o423 P))) (BN o225 (LF o357) BE)) (BN o127 (BN o191 (LF o325) (LF o457)) (BN o259 (LF o391) BE))))) (BN o2 (BN o13 (BN (o32 P) (BN o70 (BN o139 (LF o271) (LF o403)) (BN o205 (LF o337) BE)) (BN o105 (BN o171 (LF o305) (LF o437)) (BN (o239 P) (LF o369) BE))) (BN o51 (BN o89 (BN o155 (LF o287) (LF o419)) (BN o221 (LF o353) BE)) (BN o123 (BN o187 (LF o321) (LF (o453 P))) (BN o255 (LF o387) BE)))) (BN o21 (BN o40 (BN o78 (BN o147 (LF o279) (LF o411)) (BN o213 (LF o345) BE)) (BN o113 (BN o179 (LF o313) (LF o445)) (BN o247 (LF o377) BE))) (BN o59 (BN o97 (BN o163 (LF o297) (LF o427)) (BN o229 (LF o361) BE)) (BN o131 (BN o195 (LF o329) (LF o461)) (BN o263 (LF o395) BE))))))) (BN (o4 P) (BN (boot_o_4 P) (BN (boot_o_8 P) (BN o8 (BN o24 (BN o62 (BN o134 (LF o266) (LF o398)) (BN o200 (LF o332) (LF o464))) (BN o100 (BN o166 (LF o300) (LF o432)) (BN o232 (LF o364) BE))) (BN o46 (BN o81 (BN o150 (LF o282) (LF o414)) (BN o216 (LF o348) BE)) (BN o118 (BN o182 (LF o316) (LF o448)) (BN o250 (LF o382) BE)))) (BN o16 (BN o35 (BN o73 (BN o142 (LF o274) (LF o406)) (BN o208 (LF o340) BE)) (BN o108 (BN o174 (LF o308) (LF o440)) (BN o242 (LF o372) BE))) (BN o54 (BN o92 (BN o158 (LF o290) (LF o422)) (BN o224 (LF o356) BE)) (BN o126 (BN o190 (LF o324) (LF o456)) (BN o258 (LF o390) BE))))) (BN o430 (BN o12 (BN o31 (BN (o69 P) (BN o138 (LF o270) (LF o402)) (BN o204 (LF o336) BE)) (BN (o104 P) (BN o170 (LF o304) (LF o436)) (BN o238 (LF o368) BE))) (BN o50 (BN o85 (BN o154 (LF o286) (LF o418)) (BN o220 (LF o352) BE)) (BN o122 (BN o186 (LF o320) (LF o452)) (BN o254 (LF o386) BE)))) (BN o20 (BN o39 (BN o77 (BN o146 (LF o278) (LF o410)) (BN o212 (LF o344) BE)) (BN o112 (BN o178 (LF o312) (LF o444)) (BN o246 (LF o376) BE))) (BN o58 (BN o96 (BN o162 (LF o296) (LF o426)) (BN o228 (LF o360) BE)) (BN o130 (BN o194 (LF o328) (LF o460)) (BN o262 (LF o394) BE)))))) (BN (boot_o_6 P) (BN (boot_o_10 P) (BN o10 (BN o26 (BN o67 (BN o136 (LF o268) (LF o400)) (BN o202 (LF o334) BE)) (BN o102 (BN o168 (LF o302) (LF o434)) (BN o234 (LF o366) BE))) (BN o48 (BN o88 (BN o152 (LF o284) (LF o416)) (BN o218 (LF o350) BE)) (BN o120 (BN o184 (LF o318) (LF o450)) (BN (o252 P) (LF o384) BE)))) (BN o18 (BN o37 (BN o75 (BN o144 (LF o276) (LF o408)) (BN o210 (LF o342) BE)) (BN o110 (BN o176 (LF o310) (LF o442)) (BN o244 (LF o374) BE))) (BN o56 (BN o94 (BN o160 (LF o292) (LF o424)) (BN o226 (LF o358) BE)) (BN o128 (BN o192 (LF o326) (LF o458)) (BN o260 (LF o392) BE))))) (BN o3 (BN o14 (BN o33 (BN o71 (BN o140 (LF o272) (LF o404)) (BN o206 (LF o338) BE)) (BN o106 (BN o172 (LF o306) (LF o438)) (BN o240 (LF o370) BE))) (BN o52 (BN o90 (BN o156 (LF o288) (LF o420)) (BN o222 (LF o354) BE)) (BN o124 (BN o188 (LF o322) (LF o454)) (BN o256 (LF o388) BE)))) (BN (o22 P) (BN o41 (BN o79 (BN o148 (LF o280) (LF o412)) (BN o214 (LF o346) BE)) (BN o114 (BN o180 (LF o314) (LF o446)) (BN o248 (LF o380) BE))) (BN (o60 P) (BN o98 (BN o164 (LF o298) (LF o428)) (BN o230 (LF o362) BE)) (BN o132 (BN o198 (LF o330) (LF o462)) (BN o264 (LF o396) BE))))))))
noncomputable abbrev S11 (w : World) (os : OsState) : SharedT := SharedT.mk (t11 w.params) (nat_lit 450) (Life.mk [] [] [] 0 [] [] false #[] [] 0 false false false 0 [2000, 10, 10] false 0 true [] [] 0 false) #[] (Drawn.mk 0 0 0 0) (nat_lit 841) os
noncomputable abbrev sts11 : List Stmt := [st 62, st 63]
theorem pc11 (w : World) : (fun os => segRunT treeTable pg w m0 ann 1 (nat_lit 289) (S10 w os) (piecesOf sts11 env cE (Pos.mk 332 0 375 21) fE)) = fun os => some (Flow.next, S11 w os, cE, (Pos.mk 394 0 400 23)) := by (try rewrite [Fast.te10110043849684766642]); (try rewrite [Fast.te14364793385576792824]); kernel_rfl
noncomputable def o466 (P : Params) : Obj := .mk (.type "dict") none (.dict #[dE P "__name__" 165 (.str "f77.fmtrun" 702), dE P "__doc__" 166 .none, dE P "__package__" 167 .none, dE P "__loader__" 168 (.builtin "__main__.__loader__#opaque"), dE P "__spec__" 169 .none, dE P "__annotations__" 170 (.ref 6), dE P "__builtins__" 171 (.ref 4), dE P "__file__" 173 (.str "/claim/cut.py" 172), dE P "__cached__" 174 .none, dE P "F77Error" 217 (.ref 31), dE P "RunFault" 233 (.ref 44), dE P "FormatFault" 259 (.ref 63), dE P "IoFault" 285 (.ref 82), dE P "EndFault" 309 (.ref 101), dE P "INTEGER" 311 (.int 0 310), dE P "REAL" 313 (.int 1 312), dE P "DOUBLE" 315 (.int 2 314), dE P "COMPLEX" 317 (.int 3 316), dE P "LOGICAL" 319 (.int 4 318), dE P "CHARACTER" 321 (.int 5 320), dE P "NOUGHT" 326 (.ref 104), dE P "FIGURES" 328 (.str "0123456789" 327), dE P "count_digits" 336 (.ref 111), dE P "strip_zeros" 344 (.ref 118), dE P "round_digits" 357 (.ref 125), dE P "round_real" 368 (.ref 132), dE P "digits_of" 376 (.ref 139), dE P "BAD_FIELD" 380 (.int 1 379), dE P "TOO_GREAT" 382 (.int 2 381), dE P "WRONG_KIND" 384 (.int 3 383), dE P "REAL_WORDS" 389 (.ref 140), dE P "solid_field" 399 (.ref 147), dE P "whole_of" 409 (.ref 154), dE P "cut_sign" 416 (.ref 161), dE P "in_width" 425 (.ref 168), dE P "read_int" 438 (.ref 175), dE P "cut_exponent" 446 (.ref 182), dE P "field_exponent" 456 (.ref 189), dE P "read_figures" 468 (.ref 196), dE P "read_real" 489 (.ref 203), dE P "read_logical" 497 (.ref 210), dE P "read_text" 505 (.ref 217), dE P "read_value" 519 (.ref 224), dE P "SEPARATORS" 526 (.ref 225), dE P "PART_ENDS" 532 (.ref 226), dE P "ListReader" 567 (.ref 243), dE P "sign_here" 574 (.ref 254), dE P "step_on" 581 (.ref 261), dE P "skip_blanks" 588 (.ref 268), dE P "skip_gaps" 595 (.ref 275), dE P "take_run" 604 (.ref 282), dE P "take_sign" 612 (.ref 289), dE P "take_repeat" 622 (.ref 296), dE P "take_quoted" 631 (.ref 303), dE P "take_pair" 640 (.ref 310), dE P "take_constant" 649 (.ref 317), dE P "next_constant" 656 (.ref 324), dE P "part_real" 665 (.ref 331), dE P "fitted_text" 673 (.ref 338), dE P "value_of" 684 (.ref 345), dE P "read_item" 695 (.ref 352), dE P "read_list" 701 (.ref 357), dE P "DATA_WORDS" 711 (.ref 358), dE P "add_flat" 723 (.ref 365), dE P "flat_of" 733 (.ref 372), dE P "FormatControl" 791 (.ref 410), dE P "FormatModes" 831 (.ref 438), dE P "moved" 840 (.ref 449), dE P "FormatReader" 916 (.ref 494)] 69) #[]
noncomputable def o467 : Obj := .mk .none none (.fields #[.int 2 0, .int 0 0, .ref 20, .int 7 0, .int 0 0, .ref 40, .int 9 0, .int 0 0, .ref 52, .int 14 0, .int 0 0, .ref 71, .int 19 0, .int 0 0, .ref 90, .int 32 0, .int 0 0, .ref 110, .int 42 0, .int 0 0, .ref 117, .int 49 0, .int 0 0, .ref 124, .int 59 0, .int 0 0, .ref 131, .int 67 0, .int 0 0, .ref 138, .int 74 0, .int 0 0, .ref 146, .int 82 0, .int 0 0, .ref 153, .int 92 0, .int 0 0, .ref 160, .int 98 0, .int 0 0, .ref 167, .int 101 0, .int 0 0, .ref 174, .int 112 0, .int 0 0, .ref 181, .int 119 0, .int 0 0, .ref 188, .int 125 0, .int 0 0, .ref 195, .int 137 0, .int 0 0, .ref 202, .int 152 0, .int 0 0, .ref 209, .int 163 0, .int 0 0, .ref 216, .int 167 0, .int 0 0, .ref 223, .int 181 0, .int 0 0, .ref 232, .int 191 0, .int 0 0, .ref 253, .int 193 0, .int 0 0, .ref 260, .int 199 0, .int 0 0, .ref 267, .int 202 0, .int 0 0, .ref 274, .int 205 0, .int 0 0, .ref 281, .int 211 0, .int 0 0, .ref 288, .int 215 0, .int 0 0, .ref 295, .int 227 0, .int 0 0, .ref 302, .int 238 0, .int 0 0, .ref 309, .int 249 0, .int 0 0, .ref 316, .int 260 0, .int 0 0, .ref 323, .int 284 0, .int 0 0, .ref 330, .int 288 0, .int 0 0, .ref 337, .int 290 0, .int 0 0, .ref 344, .int 303 0, .int 0 0, .ref 351, .int 308 0, .int 0 0, .ref 356, .int 313 0, .int 0 0, .ref 364, .int 324 0, .int 0 0, .ref 371, .int 332 0, .int 0 0, .ref 378, .int 376 0, .int 0 0, .ref 420, .int 394 0, .int 0 0, .ref 448, .int 401 0, .int 0 0, .ref 455]) #[]
noncomputable def o468 : Obj := .mk (.type "tuple") none (.seq #[] 0) #[]
noncomputable def o469 : Obj := .mk (.type "builtin_function_or_method") none (.fields #[.builtin "type.__prepare__", .type "type"]) #[]
noncomputable def o470 (P : Params) : Obj := .mk (.type "dict") none (.dict #[dE P "__module__" 848 (.str "f77.fmtrun" 702), dE P "__qualname__" 850 (.str "FormatReader" 849), dE P "__firstlineno__" 852 (.int 401 851), dE P "__init__" 864 (.ref 463), dE P "step" 872 (.ref 470), dE P "field" 881 (.ref 477), dE P "take" 893 (.ref 484), dE P "finish" 901 (.ref 491), dE P "__static_attributes__" 909 (.ref 492)] 9) #[]
noncomputable def o471 : Obj := .mk (.type "tuple") none (.seq #[] 0) #[]
noncomputable def o472 : Obj := .mk .none none (.fields #[.int 403 0, .int 4 0, .ref 462, .int 412 0, .int 4 0, .ref 469, .int 421 0, .int 4 0, .ref 476, .int 426 0, .int 4 0, .ref 483, .int 437 0, .int 4 0, .ref 490]) #[]
noncomputable def o473 : Obj := .mk (.type "code") none (.fields #[.str "FormatReader" 843, .str "FormatReader" 844, .str "/claim/cut.py" 845, .int 401 0, .int 0 0, .int 0 0, .int 0 0, .int 0 0, .ref 453, .bool false, .int 181 0, .ref 454, .none, .none, .none, .none, .int 846 0, .int 401 0, .str "/claim/cut.py" 847]) #[]
noncomputable def o474 : Obj := .mk (.type "frame") none .plain #[(some (.ref 455)), (some (.ref 3)), (some (.ref 452)), none, (some (.str "f77.fmtrun" 702)), none, (some (.ref 0))]
noncomputable def o475 : Obj := .mk (.type "tuple") none (.seq #[] 0) #[]
noncomputable def o476 : Obj := .mk .none none (.fields #[]) #[]
noncomputable def o477 : Obj := .mk (.type "tuple") none (.seq #[.str "self" 856, .str "tree" 857, .str "source" 858, .str "read" 859, .str "is_zeros" 860, .str "limits" 861] 0) #[]
noncomputable def o478 : Obj := .mk (.type "tuple") none (.seq #[] 0) #[]
noncomputable def o479 : Obj := .mk .none none (.func (FuncData.mk "__init__" "FormatReader.__init__" (fA (sub (st 64) 0)) (FuncBody.stmts (fB (sub (st 64) 0))) (fS (sub (st 64) 0)) 0 [] .none .none .none .none none .none .none 0)) #[]
noncomputable def o480 : Obj := .mk (.type "code") none (.fields #[.str "__init__" 853, .str "FormatReader.__init__" 854, .str "/claim/cut.py" 855, .int 403 0, .int 6 0, .int 0 0, .int 0 0, .int 3 0, .ref 457, .bool true, .int 181 0, .ref 458, .none, .ref 459, .ref 460, .ref 461, .int 862 0, .int 403 0, .str "/claim/cut.py" 863]) #[]
noncomputable def o481 : Obj := .mk (.type "function") none (.func (FuncData.mk "__init__" "FormatReader.__init__" (fA (sub (st 64) 0)) (FuncBody.stmts (fB (sub (st 64) 0))) (fS (sub (st 64) 0)) 3 [] .none .none .none (.str "f77.fmtrun" 702) none (.ref 462) .none 0)) #[]
noncomputable def o482 : Obj := .mk (.type "tuple") none (.seq #[] 0) #[]
noncomputable def o483 : Obj := .mk .none none (.fields #[]) #[]
noncomputable def o484 : Obj := .mk (.type "tuple") none (.seq #[.str "self" 868, .str "item" 869] 0) #[]
noncomputable def o485 : Obj := .mk (.type "tuple") none (.seq #[] 0) #[]
noncomputable def o486 : Obj := .mk .none none (.func (FuncData.mk "step" "FormatReader.step" (fA (sub (st 64) 1)) (FuncBody.stmts (fB (sub (st 64) 1))) (fS (sub (st 64) 1)) 0 [] .none .none .none .none none .none .none 0)) #[]
noncomputable def o487 : Obj := .mk (.type "code") none (.fields #[.str "step" 865, .str "FormatReader.step" 866, .str "/claim/cut.py" 867, .int 412 0, .int 2 0, .int 0 0, .int 0 0, .int 3 0, .ref 464, .bool true, .int 181 0, .ref 465, .none, .ref 466, .ref 467, .ref 468, .int 870 0, .int 412 0, .str "/claim/cut.py" 871]) #[]
noncomputable def o488 : Obj := .mk (.type "function") none (.func (FuncData.mk "step" "FormatReader.step" (fA (sub (st 64) 1)) (FuncBody.stmts (fB (sub (st 64) 1))) (fS (sub (st 64) 1)) 3 [] .none .none .none (.str "f77.fmtrun" 702) none (.ref 469) .none 0)) #[]
noncomputable def o489 : Obj := .mk (.type "tuple") none (.seq #[] 0) #[]
noncomputable def o490 : Obj := .mk .none none (.fields #[]) #[]
noncomputable def o491 : Obj := .mk (.type "tuple") none (.seq #[.str "self" 876, .str "width" 877, .str "text" 878] 0) #[]
noncomputable def o492 : Obj := .mk (.type "tuple") none (.seq #[] 0) #[]
noncomputable def o493 : Obj := .mk .none none (.func (FuncData.mk "field" "FormatReader.field" (fA (sub (st 64) 2)) (FuncBody.stmts (fB (sub (st 64) 2))) (fS (sub (st 64) 2)) 0 [] .none .none .none .none none .none .none 0)) #[]
noncomputable def o494 : Obj := .mk (.type "code") none (.fields #[.str "field" 873, .str "FormatReader.field" 874, .str "/claim/cut.py" 875, .int 421 0, .int 2 0, .int 0 0, .int 0 0, .int 3 0, .ref 471, .bool true, .int 181 0, .ref 472, .none, .ref 473, .ref 474, .ref 475, .int 879 0, .int 421 0, .str "/claim/cut.py" 880]) #[]
noncomputable def o495 : Obj := .mk (.type "function") none (.func (FuncData.mk "field" "FormatReader.field" (fA (sub (st 64) 2)) (FuncBody.stmts (fB (sub (st 64) 2))) (fS (sub (st 64) 2)) 3 [] .none .none .none (.str "f77.fmtrun" 702) none (.ref 476) .none 0)) #[]
noncomputable def o496 : Obj := .mk (.type "tuple") none (.seq #[] 0) #[]
noncomputable def o497 : Obj := .mk .none none (.fields #[]) #[]
noncomputable def o498 : Obj := .mk (.type "tuple") none (.seq #[.str "self" 885, .str "kind" 886, .str "length" 887, .str "first" 888, .str "item" 889, .str "width" 890] 0) #[]
noncomputable def o499 : Obj := .mk (.type "tuple") none (.seq #[] 0) #[]
noncomputable def o500 : Obj := .mk .none none (.func (FuncData.mk "take" "FormatReader.take" (fA (sub (st 64) 3)) (FuncBody.stmts (fB (sub (st 64) 3))) (fS (sub (st 64) 3)) 0 [] .none .none .none .none none .none .none 0)) #[]
noncomputable def o501 : Obj := .mk (.type "code") none (.fields #[.str "take" 882, .str "FormatReader.take" 883, .str "/claim/cut.py" 884, .int 426 0, .int 3 0, .int 0 0, .int 0 0, .int 3 0, .ref 478, .bool true, .int 181 0, .ref 479, .none, .ref 480, .ref 481, .ref 482, .int 891 0, .int 426 0, .str "/claim/cut.py" 892]) #[]
noncomputable def o502 : Obj := .mk (.type "function") none (.func (FuncData.mk "take" "FormatReader.take" (fA (sub (st 64) 3)) (FuncBody.stmts (fB (sub (st 64) 3))) (fS (sub (st 64) 3)) 3 [] .none .none .none (.str "f77.fmtrun" 702) none (.ref 483) .none 0)) #[]
noncomputable def o503 : Obj := .mk (.type "tuple") none (.seq #[] 0) #[]
noncomputable def o504 : Obj := .mk .none none (.fields #[]) #[]
noncomputable def o505 : Obj := .mk (.type "tuple") none (.seq #[.str "self" 897, .str "item" 898] 0) #[]
noncomputable def o506 : Obj := .mk (.type "tuple") none (.seq #[] 0) #[]
noncomputable def o507 : Obj := .mk .none none (.func (FuncData.mk "finish" "FormatReader.finish" (fA (sub (st 64) 4)) (FuncBody.stmts (fB (sub (st 64) 4))) (fS (sub (st 64) 4)) 0 [] .none .none .none .none none .none .none 0)) #[]
noncomputable def o508 : Obj := .mk (.type "code") none (.fields #[.str "finish" 894, .str "FormatReader.finish" 895, .str "/claim/cut.py" 896, .int 437 0, .int 1 0, .int 0 0, .int 0 0, .int 3 0, .ref 485, .bool true, .int 181 0, .ref 486, .none, .ref 487, .ref 488, .ref 489, .int 899 0, .int 437 0, .str "/claim/cut.py" 900]) #[]
noncomputable def o509 : Obj := .mk (.type "function") none (.func (FuncData.mk "finish" "FormatReader.finish" (fA (sub (st 64) 4)) (FuncBody.stmts (fB (sub (st 64) 4))) (fS (sub (st 64) 4)) 3 [] .none .none .none (.str "f77.fmtrun" 702) none (.ref 490) .none 0)) #[]
noncomputable def o510 : Obj := .mk (.type "tuple") none (.seq #[.str "at" 902, .str "control" 903, .str "limits" 904, .str "modes" 905, .str "read" 906, .str "record" 907, .str "source" 908] 0) #[]
noncomputable def o511 (P : Params) : Obj := .mk (.type "dict") none (.dict #[dE P "__module__" 848 (.str "f77.fmtrun" 702), dE P "__firstlineno__" 852 (.int 401 851), dE P "__init__" 864 (.ref 463), dE P "step" 872 (.ref 470), dE P "field" 881 (.ref 477), dE P "take" 893 (.ref 484), dE P "finish" 901 (.ref 491), dE P "__static_attributes__" 909 (.ref 492), dE P "__dict__" 911 (.ref 495), dE P "__weakref__" 913 (.ref 496), dE P "__doc__" 914 .none] 4) #[]
noncomputable def o512 : Obj := .mk (.type "type") none (.cls (ClassData.mk "FormatReader" [.type "object"] [.ref 494, .type "object"] 493 "FormatReader" true [] [] false none false)) #[none, none, (some (.str "FormatReader" 841)), (some (.str "FormatReader" 849)), (some (.builtin "object.__new__")), (some (.bool true))]
noncomputable def o513 : Obj := .mk (.type "getset_descriptor") none (.fields #[.str "__dict__" 910, .ref 494, .builtin "function.__dict__", .builtin "function.__dict__#set"]) #[]
noncomputable def o514 : Obj := .mk (.type "getset_descriptor") none (.fields #[.str "__weakref__" 912, .ref 494, .builtin "ExceptionGroup.__weakref__", .none]) #[]
noncomputable def o515 : Obj := .mk (.type "super") none (.fields #[.ref 494, .ref 494, .ref 494]) #[]
noncomputable def o516 : Obj := .mk (.type "builtin_function_or_method") none (.fields #[.builtin "object.__init_subclass__", .ref 494]) #[]
noncomputable def t12 (P : Params) : BT := (BN (boot_o_0 P) (BN (boot_o_1 P) (BN (o466 P) (BN (boot_o_7 P) (BN o7 (BN o66 (BN o61 (BN o133 (LF o265) (LF o397)) (BN o199 (LF o331) (LF o463))) (BN o99 (BN o165 (LF o299) (LF o431)) (BN o231 (LF o363) (LF o497)))) (BN o45 (BN o80 (BN o149 (LF o281) (LF o413)) (BN o215 (LF o347) (LF o481))) (BN o115 (BN o181 (LF o315) (LF o447)) (BN o249 (LF o381) (LF o513))))) (BN o15 (BN o34 (BN o72 (BN o141 (LF o273) (LF o405)) (BN o207 (LF o339) (LF o473))) (BN o107 (BN o173 (LF o307) (LF o439)) (BN o241 (LF o371) (LF o505)))) (BN o53 (BN (o91 P) (BN o157 (LF o289) (LF o421)) (BN o223 (LF o355) (LF o489))) (BN o125 (BN o189 (LF o323) (LF o455)) (BN o257 (LF (o389 P)) BE))))) (BN o0 (BN o11 (BN o30 (BN o68 (BN o137 (LF o269) (LF o401)) (BN o203 (LF o335) (LF o469))) (BN o103 (BN o169 (LF o303) (LF o435)) (BN o237 (LF o367) (LF o501)))) (BN o49 (BN o84 (BN o153 (LF o285) (LF o417)) (BN o219 (LF o351) (LF o485))) (BN o121 (BN o185 (LF o319) (LF o451)) (BN o253 (LF o385) BE)))) (BN o19 (BN (o38 P) (BN o76 (BN o145 (LF o277) (LF o409)) (BN o211 (LF o343) (LF o477))) (BN o111 (BN o177 (LF o311) (LF o443)) (BN o245 (LF o375) (LF o509)))) (BN o57 (BN o95 (BN o161 (LF o295) (LF o425)) (BN o227 (LF o359) (LF o493))) (BN o129 (BN o193 (LF o327) (LF o459)) (BN o261 (LF o393) BE)))))) (BN (boot_o_5 P) (BN (boot_o_9 P) (BN (o9 P) (BN o25 (BN o63 (BN o135 (LF o267) (LF o399)) (BN o201 (LF o333) (LF o465))) (BN o101 (BN o167 (LF o301) (LF (o433 P))) (BN o233 (LF o365) (LF o499)))) (BN (o47 P) (BN (o82 P) (BN o151 (LF o283) (LF o415)) (BN o217 (LF o349) (LF o483))) (BN o119 (BN o183 (LF o317) (LF o449)) (BN o251 (LF o383) (LF o515))))) (BN o17 (BN o36 (BN o74 (BN o143 (LF o275) (LF o407)) (BN o209 (LF o341) (LF o475))) (BN o109 (BN o175 (LF o309) (LF o441)) (BN o243 (LF o373) (LF o507)))) (BN o55 (BN o93 (BN o159 (LF o291) (LF (o423 P))) (BN o225 (LF o357) (LF o491))) (BN o127 (BN o191 (LF o325) (LF o457)) (BN o259 (LF o391) BE))))) (BN o2 (BN o13 (BN (o32 P) (BN o70 (BN o139 (LF o271) (LF o403)) (BN o205 (LF o337) (LF o471))) (BN o105 (BN o171 (LF o305) (LF o437)) (BN (o239 P) (LF o369) (LF o503)))) (BN o51 (BN o89 (BN o155 (LF o287) (LF o419)) (BN o221 (LF o353) (LF o487))) (BN o123 (BN o187 (LF o321) (LF (o453 P))) (BN o255 (LF o387) BE)))) (BN o21 (BN o40 (BN o78 (BN o147 (LF o279) (LF o411)) (BN o213 (LF o345) (LF o479))) (BN o113 (BN o179 (LF o313) (LF o445)) (BN o247 (LF o377) (LF (o511 P))))) (BN o59 (BN o97 (BN o163 (LF o297) (LF o427)) (BN o229 (LF o361) (LF o495))) (BN o131 (BN o195 (LF o329) (LF o461)) (BN o263 (LF o395) BE))))))) (BN (o4 P) (BN (boot_o_4 P) (BN (boot_o_8 P) (BN o8 (BN o24 (BN o62 (BN o134 (LF o266) (LF o398)) (BN o200 (LF o332) (LF o464))) (BN o100 (BN o166 (LF o300) (LF o432)) (BN o232 (LF o364) (LF o498)))) (BN o46 (BN o81 (BN o150 (LF o282) (LF o414)) (BN o216 (LF o348) (LF o482))) (BN o118 (BN o182 (LF o316) (LF o448)) (BN o250 (LF o382) (LF o514))))) (BN o16 (BN o35 (BN o73 (BN o142 (LF o274) (LF o406)) (BN o208 (LF o340) (LF o474))) (BN o108 (BN o174 (LF o308) (LF o440)) (BN o242 (LF o372) (LF o506)))) (BN o54 (BN o92 (BN o158 (LF o290) (LF o422)) (BN o224 (LF o356) (LF o490))) (BN o126 (BN o190 (LF o324) (LF o456)) (BN o258 (LF o390) BE))))) (BN o467 (BN o12 (BN o31 (BN (o69 P) (BN o138 (LF o270) (LF o402)) (BN o204 (LF o336) (LF (o470 P)))) (BN (o104 P) (BN o170 (LF o304) (LF o436)) (BN o238 (LF o368) (LF o502)))) (BN o50 (BN o85 (BN o154 (LF o286) (LF o418)) (BN o220 (LF o352) (LF o486))) (BN o122 (BN o186 (LF o320) (LF o452)) (BN o254 (LF o386) BE)))) (BN o20 (BN o39 (BN o77 (BN o146 (LF o278) (LF o410)) (BN o212 (LF o344) (LF o478))) (BN o112 (BN o178 (LF o312) (LF o444)) (BN o246 (LF o376) (LF o510)))) (BN o58 (BN o96 (BN o162 (LF o296) (LF o426)) (BN o228 (LF o360) (LF o494))) (BN o130 (BN o194 (LF o328) (LF o460)) (BN o262 (LF o394) BE)))))) (BN (boot_o_6 P) (BN (boot_o_10 P) (BN o10 (BN o26 (BN o67 (BN o136 (LF o268) (LF o400)) (BN o202 (LF o334) (LF o468))) (BN o102 (BN o168 (LF o302) (LF o434)) (BN o234 (LF o366) (LF o500)))) (BN o48 (BN o88 (BN o152 (LF o284) (LF o416)) (BN o218 (LF o350) (LF o484))) (BN o120 (BN o184 (LF o318) (LF o450)) (BN (o252 P) (LF o384) (LF o516))))) (BN o18 (BN o37 (BN o75 (BN o144 (LF o276) (LF o408)) (BN o210 (LF o342) (LF o476))) (BN o110 (BN o176 (LF o310) (LF o442)) (BN o244 (LF o374) (LF o508)))) (BN o56 (BN o94 (BN o160 (LF o292) (LF o424)) (BN o226 (LF o358) (LF o492))) (BN o128 (BN o192 (LF o326) (LF o458)) (BN o260 (LF o392) BE))))) (BN o3 (BN o14 (BN o33 (BN o71 (BN o140 (LF o272) (LF o404)) (BN o206 (LF o338) (LF o472))) (BN o106 (BN o172 (LF o306) (LF o438)) (BN o240 (LF o370) (LF o504)))) (BN o52 (BN o90 (BN o156 (LF o288) (LF o420)) (BN o222 (LF o354) (LF o488))) (BN o124 (BN o188 (LF o322) (LF o454)) (BN o256 (LF o388) BE)))) (BN (o22 P) (BN o41 (BN o79 (BN o148 (LF o280) (LF o412)) (BN o214 (LF o346) (LF o480))) (BN o114 (BN o180 (LF o314) (LF o446)) (BN o248 (LF o380) (LF o512)))) (BN (o60 P) (BN o98 (BN o164 (LF o298) (LF o428)) (BN o230 (LF o362) (LF o496))) (BN o132 (BN o198 (LF o330) (LF o462)) (BN o264 (LF o396) BE))))))))
noncomputable abbrev S12 (w : World) (os : OsState) : SharedT := SharedT.mk (t12 w.params) (nat_lit 499) (Life.mk [] [] [] 0 [] [] false #[] [] 0 false false false 0 [2000, 10, 10] false 0 true [] [] 0 false) #[] (Drawn.mk 0 0 0 0) (nat_lit 917) os
noncomputable abbrev sts12 : List Stmt := [st 64]
theorem pc12 (w : World) : (fun os => segRunT treeTable pg w m0 ann 1 (nat_lit 366) (S11 w os) (piecesOf sts12 env cE (Pos.mk 394 0 400 23) fE)) = fun os => some (Flow.next, S12 w os, cE, (Pos.mk 401 0 441 48)) := by (try rewrite [Fast.te10110043849684766642]); (try rewrite [Fast.te14364793385576792824]); kernel_rfl
noncomputable def o517 (P : Params) : Obj := .mk (.type "dict") none (.dict #[dE P "__name__" 165 (.str "f77.limits" 971), dE P "__doc__" 166 .none, dE P "__package__" 167 .none, dE P "__loader__" 168 (.builtin "__main__.__loader__#opaque"), dE P "__spec__" 169 .none, dE P "__annotations__" 170 (.ref 6), dE P "__builtins__" 171 (.ref 4), dE P "__file__" 173 (.str "/claim/cut.py" 172), dE P "__cached__" 174 .none, dE P "F77Error" 217 (.ref 31), dE P "RunFault" 233 (.ref 44), dE P "FormatFault" 259 (.ref 63), dE P "IoFault" 285 (.ref 82), dE P "EndFault" 309 (.ref 101), dE P "INTEGER" 311 (.int 0 310), dE P "REAL" 313 (.int 1 312), dE P "DOUBLE" 315 (.int 2 314), dE P "COMPLEX" 317 (.int 3 316), dE P "LOGICAL" 319 (.int 4 318), dE P "CHARACTER" 321 (.int 5 320), dE P "NOUGHT" 326 (.ref 104), dE P "FIGURES" 328 (.str "0123456789" 327), dE P "count_digits" 336 (.ref 111), dE P "strip_zeros" 344 (.ref 118), dE P "round_digits" 357 (.ref 125), dE P "round_real" 368 (.ref 132), dE P "digits_of" 376 (.ref 139), dE P "BAD_FIELD" 380 (.int 1 379), dE P "TOO_GREAT" 382 (.int 2 381), dE P "WRONG_KIND" 384 (.int 3 383), dE P "REAL_WORDS" 389 (.ref 140), dE P "solid_field" 399 (.ref 147), dE P "whole_of" 409 (.ref 154), dE P "cut_sign" 416 (.ref 161), dE P "in_width" 425 (.ref 168), dE P "read_int" 438 (.ref 175), dE P "cut_exponent" 446 (.ref 182), dE P "field_exponent" 456 (.ref 189), dE P "read_figures" 468 (.ref 196), dE P "read_real" 489 (.ref 203), dE P "read_logical" 497 (.ref 210), dE P "read_text" 505 (.ref 217), dE P "read_value" 519 (.ref 224), dE P "SEPARATORS" 526 (.ref 225), dE P "PART_ENDS" 532 (.ref 226), dE P "ListReader" 567 (.ref 243), dE P "sign_here" 574 (.ref 254), dE P "step_on" 581 (.ref 261), dE P "skip_blanks" 588 (.ref 268), dE P "skip_gaps" 595 (.ref 275), dE P "take_run" 604 (.ref 282), dE P "take_sign" 612 (.ref 289), dE P "take_repeat" 622 (.ref 296), dE P "take_quoted" 631 (.ref 303), dE P "take_pair" 640 (.ref 310), dE P "take_constant" 649 (.ref 317), dE P "next_constant" 656 (.ref 324), dE P "part_real" 665 (.ref 331), dE P "fitted_text" 673 (.ref 338), dE P "value_of" 684 (.ref 345), dE P "read_item" 695 (.ref 352), dE P "read_list" 701 (.ref 357), dE P "DATA_WORDS" 711 (.ref 358), dE P "add_flat" 723 (.ref 365), dE P "flat_of" 733 (.ref 372), dE P "FormatControl" 791 (.ref 410), dE P "FormatModes" 831 (.ref 438), dE P "moved" 840 (.ref 449), dE P "FormatReader" 916 (.ref 494), dE P "ListSource" 953 (.ref 522), dE P "read_records" 970 (.ref 533)] 71) #[]
noncomputable def o518 : Obj := .mk .none none (.fields #[.int 2 0, .int 0 0, .ref 20, .int 7 0, .int 0 0, .ref 40, .int 9 0, .int 0 0, .ref 52, .int 14 0, .int 0 0, .ref 71, .int 19 0, .int 0 0, .ref 90, .int 32 0, .int 0 0, .ref 110, .int 42 0, .int 0 0, .ref 117, .int 49 0, .int 0 0, .ref 124, .int 59 0, .int 0 0, .ref 131, .int 67 0, .int 0 0, .ref 138, .int 74 0, .int 0 0, .ref 146, .int 82 0, .int 0 0, .ref 153, .int 92 0, .int 0 0, .ref 160, .int 98 0, .int 0 0, .ref 167, .int 101 0, .int 0 0, .ref 174, .int 112 0, .int 0 0, .ref 181, .int 119 0, .int 0 0, .ref 188, .int 125 0, .int 0 0, .ref 195, .int 137 0, .int 0 0, .ref 202, .int 152 0, .int 0 0, .ref 209, .int 163 0, .int 0 0, .ref 216, .int 167 0, .int 0 0, .ref 223, .int 181 0, .int 0 0, .ref 232, .int 191 0, .int 0 0, .ref 253, .int 193 0, .int 0 0, .ref 260, .int 199 0, .int 0 0, .ref 267, .int 202 0, .int 0 0, .ref 274, .int 205 0, .int 0 0, .ref 281, .int 211 0, .int 0 0, .ref 288, .int 215 0, .int 0 0, .ref 295, .int 227 0, .int 0 0, .ref 302, .int 238 0, .int 0 0, .ref 309, .int 249 0, .int 0 0, .ref 316, .int 260 0, .int 0 0, .ref 323, .int 284 0, .int 0 0, .ref 330, .int 288 0, .int 0 0, .ref 337, .int 290 0, .int 0 0, .ref 344, .int 303 0, .int 0 0, .ref 351, .int 308 0, .int 0 0, .ref 356, .int 313 0, .int 0 0, .ref 364, .int 324 0, .int 0 0, .ref 371, .int 332 0, .int 0 0, .ref 378, .int 376 0, .int 0 0, .ref 420, .int 394 0, .int 0 0, .ref 448, .int 401 0, .int 0 0, .ref 455, .int 442 0, .int 0 0, .ref 504, .int 453 0, .int 0 0, .ref 532]) #[]
noncomputable def o519 : Obj := .mk (.type "tuple") none (.seq #[] 0) #[]
noncomputable def o520 : Obj := .mk (.type "builtin_function_or_method") none (.fields #[.builtin "type.__prepare__", .type "type"]) #[]
noncomputable def o521 (P : Params) : Obj := .mk (.type "dict") none (.dict #[dE P "__module__" 924 (.str "f77.fmtrun" 702), dE P "__qualname__" 926 (.str "ListSource" 925), dE P "__firstlineno__" 928 (.int 442 927), dE P "__init__" 936 (.ref 512), dE P "next_record" 943 (.ref 519), dE P "__static_attributes__" 946 (.ref 520)] 6) #[]
noncomputable def o522 : Obj := .mk (.type "tuple") none (.seq #[] 0) #[]
noncomputable def o523 : Obj := .mk .none none (.fields #[.int 444 0, .int 4 0, .ref 511, .int 448 0, .int 4 0, .ref 518]) #[]
noncomputable def o524 : Obj := .mk (.type "code") none (.fields #[.str "ListSource" 919, .str "ListSource" 920, .str "/claim/cut.py" 921, .int 442 0, .int 0 0, .int 0 0, .int 0 0, .int 0 0, .ref 502, .bool false, .int 181 0, .ref 503, .none, .none, .none, .none, .int 922 0, .int 442 0, .str "/claim/cut.py" 923]) #[]
noncomputable def o525 : Obj := .mk (.type "frame") none .plain #[(some (.ref 504)), (some (.ref 3)), (some (.ref 501)), none, (some (.str "f77.fmtrun" 702)), none, (some (.ref 0))]
noncomputable def o526 : Obj := .mk (.type "tuple") none (.seq #[] 0) #[]
noncomputable def o527 : Obj := .mk .none none (.fields #[]) #[]
noncomputable def o528 : Obj := .mk (.type "tuple") none (.seq #[.str "self" 932, .str "records" 933] 0) #[]
noncomputable def o529 : Obj := .mk (.type "tuple") none (.seq #[] 0) #[]
noncomputable def o530 : Obj := .mk .none none (.func (FuncData.mk "__init__" "ListSource.__init__" (fA (sub (st 65) 0)) (FuncBody.stmts (fB (sub (st 65) 0))) (fS (sub (st 65) 0)) 0 [] .none .none .none .none none .none .none 0)) #[]
noncomputable def o531 : Obj := .mk (.type "code") none (.fields #[.str "__init__" 929, .str "ListSource.__init__" 930, .str "/claim/cut.py" 931, .int 444 0, .int 2 0, .int 0 0, .int 0 0, .int 3 0, .ref 506, .bool true, .int 181 0, .ref 507, .none, .ref 508, .ref 509, .ref 510, .int 934 0, .int 444 0, .str "/claim/cut.py" 935]) #[]
noncomputable def o532 : Obj := .mk (.type "function") none (.func (FuncData.mk "__init__" "ListSource.__init__" (fA (sub (st 65) 0)) (FuncBody.stmts (fB (sub (st 65) 0))) (fS (sub (st 65) 0)) 3 [] .none .none .none (.str "f77.fmtrun" 702) none (.ref 511) .none 0)) #[]
noncomputable def o533 : Obj := .mk (.type "tuple") none (.seq #[] 0) #[]
noncomputable def o534 : Obj := .mk .none none (.fields #[]) #[]
noncomputable def o535 : Obj := .mk (.type "tuple") none (.seq #[.str "self" 940] 0) #[]
noncomputable def o536 : Obj := .mk (.type "tuple") none (.seq #[] 0) #[]
noncomputable def o537 : Obj := .mk .none none (.func (FuncData.mk "next_record" "ListSource.next_record" (fA (sub (st 65) 1)) (FuncBody.stmts (fB (sub (st 65) 1))) (fS (sub (st 65) 1)) 0 [] .none .none .none .none none .none .none 0)) #[]
noncomputable def o538 : Obj := .mk (.type "code") none (.fields #[.str "next_record" 937, .str "ListSource.next_record" 938, .str "/claim/cut.py" 939, .int 448 0, .int 1 0, .int 0 0, .int 0 0, .int 3 0, .ref 513, .bool true, .int 181 0, .ref 514, .none, .ref 515, .ref 516, .ref 517, .int 941 0, .int 448 0, .str "/claim/cut.py" 942]) #[]
noncomputable def o539 : Obj := .mk (.type "function") none (.func (FuncData.mk "next_record" "ListSource.next_record" (fA (sub (st 65) 1)) (FuncBody.stmts (fB (sub (st 65) 1))) (fS (sub (st 65) 1)) 3 [] .none .none .none (.str "f77.fmtrun" 702) none (.ref 518) .none 0)) #[]
noncomputable def o540 : Obj := .mk (.type "tuple") none (.seq #[.str "at" 944, .str "records" 945] 0) #[]
noncomputable def o541 (P : Params) : Obj := .mk (.type "dict") none (.dict #[dE P "__module__" 924 (.str "f77.fmtrun" 702), dE P "__firstlineno__" 928 (.int 442 927), dE P "__init__" 936 (.ref 512), dE P "next_record" 943 (.ref 519), dE P "__static_attributes__" 946 (.ref 520), dE P "__dict__" 948 (.ref 523), dE P "__weakref__" 950 (.ref 524), dE P "__doc__" 951 .none] 4) #[]
noncomputable def o542 : Obj := .mk (.type "type") none (.cls (ClassData.mk "ListSource" [.type "object"] [.ref 522, .type "object"] 521 "ListSource" true [] [] false none false)) #[none, none, (some (.str "ListSource" 917)), (some (.str "ListSource" 925)), (some (.builtin "object.__new__")), (some (.bool true))]
noncomputable def o543 : Obj := .mk (.type "getset_descriptor") none (.fields #[.str "__dict__" 947, .ref 522, .builtin "function.__dict__", .builtin "function.__dict__#set"]) #[]
noncomputable def o544 : Obj := .mk (.type "getset_descriptor") none (.fields #[.str "__weakref__" 949, .ref 522, .builtin "ExceptionGroup.__weakref__", .none]) #[]
noncomputable def o545 : Obj := .mk (.type "super") none (.fields #[.ref 522, .ref 522, .ref 522]) #[]
noncomputable def o546 : Obj := .mk (.type "builtin_function_or_method") none (.fields #[.builtin "object.__init_subclass__", .ref 522]) #[]
noncomputable def o547 : Obj := .mk (.type "tuple") none (.seq #[] 0) #[]
noncomputable def o548 : Obj := .mk .none none (.fields #[]) #[]
noncomputable def o549 : Obj := .mk (.type "tuple") none (.seq #[.str "tree" 957, .str "records" 958, .str "wanted" 959, .str "read" 960, .str "is_zeros" 961, .str "limits" 962, .str "source" 963, .str "reader" 964, .str "values" 965, .str "kind" 966, .str "length" 967] 0) #[]
noncomputable def o550 : Obj := .mk (.type "tuple") none (.seq #[] 0) #[]
noncomputable def o551 : Obj := .mk .none none (.func (FuncData.mk "read_records" "read_records" (fA (st 66)) (FuncBody.stmts (fB (st 66))) (fS (st 66)) 0 [] .none .none .none .none none .none .none 0)) #[]
noncomputable def o552 : Obj := .mk (.type "code") none (.fields #[.str "read_records" 954, .str "read_records" 955, .str "/claim/cut.py" 956, .int 453 0, .int 6 0, .int 0 0, .int 0 0, .int 3 0, .ref 527, .bool true, .int 181 0, .ref 528, .none, .ref 529, .ref 530, .ref 531, .int 968 0, .int 453 0, .str "/claim/cut.py" 969]) #[]
noncomputable def o553 : Obj := .mk (.type "function") none (.func (FuncData.mk "read_records" "read_records" (fA (st 66)) (FuncBody.stmts (fB (st 66))) (fS (st 66)) 3 [] .none .none .none (.str "f77.fmtrun" 702) none (.ref 532) .none 0)) #[]
noncomputable def t13 (P : Params) : BT := (BN (boot_o_0 P) (BN (boot_o_1 P) (BN (o517 P) (BN (boot_o_7 P) (BN o7 (BN o66 (BN o61 (BN o133 (BN o265 (LF o531) BE) (LF o397)) (BN o199 (LF o331) (LF o463))) (BN o99 (BN o165 (LF o299) (LF o431)) (BN o231 (LF o363) (LF o497)))) (BN o45 (BN o80 (BN o149 (BN o281 (LF o547) BE) (LF o413)) (BN o215 (LF o347) (LF o481))) (BN o115 (BN o181 (LF o315) (LF o447)) (BN o249 (LF o381) (LF o513))))) (BN o15 (BN o34 (BN o72 (BN o141 (BN o273 (LF o539) BE) (LF o405)) (BN o207 (LF o339) (LF o473))) (BN o107 (BN o173 (LF o307) (LF o439)) (BN o241 (LF o371) (LF o505)))) (BN o53 (BN (o91 P) (BN o157 (LF o289) (LF o421)) (BN o223 (LF o355) (LF o489))) (BN o125 (BN o189 (LF o323) (LF o455)) (BN o257 (LF (o389 P)) (LF o523)))))) (BN o0 (BN o11 (BN o30 (BN o68 (BN o137 (BN o269 (LF o535) BE) (LF o401)) (BN o203 (LF o335) (LF o469))) (BN o103 (BN o169 (LF o303) (LF o435)) (BN o237 (LF o367) (LF o501)))) (BN o49 (BN o84 (BN o153 (BN o285 (LF o551) BE) (LF o417)) (BN o219 (LF o351) (LF o485))) (BN o121 (BN o185 (LF o319) (LF o451)) (BN o253 (LF o385) (LF o519))))) (BN o19 (BN (o38 P) (BN o76 (BN o145 (BN o277 (LF o543) BE) (LF o409)) (BN o211 (LF o343) (LF o477))) (BN o111 (BN o177 (LF o311) (LF o443)) (BN o245 (LF o375) (LF o509)))) (BN o57 (BN o95 (BN o161 (LF o295) (LF o425)) (BN o227 (LF o359) (LF o493))) (BN o129 (BN o193 (LF o327) (LF o459)) (BN o261 (LF o393) (LF o527))))))) (BN (boot_o_5 P) (BN (boot_o_9 P) (BN (o9 P) (BN o25 (BN o63 (BN o135 (BN o267 (LF o533) BE) (LF o399)) (BN o201 (LF o333) (LF o465))) (BN o101 (BN o167 (LF o301) (LF (o433 P))) (BN o233 (LF o365) (LF o499)))) (BN (o47 P) (BN (o82 P) (BN o151 (BN o283 (LF o549) BE) (LF o415)) (BN o217 (LF o349) (LF o483))) (BN o119 (BN o183 (LF o317) (LF o449)) (BN o251 (LF o383) (LF o515))))) (BN o17 (BN o36 (BN o74 (BN o143 (BN o275 (LF (o541 P)) BE) (LF o407)) (BN o209 (LF o341) (LF o475))) (BN o109 (BN o175 (LF o309) (LF o441)) (BN o243 (LF o373) (LF o507)))) (BN o55 (BN o93 (BN o159 (LF o291) (LF (o423 P))) (BN o225 (LF o357) (LF o491))) (BN o127 (BN o191 (LF o325) (LF o457)) (BN o259 (LF o391) (LF o525)))))) (BN o2 (BN o13 (BN (o32 P) (BN o70 (BN o139 (BN o271 (LF o537) BE) (LF o403)) (BN o205 (LF o337) (LF o471))) (BN o105 (BN o171 (LF o305) (LF o437)) (BN (o239 P) (LF o369) (LF o503)))) (BN o51 (BN o89 (BN o155 (BN o287 (LF o553) BE) (LF o419)) (BN o221 (LF o353) (LF o487))) (BN o123 (BN o187 (LF o321) (LF (o453 P))) (BN o255 (LF o387) (LF (o521 P)))))) (BN o21 (BN o40 (BN o78 (BN o147 (BN o279 (LF o545) BE) (LF o411)) (BN o213 (LF o345) (LF o479))) (BN o113 (BN o179 (LF o313) (LF o445)) (BN o247 (LF o377) (LF (o511 P))))) (BN o59 (BN o97 (BN o163 (LF o297) (LF o427)) (BN o229 (LF o361) (LF o495))) (BN o131 (BN o195 (LF o329) (LF o461)) (BN o263 (LF o395) (LF o529)))))))) (BN (o4 P) (BN (boot_o_4 P) (BN (boot_o_8 P) (BN o8 (BN o24 (BN o62 (BN o134 (BN o266 (LF o532) BE) (LF o398)) (BN o200 (LF o332) (LF o464))) (BN o100 (BN o166 (LF o300) (LF o432)) (BN o232 (LF o364) (LF o498)))) (BN o46 (BN o81 (BN o150 (BN o282 (LF o548) BE) (LF o414)) (BN o216 (LF o348) (LF o482))) (BN o118 (BN o182 (LF o316) (LF o448)) (BN o250 (LF o382) (LF o514))))) (BN o16 (BN o35 (BN o73 (BN o142 (BN o274 (LF o540) BE) (LF o406)) (BN o208 (LF o340) (LF o474))) (BN o108 (BN o174 (LF o308) (LF o440)) (BN o242 (LF o372) (LF o506)))) (BN o54 (BN o92 (BN o158 (LF o290) (LF o422)) (BN o224 (LF o356) (LF o490))) (BN o126 (BN o190 (LF o324) (LF o456)) (BN o258 (LF o390) (LF o524)))))) (BN o518 (BN o12 (BN o31 (BN (o69 P) (BN o138 (BN o270 (LF o536) BE) (LF o402)) (BN o204 (LF o336) (LF (o470 P)))) (BN (o104 P) (BN o170 (LF o304) (LF o436)) (BN o238 (LF o368) (LF o502)))) (BN o50 (BN o85 (BN o154 (BN o286 (LF o552) BE) (LF o418)) (BN o220 (LF o352) (LF o486))) (BN o122 (BN o186 (LF o320) (LF o452)) (BN o254 (LF o386) (LF o520))))) (BN o20 (BN o39 (BN o77 (BN o146 (BN o278 (LF o544) BE) (LF o410)) (BN o212 (LF o344) (LF o478))) (BN o112 (BN o178 (LF o312) (LF o444)) (BN o246 (LF o376) (LF o510)))) (BN o58 (BN o96 (BN o162 (LF o296) (LF o426)) (BN o228 (LF o360) (LF o494))) (BN o130 (BN o194 (LF o328) (LF o460)) (BN o262 (LF o394) (LF o528))))))) (BN (boot_o_6 P) (BN (boot_o_10 P) (BN o10 (BN o26 (BN o67 (BN o136 (BN o268 (LF o534) BE) (LF o400)) (BN o202 (LF o334) (LF o468))) (BN o102 (BN o168 (LF o302) (LF o434)) (BN o234 (LF o366) (LF o500)))) (BN o48 (BN o88 (BN o152 (BN o284 (LF o550) BE) (LF o416)) (BN o218 (LF o350) (LF o484))) (BN o120 (BN o184 (LF o318) (LF o450)) (BN (o252 P) (LF o384) (LF o516))))) (BN o18 (BN o37 (BN o75 (BN o144 (BN o276 (LF o542) BE) (LF o408)) (BN o210 (LF o342) (LF o476))) (BN o110 (BN o176 (LF o310) (LF o442)) (BN o244 (LF o374) (LF o508)))) (BN o56 (BN o94 (BN o160 (LF o292) (LF o424)) (BN o226 (LF o358) (LF o492))) (BN o128 (BN o192 (LF o326) (LF o458)) (BN o260 (LF o392) (LF o526)))))) (BN o3 (BN o14 (BN o33 (BN o71 (BN o140 (BN o272 (LF o538) BE) (LF o404)) (BN o206 (LF o338) (LF o472))) (BN o106 (BN o172 (LF o306) (LF o438)) (BN o240 (LF o370) (LF o504)))) (BN o52 (BN o90 (BN o156 (LF o288) (LF o420)) (BN o222 (LF o354) (LF o488))) (BN o124 (BN o188 (LF o322) (LF o454)) (BN o256 (LF o388) (LF o522))))) (BN (o22 P) (BN o41 (BN o79 (BN o148 (BN o280 (LF o546) BE) (LF o412)) (BN o214 (LF o346) (LF o480))) (BN o114 (BN o180 (LF o314) (LF o446)) (BN o248 (LF o380) (LF o512)))) (BN (o60 P) (BN o98 (BN o164 (LF o298) (LF o428)) (BN o230 (LF o362) (LF o496))) (BN o132 (BN o198 (LF o330) (LF o462)) (BN o264 (LF o396) (LF o530)))))))))
noncomputable abbrev S13 (w : World) (os : OsState) : SharedT := SharedT.mk (t13 w.params) (nat_lit 534) (Life.mk [] [] [] 0 [] [] false #[] [] 0 false false false 0 [2000, 10, 10] false 0 true [] [] 0 false) #[] (Drawn.mk 0 0 0 0) (nat_lit 973) os
noncomputable abbrev sts13 : List Stmt := [st 65, st 66, st 67]
theorem pc13 (w : World) : (fun os => segRunT treeTable pg w m0 ann 1 (nat_lit 303) (S12 w os) (piecesOf sts13 env cE (Pos.mk 401 0 441 48) fE)) = fun os => some (Flow.next, S13 w os, cE, (Pos.mk 461 0 461 8)) := by (try rewrite [Fast.te10110043849684766642]); (try rewrite [Fast.te14364793385576792824]); kernel_rfl
noncomputable def o554 (P : Params) : Obj := .mk (.type "dict") none (.dict #[dE P "__name__" 165 (.str "law_no0277_01" 1024), dE P "__doc__" 166 .none, dE P "__package__" 167 .none, dE P "__loader__" 168 (.builtin "__main__.__loader__#opaque"), dE P "__spec__" 169 .none, dE P "__annotations__" 170 (.ref 6), dE P "__builtins__" 171 (.ref 4), dE P "__file__" 173 (.str "/claim/cut.py" 172), dE P "__cached__" 174 .none, dE P "F77Error" 217 (.ref 31), dE P "RunFault" 233 (.ref 44), dE P "FormatFault" 259 (.ref 63), dE P "IoFault" 285 (.ref 82), dE P "EndFault" 309 (.ref 101), dE P "INTEGER" 311 (.int 0 310), dE P "REAL" 313 (.int 1 312), dE P "DOUBLE" 315 (.int 2 314), dE P "COMPLEX" 317 (.int 3 316), dE P "LOGICAL" 319 (.int 4 318), dE P "CHARACTER" 321 (.int 5 320), dE P "NOUGHT" 326 (.ref 104), dE P "FIGURES" 328 (.str "0123456789" 327), dE P "count_digits" 336 (.ref 111), dE P "strip_zeros" 344 (.ref 118), dE P "round_digits" 357 (.ref 125), dE P "round_real" 368 (.ref 132), dE P "digits_of" 376 (.ref 139), dE P "BAD_FIELD" 380 (.int 1 379), dE P "TOO_GREAT" 382 (.int 2 381), dE P "WRONG_KIND" 384 (.int 3 383), dE P "REAL_WORDS" 389 (.ref 140), dE P "solid_field" 399 (.ref 147), dE P "whole_of" 409 (.ref 154), dE P "cut_sign" 416 (.ref 161), dE P "in_width" 425 (.ref 168), dE P "read_int" 438 (.ref 175), dE P "cut_exponent" 446 (.ref 182), dE P "field_exponent" 456 (.ref 189), dE P "read_figures" 468 (.ref 196), dE P "read_real" 489 (.ref 203), dE P "read_logical" 497 (.ref 210), dE P "read_text" 505 (.ref 217), dE P "read_value" 519 (.ref 224), dE P "SEPARATORS" 526 (.ref 225), dE P "PART_ENDS" 532 (.ref 226), dE P "ListReader" 567 (.ref 243), dE P "sign_here" 574 (.ref 254), dE P "step_on" 581 (.ref 261), dE P "skip_blanks" 588 (.ref 268), dE P "skip_gaps" 595 (.ref 275), dE P "take_run" 604 (.ref 282), dE P "take_sign" 612 (.ref 289), dE P "take_repeat" 622 (.ref 296), dE P "take_quoted" 631 (.ref 303), dE P "take_pair" 640 (.ref 310), dE P "take_constant" 649 (.ref 317), dE P "next_constant" 656 (.ref 324), dE P "part_real" 665 (.ref 331), dE P "fitted_text" 673 (.ref 338), dE P "value_of" 684 (.ref 345), dE P "read_item" 695 (.ref 352), dE P "read_list" 701 (.ref 357), dE P "DATA_WORDS" 711 (.ref 358), dE P "add_flat" 723 (.ref 365), dE P "flat_of" 733 (.ref 372), dE P "FormatControl" 791 (.ref 410), dE P "FormatModes" 831 (.ref 438), dE P "moved" 840 (.ref 449), dE P "FormatReader" 916 (.ref 494), dE P "ListSource" 953 (.ref 522), dE P "read_records" 970 (.ref 533), dE P "Limits" 1023 (.ref 551), dE P "_law_take" 1035 (.ref 562), dE P "_law_rounded" 1049 (.ref 569), dE P "_law_real" 1070 (.ref 576)] 75) #[]
noncomputable def o555 : Obj := .mk .none none (.fields #[.int 2 0, .int 0 0, .ref 20, .int 7 0, .int 0 0, .ref 40, .int 9 0, .int 0 0, .ref 52, .int 14 0, .int 0 0, .ref 71, .int 19 0, .int 0 0, .ref 90, .int 32 0, .int 0 0, .ref 110, .int 42 0, .int 0 0, .ref 117, .int 49 0, .int 0 0, .ref 124, .int 59 0, .int 0 0, .ref 131, .int 67 0, .int 0 0, .ref 138, .int 74 0, .int 0 0, .ref 146, .int 82 0, .int 0 0, .ref 153, .int 92 0, .int 0 0, .ref 160, .int 98 0, .int 0 0, .ref 167, .int 101 0, .int 0 0, .ref 174, .int 112 0, .int 0 0, .ref 181, .int 119 0, .int 0 0, .ref 188, .int 125 0, .int 0 0, .ref 195, .int 137 0, .int 0 0, .ref 202, .int 152 0, .int 0 0, .ref 209, .int 163 0, .int 0 0, .ref 216, .int 167 0, .int 0 0, .ref 223, .int 181 0, .int 0 0, .ref 232, .int 191 0, .int 0 0, .ref 253, .int 193 0, .int 0 0, .ref 260, .int 199 0, .int 0 0, .ref 267, .int 202 0, .int 0 0, .ref 274, .int 205 0, .int 0 0, .ref 281, .int 211 0, .int 0 0, .ref 288, .int 215 0, .int 0 0, .ref 295, .int 227 0, .int 0 0, .ref 302, .int 238 0, .int 0 0, .ref 309, .int 249 0, .int 0 0, .ref 316, .int 260 0, .int 0 0, .ref 323, .int 284 0, .int 0 0, .ref 330, .int 288 0, .int 0 0, .ref 337, .int 290 0, .int 0 0, .ref 344, .int 303 0, .int 0 0, .ref 351, .int 308 0, .int 0 0, .ref 356, .int 313 0, .int 0 0, .ref 364, .int 324 0, .int 0 0, .ref 371, .int 332 0, .int 0 0, .ref 378, .int 376 0, .int 0 0, .ref 420, .int 394 0, .int 0 0, .ref 448, .int 401 0, .int 0 0, .ref 455, .int 442 0, .int 0 0, .ref 504, .int 453 0, .int 0 0, .ref 532, .int 462 0, .int 0 0, .ref 539, .int 474 0, .int 0 0, .ref 561, .int 480 0, .int 0 0, .ref 568, .int 498 0, .int 0 0, .ref 575]) #[]
noncomputable def o556 : Obj := .mk (.type "tuple") none (.seq #[] 0) #[]
noncomputable def o557 : Obj := .mk (.type "builtin_function_or_method") none (.fields #[.builtin "type.__prepare__", .type "type"]) #[]
noncomputable def o558 (P : Params) : Obj := .mk (.type "dict") none (.dict #[dE P "__module__" 980 (.str "f77.limits" 971), dE P "__qualname__" 982 (.str "Limits" 981), dE P "__firstlineno__" 984 (.int 462 983), dE P "__init__" 1007 (.ref 548), dE P "__static_attributes__" 1016 (.ref 549)] 5) #[]
noncomputable def o559 : Obj := .mk (.type "tuple") none (.seq #[] 0) #[]
noncomputable def o560 : Obj := .mk .none none (.fields #[.int 464 0, .int 4 0, .ref 547]) #[]
noncomputable def o561 : Obj := .mk (.type "code") none (.fields #[.str "Limits" 975, .str "Limits" 976, .str "/claim/cut.py" 977, .int 462 0, .int 0 0, .int 0 0, .int 0 0, .int 0 0, .ref 537, .bool false, .int 181 0, .ref 538, .none, .none, .none, .none, .int 978 0, .int 462 0, .str "/claim/cut.py" 979]) #[]
noncomputable def o562 : Obj := .mk (.type "frame") none .plain #[(some (.ref 539)), (some (.ref 3)), (some (.ref 536)), none, (some (.str "f77.limits" 971)), none, (some (.ref 0))]
noncomputable def o563 : Obj := .mk (.type "tuple") none (.seq #[.int 32 985, .int 7 986, .int 15 987, .int 38 988, .int 1000000 989, .int 19 990, .int 72 991, .int 40 992] 0) #[]
noncomputable def o564 : Obj := .mk (.type "tuple") none (.seq #[] 0) #[]
noncomputable def o565 : Obj := .mk .none none (.fields #[]) #[]
noncomputable def o566 : Obj := .mk (.type "tuple") none (.seq #[.str "self" 996, .str "width" 997, .str "real_digits" 998, .str "double_digits" 999, .str "top_exponent" 1000, .str "steps" 1001, .str "continuations" 1002, .str "columns" 1003, .str "depth" 1004] 0) #[]
noncomputable def o567 : Obj := .mk (.type "tuple") none (.seq #[] 0) #[]
noncomputable def o568 : Obj := .mk .none none (.func (FuncData.mk "__init__" "Limits.__init__" (fA (sub (st 68) 0)) (FuncBody.stmts (fB (sub (st 68) 0))) (fS (sub (st 68) 0)) 0 [] .none .none .none .none none .none .none 0)) #[]
noncomputable def o569 : Obj := .mk (.type "code") none (.fields #[.str "__init__" 993, .str "Limits.__init__" 994, .str "/claim/cut.py" 995, .int 464 0, .int 9 0, .int 0 0, .int 0 0, .int 3 0, .ref 542, .bool true, .int 181 0, .ref 543, .none, .ref 544, .ref 545, .ref 546, .int 1005 0, .int 464 0, .str "/claim/cut.py" 1006]) #[]
noncomputable def o570 : Obj := .mk (.type "function") none (.func (FuncData.mk "__init__" "Limits.__init__" (fA (sub (st 68) 0)) (FuncBody.stmts (fB (sub (st 68) 0))) (fS (sub (st 68) 0)) 3 [] (.ref 541) .none .none (.str "f77.limits" 971) none (.ref 547) .none 0)) #[]
noncomputable def o571 : Obj := .mk (.type "tuple") none (.seq #[.str "columns" 1008, .str "continuations" 1009, .str "depth" 1010, .str "double_digits" 1011, .str "real_digits" 1012, .str "steps" 1013, .str "top_exponent" 1014, .str "width" 1015] 0) #[]
noncomputable def o572 (P : Params) : Obj := .mk (.type "dict") none (.dict #[dE P "__module__" 980 (.str "f77.limits" 971), dE P "__firstlineno__" 984 (.int 462 983), dE P "__init__" 1007 (.ref 548), dE P "__static_attributes__" 1016 (.ref 549), dE P "__dict__" 1018 (.ref 552), dE P "__weakref__" 1020 (.ref 553), dE P "__doc__" 1021 .none] 4) #[]
noncomputable def o573 : Obj := .mk (.type "type") none (.cls (ClassData.mk "Limits" [.type "object"] [.ref 551, .type "object"] 550 "Limits" true [] [] false none false)) #[none, none, (some (.str "Limits" 973)), (some (.str "Limits" 981)), (some (.builtin "object.__new__")), (some (.bool true))]
noncomputable def o574 : Obj := .mk (.type "getset_descriptor") none (.fields #[.str "__dict__" 1017, .ref 551, .builtin "function.__dict__", .builtin "function.__dict__#set"]) #[]
noncomputable def o575 : Obj := .mk (.type "getset_descriptor") none (.fields #[.str "__weakref__" 1019, .ref 551, .builtin "ExceptionGroup.__weakref__", .none]) #[]
noncomputable def o576 : Obj := .mk (.type "super") none (.fields #[.ref 551, .ref 551, .ref 551]) #[]
noncomputable def o577 : Obj := .mk (.type "builtin_function_or_method") none (.fields #[.builtin "object.__init_subclass__", .ref 551]) #[]
noncomputable def o578 : Obj := .mk (.type "tuple") none (.seq #[] 0) #[]
noncomputable def o579 : Obj := .mk .none none (.fields #[]) #[]
noncomputable def o580 : Obj := .mk (.type "tuple") none (.seq #[.str "script" 1029, .str "spot" 1030, .str "limit" 1031, .str "n" 1032] 0) #[]
noncomputable def o581 : Obj := .mk (.type "tuple") none (.seq #[] 0) #[]
noncomputable def o582 : Obj := .mk .none none (.func (FuncData.mk "_law_take" "_law_take" (fA (st 70)) (FuncBody.stmts (fB (st 70))) (fS (st 70)) 0 [] .none .none .none .none none .none .none 0)) #[]
noncomputable def o583 : Obj := .mk (.type "code") none (.fields #[.str "_law_take" 1026, .str "_law_take" 1027, .str "/claim/cut.py" 1028, .int 474 0, .int 3 0, .int 0 0, .int 0 0, .int 3 0, .ref 556, .bool true, .int 181 0, .ref 557, .none, .ref 558, .ref 559, .ref 560, .int 1033 0, .int 474 0, .str "/claim/cut.py" 1034]) #[]
noncomputable def o584 : Obj := .mk (.type "function") none (.func (FuncData.mk "_law_take" "_law_take" (fA (st 70)) (FuncBody.stmts (fB (st 70))) (fS (st 70)) 3 [] .none .none .none (.str "law_no0277_01" 1024) none (.ref 561) .none 0)) #[]
noncomputable def o585 : Obj := .mk (.type "tuple") none (.seq #[] 0) #[]
noncomputable def o586 : Obj := .mk .none none (.fields #[]) #[]
noncomputable def o587 : Obj := .mk (.type "tuple") none (.seq #[.str "digits" 1039, .str "e" 1040, .str "many" 1041, .str "sign" 1042, .str "rest" 1043, .str "half" 1044, .str "m" 1045, .str "lead" 1046] 0) #[]
noncomputable def o588 : Obj := .mk (.type "tuple") none (.seq #[] 0) #[]
noncomputable def o589 : Obj := .mk .none none (.func (FuncData.mk "_law_rounded" "_law_rounded" (fA (st 71)) (FuncBody.stmts (fB (st 71))) (fS (st 71)) 0 [] .none .none .none .none none .none .none 0)) #[]
noncomputable def o590 : Obj := .mk (.type "code") none (.fields #[.str "_law_rounded" 1036, .str "_law_rounded" 1037, .str "/claim/cut.py" 1038, .int 480 0, .int 4 0, .int 0 0, .int 0 0, .int 3 0, .ref 563, .bool true, .int 181 0, .ref 564, .none, .ref 565, .ref 566, .ref 567, .int 1047 0, .int 480 0, .str "/claim/cut.py" 1048]) #[]
noncomputable def o591 : Obj := .mk (.type "function") none (.func (FuncData.mk "_law_rounded" "_law_rounded" (fA (st 71)) (FuncBody.stmts (fB (st 71))) (fS (st 71)) 3 [] .none .none .none (.str "law_no0277_01" 1024) none (.ref 568) .none 0)) #[]
noncomputable def o592 : Obj := .mk (.type "tuple") none (.seq #[] 0) #[]
noncomputable def o593 : Obj := .mk .none none (.fields #[]) #[]
noncomputable def o594 : Obj := .mk (.type "tuple") none (.seq #[.str "script" 1053, .str "spot" 1054, .str "kind" 1055, .str "digits" 1056, .str "at" 1057, .str "mark" 1058, .str "sign" 1059, .str "way" 1060, .str "power" 1061, .str "tail" 1062, .str "told" 1063, .str "text" 1064, .str "places" 1065, .str "code" 1066, .str "value" 1067] 0) #[]
noncomputable def o595 : Obj := .mk (.type "tuple") none (.seq #[] 0) #[]
noncomputable def o596 : Obj := .mk .none none (.func (FuncData.mk "_law_real" "_law_real" (fA (st 72)) (FuncBody.stmts (fB (st 72))) (fS (st 72)) 0 [] .none .none .none .none none .none .none 0)) #[]
noncomputable def o597 : Obj := .mk (.type "code") none (.fields #[.str "_law_real" 1050, .str "_law_real" 1051, .str "/claim/cut.py" 1052, .int 498 0, .int 3 0, .int 0 0, .int 0 0, .int 3 0, .ref 570, .bool true, .int 181 0, .ref 571, .none, .ref 572, .ref 573, .ref 574, .int 1068 0, .int 498 0, .str "/claim/cut.py" 1069]) #[]
noncomputable def o598 : Obj := .mk (.type "function") none (.func (FuncData.mk "_law_real" "_law_real" (fA (st 72)) (FuncBody.stmts (fB (st 72))) (fS (st 72)) 3 [] .none .none .none (.str "law_no0277_01" 1024) none (.ref 575) .none 0)) #[]
noncomputable def t14 (P : Params) : BT := (BN (boot_o_0 P) (BN (boot_o_1 P) (BN (o554 P) (BN (boot_o_7 P) (BN o7 (BN o66 (BN o61 (BN o133 (BN o265 (LF o531) BE) (LF o397)) (BN o199 (BN o331 (LF o597) BE) (LF o463))) (BN o99 (BN o165 (BN o299 (LF o565) BE) (LF o431)) (BN o231 (LF o363) (LF o497)))) (BN o45 (BN o80 (BN o149 (BN o281 (LF o547) BE) (LF o413)) (BN o215 (LF o347) (LF o481))) (BN o115 (BN o181 (BN o315 (LF o581) BE) (LF o447)) (BN o249 (LF o381) (LF o513))))) (BN o15 (BN o34 (BN o72 (BN o141 (BN o273 (LF o539) BE) (LF o405)) (BN o207 (LF o339) (LF o473))) (BN o107 (BN o173 (BN o307 (LF o573) BE) (LF o439)) (BN o241 (LF o371) (LF o505)))) (BN o53 (BN (o91 P) (BN o157 (BN o289 (LF o557) BE) (LF o421)) (BN o223 (LF o355) (LF o489))) (BN o125 (BN o189 (BN o323 (LF o589) BE) (LF o455)) (BN o257 (LF (o389 P)) (LF o523)))))) (BN o0 (BN o11 (BN o30 (BN o68 (BN o137 (BN o269 (LF o535) BE) (LF o401)) (BN o203 (LF o335) (LF o469))) (BN o103 (BN o169 (BN o303 (LF o569) BE) (LF o435)) (BN o237 (LF o367) (LF o501)))) (BN o49 (BN o84 (BN o153 (BN o285 (LF o551) BE) (LF o417)) (BN o219 (LF o351) (LF o485))) (BN o121 (BN o185 (BN o319 (LF o585) BE) (LF o451)) (BN o253 (LF o385) (LF o519))))) (BN o19 (BN (o38 P) (BN o76 (BN o145 (BN o277 (LF o543) BE) (LF o409)) (BN o211 (LF o343) (LF o477))) (BN o111 (BN o177 (BN o311 (LF o577) BE) (LF o443)) (BN o245 (LF o375) (LF o509)))) (BN o57 (BN o95 (BN o161 (BN o295 (LF o561) BE) (LF o425)) (BN o227 (LF o359) (LF o493))) (BN o129 (BN o193 (BN o327 (LF o593) BE) (LF o459)) (BN o261 (LF o393) (LF o527))))))) (BN (boot_o_5 P) (BN (boot_o_9 P) (BN (o9 P) (BN o25 (BN o63 (BN o135 (BN o267 (LF o533) BE) (LF o399)) (BN o201 (LF o333) (LF o465))) (BN o101 (BN o167 (BN o301 (LF o567) BE) (LF (o433 P))) (BN o233 (LF o365) (LF o499)))) (BN (o47 P) (BN (o82 P) (BN o151 (BN o283 (LF o549) BE) (LF o415)) (BN o217 (LF o349) (LF o483))) (BN o119 (BN o183 (BN o317 (LF o583) BE) (LF o449)) (BN o251 (LF o383) (LF o515))))) (BN o17 (BN o36 (BN o74 (BN o143 (BN o275 (LF (o541 P)) BE) (LF o407)) (BN o209 (LF o341) (LF o475))) (BN o109 (BN o175 (BN o309 (LF o575) BE) (LF o441)) (BN o243 (LF o373) (LF o507)))) (BN o55 (BN o93 (BN o159 (BN o291 (LF o559) BE) (LF (o423 P))) (BN o225 (LF o357) (LF o491))) (BN o127 (BN o191 (BN o325 (LF o591) BE) (LF o457)) (BN o259 (LF o391) (LF o525)))))) (BN o2 (BN o13 (BN (o32 P) (BN o70 (BN o139 (BN o271 (LF o537) BE) (LF o403)) (BN o205 (LF o337) (LF o471))) (BN o105 (BN o171 (BN o305 (LF o571) BE) (LF o437)) (BN (o239 P) (LF o369) (LF o503)))) (BN o51 (BN o89 (BN o155 (BN o287 (LF o553) BE) (LF o419)) (BN o221 (LF o353) (LF o487))) (BN o123 (BN o187 (BN o321 (LF o587) BE) (LF (o453 P))) (BN o255 (LF o387) (LF (o521 P)))))) (BN o21 (BN o40 (BN o78 (BN o147 (BN o279 (LF o545) BE) (LF o411)) (BN o213 (LF o345) (LF o479))) (BN o113 (BN o179 (BN o313 (LF o579) BE) (LF o445)) (BN o247 (LF o377) (LF (o511 P))))) (BN o59 (BN o97 (BN o163 (BN o297 (LF o563) BE) (LF o427)) (BN o229 (LF o361) (LF o495))) (BN o131 (BN o195 (BN o329 (LF o595) BE) (LF o461)) (BN o263 (LF o395) (LF o529)))))))) (BN (o4 P) (BN (boot_o_4 P) (BN (boot_o_8 P) (BN o8 (BN o24 (BN o62 (BN o134 (BN o266 (LF o532) BE) (LF o398)) (BN o200 (BN o332 (LF o598) BE) (LF o464))) (BN o100 (BN o166 (BN o300 (LF o566) BE) (LF o432)) (BN o232 (LF o364) (LF o498)))) (BN o46 (BN o81 (BN o150 (BN o282 (LF o548) BE) (LF o414)) (BN o216 (LF o348) (LF o482))) (BN o118 (BN o182 (BN o316 (LF o582) BE) (LF o448)) (BN o250 (LF o382) (LF o514))))) (BN o16 (BN o35 (BN o73 (BN o142 (BN o274 (LF o540) BE) (LF o406)) (BN o208 (LF o340) (LF o474))) (BN o108 (BN o174 (BN o308 (LF o574) BE) (LF o440)) (BN o242 (LF o372) (LF o506)))) (BN o54 (BN o92 (BN o158 (BN o290 (LF (o558 P)) BE) (LF o422)) (BN o224 (LF o356) (LF o490))) (BN o126 (BN o190 (BN o324 (LF o590) BE) (LF o456)) (BN o258 (LF o390) (LF o524)))))) (BN o555 (BN o12 (BN o31 (BN (o69 P) (BN o138 (BN o270 (LF o536) BE) (LF o402)) (BN o204 (LF o336) (LF (o470 P)))) (BN (o104 P) (BN o170 (BN o304 (LF o570) BE) (LF o436)) (BN o238 (LF o368) (LF o502)))) (BN o50 (BN o85 (BN o154 (BN o286 (LF o552) BE) (LF o418)) (BN o220 (LF o352) (LF o486))) (BN o122 (BN o186 (BN o320 (LF o586) BE) (LF o452)) (BN o254 (LF o386) (LF o520))))) (BN o20 (BN o39 (BN o77 (BN o146 (BN o278 (LF o544) BE) (LF o410)) (BN o212 (LF o344) (LF o478))) (BN o112 (BN o178 (BN o312 (LF o578) BE) (LF o444)) (BN o246 (LF o376) (LF o510)))) (BN o58 (BN o96 (BN o162 (BN o296 (LF o562) BE) (LF o426)) (BN o228 (LF o360) (LF o494))) (BN o130 (BN o194 (BN o328 (LF o594) BE) (LF o460)) (BN o262 (LF o394) (LF o528))))))) (BN (boot_o_6 P) (BN (boot_o_10 P) (BN o10 (BN o26 (BN o67 (BN o136 (BN o268 (LF o534) BE) (LF o400)) (BN o202 (LF o334) (LF o468))) (BN o102 (BN o168 (BN o302 (LF o568) BE) (LF o434)) (BN o234 (LF o366) (LF o500)))) (BN o48 (BN o88 (BN o152 (BN o284 (LF o550) BE) (LF o416)) (BN o218 (LF o350) (LF o484))) (BN o120 (BN o184 (BN o318 (LF o584) BE) (LF o450)) (BN (o252 P) (LF o384) (LF o516))))) (BN o18 (BN o37 (BN o75 (BN o144 (BN o276 (LF o542) BE) (LF o408)) (BN o210 (LF o342) (LF o476))) (BN o110 (BN o176 (BN o310 (LF o576) BE) (LF o442)) (BN o244 (LF o374) (LF o508)))) (BN o56 (BN o94 (BN o160 (BN o292 (LF o560) BE) (LF o424)) (BN o226 (LF o358) (LF o492))) (BN o128 (BN o192 (BN o326 (LF o592) BE) (LF o458)) (BN o260 (LF o392) (LF o526)))))) (BN o3 (BN o14 (BN o33 (BN o71 (BN o140 (BN o272 (LF o538) BE) (LF o404)) (BN o206 (LF o338) (LF o472))) (BN o106 (BN o172 (BN o306 (LF (o572 P)) BE) (LF o438)) (BN o240 (LF o370) (LF o504)))) (BN o52 (BN o90 (BN o156 (BN o288 (LF o556) BE) (LF o420)) (BN o222 (LF o354) (LF o488))) (BN o124 (BN o188 (BN o322 (LF o588) BE) (LF o454)) (BN o256 (LF o388) (LF o522))))) (BN (o22 P) (BN o41 (BN o79 (BN o148 (BN o280 (LF o546) BE) (LF o412)) (BN o214 (LF o346) (LF o480))) (BN o114 (BN o180 (BN o314 (LF o580) BE) (LF o446)) (BN o248 (LF o380) (LF o512)))) (BN (o60 P) (BN o98 (BN o164 (BN o298 (LF o564) BE) (LF o428)) (BN o230 (LF o362) (LF o496))) (BN o132 (BN o198 (BN o330 (LF o596) BE) (LF o462)) (BN o264 (LF o396) (LF o530)))))))))
noncomputable abbrev S14 (w : World) (os : OsState) : SharedT := SharedT.mk (t14 w.params) (nat_lit 577) (Life.mk [] [] [] 0 [] [] false #[] [] 0 false false false 0 [2000, 10, 10] false 0 true [] [] 0 false) #[] (Drawn.mk 0 0 0 0) (nat_lit 1071) os
noncomputable abbrev sts14 : List Stmt := [st 68, st 69, st 70, st 71, st 72]
theorem pc14 (w : World) : (fun os => segRunT treeTable pg w m0 ann 1 (nat_lit 366) (S13 w os) (piecesOf sts14 env cE (Pos.mk 461 0 461 8) fE)) = fun os => some (Flow.next, S14 w os, cE, (Pos.mk 498 0 518 30)) := by (try rewrite [Fast.te10110043849684766642]); (try rewrite [Fast.te14364793385576792824]); kernel_rfl
noncomputable def o599 (P : Params) : Obj := .mk (.type "dict") none (.dict #[dE P "__name__" 165 (.str "law_no0277_01" 1024), dE P "__doc__" 166 .none, dE P "__package__" 167 .none, dE P "__loader__" 168 (.builtin "__main__.__loader__#opaque"), dE P "__spec__" 169 .none, dE P "__annotations__" 170 (.ref 6), dE P "__builtins__" 171 (.ref 4), dE P "__file__" 173 (.str "/claim/cut.py" 172), dE P "__cached__" 174 .none, dE P "F77Error" 217 (.ref 31), dE P "RunFault" 233 (.ref 44), dE P "FormatFault" 259 (.ref 63), dE P "IoFault" 285 (.ref 82), dE P "EndFault" 309 (.ref 101), dE P "INTEGER" 311 (.int 0 310), dE P "REAL" 313 (.int 1 312), dE P "DOUBLE" 315 (.int 2 314), dE P "COMPLEX" 317 (.int 3 316), dE P "LOGICAL" 319 (.int 4 318), dE P "CHARACTER" 321 (.int 5 320), dE P "NOUGHT" 326 (.ref 104), dE P "FIGURES" 328 (.str "0123456789" 327), dE P "count_digits" 336 (.ref 111), dE P "strip_zeros" 344 (.ref 118), dE P "round_digits" 357 (.ref 125), dE P "round_real" 368 (.ref 132), dE P "digits_of" 376 (.ref 139), dE P "BAD_FIELD" 380 (.int 1 379), dE P "TOO_GREAT" 382 (.int 2 381), dE P "WRONG_KIND" 384 (.int 3 383), dE P "REAL_WORDS" 389 (.ref 140), dE P "solid_field" 399 (.ref 147), dE P "whole_of" 409 (.ref 154), dE P "cut_sign" 416 (.ref 161), dE P "in_width" 425 (.ref 168), dE P "read_int" 438 (.ref 175), dE P "cut_exponent" 446 (.ref 182), dE P "field_exponent" 456 (.ref 189), dE P "read_figures" 468 (.ref 196), dE P "read_real" 489 (.ref 203), dE P "read_logical" 497 (.ref 210), dE P "read_text" 505 (.ref 217), dE P "read_value" 519 (.ref 224), dE P "SEPARATORS" 526 (.ref 225), dE P "PART_ENDS" 532 (.ref 226), dE P "ListReader" 567 (.ref 243), dE P "sign_here" 574 (.ref 254), dE P "step_on" 581 (.ref 261), dE P "skip_blanks" 588 (.ref 268), dE P "skip_gaps" 595 (.ref 275), dE P "take_run" 604 (.ref 282), dE P "take_sign" 612 (.ref 289), dE P "take_repeat" 622 (.ref 296), dE P "take_quoted" 631 (.ref 303), dE P "take_pair" 640 (.ref 310), dE P "take_constant" 649 (.ref 317), dE P "next_constant" 656 (.ref 324), dE P "part_real" 665 (.ref 331), dE P "fitted_text" 673 (.ref 338), dE P "value_of" 684 (.ref 345), dE P "read_item" 695 (.ref 352), dE P "read_list" 701 (.ref 357), dE P "DATA_WORDS" 711 (.ref 358), dE P "add_flat" 723 (.ref 365), dE P "flat_of" 733 (.ref 372), dE P "FormatControl" 791 (.ref 410), dE P "FormatModes" 831 (.ref 438), dE P "moved" 840 (.ref 449), dE P "FormatReader" 916 (.ref 494), dE P "ListSource" 953 (.ref 522), dE P "read_records" 970 (.ref 533), dE P "Limits" 1023 (.ref 551), dE P "_law_take" 1035 (.ref 562), dE P "_law_rounded" 1049 (.ref 569), dE P "_law_real" 1070 (.ref 576), dE P "_law_constant" 1085 (.ref 583), dE P "_law_by_format" 1097 (.ref 590), dE P "_law_by_list" 1106 (.ref 597), dE P "law" 1127 (.ref 604)] 79) #[]
noncomputable def o600 : Obj := .mk .none none (.fields #[.int 2 0, .int 0 0, .ref 20, .int 7 0, .int 0 0, .ref 40, .int 9 0, .int 0 0, .ref 52, .int 14 0, .int 0 0, .ref 71, .int 19 0, .int 0 0, .ref 90, .int 32 0, .int 0 0, .ref 110, .int 42 0, .int 0 0, .ref 117, .int 49 0, .int 0 0, .ref 124, .int 59 0, .int 0 0, .ref 131, .int 67 0, .int 0 0, .ref 138, .int 74 0, .int 0 0, .ref 146, .int 82 0, .int 0 0, .ref 153, .int 92 0, .int 0 0, .ref 160, .int 98 0, .int 0 0, .ref 167, .int 101 0, .int 0 0, .ref 174, .int 112 0, .int 0 0, .ref 181, .int 119 0, .int 0 0, .ref 188, .int 125 0, .int 0 0, .ref 195, .int 137 0, .int 0 0, .ref 202, .int 152 0, .int 0 0, .ref 209, .int 163 0, .int 0 0, .ref 216, .int 167 0, .int 0 0, .ref 223, .int 181 0, .int 0 0, .ref 232, .int 191 0, .int 0 0, .ref 253, .int 193 0, .int 0 0, .ref 260, .int 199 0, .int 0 0, .ref 267, .int 202 0, .int 0 0, .ref 274, .int 205 0, .int 0 0, .ref 281, .int 211 0, .int 0 0, .ref 288, .int 215 0, .int 0 0, .ref 295, .int 227 0, .int 0 0, .ref 302, .int 238 0, .int 0 0, .ref 309, .int 249 0, .int 0 0, .ref 316, .int 260 0, .int 0 0, .ref 323, .int 284 0, .int 0 0, .ref 330, .int 288 0, .int 0 0, .ref 337, .int 290 0, .int 0 0, .ref 344, .int 303 0, .int 0 0, .ref 351, .int 308 0, .int 0 0, .ref 356, .int 313 0, .int 0 0, .ref 364, .int 324 0, .int 0 0, .ref 371, .int 332 0, .int 0 0, .ref 378, .int 376 0, .int 0 0, .ref 420, .int 394 0, .int 0 0, .ref 448, .int 401 0, .int 0 0, .ref 455, .int 442 0, .int 0 0, .ref 504, .int 453 0, .int 0 0, .ref 532, .int 462 0, .int 0 0, .ref 539, .int 474 0, .int 0 0, .ref 561, .int 480 0, .int 0 0, .ref 568, .int 498 0, .int 0 0, .ref 575, .int 519 0, .int 0 0, .ref 582, .int 533 0, .int 0 0, .ref 589, .int 539 0, .int 0 0, .ref 596, .int 544 0, .int 0 0, .ref 603]) #[]
noncomputable def o601 : Obj := .mk (.type "tuple") none (.seq #[] 0) #[]
noncomputable def o602 : Obj := .mk .none none (.fields #[]) #[]
noncomputable def o603 : Obj := .mk (.type "tuple") none (.seq #[.str "script" 1074, .str "spot" 1075, .str "kind" 1076, .str "bad" 1077, .str "number" 1078, .str "mark" 1079, .str "value" 1080, .str "text" 1081, .str "way" 1082] 0) #[]
noncomputable def o604 : Obj := .mk (.type "tuple") none (.seq #[] 0) #[]
noncomputable def o605 : Obj := .mk .none none (.func (FuncData.mk "_law_constant" "_law_constant" (fA (st 73)) (FuncBody.stmts (fB (st 73))) (fS (st 73)) 0 [] .none .none .none .none none .none .none 0)) #[]
noncomputable def o606 : Obj := .mk (.type "code") none (.fields #[.str "_law_constant" 1071, .str "_law_constant" 1072, .str "/claim/cut.py" 1073, .int 519 0, .int 3 0, .int 0 0, .int 0 0, .int 3 0, .ref 577, .bool true, .int 181 0, .ref 578, .none, .ref 579, .ref 580, .ref 581, .int 1083 0, .int 519 0, .str "/claim/cut.py" 1084]) #[]
noncomputable def o607 : Obj := .mk (.type "function") none (.func (FuncData.mk "_law_constant" "_law_constant" (fA (st 73)) (FuncBody.stmts (fB (st 73))) (fS (st 73)) 3 [] .none .none .none (.str "law_no0277_01" 1024) none (.ref 582) .none 0)) #[]
noncomputable def o608 : Obj := .mk (.type "tuple") none (.seq #[] 0) #[]
noncomputable def o609 : Obj := .mk .none none (.fields #[]) #[]
noncomputable def o610 : Obj := .mk (.type "tuple") none (.seq #[.str "tree" 1089, .str "records" 1090, .str "wanted" 1091, .str "found" 1092, .str "used" 1093, .str "fault" 1094] 0) #[]
noncomputable def o611 : Obj := .mk (.type "tuple") none (.seq #[] 0) #[]
noncomputable def o612 : Obj := .mk .none none (.func (FuncData.mk "_law_by_format" "_law_by_format" (fA (st 74)) (FuncBody.stmts (fB (st 74))) (fS (st 74)) 0 [] .none .none .none .none none .none .none 0)) #[]
noncomputable def o613 : Obj := .mk (.type "code") none (.fields #[.str "_law_by_format" 1086, .str "_law_by_format" 1087, .str "/claim/cut.py" 1088, .int 533 0, .int 3 0, .int 0 0, .int 0 0, .int 3 0, .ref 584, .bool true, .int 181 0, .ref 585, .none, .ref 586, .ref 587, .ref 588, .int 1095 0, .int 533 0, .str "/claim/cut.py" 1096]) #[]
noncomputable def o614 : Obj := .mk (.type "function") none (.func (FuncData.mk "_law_by_format" "_law_by_format" (fA (st 74)) (FuncBody.stmts (fB (st 74))) (fS (st 74)) 3 [] .none .none .none (.str "law_no0277_01" 1024) none (.ref 589) .none 0)) #[]
noncomputable def o615 : Obj := .mk (.type "tuple") none (.seq #[] 0) #[]
noncomputable def o616 : Obj := .mk .none none (.fields #[]) #[]
noncomputable def o617 : Obj := .mk (.type "tuple") none (.seq #[.str "records" 1101, .str "wanted" 1102, .str "fault" 1103] 0) #[]
noncomputable def o618 : Obj := .mk (.type "tuple") none (.seq #[] 0) #[]
noncomputable def o619 : Obj := .mk .none none (.func (FuncData.mk "_law_by_list" "_law_by_list" (fA (st 75)) (FuncBody.stmts (fB (st 75))) (fS (st 75)) 0 [] .none .none .none .none none .none .none 0)) #[]
noncomputable def o620 : Obj := .mk (.type "code") none (.fields #[.str "_law_by_list" 1098, .str "_law_by_list" 1099, .str "/claim/cut.py" 1100, .int 539 0, .int 2 0, .int 0 0, .int 0 0, .int 3 0, .ref 591, .bool true, .int 181 0, .ref 592, .none, .ref 593, .ref 594, .ref 595, .int 1104 0, .int 539 0, .str "/claim/cut.py" 1105]) #[]
noncomputable def o621 : Obj := .mk (.type "function") none (.func (FuncData.mk "_law_by_list" "_law_by_list" (fA (st 75)) (FuncBody.stmts (fB (st 75))) (fS (st 75)) 3 [] .none .none .none (.str "law_no0277_01" 1024) none (.ref 596) .none 0)) #[]
noncomputable def o622 : Obj := .mk (.type "tuple") none (.seq #[] 0) #[]
noncomputable def o623 : Obj := .mk .none none (.fields #[]) #[]
noncomputable def o624 : Obj := .mk (.type "tuple") none (.seq #[.str "script" 1110, .str "spot" 1111, .str "tree" 1112, .str "records" 1113, .str "wanted" 1114, .str "due" 1115, .str "code" 1116, .str "r" 1117, .str "row" 1118, .str "k" 1119, .str "kind" 1120, .str "text" 1121, .str "fell" 1122, .str "value" 1123, .str "answer" 1124] 0) #[]
noncomputable def o625 : Obj := .mk (.type "tuple") none (.seq #[] 0) #[]
noncomputable def o626 : Obj := .mk .none none (.func (FuncData.mk "law" "law" (fA (st 76)) (FuncBody.stmts (fB (st 76))) (fS (st 76)) 0 [] .none .none .none .none none .none .none 0)) #[]
noncomputable def o627 : Obj := .mk (.type "code") none (.fields #[.str "law" 1107, .str "law" 1108, .str "/claim/cut.py" 1109, .int 544 0, .int 1 0, .int 0 0, .int 0 0, .int 3 0, .ref 598, .bool true, .int 181 0, .ref 599, .none, .ref 600, .ref 601, .ref 602, .int 1125 0, .int 544 0, .str "/claim/cut.py" 1126]) #[]
noncomputable def o628 : Obj := .mk (.type "function") none (.func (FuncData.mk "law" "law" (fA (st 76)) (FuncBody.stmts (fB (st 76))) (fS (st 76)) 3 [] .none .none .none (.str "law_no0277_01" 1024) none (.ref 603) .none 0)) #[]
noncomputable def t15 (P : Params) : BT := (BN (boot_o_0 P) (BN (boot_o_1 P) (BN (o599 P) (BN (boot_o_7 P) (BN o7 (BN o66 (BN o61 (BN o133 (BN o265 (LF o531) BE) (LF o397)) (BN o199 (BN o331 (LF o597) BE) (LF o463))) (BN o99 (BN o165 (BN o299 (LF o565) BE) (LF o431)) (BN o231 (LF o363) (LF o497)))) (BN o45 (BN o80 (BN o149 (BN o281 (LF o547) BE) (LF o413)) (BN o215 (BN o347 (LF o615) BE) (LF o481))) (BN o115 (BN o181 (BN o315 (LF o581) BE) (LF o447)) (BN o249 (LF o381) (LF o513))))) (BN o15 (BN o34 (BN o72 (BN o141 (BN o273 (LF o539) BE) (LF o405)) (BN o207 (BN o339 (LF o607) BE) (LF o473))) (BN o107 (BN o173 (BN o307 (LF o573) BE) (LF o439)) (BN o241 (LF o371) (LF o505)))) (BN o53 (BN (o91 P) (BN o157 (BN o289 (LF o557) BE) (LF o421)) (BN o223 (BN o355 (LF o623) BE) (LF o489))) (BN o125 (BN o189 (BN o323 (LF o589) BE) (LF o455)) (BN o257 (LF (o389 P)) (LF o523)))))) (BN o0 (BN o11 (BN o30 (BN o68 (BN o137 (BN o269 (LF o535) BE) (LF o401)) (BN o203 (BN o335 (LF o603) BE) (LF o469))) (BN o103 (BN o169 (BN o303 (LF o569) BE) (LF o435)) (BN o237 (LF o367) (LF o501)))) (BN o49 (BN o84 (BN o153 (BN o285 (LF o551) BE) (LF o417)) (BN o219 (BN o351 (LF o619) BE) (LF o485))) (BN o121 (BN o185 (BN o319 (LF o585) BE) (LF o451)) (BN o253 (LF o385) (LF o519))))) (BN o19 (BN (o38 P) (BN o76 (BN o145 (BN o277 (LF o543) BE) (LF o409)) (BN o211 (BN o343 (LF o611) BE) (LF o477))) (BN o111 (BN o177 (BN o311 (LF o577) BE) (LF o443)) (BN o245 (LF o375) (LF o509)))) (BN o57 (BN o95 (BN o161 (BN o295 (LF o561) BE) (LF o425)) (BN o227 (BN o359 (LF o627) BE) (LF o493))) (BN o129 (BN o193 (BN o327 (LF o593) BE) (LF o459)) (BN o261 (LF o393) (LF o527))))))) (BN (boot_o_5 P) (BN (boot_o_9 P) (BN (o9 P) (BN o25 (BN o63 (BN o135 (BN o267 (LF o533) BE) (LF o399)) (BN o201 (BN o333 (LF o601) BE) (LF o465))) (BN o101 (BN o167 (BN o301 (LF o567) BE) (LF (o433 P))) (BN o233 (LF o365) (LF o499)))) (BN (o47 P) (BN (o82 P) (BN o151 (BN o283 (LF o549) BE) (LF o415)) (BN o217 (BN o349 (LF o617) BE) (LF o483))) (BN o119 (BN o183 (BN o317 (LF o583) BE) (LF o449)) (BN o251 (LF o383) (LF o515))))) (BN o17 (BN o36 (BN o74 (BN o143 (BN o275 (LF (o541 P)) BE) (LF o407)) (BN o209 (BN o341 (LF o609) BE) (LF o475))) (BN o109 (BN o175 (BN o309 (LF o575) BE) (LF o441)) (BN o243 (LF o373) (LF o507)))) (BN o55 (BN o93 (BN o159 (BN o291 (LF o559) BE) (LF (o423 P))) (BN o225 (BN o357 (LF o625) BE) (LF o491))) (BN o127 (BN o191 (BN o325 (LF o591) BE) (LF o457)) (BN o259 (LF o391) (LF o525)))))) (BN o2 (BN o13 (BN (o32 P) (BN o70 (BN o139 (BN o271 (LF o537) BE) (LF o403)) (BN o205 (BN o337 (LF o605) BE) (LF o471))) (BN o105 (BN o171 (BN o305 (LF o571) BE) (LF o437)) (BN (o239 P) (LF o369) (LF o503)))) (BN o51 (BN o89 (BN o155 (BN o287 (LF o553) BE) (LF o419)) (BN o221 (BN o353 (LF o621) BE) (LF o487))) (BN o123 (BN o187 (BN o321 (LF o587) BE) (LF (o453 P))) (BN o255 (LF o387) (LF (o521 P)))))) (BN o21 (BN o40 (BN o78 (BN o147 (BN o279 (LF o545) BE) (LF o411)) (BN o213 (BN o345 (LF o613) BE) (LF o479))) (BN o113 (BN o179 (BN o313 (LF o579) BE) (LF o445)) (BN o247 (LF o377) (LF (o511 P))))) (BN o59 (BN o97 (BN o163 (BN o297 (LF o563) BE) (LF o427)) (BN o229 (LF o361) (LF o495))) (BN o131 (BN o195 (BN o329 (LF o595) BE) (LF o461)) (BN o263 (LF o395) (LF o529)))))))) (BN (o4 P) (BN (boot_o_4 P) (BN (boot_o_8 P) (BN o8 (BN o24 (BN o62 (BN o134 (BN o266 (LF o532) BE) (LF o398)) (BN o200 (BN o332 (LF o598) BE) (LF o464))) (BN o100 (BN o166 (BN o300 (LF o566) BE) (LF o432)) (BN o232 (LF o364) (LF o498)))) (BN o46 (BN o81 (BN o150 (BN o282 (LF o548) BE) (LF o414)) (BN o216 (BN o348 (LF o616) BE) (LF o482))) (BN o118 (BN o182 (BN o316 (LF o582) BE) (LF o448)) (BN o250 (LF o382) (LF o514))))) (BN o16 (BN o35 (BN o73 (BN o142 (BN o274 (LF o540) BE) (LF o406)) (BN o208 (BN o340 (LF o608) BE) (LF o474))) (BN o108 (BN o174 (BN o308 (LF o574) BE) (LF o440)) (BN o242 (LF o372) (LF o506)))) (BN o54 (BN o92 (BN o158 (BN o290 (LF (o558 P)) BE) (LF o422)) (BN o224 (BN o356 (LF o624) BE) (LF o490))) (BN o126 (BN o190 (BN o324 (LF o590) BE) (LF o456)) (BN o258 (LF o390) (LF o524)))))) (BN o600 (BN o12 (BN o31 (BN (o69 P) (BN o138 (BN o270 (LF o536) BE) (LF o402)) (BN o204 (BN o336 (LF o604) BE) (LF (o470 P)))) (BN (o104 P) (BN o170 (BN o304 (LF o570) BE) (LF o436)) (BN o238 (LF o368) (LF o502)))) (BN o50 (BN o85 (BN o154 (BN o286 (LF o552) BE) (LF o418)) (BN o220 (BN o352 (LF o620) BE) (LF o486))) (BN o122 (BN o186 (BN o320 (LF o586) BE) (LF o452)) (BN o254 (LF o386) (LF o520))))) (BN o20 (BN o39 (BN o77 (BN o146 (BN o278 (LF o544) BE) (LF o410)) (BN o212 (BN o344 (LF o612) BE) (LF o478))) (BN o112 (BN o178 (BN o312 (LF o578) BE) (LF o444)) (BN o246 (LF o376) (LF o510)))) (BN o58 (BN o96 (BN o162 (BN o296 (LF o562) BE) (LF o426)) (BN o228 (BN o360 (LF o628) BE) (LF o494))) (BN o130 (BN o194 (BN o328 (LF o594) BE) (LF o460)) (BN o262 (LF o394) (LF o528))))))) (BN (boot_o_6 P) (BN (boot_o_10 P) (BN o10 (BN o26 (BN o67 (BN o136 (BN o268 (LF o534) BE) (LF o400)) (BN o202 (BN o334 (LF o602) BE) (LF o468))) (BN o102 (BN o168 (BN o302 (LF o568) BE) (LF o434)) (BN o234 (LF o366) (LF o500)))) (BN o48 (BN o88 (BN o152 (BN o284 (LF o550) BE) (LF o416)) (BN o218 (BN o350 (LF o618) BE) (LF o484))) (BN o120 (BN o184 (BN o318 (LF o584) BE) (LF o450)) (BN (o252 P) (LF o384) (LF o516))))) (BN o18 (BN o37 (BN o75 (BN o144 (BN o276 (LF o542) BE) (LF o408)) (BN o210 (BN o342 (LF o610) BE) (LF o476))) (BN o110 (BN o176 (BN o310 (LF o576) BE) (LF o442)) (BN o244 (LF o374) (LF o508)))) (BN o56 (BN o94 (BN o160 (BN o292 (LF o560) BE) (LF o424)) (BN o226 (BN o358 (LF o626) BE) (LF o492))) (BN o128 (BN o192 (BN o326 (LF o592) BE) (LF o458)) (BN o260 (LF o392) (LF o526)))))) (BN o3 (BN o14 (BN o33 (BN o71 (BN o140 (BN o272 (LF o538) BE) (LF o404)) (BN o206 (BN o338 (LF o606) BE) (LF o472))) (BN o106 (BN o172 (BN o306 (LF (o572 P)) BE) (LF o438)) (BN o240 (LF o370) (LF o504)))) (BN o52 (BN o90 (BN o156 (BN o288 (LF o556) BE) (LF o420)) (BN o222 (BN o354 (LF o622) BE) (LF o488))) (BN o124 (BN o188 (BN o322 (LF o588) BE) (LF o454)) (BN o256 (LF o388) (LF o522))))) (BN (o22 P) (BN o41 (BN o79 (BN o148 (BN o280 (LF o546) BE) (LF o412)) (BN o214 (BN o346 (LF o614) BE) (LF o480))) (BN o114 (BN o180 (BN o314 (LF o580) BE) (LF o446)) (BN o248 (LF o380) (LF o512)))) (BN (o60 P) (BN o98 (BN o164 (BN o298 (LF o564) BE) (LF o428)) (BN o230 (LF o362) (LF o496))) (BN o132 (BN o198 (BN o330 (LF o596) BE) (LF o462)) (BN o264 (LF o396) (LF o530)))))))))
noncomputable abbrev S15 (w : World) (os : OsState) : SharedT := SharedT.mk (t15 w.params) (nat_lit 605) (Life.mk [] [] [] 0 [] [] false #[] [] 0 false false false 0 [2000, 10, 10] false 0 true [] [] 0 false) #[] (Drawn.mk 0 0 0 0) (nat_lit 1128) os
noncomputable abbrev sts15 : List Stmt := [st 73, st 74, st 75, st 76]
theorem pc15 (w : World) : (fun os => segRunT treeTable pg w m0 ann 1 (nat_lit 146) (S14 w os) (piecesOf sts15 env cE (Pos.mk 498 0 518 30) fE)) = fun os => some (Flow.next, S15 w os, cE, (Pos.mk 544 0 572 102)) := by (try rewrite [Fast.te10110043849684766642]); (try rewrite [Fast.te14364793385576792824]); kernel_rfl
noncomputable def H1 (P : Params) : Heap := Heap.mk (Array.mk [boot_o_0 P, boot_o_1 P, o4 P, o599 P, boot_o_4 P, boot_o_5 P, boot_o_6 P, boot_o_7 P, boot_o_8 P, boot_o_9 P, boot_o_10 P, o0, o600, o2, o3, o7, o8, o9 P, o10, o11, o12, o13, o14, o15, o16, o17, o18, o19, o20, o21, o22 P, o66, o24, o25, o26, o30, o31, o32 P, o33, o34, o35, o36, o37, o38 P, o39, o40, o41, o45, o46, o47 P, o48, o49, o50, o51, o52, o53, o54, o55, o56, o57, o58, o59, o60 P, o61, o62, o63, o67, o68, o69 P, o70, o71, o72, o73, o74, o75, o76, o77, o78, o79, o80, o81, o82 P, o88, o84, o85, o89, o90, o91 P, o92, o93, o94, o95, o96, o97, o98, o99, o100, o101, o102, o103, o104 P, o105, o106, o107, o108, o109, o110, o111, o112, o113, o114, o115, o118, o119, o120, o121, o122, o123, o124, o125, o126, o127, o128, o129, o130, o131, o132, o133, o134, o135, o136, o137, o138, o139, o140, o141, o142, o143, o144, o145, o146, o147, o148, o149, o150, o151, o152, o153, o154, o155, o156, o157, o158, o159, o160, o161, o162, o163, o164, o165, o166, o167, o168, o169, o170, o171, o172, o173, o174, o175, o176, o177, o178, o179, o180, o181, o182, o183, o184, o185, o186, o187, o188, o189, o190, o191, o192, o193, o194, o195, o198, o199, o200, o201, o202, o203, o204, o205, o206, o207, o208, o209, o210, o211, o212, o213, o214, o215, o216, o217, o218, o219, o220, o221, o222, o223, o224, o225, o226, o227, o228, o229, o230, o231, o232, o233, o234, o237, o238, o239 P, o240, o241, o242, o243, o244, o245, o246, o247, o248, o249, o250, o251, o252 P, o253, o254, o255, o256, o257, o258, o259, o260, o261, o262, o263, o264, o265, o266, o267, o268, o269, o270, o271, o272, o273, o274, o275, o276, o277, o278, o279, o280, o281, o282, o283, o284, o285, o286, o287, o288, o289, o290, o291, o292, o295, o296, o297, o298, o299, o300, o301, o302, o303, o304, o305, o306, o307, o308, o309, o310, o311, o312, o313, o314, o315, o316, o317, o318, o319, o320, o321, o322, o323, o324, o325, o326, o327, o328, o329, o330, o331, o332, o333, o334, o335, o336, o337, o338, o339, o340, o341, o342, o343, o344, o345, o346, o347, o348, o349, o350, o351, o352, o353, o354, o355, o356, o357, o358, o359, o360, o361, o362, o363, o364, o365, o366, o367, o368, o369, o370, o371, o372, o373, o374, o375, o376, o377, o380, o381, o382, o383, o384, o385, o386, o387, o388, o389 P, o390, o391, o392, o393, o394, o395, o396, o397, o398, o399, o400, o401, o402, o403, o404, o405, o406, o407, o408, o409, o410, o411, o412, o413, o414, o415, o416, o417, o418, o419, o420, o421, o422, o423 P, o424, o425, o426, o427, o428, o431, o432, o433 P, o434, o435, o436, o437, o438, o439, o440, o441, o442, o443, o444, o445, o446, o447, o448, o449, o450, o451, o452, o453 P, o454, o455, o456, o457, o458, o459, o460, o461, o462, o463, o464, o465, o468, o469, o470 P, o471, o472, o473, o474, o475, o476, o477, o478, o479, o480, o481, o482, o483, o484, o485, o486, o487, o488, o489, o490, o491, o492, o493, o494, o495, o496, o497, o498, o499, o500, o501, o502, o503, o504, o505, o506, o507, o508, o509, o510, o511 P, o512, o513, o514, o515, o516, o519, o520, o521 P, o522, o523, o524, o525, o526, o527, o528, o529, o530, o531, o532, o533, o534, o535, o536, o537, o538, o539, o540, o541 P, o542, o543, o544, o545, o546, o547, o548, o549, o550, o551, o552, o553, o556, o557, o558 P, o559, o560, o561, o562, o563, o564, o565, o566, o567, o568, o569, o570, o571, o572 P, o573, o574, o575, o576, o577, o578, o579, o580, o581, o582, o583, o584, o585, o586, o587, o588, o589, o590, o591, o592, o593, o594, o595, o596, o597, o598, o601, o602, o603, o604, o605, o606, o607, o608, o609, o610, o611, o612, o613, o614, o615, o616, o617, o618, o619, o620, o621, o622, o623, o624, o625, o626, o627, o628]) (Life.mk [] [] [] 0 [] [] false #[] [] 0 false false false 0 [2000, 10, 10] false 0 true [] [] 0 false)
noncomputable abbrev G1 (w : World) (os : OsState) : Shared := Shared.mk (H1 w.params) #[] (Drawn.mk 0 0 0 0) (nat_lit 1128) os
theorem fin (w : World) : (fun os => topRun treeTable pg w m0 ann (nat_lit 2) (S15 w os).abs ⟨doneF Flow.next, cE, (Pos.mk 544 0 572 102), fE⟩) = fun os => some (G1 w os) := by (try rewrite [Fast.te14082659384304107361]); (try rewrite [Fast.te14364793385576792824]); kernel_rfl
noncomputable abbrev bA : List Stmt := (sts1 ++ (sts2 ++ (sts3 ++ (sts4 ++ (sts5 ++ (sts6 ++ (sts7 ++ (sts8 ++ (sts9 ++ (sts10 ++ (sts11 ++ (sts12 ++ (sts13 ++ (sts14 ++ (sts15 ++ [])))))))))))))))
noncomputable abbrev MM : Nat := Nat.add (nat_lit 12) (Nat.add (nat_lit 1) (Nat.add 238 (Nat.add 214 (Nat.add 247 (Nat.add 247 (Nat.add 373 (Nat.add 400 (Nat.add 212 (Nat.add 376 (Nat.add 398 (Nat.add 356 (Nat.add 289 (Nat.add 366 (Nat.add 303 (Nat.add 366 (Nat.add 146 2))))))))))))))))
theorem run_ (w : World) (os : OsState) : topRun treeTable pg w m0 ann MM (G00 w os) (topStub pg) = some (G1 w os) := (go_top (congrFun (pre w) os) (piece_block (congrFun (block w) os) (piece_app (segRun_of (congrFun (pc1 w) os)) (piece_app (segRun_of (congrFun (pc2 w) os)) (piece_app (segRun_of (congrFun (pc3 w) os)) (piece_app (segRun_of (congrFun (pc4 w) os)) (piece_app (segRun_of (congrFun (pc5 w) os)) (piece_app (segRun_of (congrFun (pc6 w) os)) (piece_app (segRun_of (congrFun (pc7 w) os)) (piece_app (segRun_of (congrFun (pc8 w) os)) (piece_app (segRun_of (congrFun (pc9 w) os)) (piece_app (segRun_of (congrFun (pc10 w) os)) (piece_app (segRun_of (congrFun (pc11 w) os)) (piece_app (segRun_of (congrFun (pc12 w) os)) (piece_app (segRun_of (congrFun (pc13 w) os)) (piece_app (segRun_of (congrFun (pc14 w) os)) (piece_app (segRun_of (congrFun (pc15 w) os)) (congrFun (fin w) os))))))))))))))))))
noncomputable def VW : Program := { pg with main := { pg.main with body := [st 1, st 2, st 3, st 4, st 5, st 6, st 7, st 8, st 9, st 10, st 11, st 13, st 14, st 15, st 16, st 17, st 18, st 19, st 21, st 22, st 23, st 24, st 25, st 26, st 27, st 28, st 29, st 30, st 31, st 32, st 33, st 34, st 35, st 36, st 38, st 39, st 40, st 41, st 42, st 43, st 44, st 45, st 46, st 47, st 48, st 49, st 50, st 51, st 52, st 53, st 54, st 55, st 56, st 58, st 59, st 60, st 61, st 62, st 63, st 64, st 65, st 66, st 68, st 70, st 71, st 72, st 73, st 74, st 75, st 76] } }
noncomputable def KP (P : Params) : Frag := (nat_lit 2, o4 P) :: (nat_lit 3, o599 P) :: (nat_lit 15, o7) :: (nat_lit 22, o14) :: (nat_lit 24, o16) :: (nat_lit 25, o17) :: (nat_lit 27, o19) :: (nat_lit 28, o20) :: (nat_lit 29, o21) :: (nat_lit 30, o22 P) :: (nat_lit 31, o66) :: (nat_lit 32, o24) :: (nat_lit 35, o30) :: (nat_lit 42, o37) :: (nat_lit 43, o38 P) :: (nat_lit 44, o39) :: (nat_lit 47, o45) :: (nat_lit 54, o52) :: (nat_lit 56, o54) :: (nat_lit 57, o55) :: (nat_lit 59, o57) :: (nat_lit 60, o58) :: (nat_lit 61, o59) :: (nat_lit 62, o60 P) :: (nat_lit 63, o61) :: (nat_lit 66, o67) :: (nat_lit 73, o74) :: (nat_lit 75, o76) :: (nat_lit 76, o77) :: (nat_lit 78, o79) :: (nat_lit 79, o80) :: (nat_lit 80, o81) :: (nat_lit 81, o82 P) :: (nat_lit 82, o88) :: (nat_lit 85, o89) :: (nat_lit 92, o96) :: (nat_lit 94, o98) :: (nat_lit 95, o99) :: (nat_lit 97, o101) :: (nat_lit 98, o102) :: (nat_lit 99, o103) :: (nat_lit 100, o104 P) :: (nat_lit 101, o105) :: (nat_lit 104, o108) :: (nat_lit 105, o109) :: (nat_lit 107, o111) :: (nat_lit 108, o112) :: (nat_lit 110, o114) :: (nat_lit 111, o115) :: (nat_lit 112, o118) :: (nat_lit 114, o120) :: (nat_lit 115, o121) :: (nat_lit 117, o123) :: (nat_lit 118, o124) :: (nat_lit 119, o125) :: (nat_lit 121, o127) :: (nat_lit 122, o128) :: (nat_lit 124, o130) :: (nat_lit 125, o131) :: (nat_lit 126, o132) :: (nat_lit 128, o134) :: (nat_lit 129, o135) :: (nat_lit 131, o137) :: (nat_lit 132, o138) :: (nat_lit 133, o139) :: (nat_lit 135, o141) :: (nat_lit 136, o142) :: (nat_lit 138, o144) :: (nat_lit 139, o145) :: (nat_lit 140, o146) :: (nat_lit 141, o147) :: (nat_lit 143, o149) :: (nat_lit 144, o150) :: (nat_lit 146, o152) :: (nat_lit 147, o153) :: (nat_lit 148, o154) :: (nat_lit 150, o156) :: (nat_lit 151, o157) :: (nat_lit 153, o159) :: (nat_lit 154, o160) :: (nat_lit 155, o161) :: (nat_lit 157, o163) :: (nat_lit 158, o164) :: (nat_lit 160, o166) :: (nat_lit 161, o167) :: (nat_lit 162, o168) :: (nat_lit 164, o170) :: (nat_lit 165, o171) :: (nat_lit 167, o173) :: (nat_lit 168, o174) :: (nat_lit 169, o175) :: (nat_lit 171, o177) :: (nat_lit 172, o178) :: (nat_lit 174, o180) :: (nat_lit 175, o181) :: (nat_lit 176, o182) :: (nat_lit 178, o184) :: (nat_lit 179, o185) :: (nat_lit 181, o187) :: (nat_lit 182, o188) :: (nat_lit 183, o189) :: (nat_lit 185, o191) :: (nat_lit 186, o192) :: (nat_lit 188, o194) :: (nat_lit 189, o195) :: (nat_lit 190, o198) :: (nat_lit 192, o200) :: (nat_lit 193, o201) :: (nat_lit 195, o203) :: (nat_lit 196, o204) :: (nat_lit 197, o205) :: (nat_lit 199, o207) :: (nat_lit 200, o208) :: (nat_lit 202, o210) :: (nat_lit 203, o211) :: (nat_lit 204, o212) :: (nat_lit 206, o214) :: (nat_lit 207, o215) :: (nat_lit 209, o217) :: (nat_lit 210, o218) :: (nat_lit 211, o219) :: (nat_lit 213, o221) :: (nat_lit 214, o222) :: (nat_lit 216, o224) :: (nat_lit 217, o225) :: (nat_lit 218, o226) :: (nat_lit 220, o228) :: (nat_lit 221, o229) :: (nat_lit 223, o231) :: (nat_lit 224, o232) :: (nat_lit 225, o233) :: (nat_lit 226, o234) :: (nat_lit 234, o244) :: (nat_lit 236, o246) :: (nat_lit 237, o247) :: (nat_lit 239, o249) :: (nat_lit 240, o250) :: (nat_lit 241, o251) :: (nat_lit 242, o252 P) :: (nat_lit 243, o253) :: (nat_lit 244, o254) :: (nat_lit 245, o255) :: (nat_lit 248, o258) :: (nat_lit 250, o260) :: (nat_lit 251, o261) :: (nat_lit 253, o263) :: (nat_lit 254, o264) :: (nat_lit 255, o265) :: (nat_lit 257, o267) :: (nat_lit 258, o268) :: (nat_lit 260, o270) :: (nat_lit 261, o271) :: (nat_lit 262, o272) :: (nat_lit 264, o274) :: (nat_lit 265, o275) :: (nat_lit 267, o277) :: (nat_lit 268, o278) :: (nat_lit 269, o279) :: (nat_lit 271, o281) :: (nat_lit 272, o282) :: (nat_lit 274, o284) :: (nat_lit 275, o285) :: (nat_lit 276, o286) :: (nat_lit 278, o288) :: (nat_lit 279, o289) :: (nat_lit 281, o291) :: (nat_lit 282, o292) :: (nat_lit 283, o295) :: (nat_lit 285, o297) :: (nat_lit 286, o298) :: (nat_lit 288, o300) :: (nat_lit 289, o301) :: (nat_lit 290, o302) :: (nat_lit 292, o304) :: (nat_lit 293, o305) :: (nat_lit 295, o307) :: (nat_lit 296, o308) :: (nat_lit 297, o309) :: (nat_lit 299, o311) :: (nat_lit 300, o312) :: (nat_lit 302, o314) :: (nat_lit 303, o315) :: (nat_lit 304, o316) :: (nat_lit 306, o318) :: (nat_lit 307, o319) :: (nat_lit 309, o321) :: (nat_lit 310, o322) :: (nat_lit 311, o323) :: (nat_lit 313, o325) :: (nat_lit 314, o326) :: (nat_lit 316, o328) :: (nat_lit 317, o329) :: (nat_lit 318, o330) :: (nat_lit 320, o332) :: (nat_lit 321, o333) :: (nat_lit 323, o335) :: (nat_lit 324, o336) :: (nat_lit 325, o337) :: (nat_lit 327, o339) :: (nat_lit 328, o340) :: (nat_lit 330, o342) :: (nat_lit 331, o343) :: (nat_lit 332, o344) :: (nat_lit 334, o346) :: (nat_lit 335, o347) :: (nat_lit 337, o349) :: (nat_lit 338, o350) :: (nat_lit 339, o351) :: (nat_lit 341, o353) :: (nat_lit 342, o354) :: (nat_lit 344, o356) :: (nat_lit 345, o357) :: (nat_lit 346, o358) :: (nat_lit 348, o360) :: (nat_lit 349, o361) :: (nat_lit 351, o363) :: (nat_lit 352, o364) :: (nat_lit 353, o365) :: (nat_lit 356, o368) :: (nat_lit 357, o369) :: (nat_lit 358, o370) :: (nat_lit 359, o371) :: (nat_lit 361, o373) :: (nat_lit 362, o374) :: (nat_lit 364, o376) :: (nat_lit 365, o377) :: (nat_lit 366, o380) :: (nat_lit 368, o382) :: (nat_lit 369, o383) :: (nat_lit 371, o385) :: (nat_lit 372, o386) :: (nat_lit 380, o394) :: (nat_lit 382, o396) :: (nat_lit 383, o397) :: (nat_lit 385, o399) :: (nat_lit 386, o400) :: (nat_lit 387, o401) :: (nat_lit 389, o403) :: (nat_lit 390, o404) :: (nat_lit 392, o406) :: (nat_lit 393, o407) :: (nat_lit 394, o408) :: (nat_lit 396, o410) :: (nat_lit 397, o411) :: (nat_lit 399, o413) :: (nat_lit 400, o414) :: (nat_lit 401, o415) :: (nat_lit 403, o417) :: (nat_lit 404, o418) :: (nat_lit 406, o420) :: (nat_lit 407, o421) :: (nat_lit 408, o422) :: (nat_lit 409, o423 P) :: (nat_lit 410, o424) :: (nat_lit 411, o425) :: (nat_lit 412, o426) :: (nat_lit 422, o438) :: (nat_lit 424, o440) :: (nat_lit 425, o441) :: (nat_lit 427, o443) :: (nat_lit 428, o444) :: (nat_lit 429, o445) :: (nat_lit 431, o447) :: (nat_lit 432, o448) :: (nat_lit 434, o450) :: (nat_lit 435, o451) :: (nat_lit 436, o452) :: (nat_lit 437, o453 P) :: (nat_lit 438, o454) :: (nat_lit 439, o455) :: (nat_lit 440, o456) :: (nat_lit 443, o459) :: (nat_lit 445, o461) :: (nat_lit 446, o462) :: (nat_lit 448, o464) :: (nat_lit 449, o465) :: (nat_lit 457, o475) :: (nat_lit 459, o477) :: (nat_lit 460, o478) :: (nat_lit 462, o480) :: (nat_lit 463, o481) :: (nat_lit 464, o482) :: (nat_lit 466, o484) :: (nat_lit 467, o485) :: (nat_lit 469, o487) :: (nat_lit 470, o488) :: (nat_lit 471, o489) :: (nat_lit 473, o491) :: (nat_lit 474, o492) :: (nat_lit 476, o494) :: (nat_lit 477, o495) :: (nat_lit 478, o496) :: (nat_lit 480, o498) :: (nat_lit 481, o499) :: (nat_lit 483, o501) :: (nat_lit 484, o502) :: (nat_lit 485, o503) :: (nat_lit 487, o505) :: (nat_lit 488, o506) :: (nat_lit 490, o508) :: (nat_lit 491, o509) :: (nat_lit 492, o510) :: (nat_lit 493, o511 P) :: (nat_lit 494, o512) :: (nat_lit 495, o513) :: (nat_lit 496, o514) :: (nat_lit 506, o526) :: (nat_lit 508, o528) :: (nat_lit 509, o529) :: (nat_lit 511, o531) :: (nat_lit 512, o532) :: (nat_lit 513, o533) :: (nat_lit 515, o535) :: (nat_lit 516, o536) :: (nat_lit 518, o538) :: (nat_lit 519, o539) :: (nat_lit 520, o540) :: (nat_lit 521, o541 P) :: (nat_lit 522, o542) :: (nat_lit 523, o543) :: (nat_lit 524, o544) :: (nat_lit 527, o547) :: (nat_lit 529, o549) :: (nat_lit 530, o550) :: (nat_lit 532, o552) :: (nat_lit 533, o553) :: (nat_lit 541, o563) :: (nat_lit 542, o564) :: (nat_lit 544, o566) :: (nat_lit 545, o567) :: (nat_lit 547, o569) :: (nat_lit 548, o570) :: (nat_lit 549, o571) :: (nat_lit 550, o572 P) :: (nat_lit 551, o573) :: (nat_lit 552, o574) :: (nat_lit 553, o575) :: (nat_lit 556, o578) :: (nat_lit 558, o580) :: (nat_lit 559, o581) :: (nat_lit 561, o583) :: (nat_lit 562, o584) :: (nat_lit 563, o585) :: (nat_lit 565, o587) :: (nat_lit 566, o588) :: (nat_lit 568, o590) :: (nat_lit 569, o591) :: (nat_lit 570, o592) :: (nat_lit 572, o594) :: (nat_lit 573, o595) :: (nat_lit 575, o597) :: (nat_lit 576, o598) :: (nat_lit 577, o601) :: (nat_lit 579, o603) :: (nat_lit 580, o604) :: (nat_lit 582, o606) :: (nat_lit 583, o607) :: (nat_lit 584, o608) :: (nat_lit 586, o610) :: (nat_lit 587, o611) :: (nat_lit 589, o613) :: (nat_lit 590, o614) :: (nat_lit 591, o615) :: (nat_lit 593, o617) :: (nat_lit 594, o618) :: (nat_lit 596, o620) :: (nat_lit 597, o621) :: (nat_lit 598, o622) :: (nat_lit 600, o624) :: (nat_lit 601, o625) :: (nat_lit 603, o627) :: (nat_lit 604, o628) :: []
noncomputable def KA : List Addr := [2, 3, 15, 22, 24, 25, 27, 28, 29, 30, 31, 32, 35, 42, 43, 44, 47, 54, 56, 57, 59, 60, 61, 62, 63, 66, 73, 75, 76, 78, 79, 80, 81, 82, 85, 92, 94, 95, 97, 98, 99, 100, 101, 104, 105, 107, 108, 110, 111, 112, 114, 115, 117, 118, 119, 121, 122, 124, 125, 126, 128, 129, 131, 132, 133, 135, 136, 138, 139, 140, 141, 143, 144, 146, 147, 148, 150, 151, 153, 154, 155, 157, 158, 160, 161, 162, 164, 165, 167, 168, 169, 171, 172, 174, 175, 176, 178, 179, 181, 182, 183, 185, 186, 188, 189, 190, 192, 193, 195, 196, 197, 199, 200, 202, 203, 204, 206, 207, 209, 210, 211, 213, 214, 216, 217, 218, 220, 221, 223, 224, 225, 226, 234, 236, 237, 239, 240, 241, 242, 243, 244, 245, 248, 250, 251, 253, 254, 255, 257, 258, 260, 261, 262, 264, 265, 267, 268, 269, 271, 272, 274, 275, 276, 278, 279, 281, 282, 283, 285, 286, 288, 289, 290, 292, 293, 295, 296, 297, 299, 300, 302, 303, 304, 306, 307, 309, 310, 311, 313, 314, 316, 317, 318, 320, 321, 323, 324, 325, 327, 328, 330, 331, 332, 334, 335, 337, 338, 339, 341, 342, 344, 345, 346, 348, 349, 351, 352, 353, 356, 357, 358, 359, 361, 362, 364, 365, 366, 368, 369, 371, 372, 380, 382, 383, 385, 386, 387, 389, 390, 392, 393, 394, 396, 397, 399, 400, 401, 403, 404, 406, 407, 408, 409, 410, 411, 412, 422, 424, 425, 427, 428, 429, 431, 432, 434, 435, 436, 437, 438, 439, 440, 443, 445, 446, 448, 449, 457, 459, 460, 462, 463, 464, 466, 467, 469, 470, 471, 473, 474, 476, 477, 478, 480, 481, 483, 484, 485, 487, 488, 490, 491, 492, 493, 494, 495, 496, 506, 508, 509, 511, 512, 513, 515, 516, 518, 519, 520, 521, 522, 523, 524, 527, 529, 530, 532, 533, 541, 542, 544, 545, 547, 548, 549, 550, 551, 552, 553, 556, 558, 559, 561, 562, 563, 565, 566, 568, 569, 570, 572, 573, 575, 576, 577, 579, 580, 582, 583, 584, 586, 587, 589, 590, 591, 593, 594, 596, 597, 598, 600, 601, 603, 604]
noncomputable abbrev NN : Nat := 9158
theorem said : PySem.Challenge.rw_no0277_01.wellSaid = true := by
  delta OpenLaw.wellSaid
  refine look_both ?_ ?_
  · skip
    refine look_both ?_ ?_
    · skip
      refine look_both ?_ ?_
      · skip
        refine look_both ?_ ?_
        · skip
          refine look_both ?_ ?_
          · skip
            refine look_both ?_ ?_
            · skip
              refine look_both ?_ ?_
              · skip
                refine look_both ?_ ?_
                · skip
                  refine look_both ?_ ?_
                  · skip
                    refine look_both ?_ ?_
                    · skip
                      refine look_both ?_ ?_
                      · skip
                        refine look_both ?_ ?_
                        · skip
                          refine look_both ?_ ?_
                          · skip
                            refine look_both ?_ ?_
                            · skip
                              refine look_both ?_ ?_
                              · skip
                                refine look_both ?_ ?_
                                · skip
                                  refine look_both ?_ ?_
                                  · skip
                                    refine look_both ?_ ?_
                                    · skip
                                      delta OpenRow.wellSaid
                                      refine look_both ?_ ?_
                                      · skip
                                        refine look_both ?_ ?_
                                        · skip
                                          delta OpenRow.partSaid
                                          refine look_both ?_ ?_
                                          · skip
                                            refine look_both ?_ ?_
                                            · skip
                                              refine look_both ?_ ?_
                                              · skip
                                                refine look_both ?_ ?_
                                                · skip
                                                  refine look_both ?_ ?_
                                                  · skip
                                                    refine look_both ?_ ?_
                                                    · skip
                                                      refine look_both ?_ ?_
                                                      · skip
                                                        refine look_both ?_ ?_
                                                        · skip
                                                          refine look_both ?_ ?_
                                                          · skip
                                                            refine look_both ?_ ?_
                                                            · skip
                                                              refine look_both ?_ ?_
                                                              · skip
                                                                refine look_both ?_ ?_
                                                                · skip
                                                                  refine look_both ?_ ?_
                                                                  · skip
                                                                    delta looksOpen
                                                                    refine look_both ?_ ?_
                                                                    · skip
                                                                      refine look_both ?_ ?_
                                                                      · skip
                                                                        refine look_both ?_ ?_
                                                                        · skip
                                                                          refine look_both ?_ ?_
                                                                          · skip
                                                                            refine look_both ?_ ?_
                                                                            · skip
                                                                              (try rewrite [Fast.te11788848310118352699]); (try rewrite [Fast.te2368527892694137696]); kernel_rfl
                                                                            · skip
                                                                              (try rewrite [Fast.te9807087744658564304]); (try rewrite [Fast.te2368527892694137696]); (try rewrite [Fast.te12862048085361865435]); kernel_rfl
                                                                          · skip
                                                                            (try rewrite [Fast.te8377067652309620493]); (try rewrite [Fast.te2368527892694137696]); kernel_rfl
                                                                        · skip
                                                                          (try rewrite [R.allR_eq]); (try rewrite [Fast.te18344453789297297638]); (try rewrite [Fast.te2368527892694137696]); (try rewrite [Fast.te3471404346716756564]); (try rewrite [Fast.sDec_eq]); (try rewrite [Fast.te14412699480532031325]); kernel_rfl
                                                                      · skip
                                                                        (try rewrite [Fast.te8326940854005059898]); (try rewrite [R.allR_eq]); (try rewrite [Fast.te5923862056798008813]); (try rewrite [Fast.te2368527892694137696]); (try rewrite [Fast.te3471404346716756564]); (try rewrite [Fast.sDec_eq]); (try rewrite [Fast.te17691160309236699985]); (try rewrite [R.filterR_eq]); (try rewrite [Fast.te13343964577679436407]); kernel_rfl
                                                                    · skip
                                                                      (try rewrite [Fast.te17119622794617984870]); (try rewrite [Fast.te2368527892694137696]); (try rewrite [Fast.te17868728402115742887]); kernel_rfl
                                                                  · skip
                                                                    (try rewrite [Fast.te2368527892694137696]); kernel_rfl
                                                                · skip
                                                                  (try rewrite [Fast.te2368527892694137696]); kernel_rfl
                                                              · skip
                                                                (try rewrite [Fast.te2368527892694137696]); (try rewrite [R.allR_eq]); (try rewrite [Fast.te9706382859710513879]); kernel_rfl
                                                            · skip
                                                              (try rewrite [R.allR_eq]); (try rewrite [Fast.te2368527892694137696]); (try rewrite [Fast.te3471404346716756564]); (try rewrite [Fast.sDec_eq]); (try rewrite [Fast.te18344453789297297638]); (try rewrite [S.strDecS_eq]); (try rewrite [Fast.te2357444279172408678]); kernel_rfl
                                                          · skip
                                                            (try rewrite [R.mapR_eq]); (try rewrite [Fast.te2368527892694137696]); (try rewrite [Fast.sDec_eq]); kernel_rfl
                                                        · skip
                                                          (try rewrite [R.allR_eq]); (try rewrite [Fast.te2368527892694137696]); (try rewrite [Fast.te4857012375875476094]); (try rewrite [Fast.named_eq]); (try rewrite [Fast.te3471404346716756564]); (try rewrite [Fast.sDec_eq]); (try rewrite [Fast.te18344453789297297638]); kernel_rfl
                                                      · skip
                                                        (try rewrite [Fast.te13582783067957832011]); (try rewrite [Fast.te2368527892694137696]); kernel_rfl
                                                    · skip
                                                      (try rewrite [Fast.te5318747976498570220]); (try rewrite [Fast.te2368527892694137696]); kernel_rfl
                                                  · skip
                                                    (try rewrite [Fast.te5318747976498570220]); (try rewrite [Fast.te2368527892694137696]); kernel_rfl
                                                · skip
                                                  (try rewrite [R.allR_eq]); (try rewrite [Fast.te2368527892694137696]); (try rewrite [Fast.te5318747976498570220]); kernel_rfl
                                              · skip
                                                (try rewrite [R.allR_eq]); (try rewrite [Fast.te2368527892694137696]); (try rewrite [Fast.te4579403493507170074]); (try rewrite [R.anyR_eq]); (try rewrite [Fast.te4274047373036748609]); kernel_rfl
                                            · skip
                                              (try rewrite [R.allR_eq]); (try rewrite [Fast.te2368527892694137696]); kernel_rfl
                                          · skip
                                            (try rewrite [Fast.te2368527892694137696]); kernel_rfl
                                        · skip
                                          (try rewrite [Fast.te3471404346716756564]); (try rewrite [Fast.sDec_eq]); (try rewrite [Fast.te18344453789297297638]); (try rewrite [Fast.te2368527892694137696]); kernel_rfl
                                      · skip
                                        (try rewrite [Fast.te3471404346716756564]); (try rewrite [Fast.sDec_eq]); (try rewrite [Fast.te12749700546528644094]); (try rewrite [Fast.te2368527892694137696]); kernel_rfl
                                    · skip
                                      kernel_rfl
                                  · skip
                                    (try rewrite [R.allR_eq]); (try rewrite [Fast.te10501279942588096481]); kernel_rfl
                                · skip
                                  (try rewrite [Fast.te8179353310426384613]); kernel_rfl
                              · skip
                                kernel_rfl
                            · skip
                              kernel_rfl
                          · skip
                            (try rewrite [Fast.te8326940854005059898]); (try rewrite [Fast.te797321630700447069]); (try rewrite [Fast.te9572597257264208301]); kernel_rfl
                        · skip
                          (try rewrite [Fast.te9558739934217749035]); kernel_rfl
                      · skip
                        (try rewrite [Fast.te16286561074155671207]); kernel_rfl
                    · skip
                      (try rewrite [R.allR_eq]); (try rewrite [Fast.sDec_eq]); kernel_rfl
                  · skip
                    (try rewrite [R.allR_eq]); (try rewrite [Fast.te797321630700447069]); (try rewrite [Fast.named_eq]); (try rewrite [Fast.sDec_eq]); (try rewrite [Fast.te6984425678791042302]); kernel_rfl
                · skip
                  (try rewrite [R.allR_eq]); (try rewrite [Fast.te17095254045102204799]); (try rewrite [Fast.te12879404354523853263]); (try rewrite [Fast.te6984425678791042302]); kernel_rfl
              · skip
                (try rewrite [R.allR_eq]); (try rewrite [Fast.te17095254045102204799]); (try rewrite [Fast.te12879404354523853263]); (try rewrite [Fast.te6984425678791042302]); (try rewrite [Fast.te482687673346738481]); (try rewrite [Fast.sDec_eq]); kernel_rfl
            · skip
              (try rewrite [Fast.te17119622794617984870]); (try rewrite [Fast.te3471404346716756564]); (try rewrite [Fast.sDec_eq]); (try rewrite [Fast.te9572597257264208301]); kernel_rfl
          · skip
            (try rewrite [Fast.te3471404346716756564]); (try rewrite [Fast.sDec_eq]); (try rewrite [Fast.te10792542408131684335]); kernel_rfl
        · skip
          (try rewrite [Fast.te7723801398212525404]); (try rewrite [Fast.sDec_eq]); (try rewrite [Fast.te10792542408131684335]); kernel_rfl
      · skip
        (try rewrite [R.allR_eq]); (try rewrite [Fast.te10792542408131684335]); (try rewrite [Fast.named_eq]); kernel_rfl
    · skip
      (try rewrite [Fast.te17119622794617984870]); (try rewrite [Fast.te3471404346716756564]); (try rewrite [Fast.sDec_eq]); (try rewrite [Fast.te10792542408131684335]); kernel_rfl
  · skip
    (try rewrite [Fast.te17119622794617984870]); (try rewrite [Fast.sDec_eq]); kernel_rfl

theorem bt1 : opening pg = plainProg pg.main.scope.names := by kernel_rfl
theorem bt2 (s : Shared) : fenceModules? pg s = some s := by kernel_rfl
theorem open_ (w : World) : (fencedOpening treeTable pg w NN).map (fun s => (s.heap, s.gens, s.drawn, s.toks)) = some (boot_heap w.params, Array.mk [], boot_drawn, boot_toks) := boot_open bt1 (by decide) bt2 w
theorem size_ (w : World) : ((boot_heap w.params).isNs mainGlobals && (Array.mk [] : Array GenState).size == 0, (boot_heap w.params).objs.size, (boot_heap w.params).nsMap mainGlobals "__annotations__") = (true, m0, ann) := by (try rewrite [Fast.te8920871248978507458]); kernel_rfl
theorem KAe (P : Params) : KA = (KP P).map (·.1) := by kernel_rfl
noncomputable def HK : Hook := kHook KP KA KAe
noncomputable abbrev rr : RowW := PySem.Challenge.rw_no0277_01.row.toRowW
noncomputable abbrev XT (s : Shared) : Bool := xlAt VW [] s && recOk rr.records s
theorem looks (w : World) (os : OsState) : ((staticsOk (importedModules pg.main.body) (boot_heap w.params) (H1 w.params) && namesBound pg (H1 w.params) && gensDone (G1 w os) && laidKept (boot_heap w.params) (H1 w.params)), openSeen VW [] (importedModules pg.main.body) (fun s => xlAt VW [] s && recOk rr.records s) true (G1 w os), HK.obs (G1 w os)) = (true, openGood VW [], HK.val w) := by
 refine looks_pair ?_ (looks_pair ?_ ?_)
 · (try rewrite [Fast.te5923862056798008813]); (try rewrite [Fast.te2368527892694137696]); kernel_rfl
 · skip
   delta openSeen
   delta openGood
   refine looks_pair ?_ ?_
   · skip
     (try rewrite [Fast.te5160383126252970620]); (try rewrite [R.mapR_eq]); (try rewrite [Fast.te3399658132070893891]); (try rewrite [Fast.te5991557255702980513]); kernel_rfl
   · skip
     refine looks_pair ?_ ?_
     · skip
       kernel_rfl
     · skip
       refine looks_pair ?_ ?_
       · skip
         (try rewrite [Fast.te10880121769531294198]); (try rewrite [Fast.te821141287760084731]); (try rewrite [R.mapR_eq]); (try rewrite [Fast.te3399658132070893891]); (try rewrite [Fast.te7409074990110511671]); (try rewrite [Fast.te13664370479719496447]); (try rewrite [Fast.te14722251495701143533]); (try rewrite [Fast.te10994771534591457954]); (try rewrite [Fast.te2368527892694137696]); kernel_rfl
       · skip
         refine looks_pair ?_ ?_
         · skip
           (try rewrite [Fast.te479339242167458305]); kernel_rfl
         · skip
           refine looks_pair ?_ ?_
           · skip
             (try rewrite [Fast.te16090120013241838585]); (try rewrite [Fast.te3247288618530077131]); kernel_rfl
           · skip
             refine looks_pair ?_ ?_
             · skip
               (try rewrite [Fast.te2386780881361962483]); (try rewrite [Fast.te821141287760084731]); kernel_rfl
             · skip
               refine looks_pair ?_ ?_
               · skip
                 (try rewrite [Fast.te11698064438423848299]); kernel_rfl
               · skip
                 refine looks_pair ?_ ?_
                 · skip
                   (try rewrite [Fast.te7317090234206586261]); kernel_rfl
                 · skip
                   (try rewrite [Fast.te7369524293546568484]); kernel_rfl
 · (try rewrite [R.mapR_eq]); kernel_rfl
theorem left : LeftO pg VW [] XT HK.obs HK.val NN := LeftO.of_pieces open_ size_ run_ (by decide) (fun w => funext fun os => looks w os)
end Mine
end
set_option maxHeartbeats 4000000
set_option linter.unusedSimpArgs false
namespace Mine
section
open PySem PySem.W PySem.Spec
theorem nnOf {p : Prop} (h : ¬ p → False) : p := Classical.byContradiction h
noncomputable abbrev frs (l : List Env) : List Addr := l.filterMap (·.frame)

structure Fly (B G : Heap) (l : List Env) (C : Addr) (code : Option Int) (e : Addr) (tr : Bool) (h : Heap) : Prop where
  stays : B.StaysIn h
  new : B.get? e = none
  fr : h.FunFrames B l
  up : G.UpToSlots h
  tr : ∃ d vs sl es n, h.get? e = some ⟨.ref C, some d, .fields vs, sl⟩ ∧ vs.size = 6 ∧ (code = none → vs[2]? = some .none) ∧ d ≠ e ∧ (d ∉ frs l ∧ B.get? d = none) ∧ h.get? d = some (dictOf es n) ∧
    (∀ c, code = some c → ∃ tk, getL "code" es = some (some (.int c tk))) ∧
    ((tr = false ∧ vs[1]? = some .none) ∨ ∃ T oT ts, vs[1]? = some (.ref T) ∧ B.get? T = none ∧ T ≠ e ∧ h.get? T = some oT ∧ oT.data = .fields ts ∧ 3 < ts.size)

theorem Fly.mono {B B' G G' : Heap} {l : List Env} {C : Addr} {code : Option Int} {e : Addr} {tr : Bool} {h : Heap} (x : Fly B G l C code e tr h) (k : B'.StaysIn B) (k' : G'.StaysIn G) : Fly B' G' l C code e tr h := by
  refine nnOf fun nO => ?_
  obtain ⟨a, b, c, up, d, vs, sl, es, n, h1, h2, h3, h4, h5, h6, h7, h8⟩ := x <;> (refine nO ?_; clear nO)
  have non : ∀ b, B.get? b = none → B'.get? b = none := fun b hb => by
    cases q : B'.get? b with
    | none => rfl
    | some o => rw [k b o q] at hb; cases hb
  refine ⟨fun b o q => a b o (k b o q), non _ b, ?_, fun b o q hn => up b o (k' b o q) hn, d, vs, sl, es, n, h1, h2, h3, h4, ⟨h5.1, non _ h5.2⟩, h6, h7, h8.imp (fun x => x) fun ⟨T, oT, ts, y1, y2, y⟩ => ⟨T, oT, ts, y1, non _ y2, y⟩⟩
  clear h1 h2 h3 h4 h5 h6 h7 h8 d
  induction l with
  | nil => trivial
  | cons env r ih =>
    refine nnOf fun nO => ?_
    obtain ⟨c1, ⟨L, o, c2, c3, c4⟩, c5⟩ := c <;> (refine nO ?_; clear nO)
    exact ⟨c1, ⟨L, o, c2, non _ c3, c4⟩, ih c5⟩

theorem Fly.pop {B G : Heap} {env : Env} {l : List Env} {C : Addr} {code : Option Int} {e : Addr} {tr : Bool} {h : Heap} (x : Fly B G (env :: l) C code e tr h) : Fly B G l C code e tr h := by
  obtain ⟨a, b, ⟨_, _, c⟩, up, d, vs, sl, es, n, h1, h2, h3, h4, h5, r⟩ := x
  refine ⟨a, b, c, up, d, vs, sl, es, n, h1, h2, h3, h4, ⟨fun q => h5.1 ?_, h5.2⟩, r⟩
  unfold frs at q ⊢
  rw [List.filterMap_cons]
  split
  · exact q
  · exact List.mem_cons_of_mem _ q

section
variable {M : Model} {A : Around} {E : Value → Shared → Prop} {s : Shared} {B G : Heap} {l : List Env} {C e : Addr} {code : Option Int} {tr : Bool}

theorem fly_set {fl : Option Addr} {Q : Unit → Shared → Prop} (x : Fly B G l C code e tr s.heap) (k : ∀ h', Fly B G l C code e tr h' → Q () { s with heap := h' }) : wpAny M A (setFlight (.ref e) fl) Q E s := by
  have x' := x
  refine nnOf fun nO => ?_
  obtain ⟨a, b, c, up, d, vs, sl, es, n, h1, h2, h3, h4, h5, h6, h7, h8⟩ := x <;> (refine nO ?_; clear nO)
  unfold setFlight
  rcases h8 with ⟨_, h8⟩ | ⟨T, oT, ts, y1, y2, y3, y4, y5, y6⟩
  · refine wpAny_bind (wpAny_field h1 rfl h8 ?_)
    rw [if_neg (by decide)]
    exact wpAny_pure (k _ x')
  · refine wpAny_bind (wpAny_field h1 rfl y1 ?_)
    rw [if_pos (show (Value.ref T != Value.none) = true from by simp)]
    refine wpAny_setField y4 y5 y6 (k _ ?_)
    have other : ∀ b, b ≠ T → (s.heap.update T (Obj.mapFields (·.setIfInBounds 3 (fl.elim Value.none fun f => rawInt f)))).get? b = s.heap.get? b := fun b hb => Heap.get?_update_other _ _ (Ne.symm hb)
    have noRecord : ∀ b o, s.heap.get? b = some o → (∀ vs, o.data ≠ .fields vs) → b ≠ T := fun b o hb hnf q => by
      rw [q, y4] at hb; injection hb with hb; subst hb; exact hnf ts y5
    have hdT : d ≠ T := noRecord d _ h6 (fun vs q => by cases q)
    refine ⟨fun b o hbo => (other b fun q => by rw [q, y2] at hbo; cases hbo).trans (a b o hbo), b, c.of_keeps fun b o hb hnf => ⟨o, (other b (noRecord b o hb hnf)).trans hb, rfl⟩, up.trans fun b o hb hnf => ⟨o.slots, (other b (noRecord b o hb hnf)).trans hb⟩, d, vs, sl, es, n, (other e (Ne.symm y3)).trans h1, h2, h3, h4, h5, (other d hdT).trans h6, h7, .inr ⟨T, _, ts.setIfInBounds 3 _, y1, y2, y3, Heap.get?_update_self _ y4 (Obj.isFreed_of_fields (Obj.data_mapFields y5 _)), Obj.data_mapFields y5 _, by rw [Array.size_setIfInBounds]; exact y6⟩⟩

theorem fly_entry {env : Env} {outer : List Env} {L : Addr} {head : Value} {hadNext : Bool} {Q : Unit → Shared → Prop}
    (hfr : A.frames = some (env :: outer)) (hf : env.frame = some L) (x : Fly B G (env :: outer) C code e tr s.heap) (k : ∀ h', Fly B G (env :: outer) C code e true h' → Q () { s with heap := h' }) :
    wpAny M A (do let a ← frameOf env; let pl ← entryPlaceOf L hadNext; let b ← EntryCells.newEntry head a .none (rawInt L) .none pl; setField (.ref e) 1 b) Q E s := by
  refine nnOf fun nO => ?_
  obtain ⟨a, b, c, up, d, vs, sl, es, n, h1, h2, h3, h4, h5, h6, h7, h8⟩ := x <;> (refine nO ?_; clear nO)
  have hene : e ∉ frs (env :: outer) := fun hm => by
    refine nnOf fun nO => ?_
    obtain ⟨_, o, ho, hnf⟩ := c.mem hm <;> (refine nO ?_; clear nO)
    rw [h1] at ho; injection ho with ho; subst ho; exact hnf vs rfl
  refine wpAny_bind (wpAny_frameOf_fun hfr c hf fun g₁ hs₁ => ?_)
  refine wpAny_bind (wpAny_entryPlaceOf fun pl hpl => ?_)
  unfold EntryCells.newEntry newFields
  refine wpAny_bind (wpAny_newObj_type ?_ (hpl.sizeOk5 _ _ _ _ _))
  have e₁ := (hs₁.2.1 e hene).trans h1
  have d₁ := (hs₁.2.1 d h5.1).trans h6
  have kb₁ : B.StaysIn g₁ := fun b o hbo => (hs₁.2.1 b fun hm => by rw [(c.mem hm).1] at hbo; cases hbo).trans (a b o hbo)
  have c₁ := c.of_slotsOnly hs₁
  generalize hob : ({ cls := .type "traceback", dict := none, data := .fields ([head, .ref L, .none, rawInt L, .none] ++ (if pl.isEmpty then List.replicate 6 Value.none else pl)).toArray } : Obj) = ob
  have hobd : ∃ ts, ob.data = .fields ts ∧ 3 < ts.size := by
    rw [← hob]; exact ⟨_, rfl, by simp only [List.size_toArray, List.length_append, List.length_cons, List.length_nil]; lia⟩
  obtain ⟨ts, hts, htz⟩ := hobd
  have hobf : ob.isFreed = false := Obj.isFreed_of_fields hts
  have e₂ := Heap.get?_push_of_some (h := g₁) ob e₁
  refine wpAny_setField e₂ rfl (by lia) (k _ ?_)
  have hTe : g₁.objs.size ≠ e := Nat.ne_of_gt (Heap.lt_size e₁)
  have e₃ := Heap.get?_update_self (Obj.mapFields (·.setIfInBounds 1 (Value.ref g₁.objs.size))) e₂ rfl
  have T₃ := (Heap.get?_update_other (g₁.push ob) (Obj.mapFields (·.setIfInBounds 1 (Value.ref g₁.objs.size))) (Ne.symm hTe)).trans (Heap.get?_push_size g₁ hobf)
  have keep : ∀ b o, b ≠ e → g₁.get? b = some o → ((g₁.push ob).update e (Obj.mapFields (·.setIfInBounds 1 (Value.ref g₁.objs.size)))).get? b = some o := fun b o hbe hb => by
    rw [Heap.get?_update_other _ _ (Ne.symm hbe)]
    exact Heap.get?_push_of_some _ hb
  refine ⟨fun b o hbo => keep b o (fun q => by rw [q] at hbo; have := b; simp_all) (kb₁ b o hbo), b, c₁.of_keeps fun b o hb hnf => ⟨o, keep b o (fun q => by rw [q, e₁] at hb; cases hb; exact hnf vs rfl) hb, rfl⟩, up.trans (Heap.UpToSlots.trans (h₂ := g₁) (fun b o hb _ => hs₁.2.2 b o hb) fun b o hb hnf => ⟨o.slots, keep b o (fun q => by rw [q, e₁] at hb; cases hb; exact hnf vs rfl) hb⟩), d, vs.setIfInBounds 1 (.ref g₁.objs.size), sl, es, n, e₃, by rw [Array.size_setIfInBounds]; exact h2, fun q => ?_, h4, h5, keep d _ h4 d₁, h7,
    .inr ⟨g₁.objs.size, ob, ts, by simp [h2], kb₁.fresh, hTe, T₃, hts, htz⟩⟩
  rw [Array.getElem?_setIfInBounds_ne (by decide)]; exact h3 q

theorem fly_note {env : Env} {outer : List Env} {L : Addr} {Q : Unit → Shared → Prop} (hfr : A.frames = some (env :: outer)) (hf : env.frame = some L) (x : Fly B G (env :: outer) C code e tr s.heap)
    (k : ∀ h', Fly B G (env :: outer) C code e true h' → Q () { s with heap := h' }) : wpAny M A (noteFrame (.ref e) env) Q E s := by
  have x' := x
  refine nnOf fun nO => ?_
  obtain ⟨a, b, c, up, d, vs, sl, es, n, h1, h2, h3, h4, h5, h6, h7, h8⟩ := x <;> (refine nO ?_; clear nO)
  unfold noteFrame
  simp only [hf]
  rcases h8 with ⟨_, h8⟩ | ⟨T, oT, ts, y1, y2, y3, y4, y5, y6⟩
  · refine wpAny_bind (wpAny_field h1 rfl h8 ?_)
    rw [if_neg (by decide)]
    exact fly_entry hfr hf x' k
  · refine wpAny_bind (wpAny_field h1 rfl y1 ?_)
    rw [if_pos (show (Value.ref T != Value.none) = true from by simp)]
    refine wpAny_bind (wpAny_field y4 y5 (Array.getElem?_eq_getElem y6) ?_)
    split
    · exact wpAny_pure (k _ ⟨a, b, c, up, d, vs, sl, es, n, h1, h2, h3, h4, h5, h6, h7, .inr ⟨T, oT, ts, y1, y2, y3, y4, y5, y6⟩⟩)
    · refine wpAny_bind (wpAny_setField y4 y5 y6 ?_)
      have other : ∀ b, b ≠ T → (s.heap.update T (Obj.mapFields (·.setIfInBounds 3 Value.none))).get? b = s.heap.get? b := fun b hb => Heap.get?_update_other _ _ (Ne.symm hb)
      have noRecord : ∀ b o, s.heap.get? b = some o → (∀ vs, o.data ≠ .fields vs) → b ≠ T := fun b o hb hnf q => by
        rw [q, y4] at hb; injection hb with hb; subst hb; exact hnf ts y5
      have hdT : d ≠ T := noRecord d _ h6 (fun vs q => by cases q)
      refine fly_entry (tr := true) (code := code) (C := C) hfr hf ?_ k
      exact ⟨fun b o hbo => (other b fun q => by rw [q, y2] at hbo; cases hbo).trans (a b o hbo), b, c.of_keeps fun b o hb hnf => ⟨o, (other b (noRecord b o hb hnf)).trans hb, rfl⟩, up.trans fun b o hb hnf => ⟨o.slots, (other b (noRecord b o hb hnf)).trans hb⟩, d, vs, sl, es, n, (other e (Ne.symm y3)).trans h1, h2, h3, h4, h5, (other d hdT).trans h6, h7, .inr ⟨T, _, ts.setIfInBounds 3 _, y1, y2, y3, Heap.get?_update_self _ y4 (Obj.isFreed_of_fields (Obj.data_mapFields y5 _)), Obj.data_mapFields y5 _, by rw [Array.size_setIfInBounds]; exact y6⟩⟩

theorem fly_leave {env : Env} {outer : List Env} {L : Addr} {Q : Unit → Shared → Prop} (hfr : A.frames = some (env :: outer)) (hf : env.frame = some L) (x : Fly B G (env :: outer) C code e tr s.heap)
    (k : ∀ h', Fly B G outer C code e true h' → Q () { s with heap := h' }) : wpAny M A (leaving env (.ref e)) Q E s := by
  unfold leaving
  refine wpAny_bind (fly_note hfr hf x fun h' y => ?_)
  exact fly_set y fun h'' z => k h'' z.pop

theorem fly_noted {env : Env} {outer : List Env} {L : Addr} (hfr : A.frames = some (env :: outer)) (hf : env.frame = some L) (x : Fly B G (env :: outer) C code e tr s.heap)
    (k : ∀ h', Fly B G (env :: outer) C code e true h' → E (.ref e) { s with heap := h' }) : notedBy M A env E (.ref e) s := fly_note hfr hf x k

theorem fly_came {env : Env} (x : Fly B G l C code e true s.heap) (k : ∀ h', Fly B G l C code e true h' → E (.ref e) { s with heap := h' }) : cameBackBy M A env E (.ref e) s := by
  have x' := x
  refine nnOf fun nO => ?_
  obtain ⟨a, b, c, up, d, vs, sl, es, n, h1, h2, h3, h4, h5, h6, h7, h8⟩ := x <;> (refine nO ?_; clear nO)
  unfold cameBackBy
  rcases h8 with ⟨h, _⟩ | ⟨T, oT, ts, y1, y2, y3, y4, y5, y6⟩
  · cases h
  · refine wpAny_bind (wpAny_field h1 rfl y1 ?_)
    rw [if_neg (by simp)]
    exact fly_set x' k
end

end
section
open PySem PySem.W PyProof.Rows PySem.Calls PySem.Spec
noncomputable abbrev Led := List (Addr × Obj)
noncomputable abbrev Arnd (hd : Option Value) (dp un : Nat) (gd : Option (List Code)) (env : Env) (outer : List Env) : Around :=
  { handled := hd, depth := dp, frames := some (env :: outer), guards := gd, units := un }

noncomputable def ads (l : Led) : List Addr := l.map (·.1)

structure OnBase (w : World) (mean : ExcName → Option Value) (mg mb : PySem.Str → Option Value) (base : Heap) : Prop where
  X : (KP w.params).In base
  T : Top VW (looseW VW []) mean mg mb base

structure Site (w : World) (mean : ExcName → Option Value) (mg mb : PySem.Str → Option Value) (k : Nat) (A A₀ : Around) (base : Heap) (env : Env) (outer : List Env) (s : Shared) (h₀ : Heap) (L : Addr) (m : PySem.Str → Option Value) : Prop where
  B : Below A₀ base outer h₀
  fr : A.frames = some (env :: outer)
  ef : env.frame = some L
  ek : env.scope.kind = .function
  F : Fr h₀ L s.heap m
  X : (KP w.params).In h₀
  T : Top VW (looseW VW []) mean mg mb h₀
  dep : A.depth + 2 * k < recursionLimit
  un : A.units + 16 * k < cLine
  O : OnBase w mean mg mb base

noncomputable def KeptAll (off : List Addr) (h h' : Heap) : Prop := ∀ b o, h.get? b = some o → b ∉ off → h'.get? b = some o

noncomputable def Fresh (h : Heap) (pre new : Led) : Prop := ∀ p ∈ new, p.1 ∈ ads pre ∨ h.get? p.1 = none

noncomputable def ConH (hd : Option Value) (w : World) (f : Addr) (k : Nat) (args : List Value) (fz pre : Led) (post : Value → Led → Prop) (rai : Addr → Option Int → Prop := fun _ _ => False) : Prop :=
  ∀ (mean : ExcName → Option Value) (mg mb : PySem.Str → Option Value) (A A₀ : Around) (base : Heap) (env : Env) (outer : List Env) (s : Shared) (h₀ : Heap) (L : Addr) (m : PySem.Str → Option Value) (Q E : Value → Shared → Prop),
    Site w mean mg mb k A A₀ base env outer s h₀ L m → A.handled = hd → News h₀ L s.heap pre → (∀ p ∈ fz, s.heap.get? p.1 = some p.2 ∧ p.1 ∉ ads pre) →
    (∀ v new h' tk, post v new → Fr h₀ L h' m → News h₀ L h' new → KeptAll (ads pre) s.heap h' → Fresh s.heap pre new → Q v { s with heap := h', toks := tk }) →
    (∀ C code e h' tk, rai C code → Fly (hideAll (hideAll s.heap (ads pre)) (frs (env :: outer))) (hideAll s.heap (ads pre)) (env :: outer) C code e true h' → E (.ref e) { s with heap := h', toks := tk }) →
    wpAny (model PySem.Challenge.rw_no0277_01.row.prog w) A (call (.ref f) args) Q E s

noncomputable abbrev Con := ConH none

noncomputable def Back (g : Heap) (L : Addr) (s₀ : Shared) (post : Value → Led → Prop) (v : Value) (s' : Shared) : Prop :=
  ∃ m' new h' tk, s' = { s₀ with heap := h', toks := tk } ∧ Fr g L h' m' ∧ News g L h' new ∧ post v new

theorem back {g : Heap} {L : Addr} {s₀ : Shared} {post : Value → Led → Prop} {v : Value} {h' : Heap} {tk : Nat} {m' : PySem.Str → Option Value} {new : Led} (F : Fr g L h' m') (N : News g L h' new) (p : post v new) :
    Back g L s₀ post v { s₀ with heap := h', toks := tk } := ⟨m', new, h', tk, rfl, F, N, p⟩

noncomputable def Out (g : Heap) (l : List Env) (s₀ : Shared) (rai : Addr → Option Int → Prop) (e : Value) (s' : Shared) : Prop :=
  ∃ C code a tr h' tk, rai C code ∧ e = .ref a ∧ s' = { s₀ with heap := h', toks := tk } ∧ Fly (hideAll g (frs l)) g l C code a tr h'

theorem out {g : Heap} {l : List Env} {s₀ : Shared} {rai : Addr → Option Int → Prop} {C e : Addr} {code : Option Int} {tr : Bool} {h' : Heap} {tk : Nat} (r : rai C code) (x : Fly (hideAll g (frs l)) g l C code e tr h') :
    Out g l s₀ rai (.ref e) { s₀ with heap := h', toks := tk } := ⟨C, code, e, tr, h', tk, r, rfl, rfl, x⟩

theorem hide_stays {g g' : Heap} {l l' : List Addr} (k : ∀ b o, g.get? b = some o → b ∉ l → g'.get? b = some o ∧ b ∉ l') : (hideAll g l).StaysIn (hideAll g' l') := fun b o q => by
  have n : b ∉ l := fun m => by rw [hideAll_none _ m] at q; cases q
  obtain ⟨h1, h2⟩ := k b o (of_hideAll _ q) n
  exact hideAll_get _ h1 h2

theorem con_intro0 {hd : Option Value} {w : World} {f : Addr} {k : Nat} {args : List Value} {fz pre : Led} {post : Value → Led → Prop} {rai : Addr → Option Int → Prop}
    {name qual : PySem.Str} {params : Arguments} {body : List Stmt} {scope : Scope} {dV kV doc pm cdv ct oc : Value} {an od : Option Addr} {osl : Array (Option Value)} {binds : List (PySem.Str × Value)}
    (ho : (KP w.params).lookup f = some ⟨oc, od, .func (fnOf name qual params body scope dV kV doc pm an cdv ct), osl⟩) (hcd : codeIn (KP w.params) cdv qual = true)
    (hbind : ∀ s : Shared, (KP w.params).In s.heap → BindsTo s (fnOf name qual params body scope dV kV doc pm an cdv ct) ⟨args, []⟩ binds) (hloc : ∀ y ∈ binds, scope.names.lookup y.1 = some .local)
    (hk0 : 0 < k)
    (h : ∀ (mean : ExcName → Option Value) (mg mb : PySem.Str → Option Value) (dp un : Nat) (gd : Option (List Code)) (env : Env) (outer : List Env) (base g : Heap) (L : Addr) (s : Shared) (h₁ : Heap),
      dp + 2 * k < recursionLimit → un + 16 * k < cLine → env.scope.kind = .function → s.heap.objs.size = L →
      (∀ p ∈ fz, g.get? p.1 = some p.2) → (∀ p ∈ pre, p.1 < L) →
      Fr g L h₁ (fun y => binds.reverse.lookup y) → News g L h₁ pre → Below (Arnd hd dp un gd env outer) base (env :: outer) g → (KP w.params).In g → Top VW (looseW VW []) mean mg mb g → OnBase w mean mg mb base →
      wpAny (model PySem.Challenge.rw_no0277_01.row.prog w) ((Arnd hd dp un gd env outer).deeper (envOf qual scope L f cdv)) (execs body (envOf qual scope L f cdv))
        (fun fl s' => Back g L s post (match fl with | .ret v => v | _ => .none) s')
        (Out g (envOf qual scope L f cdv :: env :: outer) s rai)
        { s with heap := h₁, toks := s.toks + binds.length })
    (hco : scope.isCoroutine = false) (hgen : scope.isGenerator = false) (hk : scope.kind = .function)
    (hcell : ∀ x ∈ scope.names, x.2 ≠ .cell) : ConH hd w f k args fz pre post rai := by
  intro mean mg mb A A₀ base env outer s h₀ L m Q E S hh N hfz hret hrai
  refine nnOf fun nO => ?_
  obtain ⟨B, hfr, hef, hek, F, X, T, dep, un, O⟩ := S <;> (refine nO ?_; clear nO)
  have Xs : (KP w.params).In s.heap := X.keeps F.keep
  refine nnOf fun nO => ?_
  obtain ⟨FG, BG, st, lv⟩ := groundX (R := fun r s' => match r with | .ok (.ret v) => Q v s' | .ok _ => False | .error e => E e s') B F N hfr hef hek <;> (refine nO ?_; clear nO)
  refine wpAny_call ?_
  refine codeAny_call_def (fd := fnOf name qual params body scope dV kV doc pm an cdv ct) (body := body) (binds := binds) (by lia) (Xs _ _ ho) rfl (T.nolimit.keeps F.keep) (codeRec_of Xs hcd) rfl (hbind s Xs) hcell hloc (fun h₁ hns hk₁ => ?_) hco hgen hk
  have hA : A = Arnd hd A.depth A.units A.guards env outer := by
    refine nnOf fun nO => ?_
    obtain ⟨hd, dp, fr, gd, u⟩ := A <;> (refine nO ?_; clear nO)
    simp only at hfr hh
    subst hfr; subst hh; rfl
  rw [hA] at BG ⊢
  have hg : ∀ b o, s.heap.get? b = some o → b ∉ ads pre → (hideAll s.heap (pre.map (·.1))).get? b = some o := fun b o q nb => hideAll_get _ q nb
  have w1 := h mean mg mb A.depth A.units A.guards env outer base (hideAll s.heap (pre.map (·.1))) s.heap.objs.size s h₁ (by lia) (by lia) hek rfl (fun p hp => hg _ _ (hfz p hp).1 (hfz p hp).2) (fun p hp => Heap.lt_size (N p hp).1)
    ⟨hns, fun b o e => hk₁ b o (of_hideAll _ e), Nat.le_of_eq (hideAll_size _ _)⟩
    (fun p hp => ⟨hk₁ _ _ (N p hp).1, Nat.ne_of_lt (Heap.lt_size (N p hp).1), hideAll_none _ (List.mem_map_of_mem hp)⟩) BG (X.keeps fun b o e => st b o e) (T.keeps fun b o e => st b o e) O
  refine wpAny_mono w1 (fun fl s' hl => ?_) (fun e s' hl => ?_)
  rotate_left
  · refine nnOf fun nO => ?_
    obtain ⟨C, code, a, tr, h', tk, hr, rfl, rfl, x⟩ := hl <;> (refine nO ?_; clear nO)
    refine fly_leave (L := s.heap.objs.size) rfl rfl x fun h'' y => ?_
    refine hrai C code a h'' tk hr (y.mono (hide_stays fun b o q nb => ⟨q, fun hb => ?_⟩) fun b o q => q)
    rcases List.mem_cons.mp hb with hb | hb
    · have := Heap.lt_size q; rw [hideAll_size, hb] at this; exact Nat.lt_irrefl _ this
    · exact nb hb
  refine nnOf fun nO => ?_
  obtain ⟨m', new, h', tk, rfl, F', N', hp⟩ := hl <;> (refine nO ?_; clear nO)
  refine lv _ _ ⟨_, m', new, F', N', fun kF kN => ?_⟩
  exact hret _ new h' tk hp kF kN (fun b o q nb => F'.keep b o (hg b o q nb)) fun p hq => by
    rcases Classical.em (p.1 ∈ ads pre) with q | q
    · exact .inl q
    · refine .inr ?_
      cases e : s.heap.get? p.1 with
      | none => rfl
      | some o => have := hg _ _ e q; rw [(N' p hq).2.2] at this; cases this

theorem con_intro {hd : Option Value} {w : World} {f : Addr} {k : Nat} {args : List Value} {fz pre : Led} {post : Value → Led → Prop} {rai : Addr → Option Int → Prop}
    {name qual : PySem.Str} {params : Arguments} {body body' : List Stmt} {scope scope' : Scope} {dV kV doc pm cdv ct oc : Value} {an od : Option Addr} {osl : Array (Option Value)} {binds : List (PySem.Str × Value)}
    (ho : (KP w.params).lookup f = some ⟨oc, od, .func (fnOf name qual params body scope dV kV doc pm an cdv ct), osl⟩) (hbody : body = body') (hscope : scope = scope') (hcd : codeIn (KP w.params) cdv qual = true)
    (hbind : ∀ s : Shared, (KP w.params).In s.heap → BindsTo s (fnOf name qual params body' scope' dV kV doc pm an cdv ct) ⟨args, []⟩ binds) (hloc : ∀ y ∈ binds, scope'.names.lookup y.1 = some .local)
    (hk0 : 0 < k)
    (h : ∀ (mean : ExcName → Option Value) (mg mb : PySem.Str → Option Value) (dp un : Nat) (gd : Option (List Code)) (env : Env) (outer : List Env) (base g : Heap) (L : Addr) (s : Shared) (h₁ : Heap),
      dp + 2 * k < recursionLimit → un + 16 * k < cLine → env.scope.kind = .function → s.heap.objs.size = L →
      (∀ p ∈ fz, g.get? p.1 = some p.2) → (∀ p ∈ pre, p.1 < L) →
      Fr g L h₁ (fun y => binds.reverse.lookup y) → News g L h₁ pre → Below (Arnd hd dp un gd env outer) base (env :: outer) g → (KP w.params).In g → Top VW (looseW VW []) mean mg mb g → OnBase w mean mg mb base →
      wpAny (model PySem.Challenge.rw_no0277_01.row.prog w) ((Arnd hd dp un gd env outer).deeper (envOf qual scope' L f cdv)) (execs body' (envOf qual scope' L f cdv))
        (fun fl s' => Back g L s post (match fl with | .ret v => v | _ => .none) s')
        (Out g (envOf qual scope' L f cdv :: env :: outer) s rai)
        { s with heap := h₁, toks := s.toks + binds.length })
    (hco : scope'.isCoroutine = false) (hgen : scope'.isGenerator = false) (hk : scope'.kind = .function)
    (hcell : ∀ x ∈ scope'.names, x.2 ≠ .cell) : ConH hd w f k args fz pre post rai := by
  subst hbody; subst hscope
  exact con_intro0 ho hcd hbind hloc hk0 h hco hgen hk hcell

theorem con_use {hd : Option Value} {w : World} {f : Addr} {k : Nat} {args : List Value} {fz pre : Led} {post : Value → Led → Prop} {rai : Addr → Option Int → Prop} (C : ConH hd w f k args fz pre post rai)
    {mean : ExcName → Option Value} {mg mb : PySem.Str → Option Value} {A A₀ : Around} {base : Heap} {env : Env} {outer : List Env} {s : Shared} {h₀ : Heap} {L : Addr} {m : PySem.Str → Option Value} {N0 rest : Led} {Q E : Value → Shared → Prop}
    (S : Site w mean mg mb k A A₀ base env outer s h₀ L m) (hh : A.handled = hd) (N : News h₀ L s.heap N0) (hp : ∀ p ∈ pre, p ∈ N0) (hz : ∀ p ∈ fz, s.heap.get? p.1 = some p.2 ∧ p.1 ∉ ads pre) (hr : ∀ p ∈ rest, p ∈ N0 ∧ p.1 ∉ ads pre)
    (ret : ∀ v new h' tk, post v new → Fr h₀ L h' m → News h₀ L h' (new ++ rest) → (∀ p ∈ new, p.1 ∈ ads pre ∨ (∀ q ∈ N0, q.1 ≠ p.1)) → KeptAll (ads pre) s.heap h' → Q v { s with heap := h', toks := tk })
    (rais : ∀ C code e h' tk, rai C code → Fly (hideAll h₀ (frs (env :: outer))) (hideAll s.heap (ads pre)) (env :: outer) C code e true h' → E (.ref e) { s with heap := h', toks := tk }) :
    wpAny (model PySem.Challenge.rw_no0277_01.row.prog w) A (call (.ref f) args) Q E s := by
  refine C mean mg mb A A₀ base env outer s h₀ L m Q E S hh (fun p q => N p (hp p q)) hz (fun v new h' tk pv F' N' hk hf => ?_) (fun C code e h' tk r x => rais C code e h' tk r (x.mono (hide_stays fun b o q nb => ⟨hideAll_get _ (S.F.keep b o q) fun hb => ?_, nb⟩) fun b o q => q))
  rotate_left
  · obtain ⟨p, hp', rfl⟩ := List.mem_map.mp hb
    have := (N p (hp p hp')).2.2; rw [q] at this; cases this
  refine ret v new h' tk pv F' (fun p hq => ?_) (fun p hq => ?_) hk
  · rcases List.mem_append.mp hq with hq | hq
    · exact N' p hq
    · obtain ⟨h1, h2⟩ := hr p hq
      exact ⟨hk _ _ (N p h1).1 h2, (N p h1).2⟩
  · refine (hf p hq).imp (fun x => x) fun x q hq' e => by have := (N q hq').1; rw [e, x] at this; cases this

noncomputable def S (l : List Nat) : PySem.Str := ⟨l.toArray⟩
noncomputable def tupO (vs : List Value) : Obj := { cls := .type "tuple", data := .seq vs.toArray }

theorem wpAny_pyIter_strI {prog : Program} {w : World} {A : Around} {E : Value → Shared → Prop} {s : Shared} {x : PySem.Str} {t : Tok} {Q : Value → Shared → Prop}
    (hQ : ∀ (o : Obj) (St : Nat → Heap → Prop), (∀ A' : Around, A'.handled = none → Walks prog w A' s.heap.objs.size [s.heap.objs.size] [s.heap.objs.size] x.cps.size (SignAt x) St) → St 0 (s.heap.push o) →
      (∀ i h, St i h → ∃ o, h.get? s.heap.objs.size = some o) → Q (.ref s.heap.objs.size) { s with heap := s.heap.push o }) : wpAny (model prog w) A (pyIter (.str x t)) Q E s := by
  cases ha : x.cps.all (· < 128)
  · exact wpAny_pyIter_wide ha (hQ _ _ (fun A' hA => Walks.strWide hA _ x t) ⟨_, Heap.get?_push_size _ rfl, rfl, rfl⟩ fun i h e => ⟨_, e.choose_spec.1⟩)
  · exact wpAny_pyIter_ascii ha (hQ _ _ (fun A' hA => Walks.strAscii hA _ x t) ⟨_, Heap.get?_push_size _ rfl, rfl, rfl⟩ fun i h e => ⟨_, e.choose_spec.1⟩)

theorem next_free {g : Heap} {L : Addr} {h : Heap} {m : PySem.Str → Option Value} (F : Fr g L h m) : g.get? h.objs.size = none ∧ h.objs.size ≠ L := by
  refine ⟨?_, fun e => ?_⟩
  · cases q : g.get? h.objs.size with
    | none => rfl
    | some o' => exact absurd (Heap.lt_size (F.keep _ _ q)) (Nat.lt_irrefl _)
  · obtain ⟨oL, _, _, hL, _⟩ := F.ns
    exact absurd (Heap.lt_size hL) (e ▸ Nat.lt_irrefl _)

end
section
open PySem PySem.W PySem.Spec PySem.Calls PyProof.Rows PySem.StrLaws Builtin Builtin.Str

theorem S_cps (l : List Nat) : (S l).cps.toList = l := rfl
theorem S_len (l : List Nat) : (S l).length = l.length := by simp [S, Str.length]
theorem S_inj {a b : List Nat} : S a = S b ↔ a = b := by
  constructor
  · intro h; have := congrArg (fun x : PySem.Str => x.cps.toList) h; simpa [S] using this
  · rintro rfl; rfl
theorem S_app (a b : List Nat) : S a ++ S b = S (a ++ b) := by
  apply Str.ext'
  show _ = (a ++ b).toArray
  rw [Str.cps_append]
  simp [S]
theorem S_beq (a b : List Nat) : (S a == S b) = decide (a = b) := by
  rw [Bool.eq_iff_iff, beq_iff_eq, S_inj, decide_eq_true_eq]
theorem S_eta (x : PySem.Str) : S x.cps.toList = x := by apply Str.ext'; simp [S]

theorem pick_range {l : List Nat} {a n : Nat} (h : a + n ≤ l.length) : ((List.range n).map (fun k => a + k)).filterMap (l[·]?) = (l.drop a).take n := by
  induction n generalizing a with
  | zero => simp
  | succ n ih =>
    rw [List.range_succ_eq_map, List.map_cons, List.filterMap_cons]
    have ha : a < l.length := by lia
    rw [Nat.add_zero, List.getElem?_eq_getElem ha]
    dsimp only
    rw [List.map_map, List.drop_eq_getElem_cons ha, List.take_succ_cons]
    congr 1
    rw [← ih (a := a + 1) (by lia)]
    congr 1
    apply List.map_congr_left
    intro k _
    show a + (k + 1) = a + 1 + k
    lia

theorem minI (a n : Nat) : min (a : Int) (n : Int) = ((min a n : Nat) : Int) := by
  rcases Nat.le_total a n with h | h
  · rw [Nat.min_eq_left h, Int.min_eq_left (Int.ofNat_le.mpr h)]
  · rw [Nat.min_eq_right h, Int.min_eq_right (Int.ofNat_le.mpr h)]
theorem mxn (a n : Nat) : max (0 : Int) (min (a : Int) (n : Int)) = ((min a n : Nat) : Int) := by
  rw [minI]; exact Int.max_eq_right (Int.natCast_nonneg _)
theorem rng_clip (x y : Nat) : (if (x : Int) < (y : Int) then ((y : Int) - x + 1 - 1) / 1 else 0) = (if (x : Int) < ((max x y : Nat) : Int) then (((max x y : Nat) : Int) - x + 1 - 1) / 1 else 0) := by
  by_cases h : x < y
  · rw [Nat.max_eq_right (Nat.le_of_lt h)]
  · rw [Nat.max_eq_left (Nat.le_of_not_lt h), if_neg (fun q => h (Int.ofNat_lt.mp q)), if_neg (Int.lt_irrefl _)]
theorem nneg (n : Nat) : ¬ ((n : Int) < 0) := Int.not_lt.mpr (Int.natCast_nonneg n)
theorem maxle (a b n : Nat) : max (min a n) (min b n) ≤ n := Nat.max_le.mpr ⟨Nat.min_le_right _ _, Nat.min_le_right _ _⟩
theorem idx_clip (a b n : Nat) : strSliceIndices (some (a : Int)) (some (b : Int)) 1 n = strSliceIndices (some ((min a n : Nat) : Int)) (some ((max (min a n) (min b n) : Nat) : Int)) 1 n := by
  unfold strSliceIndices
  simp only [nneg a, nneg b, nneg (min a n), nneg (max (min a n) (min b n)), if_false, mxn a n, mxn b n, mxn (min a n) n, mxn (max (min a n) (min b n)) n, show ((1 : Int) > 0) = True from eq_true (by decide), if_true, Nat.min_eq_left (maxle a b n), Nat.min_eq_left (Nat.min_le_right a n)]
  unfold sliceRange
  simp only [show ((1 : Int) > 0) = True from eq_true (by decide), if_true]
  rw [rng_clip]
theorem drop_clip (l : List Nat) (a b : Nat) : (l.drop (min a l.length)).take (max (min a l.length) (min b l.length) - min a l.length) = (l.take b).drop a := by
  rw [List.drop_take]
  rcases Nat.le_total a l.length with h | h
  · rw [Nat.min_eq_left h, List.take_eq_take_min, List.take_eq_take_min (i := b - a), List.length_drop]
    rcases Nat.le_total b l.length with h2 | h2
    · rw [Nat.min_eq_left h2]
      rcases Nat.le_total a b with h3 | h3
      · rw [Nat.max_eq_right h3]
      · rw [Nat.max_eq_left h3, Nat.sub_self, Nat.sub_eq_zero_of_le h3]
    · rw [Nat.min_eq_right h2, Nat.max_eq_right h, Nat.min_self, Nat.min_eq_right (Nat.sub_le_sub_right h2 a)]
  · rw [Nat.min_eq_right h, List.drop_eq_nil_of_le (Nat.le_refl _), List.drop_eq_nil_of_le h, List.take_nil, List.take_nil]
theorem slice_ft (l : List Nat) (a b : Nat) : Txt.slice (S l) (some (a : Int)) (some (b : Int)) = S ((l.take b).drop a) := by
  unfold Txt.slice
  rw [idx_clip, S_len, strSliceIndices_plain (Nat.le_max_left _ _) (maxle a b l.length)]
  have hM := maxle a b l.length
  rw [← drop_clip]
  generalize max (min a l.length) (min b l.length) = M at *
  generalize min a l.length = m at *
  by_cases hm : M ≤ m
  · rw [Nat.sub_eq_zero_of_le hm]
    split
    · rename_i h
      rw [List.eq_nil_of_length_eq_zero (l := l) (by simpa using h : 0 = l.length).symm]; simp
    · rfl
  have e : (fun x : Nat => (S l).cps[x]?) = (fun x : Nat => l[x]?) := by funext x; simp [S]
  have hp := pick_range (l := l) (a := m) (n := M - m) (by rw [Nat.add_sub_cancel' (Nat.le_of_not_le hm)]; exact hM)
  split
  · rename_i h
    have hl : M - m = l.length := by simpa using h
    rw [S_inj]
    exact (((List.take_sublist _ _).trans (List.drop_sublist _ _)).eq_of_length (by rw [List.length_take, List.length_drop, Nat.min_eq_left (Nat.sub_le_sub_right hM m)]; exact hl)).symm
  · rw [e, hp]; rfl
theorem slice_to (l : List Nat) (b : Nat) : Txt.slice (S l) none (some (b : Int)) = S (l.take b) := by
  have e : Txt.slice (S l) none (some (b : Int)) = Txt.slice (S l) (some ((0 : Nat) : Int)) (some (b : Int)) := by
    unfold Txt.slice; rw [sliceIdx_none_lo]; rfl
  rw [e, slice_ft, List.drop_zero]
theorem slice_from (l : List Nat) (a : Nat) : Txt.slice (S l) (some (a : Int)) none = S (l.drop a) := by
  have e : Txt.slice (S l) (some (a : Int)) none = Txt.slice (S l) (some (a : Int)) (some ((l.length : Nat) : Int)) := by
    unfold Txt.slice; rw [sliceIdx_none_hi]; rw [S_len]
  rw [e, slice_ft, List.take_length]

noncomputable def idxI (l : List Nat) (c : Nat) : Int := match l.idxOf? c with | some i => (i : Int) | none => -1
theorem S_find (l : List Nat) (c : Nat) : Txt.find (S l) (S [c]) = idxI l c := by
  unfold Txt.find idxI
  have at_iff : ∀ i, At (S l) (S [c]) (S l).length i ↔ l[i]? = some c := fun i => subAt_one (S l) c i
  rcases occ_head (S l) (S [c]) 1 (Nat.le_refl 1) with ⟨h0, hn⟩ | ⟨i, r, h0, ha, hn⟩
  · rw [h0]
    have : l.idxOf? c = none := by
      rw [List.idxOf?_eq_none_iff]
      intro hm
      obtain ⟨i, hi⟩ := List.mem_iff_getElem?.mp hm
      exact hn i ((at_iff i).mpr hi)
    rw [this]
  · rw [h0]
    have hi := (at_iff i).mp ha
    have : l.idxOf? c = some i := by
      rw [List.idxOf?, List.findIdx?_eq_some_iff_getElem]
      obtain ⟨hlt, he⟩ := List.getElem?_eq_some_iff.mp hi
      refine ⟨hlt, by simpa using he, fun j hj => ?_⟩
      have := hn j hj
      intro hc
      apply this
      rw [at_iff]
      rw [List.getElem?_eq_getElem (by lia)]
      simpa using hc
    rw [this]

theorem S_item {l : List Nat} {i : Nat} {c : Nat} (h : l[i]? = some c) : Txt.item (S l) (i : Int) = S [c] := by
  unfold Txt.item Txt.charAt
  obtain ⟨hlt, he⟩ := List.getElem?_eq_some_iff.mp h
  rw [S_len]
  have : seqIndex? (i : Int) l.length = some i := by
    unfold seqIndex?
    have h0 : ¬ ((i : Int) < 0) := by lia
    simp only [h0, if_false]
    rw [if_pos (by simp; lia)]
    simp
  rw [this]
  simp [S, hlt, he]
theorem lit_nil : PySem.Str.ofString "" = S [] := by kernel_rfl
theorem lit_blank : PySem.Str.ofString " " = S [32] := by kernel_rfl
theorem lit_comma : PySem.Str.ofString "," = S [44] := by kernel_rfl
theorem lit_slash : PySem.Str.ofString "/" = S [47] := by kernel_rfl
theorem lit_figs : PySem.Str.ofString "0123456789" = S [48, 49, 50, 51, 52, 53, 54, 55, 56, 57] := by kernel_rfl

noncomputable def IsI (v : Value) (n : Int) : Prop := ∃ t, v = .int n t
noncomputable def IsS (v : Value) (l : List Nat) : Prop := ∃ t, v = .str (S l) t
theorem isI {n m : Int} {t : Tok} (h : n = m) : IsI (.int n t) m := ⟨t, by rw [h]⟩
theorem isS {x : PySem.Str} {l : List Nat} {t : Tok} (h : x = S l) : IsS (.str x t) l := ⟨t, by rw [h]⟩

noncomputable def isDig (c : Nat) : Bool := 48 ≤ c && c ≤ 57
theorem figs58 : ∀ y ∈ [48, 49, 50, 51, 52, 53, 54, 55, 56, 57], y < 58 := by decide
theorem notDig {c : Nat} (h : ¬ c < 58) : isDig c = false := by
  unfold isDig
  rw [decide_eq_false (fun q : c ≤ 57 => h (Nat.lt_succ_of_le q)), Bool.and_false]
theorem find_figs (c : Nat) : Txt.find (PySem.Str.ofString "0123456789") (S [c]) = if isDig c then (c : Int) - 48 else -1 := by
  rw [lit_figs, S_find]
  by_cases h : c < 58
  · exact (by decide +kernel : ∀ c < 58, idxI [48, 49, 50, 51, 52, 53, 54, 55, 56, 57] c = if isDig c then (c : Int) - 48 else -1) c h
  · rw [notDig h]
    unfold idxI
    rw [List.idxOf?_eq_none_iff.mpr fun hm => h (figs58 c hm)]; rfl
end
section
open PySem PySem.W PySem.Spec

structure Tail (B : String) (bm : List Value) : Prop where
  hasB : bm.contains (.type B) = true
  hasBase : bm.contains (.type "BaseException") = true
  noAttr : bm.contains (.type "AttributeError") = false
  noName : bm.contains (.type "NameError") = false

section
variable {M : Model} {A : Around} {E : Value → Shared → Prop} {h : Heap} {g : Array GenState} {d : Drawn} {t : Nat} {os : OsState}
variable {nm q : PySem.Str} {C N : Addr} {bs bm bmB : List Value} {hdct : Bool} {sn : List PySem.Str} {sub : List Value} {ab : Bool} {col : Option Bool} {dd : Option Addr} {k0 k1 k2 k3 k5 : Option Value} {B newId initId : String}

theorem x_check (F : ExcBaseFacts B newId initId bmB) (T : Tail B bm) {rest : List Value} {Q : Unit → Shared → Prop} (hC : h.get? C = some (excClassObj nm q C N bs bm hdct sn sub ab col dd k0 k1 k2 k3 k5 newId))
    (hq : Q () ⟨h, g, d, t, os⟩) : wpAny M A (checkBuiltinCall newId ⟨.ref C :: rest, []⟩) Q E ⟨h, g, d, t, os⟩ := by
  have c1 : (Value.ref C :: bm).contains (.type B) = true := by rw [List.contains_cons, T.hasB, Bool.or_true]
  have c2 := F.noStar
  simp only [checkBuiltinCall, F.newKind, F.newSplit, F.newRow]
  repeat (first | refine wpAny_loadPart_at hC ?_ | (refine wpAny_isSubtype_exc hC ?_; rw [c1]) | refine wpAny_staticBase_exc hC ?_ | refine wpAny_madeBy_exc hC ?_ | simp only [bne_self_eq_false, Bool.false_eq_true, if_false] | wp_step)
  exact hq
end

noncomputable abbrev excAt (C t : Addr) : Obj := { cls := .ref C, data := .fields #[.ref t, .none, .none, .none, .bool false, .none] }
noncomputable abbrev tupAt (rest : List Value) : Obj := { cls := .type "tuple", data := .seq rest.toArray }

section
variable {prog : Program} {w : World} {A : Around} {R : Result → Shared → Prop} {h : Heap} {g : Array GenState} {d : Drawn} {t : Nat} {os : OsState}
variable {nm q : PySem.Str} {C N : Addr} {bs bm bmB : List Value} {hdct : Bool} {sn : List PySem.Str} {sub : List Value} {ab : Bool} {col : Option Bool} {dd : Option Addr} {k0 k1 k2 k3 k5 : Option Value} {B newId initId : String}

theorem x_new (F : ExcBaseFacts B newId initId bmB) (T : Tail B bm) {rest : List Value} (hC : h.get? C = some (excClassObj nm q C N bs bm hdct sn sub ab col dd k0 k1 k2 k3 k5 newId))
    (hq : R (.ok (.ret (.ref (h.objs.size + 1)))) ⟨(h.push (tupAt rest)).push (excAt C h.objs.size), g, d, t, os⟩) (hrest : rest.length ≤ sizeLine) :
    codeAny (model prog w) A (.builtin newId ⟨.ref C :: rest, []⟩) R ⟨h, g, d, t, os⟩ := by
  have hends := F.ends
  have c1 : (Value.ref C :: bm).contains (.type B) = true := by rw [List.contains_cons, T.hasB, Bool.or_true]
  have c2 : (Value.ref C :: bm).contains (.type "AttributeError") = false := by rw [List.contains_cons, T.noAttr]; rfl
  have c3 : (Value.ref C :: bm).contains (.type "NameError") = false := by rw [List.contains_cons, T.noName]; rfl
  refine codeAny_builtinAt F.entry ?_
  unfold Builtin.«BaseException.__new__»
  refine wpAt_bind ?_
  show wpAt _ _ _ (stack >>= _) _ _ _
  refine wpAt_bind (wpAt_stack fun p below => wpAt_of_wpAny ?_)
  wp_walk
  refine wpAt_of_wpAny ?_
  rw [F.owner]
  repeat (first | with_reducible refine wpAny_madeHere_exc F.canon hC ?_ | with_reducible refine wpAny_loadPart_at hC ?_ | (with_reducible refine wpAny_isSubtype_exc hC ?_; first | rw [c1] | rw [c2] | rw [c3]) | wp_step)
  show R _ _
  rw [Heap.size_push]
  exact hq
end

section
variable {prog : Program} {w : World} {A : Around} {E : Value → Shared → Prop} {h : Heap} {g : Array GenState} {d : Drawn} {t : Nat} {os : OsState}
variable {nm q : PySem.Str} {C N : Addr} {bs bm bmB : List Value} {hdct : Bool} {sn : List PySem.Str} {sub : List Value} {ab : Bool} {col : Option Bool} {dd : Option Addr} {k0 k1 k2 k3 k5 : Option Value} {B newId initId : String}

theorem x_run (F : ExcBaseFacts B newId initId bmB) (T : Tail B bm) {rest : List Value} {fI : Addr} {oI : Obj} {Q : Fin → Shared → Prop}
    (hC : h.get? C = some (excClassObj nm q C N bs bm hdct sn sub ab col dd k0 k1 k2 k3 k5 newId)) (hi : Looks (model prog w) h (typeLookup (.ref C) "__init__") (some (.ref fI)))
    (hfI : h.get? fI = some oI) (hfc : oI.cls = .type "function") (hrest : rest.length ≤ sizeLine)
    (hq : wpAny (model prog w) A (call (.ref fI) (.ref (h.objs.size + 1) :: rest)) (fun r s' => r = .none ∧ Q (.done (.ret (.ref (h.objs.size + 1)))) s') E ⟨(h.push (tupAt rest)).push (excAt C h.objs.size), g, d, t, os⟩) :
    wpAny (model prog w) A (Builtin.«type.__call__» ⟨.ref C :: rest, []⟩) Q E ⟨h, g, d, t, os⟩ := by
  repeat (first | with_reducible refine wpAny_loadPart_at hC ?_ | with_reducible refine wpAny_madeBy_exc hC ?_ | wp_step)
  refine codeAny_call_builtin_code (Code.quiet_builtin _ F.quiet) (x_check F T hC ?_)
  refine x_new F T hC ?_ hrest
  show wpAny _ _ _ _ _ _
  have k : ∀ b o, h.get? b = some o → ((h.push (tupAt rest)).push (excAt C h.objs.size)).get? b = some o := fun b o e => Heap.get?_push_of_some _ (Heap.get?_push_of_some _ e)
  have hC₁ := k _ _ hC
  have hfI₁ := k _ _ hfI
  have hget : ((h.push (tupAt rest)).push (excAt C h.objs.size)).get? (h.objs.size + 1) = some (excAt C h.objs.size) := by heap_get
  have hcC : (Value.ref C :: bm).contains (.ref C) = true := by simp
  unfold isInstance
  repeat (first | with_reducible refine wpAny_loadPart_at hget ?_ | (with_reducible refine wpAny_isSubtype_exc hC₁ ?_; rw [hcC]) | wp_step)
  show wpAny _ _ (typeLookup (.ref C) _) _ _ _
  refine hi _ _ _ _ k ?_
  refine wpAny_holding (wpAny_bind ?_)
  unfold bindSpecial
  refine wpAny_bind (wpAny_typeOf (T := "function") ⟨_, hfI₁, hfc⟩ ?_)
  rw [if_pos (by decide)]
  refine wpAny_pure (wpAny_bind (wpAny_mono hq (fun r s' hr => ?_) fun _ _ x => x))
  obtain ⟨rfl, hQ⟩ := hr
  wp_walk
  exact hQ

theorem x_call (F : ExcBaseFacts B newId initId bmB) (T : Tail B bm) {rest : List Value} {fI : Addr} {oI : Obj} {Q : Value → Shared → Prop}
    (hC : h.get? C = some (excClassObj nm q C N bs bm hdct sn sub ab col dd k0 k1 k2 k3 k5 newId)) (hi : Looks (model prog w) h (typeLookup (.ref C) "__init__") (some (.ref fI)))
    (hfI : h.get? fI = some oI) (hfc : oI.cls = .type "function") (hrest : rest.length ≤ sizeLine)
    (hq : wpAny (model prog w) (A.under (.builtin "type.__call__" ⟨.ref C :: rest, []⟩)) (call (.ref fI) (.ref (h.objs.size + 1) :: rest)) (fun r s' => r = .none ∧ Q (.ref (h.objs.size + 1)) s') E ⟨(h.push (tupAt rest)).push (excAt C h.objs.size), g, d, t, os⟩) :
    wpAny (model prog w) A (call (.ref C) rest) Q E ⟨h, g, d, t, os⟩ := by
  have f1 := tc_lookup
  have f2 := tc_bind (.ref C)
  have hT : (⟨h, g, d, t, os⟩ : Shared).TypeIs (.ref C) "type" := ⟨_, hC, rfl⟩
  refine wpAny_call (codeAny_of_tree ?_)
  show wpAny _ _ (callAny (.ref C) _) _ _ _
  repeat (any_goals (first | assumption | with_reducible refine wpAny_loadPart_at hC ?_ | wp_step))
  refine ⟨rfl, ?_⟩
  exact codeAny_call_builtin_at (Code.quiet_builtin _ (by decide +kernel)) entry_typeCall (wpAny_check_type_call_sub hC (x_run F T hC hi hfI hfc hrest hq))
end

end
section
open PySem PySem.W PySem.Spec PySem.Calls PyProof.Rows Builtin Builtin.ObjectAttr

section
variable {M : Model} {A : Around} {E : Value → Shared → Prop} {h : Heap} {g : Array GenState} {d : Drawn} {t : Nat} {os : OsState}
variable {nm q : PySem.Str} {C N : Addr} {bs bm bmB : List Value} {hdct : Bool} {sn : List PySem.Str} {sub : List Value} {ab : Bool} {col : Option Bool} {dd : Option Addr} {k0 k1 k2 k3 k5 : Option Value} {B newId initId : String}

theorem e_check (F : ExcBaseFacts B newId initId bmB) (T : Tail B bm) {e : Addr} {oe : Obj} {rest : List Value} {Q : Unit → Shared → Prop}
    (hC : h.get? C = some (excClassObj nm q C N bs bm hdct sn sub ab col dd k0 k1 k2 k3 k5 newId)) (he : h.get? e = some oe) (hcls : oe.cls = .ref C) (hq : Q () ⟨h, g, d, t, os⟩) :
    wpAny M A (checkBuiltinCall initId ⟨.ref e :: rest, []⟩) Q E ⟨h, g, d, t, os⟩ := by
  have c1 : (Value.ref C :: bm).contains (.type B) = true := by rw [List.contains_cons, T.hasB, Bool.or_true]
  have c2 := F.noStar
  simp only [checkBuiltinCall, F.initKind, F.initSplit, F.initRow]
  repeat (first | (with_reducible refine wpAny_loadPart_at he ?_; rw [hcls]) | with_reducible refine wpAny_loadPart_at hC ?_ | (with_reducible refine wpAny_isSubtype_exc hC ?_; rw [c1]) | wp_step)
  refine wpAny_onRaise ?_
  rw [show ∀ (a b : String) (n : Nat), Bind.check ⟨.positional, "*", B, .self, [⟨"args", .varPos, false⟩]⟩ a b n (List.map (fun x => x.fst) ({ pos := Value.ref e :: rest } : Args).kw) = pure () from
    fun a b n => check_star_args _ _ _ _ _ _]
  exact wpAny_pure hq
end

section
variable {prog : Program} {w : World} {A : Around} {E : Value → Shared → Prop} {s : Shared} {K : Frag} {C e : Addr}
variable {nm q : PySem.Str} {N : Addr} {bs bm bmB : List Value} {hdct : Bool} {sn : List PySem.Str} {sub : List Value} {ab : Bool} {col : Option Bool} {dd : Option Addr} {k0 k1 k2 k3 k5 : Option Value} {B newId initId : String}

theorem e_init (F : ExcBaseFacts B newId initId bmB) (T : Tail B bm) {t0 : Addr} {rest : List Value} {Q : Value → Shared → Prop}
    (hC : s.heap.get? C = some (excClassObj nm q C N bs bm hdct sn sub ab col dd k0 k1 k2 k3 k5 newId)) (he : s.heap.get? e = some (excAt C t0)) (hrest : rest.length ≤ sizeLine)
    (hq : Q .none { s with heap := (s.heap.push (tupAt rest)).update e (Obj.mapFields (·.setIfInBounds 0 (.ref s.heap.objs.size))) }) : wpAny (model prog w) A (call (.builtin initId) (.ref e :: rest)) Q E s := by
  obtain ⟨h, g, d, t, os⟩ := s
  refine wpAny_call (codeAny_call_builtin F.init.plain F.initEntry (e_check F T hC he rfl ?_))
  dsimp only at he hC hq ⊢
  wp_walk
  exact hq

theorem e_open {ox : Obj} {od : Option Obj} {x : Addr} {name : PySem.Str} {tk : Tok} {v : Value} {cd : ClassData} {R : Result → Shared → Prop} (X : K.In s.heap) (I : InstAt s.heap x ox C od) (hc : clsIn K C = some cd)
    (hp : refuseLoop (.ref x) "__setattr__" cd.mro = pure ()) (hh : cd.mro.contains (.type "object") = true) (ht : takerIn K C name = some none)
    (h : ∀ b, wpAny (model prog w) A.in1 (storeInOwnDict (.ref x) (.ref C) (.str name tk) name v b)
      (fun fin s' => match fin with | .done f => R (.ok f) s' | .again c' => c'.quiet = true ∧ codeAny (model prog w) A c' R s') (fun e s' => R (.error e) s') s) :
    codeAny (model prog w) A (.call (.builtin "object.__setattr__") ⟨[.ref x, .str name tk, v], []⟩) R s := by
  have SF := PySem.F.store_object
  have ne : cd.mro.isEmpty = false := by cases q : cd.mro with | nil => rw [q] at hh; cases hh | cons _ _ => rfl
  have sub : Looks (model prog w) s.heap (isInstance (.ref x) (.type "object")) true := I.type.andThen (looks_mroIn X (by unfold mroIn; rw [hc, Option.bind_some, if_neg (by rw [ne]; decide), hh]))
  refine codeAny_call_builtin SF.slot.plain SF.entry (@check_slot (model prog w) _ _ s "object.__setattr__" "object" "__setattr__" (.ref x) [.str name tk, v] [] _ SF.kind SF.split sub (SF.args (.ref x) (.str name tk) v) ?_)
  obtain ⟨attr, ha, hr⟩ := Option.bind_eq_some_iff.mp ht
  have hm : Looks (model prog w) s.heap (mroOf (.ref C)) cd.mro := (looks_clsIn X hc).andThen .now
  have L3 : Looks (model prog w) s.heap (storeTaker? attr) none := by
    cases attr with
    | none => cases hr; exact .now
    | some a =>
      obtain ⟨b, hb, hb'⟩ := Option.map_eq_some_iff.mp hr
      refine (looks_takesIn X hb).andThen ?_
      cases b
      · exact .now
      · cases hb'
  rw [osa_eq, refuse_eq]
  refine wpAny_bind (wpAny_bind (I.type.here (wpAny_bind (hm.here ?_))))
  rw [hp]
  exact wpAny_pure (wpAny_bind (I.type.here (wpAny_bind ((looks_findIn X ha).here (wpAny_bind (L3.here (h _)))))))

theorem putL_len (name : PySem.Str) (hs : Int) (key v : Value) : ∀ es : List DictEntry, (putL name hs key v es).length ≤ es.length + 1
  | [] => Nat.le_refl _
  | e :: r => by
    unfold putL
    split
    · simp
    · have := putL_len name hs key v r
      simp only [List.length_cons]; lia

theorem e_store {A' : Around} {E' : Value → Shared → Prop} {d : Addr} {name : PySem.Str} {tk : Tok} {v : Value} {es : List DictEntry} {n : Nat} {Q : Fin → Shared → Prop}
    (hd : s.heap.get? d = some (dictOf es n)) (hr : es.any (·.refKey) = false) (hz : es.length ≤ 1000)
    (h : Q (.done (.ret .none)) { s with heap := s.heap.update d (Obj.putName name (PyData.keyHash w.params name) (.str name s.toks) v), toks := s.toks + 1 }) :
    wpAny (model prog w) A' (storeInDict d (.str name tk) name v) Q E' s := by
  refine wpAny_bind (wpAny_pure (wpAny_bind ?_))
  unfold nsSet
  refine wpAny_bind (wpAny_bind (wpAny_askSetting (wpAny_pure (wpAny_bind (wpAny_mkText (wpAny_bind (wpAny_loadPart hd ?_)))))))
  have q : (dictOf es n).data = .dict es.toArray n := rfl
  rw [q]
  dsimp only
  have c : (!es.toArray.any (·.key.isStr name) && es.toArray.any (·.refKey)) = false := by
    rw [← Array.any_toList, ← Array.any_toList]
    show (_ && es.any _) = false
    rw [hr, Bool.and_false]
  rw [aRefKeyMayBeTheName_at, c]
  refine wpAny_updatePart hd ?_
  refine wpAny_bind (wpAny_lookBehind (Heap.get?_update_self _ hd (by rw [putName_dict]; rfl)) (by rw [putName_dict]; exact pastItsLine_dict (by rw [List.size_toArray, sizeLine_eq]; exact Nat.le_trans (putL_len _ _ _ _ es) (by lia))) ?_)
  exact wpAny_pure h
end

end
section
open PySem PySem.W PySem.Spec PySem.Calls PyProof.Rows Builtin Builtin.ObjectAttr

noncomputable abbrev dexc (C d t : Addr) : Obj := { cls := .ref C, dict := some d, data := .fields #[.ref t, .none, .none, .none, .bool false, .none] }

section
variable {prog : Program} {w : World} {A : Around} {E : Value → Shared → Prop} {s : Shared} {K : Frag} {C e t L : Addr} {h₀ : Heap} {m : PySem.Str → Option Value} {name : PySem.Str} {v : Value} {cd : ClassData} {Q : Unit → Shared → Prop}

theorem e_set0 (F : Fr h₀ L s.heap m) (X : K.In h₀) (N : News h₀ L s.heap [(e, excAt C t)]) (hc : clsIn K C = some cd)
    (hp : refuseLoop (.ref e) "__setattr__" cd.mro = pure ()) (hh : cd.mro.contains (.type "object") = true) (hdct : cd.hasDict = true) (ht : takerIn K C name = some none)
    (hs : findIn K (.ref C) "__setattr__" = some (some (.builtin "object.__setattr__")))
    (h : ∀ d tk h', Fr h₀ L h' m → News h₀ L h' [(e, dexc C d t), (d, dictOf [⟨PyData.keyHash w.params name, .str name tk, v⟩] 1)] → d ≠ e → Q () { s with heap := h', toks := s.toks + 2 }) :
    wpAny (model prog w) A (setAttr (.ref e) name v) Q E s := by
  have X' := X.keeps F.keep
  have he := (N _ (.head _)).1
  dsimp only at he
  have I : InstAt s.heap e (excAt C t) C none := ⟨he, rfl, rfl, trivial⟩
  refine set_plain X' I hs (e_open (s := { s with toks := s.toks + 1 }) X' I hc hp hh ht fun b => ?_)
  unfold storeInOwnDict ownDictForStores
  refine wpAny_bind (wpAny_pure (wpAny_bind ?_))
  show wpAny _ _ (instanceDict e true) _ _ _
  unfold instanceDict
  refine wpAny_bind (wpAny_loadPart he ?_)
  dsimp only
  refine wpAny_bind (looks_clsIn (M := model prog w) X' hc _ _ _ _ (fun _ _ e => e) ?_)
  rw [hdct]
  show wpAny _ _ (alloc _ >>= _) _ _ _
  have he₁ : (s.heap.push emptyDict).get? e = some (excAt C t) := Heap.get?_push_of_some _ he
  have hes : e ≠ s.heap.objs.size := Nat.ne_of_lt (Heap.lt_size he)
  refine wpAny_bind (wpAny_alloc' ?_)
  refine wpAny_bind (wpAny_update' he₁ ?_)
  refine wpAny_pure ?_
  have N₁ := N.push F emptyDict
  obtain ⟨F₂, N₂⟩ := news_upd (f := fun o => { o with dict := some s.heap.objs.size }) (o' := dexc C s.heap.objs.size t) (pre := [(s.heap.objs.size, emptyDict)]) (post := []) (F.push _) N₁ (by simpa using hes.symm) (by simp) rfl rfl
  obtain ⟨F₃, N₃⟩ := news_upd (f := Obj.putName name (PyData.keyHash w.params name) (.str name (s.toks + 1)) v) (o' := dictOf [⟨PyData.keyHash w.params name, .str name (s.toks + 1), v⟩] 1) (pre := []) F₂ N₂ (by simp) (by simpa using hes) (putName_dict name _ _ _ [] 0) rfl
  show wpAny _ _ (storeInDict s.heap.objs.size _ _ _) _ _ _
  refine e_store (s := { s with heap := (s.heap.push emptyDict).update e fun o => { o with dict := some s.heap.objs.size }, toks := s.toks + 1 }) (es := []) (n := 0) (N₂ _ (.head _)).1 rfl (Nat.zero_le _) ?_
  exact h s.heap.objs.size (s.toks + 1) _ F₃ (fun p hp => by
    rcases List.mem_cons.mp hp with rfl | hp
    · exact N₃ _ (.tail _ (.head _))
    · rw [List.mem_singleton] at hp; subst hp; exact N₃ _ (.head _)) hes.symm

theorem e_set1 {d : Addr} {es : List DictEntry} {n : Nat} (F : Fr h₀ L s.heap m) (X : K.In h₀) (N : News h₀ L s.heap [(e, dexc C d t), (d, dictOf es n)]) (hde : d ≠ e) (hc : clsIn K C = some cd)
    (hp : refuseLoop (.ref e) "__setattr__" cd.mro = pure ()) (hh : cd.mro.contains (.type "object") = true) (hdct : cd.hasDict = true) (ht : takerIn K C name = some none)
    (hs : findIn K (.ref C) "__setattr__" = some (some (.builtin "object.__setattr__"))) (hr : es.any (·.refKey) = false) (hz : es.length ≤ 1000)
    (h : ∀ tk h', Fr h₀ L h' m → News h₀ L h' [(e, dexc C d t), (d, dictOf (putL name (PyData.keyHash w.params name) (.str name tk) v es) (putN name es n))] → Q () { s with heap := h', toks := s.toks + 2 }) :
    wpAny (model prog w) A (setAttr (.ref e) name v) Q E s := by
  have X' := X.keeps F.keep
  have he := (N _ (.head _)).1
  have hd := (N _ (.tail _ (.head _))).1
  dsimp only at he hd
  have I : InstAt s.heap e (dexc C d t) C (some (dictOf es n)) := ⟨he, rfl, rfl, hd⟩
  refine set_plain X' I hs (e_open (s := { s with toks := s.toks + 1 }) X' I hc hp hh ht fun b => ?_)
  unfold storeInOwnDict ownDictForStores
  refine wpAny_bind (wpAny_pure (wpAny_bind ?_))
  show wpAny _ _ (instanceDict e true) _ _ _
  unfold instanceDict
  refine wpAny_bind (wpAny_loadPart he ?_)
  dsimp only
  refine wpAny_bind (looks_clsIn (M := model prog w) X' hc _ _ _ _ (fun _ _ e => e) ?_)
  rw [hdct]
  show wpAny _ _ (pure (some d)) _ _ _
  refine wpAny_pure ?_
  obtain ⟨F₃, N₃⟩ := news_upd (f := Obj.putName name (PyData.keyHash w.params name) (.str name (s.toks + 1)) v) (pre := [(e, dexc C d t)]) (post := []) F N (by simpa using hde.symm) (by simp) (putName_dict name _ _ _ es n) rfl
  show wpAny _ _ (storeInDict d _ _ _) _ _ _
  refine e_store (s := { s with toks := s.toks + 1 }) (es := es) (n := n) hd hr hz ?_
  exact (h (s.toks + 1) _ F₃ N₃)
end

theorem e_initK {prog : Program} {w : World} {A : Around} {E : Value → Shared → Prop} {s : Shared} {C e L t0 : Addr} {h₀ : Heap} {m : PySem.Str → Option Value} {Q : Value → Shared → Prop}
    {nm q : PySem.Str} {N' : Addr} {bs bm bmB : List Value} {hdct : Bool} {sn : List PySem.Str} {sub : List Value} {ab : Bool} {col : Option Bool} {dd : Option Addr} {k0 k1 k2 k3 k5 : Option Value} {B newId initId : String} {rest : List Value}
    (F : Fr h₀ L s.heap m) (N : News h₀ L s.heap [(e, excAt C t0)]) (FB : ExcBaseFacts B newId initId bmB) (T : Tail B bm)
    (hC : h₀.get? C = some (excClassObj nm q C N' bs bm hdct sn sub ab col dd k0 k1 k2 k3 k5 newId)) (hrest : rest.length ≤ sizeLine)
    (h : ∀ T h', Fr h₀ L h' m → News h₀ L h' [(e, excAt C T)] → Q .none { s with heap := h' }) : wpAny (model prog w) A (call (.builtin initId) (.ref e :: rest)) Q E s := by
  refine e_init (C := C) (t0 := t0) FB T (F.keep _ _ hC) (N _ (.head _)).1 hrest ?_
  obtain ⟨F₁, N₁⟩ := news_upd (f := Obj.mapFields (·.setIfInBounds 0 (.ref s.heap.objs.size))) (o := excAt C t0) (o' := excAt C s.heap.objs.size) (pre := []) (post := []) (F.push (tupAt rest)) (fun p hp => ⟨Heap.get?_push_of_some _ (N p hp).1, (N p hp).2⟩) (by simp) (by simp) rfl rfl
  exact h _ _ F₁ N₁

theorem ref_pass (self : Value) : ∀ l : List Value, refuseLoop self "__setattr__" l = pure () → ∀ c, refuseLoop self "__setattr__" (.ref c :: l) = pure () := fun l h c => by rw [refuseLoop_ref]; exact h
theorem pass1 (self : Value) (a b : Addr) : refuseLoop self "__setattr__" [.ref a, .ref b, .type "Exception", .type "BaseException", .type "object"] = pure () :=
  ref_pass self _ (ref_pass self _ (PySem.F.store_Exception.passes self) b) a

end
section
open PySem PySem.W PyProof.Rows PySem.Calls PySem.Spec

theorem news_sub {h₀ h : Heap} {L : Addr} {l l' : Led} (N : News h₀ L h l) (k : ∀ p ∈ l', p ∈ l) : News h₀ L h l' := fun p hp => N p (k p hp)

theorem news_ne {h₀ h : Heap} {L a b : Addr} {l : Led} {o o' : Obj} (N : News h₀ L h l) (ha : (a, o) ∈ l) (hb : (b, o') ∈ l) (hne : o.cls ≠ o'.cls) : a ≠ b := fun e => by
  subst e
  have h1 := (N _ ha).1
  have h2 := (N _ hb).1
  dsimp only at h1 h2
  rw [h1] at h2
  exact hne (congrArg Obj.cls (Option.some.inj h2))

theorem backs {g : Heap} {L : Addr} {s₀ : Shared} {post : Value → Led → Prop} {v : Value} {h' : Heap} {tk : Nat} {m' : PySem.Str → Option Value} {led : Led} (F : Fr g L h' m') (N : News g L h' led) (h : ∃ new, post v new ∧ (∀ p ∈ new, p ∈ led)) :
    Back g L s₀ post v { s₀ with heap := h', toks := tk } := let ⟨_, p, hs⟩ := h; back F (news_sub N hs) p

theorem con_at {hd : Option Value} {w : World} {f : Addr} {k : Nat} {args : List Value} {fz pre : Led} {post : Value → Led → Prop} {rai : Addr → Option Int → Prop} (C : ConH hd w f k args fz pre post rai)
    {mean : ExcName → Option Value} {mg mb : PySem.Str → Option Value} {A A₀ : Around} {base : Heap} {env : Env} {outer : List Env} {s : Shared} {h₀ : Heap} {L : Addr} {m : PySem.Str → Option Value} {N0 rest : Led} {Q E : Value → Shared → Prop}
    (S : Site w mean mg mb k A A₀ base env outer s h₀ L m) (hh : A.handled = hd) (N : News h₀ L s.heap N0) (hs : N0 = pre ++ rest) (hz : ∀ p ∈ fz, h₀.get? p.1 = some p.2) (hr : ∀ p ∈ rest, p.1 ∉ ads pre)
    (ret : ∀ v new h' tk, Fr h₀ L h' m → News h₀ L h' (new ++ rest) → post v new → (∀ p ∈ new, p.1 ∈ ads pre ∨ (∀ q ∈ N0, q.1 ≠ p.1)) → Q v { s with heap := h', toks := tk })
    (rais : ∀ C code e h' tk, Fly (hideAll h₀ (frs (env :: outer))) (hideAll s.heap (ads pre)) (env :: outer) C code e true h' → rai C code → E (.ref e) { s with heap := h', toks := tk }) :
    wpAny (model PySem.Challenge.rw_no0277_01.row.prog w) A (call (.ref f) args) Q E s := by
  subst hs
  refine con_use C S hh N (fun p q => List.mem_append_left _ q) (fun p q => ⟨S.F.keep _ _ (hz p q), fun hb => ?_⟩) (fun p q => ⟨List.mem_append_right _ q, hr p q⟩) (fun v new h' tk pv F' N' hne _ => ret v new h' tk F' N' pv hne) (fun C code e h' tk r x => rais C code e h' tk x r)
  obtain ⟨q', hq', e⟩ := List.mem_map.mp hb
  have := (N q' (List.mem_append_left _ hq')).2.2
  rw [e, hz p q] at this; cases this

theorem con_imp {hd : Option Value} {w : World} {f : Addr} {k : Nat} {args : List Value} {fz pre : Led} {post post' : Value → Led → Prop} {rai rai' : Addr → Option Int → Prop} (C : ConH hd w f k args fz pre post rai)
    (h : ∀ v new, post v new → post' v new) (hr : ∀ C c, rai C c → rai' C c) : ConH hd w f k args fz pre post' rai' :=
  fun mean mg mb A A₀ base env outer s h₀ L m Q E S hh N hz ret rais => C mean mg mb A A₀ base env outer s h₀ L m Q E S hh N hz (fun v new h' tk p => ret v new h' tk (h v new p)) fun C c e h' tk r => rais C c e h' tk (hr C c r)

structure Uses (hd : Option Value) (w : World) (k : Nat) (fz pre : Led) (post : Value → Led → Prop) (rai : Addr → Option Int → Prop) (A : Around) (Q E : Value → Shared → Prop) (s : Shared) : Prop where
  intro ::
  go : ∀ f args, ConH hd w f k args fz pre post rai → wpAny (model PySem.Challenge.rw_no0277_01.row.prog w) A (call (.ref f) args) Q E s

theorem uses {hd : Option Value} {w : World} {k : Nat} {fz pre : Led} {post : Value → Led → Prop} {rai : Addr → Option Int → Prop}
    {mean : ExcName → Option Value} {mg mb : PySem.Str → Option Value} {A A₀ : Around} {base : Heap} {env : Env} {outer : List Env} {s : Shared} {h₀ : Heap} {L : Addr} {m : PySem.Str → Option Value} {N0 rest : Led} {Q E : Value → Shared → Prop}
    (S : Site w mean mg mb k A A₀ base env outer s h₀ L m) (hh : A.handled = hd) (N : News h₀ L s.heap N0) (hs : N0 = pre ++ rest) (hz : ∀ p ∈ fz, h₀.get? p.1 = some p.2) (hr : ∀ p ∈ rest, p.1 ∉ ads pre)
    (ret : ∀ v new h' tk, Fr h₀ L h' m → News h₀ L h' (new ++ rest) → post v new → (∀ p ∈ new, p.1 ∈ ads pre ∨ (∀ q ∈ N0, q.1 ≠ p.1)) → Q v { s with heap := h', toks := tk })
    (rais : ∀ C code e h' tk, Fly (hideAll h₀ (frs (env :: outer))) h₀ (env :: outer) C code e true h' → (hideAll s.heap (ads pre)).UpToSlots h' → rai C code → E (.ref e) { s with heap := h', toks := tk }) :
    Uses hd w k fz pre post rai A Q E s := ⟨fun _ _ C => con_at C S hh N hs hz hr ret fun C code e h' tk x r => by
    refine rais C code e h' tk (x.mono (fun _ _ q => q) fun b o q => hideAll_get _ (S.F.keep b o q) fun hb => ?_) x.up r
    obtain ⟨p, hp, e'⟩ := List.mem_map.mp hb
    have := (N p (hs ▸ List.mem_append_left _ hp)).2.2
    rw [e', q] at this; cases this⟩


theorem dep_ok {a dp n k k' lim : Nat} (h : dp + 2 * k' < lim) (e : a = dp + n) (hn : n + 2 * k ≤ 2 * k') : a + 2 * k < lim := by lia
theorem uni_ok {a un n k k' lim : Nat} (h : un + 16 * k' < lim) (e : a = un + n) (hn : n + 16 * k ≤ 16 * k') : a + 16 * k < lim := by lia

section
variable {w : World} {k : Nat} {rai : Addr → Option Int → Prop} {mean : ExcName → Option Value} {mg mb : PySem.Str → Option Value} {A A₀ : Around} {base : Heap} {env : Env} {outer : List Env} {s : Shared} {h₀ : Heap} {L : Addr} {m : PySem.Str → Option Value} {N0 : Led} {Q E : Value → Shared → Prop} {hd : Option Value} {pre rest fz : Led}

theorem uses0 {post : Value → Led → Prop} (Z : Site w mean mg mb k A A₀ base env outer s h₀ L m) (hh : A.handled = hd) (N : News h₀ L s.heap N0)
    (ret : ∀ v new h' tk, Fr h₀ L h' m → News h₀ L h' (new ++ N0) → post v new → Q v { s with heap := h', toks := tk })
    (rais : ∀ C code e h' tk, Fly (hideAll h₀ (frs (env :: outer))) h₀ (env :: outer) C code e true h' → (hideAll s.heap (ads [])).UpToSlots h' → rai C code → E (.ref e) { s with heap := h', toks := tk }) :
    Uses hd w k [] [] post rai A Q E s :=
  uses Z hh N rfl (fun _ h => nomatch h) (fun _ _ h => nomatch h) (fun v new h' tk F' N' p _ => ret v new h' tk F' N' p) rais

end

theorem con_by {hd : Option Value} {w : World} {f : Addr} {k : Nat} {args : List Value} {fz pre : Led} {post : Value → Led → Prop} {rai : Addr → Option Int → Prop} {A : Around} {Q E : Value → Shared → Prop} {s : Shared}
    (C : ConH hd w f k args fz pre post rai) (u : Uses hd w k fz pre post rai A Q E s) : wpAny (model PySem.Challenge.rw_no0277_01.row.prog w) A (call (.ref f) args) Q E s := u.go _ _ C

theorem fly_thru {M : Model} {A : Around} {env : Env} {outer : List Env} {L : Addr} {B G : Heap} {C e : Addr} {code : Option Int} {tr : Bool} {E : Value → Shared → Prop} {s : Shared}
    (hfr : A.frames = some (env :: outer)) (hf : env.frame = some L) (x : Fly B G (env :: outer) C code e tr s.heap) (k : ∀ h', Fly B G (env :: outer) C code e true h' → E (.ref e) { s with heap := h' }) :
    notedBy M A env (cameBackBy M A env E) (.ref e) s :=
  fly_noted hfr hf x fun _ y => fly_came (s := { s with heap := _ }) y fun _ z => k _ z

noncomputable abbrev limEs (P : Params) (t u : Nat → Tok) : List DictEntry := [⟨PyData.keyHash P "width", .str "width" (t 0), .int 32 (u 0)⟩, ⟨PyData.keyHash P "real_digits", .str "real_digits" (t 1), .int 7 (u 1)⟩, ⟨PyData.keyHash P "double_digits", .str "double_digits" (t 2), .int 15 (u 2)⟩, ⟨PyData.keyHash P "top_exponent", .str "top_exponent" (t 3), .int 38 (u 3)⟩,
  ⟨PyData.keyHash P "steps", .str "steps" (t 4), .int 1000000 (u 4)⟩, ⟨PyData.keyHash P "continuations", .str "continuations" (t 5), .int 19 (u 5)⟩, ⟨PyData.keyHash P "columns", .str "columns" (t 6), .int 72 (u 6)⟩, ⟨PyData.keyHash P "depth", .str "depth" (t 7), .int 40 (u 7)⟩]
noncomputable abbrev limL (P : Params) (lim dl : Addr) (t u : Nat → Tok) : Led := [(lim, instObj 551 dl), (dl, dictOf (limEs P t u) 8)]

noncomputable abbrev srcL (P : Params) (src ds lr : Addr) (a : Int) (t0 t1 ta : Tok) : Led := [(src, instObj 522 ds), (ds, dictOf [⟨PyData.keyHash P "records", .str "records" t0, .ref lr⟩, ⟨PyData.keyHash P "at", .str "at" t1, .int a ta⟩] 2)]
noncomputable abbrev ctlL (P : Params) (ctl dc fl cl : Addr) (at_ : Int) (used : Bool) (t : Nat → Tok) (ta tb : Tok) : Led := [(ctl, instObj 410 dc), (dc, dictOf [⟨PyData.keyHash P "flat", .str "flat" (t 0), .ref fl⟩, ⟨PyData.keyHash P "again", .str "again" (t 1), .int 0 ta⟩, ⟨PyData.keyHash P "at", .str "at" (t 2), .int at_ tb⟩, ⟨PyData.keyHash P "counts", .str "counts" (t 3), .ref cl⟩, ⟨PyData.keyHash P "is_used", .str "is_used" (t 4), .bool used⟩] 5)]
noncomputable abbrev modL (P : Params) (md dm : Addr) (t : Nat → Tok) (ta : Tok) : Led := [(md, instObj 438 dm), (dm, dictOf [⟨PyData.keyHash P "scale", .str "scale" (t 0), .int 0 ta⟩, ⟨PyData.keyHash P "is_plus", .str "is_plus" (t 1), .bool false⟩, ⟨PyData.keyHash P "is_zeros", .str "is_zeros" (t 2), .bool false⟩] 3)]
noncomputable abbrev rdrL (P : Params) (rd dr ctl src md lim : Addr) (rec : List Nat) (at_ : Int) (t : Nat → Tok) (ta tb : Tok) : Led := [(rd, instObj 494 dr), (dr, dictOf [⟨PyData.keyHash P "control", .str "control" (t 0), .ref ctl⟩, ⟨PyData.keyHash P "source", .str "source" (t 1), .ref src⟩, ⟨PyData.keyHash P "read", .str "read" (t 2), .ref 224⟩, ⟨PyData.keyHash P "modes", .str "modes" (t 3), .ref md⟩, ⟨PyData.keyHash P "limits", .str "limits" (t 4), .ref lim⟩, ⟨PyData.keyHash P "record", .str "record" (t 5), .str (S rec) ta⟩, ⟨PyData.keyHash P "at", .str "at" (t 6), .int at_ tb⟩] 7)]

end
section
open PySem PySem.W PySem.Spec PySem.Calls PyProof.Rows

theorem exc_con {hd : Option Value} {w : World} {C fI : Addr} {k : Nat} {args : List Value} {post : Value → Led → Prop}
    {nm q : PySem.Str} {N' : Addr} {bs bm bmB : List Value} {hdct : Bool} {sn : List PySem.Str} {sub : List Value} {ab : Bool} {col : Option Bool} {dd : Option Addr} {k0 k1 k2 k3 k5 : Option Value} {B newId initId : String}
    (FB : ExcBaseFacts B newId initId bmB) (T : Tail B bm) (hC : (KP w.params).lookup C = some (excClassObj nm q C N' bs bm hdct sn sub ab col dd k0 k1 k2 k3 k5 newId))
    (hi : findIn (KP w.params) (.ref C) "__init__" = some (some (.ref fI))) (hf : ∃ oI, (KP w.params).lookup fI = some oI ∧ oI.cls = .type "function") (hrest : args.length ≤ sizeLine)
    (init : ∀ e t, ConH hd w fI k (.ref e :: args) [] [(e, excAt C t)] (fun v new => v = .none ∧ post (.ref e) new)) : ConH hd w C (k + 1) args [] [] post := by
  intro mean mg mb A A₀ base env outer s h₀ L m Q E S hh N hfz hret hrai
  have X : (KP w.params).In s.heap := S.X.keeps S.F.keep
  refine nnOf fun nO => ?_
  obtain ⟨SB, Sfr, Sef, Sek, SF, SX, ST, Sdep, Sun, SO⟩ := S <;> (refine nO ?_; clear nO)
  refine nnOf fun nO => ?_
  obtain ⟨h, g, d, t, os⟩ := s <;> (refine nO ?_; clear nO)
  obtain ⟨oI, hoI, hcI⟩ := hf
  refine x_call FB T (X _ _ hC) (looks_findIn X hi) (X _ _ hoI) hcI hrest ?_
  have F1 : Fr h₀ L ((h.push (tupAt args)).push (excAt C h.objs.size)) m := (SF.push _).push _
  have N1 : News h₀ L ((h.push (tupAt args)).push (excAt C h.objs.size)) [(h.objs.size + 1, excAt C h.objs.size)] := by
    have := (News.nil (h₀ := h₀) (L := L) (h := h.push (tupAt args))).push (SF.push _) (excAt C h.objs.size)
    rwa [Heap.size_push] at this
  have keep : ∀ b o, h.get? b = some o → ((h.push (tupAt args)).push (excAt C h.objs.size)).get? b = some o := fun b o e => Heap.get?_push_of_some _ (Heap.get?_push_of_some _ e)
  refine init _ _ mean mg mb _ A₀ base env outer ⟨(h.push (tupAt args)).push (excAt C h.objs.size), g, d, t, os⟩ h₀ L m _ E ⟨SB, ?_, Sef, Sek, F1, SX, ST, ?_, ?_, SO⟩ hh N1 (fun p q => nomatch q) (fun v new h' tk hp F' N2 hk hf => ?_) (fun C code e h' tk r x => r.elim)
  · unfold Around.under; dsimp only; rw [Sfr]; rfl
  · show A.depth + _ + 2 * k < _
    have : (Code.builtin "type.__call__" { pos := Value.ref C :: args }).weight = 1 := rfl
    lia
  · show A.units + _ + 16 * k < _
    have : (Code.builtin "type.__call__" { pos := Value.ref C :: args }).cUnits = 1 + 3 * (Code.builtin "type.__call__" { pos := Value.ref C :: args }).frames := rfl
    have h2 : (Code.builtin "type.__call__" { pos := Value.ref C :: args }).frames = 0 := rfl
    lia
  · obtain ⟨rfl, hp⟩ := hp
    refine ⟨rfl, ?_⟩
    refine hret (.ref (h.objs.size + 1)) new h' tk hp F' N2 (fun b o q nb => hk b o (keep b o q) fun hb => ?_) fun p hq => ?_
    · rw [show b = h.objs.size + 1 from List.mem_singleton.mp hb] at q
      exact absurd (Heap.lt_size q) (Nat.not_lt.mpr (Nat.le_succ _))
    · right
      show h.get? p.1 = none
      rcases hf p hq with q | q
      · rw [show p.1 = h.objs.size + 1 from List.mem_singleton.mp q]
        exact Heap.get?_none_of_le (by lia)
      · cases e : h.get? p.1 with
        | none => rfl
        | some o => rw [keep _ _ e] at q; cases q

section
variable {M : Model} {A : Around} {E : Value → Shared → Prop} {s : Shared} {env : Env}
variable {nm q : PySem.Str} {C N : Addr} {bs bm : List Value} {hdct : Bool} {sn : List PySem.Str} {sub : List Value} {ab : Bool} {col : Option Bool} {dd : Option Addr} {k0 k1 k2 k3 k5 : Option Value} {newId : String}

theorem raise_own {x : PySem.Expr} {pos : Pos} {Q : Flow → Shared → Prop} (hbase : bm.contains (.type "BaseException") = true) (hh : A.handled = none)
    (h : wpAny M A (eval x env) (fun v s₁ => ∃ e d t, v = .ref e ∧ s₁.heap.get? C = some (excClassObj nm q C N bs bm hdct sn sub ab col dd k0 k1 k2 k3 k5 newId) ∧
      s₁.heap.get? e = some (dexc C d t) ∧ E (.ref e) s₁) E s) :
    wpAny M A (exec (.Raise (some x) none pos) env) Q E s := by
  have hcB : (Value.ref C :: bm).contains (.type "BaseException") = true := by rw [List.contains_cons, hbase, Bool.or_true]
  rw [arm_exec_Raise]
  show wpAny M A (do standAt pos; raiseStmt env (some (do let v ← eval x env; standAt pos; pure v)) none) Q E s
  refine wpAny_bind (wpAny_standAt ?_)
  unfold raiseStmt
  refine wpAny_bind (wpAny_bind (wpAny_mono h (fun v s₁ h₁ => wpAny_bind (wpAny_standAt (wpAny_pure ?_))) fun _ _ x => x))
  obtain ⟨e, d, t, rfl, hC, he, hE⟩ := h₁
  obtain ⟨hp, g, dr, tk, os⟩ := s₁
  repeat (first | with_reducible refine wpAny_loadPart_at he ?_ | with_reducible refine wpAny_loadPart_at hC ?_ | (with_reducible refine wpAny_isSubtype_exc hC ?_; rw [hcB]) | wp_step)
  exact wpAny_raiseNew_none hh hE
end

noncomputable def IsExc (K : Frag) (C : Addr) : Prop := ∃ nm q N bs bm hdct sn sub ab col dd k0 k1 k2 k3 k5 newId, bm.contains (.type "BaseException") = true ∧ K.lookup C = some (excClassObj nm q C N bs bm hdct sn sub ab col dd k0 k1 k2 k3 k5 newId)
noncomputable def Made (C : Addr) (g : Heap) (E : Value → Shared → Prop) (v : Value) (s₁ : Shared) : Prop := ∃ e d t, v = .ref e ∧ g.StaysIn s₁.heap ∧ s₁.heap.get? e = some (dexc C d t) ∧ E (.ref e) s₁
theorem raise_in {M : Model} {A : Around} {E : Value → Shared → Prop} {s : Shared} {env : Env} {K : Frag} {C : Addr} {g : Heap} {x : PySem.Expr} {pos : Pos} {Q : Flow → Shared → Prop} (Y : IsExc K C) (X : K.In g) (hh : A.handled = none)
    (h : wpAny M A (eval x env) (Made C g E) E s) : wpAny M A (exec (.Raise (some x) none pos) env) Q E s := by
  refine nnOf fun nO => ?_
  obtain ⟨nm, q, N, bs, bm, hdct, sn, sub, ab, col, dd, k0, k1, k2, k3, k5, newId, hb, hC⟩ := Y <;> (refine nO ?_; clear nO)
  refine raise_own (nm := nm) (q := q) (C := C) (N := N) (bs := bs) (bm := bm) (hdct := hdct) (sn := sn) (sub := sub) (ab := ab) (col := col) (dd := dd) (k0 := k0) (k1 := k1) (k2 := k2) (k3 := k3) (k5 := k5) (newId := newId) hb hh (wpAny_mono h (fun v s₁ h₁ => ?_) fun _ _ x => x)
  refine nnOf fun nO => ?_
  obtain ⟨e, d, t, rfl, k, he, hE⟩ := h₁ <;> (refine nO ?_; clear nO)
  exact ⟨e, d, t, rfl, k _ _ (X _ _ hC), he, hE⟩

theorem fly_made {A : Around} {base g : Heap} {env : Env} {outer : List Env} {L : Addr} {h : Heap} {m : PySem.Str → Option Value} {led : Led} {C e d t : Addr} {es : List DictEntry} {n : Nat} {code : Option Int}
    (B : Below A base outer g) (F : Fr g L h m) (N : News g L h led) (hf : env.frame = some L) (hk : env.scope.kind = .function) (he : (e, dexc C d t) ∈ led) (hd : (d, dictOf es n) ∈ led)
    (hc : ∀ c, code = some c → ∃ tk, getL "code" es = some (some (.int c tk))) : Fly (hideAll g (frs (env :: outer))) g (env :: outer) C code e false h := by
  have he' := N _ he
  have hd' := N _ hd
  dsimp only at he' hd'
  have B₁ := pushX B F hf hk
  have nd : d ≠ e := fun q => by rw [q, he'.1] at hd'; cases hd'.1
  refine ⟨fun b o q => F.keep b o (of_hideAll _ q), ?_, ?_, Heap.UpToSlots.of_keeps F.keep, d, _, _, es, n, he'.1, rfl, fun _ => rfl, nd, ⟨?_, ?_⟩, hd'.1, hc, .inl ⟨rfl, rfl⟩⟩
  · cases q : (hideAll g (frs (env :: outer))).get? e with
    | none => rfl
    | some o => have := of_hideAll _ q; rw [he'.2.2] at this; cases this
  · have hin : ∀ env' ∈ env :: outer, ∀ b, env'.frame = some b → b ∈ frs (env :: outer) := fun env' hm b hb => List.mem_filterMap.mpr ⟨env', hm, hb⟩
    have key : ∀ l : List Env, (∀ env' ∈ l, ∀ b, env'.frame = some b → b ∈ frs (env :: outer)) → h.FunFrames base l → h.FunFrames (hideAll g (frs (env :: outer))) l := by
      intro l
      induction l with
      | nil => intro _ _; trivial
      | cons e₁ r ih =>
        intro hi ⟨c1, ⟨L₁, o₁, c2, c3, c4⟩, c5⟩
        exact ⟨c1, ⟨L₁, o₁, c2, hideAll_none _ (hi e₁ (.head _) L₁ c2), c4⟩, ih (fun e he => hi e (.tail _ he)) c5⟩
    exact key _ hin B₁.frames
  · intro hm
    obtain ⟨env', hm', hb⟩ := List.mem_filterMap.mp hm
    rcases List.mem_cons.mp hm' with rfl | hm'
    · rw [hf] at hb; exact hd'.2.1 (Option.some.inj hb).symm
    · obtain ⟨o, ho, _⟩ := (B.frames.mem (List.mem_filterMap.mpr ⟨env', hm', hb⟩)).2
      rw [hd'.2.2] at ho; cases ho
  · cases q : (hideAll g (frs (env :: outer))).get? d with
    | none => rfl
    | some o => have := of_hideAll _ q; rw [hd'.2.2] at this; cases this

noncomputable def ioPost (c : Int) (v : Value) (new : Led) : Prop := ∃ e T d es n tc, v = .ref e ∧ new = [(e, dexc 82 d T), (d, dictOf es n)] ∧ getL "code" es = some (some (.int c tc))
end
section
open PySem PySem.W PyProof.Rows PySem.Calls PySem.Spec

section
variable {prog : Program} {w : World} {A : Around} {E : Value → Shared → Prop} {s : Shared}
theorem len_S {l : List Nat} {t : Tok} {Q : Value → Shared → Prop} (hl : l.length ≤ 1048576) (h : Q (.int (l.length : Int) (s.toks + 1)) { s with toks := s.toks + 1 + 1 }) :
    wpAny (model prog w) A (call (.builtin "len") [.str (S l) t]) Q E s := by
  refine PySem.P.len_str (by rw [S_len]; lia) ?_
  rw [S_len]; exact h
end

end
section
open PySem PySem.W PySem.Spec PySem.Calls PyProof.Rows

theorem free_slots (o : Obj) (sl : Array (Option Value)) : ({ o with slots := sl } : Obj).isFreed = o.isFreed := by
  obtain ⟨c, d, dt, s0⟩ := o
  cases dt <;> rfl
theorem nofree {h : Heap} {a : Addr} {o : Obj} (e : h.get? a = some o) : o.isFreed = false := (Heap.get?_some_iff.mp e).2

noncomputable def res1 (h' g : Heap) (a : Addr) : Heap := match g.get? a, h'.get? a with
  | some _, some o' => g.update a fun o => { o with slots := o'.slots }
  | _, _ => g
theorem res1_size (h' g : Heap) (a : Addr) : (res1 h' g a).objs.size = g.objs.size := by
  unfold res1
  split
  · exact Heap.size_after_update ..
  · rfl
theorem res1_other (h' g : Heap) {a b : Addr} (hb : b ≠ a) : (res1 h' g a).get? b = g.get? b := by
  unfold res1
  split
  · exact Heap.get?_update_other _ _ (Ne.symm hb)
  · rfl
theorem res1_none (h' g : Heap) {a : Addr} (e : g.get? a = none) : (res1 h' g a).get? a = none := by
  unfold res1; rw [e]; exact e
theorem res1_get (h' g : Heap) {a : Addr} {o : Obj} (e : g.get? a = some o) : ∃ sl, (res1 h' g a).get? a = some { o with slots := sl } := by
  unfold res1
  rw [e]
  split
  · exact ⟨_, Heap.get?_update_self _ e (by rw [free_slots]; exact nofree e)⟩
  · exact ⟨o.slots, e⟩
theorem res1_at (h' g : Heap) {a : Addr} {o : Obj} {sl : Array (Option Value)} (e : g.get? a = some o) (e' : h'.get? a = some { o with slots := sl }) : (res1 h' g a).get? a = some { o with slots := sl } := by
  unfold res1
  rw [e, e']
  exact Heap.get?_update_self (fun x : Obj => { x with slots := sl }) e (by rw [free_slots]; exact nofree e)

noncomputable def reslot (h' : Heap) : List Addr → Heap → Heap
  | [], g => g
  | a :: r, g => reslot h' r (res1 h' g a)
theorem reslot_size (h' : Heap) : ∀ (l : List Addr) (g : Heap), (reslot h' l g).objs.size = g.objs.size
  | [], _ => rfl
  | _ :: r, _ => (reslot_size h' r _).trans (res1_size ..)
theorem reslot_other (h' : Heap) : ∀ (l : List Addr) (g : Heap) {b : Addr}, b ∉ l → (reslot h' l g).get? b = g.get? b
  | [], _, _, _ => rfl
  | _ :: r, g, _, hb => (reslot_other h' r _ (fun q => hb (.tail _ q))).trans (res1_other h' g (fun q => hb (q ▸ .head _)))
theorem reslot_none (h' : Heap) : ∀ (l : List Addr) (g : Heap) {b : Addr}, g.get? b = none → (reslot h' l g).get? b = none
  | [], _, _, e => e
  | a :: r, g, b, e => by
    refine reslot_none h' r _ ?_
    by_cases q : b = a
    · subst q; exact res1_none h' g e
    · exact (res1_other h' g q).trans e
theorem reslot_get (h' : Heap) : ∀ (l : List Addr) (g : Heap) {b : Addr} {o : Obj}, g.get? b = some o → ∃ sl, (reslot h' l g).get? b = some { o with slots := sl }
  | [], _, _, o, e => ⟨o.slots, e⟩
  | a :: r, g, b, o, e => by
    by_cases q : b = a
    · subst q
      obtain ⟨sl, h⟩ := res1_get h' g e
      obtain ⟨sl2, h2⟩ := reslot_get h' r _ h
      exact ⟨sl2, h2⟩
    · exact reslot_get h' r _ ((res1_other h' g q).trans e)
theorem reslot_at (h' : Heap) : ∀ (l : List Addr) (g : Heap) {b : Addr} {o : Obj} {sl : Array (Option Value)}, b ∈ l → g.get? b = some o → h'.get? b = some { o with slots := sl } → (reslot h' l g).get? b = some { o with slots := sl }
  | [], _, _, _, _, hm, _, _ => nomatch hm
  | a :: r, g, b, o, sl, hm, e, e' => by
    by_cases q : b = a
    · subst q
      have e1 := res1_at h' g e e'
      by_cases hr : b ∈ r
      · exact reslot_at h' r _ (sl := sl) (o := { o with slots := sl }) hr e1 e'
      · exact (reslot_other h' r _ hr).trans e1
    · rcases List.mem_cons.mp hm with hm | hm
      · exact absurd hm q
      · exact reslot_at h' r _ hm ((res1_other h' g q).trans e) e'

theorem funFrames_reslot {base h h' : Heap} {as : List Addr} : ∀ {l : List Env}, h.FunFrames base l → (reslot h' as h).FunFrames base l
  | [], _ => trivial
  | env :: _, ⟨hk, ⟨L, o, hf, hn, ho, hd⟩, hr⟩ => by
    obtain ⟨sl, e⟩ := reslot_get h' as h ho
    exact ⟨hk, ⟨L, _, hf, hn, e, hd⟩, funFrames_reslot hr⟩

structure Caught (A : Around) (base g : Heap) (l : List Env) (h' g' : Heap) : Prop where
  stays : g'.StaysIn h'
  size : g'.objs.size = g.objs.size
  keep : ∀ b o, g.get? b = some o → b ∉ frs l → g'.get? b = some o
  up : g.UpToSlots g'
  back : ∀ b, g.get? b = none → g'.get? b = none
  base : base.StaysIn g'

theorem caught {A : Around} {base g h' : Heap} {env : Env} {outer : List Env} {C e : Addr} {code : Option Int} {tr : Bool} (B : Below A base outer g) (hL : ∀ L, env.frame = some L → g.get? L = none)
    (x : Fly (hideAll g (frs (env :: outer))) g (env :: outer) C code e tr h') : ∃ g', Caught A base g (env :: outer) h' g' ∧ Below A base outer g' := by
  have nf : ∀ b ∈ frs (env :: outer), ∀ o, g.get? b = some o → base.get? b = none ∧ ∀ vs, o.data ≠ .fields vs := fun b hb o ho => by
    obtain ⟨env', hm, hf⟩ := List.mem_filterMap.mp hb
    rcases List.mem_cons.mp hm with rfl | hm
    · rw [hL b hf] at ho; cases ho
    · refine nnOf fun nO => ?_
      obtain ⟨hn, o3, ho3, hd3⟩ := B.frames.mem (List.mem_filterMap.mpr ⟨env', hm, hf⟩) <;> (refine nO ?_; clear nO)
      rw [ho] at ho3; cases ho3; exact ⟨hn, hd3⟩
  have st : base.StaysIn (reslot h' (frs (env :: outer)) g) := fun b o q => by
    have q' := B.stays b o q
    refine (reslot_other _ _ _ fun hb => ?_).trans q'
    have := (nf b hb o q').1
    rw [q] at this; cases this
  refine ⟨reslot h' (frs (env :: outer)) g, ⟨fun b o q => ?_, reslot_size .., fun b o q hn => (reslot_other _ _ _ hn).trans q, fun b o q hn => reslot_get _ _ _ q, fun b q => reslot_none _ _ _ q, st⟩, ⟨B.stack, st, funFrames_reslot B.frames⟩⟩
  by_cases hb : b ∈ frs (env :: outer)
  · cases hg : g.get? b with
    | none => rw [reslot_none _ _ _ hg] at q; cases q
    | some o0 =>
      obtain ⟨sl, hs⟩ := x.up b o0 hg (nf b hb o0 hg).2
      rw [reslot_at _ _ _ hb hg hs] at q
      cases q; exact hs
  · rw [reslot_other _ _ _ hb] at q
    exact x.stays b o (hideAll_get _ q hb)

theorem Caught.fr {A : Around} {base g h h' g' : Heap} {l : List Env} {L : Addr} {m : PySem.Str → Option Value} (c : Caught A base g l h' g') (F : Fr g L h m) (u : h.UpToSlots h') : Fr g' L h' m :=
  ⟨u.ns F.ns, c.stays, by rw [c.size]; exact F.above⟩

theorem Caught.fly {A : Around} {base g h' g' h'' : Heap} {l : List Env} {C e : Addr} {code : Option Int} {tr : Bool} (c : Caught A base g l h' g') (x : Fly (hideAll g' (frs l)) g' l C code e tr h'') : Fly (hideAll g (frs l)) g l C code e tr h'' := by
  have k : (hideAll g (frs l)).StaysIn (hideAll g' (frs l)) := fun b o q => by
    have hb : b ∉ frs l := fun m => by rw [hideAll_none _ m] at q; cases q
    exact hideAll_get _ (c.keep b o (of_hideAll _ q) hb) hb
  have y := x.mono k fun b o q => q
  obtain ⟨a1, a2, a3, a4, a5⟩ := y
  exact ⟨a1, a2, a3, c.up.trans a4, a5⟩

section
variable {prog : Program} {w : World} {A : Around} {E : Value → Shared → Prop} {s : Shared} {env : Env}
variable {nm q : PySem.Str} {C N : Addr} {bs bm : List Value} {hdct : Bool} {sn : List PySem.Str} {sub : List Value} {ab : Bool} {col : Option Bool} {dd : Option Addr} {k0 k1 k2 k3 k5 : Option Value} {newId : String}

noncomputable def Tested (_K : Frag) (C : Addr) (g : Heap) (e : Addr) (P : Shared → Prop) (c : Value) (s₁ : Shared) : Prop :=
  c = .ref C ∧ g.StaysIn s₁.heap ∧ (∃ oe, s₁.heap.get? e = some oe ∧ oe.cls = .ref C) ∧ P s₁

theorem handle_own {K : Frag} {g : Heap} {e : Addr} {t : PySem.Expr} {b₀ : Stmt} {suite : List Stmt} {pos : Pos} {rest : List ExceptHandler} {Q : Flow → Shared → Prop} (Y : IsExc K C) (X : K.In g)
    (h : wpAny (model prog w) (A.mark (some (.ref e))) (eval t env) (Tested K C g e fun s₁ =>
      wpAny (model prog w) (A.mark (some (.ref e))) (setFlight (.ref e) none) (fun _ s₂ => wpAny (model prog w) (A.mark (some (.ref e))) (execs (b₀ :: suite) env) Q (notedBy (model prog w) (A.mark (some (.ref e))) env (cameBackBy (model prog w) A env E)) s₂) (notedBy (model prog w) (A.mark (some (.ref e))) env (cameBackBy (model prog w) A env E)) s₁)
      (notedBy (model prog w) (A.mark (some (.ref e))) env (cameBackBy (model prog w) A env E)) s) :
    wpAny (model prog w) A (handleBy (.ref e) env (.ExceptHandler (some t) none (b₀ :: suite) pos :: rest)) Q E s := by
  refine nnOf fun nO => ?_
  obtain ⟨nm, q, N, bs, bm, hdct, sn, sub, ab, col, dd, k0, k1, k2, k3, k5, newId, hb, hC⟩ := Y <;> (refine nO ?_; clear nO)
  refine wpAny_handleBy_cons (codeAny_handlers_test (wpAny_mono h (fun c s₁ h₁ => ?_) fun _ _ x => x)) (by intro q; cases q)
  refine nnOf fun nO => ?_
  obtain ⟨rfl, k, ⟨oe, hoe, hcls⟩, hk⟩ := h₁ <;> (refine nO ?_; clear nO)
  refine nnOf fun nO => ?_
  obtain ⟨hh, gg, dr, tk, os⟩ := s₁ <;> (refine nO ?_; clear nO)
  refine wpAny_excMatches_sub_self (nm := nm) (q := q) (C := C) (N := N) (bs := bs) (bm := bm) (hdct := hdct) (sn := sn) (sub := sub) (ab := ab) (col := col) (dd := dd) (k0 := k0) (k1 := k1) (k2 := k2) (k3 := k3) (k5 := k5) (newId := newId) (k _ _ (X _ _ hC)) hoe hcls hb ?_
  exact codeAny_handlers_suite hk

theorem handle_own_as {K : Frag} {g : Heap} {e : Addr} {t : PySem.Expr} {n : PySem.Str} {b₀ : Stmt} {suite : List Stmt} {pos : Pos} {rest : List ExceptHandler} {Q : Flow → Shared → Prop} (Y : IsExc K C) (X : K.In g) {E' : Value → Shared → Prop}
    (hE' : ∀ x s, E' x s → (fun x s₄ => wpAny (model prog w) (A.mark (some (.ref e))) (noteFrame x env) (fun _ s₄' =>
                wpAny (model prog w) (A.mark (some (.ref e))) (do bindName env n .none; unbindBehindTheSuite env n pos)
                  (fun _ s₅ => wpAny (model prog w) (A.mark (some (.ref e))) (passOn "try.except-as" x env : Sem Flow) (fun _ _ => False) (notedBy (model prog w) (A.mark (some (.ref e))) env (cameBackBy (model prog w) A env E)) s₅)
                  (fun y s₅ => wpAny (model prog w) (A.mark (some (.ref e))) (setFlight x none) (fun _ s₆ => (notedBy (model prog w) (A.mark (some (.ref e))) env (cameBackBy (model prog w) A env E)) y s₆) (notedBy (model prog w) (A.mark (some (.ref e))) env (cameBackBy (model prog w) A env E)) s₅) s₄') (notedBy (model prog w) (A.mark (some (.ref e))) env (cameBackBy (model prog w) A env E)) s₄) x s)
    (h : wpAny (model prog w) (A.mark (some (.ref e))) (eval t env) (Tested K C g e fun s₁ =>
      wpAny (model prog w) (A.mark (some (.ref e))) (setFlight (.ref e) none) (fun _ s₂ =>
          wpAny (model prog w) (A.mark (some (.ref e))) (storeName env n (.ref e)) (fun _ s₃ =>
            wpAny (model prog w) (A.mark (some (.ref e))) (execs (b₀ :: suite) env)
              (fun f s₄ => wpAny (model prog w) A (do bindName env n .none; unbindBehindTheSuite env n pos) (fun _ s₅ => Q f s₅) E s₄) E' s₃) (notedBy (model prog w) (A.mark (some (.ref e))) env (cameBackBy (model prog w) A env E)) s₂) (notedBy (model prog w) (A.mark (some (.ref e))) env (cameBackBy (model prog w) A env E)) s₁)
      (notedBy (model prog w) (A.mark (some (.ref e))) env (cameBackBy (model prog w) A env E)) s) :
    wpAny (model prog w) A (handleBy (.ref e) env (.ExceptHandler (some t) (some n) (b₀ :: suite) pos :: rest)) Q E s := by
  refine nnOf fun nO => ?_
  obtain ⟨nm, q, N, bs, bm, hdct, sn, sub, ab, col, dd, k0, k1, k2, k3, k5, newId, hb, hC⟩ := Y <;> (refine nO ?_; clear nO)
  refine wpAny_handleBy_cons (codeAny_handlers_test (wpAny_mono h (fun c s₁ h₁ => ?_) fun _ _ x => x)) (by intro q; cases q)
  refine nnOf fun nO => ?_
  obtain ⟨rfl, k, ⟨oe, hoe, hcls⟩, hk⟩ := h₁ <;> (refine nO ?_; clear nO)
  refine nnOf fun nO => ?_
  obtain ⟨hh, gg, dr, tk, os⟩ := s₁ <;> (refine nO ?_; clear nO)
  refine wpAny_excMatches_sub_self (nm := nm) (q := q) (C := C) (N := N) (bs := bs) (bm := bm) (hdct := hdct) (sn := sn) (sub := sub) (ab := ab) (col := col) (dd := dd) (k0 := k0) (k1 := k1) (k2 := k2) (k3 := k3) (k5 := k5) (newId := newId) (k _ _ (X _ _ hC)) hoe hcls hb ?_
  exact codeAny_handlers_suite_as (wpAny_mono hk (fun _ s₂ h₂ => wpAny_mono h₂ (fun _ s₃ h₃ => wpAny_mono h₃ (fun _ _ x => x) fun x s hx => hE' x s hx) fun _ _ x => x) fun _ _ x => x)
end

theorem entry_unchain : entryFor table "proto.unchain" = some Builtin.«proto.unchain» := entryFor_of_fast (by kernel_rfl)
section
variable {prog : Program} {w : World} {A : Around} {E : Value → Shared → Prop} {s : Shared} {env : Env}
variable {nm q : PySem.Str} {C N : Addr} {bs bm : List Value} {hdct : Bool} {sn : List PySem.Str} {sub : List Value} {ab : Bool} {col : Option Bool} {dd : Option Addr} {k0 k1 k2 k3 k5 : Option Value} {newId : String}

noncomputable def MadeIn (C : Addr) (g : Heap) (e1 : Addr) (E : Value → Shared → Prop) (v : Value) (s₁ : Shared) : Prop :=
  ∃ e d t, v = .ref e ∧ g.StaysIn s₁.heap ∧ s₁.heap.get? e = some (dexc C d t) ∧ e1 ≠ e ∧ (∃ o1 vs1, s₁.heap.get? e1 = some o1 ∧ o1.data = .fields vs1 ∧ vs1[2]? = some .none) ∧
    E (.ref e) { s₁ with heap := s₁.heap.update e (Obj.mapFields (·.setIfInBounds 2 (.ref e1))) }

theorem raise_in2 {K : Frag} {g : Heap} {e1 : Addr} {x : PySem.Expr} {pos : Pos} {Q : Flow → Shared → Prop} (Y : IsExc K C) (X : K.In g) (hh : A.handled = some (.ref e1))
    (h : wpAny (model prog w) A (eval x env) (MadeIn C g e1 E) E s) : wpAny (model prog w) A (exec (.Raise (some x) none pos) env) Q E s := by
  refine nnOf fun nO => ?_
  obtain ⟨nm, q, N, bs, bm, hdct, sn, sub, ab, col, dd, k0, k1, k2, k3, k5, newId, hbase, hC⟩ := Y <;> (refine nO ?_; clear nO)
  have hcB : (Value.ref C :: bm).contains (.type "BaseException") = true := by rw [List.contains_cons, hbase, Bool.or_true]
  rw [arm_exec_Raise]
  show wpAny _ A (do standAt pos; raiseStmt env (some (do let v ← eval x env; standAt pos; pure v)) none) Q E s
  refine wpAny_bind (wpAny_standAt ?_)
  unfold raiseStmt
  refine wpAny_bind (wpAny_bind (wpAny_mono h (fun v s₁ h₁ => wpAny_bind (wpAny_standAt (wpAny_pure ?_))) fun _ _ x => x))
  refine nnOf fun nO => ?_
  obtain ⟨e, d, t, rfl, k, he, hne, ⟨o1, vs1, ho1, hd1, hv1⟩, hE⟩ := h₁ <;> (refine nO ?_; clear nO)
  have hC := k _ _ (X _ _ hC)
  refine nnOf fun nO => ?_
  obtain ⟨hp, gg, dr, tk, os⟩ := s₁ <;> (refine nO ?_; clear nO)
  repeat (first | with_reducible refine wpAny_loadPart_at he ?_ | with_reducible refine wpAny_loadPart_at hC ?_ | (with_reducible refine wpAny_isSubtype_exc hC ?_; rw [hcB]) | wp_step)
  unfold raiseNew
  refine wpAny_bind (wpAny_handled ?_)
  rw [hh]
  dsimp only
  rw [if_pos (by simpa using hne)]
  refine wpAny_bind (wpAny_holding (wpAny_runValue (codeAny_builtin entry_unchain ?_)))
  unfold Builtin.«proto.unchain»
  dsimp only
  refine wpAny_bind (wpAny_field ho1 hd1 hv1 ?_)
  rw [if_pos (by decide)]
  show wpAny _ _ (ret .none >>= fun x => pure x) _ _ _
  refine wpAny_bind (wpAny_pure (wpAny_pure ?_))
  dsimp only
  refine wpAny_bind (show wpAny _ _ (setField (.ref e) 2 (.ref e1)) _ _ _ from wpAny_setField he rfl (by show 2 < 6; decide) ?_)
  exact wpAny_throw hE
end

theorem fly_ctx {B G : Heap} {l : List Env} {C e : Addr} {c : Int} {h : Heap} {v : Value} (x : Fly B G l C (some c) e false h) : Fly B G l C (some c) e false (h.update e (Obj.mapFields (·.setIfInBounds 2 v))) := by
  refine nnOf fun nO => ?_
  obtain ⟨a, b, cc, up, d, vs, sl, es, n, h1, h2, h3, h4, h5, h6, h7, h8⟩ := x <;> (refine nO ?_; clear nO)
  have other : ∀ b, b ≠ e → (h.update e (Obj.mapFields (·.setIfInBounds 2 v))).get? b = h.get? b := fun b hb => Heap.get?_update_other _ _ (Ne.symm hb)
  have noRecord : ∀ b o, h.get? b = some o → (∀ vs, o.data ≠ .fields vs) → b ≠ e := fun b o hb hnf q => by
    rw [q, h1] at hb; injection hb with hb; subst hb; exact hnf vs rfl
  refine ⟨fun b o hbo => (other b fun q => by rw [q] at hbo; simp_all).trans (a b o hbo), b, cc.of_keeps fun b o hb hnf => ⟨o, (other b (noRecord b o hb hnf)).trans hb, rfl⟩, up.trans fun b o hb hnf => ⟨o.slots, (other b (noRecord b o hb hnf)).trans hb⟩,
    d, vs.setIfInBounds 2 v, sl, es, n, Heap.get?_update_self (Obj.mapFields (·.setIfInBounds 2 v)) h1 rfl, by rw [Array.size_setIfInBounds]; exact h2, fun q => (nomatch q), h4, h5, (other d h4).trans h6, h7, ?_⟩
  rcases h8 with ⟨h8, h9⟩ | ⟨T, oT, ts, y1, y2, y3, y4, y5, y6⟩
  · exact .inl ⟨h8, by rw [Array.getElem?_setIfInBounds_ne (by decide)]; exact h9⟩
  · exact .inr ⟨T, oT, ts, by rw [Array.getElem?_setIfInBounds_ne (by decide)]; exact y1, y2, y3, (other T y3).trans y4, y5, y6⟩

theorem Caught.led {A : Around} {base g h' g' : Heap} {env : Env} {outer : List Env} {C e L : Addr} {code : Option Int} {tr : Bool} {G : Heap} (c : Caught A base g (env :: outer) h' g') (hf : env.frame = some L) (x : Fly (hideAll g (frs (env :: outer))) G (env :: outer) C code e tr h') :
    ∃ oe d vs es n, News g' L h' [(e, oe), (d, dictOf es n)] ∧ oe.cls = .ref C ∧ oe.dict = some d ∧ oe.data = .fields vs ∧ (code = none → vs[2]? = some .none) ∧ d ≠ e ∧ (∀ c, code = some c → ∃ tk, getL "code" es = some (some (.int c tk))) := by
  refine nnOf fun nO => ?_
  obtain ⟨a, b, cc, up, d, vs, sl, es, n, h1, h2, h3, h4, h5, h6, h7, h8⟩ := x <;> (refine nO ?_; clear nO)
  have ne : e ∉ frs (env :: outer) := fun hm => by
    refine nnOf fun nO => ?_
    obtain ⟨_, o, ho, hd⟩ := cc.mem hm <;> (refine nO ?_; clear nO)
    rw [h1] at ho; cases ho; exact hd vs rfl
  have non : ∀ b, b ∉ frs (env :: outer) → (hideAll g (frs (env :: outer))).get? b = none → g'.get? b = none := fun b hb hn => by
    refine c.back b ?_
    cases q : g.get? b with
    | none => rfl
    | some o => rw [hideAll_get _ q hb] at hn; cases hn
  have hL : L ∈ frs (env :: outer) := List.mem_filterMap.mpr ⟨env, .head _, hf⟩
  refine ⟨⟨.ref C, some d, .fields vs, sl⟩, d, vs, es, n, fun p hp => ?_, rfl, rfl, rfl, h3, h4, h7⟩
  rcases List.mem_cons.mp hp with rfl | hp
  · exact ⟨h1, fun q => ne ((show e = L from q) ▸ hL), non e ne b⟩
  · rw [List.mem_singleton] at hp; subst hp
    exact ⟨h6, fun q => h5.1 ((show d = L from q) ▸ hL), non d h5.1 h5.2⟩

end
section
open PySem PySem.W PySem.Spec PySem.Calls PyProof.Rows

section
variable {w : World} {A A₀ : Around} {E : Value → Shared → Prop} {s : Shared} {env : Env} {outer : List Env} {base g h : Heap} {L C e : Addr} {m : PySem.Str → Option Value} {code : Option Int} {Q : Flow → Shared → Prop}
  {mean : ExcName → Option Value} {mg mb : PySem.Str → Option Value} {t : PySem.Expr} {b₀ : Stmt} {suite : List Stmt} {pos : Pos} {rest : List ExceptHandler}

structure Hand (w : World) (A₀ : Around) (base g : Heap) (env : Env) (outer : List Env) (L C e : Addr) (m : PySem.Str → Option Value) (code : Option Int) (mean : ExcName → Option Value) (mg mb : PySem.Str → Option Value) (h4 g4 : Heap) (oe : Obj) (d : Addr) (vs : Array Value) (es : List DictEntry) (n : Nat) : Prop where
  c : Caught A₀ base g (env :: outer) h4 g4
  B : Below A₀ base outer g4
  F : Fr g4 L h4 m
  N : News g4 L h4 [(e, oe), (d, dictOf es n)]
  cls : oe.cls = .ref C
  dict : oe.dict = some d
  data : oe.data = .fields vs
  ctx : code = none → vs[2]? = some .none
  ne : d ≠ e
  code : ∀ c, code = some c → ∃ tk, getL "code" es = some (some (.int c tk))
  X : (KP w.params).In g4
  T : Top VW (looseW VW []) mean mg mb g4

theorem hand_of (B : Below A₀ base outer g) (F : Fr g L h m) (hf : env.frame = some L) (O : OnBase w mean mg mb base) {h4 : Heap} (x : Fly (hideAll g (frs (env :: outer))) h (env :: outer) C code e true h4) :
    ∃ g4 oe d vs es n, Hand w A₀ base g env outer L C e m code mean mg mb h4 g4 oe d vs es n := by
  have hL : ∀ L', env.frame = some L' → g.get? L' = none := fun L' hL' => by
    rw [hf] at hL'; cases hL'
    exact Heap.get?_none_of_le F.above
  have x' : Fly (hideAll g (frs (env :: outer))) g (env :: outer) C code e true h4 := x.mono (fun _ _ q => q) F.keep
  obtain ⟨g4, c, B4⟩ := caught B hL x'
  refine nnOf fun nO => ?_
  obtain ⟨oe, d, vs, es, n, N, a1, a2, a3, a4, a5, a6⟩ := c.led hf x <;> (refine nO ?_; clear nO)
  exact ⟨g4, oe, d, vs, es, n, c, B4, c.fr F x.up, N, a1, a2, a3, a4, a5, a6, O.X.keeps c.base, O.T.keeps c.base⟩

theorem catch_plain (hfr : A.frames = some (env :: outer)) (hf : env.frame = some L) (B : Below A₀ base outer g) (F : Fr g L h m) (O : OnBase w mean mg mb base) (Y : IsExc (KP w.params) C)
    (x : Fly (hideAll g (frs (env :: outer))) g (env :: outer) C code e true s.heap) (y : h.UpToSlots s.heap)
    (ev : ∀ g3 h3 oe d vs es n Q E, Hand w A₀ base g env outer L C e m code mean mg mb h3 g3 oe d vs es n → Q (.ref C) { s with heap := h3 } → wpAny (model PySem.Challenge.rw_no0277_01.row.prog w) (A.mark (some (.ref e))) (eval t env) Q E { s with heap := h3 })
    (su : ∀ g4 h4 oe d vs es n, Hand w A₀ base g env outer L C e m code mean mg mb h4 g4 oe d vs es n →
      wpAny (model PySem.Challenge.rw_no0277_01.row.prog w) (A.mark (some (.ref e))) (execs (b₀ :: suite) env) Q (notedBy (model PySem.Challenge.rw_no0277_01.row.prog w) (A.mark (some (.ref e))) env (cameBackBy (model PySem.Challenge.rw_no0277_01.row.prog w) A env E)) { s with heap := h4 }) :
    wpAny (model PySem.Challenge.rw_no0277_01.row.prog w) A (noteFrame (.ref e) env) (fun _ s₂ => wpAny (model PySem.Challenge.rw_no0277_01.row.prog w) A (setFlight (.ref e) none) (fun _ s₃ => wpAny (model PySem.Challenge.rw_no0277_01.row.prog w) A (handleBy (.ref e) env (.ExceptHandler (some t) none (b₀ :: suite) pos :: rest)) Q E s₃) E s₂) E s := by
  have x0 : Fly (hideAll g (frs (env :: outer))) h (env :: outer) C code e true s.heap := ⟨x.stays, x.new, x.fr, y, x.tr⟩
  refine fly_note hfr hf x0 fun h2 x2 => ?_
  refine fly_set (s := { s with heap := h2 }) x2 fun h3 x3 => ?_
  refine nnOf fun nO => ?_
  obtain ⟨g3, oe, d, vs, es, n, H⟩ := hand_of B F hf O x3 <;> (refine nO ?_; clear nO)
  refine handle_own Y H.X (ev g3 h3 oe d vs es n _ _ H ⟨rfl, H.F.keep, ⟨_, (H.N _ (.head _)).1, H.cls⟩, ?_⟩)
  refine fly_set (s := { s with heap := h3 }) x3 fun h4 x4 => ?_
  refine nnOf fun nO => ?_
  obtain ⟨g4, oe4, d4, vs4, es4, n4, H4⟩ := hand_of B F hf O x4 <;> (refine nO ?_; clear nO)
  exact su _ _ _ _ _ _ _ H4

theorem catch_as (hfr : A.frames = some (env :: outer)) (hf : env.frame = some L) (B : Below A₀ base outer g) (F : Fr g L h m) (O : OnBase w mean mg mb base) (Y : IsExc (KP w.params) C) {nm : PySem.Str}
    (x : Fly (hideAll g (frs (env :: outer))) g (env :: outer) C code e true s.heap) (y : h.UpToSlots s.heap)
    (ev : ∀ g3 h3 oe d vs es n Q E, Hand w A₀ base g env outer L C e m code mean mg mb h3 g3 oe d vs es n → Q (.ref C) { s with heap := h3 } → wpAny (model PySem.Challenge.rw_no0277_01.row.prog w) (A.mark (some (.ref e))) (eval t env) Q E { s with heap := h3 })
    (su : ∀ g4 h4 oe d vs es n, Hand w A₀ base g env outer L C e m code mean mg mb h4 g4 oe d vs es n →
      wpAny (model PySem.Challenge.rw_no0277_01.row.prog w) (A.mark (some (.ref e))) (storeName env nm (.ref e)) (fun _ s₃ =>
            wpAny (model PySem.Challenge.rw_no0277_01.row.prog w) (A.mark (some (.ref e))) (execs (b₀ :: suite) env)
              (fun f s₄ => wpAny (model PySem.Challenge.rw_no0277_01.row.prog w) A (do bindName env nm .none; unbindBehindTheSuite env nm pos) (fun _ s₅ => Q f s₅) E s₄) (fun _ _ => False) s₃) (fun _ _ => False) { s with heap := h4 }) :
    wpAny (model PySem.Challenge.rw_no0277_01.row.prog w) A (noteFrame (.ref e) env) (fun _ s₂ => wpAny (model PySem.Challenge.rw_no0277_01.row.prog w) A (setFlight (.ref e) none) (fun _ s₃ => wpAny (model PySem.Challenge.rw_no0277_01.row.prog w) A (handleBy (.ref e) env (.ExceptHandler (some t) (some nm) (b₀ :: suite) pos :: rest)) Q E s₃) E s₂) E s := by
  have x0 : Fly (hideAll g (frs (env :: outer))) h (env :: outer) C code e true s.heap := ⟨x.stays, x.new, x.fr, y, x.tr⟩
  refine fly_note hfr hf x0 fun h2 x2 => ?_
  refine fly_set (s := { s with heap := h2 }) x2 fun h3 x3 => ?_
  obtain ⟨g3, oe, d, vs, es, n, H⟩ := hand_of B F hf O x3
  refine handle_own_as Y H.X (E' := fun _ _ => False) (fun _ _ h => h.elim) (ev g3 h3 oe d vs es n _ _ H ⟨rfl, H.F.keep, ⟨_, (H.N _ (.head _)).1, H.cls⟩, ?_⟩)
  refine fly_set (s := { s with heap := h3 }) x3 fun h4 x4 => ?_
  obtain ⟨g4, oe4, d4, vs4, es4, n4, H4⟩ := hand_of B F hf O x4
  exact wpAny_mono (su _ _ _ _ _ _ _ H4) (fun _ _ x => x) fun _ _ h => h.elim
end

end
section
open PySem PySem.W PySem.Spec PySem.Calls PyProof.Rows

noncomputable def eqS (x : PySem.Str) : Value → Bool
  | .str y _ => y == x
  | _ => false
noncomputable def allS (items : Array Value) : Bool := items.toList.all fun v => match v with | .str _ _ => true | _ => false

section
variable {prog : Program} {w : World} {A : Around} {E : Value → Shared → Prop} {s : Shared}
theorem in_tupS {a : Addr} {items : Array Value} {x : PySem.Str} {t : Tok} {Q : Value → Shared → Prop} (ht : s.heap.IsTuple a items) (hall : allS items = true) {b : Bool} (hb : items.toList.any (eqS x) = b) (h : Q (.bool b) s) :
    wpAny (model prog w) A (compareOp .In (.str x t) (.ref a)) Q E s := by
  rw [Array.any_toList] at hb
  subst hb
  refine PySem.SeqAt.in_tupleAt (eqS x) ht (fun y hy => ?_) h
  have := List.all_eq_true.mp hall y (by simpa using hy)
  cases y with
  | str z u => exact PySem.SeqAt.EqAt.str_str z u x t
  | _ => cases this
theorem notin_tupS {a : Addr} {items : Array Value} {x : PySem.Str} {t : Tok} {Q : Value → Shared → Prop} (ht : s.heap.IsTuple a items) (hall : allS items = true) {b : Bool} (hb : items.toList.any (eqS x) = b) (h : Q (.bool (!b)) s) :
    wpAny (model prog w) A (compareOp .NotIn (.str x t) (.ref a)) Q E s := by
  rw [Array.any_toList] at hb
  subst hb
  refine PySem.SeqAt.notIn_tupleAt (eqS x) ht (fun y hy => ?_) h
  have := List.all_eq_true.mp hall y (by simpa using hy)
  cases y with
  | str z u => exact PySem.SeqAt.EqAt.str_str z u x t
  | _ => cases this
end
theorem tupK {K : Frag} {g h : Heap} {L a : Addr} {m : PySem.Str → Option Value} {dd : Option Addr} {items : Array Value} {n : Nat} {sl : Array (Option Value)} (X : K.In g) (F : Fr g L h m) (hk : K.lookup a = some ⟨.type "tuple", dd, .seq items n, sl⟩) : h.IsTuple a items :=
  ⟨_, F.keep _ _ (X _ _ hk), rfl, n, rfl⟩

section
variable {prog : Program} {w : World} {A : Around} {E : Value → Shared → Prop} {s : Shared} {g : Heap} {L l : Addr} {m : PySem.Str → Option Value} {vs : List Value}
end

end
section
open PySem PySem.W PySem.Spec PySem.Calls PyProof.Rows Builtin Builtin.ObjectAttr Builtin.Getset_descriptor

section
variable {prog : Program} {w : World} {A : Around} {K : Frag} {C : Addr} {h : Heap} {g : Array GenState} {d : Drawn} {t : Nat} {os : OsState}
theorem make_W {rest : List Value} {init : Value} {Q E : Value → Shared → Prop} (Y : Makes (model prog w) h C) (hi : Looks (model prog w) h (typeLookup (.ref C) "__init__") (some init))
    (hb : ∀ self, Looks (model prog w) h (bindSpecial init self) (init, [self])) (hne : (some init != some (Value.builtin "object.__init__")) = true)
    (hq : wpAny (model prog w) (A.under (.builtin "type.__call__" ⟨.ref C :: rest, []⟩)) (call init (.ref (h.objs.size + 1) :: rest)) (fun v s' => v = .none ∧ Q (.ref (h.objs.size + 1)) s') E ⟨(h.push emptyDict).push (instObj C h.objs.size), g, d, t, os⟩) :
    wpAny (model prog w) A (call (.ref C) rest) Q E ⟨h, g, d, t, os⟩ := by
  have Y' := Y
  obtain ⟨⟨oc, od, cd, sl, hC, e1, e2, e4⟩, made, base, self, top, call, typ⟩ := Y
  refine wpAny_call (codeAny_of_tree ?_)
  show wpAny _ _ (callAny (.ref C) _) _ _ _
  refine nd_load hC ?_
  show wpAny _ _ (callAny.viaDunder (.ref C) _) _ _ _
  unfold callAny.viaDunder
  refine wpAny_bind (call.at ?_)
  dsimp only
  rw [tc_bind]
  refine wpAny_bind (wpAny_pure (wpAny_bind (wpAny_pure ?_)))
  refine wpAny_pure (a := Fin.again (.call (.builtin "type.__call__") ⟨.ref C :: rest, []⟩)) (And.intro rfl ?_)
  refine codeAny_call_builtin_at (Code.quiet_builtin _ (by decide +kernel)) entry_typeCall (check_slot tc_kind tc_split typ (tc_args _ _ _) ?_)
  unfold Builtin.«type.__call__»
  have hm : Looks (model prog w) h (mroOf (.ref C)) cd.mro := ((Looks.ld (part := none) hC).andThen .now).andThen .now
  repeat (first | simp only [e4, Bool.false_eq_true, if_false] | with_reducible refine wpAny_call ?_ | lk)
  refine new_K Y' hi (.inl hne) ?_
  have k : ∀ b o, h.get? b = some o → ((h.push emptyDict).push (instObj C h.objs.size)).get? b = some o := fun b o e => Heap.get?_push_of_some _ (Heap.get?_push_of_some _ e)
  have hx : ((h.push emptyDict).push (instObj C h.objs.size)).get? (h.objs.size + 1) = some (instObj C h.objs.size) := by heap_get
  have t1 : Looks (model prog w) ((h.push emptyDict).push (instObj C h.objs.size)) (typeOf (.ref (h.objs.size + 1))) (.ref C) := (Looks.ld hx).andThen .now
  have s1 := self.keeps k
  have i1 := hi.keeps k
  have b1 := (hb (.ref (h.objs.size + 1))).keeps k
  unfold isInstance callSpecial? specialOf
  repeat (first | ((fail_if_success (with_reducible show wpAny _ _ (PySem.call _ _) _ _ _)); lk))
  refine wpAny_mono hq (fun r s' z => ?_) fun _ _ z => z
  obtain ⟨rfl, z⟩ := z
  exact wpAny_pure (wpAny_pure z)
end

theorem cls_con {hd : Option Value} {w : World} {C fI : Addr} {k : Nat} {args : List Value} {fz pre : Led} {post : Value → Led → Prop} {rai : Addr → Option Int → Prop}
    (hm : makesIn (KP w.params) C = true) (hi : findIn (KP w.params) (.ref C) "__init__" = some (some (.ref fI))) (hf : typeIn (KP w.params) (.ref fI) = some (.type "function"))
    (init : ∀ x dx, dx < x → (∀ p ∈ pre, p.1 < dx) → ConH hd w fI k (.ref x :: args) fz ((x, instObj C dx) :: (dx, dictOf [] 0) :: pre) (fun v new => v = .none ∧ post (.ref x) new) rai) : ConH hd w C (k + 1) args fz pre post rai := by
  intro mean mg mb A A₀ base env outer s h₀ L m Q E Z hh N hfz hret hrai
  have X : (KP w.params).In s.heap := Z.X.keeps Z.F.keep
  obtain ⟨SB, Sfr, Sef, Sek, SF, SX, ST, Sdep, Sun, SO⟩ := Z
  obtain ⟨h, g, d, t, os⟩ := s
  refine make_W (makes_of X hm) (looks_findIn X hi) (fun self => bind_fn X self hf) rfl ?_
  have F1 : Fr h₀ L ((h.push emptyDict).push (instObj C h.objs.size)) m := (SF.push _).push _
  have N1 : News h₀ L ((h.push emptyDict).push (instObj C h.objs.size)) ((h.objs.size + 1, instObj C h.objs.size) :: (h.objs.size, emptyDict) :: pre) := by
    have := (N.push SF emptyDict).push (SF.push _) (instObj C h.objs.size)
    rwa [Heap.size_push] at this
  have keep : ∀ b o, h.get? b = some o → ((h.push emptyDict).push (instObj C h.objs.size)).get? b = some o := fun b o e => Heap.get?_push_of_some _ (Heap.get?_push_of_some _ e)
  have off : ∀ b o, h.get? b = some o → b ∉ ads pre → b ∉ ads ((h.objs.size + 1, instObj C h.objs.size) :: (h.objs.size, emptyDict) :: pre) := fun b o e nb hb => by
    have hlt := Heap.lt_size e
    rcases List.mem_cons.mp hb with hb | hb
    · have : b = h.objs.size + 1 := hb
      rw [this] at hlt; exact absurd hlt (Nat.not_lt.mpr (Nat.le_succ _))
    · rcases List.mem_cons.mp hb with hb | hb
      · have : b = h.objs.size := hb
        rw [this] at hlt; exact absurd hlt (Nat.lt_irrefl _)
      · exact nb hb
  refine init _ _ (Nat.lt_succ_self _) (fun p hp => Heap.lt_size (N p hp).1) mean mg mb _ A₀ base env outer ⟨(h.push emptyDict).push (instObj C h.objs.size), g, d, t, os⟩ h₀ L m _ E ⟨SB, ?_, Sef, Sek, F1, SX, ST, ?_, ?_, SO⟩ hh N1 (fun p q => ⟨keep _ _ (hfz p q).1, off _ _ (hfz p q).1 (hfz p q).2⟩) (fun v new h' tk hp F' N2 hk hf => ?_) (fun C' code e h' tk r x => hrai C' code e h' tk r (x.mono (hide_stays fun b o q nb => ⟨?_, ?_⟩) fun b o q => ?_))
  · unfold Around.under; dsimp only; rw [Sfr]; rfl
  · show A.depth + _ + 2 * k < _
    have : (Code.builtin "type.__call__" { pos := Value.ref C :: args }).weight = 1 := rfl
    lia
  · show A.units + _ + 16 * k < _
    have : (Code.builtin "type.__call__" { pos := Value.ref C :: args }).cUnits = 1 + 3 * (Code.builtin "type.__call__" { pos := Value.ref C :: args }).frames := rfl
    have h2 : (Code.builtin "type.__call__" { pos := Value.ref C :: args }).frames = 0 := rfl
    lia
  · obtain ⟨rfl, hp⟩ := hp
    refine ⟨rfl, hret _ new h' tk hp F' N2 (fun b o q nb => hk b o (keep b o q) (off b o q nb)) fun p hq => ?_⟩
    rcases hf p hq with q | q
    · rcases List.mem_cons.mp q with q | q
      · right
        show h.get? p.1 = none
        rw [show p.1 = h.objs.size + 1 from q]; exact Heap.get?_none_of_le (Nat.le_succ _)
      · rcases List.mem_cons.mp q with q | q
        · right
          show h.get? p.1 = none
          rw [show p.1 = h.objs.size from q]; exact Heap.get?_none_of_le (Nat.le_refl _)
        · exact .inl q
    · right
      show h.get? p.1 = none
      cases e : h.get? p.1 with
      | none => rfl
      | some o => rw [keep _ _ e] at q; cases q
  · exact hideAll_get _ (keep _ _ (of_hideAll _ q)) (off _ _ (of_hideAll _ q) fun m => by rw [hideAll_none _ m] at q; cases q)
  · exact nb
  · exact hideAll_get _ (keep _ _ (of_hideAll _ q)) (off _ _ (of_hideAll _ q) fun m => by rw [hideAll_none _ m] at q; cases q)

end
section
open PySem PySem.W PySem.Spec PySem.Calls PyProof.Rows
theorem usesZ {w : World} {k : Nat} {rai : Addr → Option Int → Prop} {mean : ExcName → Option Value} {mg mb : PySem.Str → Option Value} {A A₀ : Around} {base : Heap} {env : Env} {outer : List Env} {s : Shared} {h₀ : Heap} {L : Addr} {m : PySem.Str → Option Value} {N0 : Led} {Q E : Value → Shared → Prop} {hd : Option Value} {pre rest fz : Led} {post : Value → Led → Prop}
    (S : Site w mean mg mb k A A₀ base env outer s h₀ L m) (hh : A.handled = hd) (N : News h₀ L s.heap N0) (hs : N0 = pre ++ rest) (hz : ∀ p ∈ fz, h₀.get? p.1 = some p.2 ∨ p ∈ rest) (hr : ∀ p ∈ rest, p.1 ∉ ads pre)
    (ret : ∀ v new h' tk, Fr h₀ L h' m → News h₀ L h' (new ++ rest) → post v new → (∀ p ∈ new, p.1 ∈ ads pre ∨ (∀ q ∈ N0, q.1 ≠ p.1)) → Q v { s with heap := h', toks := tk })
    (rais : ∀ C code e h' tk, Fly (hideAll h₀ (frs (env :: outer))) h₀ (env :: outer) C code e true h' → (hideAll s.heap (ads pre)).UpToSlots h' → rai C code → E (.ref e) { s with heap := h', toks := tk }) :
    Uses hd w k fz pre post rai A Q E s := ⟨fun f args C => by
    have hk : ∀ b o, h₀.get? b = some o → b ∉ ads pre := fun b o q hb => by
      obtain ⟨p, hp, e'⟩ := List.mem_map.mp hb
      have := (N p (hs ▸ List.mem_append_left _ hp)).2.2
      rw [e', q] at this; cases this
    subst hs
    refine con_use C S hh N (fun p q => List.mem_append_left _ q) (fun p q => ?_) (fun p q => ⟨List.mem_append_right _ q, hr p q⟩) (fun v new h' tk pv F' N' hne _ => ret v new h' tk F' N' pv hne) (fun C code e h' tk r x => rais C code e h' tk (x.mono (fun _ _ q => q) fun b o q => hideAll_get _ (S.F.keep b o q) (hk b o q)) x.up r)
    rcases hz p q with z | z
    · exact ⟨S.F.keep _ _ z, hk _ _ z⟩
    · exact ⟨(N p (List.mem_append_right _ z)).1, hr p z⟩⟩

end
section
open PySem PySem.W PyProof.Rows PySem.Calls PySem.Spec
end
section
open PySem PySem.W PyProof.Rows PySem.Calls PySem.Spec
theorem ads_mem {l : Led} {p : Addr × Obj} (h : p ∈ l) : p.1 ∈ ads l := List.mem_map_of_mem h
theorem ads_sub {l l' : Led} (h : ∀ p ∈ l, p ∈ l') {a : Addr} (m : a ∈ ads l) : a ∈ ads l' := by
  obtain ⟨p, hp, rfl⟩ := List.mem_map.mp m
  exact ads_mem (h p hp)

theorem con_frame {hd : Option Value} {w : World} {f : Addr} {k : Nat} {args : List Value} {fz fz' pre pre' : Led} {post : Value → Led → Prop} {rai : Addr → Option Int → Prop} (more : Led) (C : ConH hd w f k args fz pre post rai)
    (hp : ∀ p ∈ pre, p ∈ pre') (hq : ∀ p ∈ pre', p ∈ pre ∨ p ∈ more) (hm : ∀ p ∈ more, p ∈ pre') (hr : ∀ p ∈ more, p.1 ∉ ads pre) (hz : ∀ p ∈ fz, p ∈ fz') :
    ConH hd w f k args fz' pre' (fun v new => ∃ n, new = n ++ more ∧ post v n) rai := by
  intro mean mg mb A A₀ base env outer s h₀ L m Q E S hh N hfz ret rais
  have sub : ∀ b, b ∉ ads pre' → b ∉ ads pre := fun b nb hb => nb (ads_sub hp hb)
  refine C mean mg mb A A₀ base env outer s h₀ L m Q E S hh (fun p q => N p (hp p q)) (fun p q => ⟨(hfz p (hz p q)).1, sub _ (hfz p (hz p q)).2⟩) (fun v new h' tk pv F' N' K Fs => ?_) (fun C' code e h' tk r x => rais C' code e h' tk r ?_)
  · refine ret v (new ++ more) h' tk ⟨new, rfl, pv⟩ F' (fun p hp' => ?_) (fun b o q nb => K b o q (sub b nb)) fun p hp' => ?_
    · rcases List.mem_append.mp hp' with h | h
      · exact N' p h
      · exact ⟨K _ _ (N p (hm p h)).1 (hr p h), (N p (hm p h)).2⟩
    · rcases List.mem_append.mp hp' with h | h
      · rcases Fs p h with q | q
        · exact .inl (ads_sub hp q)
        · exact .inr q
      · exact .inl (ads_mem (hm p h))
  · refine x.mono (hide_stays fun b o q nb => ⟨?_, nb⟩) (hide_stays fun b o q nb => ⟨q, sub b nb⟩)
    have q1 := of_hideAll _ q
    have q2 : b ∉ ads pre' := fun hb => by rw [hideAll_none _ hb] at q; cases q
    exact hideAll_get _ q1 (sub b q2)

theorem con_impS {hd : Option Value} {w : World} {f : Addr} {k : Nat} {args : List Value} {fz pre : Led} {post post' : Value → Led → Prop} {rai rai' : Addr → Option Int → Prop} (C : ConH hd w f k args fz pre post rai)
    (h : ∀ v new, post v new → ∃ new', post' v new' ∧ ∀ p ∈ new', p ∈ new) (hr : ∀ C c, rai C c → rai' C c) : ConH hd w f k args fz pre post' rai' :=
  fun mean mg mb A A₀ base env outer s h₀ L m Q E S hh N hz ret rais => C mean mg mb A A₀ base env outer s h₀ L m Q E S hh N hz
    (fun v new h' tk p F' N' K Fs => let ⟨new', p', hs⟩ := h v new p; ret v new' h' tk p' F' (news_sub N' hs) K fun p hp => Fs p (hs p hp)) fun C c e h' tk r => rais C c e h' tk (hr C c r)

noncomputable def sig (o : Obj) : Nat × Value := (match o.data with | .dict _ n => n | _ => 0, o.cls)
theorem off_sig {h₀ h : Heap} {L : Addr} {A B l : Led} (N : News h₀ L h l) (hA : ∀ p ∈ A, p ∈ l) (hB : ∀ p ∈ B, p ∈ l) (hs : ∀ p ∈ A, ∀ q ∈ B, sig p.2 ≠ sig q.2) : ∀ p ∈ A, p.1 ∉ ads B := fun p hp hb => by
  obtain ⟨q, hq, e⟩ := List.mem_map.mp hb
  have h1 := (N p (hA p hp)).1
  have h2 := (N q (hB q hq)).1
  rw [e, h1] at h2
  exact hs p hp q hq (congrArg sig (Option.some.inj h2))
theorem ne_sig {h₀ h : Heap} {L a b : Addr} {l : Led} {o o' : Obj} (N : News h₀ L h l) (ha : (a, o) ∈ l) (hb : (b, o') ∈ l) (hs : sig o ≠ sig o') : a ≠ b := fun e => by
  subst e
  have h1 := (N _ ha).1
  have h2 := (N _ hb).1
  dsimp only at h1 h2
  rw [h1] at h2
  exact hs (congrArg sig (Option.some.inj h2))

end
open PySem PySem.W PyProof.Rows PySem.Calls PySem.Spec

theorem fill_k (w : World) : (PySem.Challenge.rw_no0277_01.row.prog, KP w.params) = (PySem.Challenge.rw_no0277_01.row.prog, KP w.params) := by k_fill; rfl
local macro_rules | `(tactic| k_all) => `(tactic| assumption)
section
local macro_rules | `(tactic| walk_at "getMethod type:Exception") => `(tactic| (k_here; refine' method_type ?F ?X ?m (by decide +kernel) ?e ?h ?_; (case F => k_asm); (case X => k_asm); (case m => with_unfolding_all rfl); (case e => k_dflt k_is); (case h => k_handed)))
theorem tail44 : Tail "Exception" [.ref 31, .type "Exception", .type "BaseException", .type "object"] := ⟨by decide +kernel, by decide +kernel, by decide +kernel, by decide +kernel⟩
theorem tail82 : Tail "Exception" [.ref 31, .type "Exception", .type "BaseException", .type "object"] := tail44
theorem f28_44 (w : World) (hd : Option Value) (e t : Addr) (x : PySem.Str) (tx : Tok) :
    ConH hd w 28 2 [.ref e, .str x tx] [] [(e, excAt 44 t)] (fun v new => v = .none ∧ ∃ T d tk, new = [(e, dexc 44 d T), (d, dictOf [⟨PyData.keyHash w.params "text", .str "text" tk, .str x tx⟩] 1)] ∧ d ≠ e) := by
  refine' con_intro (binds := [("self", .ref e), ("text", .str x tx)]) ?ho ?hbody ?hscope ?hcd ?hb ?hl ?hk0 ?hmain ?c2 ?c3 ?c4 ?c5
  (k_dflt (
    (case ho => k_is)
    (case hbody => conv => lhs; whnf)
    (case hscope => conv => lhs; whnf)
    (case hcd => k_is)
    (case hb => intro s hX; first | exact BindsTo.of_eq rfl | exact binds_K hX rfl (by k_is) rfl rfl rfl)
    (case hl => exact locs rfl)
    (case hk0 => decide)
    (case c2 => exact rfl)
    (case c3 => exact rfl)
    (case c4 => exact rfl)
    (case c5 => decide)
    intro mean mg mb dp un gd env outer base g L s h₁ hdep hun hek hL hfz hlt F N B X T O
    (try dsimp only)))
  (repeat' (first | ((try dsimp only); ((fail_if_success (with_reducible show wpAny _ _ (call (Value.ref _) _) _ _ _)); (fail_if_success (with_reducible show Back _ _ _ _ _ _))); walk1) | fail "no step"))
  have X := ‹(KP w.params).In _›
  refine e_initK (C := 44) (t0 := t) (by assumption) (by assumption) PySem.F.excBase_Exception tail44 (X _ _ (by k_is)) (by size_fits) fun T h' F' N' => ?_
  (repeat' (first | ((try dsimp only); ((fail_if_success (with_reducible show wpAny _ _ (call (Value.ref _) _) _ _ _)); (fail_if_success (with_reducible show Back _ _ _ _ _ _))); walk1) | fail "no step"))
  all_goals try dsimp only
  refine e_set0 (by assumption) X (by assumption) (by k_is) (pass1 _ _ _) (by decide +kernel) rfl (by k_is) (by k_is) fun d tk h' F' N' hne => ?_
  (repeat' (first | ((try dsimp only); ((fail_if_success (with_reducible show wpAny _ _ (call (Value.ref _) _) _ _ _)); (fail_if_success (with_reducible show Back _ _ _ _ _ _))); walk1) | fail "no step"))
  all_goals try dsimp only
  all_goals refine back (by k_asm) (by k_asm) ?_
  exact ⟨rfl, _, _, _, rfl, hne⟩
theorem f28_82 (w : World) (hd : Option Value) (e t : Addr) (x : PySem.Str) (tx : Tok) :
    ConH hd w 28 2 [.ref e, .str x tx] [] [(e, excAt 82 t)] (fun v new => v = .none ∧ ∃ T d tk, new = [(e, dexc 82 d T), (d, dictOf [⟨PyData.keyHash w.params "text", .str "text" tk, .str x tx⟩] 1)] ∧ d ≠ e) := by
  refine' con_intro (binds := [("self", .ref e), ("text", .str x tx)]) ?ho ?hbody ?hscope ?hcd ?hb ?hl ?hk0 ?hmain ?c2 ?c3 ?c4 ?c5
  (k_dflt (
    (case ho => k_is)
    (case hbody => conv => lhs; whnf)
    (case hscope => conv => lhs; whnf)
    (case hcd => k_is)
    (case hb => intro s hX; first | exact BindsTo.of_eq rfl | exact binds_K hX rfl (by k_is) rfl rfl rfl)
    (case hl => exact locs rfl)
    (case hk0 => decide)
    (case c2 => exact rfl)
    (case c3 => exact rfl)
    (case c4 => exact rfl)
    (case c5 => decide)
    intro mean mg mb dp un gd env outer base g L s h₁ hdep hun hek hL hfz hlt F N B X T O
    (try dsimp only)))
  (repeat' (first | ((try dsimp only); ((fail_if_success (with_reducible show wpAny _ _ (call (Value.ref _) _) _ _ _)); (fail_if_success (with_reducible show Back _ _ _ _ _ _))); walk1) | fail "no step"))
  have X := ‹(KP w.params).In _›
  refine e_initK (C := 82) (t0 := t) (by assumption) (by assumption) PySem.F.excBase_Exception tail82 (X _ _ (by k_is)) (by size_fits) fun T h' F' N' => ?_
  (repeat' (first | ((try dsimp only); ((fail_if_success (with_reducible show wpAny _ _ (call (Value.ref _) _) _ _ _)); (fail_if_success (with_reducible show Back _ _ _ _ _ _))); walk1) | fail "no step"))
  all_goals try dsimp only
  refine e_set0 (by assumption) X (by assumption) (by k_is) (pass1 _ _ _) (by decide +kernel) rfl (by k_is) (by k_is) fun d tk h' F' N' hne => ?_
  (repeat' (first | ((try dsimp only); ((fail_if_success (with_reducible show wpAny _ _ (call (Value.ref _) _) _ _ _)); (fail_if_success (with_reducible show Back _ _ _ _ _ _))); walk1) | fail "no step"))
  all_goals try dsimp only
  all_goals refine back (by k_asm) (by k_asm) ?_
  exact ⟨rfl, _, _, _, rfl, hne⟩

theorem f79 (w : World) (hd : Option Value) (e t : Addr) (c : Int) (x : PySem.Str) (tc tx : Tok) :
    ConH hd w 79 3 [.ref e, .int c tc, .str x tx] [] [(e, excAt 82 t)] (fun v new => v = .none ∧ ∃ T d es n, new = [(e, dexc 82 d T), (d, dictOf es n)] ∧ d ≠ e ∧ getL "code" es = some (some (.int c tc))) := by
  refine' con_intro (binds := [("self", .ref e), ("code", .int c tc), ("text", .str x tx)]) ?ho ?hbody ?hscope ?hcd ?hb ?hl ?hk0 ?hmain ?c2 ?c3 ?c4 ?c5
  (k_dflt (
    (case ho => k_is)
    (case hbody => conv => lhs; whnf)
    (case hscope => conv => lhs; whnf)
    (case hcd => k_is)
    (case hb => intro s hX; first | exact BindsTo.of_eq rfl | exact binds_K hX rfl (by k_is) rfl rfl rfl)
    (case hl => exact locs rfl)
    (case hk0 => decide)
    (case c2 => exact rfl)
    (case c3 => exact rfl)
    (case c4 => exact rfl)
    (case c5 => decide)
    intro mean mg mb dp un gd env outer base g L s h₁ hdep hun hek hL hfz hlt F N B X T O
    (try dsimp only)))
  have X := ‹(KP w.params).In _›
  (repeat' (first | ((try dsimp only); ((fail_if_success (with_reducible show wpAny _ _ (call (Value.ref _) _) _ _ _)); (fail_if_success (with_reducible show Back _ _ _ _ _ _))); walk1) | fail "no step"))
  refine con_by (f28_82 w hd e t x tx) ?_
  (
    (first | refine' usesPI ?S1 ?hh1 ?N1 ?hs1 ?hz1 ?hr1 ?ret1 ?rais1 | refine' uses ?S1 ?hh1 ?N1 ?hs1 ?hz1 ?hr1 ?ret1 ?rais1);
    (case S1 => (refine' Site.mk ?sB2 rfl rfl rfl ?sF2 ?sX2 ?sT2 ?sd2 ?su2 ?sO2; (case sd2 => (first | exact dep_ok (n := 1) (by assumption) rfl (by decide) | exact uni_ok (n := 3) (by assumption) rfl (by decide) | exact dep_ok (n := 2) (by assumption) rfl (by decide) | exact uni_ok (n := 4) (by assumption) rfl (by decide) | (simp only [Around.deeper, Around.mark, depth_under_make, depth_under_kw, depth_in1, depth_deeper] at *; omega))); (case su2 => (first | exact dep_ok (n := 1) (by assumption) rfl (by decide) | exact uni_ok (n := 3) (by assumption) rfl (by decide) | exact dep_ok (n := 2) (by assumption) rfl (by decide) | exact uni_ok (n := 4) (by assumption) rfl (by decide) | (simp only [Around.deeper, Around.mark, depth_under_make, depth_under_kw, depth_in1, depth_deeper] at *; omega))); (case sB2 => k_asm); (case sF2 => k_asm); (case sX2 => k_asm); (case sT2 => k_asm); (case sO2 => k_asm)));
    (case hh1 => rfl);
    (case N1 => k_asm);
    (case hs1 => rfl);
    (case hz1 => first | exact List.forall_mem_nil _ | assumption);
    (case' hr1 => first | exact List.forall_mem_nil _ | exact fun _ _ h => List.not_mem_nil h | ((repeat' (first | exact List.forall_mem_nil _ | refine List.forall_mem_cons.mpr ⟨?_, ?_⟩)); all_goals (simp only [ads, srcL, rdrL, ctlL, modL, limL, lrdL, List.cons_append, List.nil_append, List.map_cons, List.map_nil, List.mem_cons, List.not_mem_nil, or_false, not_or]; (repeat' (refine And.intro ?_ ?_)); all_goals first | assumption | exact Ne.symm (by assumption) | k_ne)) | skip);
    (case' rais1 => first | exact fun _ _ _ _ _ _ _ r => r.elim | skip))
  rintro v new h' tk F' N' ⟨rfl, T, d, tk', rfl, hne⟩ _
  (repeat' (first | ((try dsimp only); ((fail_if_success (with_reducible show wpAny _ _ (call (Value.ref _) _) _ _ _)); (fail_if_success (with_reducible show Back _ _ _ _ _ _))); walk1) | fail "no step"))
  all_goals try dsimp only
  simp only [List.append_nil] at N'
  refine e_set1 (C := 82) (t := T) (d := d) (by assumption) X (by assumption) hne (by k_is) (pass1 _ _ _) (by decide +kernel) rfl (by k_is) (by k_is) rfl (Nat.le_of_ble_eq_true rfl) fun tk h' F' N' => ?_
  (repeat' (first | ((try dsimp only); ((fail_if_success (with_reducible show wpAny _ _ (call (Value.ref _) _) _ _ _)); (fail_if_success (with_reducible show Back _ _ _ _ _ _))); walk1) | fail "no step"))
  all_goals try dsimp only
  refine back (by k_asm) (by k_asm) ?_
  exact ⟨rfl, _, _, _, _, rfl, hne, by with_unfolding_all rfl⟩
theorem run_fault_con (w : World) (hd : Option Value) (v : Value) (x : PySem.Str) (hv : ∃ t, v = .str x t) :
    ConH hd w 44 3 [v] [] [] (fun v new => ∃ e T d es n, v = .ref e ∧ new = [(e, dexc 44 d T), (d, dictOf es n)]) := by
  obtain ⟨tx, rfl⟩ := hv
  refine exc_con (hC := by k_is) PySem.F.excBase_Exception tail44 (by k_is) ⟨_, by k_is, rfl⟩ (by size_fits) (k := 2) (fun e t => con_imp (f28_44 w hd e t x tx) ?_ fun _ _ r => r)
  rintro v new ⟨rfl, T, d, tk, rfl, _⟩
  exact ⟨rfl, _, _, _, _, _, rfl, rfl⟩
theorem io_fault_con (w : World) (hd : Option Value) (v1 v2 : Value) (c : Int) (x : PySem.Str) (hv : IsI v1 c) (hv2 : ∃ t, v2 = .str x t) :
    ConH hd w 82 4 [v1, v2] [] [] (ioPost c) := by
  obtain ⟨tc, rfl⟩ := hv
  obtain ⟨tx, rfl⟩ := hv2
  refine exc_con (hC := by k_is) PySem.F.excBase_Exception tail82 (by k_is) ⟨_, by k_is, rfl⟩ (by size_fits) (k := 3) (fun e t => con_imp (f79 w hd e t c x tc tx) ?_ fun _ _ r => r)
  rintro v new ⟨rfl, T, d, es, n, rfl, _, hc⟩
  exact ⟨rfl, _, _, _, _, _, _, rfl, rfl, hc⟩
theorem exc44 (w : World) : IsExc (KP w.params) 44 := ⟨_, _, _, _, _, _, _, _, _, _, _, _, _, _, _, _, _, tail44.hasBase, by k_is⟩
theorem exc82 (w : World) : IsExc (KP w.params) 82 := ⟨_, _, _, _, _, _, _, _, _, _, _, _, _, _, _, _, _, tail82.hasBase, by k_is⟩

end
section
open PySem PySem.W PyProof.Rows PySem.Calls PySem.Spec
structure St where
  ps : List (Option Value)
  led : Led
  fz : Led
structure Fn where
  nm : List PySem.Str
  gl : List (PySem.Str × Value)
  fn : List Addr
structure Cx where
  A : Around
  env : Env
  outer : List Env
  g : Heap
  s : Shared
  E : Value → Shared → Prop
  kp : Led
noncomputable def Cx.sh (c : Cx) (h : Heap) (t : Nat) : Shared := { c.s with heap := h, toks := t }
noncomputable def lk : List PySem.Str → List (Option Value) → PySem.Str → Option Value
  | n :: nr, p :: pr, y => if y = n then p else lk nr pr y
  | _, _, _ => none
theorem lk_mem {x : PySem.Str} {v : Value} : ∀ {nm : List PySem.Str} {ps : List (Option Value)}, lk nm ps x = some v → x ∈ nm
  | [], _, h => by cases h
  | _ :: _, [], h => by cases h
  | n :: nr, p :: pr, h => by
    unfold lk at h
    split at h
    · rename_i e; rw [e]; exact .head _
    · exact .tail _ (lk_mem h)
noncomputable def stS : List PySem.Str → List (Option Value) → PySem.Str → Value → (List (Option Value) → Prop) → Prop
  | n :: nr, p :: pr, x, v, k => if x = n then k (some v :: pr) else stS nr pr x v fun r => k (p :: r)
  | _, _, _, _, _ => False
theorem stS_ok {x : PySem.Str} {v : Value} : ∀ {nm : List PySem.Str} {ps : List (Option Value)} {k : List (Option Value) → Prop}, stS nm ps x v k → ∃ ps', k ps' ∧ x ∈ nm ∧ lk nm ps' = fun y => if y = x then some v else lk nm ps y
  | [], _, _, h => h.elim
  | _ :: _, [], _, h => h.elim
  | n :: nr, p :: pr, k, h => by
    unfold stS at h
    split at h
    · rename_i e
      refine ⟨_, h, e ▸ .head _, ?_⟩
      funext y
      show (if y = n then some v else lk nr pr y) = if y = x then some v else (if y = n then p else lk nr pr y)
      rw [← e]; split <;> rfl
    · rename_i e
      obtain ⟨ps', h1, h2, h3⟩ := stS_ok h
      refine ⟨_, h1, .tail _ h2, ?_⟩
      funext y
      show (if y = n then p else lk nr ps' y) = if y = x then some v else (if y = n then p else lk nr pr y)
      rw [h3]
      by_cases e1 : y = n
      · rw [if_pos e1, if_neg (fun q => e (q.symm.trans e1)), if_pos e1]
      · rw [if_neg e1, if_neg e1]
noncomputable abbrev MD (w : World) : Model := model PySem.Challenge.rw_no0277_01.row.prog w
structure Hd (T : Fn) (c : Cx) (σ : St) (h : Heap) : Prop where
  F : Fr c.g c.env.locals h (lk T.nm σ.ps)
  N : News c.g c.env.locals h (σ.led ++ c.kp)
  D : ∀ p ∈ σ.led, ∀ q ∈ c.kp, p.1 ≠ q.1
  Z : ∀ p ∈ σ.fz, c.g.get? p.1 = some p.2
inductive Pk {α : Type} (T : Fn) (c : Cx) (k : α → St → Prop) (v : α) : Shared → Prop
  | mk (σ : St) (h : Heap) (tk : Nat) (H : Hd T c σ h) (q : k v σ) : Pk T c k v (c.sh h tk)
noncomputable def Sm {α : Type} (w : World) (T : Fn) (c : Cx) (σ : St) (t : Sem α) (k : α → St → Prop) : Prop :=
  ∀ h tk, Hd T c σ h → wpAny (MD w) c.A t (Pk T c k) c.E (c.sh h tk)
noncomputable def GlobP (K : Frag) (p : PySem.Str × Value) : Prop := nsIn K mainGlobals p.1 = some (some p.2) ∨ (nsIn K mainGlobals p.1 = some none ∧ bootBuiltins p.1 = some p.2 ∧ p.1 ≠ "__name__")
noncomputable def Raises (rai : Addr → Option Int → Prop) (c : Cx) : Prop := ∀ C code e tr h tk, rai C code → Fly (hideAll c.g (frs (c.env :: c.outer))) c.g (c.env :: c.outer) C code e tr h → c.E (.ref e) (c.sh h tk)
structure CxG (w : World) (T : Fn) (kk : Nat) (rai : Addr → Option Int → Prop) (c : Cx) : Prop where
  env : ∃ q sc L f cd, c.env = envOf q sc L f cd ∧ sc.kind = .function ∧ (∀ x ∈ T.nm, sc.names.lookup x = some .local) ∧ (∀ p ∈ T.gl, sc.names.lookup p.1 = some .globalImplicit)
  dbg : (∀ x ∈ T.nm, (x == ("__debug__" : PySem.Str)) = false) ∧ ∀ p ∈ T.gl, (p.1 == ("__debug__" : PySem.Str)) = false
  gl : ∀ p ∈ T.gl, GlobP (KP w.params) p
  fn : ∀ a ∈ T.fn, keepIn (KP w.params) (.ref a) = true
  X : (KP w.params).In c.g
  at_ : ∃ mean mg mb A₀ base, Below A₀ base c.outer c.g ∧ Top VW (looseW VW []) mean mg mb c.g ∧ OnBase w mean mg mb base
  fr : c.A.frames = some (c.env :: c.outer)
  hh : c.A.handled = none
  dep : c.A.depth + 2 * kk < recursionLimit
  un : c.A.units + 16 * kk < cLine
  rs : Raises rai c
noncomputable abbrev KV := Value → St → Prop
noncomputable abbrev KB := Bool → St → Prop
noncomputable def tagE : PySem.Expr → Nat
  | .ListComp .. | .SetComp .. | .DictComp .. => 1
  | .Tuple .. | .List .. => 2
  | .Name .. => 3
  | .Call .. => 4
  | .Attribute .. => 5
  | .Subscript .. => 6
  | .Constant .. => 7
  | .Starred .. => 8
  | .Set .. => 9
  | .IfExp .. => 10
  | .Slice .. => 12
  | _ => 0
noncomputable def isComp (e : PySem.Expr) : Bool := Nat.beq (tagE e) 1
noncomputable def isTupE (e : PySem.Expr) : Bool := Nat.beq (tagE e) 2
noncomputable def plainT (e : PySem.Expr) : Bool := Nat.ble 3 (tagE e) && Nat.ble (tagE e) 7
section
variable {α β : Type} {w : World} {T : Fn} {c : Cx} {σ : St} {kk : Nat} {rai : Addr → Option Int → Prop} {env : Env}
theorem pk_now {k : α → St → Prop} {v : α} {h0 : Heap} {tk : Nat} (H : Hd T c σ h0) (q : k v σ) : Pk T c k v (c.sh h0 tk) := ⟨σ, h0, tk, H, q⟩
theorem Sm.run {t : Sem α} {k : α → St → Prop} {Q : α → Shared → Prop} {h0 : Heap} {tk : Nat} (h : Sm w T c σ t k) (H : Hd T c σ h0) (g : ∀ v σ' h' tk', Hd T c σ' h' → k v σ' → Q v (c.sh h' tk')) : wpAny (MD w) c.A t Q c.E (c.sh h0 tk) :=
  wpAny_mono (h h0 tk H) (fun _ _ p => match p with | ⟨_, _, _, H', q⟩ => g _ _ _ _ H' q) fun _ _ x => x
theorem Sm.go {t : Sem α} {f : α → Sem β} {k : β → St → Prop} (h : Sm w T c σ t fun v σ' => Sm w T c σ' (f v) k) {h0 : Heap} {tk : Nat} (H : Hd T c σ h0) :
    wpAny (MD w) c.A t (fun v s' => wpAny (MD w) c.A (f v) (Pk T c k) c.E s') c.E (c.sh h0 tk) := h.run H fun _ _ _ _ H' q => q _ _ H'
theorem sm_mono {t : Sem α} {k k' : α → St → Prop} (h : Sm w T c σ t k) (hk : ∀ v σ', k v σ' → k' v σ') : Sm w T c σ t k' := fun _ _ H => h.run H fun _ _ _ _ H' q => pk_now H' (hk _ _ q)
variable {k : KV} {kf : Flow → St → Prop} {kb : KB}
theorem sm_bin {l op r pos} (h : Sm w T c σ (eval l env) fun a σ₁ => Sm w T c σ₁ (eval r env) fun b σ₂ => Sm w T c σ₂ (binaryOp op a b) k) : Sm w T c σ (eval (.BinOp l op r pos) env) k := fun _ _ H => wpAny_BinOp (h.run H fun _ _ _ _ H q => q.go H)
theorem sm_sub {value slice pos} (h : Sm w T c σ (eval value env) fun o σ₁ => Sm w T c σ₁ (eval slice env) fun i σ₂ => Sm w T c σ₂ (subscriptTail value slice o i) k) : Sm w T c σ (eval (.Subscript value slice pos) env) k := fun _ _ H => Subscript_ (h.run H fun _ _ _ _ H q => q.go H)
theorem sm_cmp {l r : PySem.Expr} {op : CmpOp} {pos : Pos} (hm : behindInMarks op r = false) (h : Sm w T c σ (eval l env) fun a σ₁ => Sm w T c σ₁ (eval r env) fun b σ₂ => Sm w T c σ₂ (compareOp op a b) k) : Sm w T c σ (eval (.Compare l [op] [r] pos) env) k := fun _ _ H => wpAny_Compare1 (h.run H fun _ _ _ _ H q => q.go H) hm
theorem run_if {α : Type} {a b : Sem α} {k : α → St → Prop} {r : Bool} {h0 : Heap} {tk : Nat} (H : Hd T c σ h0) (q : if r = true then Sm w T c σ a k else Sm w T c σ b k) : if r = true then wpAny (MD w) c.A a (Pk T c k) c.E (c.sh h0 tk) else wpAny (MD w) c.A b (Pk T c k) c.E (c.sh h0 tk) := by
  cases r
  · exact q _ _ H
  · exact q _ _ H
theorem sm_ife {test body orelse : PySem.Expr} {pos : Pos} (h : Sm w T c σ (isTrue test env (eval test env)) fun b σ' => if b = true then Sm w T c σ' (eval body env) k else Sm w T c σ' (eval orelse env) k) : Sm w T c σ (eval (.IfExp test body orelse pos) env) k := fun _ _ H => PyProof.Rows.IfExp_ (h.run H fun _ _ _ _ H q => run_if H q)
theorem sm_loc (G : CxG w T kk rai c) {x : PySem.Str} {v : Value} {pos : Pos} (hv : lk T.nm σ.ps x = some v) (h : k v σ) : Sm w T c σ (eval (.Name x pos) c.env) k := fun h0 tk H => by
  have F := H.F
  obtain ⟨q, sc, L, f, cd, e, h1, h2, h3⟩ := G.env
  have q := pk_now (tk := tk) H h
  rw [e] at F ⊢
  exact nameX_L (cl := []) F hv q h1 (h2 x (lk_mem hv)) (G.dbg.1 x (lk_mem hv))
theorem sm_load (G : CxG w T kk rai c) {x : PySem.Str} {v : Value} (hv : lk T.nm σ.ps x = some v) {k : KV} (h : k v σ) : Sm w T c σ (loadName c.env x) k := fun h0 tk H => by
  have F := H.F
  obtain ⟨q, sc, L, f, cd, e, h1, h2, h3⟩ := G.env
  have q := pk_now (tk := tk) H h
  rw [e] at F ⊢
  exact ldn F hv q h1 (h2 x (lk_mem hv))
theorem glob_run (G : CxG w T kk rai c) {x : PySem.Str} {v : Value} {pos : Pos} {h m tk} {Q : Value → Shared → Prop} (F : Fr c.g c.env.locals h m) (hv : (x, v) ∈ T.gl) (q : Q v (c.sh h tk)) : wpAny (MD w) c.A (eval (.Name x pos) c.env) Q c.E (c.sh h tk) := by
  obtain ⟨mean, mg, mb, A₀, base, _, Tp, _⟩ := G.at_
  obtain ⟨q0, sc, L, f, cd, e, h1, h2, h3⟩ := G.env
  rw [e] at F ⊢
  rcases G.gl _ hv with g1 | ⟨g1, g2, g3⟩
  · exact nameX_K (cl := []) F G.X (topRead_of Tp) g1 q h1 (h3 _ hv) (G.dbg.2 _ hv)
  · exact nameX_B (cl := []) F G.X (topRead_of Tp) g1 g2 g3 q h1 (h3 _ hv) (G.dbg.2 _ hv)
theorem sm_store (G : CxG w T kk rai c) {x : PySem.Str} {v : Value} {k : Unit → St → Prop} (hs : stS T.nm σ.ps x v fun ps => k () ⟨ps, σ.led, σ.fz⟩) : Sm w T c σ (storeName c.env x v) k := fun h0 tk H => by
  obtain ⟨ps', h, h4, h5⟩ := stS_ok hs
  have kq : ∀ h', (Fr c.g c.env.locals h' fun y => if y = x then some v else lk T.nm σ.ps y) → News c.g c.env.locals h' (σ.led ++ c.kp) → Pk T c k () (c.sh h' (tk + 1)) := fun h1 F1 N1 => pk_now (σ := ⟨ps', σ.led, σ.fz⟩) ⟨by rw [h5]; exact F1, N1, H.D, H.Z⟩ h
  have F := H.F
  have N := H.N
  obtain ⟨q, sc, L, f, cd, e, h1, h2, h3⟩ := G.env
  rw [e] at F N kq ⊢
  exact storeX_L (cl := []) F N kq h1 (h2 x h4)
theorem sm_cons {st : Stmt} {rest : List Stmt} (h : Sm w T c σ (exec st env) fun fl σ' => match fl with | .next => Sm w T c σ' (execs rest env) kf | f => kf f σ') : Sm w T c σ (execs (st :: rest) env) kf := fun _ _ H =>
  wpAny_execs_cons (h.run H fun fl _ _ _ H q => match fl, q with
    | .next, q => q _ _ H
    | .brk, q => pk_now H q
    | .cont, q => pk_now H q
    | .ret _, q => pk_now H q)
theorem sm_if {test : PySem.Expr} {body orelse : List Stmt} {pos : Pos} (h : Sm w T c σ (isTrue test env (eval test env)) fun b σ' => if b = true then Sm w T c σ' (execs body env) kf else Sm w T c σ' (execs orelse env) kf) : Sm w T c σ (exec (.If test body orelse pos) env) kf := fun _ _ H => wpAny_If (h.run H fun _ _ _ _ H q => run_if H q)
theorem swaps_no {value : PySem.Expr} {t : Option PySem.Expr} {l : Nat} {env : Env} (h : isComp value = false) : swapsWith value t l env = pure false := by
  cases value <;> first | rfl | exact nomatch h
theorem sm_assign {x : PySem.Str} {pos' : Pos} {value : PySem.Expr} {pos : Pos} (hs : isComp value = false) (h : Sm w T c σ (eval value env) fun v σ₁ => Sm w T c σ₁ (storeName env x v) fun _ σ₂ => kf .next σ₂) : Sm w T c σ (exec (.Assign [.Name x pos'] value pos) env) kf := fun _ _ H =>
  wpAny_Assign_Name (h.run H fun _ _ _ _ H q => q.run H fun _ _ _ _ H q => pk_now H q) (swaps_no hs)
theorem swapped_no {elts : List PySem.Expr} {j : Nat} {tpos : Pos} {value : PySem.Expr} (h : isTupE value = false) : swappedStores [.Tuple elts j tpos] value env = pure none := by
  cases value <;> first | rfl | exact nomatch h
theorem sm_assign_tup {elts : List PySem.Expr} {j : Nat} {tpos : Pos} {value : PySem.Expr} {pos : Pos} (hs : isComp value = false) (ht : isTupE value = false) (h : Sm w T c σ (eval value env) fun v σ₁ => Sm w T c σ₁ (assign (.Tuple elts j tpos) env v) fun _ σ₂ => kf .next σ₂) : Sm w T c σ (exec (.Assign [.Tuple elts j tpos] value pos) env) kf := fun _ _ H =>
  Assign_Tuple (h.run H fun _ _ _ _ H q => q.run H fun _ _ _ _ H q => pk_now H q) (swaps_no (t := some (.Tuple elts j tpos)) (l := pos.line) (env := env) hs) (swapped_no ht)
theorem sm_assign_at {o : PySem.Expr} {attr : PySem.Str} {pos' : Pos} {value : PySem.Expr} {pos : Pos} (hs : isComp value = false) (h : Sm w T c σ (eval value env) fun v σ₁ => Sm w T c σ₁ (eval o env) fun ov σ₂ => Sm w T c σ₂ (setAttr ov attr v) fun _ σ₃ => kf .next σ₃) : Sm w T c σ (exec (.Assign [.Attribute o attr pos'] value pos) env) kf := fun _ _ H =>
  plainObj_wpAny_Assign_Attribute (h.run H fun _ _ _ _ H q => q.run H fun _ _ _ _ H q => q.run H fun _ _ _ _ H q => pk_now H q) (swaps_no hs)
theorem sm_aug {x : PySem.Str} {pos' : Pos} {op : Operator} {value : PySem.Expr} {pos : Pos} (h : Sm w T c σ (loadName env x) fun old σ₁ => Sm w T c σ₁ (eval value env) fun v σ₂ => Sm w T c σ₂ (inplaceOp op old v) fun r σ₃ => Sm w T c σ₃ (storeName env x r) fun _ σ₄ => kf .next σ₄) :
    Sm w T c σ (exec (.AugAssign (.Name x pos') op value pos) env) kf := fun _ _ H =>
  wpAny_AugAssign_Name (h.run H fun _ _ _ _ H q => q.run H fun _ _ _ _ H q => q.run H fun _ _ _ _ H q => q.run H fun _ _ _ _ H q => pk_now H q)
theorem sm_aug_at {o : PySem.Expr} {attr : PySem.Str} {tpos : Pos} {op : Operator} {value : PySem.Expr} {pos : Pos} (h : Sm w T c σ (eval o env) fun ov σ₁ => Sm w T c σ₁ (getAttr ov attr true) fun old σ₂ => Sm w T c σ₂ (eval value env) fun v σ₃ => Sm w T c σ₃ (inplaceOp op old v) fun r σ₄ => Sm w T c σ₄ (setAttr ov attr r) fun _ σ₅ => kf .next σ₅) :
    Sm w T c σ (exec (.AugAssign (.Attribute o attr tpos) op value pos) env) kf := fun _ _ H =>
  wpAny_AugAssign_AttributeAny (h.run H fun _ _ _ _ H q => q.run H fun _ _ _ _ H q => q.run H fun _ _ _ _ H q => q.run H fun _ _ _ _ H q => q.run H fun _ _ _ _ H q => pk_now H q)
theorem inter_no (G : CxG w T kk rai c) : interactive c.env = false := by
  obtain ⟨q, sc, L, f, cd, e, h1, h2, h3⟩ := G.env
  rw [e]; show (sc.kind == .module && _) = false; rw [h1]; rfl
theorem sm_expr (G : CxG w T kk rai c) {e : PySem.Expr} {pos : Pos} (hs : isComp e = false) (h : Sm w T c σ (eval e c.env) fun _ σ₁ => kf .next σ₁) : Sm w T c σ (exec (.Expr e pos) c.env) kf := fun _ _ H =>
  wpAny_Expr_any (h.run H fun _ _ _ _ H q => pk_now H q) (inter_no G) (swaps_no hs)
theorem sm_tcmp {l r : PySem.Expr} {op : CmpOp} {pos : Pos} {whole : Sem Value} (hm : behindInMarks op r = false) (h : Sm w T c σ (eval l env) fun a σ₁ => Sm w T c σ₁ (eval r env) fun b σ₂ => Sm w T c σ₂ (compareOp op a b) fun v σ₃ => Sm w T c σ₃ (truthy v) kb) : Sm w T c σ (isTrue (.Compare l [op] [r] pos) env whole) kb := fun _ _ H =>
  wpAny_isTrue_Compare1 (h.run H fun _ _ _ _ H q => q.run H fun _ _ _ _ H q => q.go H) hm
theorem sm_tand {x : PySem.Expr} {rest : List PySem.Expr} {pos : Pos} {whole : Sem Value} (h : Sm w T c σ (isTrue x env (eval x env)) fun b σ' => if b = true then Sm w T c σ' (isTrue (.BoolOp .And rest pos) env whole) kb else kb false σ') : Sm w T c σ (isTrue (.BoolOp .And (x :: rest) pos) env whole) kb := fun _ _ H =>
  PyProof.Rows.isTrue_and (h.run H fun b _ _ _ H q => match b, q with
    | true, q => q _ _ H
    | false, q => pk_now H q)
theorem sm_tor {x : PySem.Expr} {rest : List PySem.Expr} {pos : Pos} {whole : Sem Value} (h : Sm w T c σ (isTrue x env (eval x env)) fun b σ' => if b = true then kb true σ' else Sm w T c σ' (isTrue (.BoolOp .Or rest pos) env whole) kb) : Sm w T c σ (isTrue (.BoolOp .Or (x :: rest) pos) env whole) kb := fun _ _ H =>
  PyProof.Rows.isTrue_or (h.run H fun b _ _ _ H q => match b, q with
    | true, q => pk_now H q
    | false, q => q _ _ H)
theorem sm_tplain {x : PySem.Expr} (hp : plainT x = true) (h : Sm w T c σ (eval x env) fun v σ' => Sm w T c σ' (truthy v) kb) : Sm w T c σ (isTrue x env (eval x env)) kb := fun _ _ H =>
  isTrue_plain (h.go H) (by cases x <;> first | rfl | exact nomatch hp)
theorem sm_truthy_bool {b : Bool} (h : kb b σ) : Sm w T c σ (truthy (.bool b)) kb := fun _ _ H => wpAny_truthy_bool (pk_now H h)
theorem sm_args_cons {kl : List Value → St → Prop} {e : PySem.Expr} {rest : List PySem.Expr} {pos : Pos} (he : starEach (e :: rest) env = (false, eval e env) :: starEach rest env)
    (h : Sm w T c σ (eval e env) fun v σ₁ => Sm w T c σ₁ (spliced (backTo pos (starEach rest env))) fun vs σ₂ => kl (v :: vs) σ₂) : Sm w T c σ (spliced (backTo pos (starEach (e :: rest) env))) kl := fun _ _ H =>
  PyProof.Rows.args_cons (h.run H fun _ _ _ _ H q => q.run H fun _ _ _ _ H q => pk_now H q) he
theorem off_cons {D : Addr} {o : Obj} {l kp : Led} (h : ∀ p ∈ l, ∀ q ∈ kp, p.1 ≠ q.1) (hl : ∀ p ∈ l ++ kp, p.1 < D) : ∀ p ∈ (D, o) :: l, ∀ q ∈ kp, p.1 ≠ q.1 := List.forall_mem_cons.mpr ⟨fun q hq => Nat.ne_of_gt (hl q (List.mem_append_right _ hq)), h⟩
theorem sm_newTuple {vs : List Value} (hsz : vs.length ≤ 1000) (h : ∀ a, (∀ p ∈ σ.led, p.1 < a) → k (.ref a) ⟨σ.ps, (a, tupO vs) :: σ.led, σ.fz⟩) : Sm w T c σ (newTuple vs) k := fun _ _ H =>
  kup_newTuple H.F H.N (fun D h' F' N' hl => pk_now (σ := ⟨σ.ps, _ :: σ.led, σ.fz⟩) ⟨F', N', off_cons H.D hl, H.Z⟩ (h D fun p q => hl p (List.mem_append_left _ q))) (Nat.le_trans hsz (by decide))
theorem sm_newList {vs : List Value} (hsz : vs.length ≤ 1000) (h : ∀ a, (∀ p ∈ σ.led, p.1 < a) → k (.ref a) ⟨σ.ps, (a, W.listOf vs.toArray 0) :: σ.led, σ.fz⟩) : Sm w T c σ (newList vs) k := fun _ _ H =>
  newList_K H.F H.N (fun D h' F' N' hl => pk_now (σ := ⟨σ.ps, _ :: σ.led, σ.fz⟩) ⟨F', N', off_cons H.D hl, H.Z⟩ (h D fun p q => hl p (List.mem_append_left _ q))) (Nat.le_trans hsz (by decide))
theorem sm_mcall {o : PySem.Expr} {name : PySem.Str} {apos pos : Pos} {args : List PySem.Expr} {pl : Sem Bool} (he : eval (.Call (.Attribute o name apos) args [] pos) env = do
        let ov ← eval o env
        standAt apos.atName
        let __x ← holding [ov] (getMethod ov name pl)
        match __x with
          | (f, first) => callWith pos f first (backTo pos (starEach args env)) [])
    (h : Sm w T c σ (eval o env) fun ov σ₁ => Sm w T c σ₁ (getMethod ov name pl) fun fx σ₂ => Sm w T c σ₂ (callWith pos fx.1 fx.2 (backTo pos (starEach args env)) []) k) : Sm w T c σ (eval (.Call (.Attribute o name apos) args [] pos) env) k := fun _ _ H => MethodCall_ (h.run H fun _ _ _ _ H q => q.go H) he
theorem sm_attr {value : PySem.Expr} {attr : PySem.Str} {pos : Pos} (h : Sm w T c σ (eval value env) fun o σ₁ => Sm w T c σ₁ (getAttr o attr true) k)
    (he : eval (.Attribute value attr pos) env = do
          let o ← eval value env
          standAt pos.atName
          let r ← holding [o] (getAttr o attr true)
          letTemporaryGo value o r
          pure r) : Sm w T c σ (eval (.Attribute value attr pos) env) k := fun _ _ H => Attribute_any_ (h.go H) he
end

end
section
open PySem PySem.W PyProof.Rows PySem.Calls PySem.Spec
noncomputable def glk : List (PySem.Str × Value) → PySem.Str → Option Value
  | [], _ => none
  | p :: r, x => if x = p.1 then some p.2 else glk r x
theorem glk_mem {x : PySem.Str} {v : Value} : ∀ {l : List (PySem.Str × Value)}, glk l x = some v → (x, v) ∈ l
  | [], h => nomatch h
  | p :: r, h => by
    unfold glk at h
    split at h
    · rename_i e; cases h; rw [e]; exact .head _
    · exact .tail _ (glk_mem h)
noncomputable def isStar (e : PySem.Expr) : Bool := Nat.beq (tagE e) 8
noncomputable def noStar : List PySem.Expr → Bool
  | [] => true
  | e :: r => !isStar e && noStar r
noncomputable def noCall (e : PySem.Expr) : Bool := !Nat.beq (tagE e) 4
noncomputable def mtOK (o : PySem.Expr) (args : List PySem.Expr) (apos pos : Pos) : Bool := noCall o && noStar args && decide (args.length < 30) && (apos.endLine == pos.line)
noncomputable def plOf (o : PySem.Expr) (env : Env) : Sem Bool := do return (← importBound o env).getD true
noncomputable def vI : Value → Option Int
  | .int n _ => some n
  | _ => none
noncomputable def vS : Value → Option (List Nat)
  | .str ⟨⟨l⟩⟩ _ => some l
  | _ => none
noncomputable def nI : Int → Option Nat
  | .ofNat n => some n
  | _ => none
noncomputable def two (a b : Prop) (r : Bool) : Prop := Bool.rec b a r
noncomputable def St.get (nm : List PySem.Str) (x : PySem.Str) (σ : St) : Option Value :=
  match σ with
  | ⟨ps, _, _⟩ => lk nm ps x
noncomputable def St.put (nm : List PySem.Str) (x : PySem.Str) (v : Value) (σ : St) (k : St → Prop) : Prop :=
  match σ with
  | ⟨ps, led, fz⟩ => stS nm ps x v fun ps' => k ⟨ps', led, fz⟩
noncomputable def St.new (o : Obj) (σ : St) (k : Value → St → Prop) : Prop :=
  match σ with
  | ⟨ps, led, fz⟩ => True → ∀ a, (∀ p ∈ led, p.1 < a) → k (.ref a) ⟨ps, (a, o) :: led, fz⟩
section
variable (w : World) (T : Fn) (c : Cx)
noncomputable abbrev EsT := St → (List Value → St → Prop) → Prop
noncomputable def evs0 : EsT := fun σ k => k [] σ
noncomputable def evs1 (f : PySem.Expr → St → KV → Prop) (e : PySem.Expr) (_ : List PySem.Expr) (ih : EsT) : EsT := fun σ k => f e σ fun v σ₁ => ih σ₁ fun vs σ₂ => k (v :: vs) σ₂
noncomputable def evs (f : PySem.Expr → St → KV → Prop) (l : List PySem.Expr) : EsT := List.rec evs0 (evs1 f) l
noncomputable def binI (op : Operator) (x y : Int) (σ : St) (k : KV) (other : Prop) : Prop :=
  match op with
  | .Add => ∀ t, k (.int (x + y) t) σ
  | .Sub => ∀ t, k (.int (x - y) t) σ
  | .Mult => IntMulOk x y ∧ ∀ t, k (.int (x * y) t) σ
  | .FloorDiv => (0 < y ∧ y.natAbs.log2 < 9000) ∧ ∀ t, k (.int (x / y) t) σ
  | .Mod => 0 < y ∧ ∀ t, k (.int (x % y) t) σ
  | .Pow => (0 ≤ y ∧ y ≤ 1000000 ∧ x.natAbs < 2 ^ 64) ∧ ∀ t, k (.int (x ^ y.toNat) t) σ
  | _ => other
noncomputable def catS (x y : List Nat) (σ : St) (k : KV) : Prop := x.length + y.length ≤ 1048576 ∧ ∀ t, k (.str (S (x ++ y)) t) σ
noncomputable def binV (op : Operator) (a b : Value) (σ : St) (k : KV) : Prop :=
  match vI a, vI b with
  | some x, some y => binI op x y σ k (Sm w T c σ (binaryOp op a b) k)
  | _, _ => match op, vS a, vS b with
    | .Add, some x, some y => catS x y σ k
    | _, _, _ => Sm w T c σ (binaryOp op a b) k
noncomputable def inpI (op : Operator) (x y : Int) (σ : St) (k : KV) (other : Prop) : Prop :=
  match op with
  | .Add => ∀ t, k (.int (x + y) t) σ
  | .Sub => ∀ t, k (.int (x - y) t) σ
  | .FloorDiv => (0 < y ∧ y.natAbs.log2 < 9000) ∧ ∀ t, k (.int (x / y) t) σ
  | _ => other
noncomputable def inpV (op : Operator) (a b : Value) (σ : St) (k : KV) : Prop :=
  match vI a, vI b with
  | some x, some y => inpI op x y σ k (Sm w T c σ (inplaceOp op a b) k)
  | _, _ => match op, vS a, vS b with
    | .Add, some x, some y => catS x y σ k
    | _, _, _ => Sm w T c σ (inplaceOp op a b) k
noncomputable def unV (op : UnaryOp) (a : Value) (σ : St) (k : KV) : Prop :=
  match op, vI a with
  | .USub, some x => ∀ t, k (.int (-x) t) σ
  | _, _ => Sm w T c σ (unaryOp op a) k
noncomputable def cmpI (op : CmpOp) (x y : Int) : Option Prop :=
  match op with
  | .Lt => some (x < y)
  | .LtE => some (x ≤ y)
  | .Gt => some (y < x)
  | .GtE => some (y ≤ x)
  | .Eq => some (x = y)
  | .NotEq => some (x ≠ y)
  | _ => none
noncomputable def cmpS (op : CmpOp) (x y : List Nat) : Option Prop :=
  match op with
  | .Eq => some (x = y)
  | .NotEq => some (x ≠ y)
  | .Gt => some (y < x)
  | _ => none
noncomputable def cmpP (op : CmpOp) (a b : Value) : Option Prop :=
  match vI a, vI b with
  | some x, some y => cmpI op x y
  | _, _ => match vS a, vS b with
    | some x, some y => cmpS op x y
    | _, _ => none
noncomputable def isN : Value → Option Bool
  | .none => some true
  | .int .. => some false
  | .str .. => some false
  | .bool .. => some false
  | .ref .. => some false
  | _ => none
noncomputable def vN : Value → Bool
  | .none => true
  | _ => false
noncomputable def isOp (op : CmpOp) (a b : Value) : Option Bool :=
  match op, vN b with
  | .Is, true => isN a
  | .IsNot, true => match isN a with
    | some r => some !r
    | none => none
  | _, _ => none
noncomputable def truV (v : Value) (σ : St) (k : KB) : Prop :=
  match v with
  | .bool b => k b σ
  | v => Sm w T c σ (truthy v) k
noncomputable def cmpT (op : CmpOp) (a b : Value) (σ : St) (k : KB) : Prop :=
  match isOp op a b with
  | some r => k r σ
  | none => match cmpP op a b with
    | some P => (P → k true σ) ∧ (¬ P → k false σ)
    | none => Sm w T c σ (compareOp op a b) fun v σ' => truV w T c v σ' k
noncomputable def cmpV (op : CmpOp) (a b : Value) (σ : St) (k : KV) : Prop :=
  match cmpP op a b with
    | some P => (P → k (.bool true) σ) ∧ (¬ P → k (.bool false) σ)
    | none => Sm w T c σ (compareOp op a b) k
noncomputable def SlP (value slice : PySem.Expr) (o l u : Value) (σ : St) (k : KV) : Prop :=
  ∀ h tk, Hd T c σ h → wpAny (MD w) c.A (subscriptTail value slice o (.ref h.objs.size)) (Pk T c k) c.E (c.sh (h.push { cls := Value.type "slice", data := Data.fields #[l, u, .none] }) tk)
noncomputable def ptN (v : Value) : Option (Option Nat) :=
  match vN v with
  | true => some none
  | false => match vI v with
    | some x => match nI x with
      | some n => some (some n)
      | none => none
    | none => none
noncomputable def sliS (x : List Nat) : Option Nat → Option Nat → Option (List Nat)
  | none, some b => some (x.take b)
  | some a, none => some (x.drop a)
  | some a, some b => some ((x.take b).drop a)
  | none, none => none
noncomputable def sliL (o l u : Value) : Option (List Nat × List Nat) :=
  match vS o, ptN l, ptN u with
  | some x, some a, some b => match sliS x a b with
    | some y => some (x, y)
    | none => none
  | _, _, _ => none
noncomputable def sliV (value slice : PySem.Expr) (o l u : Value) (σ : St) (k : KV) : Prop :=
  match sliL o l u with
  | some (x, y) => x.length ≤ 1048576 ∧ ∀ t, k (.str (S y) t) σ
  | none => SlP w T c value slice o l u σ k
noncomputable def subV (value slice : PySem.Expr) (o i : Value) (σ : St) (k : KV) : Prop :=
  match vS o, ptN i with
  | some x, some (some a) => (x.length ≤ 1048576 ∧ a < x.length) ∧ ∀ y t, x[a]? = some y → k (.str (S [y]) t) σ
  | _, _ => Sm w T c σ (subscriptTail value slice o i) k
noncomputable def calV (f : Value) (args : List PySem.Expr) (ev : PySem.Expr → St → KV → Prop) (other : Prop) (σ : St) (k : KV) : Prop :=
  match f with
  | .ref a => if a ∈ T.fn then evs ev args σ fun vs σ₁ => Sm w T c σ₁ (call (.ref a) vs) k else other
  | .builtin id => match args with
    | [] => other
    | e :: r => evs ev (e :: r) σ fun vs σ₁ => Sm w T c σ₁ (call (.builtin id) vs) k
  | .type id => match args with
    | [] => other
    | e :: r => evs ev (e :: r) σ fun vs σ₁ => Sm w T c σ₁ (call (.type id) vs) k
  | _ => other
noncomputable def MtP (pl : Sem Bool) (pos : Pos) (ov : Value) (name : PySem.Str) (args : List PySem.Expr) (σ : St) (k : KV) : Prop :=
  Sm w T c σ (getMethod ov name pl) fun fx σ₂ => Sm w T c σ₂ (callWith pos fx.1 fx.2 (backTo pos (starEach args c.env)) []) k
noncomputable def evPt (ev : PySem.Expr → St → KV → Prop) : Option PySem.Expr → St → KV → Prop
  | none, σ, k => k .none σ
  | some e, σ, k => ev e σ k
noncomputable def evC (v : Const) (σ : St) (k : KV) (other : Prop) : Prop :=
  match v with
  | .int n => ∀ t, k (.int n t) σ
  | .str x => ∀ t, k (.str x t) σ
  | .bool b => k (.bool b) σ
  | .none => k .none σ
  | _ => other
noncomputable def evNm (x : PySem.Str) (σ : St) (k : KV) (other : Prop) : Prop :=
  match σ.get T.nm x with
  | some v => k v σ
  | none => match glk T.gl x with
    | some v => k v σ
    | none => other
noncomputable def one2 : List CmpOp → List PySem.Expr → Option (CmpOp × PySem.Expr)
  | [op], [r] => some (op, r)
  | _, _ => none
noncomputable def evF (f : PySem.Expr) (args : List PySem.Expr) (p : Pos) (ev : PySem.Expr → St → KV → Prop) (σ : St) (k : KV) (other : Prop) : Prop :=
  match f with
  | .Name x _ => match glk T.gl x with
    | some f => calV w T c f args ev other σ k
    | none => other
  | .Attribute o name ap => match mtOK o args ap p with
    | true => ev o σ fun ov σ₁ => MtP w T c (plOf o c.env) p ov name args σ₁ k
    | false => other
  | _ => other
noncomputable def evSl (value slice : PySem.Expr) (ev : PySem.Expr → St → KV → Prop) (σ : St) (k : KV) (other : Prop) : Prop :=
  match slice with
  | .Slice lo hi st p => match st with
    | none => ev value σ fun o σ₁ => evPt ev lo σ₁ fun l σ₂ => evPt ev hi σ₂ fun u σ₃ => sliV w T c value (.Slice lo hi none p) o l u σ₃ k
    | some _ => other
  | slice => ev value σ fun o σ₁ => ev slice σ₁ fun i σ₂ => subV w T c value slice o i σ₂ k
noncomputable def shortN : List Value → Nat → Bool
  | [], _ => true
  | _ :: r, n + 1 => shortN r n
  | _ :: _, 0 => false
noncomputable def shortV (vs : List Value) (a b : Prop) : Prop := two a b (shortN vs 50)
noncomputable def evStep (ev : PySem.Expr → St → KV → Prop) (tv : PySem.Expr → St → KB → Prop) (e : PySem.Expr) (σ : St) (k : KV) : Prop :=
  match e with
  | .Constant v _ _ => evC v σ k (Sm w T c σ (eval e c.env) k)
  | .Name x _ => evNm T x σ k (Sm w T c σ (eval e c.env) k)
  | .BinOp l op r _ => ev l σ fun a σ₁ => ev r σ₁ fun b σ₂ => binV w T c op a b σ₂ k
  | .UnaryOp op x _ => ev x σ fun a σ₁ => unV w T c op a σ₁ k
  | .IfExp t a b _ => tv t σ fun r σ₁ => two (ev a σ₁ k) (ev b σ₁ k) r
  | .Compare l ops rs _ => match one2 ops rs with
    | some (op, r) => match behindInMarks op r with
      | false => ev l σ fun a σ₁ => ev r σ₁ fun b σ₂ => cmpV w T c op a b σ₂ k
      | true => Sm w T c σ (eval e c.env) k
    | none => Sm w T c σ (eval e c.env) k
  | .Call f args kws p => match kws, noStar args with
    | [], true => evF w T c f args p ev σ k (Sm w T c σ (eval e c.env) k)
    | _, _ => Sm w T c σ (eval e c.env) k
  | .Subscript value slice _ => evSl w T c value slice ev σ k (Sm w T c σ (eval e c.env) k)
  | .Tuple elts _ _ => match noStar elts with
    | true => evs ev elts σ fun vs σ₁ => shortV vs (σ₁.new (tupO vs) k) (Sm w T c σ₁ (newTuple vs) k)
    | false => Sm w T c σ (eval e c.env) k
  | .List elts _ => match noStar elts with
    | true => evs ev elts σ fun vs σ₁ => shortV vs (σ₁.new (W.listOf vs.toArray 0) k) (Sm w T c σ₁ (newList vs) k)
    | false => Sm w T c σ (eval e c.env) k
  | .Attribute o name _ => match noCall o with
    | true => ev o σ fun ov σ₁ => Sm w T c σ₁ (getAttr ov name true) k
    | false => Sm w T c σ (eval e c.env) k
  | _ => Sm w T c σ (eval e c.env) k
noncomputable abbrev TsT := St → KB → Prop
noncomputable def lst0 (r : Bool) : TsT := fun σ k => k r σ
noncomputable def and1 (tv : PySem.Expr → St → KB → Prop) (x : PySem.Expr) (_ : List PySem.Expr) (ih : TsT) : TsT := fun σ k => tv x σ fun b σ₁ => two (ih σ₁ k) (k false σ₁) b
noncomputable def or1 (tv : PySem.Expr → St → KB → Prop) (x : PySem.Expr) (_ : List PySem.Expr) (ih : TsT) : TsT := fun σ k => tv x σ fun b σ₁ => two (k true σ₁) (ih σ₁ k) b
noncomputable def andV (tv : PySem.Expr → St → KB → Prop) (l : List PySem.Expr) : TsT := List.rec (lst0 true) (and1 tv) l
noncomputable def orV (tv : PySem.Expr → St → KB → Prop) (l : List PySem.Expr) : TsT := List.rec (lst0 false) (or1 tv) l
noncomputable def tvP (e : PySem.Expr) (ev : PySem.Expr → St → KV → Prop) (σ : St) (k : KB) : Prop :=
  match plainT e with
  | true => ev e σ fun v σ₁ => truV w T c v σ₁ k
  | false => Sm w T c σ (isTrue e c.env (eval e c.env)) k
noncomputable def tvStep (ev : PySem.Expr → St → KV → Prop) (tv : PySem.Expr → St → KB → Prop) (e : PySem.Expr) (σ : St) (k : KB) : Prop :=
  match e with
  | .Compare l ops rs _ => match one2 ops rs with
    | some (op, r) => match behindInMarks op r with
      | false => ev l σ fun a σ₁ => ev r σ₁ fun b σ₂ => cmpT w T c op a b σ₂ k
      | true => Sm w T c σ (isTrue e c.env (eval e c.env)) k
    | none => Sm w T c σ (isTrue e c.env (eval e c.env)) k
  | .BoolOp op xs _ => match op with
    | .And => andV tv xs σ k
    | .Or => orV tv xs σ k
  | .UnaryOp op x _ => match op with
    | .Not => tv x σ fun b σ₁ => k (!b) σ₁
    | _ => Sm w T c σ (isTrue e c.env (eval e c.env)) k
  | _ => tvP w T c e ev σ k
noncomputable abbrev EvT := (PySem.Expr → St → KV → Prop) × (PySem.Expr → St → KB → Prop)
noncomputable def evB : EvT := (fun e σ k => Sm w T c σ (eval e c.env) k, fun e σ k => Sm w T c σ (isTrue e c.env (eval e c.env)) k)
noncomputable def evS (_ : Nat) (p : EvT) : EvT := (evStep w T c p.1 p.2, tvStep w T c p.1 p.2)
noncomputable def evN (n : Nat) : EvT := Nat.rec (motive := fun _ => EvT) (evB w T c) (evS w T c) n
noncomputable def ForP (target : PySem.Expr) (v : Value) (body : List Stmt) (σ : St) (k : Flow → St → Prop) : Prop :=
  ∀ h tk, Hd T c σ h → wpAny (MD w) c.A (pyIter v) (fun it s₂ => codeAny (MD w) c.A (.forLoop target it body [] c.env) (fun r s' => match r with | .ok f => Pk T c k f s' | .error e => cameBackBy (MD w) c.A c.env c.E e s') s₂) c.E (c.sh h tk)
noncomputable def isSetE (e : PySem.Expr) : Bool := Nat.beq (tagE e) 9
noncomputable def exAs (n : Nat) (t : PySem.Expr) (v : PySem.Expr) (σ : St) (k : Flow → St → Prop) (other : Prop) : Prop :=
  match t with
  | .Name x _ => (evN w T c n).1 v σ fun a σ₁ => σ₁.put T.nm x a (k .next)
  | .Tuple elts j tp => match isTupE v with
    | false => (evN w T c n).1 v σ fun a σ₁ => Sm w T c σ₁ (assign (.Tuple elts j tp) c.env a) fun _ σ₂ => k .next σ₂
    | true => other
  | .Attribute o name _ => (evN w T c n).1 v σ fun a σ₁ => (evN w T c n).1 o σ₁ fun ov σ₂ => Sm w T c σ₂ (setAttr ov name a) fun _ σ₃ => k .next σ₃
  | _ => other
noncomputable def exAu (n : Nat) (t : PySem.Expr) (op : Operator) (v : PySem.Expr) (σ : St) (k : Flow → St → Prop) (other : Prop) : Prop :=
  match t with
  | .Name x _ => match σ.get T.nm x with
    | some old => (evN w T c n).1 v σ fun a σ₁ => inpV w T c op old a σ₁ fun r σ₂ => σ₂.put T.nm x r (k .next)
    | none => other
  | .Attribute o name _ => (evN w T c n).1 o σ fun ov σ₁ => Sm w T c σ₁ (getAttr ov name true) fun old σ₂ => (evN w T c n).1 v σ₂ fun a σ₃ => inpV w T c op old a σ₃ fun r σ₄ => Sm w T c σ₄ (setAttr ov name r) fun _ σ₅ => k .next σ₅
  | _ => other
noncomputable def isIf (e : PySem.Expr) : Bool := Nat.beq (tagE e) 10
noncomputable def hasIf : PySem.Expr → Bool
  | .IfExp .. => true
  | .BinOp l _ r _ => isIf l || isIf r
  | .Call _ args _ _ => args.any isIf
  | _ => false
noncomputable def exStep (n : Nat) (st : Stmt) (σ : St) (k : Flow → St → Prop) : Prop :=
  match st with
  | .Assign ts v _ => match ts, isComp v || hasIf v with
    | [t], false => exAs w T c n t v σ k (Sm w T c σ (exec st c.env) k)
    | _, _ => Sm w T c σ (exec st c.env) k
  | .AugAssign t op v _ => exAu w T c n t op v σ k (Sm w T c σ (exec st c.env) k)
  | .Return e _ => match e with
    | some e => (evN w T c n).1 e σ fun v σ₁ => k (.ret v) σ₁
    | none => k (.ret .none) σ
  | .Expr e _ => match isComp e with
    | false => (evN w T c n).1 e σ fun _ σ₁ => k .next σ₁
    | true => Sm w T c σ (exec st c.env) k
  | .For target iter body els _ => match els, isSetE iter with
    | [], false => (evN w T c n).1 iter σ fun v σ₁ => ForP w T c target v body σ₁ k
    | _, _ => Sm w T c σ (exec st c.env) k
  | _ => Sm w T c σ (exec st c.env) k
noncomputable def nxt (a : St → Prop) (k : Flow → St → Prop) (fl : Flow) (σ : St) : Prop :=
  match fl with
  | .next => a σ
  | f => k f σ
noncomputable abbrev XsT := St → (Flow → St → Prop) → Prop
noncomputable def exs0 : XsT := fun σ k => k .next σ
noncomputable def exs1 (n : Nat) (st : Stmt) (_ : List Stmt) (ih : XsT) : XsT := fun σ k => exStep w T c n st σ (nxt (fun σ₁ => ih σ₁ k) k)
noncomputable def exs (n : Nat) (l : List Stmt) : XsT := List.rec exs0 (exs1 w T c n) l
end

end
section
open PySem PySem.W PyProof.Rows PySem.Calls PySem.Spec
section
variable {prog : Program} {w : World} {A : Around} {E : Value → Shared → Prop} {s : Shared}
theorem sub_text {value slice : PySem.Expr} {Q : Value → Shared → Prop} {l : List Nat} {t : Tok} {i x : Nat} {u : Tok} (hg : l[i]? = some x) (hn : l.length ≤ 1048576) (h : Q (.str (S [x]) s.toks) { s with toks := s.toks + 1 })
    (hs : subscripted slice false (.str (S l) t) (.int i u) = operate [.str (S l) t, .int i u] (getItem (.str (S l) t) (.int i u)) := by with_unfolding_all rfl)
    (ht : ∀ r, letTemporaryGo value (.str (S l) t) r = pure () := by intro _; with_unfolding_all rfl) :
    wpAny (model prog w) A (subscriptTail value slice (.str (S l) t) (.int i u)) Q E s := by
  have hlt := (List.getElem?_eq_some_iff.mp hg).1
  refine item_str (fitsSsize_of (N := 9223372036854775808) (by lia) (by lia) (Int.le_refl _)) (by rw [S_len]; lia) (by rw [S_len]; lia) (fun _ => ?_) hs ht
  rw [S_item hg]; exact h
end
theorem vI_ok {a : Value} {x : Int} (h : vI a = some x) : ∃ t, a = .int x t := by
  cases a <;> cases h <;> exact ⟨_, rfl⟩
theorem vS_ok {a : Value} {x : List Nat} (h : vS a = some x) : ∃ t, a = .str (S x) t := by
  cases a <;> cases h <;> exact ⟨_, rfl⟩
theorem vN_ok {a : Value} (h : vN a = true) : a = .none := by
  cases a <;> first | rfl | cases h
theorem nI_ok {x : Int} {n : Nat} (h : nI x = some n) : x = n := by
  cases x <;> cases h <;> rfl
theorem isN_ok {a : Value} {r : Bool} (h : isN a = some r) : (a == Value.none) = r := by
  cases a <;> cases h <;> rfl
theorem xlen {x : List Nat} (h : x.length ≤ 1048576) : (S x).length ≤ sizeLine := by rw [S_len]; exact Nat.le_trans h (by decide)
section
variable {w : World} {T : Fn} {c : Cx} {kk : Nat} {rai : Addr → Option Int → Prop}
theorem noStar_any {env : Env} {pos : Pos} : ∀ {l : List PySem.Expr}, noStar l = true → ((backTo pos (starEach l env)).any fun x => x.fst) = false
  | [], _ => rfl
  | e :: r, h => by
    have ih := noStar_any (env := env) (pos := pos) (Bool.and_eq_true_iff.mp h).2
    have h1 := (Bool.and_eq_true_iff.mp h).1
    cases e <;> first | exact ih | exact nomatch h1
theorem noStar_cons {env : Env} {e : PySem.Expr} {r : List PySem.Expr} (h : noStar (e :: r) = true) : starEach (e :: r) env = (false, eval e env) :: starEach r env := by
  have h1 := (Bool.and_eq_true_iff.mp h).1
  cases e <;> first | rfl | exact nomatch h1
theorem evs_ok {f : PySem.Expr → St → KV → Prop} {env : Env} (hf : ∀ e σ k, f e σ k → Sm w T c σ (eval e env) k) {pos : Pos} :
    ∀ {l : List PySem.Expr} {σ : St} {k : List Value → St → Prop}, noStar l = true → evs f l σ k → Sm w T c σ (spliced (backTo pos (starEach l env))) k
  | [], _, _, _, h => fun _ _ H => PyProof.Rows.args_nil (pk_now H h)
  | _ :: _, _, _, hs, h => sm_args_cons (noStar_cons hs) (sm_mono (hf _ _ _ h) fun _ _ q => evs_ok hf (Bool.and_eq_true_iff.mp hs).2 q)
theorem catS_run {x y : List Nat} {σ : St} {k : KV} (h : catS x y σ k) {h0 : Heap} (H : Hd T c σ h0) : (∀ (t' : Tok) (tk : Nat), Pk T c k (.str (S x ++ S y) t') (c.sh h0 tk)) ∧ (S x).length + (S y).length ≤ sizeLine := by
  refine ⟨fun t' tk => ?_, ?_⟩
  · rw [S_app]; exact pk_now H (h.2 t')
  · rw [S_len, S_len]; exact Nat.le_trans h.1 (by decide)
theorem binV_ok {op : Operator} {a b : Value} {σ : St} {k : KV} (h : binV w T c op a b σ k) : Sm w T c σ (binaryOp op a b) k := by
  unfold binV at h
  split at h
  · rename_i x y e1 e2
    obtain ⟨t1, rfl⟩ := vI_ok e1
    obtain ⟨t2, rfl⟩ := vI_ok e2
    cases op with
    | Add => exact fun _ _ H => PyProof.Rows.add_int (pk_now (tk := _ + 1) H (h _))
    | Sub => exact fun _ _ H => PyProof.Rows.sub_int (pk_now (tk := _ + 1) H (h _))
    | Mult => exact fun _ _ H => PyProof.Rows.mul_int (pk_now (tk := _ + 1) H (h.2 _)) h.1
    | FloorDiv => exact fun _ _ H => PyProof.Rows.floordiv_int (Int.ne_of_gt h.1.1) (pk_now (tk := _ + 1) H (Int.fdiv_eq_ediv_of_nonneg x (Int.le_of_lt h.1.1) ▸ h.2 _)) (.inl (PyProof.noPylong_of_log2 h.1.2))
    | Mod => exact fun _ _ H => PyProof.Rows.mod_int' (Int.ne_of_gt h.1) (pk_now (tk := _ + 1) H (Int.fmod_eq_emod_of_nonneg x (Int.le_of_lt h.1) ▸ h.2 _))
    | Pow => exact fun _ _ H => PyProof.Rows.pow_int_small h.1.1 h.1.2.1 h.1.2.2 (pk_now (tk := _ + 1) H (h.2 _))
    | _ => exact h
  · split at h
    · rename_i x y e1 e2
      obtain ⟨t1, rfl⟩ := vS_ok e1
      obtain ⟨t2, rfl⟩ := vS_ok e2
      exact fun _ _ H => PyProof.Rows.add_str (catS_run h H).1 (catS_run h H).2
    · exact h
theorem inpV_ok {op : Operator} {a b : Value} {σ : St} {k : KV} (h : inpV w T c op a b σ k) : Sm w T c σ (inplaceOp op a b) k := by
  unfold inpV at h
  split at h
  · rename_i x y e1 e2
    obtain ⟨t1, rfl⟩ := vI_ok e1
    obtain ⟨t2, rfl⟩ := vI_ok e2
    cases op with
    | Add => exact fun _ _ H => PyProof.Rows.iadd_int (pk_now (tk := _ + 1) H (h _))
    | Sub => exact fun _ _ H => PyProof.Rows.isub_int (pk_now (tk := _ + 1) H (h _))
    | FloorDiv => exact fun _ _ H => PyProof.Rows.ifloordiv_int (Int.ne_of_gt h.1.1) (pk_now (tk := _ + 1) H (Int.fdiv_eq_ediv_of_nonneg x (Int.le_of_lt h.1.1) ▸ h.2 _)) (.inl (PyProof.noPylong_of_log2 h.1.2))
    | _ => exact h
  · split at h
    · rename_i x y e1 e2
      obtain ⟨t1, rfl⟩ := vS_ok e1
      obtain ⟨t2, rfl⟩ := vS_ok e2
      exact fun _ _ H => PyProof.Rows.iadd_str (catS_run h H).1 (catS_run h H).2
    · exact h
theorem unV_ok {op : UnaryOp} {a : Value} {σ : St} {k : KV} (h : unV w T c op a σ k) : Sm w T c σ (unaryOp op a) k := by
  unfold unV at h
  split at h
  · rename_i e1
    obtain ⟨t1, rfl⟩ := vI_ok e1
    exact fun _ _ H => PyProof.Rows.neg_int (pk_now (tk := _ + 1) H (h _))
  · exact h
noncomputable def CmpIs (w : World) (op : CmpOp) (a b : Value) (r : Bool) : Prop := ∀ (A : Around) (E Q : Value → Shared → Prop) (s : Shared), Q (.bool r) s → wpAny (MD w) A (compareOp op a b) Q E s
theorem cmpP_ok {op : CmpOp} {a b : Value} {P : Prop} (h : cmpP op a b = some P) : ∃ r : Bool, (r = true ↔ P) ∧ CmpIs w op a b r := by
  unfold cmpP at h
  split at h
  · rename_i x y e1 e2
    obtain ⟨t1, rfl⟩ := vI_ok e1
    obtain ⟨t2, rfl⟩ := vI_ok e2
    cases op with
    | Lt => cases h; exact ⟨_, decide_eq_true_iff, fun A E Q s q => PyProof.Rows.lt_int q⟩
    | LtE => cases h; exact ⟨_, decide_eq_true_iff, fun A E Q s q => PyProof.Rows.le_int q⟩
    | Gt => cases h; exact ⟨_, decide_eq_true_iff, fun A E Q s q => PyProof.Rows.gt_int q⟩
    | GtE => cases h; exact ⟨_, decide_eq_true_iff, fun A E Q s q => PyProof.Rows.ge_int q⟩
    | Eq => cases h; exact ⟨_, beq_iff_eq, fun A E Q s q => PyProof.Rows.eq_int q⟩
    | NotEq => cases h; exact ⟨_, bne_iff_ne, fun A E Q s q => PyProof.Rows.ne_int q⟩
    | _ => exact nomatch h
  · split at h
    · rename_i x y e1 e2
      obtain ⟨t1, rfl⟩ := vS_ok e1
      obtain ⟨t2, rfl⟩ := vS_ok e2
      cases op with
      | Eq => cases h; exact ⟨_, by rw [S_beq]; exact decide_eq_true_iff, fun A E Q s q => PyProof.Rows.eq_str q⟩
      | NotEq => cases h; exact ⟨!decide (x = y), by simp, fun A E Q s q => PyProof.Rows.ne_str (by rw [bne, S_beq]; exact q)⟩
      | Gt => cases h; exact ⟨_, decide_eq_true_iff, fun A E Q s q => PySem.P.gt_str q⟩
      | _ => exact nomatch h
    · exact nomatch h
theorem truV_ok {v : Value} {σ : St} {k : KB} (h : truV w T c v σ k) : Sm w T c σ (truthy v) k := by
  cases v <;> first | exact h | exact sm_truthy_bool h
theorem two_ways {P : Prop} {r : Bool} {a b : Prop} {p : Bool → Prop} (e : r = true ↔ P) (h : (P → p true) ∧ (¬ P → p false)) : p r := by
  cases r with
  | true => exact h.1 (e.mp rfl)
  | false => exact h.2 fun q => nomatch e.mpr q
theorem isOp_ok {op : CmpOp} {a b : Value} {r : Bool} (h : isOp op a b = some r) : CmpIs w op a b r := by
  unfold isOp at h
  split at h
  · rename_i e
    cases vN_ok e
    exact fun A E Q s q => is_none (by rw [isN_ok h]; exact q)
  · rename_i e
    cases vN_ok e
    split at h
    · rename_i r' e'
      cases h
      exact fun A E Q s q => PyProof.Rows.isnot_none_gen (by rw [isN_ok e']; exact q)
    · exact nomatch h
  · exact nomatch h
theorem cmpT_ok {op : CmpOp} {a b : Value} {σ : St} {k : KB} (h : cmpT w T c op a b σ k) : Sm w T c σ (compareOp op a b) fun v σ' => Sm w T c σ' (truthy v) k := by
  unfold cmpT at h
  split at h
  · rename_i e
    exact fun _ _ H => isOp_ok e _ _ _ _ (pk_now H (sm_truthy_bool h))
  · split at h
    · rename_i e
      obtain ⟨r, h1, h2⟩ := cmpP_ok (w := w) e
      exact fun _ _ H => h2 _ _ _ _ (pk_now H (sm_truthy_bool (two_ways (a := True) (b := True) (p := fun r => k r σ) h1 h)))
    · exact sm_mono h fun _ _ q => truV_ok q
theorem cmpV_ok {op : CmpOp} {a b : Value} {σ : St} {k : KV} (h : cmpV w T c op a b σ k) : Sm w T c σ (compareOp op a b) k := by
  unfold cmpV at h
  split at h
  · rename_i e
    obtain ⟨r, h1, h2⟩ := cmpP_ok (w := w) e
    exact fun _ _ H => h2 _ _ _ _ (pk_now H (two_ways (a := True) (b := True) (p := fun r => k (.bool r) σ) h1 h))
  · exact h
theorem let_str {value : PySem.Expr} {x : PySem.Str} {t : Tok} {r : Value} : letTemporaryGo value (.str x t) r = pure () := by cases value <;> rfl
theorem ptN_ok {v : Value} {o : Option Nat} (h : ptN v = some o) : (o = none ∧ v = .none) ∨ ∃ n t, o = some n ∧ v = .int (n : Nat) t := by
  unfold ptN at h
  split at h
  · rename_i e; cases h; exact .inl ⟨rfl, vN_ok e⟩
  · split at h
    · rename_i e
      split at h
      · rename_i e2
        cases h
        obtain ⟨t, rfl⟩ := vI_ok e
        rw [nI_ok e2]
        exact .inr ⟨_, _, rfl, rfl⟩
      · exact nomatch h
    · exact nomatch h
theorem subV_ok {value slice : PySem.Expr} {o i : Value} {σ : St} {k : KV} (hs : ∀ o i : Value, subscripted slice false o i = operate [o, i] (getItem o i)) (h : subV w T c value slice o i σ k) : Sm w T c σ (subscriptTail value slice o i) k := by
  unfold subV at h
  split at h
  · rename_i e1 e2
    obtain ⟨t1, rfl⟩ := vS_ok e1
    rcases ptN_ok e2 with ⟨e, _⟩ | ⟨n, t, e, rfl⟩
    · exact nomatch e
    cases e
    obtain ⟨⟨h1, h2⟩, h⟩ := h
    exact fun _ tk H => sub_text (List.getElem?_eq_getElem h2) h1 (pk_now (tk := _ + 1) H (h _ _ (List.getElem?_eq_getElem h2))) (hs _ _) fun _ => let_str
  · exact h
theorem sliV_ok {value : PySem.Expr} {lo hi : Option PySem.Expr} {p : Pos} {o l u : Value} {σ : St} {k : KV} (h : sliV w T c value (.Slice lo hi none p) o l u σ k) : SlP w T c value (.Slice lo hi none p) o l u σ k := by
  unfold sliV at h
  split at h
  · rename_i x y e
    unfold sliL at e
    split at e
    · rename_i x' a b e1 e2 e3
      obtain ⟨t1, rfl⟩ := vS_ok e1
      split at e
      · rename_i y' e4
        cases e
        have hx := xlen h.1
        have kq : ∀ {h0 h' : Heap} {t' kk}, Hd T c σ h0 → Fr c.g c.env.locals h' (lk T.nm σ.ps) → News c.g c.env.locals h' (σ.led ++ c.kp) → Pk T c k (.str (S y) t') (c.sh h' kk) := fun H F' N' => pk_now ⟨F', N', H.D, H.Z⟩ (h.2 _)
        rcases ptN_ok e2 with ⟨rfl, rfl⟩ | ⟨n, t, rfl, rfl⟩ <;> rcases ptN_ok e3 with ⟨rfl, rfl⟩ | ⟨m, t2, rfl, rfl⟩ <;> cases e4
        · exact fun h0 tk H => slice_strN_ns_len (s := c.sh h0 tk) H.F H.N (fun h' t' kk F' N' _ => by rw [slice_to]; exact kq H F' N') rfl (fun _ => let_str) hx
        · exact fun h0 tk H => slice_strN_sn_len (s := c.sh h0 tk) H.F H.N (fun h' t' kk F' N' _ => by rw [slice_from]; exact kq H F' N') rfl (fun _ => let_str) hx
        · exact fun h0 tk H => slice_strN_ss_len (s := c.sh h0 tk) H.F H.N (fun h' t' kk F' N' _ => by rw [slice_ft]; exact kq H F' N') rfl (fun _ => let_str) hx
      · exact nomatch e
    · exact nomatch e
  · exact h
theorem evPt_ok {ev : PySem.Expr → St → KV → Prop} (hev : ∀ e σ k, ev e σ k → Sm w T c σ (eval e c.env) k) {o : Option PySem.Expr} {σ : St} {k : KV} (h : evPt ev o σ k) : Sm w T c σ (evalPart o c.env) k := by
  cases o with
  | none => exact fun _ _ H => evalPart_none_step (pk_now H h)
  | some e => exact fun _ _ H => evalPart_some_step (hev _ _ _ h _ _ H)
theorem evC_ok {v : Const} {j : Nat} {pos : Pos} {σ : St} {k : KV} (h : evC v σ k (Sm w T c σ (eval (.Constant v j pos) c.env) k)) : Sm w T c σ (eval (.Constant v j pos) c.env) k := by
  cases v with
  | int n => exact fun _ _ H => wpAny_Constant_int (pk_now (tk := _ + 1) H (h _))
  | str x => exact fun _ _ H => Constant_str (pk_now (tk := _ + 1) H (h _))
  | bool b => exact fun _ _ H => PyProof.Rows.Constant_bool (pk_now H h)
  | none => exact fun _ _ H => PyProof.Rows.Constant_none (pk_now H h)
  | _ => exact h
theorem evNm_ok (G : CxG w T kk rai c) {x : PySem.Str} {pos : Pos} {σ : St} {k : KV} (h : evNm T x σ k (Sm w T c σ (eval (.Name x pos) c.env) k)) : Sm w T c σ (eval (.Name x pos) c.env) k := by
  unfold evNm at h
  split at h
  · rename_i e; exact sm_loc G e h
  · split at h
    · rename_i e; exact fun _ _ H => glob_run G H.F (glk_mem e) (pk_now H h)
    · exact h
theorem one2_ok {ops : List CmpOp} {rs : List PySem.Expr} {op : CmpOp} {r : PySem.Expr} (h : one2 ops rs = some (op, r)) : ops = [op] ∧ rs = [r] := by
  unfold one2 at h
  split at h
  · cases h; exact ⟨rfl, rfl⟩
  · exact nomatch h
theorem calV_ok (G : CxG w T kk rai c) {x : PySem.Str} {xp pos : Pos} {f : Value} {args : List PySem.Expr} {ev : PySem.Expr → St → KV → Prop} {σ : St} {k : KV} (hev : ∀ e σ k, ev e σ k → Sm w T c σ (eval e c.env) k) (hf : (x, f) ∈ T.gl)
    (hn : noStar args = true) (h : calV w T c f args ev (Sm w T c σ (eval (.Call (.Name x xp) args [] pos) c.env) k) σ k) : Sm w T c σ (eval (.Call (.Name x xp) args [] pos) c.env) k := by
  have key : Sm w T c σ (callWith pos f [] (backTo pos (starEach args c.env)) []) k → Sm w T c σ (eval (.Call (.Name x xp) args [] pos) c.env) k := fun q h0 tk H =>
    Call_ (glob_run G H.F hf (q _ _ H)) (by rfl)
  cases f with
  | ref a =>
    unfold calV at h
    dsimp only at h
    split at h
    · rename_i hm
      refine key fun h0 tk H => ?_
      cases args with
      | nil => exact callWith_K0 (G.X.keeps H.F.keep) (G.fn _ hm) (h _ _ H)
      | cons e r => exact callWith_K G.X (G.fn _ hm) ((evs_ok hev hn h).run H fun _ _ _ _ H' q => ⟨G.X.keeps H'.F.keep, q _ _ H'⟩) (noStar_cons hn) (noStar_any (Bool.and_eq_true_iff.mp hn).2)
    · exact h
  | builtin id =>
    cases args with
    | nil => exact h
    | cons e r => exact key fun h0 tk H => PyProof.Rows.callWith_builtin1 ((evs_ok hev hn (show evs ev (e :: r) σ fun vs σ₁ => Sm w T c σ₁ (call (.builtin id) vs) k from h)).run H fun _ _ _ _ H' q => q _ _ H') (noStar_cons hn) (noStar_any (Bool.and_eq_true_iff.mp hn).2)
  | type id =>
    cases args with
    | nil => exact h
    | cons e r => exact key fun h0 tk H => PyProof.Rows.callWith_type1 ((evs_ok hev hn (show evs ev (e :: r) σ fun vs σ₁ => Sm w T c σ₁ (call (.type id) vs) k from h)).run H fun _ _ _ _ H' q => q _ _ H') (noStar_cons hn) (noStar_any (Bool.and_eq_true_iff.mp hn).2)
  | _ => exact h
theorem base_eq {o : PySem.Expr} {attr : PySem.Str} {env : Env} {whole : Sem Value} (h : noCall o = true) : attributeBase o attr env whole = whole := by
  cases o <;> first | rfl | exact nomatch h
theorem attr_eq {value : PySem.Expr} {attr : PySem.Str} {pos : Pos} {env : Env} (h : noCall value = true) : eval (.Attribute value attr pos) env = (do
          let o ← eval value env
          standAt pos.atName
          let r ← holding [o] (getAttr o attr true)
          letTemporaryGo value o r
          pure r) := by
  show (do let o ← attributeBase value attr env (eval value env); standAt pos.atName; let r ← holding [o] (getAttr o attr true); letTemporaryGo value o r; pure r) = _
  rw [base_eq h]
theorem mcall_eq {o : PySem.Expr} {name : PySem.Str} {apos pos : Pos} {args : List PySem.Expr} {env : Env} (h : mtOK o args apos pos = true) : eval (.Call (.Attribute o name apos) args [] pos) env = (do
        let ov ← eval o env
        standAt apos.atName
        let __x ← holding [ov] (getMethod ov name (plOf o env))
        match __x with
          | (f, first) => callWith pos f first (backTo pos (starEach args env)) []) := by
  unfold mtOK at h
  simp only [Bool.and_eq_true, decide_eq_true_eq] at h
  obtain ⟨⟨⟨h1, h2⟩, h3⟩, h4⟩ := h
  show (do let ov ← attributeBase o name env (eval o env); standAt apos.atName; methodCall o name apos pos env ov (args.length + 0) (backTo pos (starEach args env)) (backToKw pos (keywordEach [] env))) = _
  rw [base_eq h1]
  have hf : methodCallForm (args.length + 0) (backTo pos (starEach args env)) [] = true := by
    unfold methodCallForm
    have := noStar_any (env := env) (pos := pos) h2
    rw [List.any_eq_false] at this
    simp only [List.all_nil, Bool.and_true, List.isEmpty_nil, if_true, Bool.and_eq_true, decide_eq_true_eq]
    refine ⟨List.all_eq_true.mpr fun x hx => ?_, h3⟩
    have := this x hx
    simp at this
    rw [this]; rfl
  show (do let ov ← eval o env; standAt apos.atName; methodCall o name apos pos env ov (args.length + 0) (backTo pos (starEach args env)) []) = _
  unfold methodCall calleeOf methodCallPos
  rw [hf]
  simp only [if_true, h4, Bool.not_true, Bool.false_or]
  rfl
theorem evF_ok (G : CxG w T kk rai c) {ev : PySem.Expr → St → KV → Prop} (hev : ∀ e σ k, ev e σ k → Sm w T c σ (eval e c.env) k) {f : PySem.Expr} {args : List PySem.Expr} {p : Pos} (hn : noStar args = true) {σ : St} {k : KV}
    (h : evF w T c f args p ev σ k (Sm w T c σ (eval (.Call f args [] p) c.env) k)) : Sm w T c σ (eval (.Call f args [] p) c.env) k := by
  cases f with
  | Name x xp =>
    unfold evF at h
    dsimp only at h
    split at h
    · rename_i e; exact calV_ok G hev (glk_mem e) hn h
    · exact h
  | Attribute o name ap =>
    unfold evF at h
    dsimp only at h
    split at h
    · rename_i e; exact sm_mcall (mcall_eq e) (hev _ _ _ h)
    · exact h
  | _ => exact h
noncomputable def isSl (e : PySem.Expr) : Bool := Nat.beq (tagE e) 12
theorem sl_eq {slice : PySem.Expr} (hs : isSl slice = false) (o i : Value) : subscripted slice false o i = operate [o, i] (getItem o i) := by
  cases slice <;> first | rfl | exact nomatch hs
theorem evSl_ok {ev : PySem.Expr → St → KV → Prop} (hev : ∀ e σ k, ev e σ k → Sm w T c σ (eval e c.env) k) {value slice : PySem.Expr} {pos : Pos} {σ : St} {k : KV}
    (h : evSl w T c value slice ev σ k (Sm w T c σ (eval (.Subscript value slice pos) c.env) k)) : Sm w T c σ (eval (.Subscript value slice pos) c.env) k := by
  have plain : (ev value σ fun o σ₁ => ev slice σ₁ fun i σ₂ => subV w T c value slice o i σ₂ k) → isSl slice = false → Sm w T c σ (eval (.Subscript value slice pos) c.env) k := fun h hs =>
    sm_sub (sm_mono (hev _ _ _ h) fun _ _ q => sm_mono (hev _ _ _ q) fun _ _ q => subV_ok (sl_eq hs) q)
  cases slice with
  | Slice lo hi st p =>
    cases st with
    | none => exact fun _ _ H => Subscript_ ((hev _ _ _ h).run H fun _ _ _ _ H q => wpAny_Slice ((evPt_ok hev q).run H fun _ _ _ _ H q => (evPt_ok hev q).run H fun _ _ _ _ H q => evalPart_none_step (sliV_ok q _ _ H)))
    | some _ => exact h
  | _ => exact plain h rfl
theorem ife_ok {r : Bool} {a b : PySem.Expr} {ev : PySem.Expr → St → KV → Prop} (hev : ∀ e σ k, ev e σ k → Sm w T c σ (eval e c.env) k) {σ : St} {k : KV} (h : two (ev a σ k) (ev b σ k) r) : if r = true then Sm w T c σ (eval a c.env) k else Sm w T c σ (eval b c.env) k := by
  cases r
  · exact hev _ _ _ h
  · exact hev _ _ _ h
theorem shortN_ok : ∀ {vs : List Value} {n : Nat}, shortN vs n = true → vs.length ≤ n
  | [], _, _ => Nat.zero_le _
  | _ :: r, n + 1, h => Nat.succ_le_succ (shortN_ok (vs := r) h)
  | _ :: _, 0, h => nomatch h
theorem short_ok {vs : List Value} {a b : Prop} (h : vs.length ≤ 1000 → a → b) (q : shortV vs a b) : b := by
  unfold shortV at q
  cases e : shortN vs 50 with
  | true => rw [e] at q; exact h (Nat.le_trans (shortN_ok e) (by decide)) q
  | false => rw [e] at q; exact q
theorem evStep_ok (G : CxG w T kk rai c) {ev : PySem.Expr → St → KV → Prop} {tv : PySem.Expr → St → KB → Prop} (hev : ∀ e σ k, ev e σ k → Sm w T c σ (eval e c.env) k) (htv : ∀ e σ k, tv e σ k → Sm w T c σ (isTrue e c.env (eval e c.env)) k)
    {e : PySem.Expr} {σ : St} {k : KV} (h : evStep w T c ev tv e σ k) : Sm w T c σ (eval e c.env) k := by
  cases e with
  | Constant v j p => exact evC_ok h
  | Name x p => exact evNm_ok G h
  | BinOp l op r p => exact sm_bin (sm_mono (hev _ _ _ h) fun _ _ q => sm_mono (hev _ _ _ q) fun _ _ q => binV_ok q)
  | UnaryOp op x p => exact fun _ _ H => PyProof.Rows.UnaryOp_ ((sm_mono (hev _ _ _ h) fun _ _ q => unV_ok q).go H)
  | IfExp t a b p => exact sm_ife (sm_mono (htv _ _ _ h) fun r _ q => ife_ok hev q)
  | Compare l ops rs p =>
    unfold evStep at h
    dsimp only at h
    split at h
    · rename_i e
      obtain ⟨rfl, rfl⟩ := one2_ok e
      split at h
      · rename_i e; exact sm_cmp e (sm_mono (hev _ _ _ h) fun _ _ q => sm_mono (hev _ _ _ q) fun _ _ q => cmpV_ok q)
      · exact h
    · exact h
  | Call f args kws p =>
    unfold evStep at h
    dsimp only at h
    split at h
    · rename_i e; exact evF_ok G hev e h
    · exact h
  | Subscript value slice p => exact evSl_ok hev h
  | Tuple elts j p =>
    unfold evStep at h
    dsimp only at h
    split at h
    · rename_i e; exact fun _ _ H => PyProof.Rows.Tuple_ ((sm_mono (evs_ok hev e h) fun _ _ q => short_ok (fun h q => sm_newTuple h (q trivial)) q).go H)
    · exact h
  | List elts p =>
    unfold evStep at h
    dsimp only at h
    split at h
    · rename_i e; exact fun _ _ H => PyProof.Rows.List_ ((sm_mono (evs_ok hev e h) fun _ _ q => short_ok (fun h q => sm_newList h (q trivial)) q).go H)
    · exact h
  | Attribute o name p =>
    unfold evStep at h
    dsimp only at h
    split at h
    · rename_i e; exact sm_attr (hev _ _ _ h) (attr_eq e)
    · exact h
  | _ => exact h
theorem andV_ok {tv : PySem.Expr → St → KB → Prop} (htv : ∀ e σ k, tv e σ k → Sm w T c σ (isTrue e c.env (eval e c.env)) k) {pos : Pos} {whole : Sem Value} : ∀ {l : List PySem.Expr} {σ : St} {k : KB}, andV tv l σ k → Sm w T c σ (isTrue (.BoolOp .And l pos) c.env whole) k
  | [], _, _, h => fun _ _ H => PyProof.Rows.isTrue_and_nil (pk_now H h)
  | x :: r, _, _, h => sm_tand (sm_mono (htv _ _ _ h) fun b _ q => match b, q with
    | true, q => andV_ok htv q
    | false, q => q)
theorem orV_ok {tv : PySem.Expr → St → KB → Prop} (htv : ∀ e σ k, tv e σ k → Sm w T c σ (isTrue e c.env (eval e c.env)) k) {pos : Pos} {whole : Sem Value} : ∀ {l : List PySem.Expr} {σ : St} {k : KB}, orV tv l σ k → Sm w T c σ (isTrue (.BoolOp .Or l pos) c.env whole) k
  | [], _, _, h => fun _ _ H => PyProof.Rows.isTrue_or_nil (pk_now H h)
  | x :: r, _, _, h => sm_tor (sm_mono (htv _ _ _ h) fun b _ q => match b, q with
    | true, q => q
    | false, q => orV_ok htv q)
theorem tvP_ok {ev : PySem.Expr → St → KV → Prop} (hev : ∀ e σ k, ev e σ k → Sm w T c σ (eval e c.env) k) {e : PySem.Expr} {σ : St} {k : KB} (h : tvP w T c e ev σ k) : Sm w T c σ (isTrue e c.env (eval e c.env)) k := by
  unfold tvP at h
  split at h
  · rename_i e; exact sm_tplain e (sm_mono (hev _ _ _ h) fun _ _ q => truV_ok q)
  · exact h
theorem tvStep_ok {ev : PySem.Expr → St → KV → Prop} {tv : PySem.Expr → St → KB → Prop} (hev : ∀ e σ k, ev e σ k → Sm w T c σ (eval e c.env) k) (htv : ∀ e σ k, tv e σ k → Sm w T c σ (isTrue e c.env (eval e c.env)) k)
    {e : PySem.Expr} {σ : St} {k : KB} (h : tvStep w T c ev tv e σ k) : Sm w T c σ (isTrue e c.env (eval e c.env)) k := by
  cases e with
  | Compare l ops rs p =>
    unfold tvStep at h
    dsimp only at h
    split at h
    · rename_i e
      obtain ⟨rfl, rfl⟩ := one2_ok e
      split at h
      · rename_i e; exact sm_tcmp e (sm_mono (hev _ _ _ h) fun _ _ q => sm_mono (hev _ _ _ q) fun _ _ q => cmpT_ok q)
      · exact h
    · exact h
  | BoolOp op xs p =>
    cases op with
    | And => exact andV_ok htv h
    | Or => exact orV_ok htv h
  | UnaryOp op x p =>
    cases op with
    | Not => exact fun _ _ H => PyProof.Rows.isTrue_not ((htv _ _ _ h).run H fun _ _ _ _ H q => pk_now H q)
    | _ => exact h
  | _ => exact tvP_ok hev h
theorem evN_ok (G : CxG w T kk rai c) : ∀ n, (∀ e σ k, (evN w T c n).1 e σ k → Sm w T c σ (eval e c.env) k) ∧ (∀ e σ k, (evN w T c n).2 e σ k → Sm w T c σ (isTrue e c.env (eval e c.env)) k)
  | 0 => ⟨fun _ _ _ h => h, fun _ _ _ h => h⟩
  | n + 1 => ⟨fun _ _ _ h => evStep_ok G (evN_ok G n).1 (evN_ok G n).2 h, fun _ _ _ h => tvStep_ok (evN_ok G n).1 (evN_ok G n).2 h⟩
theorem for_set {iter : PySem.Expr} {env : Env} (h : isSetE iter = false) (x : Value) : foldedSetIterable iter env x = pure x := by
  cases iter <;> first | rfl | exact nomatch h
theorem exAs_ok (G : CxG w T kk rai c) {n : Nat} {t v : PySem.Expr} {p : Pos} (e : isComp v = false) {σ : St} {k : Flow → St → Prop} (h : exAs w T c n t v σ k (Sm w T c σ (exec (.Assign [t] v p) c.env) k)) : Sm w T c σ (exec (.Assign [t] v p) c.env) k := by
  have E1 := (evN_ok G n).1
  cases t with
  | Name x p => exact sm_assign e (sm_mono (E1 _ _ _ h) fun _ _ q => sm_store G q)
  | Tuple elts j tp =>
    unfold exAs at h
    dsimp only at h
    split at h
    · rename_i e2; exact sm_assign_tup e e2 (E1 _ _ _ h)
    · exact h
  | Attribute o name p => exact sm_assign_at e (sm_mono (E1 _ _ _ h) fun _ _ q => E1 _ _ _ q)
  | _ => exact h
theorem exAu_ok (G : CxG w T kk rai c) {n : Nat} {op : Operator} {t v : PySem.Expr} {p : Pos} {σ : St} {k : Flow → St → Prop} (h : exAu w T c n t op v σ k (Sm w T c σ (exec (.AugAssign t op v p) c.env) k)) : Sm w T c σ (exec (.AugAssign t op v p) c.env) k := by
  have E1 := (evN_ok G n).1
  cases t with
  | Name x p =>
    unfold exAu at h
    dsimp only at h
    split at h
    · rename_i e; exact sm_aug (sm_load G e (sm_mono (E1 _ _ _ h) fun _ _ q => sm_mono (inpV_ok q) fun _ _ q => sm_store G q))
    · exact h
  | Attribute o name p => exact sm_aug_at (sm_mono (E1 _ _ _ h) fun _ _ q => sm_mono q fun _ _ q => sm_mono (E1 _ _ _ q) fun _ _ q => inpV_ok q)
  | _ => exact h
theorem exStep_ok (G : CxG w T kk rai c) {n : Nat} {st : Stmt} {σ : St} {k : Flow → St → Prop} (h : exStep w T c n st σ k) : Sm w T c σ (exec st c.env) k := by
  have E1 := (evN_ok G n).1
  cases st with
  | Assign ts v p =>
    unfold exStep at h
    dsimp only at h
    split at h
    · rename_i e; exact exAs_ok G (Bool.or_eq_false_iff.mp e).1 h
    · exact h
  | AugAssign t op v p => exact exAu_ok G h
  | Return e p =>
    cases e with
    | some e => exact fun _ _ H => wpAny_Return_some ((E1 _ _ _ h).run H fun _ _ _ _ H q => pk_now H q)
    | none => exact fun _ _ H => wpAny_Return_none (pk_now H h)
  | Expr e p =>
    unfold exStep at h
    dsimp only at h
    split at h
    · rename_i e; exact sm_expr G e (E1 _ _ _ h)
    · exact h
  | For target iter body els p =>
    unfold exStep at h
    dsimp only at h
    split at h
    · rename_i e; exact fun _ _ H => wpAny_For ((E1 _ _ _ h).run H fun _ _ _ _ H q => q _ _ H) (for_set e)
    · exact h
  | _ => exact h
theorem exs_ok (G : CxG w T kk rai c) {n : Nat} : ∀ {l : List Stmt} {σ : St} {k : Flow → St → Prop}, exs w T c n l σ k → Sm w T c σ (execs l c.env) k
  | [], _, _, h => fun _ _ H => wpAny_execs_nil (pk_now H h)
  | st :: r, _, _, h => sm_cons (sm_mono (exStep_ok G h) fun fl _ q => match fl, q with
    | .next, q => exs_ok G q
    | .brk, q => q
    | .cont, q => q
    | .ret _, q => q)
end

end
section
open PySem PySem.W PyProof.Rows PySem.Calls PySem.Spec
noncomputable def psOf : List (PySem.Str × Value) → List PySem.Str → List (Option Value)
  | (_, v) :: bs, _ :: nm => some v :: psOf bs nm
  | [], _ :: nm => none :: psOf [] nm
  | _, [] => []
noncomputable def bindsOK : List (PySem.Str × Value) → List PySem.Str → Bool
  | b :: bs, n :: nm => b.1 == n && !(bs.any fun q => q.1 == n) && bindsOK bs nm
  | [], _ => true
  | _ :: _, [] => false
theorem lk_nones {y : PySem.Str} : ∀ {nm : List PySem.Str}, lk nm (psOf [] nm) y = none
  | [] => rfl
  | n :: nm => by
    show (if y = n then none else lk nm (psOf [] nm) y) = none
    rw [lk_nones]; split <;> rfl
theorem lookup_none {y : PySem.Str} {bs : List (PySem.Str × Value)} (h : (bs.any fun q => q.1 == y) = false) : bs.reverse.lookup y = none := by
  refine List.lookup_eq_none_iff.mpr fun p hp => ?_
  have h1 := (List.any_eq_false.mp h) p (List.mem_reverse.mp hp)
  rw [Bool.not_eq_true] at h1
  have h2 : p.1 ≠ y := fun e => by rw [e, beq_self_eq_true] at h1; cases h1
  first | exact bne_iff_ne.mpr (Ne.symm h2) | exact Ne.symm h2 | (rw [beq_eq_false_iff_ne]; exact Ne.symm h2)
theorem lk_binds {y : PySem.Str} : ∀ {bs : List (PySem.Str × Value)} {nm : List PySem.Str}, bindsOK bs nm = true → bs.reverse.lookup y = lk nm (psOf bs nm) y
  | [], _, _ => lk_nones.symm
  | _ :: _, [], h => nomatch h
  | b :: bs, n :: nm, h => by
    obtain ⟨h, h3⟩ := Bool.and_eq_true_iff.mp h
    obtain ⟨h1, h2⟩ := Bool.and_eq_true_iff.mp h
    have h1 := eq_of_beq h1
    have ih := lk_binds (y := y) h3
    rw [List.reverse_cons, List.lookup_append]
    show _ = if y = n then some b.2 else lk nm (psOf bs nm) y
    by_cases e : y = n
    · subst e
      have hn : (bs.any fun q => q.1 == y) = false := by simpa using h2
      rw [lookup_none hn, if_pos rfl]
      show List.lookup y [b] = _
      rw [List.lookup_cons, h1, beq_self_eq_true]
    · rw [if_neg e, ih]
      cases q : lk nm (psOf bs nm) y with
      | some v => rfl
      | none =>
        show List.lookup y [b] = none
        rw [List.lookup_cons, h1, beq_false_of_ne e]; rfl
noncomputable def fnOK (sc : Scope) (T : Fn) (bs : List (PySem.Str × Value)) : Bool :=
  sc.kind == .function && !sc.isCoroutine && !sc.isGenerator && sc.names.all (fun x => x.2 != .cell) && bindsOK bs T.nm &&
  T.nm.all (fun x => sc.names.lookup x == some .local && !(x == ("__debug__" : PySem.Str))) && T.gl.all (fun p => sc.names.lookup p.1 == some .globalImplicit && !(p.1 == ("__debug__" : PySem.Str)))
structure FnIs (sc : Scope) (T : Fn) (bs : List (PySem.Str × Value)) : Prop where
  kind : sc.kind = .function
  co : sc.isCoroutine = false
  gen : sc.isGenerator = false
  cell : ∀ x ∈ sc.names, x.2 ≠ .cell
  binds : bindsOK bs T.nm = true
  nm : ∀ x ∈ T.nm, sc.names.lookup x = some .local ∧ (x == ("__debug__" : PySem.Str)) = false
  gl : ∀ p ∈ T.gl, sc.names.lookup p.1 = some .globalImplicit ∧ (p.1 == ("__debug__" : PySem.Str)) = false
theorem fnOK_is {sc : Scope} {T : Fn} {bs : List (PySem.Str × Value)} (h : fnOK sc T bs = true) : FnIs sc T bs := by
  unfold fnOK at h
  simp only [Bool.and_eq_true] at h
  obtain ⟨⟨⟨⟨⟨⟨h1, h2⟩, h3⟩, h4⟩, h5⟩, h6⟩, h7⟩ := h
  refine ⟨eq_of_beq h1, by simpa using h2, by simpa using h3, fun x hx => by have := List.all_eq_true.mp h4 x hx; simpa using this, h5, fun x hx => ?_, fun p hp => ?_⟩
  · have := List.all_eq_true.mp h6 x hx
    rw [Bool.and_eq_true] at this
    exact ⟨eq_of_beq this.1, by simpa using this.2⟩
  · have := List.all_eq_true.mp h7 p hp
    rw [Bool.and_eq_true] at this
    exact ⟨eq_of_beq this.1, by simpa using this.2⟩
theorem binds_mem : ∀ {bs : List (PySem.Str × Value)} {nm : List PySem.Str}, bindsOK bs nm = true → ∀ y ∈ bs, y.1 ∈ nm
  | [], _, _, _, hy => nomatch hy
  | _ :: _, [], h, _, _ => nomatch h
  | b :: bs, n :: nm, h, y, hy => by
    obtain ⟨h, h3⟩ := Bool.and_eq_true_iff.mp h
    obtain ⟨h1, h2⟩ := Bool.and_eq_true_iff.mp h
    rcases List.mem_cons.mp hy with rfl | hy
    · rw [eq_of_beq h1]; exact .head _
    · exact .tail _ (binds_mem h3 y hy)
noncomputable def eqv : Value → Value → Bool
  | .ref a, .ref b => a == b
  | .builtin a, .builtin b => a == b
  | .type a, .type b => a == b
  | .int n t, .int m u => n == m && t == u
  | .str x t, .str y u => x == y && t == u
  | _, _ => false
theorem eqv_ok {a b : Value} (h : eqv a b = true) : a = b := by
  unfold eqv at h
  split at h
  · rw [eq_of_beq h]
  · rw [eq_of_beq h]
  · rw [eq_of_beq h]
  · rw [eq_of_beq (Bool.and_eq_true_iff.mp h).1, eq_of_beq (Bool.and_eq_true_iff.mp h).2]
  · rw [eq_of_beq (Bool.and_eq_true_iff.mp h).1, eq_of_beq (Bool.and_eq_true_iff.mp h).2]
  · exact nomatch h
noncomputable def glB (K : Frag) (p : PySem.Str × Value) : Bool := match nsIn K mainGlobals p.1 with
  | some (some v) => eqv v p.2
  | some none => match bootBuiltins p.1 with
    | some v => eqv v p.2 && !(p.1 == ("__name__" : PySem.Str))
    | none => false
  | none => false
theorem glB_ok {K : Frag} {p : PySem.Str × Value} (h : glB K p = true) : GlobP K p := by
  unfold glB at h
  split at h
  · rename_i e; exact .inl (e.trans (by rw [eqv_ok h]))
  · rename_i e
    split at h
    · rename_i e2
      have h := Bool.and_eq_true_iff.mp h
      exact .inr ⟨e, e2.trans (by rw [eqv_ok h.1]), fun q => by rw [q] at h; exact nomatch h.2⟩
    · exact nomatch h
  · exact nomatch h
structure Ret (post : Value → Led → Prop) (R : Flow → St → Prop) : Prop where
  ret : ∀ {v σ} new, post v new → (∀ p ∈ new, p ∈ σ.led) → R (.ret v) σ
  fin : ∀ {σ} new, post .none new → (∀ p ∈ new, p ∈ σ.led) → R .next σ
noncomputable def pick (led : Led) (ix : List Nat) : Led := List.rec [] (fun i _ ih => match led[i]? with
  | some p => p :: ih
  | none => ih) ix
theorem pick_sub {led : Led} : ∀ {ix : List Nat}, ∀ p ∈ pick led ix, p ∈ led
  | [], _, h => nomatch h
  | i :: ix, p, h => by
    have h' : p ∈ (match led[i]? with
      | some q => q :: pick led ix
      | none => pick led ix) := h
    split at h'
    · rename_i q e
      rcases List.mem_cons.mp h' with rfl | h'
      · exact List.mem_of_getElem? e
      · exact pick_sub p h'
    · exact pick_sub p h'
theorem Ret.at {post : Value → Led → Prop} {R : Flow → St → Prop} (hR : Ret post R) (ix : List Nat) {v : Value} {ps : List (Option Value)} {led fz : Led} (h : post v (pick led ix)) : R (.ret v) ⟨ps, led, fz⟩ := hR.ret _ h pick_sub
theorem Ret.none {post : Value → Led → Prop} {R : Flow → St → Prop} (hR : Ret post R) (ix : List Nat) {ps : List (Option Value)} {led fz : Led} (h : post .none (pick led ix)) : R .next ⟨ps, led, fz⟩ := hR.fin _ h pick_sub
theorem con_vc {w : World} {f : Addr} {kk : Nat} {args : List Value} {fz pre : Led} {post : Value → Led → Prop} {rai : Addr → Option Int → Prop} {n : Nat}
    {name qual : PySem.Str} {params : Arguments} {body body' : List Stmt} {scope scope' : Scope} {dV kV doc pm cdv ct oc : Value} {an od : Option Addr} {osl : Array (Option Value)} (T : Fn) {binds : List (PySem.Str × Value)}
    (h : ∀ c R, CxG w T kk rai c → Ret post R → exs w T c n body' ⟨psOf binds T.nm, pre, fz⟩ R)
    (ho : (KP w.params).lookup f = some ⟨oc, od, .func (fnOf name qual params body scope dV kV doc pm an cdv ct), osl⟩ := by k_is) (hbody : body = body' := by conv => lhs; whnf) (hscope : scope = scope' := by conv => lhs; whnf) (hcd : codeIn (KP w.params) cdv qual = true := by k_is)
    (hbind : ∀ s : Shared, (KP w.params).In s.heap → BindsTo s (fnOf name qual params body' scope' dV kV doc pm an cdv ct) ⟨args, []⟩ binds := by exact fun _ _ => BindsTo.of_eq rfl)
    (hT : fnOK scope' T binds = true := by exact rfl) (hgl : T.gl.all (glB (KP w.params)) = true := by exact rfl) (hfn : (T.fn.all fun a => keepIn (KP w.params) (.ref a)) = true := by exact rfl) :
    ConH none w f (kk + 1) args fz pre post rai := by
  obtain ⟨h1, h2, h3, h4, h5, h6, h7⟩ := fnOK_is hT
  subst hbody
  subst hscope
  have hgl := fun p hp => glB_ok (List.all_eq_true.mp hgl p hp)
  have hfn := List.all_eq_true.mp hfn
  refine con_intro0 ho hcd hbind (fun y hy => (h6 _ (binds_mem h5 y hy)).1) (Nat.succ_pos _) (fun mean mg mb dp un gd env outer base g L s h₁ hdep hun hek hL hfz hlt F N B X T0 O => ?_) h2 h3 h1 h4
  have G : CxG w T kk rai { A := (Arnd none dp un gd env outer).deeper (envOf qual scope L f cdv), env := envOf qual scope L f cdv, outer := env :: outer, g := g, s := s, E := Out g (envOf qual scope L f cdv :: env :: outer) s rai, kp := [] } :=
    ⟨⟨qual, scope, L, f, cdv, rfl, h1, fun x hx => (h6 x hx).1, fun p hp => (h7 p hp).1⟩, ⟨fun x hx => (h6 x hx).2, fun p hp => (h7 p hp).2⟩, hgl, hfn, X, ⟨mean, mg, mb, _, base, B, T0, O⟩, rfl, rfl,
      dep_ok (n := 1) hdep rfl (by lia), uni_ok (n := 3) hun rfl (by lia), fun C code e tr h tk r x => out r x⟩
  refine wpAny_mono (exs_ok G (h _ (fun fl σ => ∃ new, post (match fl with | .ret v => v | _ => .none) new ∧ ∀ p ∈ new, p ∈ σ.led) G ⟨fun new p q => ⟨new, p, q⟩, fun new p q => ⟨new, p, q⟩⟩) h₁ (s.toks + binds.length) ⟨?_, by rw [List.append_nil]; exact N, fun _ _ _ h => (List.not_mem_nil h).elim, hfz⟩) (fun fl s' p => ?_) fun _ _ x => x
  · have e : (fun y => binds.reverse.lookup y) = lk T.nm (psOf binds T.nm) := funext fun y => lk_binds h5
    rw [← e]; exact F
  · obtain ⟨σ, h', tk', H, new, hp, hs⟩ := p
    exact back H.F (fun p q => H.N p (List.mem_append_left _ (hs p q))) hp
section
variable {w : World} {T : Fn} {c : Cx} {kk n : Nat} {rai : Addr → Option Int → Prop} {σ : St} {k : KV} {kf : Flow → St → Prop}
theorem ev_ok (G : CxG w T kk rai c) {e : PySem.Expr} (h : (evN w T c n).1 e σ k) : Sm w T c σ (eval e c.env) k := (evN_ok G n).1 e σ k h
theorem use (G : CxG w T kk rai c) {ps : List (Option Value)} {led frz : Led} {k' : Nat} {f : Addr} {args : List Value} {fz pre : Led} {post : Value → Led → Prop} {rai0 : Addr → Option Int → Prop} (C : ConH none w f k' args fz pre post rai0) (rest : Led)
    (hl : ∀ p ∈ pre ++ rest, p ∈ led) (hz : ∀ p ∈ fz, p ∈ frz ∨ p ∈ rest) (hr : ∀ p ∈ rest, p.1 ∉ ads pre)
    (ret : ∀ v new, post v new → (∀ p ∈ new, p.1 ∈ ads pre ∨ ∀ q ∈ pre ++ rest, q.1 ≠ p.1) → k v ⟨ps, new ++ rest, frz⟩) (hrai : ∀ C code, rai0 C code → rai C code) (hk : k' ≤ kk := by decide) : Sm w T c ⟨ps, led, frz⟩ (call (.ref f) args) k := fun h tk H => by
  refine nnOf fun nO => ?_
  obtain ⟨mean, mg, mb, A₀, base, B, Tp, O⟩ := G.at_ <;> (refine nO ?_; clear nO)
  have hd := G.dep
  have hu := G.un
  refine nnOf fun nO => ?_
  obtain ⟨q, sc, L, fa, cd, e, h1, h2, h3⟩ := G.env <;> (refine nO ?_; clear nO)
  have ef : c.env.frame = some c.env.locals := by rw [e]; rfl
  have ek : c.env.scope.kind = .function := by rw [e]; exact h1
  have sub : ∀ p ∈ pre ++ (rest ++ c.kp), p ∈ led ++ c.kp := fun p q => by
    rw [← List.append_assoc] at q
    rcases List.mem_append.mp q with q | q
    · exact List.mem_append_left _ (hl p q)
    · exact List.mem_append_right _ q
  have hp : ∀ p ∈ pre, p ∈ led := fun p q => hl p (List.mem_append_left _ q)
  have S : Site w mean mg mb k' c.A A₀ base c.env c.outer (c.sh h tk) c.g c.env.locals (lk T.nm ps) := ⟨B, G.fr, ef, ek, H.F, G.X, Tp, by lia, by lia, O⟩
  refine (usesZ S G.hh (news_sub H.N sub) rfl (rest := rest ++ c.kp) (fun p q => (hz p q).imp (H.Z p) (List.mem_append_left _)) (fun p q => ?_) (fun v new h' tk' F' N' pv hf => ?_) (fun C code e h' tk' x _ r => G.rs C code e true h' tk' (hrai C code r) x)).go _ _ C
  · rcases List.mem_append.mp q with q | q
    · exact hr p q
    · intro hb
      obtain ⟨p', hp', e'⟩ := List.mem_map.mp hb
      exact H.D p' (hp p' hp') p q e'
  · refine ⟨⟨ps, new ++ rest, frz⟩, h', tk', ⟨F', by rw [List.append_assoc]; exact N', fun p hp' q hq => ?_, H.Z⟩, ret v new pv fun p hp' => (hf p hp').imp id fun y q hq => y q (by rw [← List.append_assoc]; exact List.mem_append_left _ hq)⟩
    rcases List.mem_append.mp hp' with hp' | hp'
    · rcases hf p hp' with y | y
      · obtain ⟨p2, hp2, e'⟩ := List.mem_map.mp y
        rw [← e']; exact H.D p2 (hp p2 hp2) q hq
      · exact fun e' => y q (List.mem_append_right _ (List.mem_append_right _ hq)) e'.symm
    · exact H.D p (hl p (List.mem_append_right _ hp')) q hq
theorem use0 (G : CxG w T kk rai c) {ps : List (Option Value)} {led frz : Led} {k' : Nat} {f : Addr} {args : List Value} {fz : Led} {post : Value → Led → Prop} {rai0 : Addr → Option Int → Prop} (C : ConH none w f k' args fz [] post rai0)
    (ret : ∀ v new, post v new → k v ⟨ps, new ++ led, frz⟩) (hz : ∀ p ∈ fz, p ∈ frz ∨ p ∈ led) (hrai : ∀ C code, rai0 C code → rai C code) (hk : k' ≤ kk := by decide) : Sm w T c ⟨ps, led, frz⟩ (call (.ref f) args) k :=
  use G C led (fun _ h => h) hz (fun _ _ h => nomatch h) (fun v new p _ => ret v new p) hrai hk
structure Meets (D : (St → Prop) → Prop) (k R : Flow → St → Prop) : Prop where
  next : ∀ {σ}, (∀ K, D K → K σ) → R .next σ
  ret : ∀ {v σ}, k (.ret v) σ → R (.ret v) σ
theorem meet_st {t : Sem Flow} (D : (St → Prop) → Prop) (h : ∀ R, Meets D kf R → Sm w T c σ t R) (h2 : D (kf .next)) : Sm w T c σ t kf :=
  sm_mono (h (fun fl σ' => match fl with | .next => ∀ K, D K → K σ' | fl => kf fl σ') ⟨fun q => q, fun q => q⟩) fun fl σ' q => match fl, q with
    | .next, q => q _ h2
    | .brk, q => q
    | .cont, q => q
    | .ret _, q => q
theorem vc_as (G : CxG w T kk rai c) {t v : PySem.Expr} {p : Pos} (h : exAs w T c n t v σ kf (Sm w T c σ (exec (.Assign [t] v p) c.env) kf)) (e : isComp v = false := by rfl) : Sm w T c σ (exec (.Assign [t] v p) c.env) kf := exAs_ok G e h
theorem vc_if (G : CxG w T kk rai c) {test : PySem.Expr} {body orelse : List Stmt} {pos : Pos} (h : (evN w T c n).2 test σ fun b σ' => two (exs w T c n body σ' kf) (exs w T c n orelse σ' kf) b) : Sm w T c σ (exec (.If test body orelse pos) c.env) kf :=
  sm_if (sm_mono ((evN_ok G n).2 _ _ _ h) fun b _ q => match b, q with
    | true, q => exs_ok G q
    | false, q => exs_ok G q)
structure Lp (I : Nat → (St → Prop) → Prop) (k : Flow → St → Prop) (m : Nat) (R : Flow → St → Prop) : Prop where
  next : ∀ {σ} m', m' < m → (∀ K, I m' K → K σ) → R .next σ
  brk : ∀ {σ}, k .next σ → R .brk σ
  ret : ∀ {v σ}, k (.ret v) σ → R (.ret v) σ
noncomputable def Cx.noted (w : World) (c : Cx) : Cx := { c with E := notedBy (MD w) c.A c.env (cameBackBy (MD w) c.A c.env c.E) }
theorem Hd.on {h : Heap} (H : Hd T c σ h) : Hd T (c.noted w) σ h := ⟨H.F, H.N, H.D, H.Z⟩
theorem Hd.off {h : Heap} (H : Hd T (c.noted w) σ h) : Hd T c σ h := ⟨H.F, H.N, H.D, H.Z⟩
theorem CxG.noted (G : CxG w T kk rai c) : CxG w T kk rai (c.noted w) := { G with
  rs := fun C code e tr h tk r x => by
    obtain ⟨q, sc, L, fa, cd, e1, h1, h2, h3⟩ := G.env
    have ef : c.env.frame = some c.env.locals := by rw [e1]; rfl
    exact fly_thru (s := c.sh h tk) G.fr ef x fun h' y => G.rs C code e true h' tk r y }
theorem sm_while (G : CxG w T kk rai c) {test : PySem.Expr} {body : List Stmt} {pos : Pos} (I : Nat → (St → Prop) → Prop) {n0 : Nat} (h0 : ∀ K, I n0 K → K σ)
    (turn : ∀ c' R m, CxG w T kk rai c' → Lp I kf m R → I m fun σ' => (evN w T c' n).2 test σ' fun b σ'' => two (exs w T c' n body σ'' R) (kf .next σ'') b) : Sm w T c σ (exec (.While test body [] pos) c.env) kf := fun h tk H => by
  refine wpAny_While (codeAny_whileLoop (fun m s' => ∃ σ' h' tk', s' = c.sh h' tk' ∧ Hd T c σ' h' ∧ ∀ K, I m K → K σ') ?_ n0 ⟨σ, h, tk, rfl, H, h0⟩)
  intro m s' hX1
  refine nnOf fun nO => ?_
  obtain ⟨σ', h', tk', rfl, H', hI⟩ := hX1 <;> (refine nO ?_; clear nO)
  have G' := G.noted
  have hv := (evN_ok G' n).2 _ _ _ (hI _ (turn (c.noted w) (fun fl σ'' => match fl with | .brk => kf .next σ'' | .ret v => kf (.ret v) σ'' | _ => ∃ m', m' < m ∧ ∀ K, I m' K → K σ'') m G' ⟨fun m' a b => ⟨m', a, b⟩, fun q => q, fun q => q⟩))
  refine hv.run (c := c.noted w) H'.on fun b σ'' h'' tk'' H'' q => ?_
  cases b with
  | false => exact wpAny_execs_nil (pk_now (c := c) H''.off q)
  | true =>
    refine (exs_ok G' q).run (c := c.noted w) H'' fun fl σ₃ h₃ tk₃ H₃ q => ?_
    cases fl with
    | next => obtain ⟨m', a, b⟩ := q; exact ⟨m', a, σ₃, h₃, tk₃, rfl, H₃.off, b⟩
    | cont => obtain ⟨m', a, b⟩ := q; exact ⟨m', a, σ₃, h₃, tk₃, rfl, H₃.off, b⟩
    | brk => exact pk_now (c := c) H₃.off q
    | ret v => exact pk_now (c := c) H₃.off q
structure LpF (J : Nat → (St → Prop) → Prop) (k : Flow → St → Prop) (i : Nat) (R : Flow → St → Prop) : Prop where
  next : ∀ {σ}, (∀ K, J (i + 1) K → K σ) → R .next σ
  brk : ∀ {σ}, k .next σ → R .brk σ
  ret : ∀ {v σ}, k (.ret v) σ → R (.ret v) σ
noncomputable def Cx.keep (c : Cx) (p : Addr × Obj) : Cx := { c with kp := p :: c.kp }
theorem CxG.keep (G : CxG w T kk rai c) (p : Addr × Obj) : CxG w T kk rai (c.keep p) := { G with rs := G.rs }
theorem for_core (G : CxG w T kk rai c) {target : PySem.Expr} {body : List Stmt} {I : Addr} {fp : List Addr} {nn : Nat} {P : Nat → Value → Prop} {SH : Nat → Heap → Prop} (W : Walks PySem.Challenge.rw_no0277_01.row.prog w c.A I fp [I] nn P SH)
    (J : Nat → (St → Prop) → Prop) (hj : ∀ K, J 0 K → K σ) {h : Heap} {tk : Nat} (H : Hd T c σ h) (hI : ∀ p ∈ σ.led ++ c.kp, p.1 ≠ I) (hIg : c.g.get? I = none) (hIL : I ≠ c.env.locals) (hst : SH 0 h) (hIo : ∀ i h, SH i h → ∃ o, h.get? I = some o)
    (hfp : ∀ b ∈ fp, b = I ∨ ∃ o, c.g.get? b = some o)
    (turn : ∀ c' R i v, CxG w T kk rai c' → LpF J kf i R → i < nn → P i v → J i fun σ' => Sm w T c' σ' (assign target c'.env v) fun _ σ'' => exs w T c' n body σ'' R)
    (done : J nn (kf .next))
    (ht : ∀ i v s' (Q' : Unit → Shared → Prop) (E' : Value → Shared → Prop), i < nn → P i v → SH (i + 1) s'.heap → Q' () s' → wpAny (MD w) c.A (letOwnedTupleGo target (.ref I) v) Q' E' s') :
    codeAny (MD w) c.A (.forLoop target (.ref I) body [] c.env) (fun r s' => match r with | .ok f => Pk T c kf f s' | .error e => cameBackBy (MD w) c.A c.env c.E e s') (c.sh h tk) := by
  refine codeAny_forLoop_any (fun k s₁ => ∃ i σ' h' tk', s₁ = c.sh h' tk' ∧ i ≤ nn ∧ k = nn - i ∧ Hd T c σ' h' ∧ (∀ p ∈ σ'.led ++ c.kp, p.1 ≠ I) ∧ SH i h' ∧ ∀ K, J i K → K σ') ?_ nn ⟨0, σ, h, tk, rfl, Nat.zero_le _, rfl, H, hI, hst, hj⟩
  intro k s₁ hX2
  refine nnOf fun nO => ?_
  obtain ⟨i, σ', h', tk', rfl, hi, rfl, H', hI', hst', hJ⟩ := hX2 <;> (refine nO ?_; clear nO)
  have kept : ∀ {h''}, (∀ b o, b ∉ [I] → h'.get? b = some o → h''.get? b = some o) → Hd T c σ' h'' := fun {h''} keep => by
    refine nnOf fun nO => ?_
    obtain ⟨oL, a1, a2, hL, a3⟩ := H'.F.ns <;> (refine nO ?_; clear nO)
    refine ⟨⟨⟨oL, a1, a2, keep _ _ (by simpa using fun e : c.env.locals = I => hIL e.symm) hL, a3⟩, fun b o q => keep _ _ ?_ (H'.F.keep b o q), H'.F.above⟩, fun p hp => ⟨keep _ _ (by simpa using hI' p hp) (H'.N p hp).1, (H'.N p hp).2⟩, H'.D, H'.Z⟩
    intro hb
    rw [List.mem_singleton] at hb
    rw [hb, hIg] at q; cases q
  rcases Nat.lt_or_ge i nn with hlt | hge
  · refine W.item i _ _ _ hlt hst' fun v h2 tk2 pv st2 keep => ?_
    have H2 := kept keep
    obtain ⟨o', ho'⟩ := hIo (i + 1) h2 st2
    have G' := G.noted.keep (I, o')
    have H3 : Hd T ((c.noted w).keep (I, o')) σ' h2 := ⟨H2.F, fun p hp => by
      rcases List.mem_append.mp hp with hp | hp
      · exact H2.N p (List.mem_append_left _ hp)
      · rcases List.mem_cons.mp hp with rfl | hp
        · exact ⟨ho', hIL, hIg⟩
        · exact H2.N p (List.mem_append_right _ hp), fun p hp q hq => by
      rcases List.mem_cons.mp hq with rfl | hq
      · exact hI' p (List.mem_append_left _ hp)
      · exact H2.D p hp q hq, H2.Z⟩
    refine ht i v _ _ _ hlt pv st2 ?_
    refine (hJ _ (turn ((c.noted w).keep (I, o')) (fun fl σ'' => match fl with | .brk => kf .next σ'' | .ret v => kf (.ret v) σ'' | _ => ∀ K, J (i + 1) K → K σ'') i v G' ⟨fun q => q, fun q => q, fun q => q⟩ hlt pv)).run (c := (c.noted w).keep (I, o')) H3 fun _ σ₃ h₃ tk₃ H₃ q => ?_
    refine (exs_ok G' q).run (c := (c.noted w).keep (I, o')) H₃ fun fl σ₄ h₄ tk₄ H₄ q => ?_
    have H5 : Hd T c σ₄ h₄ := ⟨H₄.F, fun p hp => H₄.N p ((List.mem_append.mp hp).elim (fun x => List.mem_append_left _ x) fun x => List.mem_append_right _ (.tail _ x)), fun p hp q hq => H₄.D p hp q (.tail _ hq), H₄.Z⟩
    have fin : (∀ K, J (i + 1) K → K σ₄) → ∃ m, m < nn - i ∧ ∃ i σ' h' tk', c.sh h₄ tk₄ = c.sh h' tk' ∧ i ≤ nn ∧ m = nn - i ∧ Hd T c σ' h' ∧ (∀ p ∈ σ'.led ++ c.kp, p.1 ≠ I) ∧ SH i h' ∧ ∀ K, J i K → K σ' := fun q => by
      refine ⟨nn - (i + 1), by lia, i + 1, σ₄, h₄, tk₄, rfl, hlt, rfl, H5, fun p hp => ?_, W.frame _ _ _ st2 fun b hb o qq => ?_, q⟩
      · rcases List.mem_append.mp hp with hp | hp
        · exact H₄.D p hp (I, o') (.head _)
        · exact hI' p (List.mem_append_right _ hp)
      · rcases hfp b hb with rfl | ⟨ob, hob⟩
        · rw [ho'] at qq; cases qq
          exact (H₄.N (b, o') (List.mem_append_right _ (.head _))).1
        · have e1 := H2.F.keep _ _ hob
          rw [e1] at qq; cases qq
          exact H₄.F.keep _ _ hob
    cases fl with
    | next => exact fin q
    | cont => exact fin q
    | brk => exact pk_now H5 q
    | ret v => exact pk_now H5 q
  · have hin : i = nn := Nat.le_antisymm hi hge
    subst hin
    refine W.done _ _ _ hst' fun h2 tk2 keep => ?_
    exact wpAny_execs_nil (pk_now (kept keep) (hJ _ done))
theorem Hd.push {h : Heap} (H : Hd T c σ h) (o : Obj) : Hd T c σ (h.push o) := ⟨H.F.push o, fun p hp => ⟨Heap.get?_push_of_some _ (H.N p hp).1, (H.N p hp).2⟩, H.D, H.Z⟩
theorem Hd.new {h : Heap} (H : Hd T c σ h) : ∀ p ∈ σ.led ++ c.kp, p.1 ≠ h.objs.size := fun p hp e => absurd (Heap.lt_size (H.N p hp).1) (e ▸ Nat.lt_irrefl _)
theorem for_text (G : CxG w T kk rai c) {target : PySem.Expr} {body : List Stmt} {l : List Nat} {t : Tok} (J : Nat → (St → Prop) → Prop) (hj : ∀ K, J 0 K → K σ)
    (turn : ∀ c' R i x tv, CxG w T kk rai c' → LpF J kf i R → l[i]? = some x → J i fun σ' => Sm w T c' σ' (assign target c'.env (.str (S [x]) tv)) fun _ σ'' => exs w T c' n body σ'' R) (done : J l.length (kf .next))
    (ht : ∀ I v, letOwnedTupleGo target (.ref I) v = pure () := by intro _ _; rfl) : ForP w T c target (.str (S l) t) body σ kf := fun h tk H => by
  refine wpAny_pyIter_strI fun o St hW hst hSt => ?_
  refine for_core (n := n) G (hW c.A G.hh) J hj (H.push o) H.new (next_free H.F).1 (next_free H.F).2 hst hSt (fun b hb => .inl (by simpa using hb)) ?_ (by simpa [S] using done) fun i v s' Q' E' _ _ _ q => by rw [ht]; exact wpAny_pure q
  rintro c' R i v G' hL hi ⟨x, tv, hx, rfl⟩
  exact turn c' R i x tv G' hL (by simpa [S] using hx)
theorem for_rng (G : CxG w T kk rai c) {target : PySem.Expr} {body : List Stmt} {nn : Nat} {t : Tok} (hn : nn ≤ 1048576) (J : Nat → (St → Prop) → Prop) (hj : ∀ K, J 0 K → K σ)
    (turn : ∀ c' R i tv, CxG w T kk rai c' → LpF J kf i R → i < nn → J i fun σ' => Sm w T c' σ' (assign target c'.env (.int (i : Int) tv)) fun _ σ'' => exs w T c' n body σ'' R) (done : J nn (kf .next))
    (ht : ∀ I v, letOwnedTupleGo target (.ref I) v = pure () := by intro _ _; rfl) : Sm w T c σ (call (.type "range") [.int (nn : Int) t]) fun v σ₁ => ForP w T c target v body σ₁ kf := fun h tk H => by
  refine range1_rows (s := c.sh h tk) H.F H.N fun h' tk' t₁ u₁ v₁ hr F₁ N₁ keep => ?_
  have e0 := next_free H.F
  refine pk_now (σ := ⟨σ.ps, (h.objs.size, _) :: σ.led, σ.fz⟩) ⟨F₁, List.forall_mem_cons.mpr ⟨⟨hr, e0.2, e0.1⟩, N₁⟩, List.forall_mem_cons.mpr ⟨fun q hq => (H.new q (List.mem_append_right _ hq)).symm, H.D⟩, H.Z⟩ fun h2 tk2 H2 => ?_
  have hr2 : IsRange h2 h.objs.size 0 (nn : Int) 1 t₁ u₁ v₁ := (H2.N _ (.head _)).1
  refine wpAny_pyIter_range (s := c.sh h2 tk2) hr2 (small_one (by lia) (by lia) (by lia) (by lia)) ?_
  have hsz : Builtin.Range.rangeSize 0 (nn : Int) 1 = (nn : Int) := by
    rw [rangeSize_one]; split <;> lia
  rw [hsz]
  have H3 : Hd T c σ h2 := ⟨H2.F, fun p q => H2.N p (.tail _ q), fun p q => H2.D p (.tail _ q), H2.Z⟩
  refine for_core (n := n) G (Walks.range (prog := PySem.Challenge.rw_no0277_01.row.prog) (w := w) G.hh h2.objs.size 0 1 nn) J hj (H3.push _) H3.new (next_free H3.F).1 (next_free H3.F).2 ?_ (fun i h e => ⟨_, e⟩) (fun b hb => .inl (by simpa using hb)) ?_ done fun i v s' Q' E' _ _ _ q => by rw [ht]; exact wpAny_pure q
  · have := Heap.get?_push_size h2 (o := { cls := .type "range_iterator", data := .fields #[rawInt 0, rawInt (nn : Int), rawInt 1] }) rfl
    simpa [Cx.sh] using this
  · rintro c' R i v G' hL hi ⟨tv, rfl⟩
    rw [show (0 : Int) + (i : Int) * 1 = (i : Int) by lia]
    exact turn c' R i tv G' hL hi
theorem for_lst (G : CxG w T kk rai c) {target : PySem.Expr} {body : List Stmt} {l : Addr} {vs : List Value} {m : Nat} (hl : (l, listOf vs.toArray m) ∈ σ.fz) (J : Nat → (St → Prop) → Prop) (hj : ∀ K, J 0 K → K σ)
    (turn : ∀ c' R i v, CxG w T kk rai c' → LpF J kf i R → vs[i]? = some v → J i fun σ' => Sm w T c' σ' (assign target c'.env v) fun _ σ'' => exs w T c' n body σ'' R) (done : J vs.length (kf .next))
    (ht : (∀ I v, letOwnedTupleGo target (.ref I) v = pure ()) ∨ ((∃ elts x1 pos, target = .Tuple elts x1 pos) ∧ ∀ v ∈ vs, ∃ a, v = .ref a)) : ForP w T c target (.ref l) body σ kf := fun h tk H => by
  have hg := H.Z _ hl
  have hls : h.IsList l vs.toArray := ⟨_, H.F.keep _ _ hg, rfl, m, rfl⟩
  have hne : l ≠ h.objs.size := Nat.ne_of_lt (Heap.lt_size (H.F.keep _ _ hg))
  refine wpAny_pyIter_list (s := c.sh h tk) hls ?_
  have W := Walks.list (prog := PySem.Challenge.rw_no0277_01.row.prog) (w := w) G.hh h.objs.size l hne vs.toArray
  rw [List.size_toArray] at W
  refine for_core (n := n) G W J hj (H.push _) H.new (next_free H.F).1 (next_free H.F).2 ⟨⟨_, Heap.get?_push_size _ rfl, rfl, rfl⟩, hls.at fun o e => Heap.get?_push_of_some _ e⟩ (fun i h e => ⟨_, e.1.choose_spec.1⟩) (fun b hb => ?_) ?_ done ?_
  · rcases List.mem_cons.mp hb with rfl | hb
    · exact .inl rfl
    · rw [List.mem_singleton] at hb; subst hb; exact .inr ⟨_, hg⟩
  · exact fun c' R i v G' hL hi hv => turn c' R i v G' hL (by simpa using hv)
  · rintro i v s' Q' E' hi hiv st q
    rcases ht with ht | ⟨⟨elts, x1, pos, rfl⟩, hv⟩
    · rw [ht]; exact wpAny_pure q
    · obtain ⟨a, rfl⟩ := hv v (List.mem_of_getElem? (by simpa using hiv))
      exact wpAny_letOwnedTupleGo_listiter st.1 q
end

end
section
open PySem PySem.W PyProof.Rows PySem.Calls PySem.Spec
section
variable {prog : Program} {w : World} {A : Around} {E : Value → Shared → Prop} {s : Shared} {g : Heap} {L d : Addr} {m : PySem.Str → Option Value} {led : Led} {vs : List Value} {n : Nat} {x : Value} {Q : Value → Shared → Prop}
theorem app_list (F : Fr g L s.heap m) (N : News g L s.heap led) (hd : (d, listOf vs.toArray n) ∈ led) (hz : vs.length ≤ 1000)
    (h : ∀ h', Fr g L h' m → (∀ led', (∀ p ∈ led', p = (d, listOf (vs ++ [x]).toArray (n + 1)) ∨ (p ∈ led ∧ p.1 ≠ d)) → News g L h' led') → Q .none { s with heap := h' }) :
    wpAny (model prog w) A (call (.builtin "list.append") [.ref d, x]) Q E s := by
  have N1 : News g L s.heap ((d, listOf vs.toArray n) :: led.filter fun p => decide (p.1 ≠ d)) := news_sub N fun p hp => by
    rcases List.mem_cons.mp hp with rfl | hp
    · exact hd
    · exact (List.mem_filter.mp hp).1
  refine append_K F N1 (.head fun p hp => by simpa using (List.mem_filter.mp hp).2) (fun h' F' N' => ?_) (by
    have : vs.toArray.size ≤ 1000 := by rw [List.size_toArray]; exact hz
    exact Nat.le_trans this (by decide))
  rw [List.push_toArray] at N'
  refine h h' F' fun led' hl => news_sub N' fun p hp => ?_
  rcases hl p hp with rfl | ⟨h1, h2⟩
  · exact .head _
  · exact .tail _ (List.mem_filter.mpr ⟨h1, by simpa using h2⟩)
end
noncomputable def Has (σ : St) (p : Addr × Obj) : Prop := p ∈ σ.led ∨ p ∈ σ.fz
section
variable {w : World} {T : Fn} {c : Cx} {kk n : Nat} {rai : Addr → Option Int → Prop} {σ : St} {k : KV} {kf : Flow → St → Prop}
theorem Has.at {p : Addr × Obj} (h : Has σ p) {h0 : Heap} (H : Hd T c σ h0) : h0.get? p.1 = some p.2 := h.elim (fun q => (H.N p (List.mem_append_left _ q)).1) fun q => H.F.keep _ _ (H.Z p q)
theorem Has.tup {a : Addr} {vs : List Value} (h : Has σ (a, tupO vs)) {h0 : Heap} (H : Hd T c σ h0) : IsTup h0 a vs.toArray := ⟨_, h.at H, rfl, 0, rfl⟩
theorem Has.lst {a : Addr} {vs : List Value} {m : Nat} (h : Has σ (a, listOf vs.toArray m)) {h0 : Heap} (H : Hd T c σ h0) : h0.IsList a vs.toArray := ⟨_, h.at H, rfl, m, rfl⟩
theorem mulL {x y : Int} (h : x.natAbs < 2 ^ 64) : IntMulOk x y := .of_left (intBits_le_64 (by lia) (by lia))
theorem mulR {x y : Int} (h : y.natAbs < 2 ^ 64) : IntMulOk x y := .of_right (intBits_le_64 (by lia) (by lia))
theorem mul1 {s x : Int} (h : s = 1 ∨ s = -1) : IntMulOk s x := mulL (by rcases h with rfl | rfl <;> decide)
theorem sm_len {l : List Nat} {t : Tok} (hl : l.length ≤ 1048576) (h : ∀ t, k (.int (l.length : Int) t) σ) : Sm w T c σ (call (.builtin "len") [.str (S l) t]) k := fun _ _ H => len_S hl (pk_now (tk := _ + 1 + 1) H (h _))
theorem sm_lenL {a : Addr} {vs : List Value} {m : Nat} (ha : Has σ (a, listOf vs.toArray m)) (hl : vs.length ≤ 1048576) (h : ∀ t, k (.int (vs.length : Int) t) σ) : Sm w T c σ (call (.builtin "len") [.ref a]) k := fun _ _ H => len_list (ha.lst H) (by simp; lia) (by rw [List.size_toArray]; exact pk_now (tk := _ + 1 + 1) H (h _))
theorem sm_abs {x : Int} {t : Tok} (h : ∀ t, k (.int (x.natAbs : Int) t) σ) : Sm w T c σ (call (.builtin "abs") [.int x t]) k := fun _ _ H => PyProof.Rows.call_abs_int fun u tk => by
  rw [show (if x < 0 then -x else x) = (x.natAbs : Int) by split <;> lia]
  exact pk_now H (h u)
theorem sm_item {value slice : PySem.Expr} {a : Addr} {vs : List Value} {m i : Nat} {u : Tok} {x : Value} (ha : Has σ (a, listOf vs.toArray m)) (hs : isSl slice = false) (hi : vs[i]? = some x) (hl : i < 1048576) (h : k x σ) : Sm w T c σ (subscriptTail value slice (.ref a) (.int (i : Int) u)) k := fun _ _ H =>
  kba_turn (value' := .Name "_" ⟨0, 0, 0, 0⟩) (fun _ => rfl) (item_list (ha.lst H) (by lia) (by lia) (by simpa using hi) (pk_now H h) (sl_eq hs _ _) fun _ => rfl)
theorem sm_itemT {value slice : PySem.Expr} {a : Addr} {vs : List Value} {i : Nat} {u : Tok} {x : Value} (ha : Has σ (a, tupO vs)) (hs : isSl slice = false) (hi : vs[i]? = some x) (hl : i < 1048576) (h : k x σ) : Sm w T c σ (subscriptTail value slice (.ref a) (.int (i : Int) u)) k := fun _ _ H => by
  have hlt := (List.getElem?_eq_some_iff.mp hi).1
  refine kba_turn (value' := .Name "_" ⟨0, 0, 0, 0⟩) (fun _ => rfl) (item_tupleL (j := i) (ha.tup H) (by lia) (by lia) ?_ hi (pk_now H h) (sl_eq hs _ _) fun _ => rfl)
  unfold seqIndex?
  have h0 : ¬ ((i : Int) < 0) := by lia
  simp only [h0, if_false]
  rw [if_pos (by simp; lia)]
  simp
noncomputable def Strs : List Value → List (List Nat) → Prop
  | v :: vs, x :: xs => IsS v x ∧ Strs vs xs
  | [], [] => True
  | _, _ => False
theorem Strs.get : ∀ {vs : List Value} {xs : List (List Nat)} {i : Nat} {x : List Nat}, Strs vs xs → xs[i]? = some x → ∃ t, vs[i]? = some (.str (S x) t)
  | [], [], i, _, _, h => by simp at h
  | v :: vs, y :: ys, 0, x, hs, h => by
    obtain ⟨⟨t, rfl⟩, _⟩ := hs
    cases h; exact ⟨t, rfl⟩
  | v :: vs, y :: ys, i + 1, x, hs, h => by
    obtain ⟨t, e⟩ := Strs.get (i := i) hs.2 (by simpa using h)
    exact ⟨t, by simpa using e⟩
  | [], _ :: _, _, _, hs, _ => hs.elim
  | _ :: _, [], _, _, hs, _ => hs.elim
theorem sm_itemS {value slice : PySem.Expr} {a : Addr} {vs : List Value} {m i : Nat} {u : Tok} (xs : List (List Nat)) {x : List Nat} (ha : Has σ (a, listOf vs.toArray m)) (hx : Strs vs xs) (hs : isSl slice = false) (hi : xs[i]? = some x) (hl : i < 1048576) (h : ∀ t, k (.str (S x) t) σ) : Sm w T c σ (subscriptTail value slice (.ref a) (.int (i : Int) u)) k := by
  obtain ⟨t, e⟩ := hx.get hi
  exact sm_item ha hs e hl (h t)
theorem asg_nm (G : CxG w T kk rai c) {x : PySem.Str} {p : Pos} {v : Value} {k : Unit → St → Prop} (h : σ.put T.nm x v (k ())) : Sm w T c σ (assign (.Name x p) c.env v) k := fun _ _ H => PyProof.Rows.assign_Name (sm_store G h _ _ H)
theorem stS_mono {x : PySem.Str} {v : Value} : ∀ {nm : List PySem.Str} {ps : List (Option Value)} {p q : List (Option Value) → Prop}, (∀ r, p r → q r) → stS nm ps x v p → stS nm ps x v q
  | [], _, _, _, _, h => h
  | _ :: _, [], _, _, _, h => h
  | n :: nr, a :: pr, p, q, hh, h => by
    unfold stS at h ⊢
    split
    · rename_i e; rw [if_pos e] at h; exact hh _ h
    · rename_i e; rw [if_neg e] at h; exact stS_mono (fun r => hh (a :: r)) h
noncomputable def nmE : PySem.Expr → Option PySem.Str
  | .Name x _ => some x
  | _ => none
noncomputable def asgs (nm : List PySem.Str) : List PySem.Expr → List Value → List (Option Value) → (List (Option Value) → Prop) → Prop
  | e :: es, v :: vs, ps, k => match nmE e with
    | some x => stS nm ps x v fun ps' => asgs nm es vs ps' k
    | none => False
  | [], [], ps, k => k ps
  | _, _, _, _ => False
noncomputable def namesE : List PySem.Expr → Bool
  | [] => true
  | e :: es => (nmE e).isSome && namesE es
theorem nmE_ok {e : PySem.Expr} {x : PySem.Str} (h : nmE e = some x) : ∃ p, e = .Name x p := by
  cases e <;> cases h <;> exact ⟨_, rfl⟩
theorem namesE_ok {env : Env} : ∀ {es : List PySem.Expr}, namesE es = true → (assignEach es env).length = es.length ∧ (assignEach es env).findIdx? (fun x => x.fst) = none ∧ (assignEach es env).map (fun x => x.snd) = es.map fun e => assign e env
  | [], _ => ⟨rfl, rfl, rfl⟩
  | e :: es, h => by
    obtain ⟨h1, h2⟩ := Bool.and_eq_true_iff.mp h
    obtain ⟨x, hx⟩ := Option.isSome_iff_exists.mp h1
    obtain ⟨p, rfl⟩ := nmE_ok hx
    obtain ⟨i1, i2, i3⟩ := namesE_ok (env := env) h2
    refine ⟨congrArg (· + 1) i1, ?_, congrArg (assign (.Name x p) env :: ·) i3⟩
    show List.findIdx? (fun x => x.fst) ((false, assign (.Name x p) env) :: assignEach es env) = none
    rw [List.findIdx?_cons, i2]; rfl
theorem asgs_ok (G : CxG w T kk rai c) : ∀ {es : List PySem.Expr} {vs : List Value} {ps : List (Option Value)} {led fz : Led} {k : Unit → St → Prop}, asgs T.nm es vs ps (fun ps => k () ⟨ps, led, fz⟩) → Sm w T c ⟨ps, led, fz⟩ (assignInOrder (es.map fun e => assign e c.env) vs) k
  | [], [], _, _, _, _, h => fun _ _ H => PyProof.Rows.assignInOrder_nil (pk_now H h)
  | [], _ :: _, _, _, _, _, h => h.elim
  | _ :: _, [], _, _, _, _, h => h.elim
  | e :: es, v :: vs, ps, led, fz, k, h => by
    unfold asgs at h
    split at h
    · rename_i x hx
      obtain ⟨p, rfl⟩ := nmE_ok hx
      exact fun h0 tk H => PyProof.Rows.assignInOrder_cons ((asg_nm G (k := fun _ σ' => Sm w T c σ' (assignInOrder (es.map fun e => assign e c.env) vs) k) (stS_mono (fun r q => asgs_ok G q) h)).go H)
    · exact h.elim
theorem sm_unpackG (G : CxG w T kk rai c) {es : List PySem.Expr} {j : Nat} {p : Pos} {a : Addr} {vs : List Value} {ps : List (Option Value)} {led fz : Led} {k : Unit → St → Prop} (ha : ∀ h, Hd T c ⟨ps, led, fz⟩ h → IsTup h a vs.toArray) (hn : namesE es = true) (hl : es.length = vs.length) (h : asgs T.nm es vs ps fun ps => k () ⟨ps, led, fz⟩) :
    Sm w T c ⟨ps, led, fz⟩ (assign (.Tuple es j p) c.env (.ref a)) k := fun h0 tk H => by
  obtain ⟨i1, i2, i3⟩ := namesE_ok (env := c.env) hn
  refine unpackN_ (s := c.sh h0 tk) H.F H.N (ha _ H) G.hh (by rw [i1, hl]; simp) i2 fun h' F' N' => ?_
  rw [i3]
  exact asgs_ok G h h' tk ⟨F', N', H.D, H.Z⟩
theorem sm_unpack (G : CxG w T kk rai c) {es : List PySem.Expr} {j : Nat} {p : Pos} {a : Addr} {vs : List Value} {ps : List (Option Value)} {led fz : Led} {k : Unit → St → Prop} (ha : Has ⟨ps, led, fz⟩ (a, tupO vs)) (hn : namesE es = true) (hl : es.length = vs.length) (h : asgs T.nm es vs ps fun ps => k () ⟨ps, led, fz⟩) :
    Sm w T c ⟨ps, led, fz⟩ (assign (.Tuple es j p) c.env (.ref a)) k := sm_unpackG G (fun _ H => ha.tup H) hn hl h
theorem sm_append {a : Addr} {x : Value} {vs : List Value} {m : Nat} {A B : Led} {ps : List (Option Value)} {led fz : Led} (hl : led = A ++ (a, listOf vs.toArray m) :: B) (hz : vs.length ≤ 1000) (hA : ∀ p ∈ A, p.1 ≠ a) (hB : ∀ p ∈ B, p.1 ≠ a) (h : k .none ⟨ps, A ++ (a, listOf (vs ++ [x]).toArray (m + 1)) :: B, fz⟩) :
    Sm w T c ⟨ps, led, fz⟩ (call (.builtin "list.append") [.ref a, x]) k := fun h0 tk H => by
  have hm : (a, listOf vs.toArray m) ∈ led := by rw [hl]; exact List.mem_append_right _ (.head _)
  refine app_list (s := c.sh h0 tk) H.F H.N (List.mem_append_left _ hm) hz fun h' F' N' => pk_now (σ := ⟨ps, A ++ (a, listOf (vs ++ [x]).toArray (m + 1)) :: B, fz⟩) (h0 := h') ⟨F', N' _ fun p hp => ?_, fun p hp q hq => ?_, H.Z⟩ h
  · rcases List.mem_append.mp hp with hp | hp
    · rcases List.mem_append.mp hp with hp | hp
      · exact .inr ⟨List.mem_append_left _ (by rw [hl]; exact List.mem_append_left _ hp), hA p hp⟩
      · rcases List.mem_cons.mp hp with rfl | hp
        · exact .inl rfl
        · exact .inr ⟨List.mem_append_left _ (by rw [hl]; exact List.mem_append_right _ (.tail _ hp)), hB p hp⟩
    · exact .inr ⟨List.mem_append_right _ hp, fun e => H.D _ hm p hp e.symm⟩
  · rcases List.mem_append.mp hp with hp | hp
    · exact H.D p (by rw [hl]; exact List.mem_append_left _ hp) q hq
    · rcases List.mem_cons.mp hp with rfl | hp
      · exact H.D _ hm q hq
      · exact H.D p (by rw [hl]; exact List.mem_append_right _ (.tail _ hp)) q hq
theorem sm_chain2 (G : CxG w T kk rai c) {l r₁ r₂ : PySem.Expr} {op₁ op₂ : CmpOp} {pos : Pos} {whole : Sem Value} {kb : KB} (h : (evN w T c n).1 l σ fun a σ₁ => (evN w T c n).1 r₁ σ₁ fun b σ₂ => cmpT w T c op₁ a b σ₂ fun t σ₃ => two ((evN w T c n).1 r₂ σ₃ fun d σ₄ => cmpT w T c op₂ b d σ₄ kb) (kb false σ₃) t)
    (hm : lastMarks [op₁, op₂] [r₁, r₂] = false := by rfl) : Sm w T c σ (isTrue (.Compare l [op₁, op₂] [r₁, r₂] pos) c.env whole) kb := fun _ _ H =>
  PyProof.Rows.isTrue_chain ((ev_ok G h).run H fun _ _ _ _ H q => PyProof.Rows.test_link ((ev_ok G q).run H fun _ _ _ _ H q => (cmpT_ok q).run H fun _ _ _ _ H q => q.run H fun t _ _ _ H q => match t, q with
    | false, q => pk_now H q
    | true, q => PyProof.Rows.test_last ((ev_ok G q).run H fun _ _ _ _ H q => (cmpT_ok q).go H))) hm
section
variable {ps : List (Option Value)} {led fz : Led} {k' : Nat} {f : Addr} {args : List Value} {rai0 : Addr → Option Int → Prop}
theorem useI (G : CxG w T kk rai c) {x : Int} (C : ConH none w f k' args [] [] (fun v new => IsI v x ∧ new = []) rai0) (ret : ∀ t, k (.int x t) ⟨ps, led, fz⟩) (hrai : ∀ C code, rai0 C code → rai C code := by exact fun _ _ r => r.elim) (hk : k' ≤ kk := by decide) : Sm w T c ⟨ps, led, fz⟩ (call (.ref f) args) k :=
  use0 G C (fun v new ⟨⟨t, hv⟩, hn⟩ => by subst hv; subst hn; exact ret t) (fun _ h => nomatch h) hrai hk
theorem useS (G : CxG w T kk rai c) {x : List Nat} (C : ConH none w f k' args [] [] (fun v new => IsS v x ∧ new = []) rai0) (ret : ∀ t, k (.str (S x) t) ⟨ps, led, fz⟩) (hrai : ∀ C code, rai0 C code → rai C code := by exact fun _ _ r => r.elim) (hk : k' ≤ kk := by decide) : Sm w T c ⟨ps, led, fz⟩ (call (.ref f) args) k :=
  use0 G C (fun v new ⟨⟨t, hv⟩, hn⟩ => by subst hv; subst hn; exact ret t) (fun _ h => nomatch h) hrai hk
theorem useB (G : CxG w T kk rai c) {b : Bool} (C : ConH none w f k' args [] [] (fun v new => v = .bool b ∧ new = []) rai0) (ret : k (.bool b) ⟨ps, led, fz⟩) (hrai : ∀ C code, rai0 C code → rai C code := by exact fun _ _ r => r.elim) (hk : k' ≤ kk := by decide) : Sm w T c ⟨ps, led, fz⟩ (call (.ref f) args) k :=
  use0 G C (fun v new ⟨hv, hn⟩ => by subst hv; subst hn; exact ret) (fun _ h => nomatch h) hrai hk
theorem useR (G : CxG w T kk rai c) {fz0 : Led} {post post0 : Value → Led → Prop} {R : Flow → St → Prop} (hR : Ret post R) (C : ConH none w f k' args fz0 [] post0 rai0) (hp : ∀ v new, post0 v new → post v new) (hz : ∀ p ∈ fz0, p ∈ fz ∨ p ∈ led := by exact fun _ h => nomatch h) (hrai : ∀ C code, rai0 C code → rai C code := by exact fun _ _ r => r.elim) (hk : k' ≤ kk := by decide)
    (he : ∀ v σ, R (.ret v) σ → k v σ := by exact fun _ _ h => h) : Sm w T c ⟨ps, led, fz⟩ (call (.ref f) args) k :=
  use0 G C (fun v new p => he _ _ (hR.ret new (hp v new p) fun _ h => List.mem_append_left _ h)) hz hrai hk
end
noncomputable def FndL (f : Nat → Int) (k : KV) (vs : List Value) (σ : St) : Prop :=
  match vs with
  | [.str ⟨⟨[y]⟩⟩ _] => ∀ t, k (.int (f y) t) σ
  | _ => False
theorem FndL.ok {f : Nat → Int} {vs : List Value} (h : FndL f k vs σ) : ∃ y t, vs = [.str (S [y]) t] ∧ ∀ t, k (.int (f y) t) σ := by
  unfold FndL at h
  split at h
  · exact ⟨_, _, rfl, h⟩
  · exact h.elim
theorem sm_find (G : CxG w T kk rai c) {pl : Sem Bool} {pos : Pos} {l : List Nat} {t : Tok} {arg : PySem.Expr} {f : Nat → Int} (hf : ∀ y, idxI l y = f y) (h : evs (evN w T c n).1 [arg] σ (FndL f k)) (hs : noStar [arg] = true := by rfl) : MtP w T c pl pos (.str (S l) t) "find" [arg] σ k := fun _ _ H => by
  refine PySem.GM.find (pk_now H fun _ _ H => PyProof.Rows.callWith_method1 ((evs_ok (fun _ _ _ h => ev_ok G h) hs h).run H fun vs σ' h' tk' H' q => ?_) (noStar_cons hs) rfl)
  obtain ⟨y, t2, rfl, hk⟩ := q.ok
  refine PySem.SC.find (s := c.sh h' tk') ?_
  rw [S_find, hf]
  exact pk_now (tk := tk' + 1) H' (hk _)
theorem sm_chainV (G : CxG w T kk rai c) {l r₁ r₂ : PySem.Expr} {op₁ op₂ : CmpOp} {pos : Pos} (h : (evN w T c n).1 l σ fun a σ₁ => (evN w T c n).1 r₁ σ₁ fun b σ₂ => cmpV w T c op₁ a b σ₂ fun cv σ₃ => truV w T c cv σ₃ fun t σ₃ => two ((evN w T c n).1 r₂ σ₃ fun d σ₄ => cmpV w T c op₂ b d σ₄ k) (k cv σ₃) t)
    (hm : lastMarks [op₁, op₂] [r₁, r₂] = false := by rfl) : Sm w T c σ (eval (.Compare l [op₁, op₂] [r₁, r₂] pos) c.env) k := fun _ _ H =>
  PyProof.Rows.Compare_chain ((ev_ok G h).run H fun _ _ _ _ H q => PyProof.Rows.chain_link ((ev_ok G q).run H fun _ _ _ _ H q => (cmpV_ok q).run H fun _ _ _ _ H q => (truV_ok q).run H fun t _ _ _ H q => match t, q with
    | false, q => pk_now H q
    | true, q => PyProof.Rows.chain_last ((ev_ok G q).run H fun _ _ _ _ H q => cmpV_ok q _ _ H))) hm
theorem sm_shl {x : Int} {m : Nat} {t u : Tok} (hx : x.natAbs < 2 ^ 64) (hm : m ≤ 1000000) (h : ∀ t, k (.int (x * 2 ^ m) t) σ) : Sm w T c σ (binaryOp .LShift (.int x t) (.int (m : Int) u)) k := fun _ _ H => PyProof.Rows.lshift_int_small (by lia) (by lia) hx (pk_now (tk := _ + 1) H (h _))
noncomputable def FndC (c0 : Nat) (x : Int) (k : KV) (vs : List Value) (σ : St) : Prop :=
  match vs with
  | [.str ⟨⟨[y]⟩⟩ _] => y = c0 ∧ ∀ t, k (.int x t) σ
  | _ => False
theorem FndC.ok {c0 : Nat} {x : Int} {vs : List Value} (h : FndC c0 x k vs σ) : ∃ t, vs = [.str (S [c0]) t] ∧ ∀ t, k (.int x t) σ := by
  unfold FndC at h
  split at h
  · obtain ⟨rfl, h⟩ := h; exact ⟨_, rfl, h⟩
  · exact h.elim
theorem sm_find1 (G : CxG w T kk rai c) {pl : Sem Bool} {pos : Pos} {l : List Nat} {t : Tok} {arg : PySem.Expr} {c0 : Nat} {x : Int} (hx : idxI l c0 = x) (h : evs (evN w T c n).1 [arg] σ (FndC c0 x k)) (hs : noStar [arg] = true := by rfl) : MtP w T c pl pos (.str (S l) t) "find" [arg] σ k := fun _ _ H => by
  refine PySem.GM.find (pk_now H fun _ _ H => PyProof.Rows.callWith_method1 ((evs_ok (fun _ _ _ h => ev_ok G h) hs h).run H fun vs σ' h' tk' H' q => ?_) (noStar_cons hs) rfl)
  obtain ⟨t2, rfl, hk⟩ := q.ok
  refine PySem.SC.find (s := c.sh h' tk') ?_
  rw [S_find, hx]
  exact pk_now (tk := tk' + 1) H' (hk _)
end

end
section
open PySem PySem.W PyProof.Rows PySem.Calls PySem.Spec
noncomputable def RaiK (C : Addr) (rai : Addr → Option Int → Prop) (v : Value) (σ : St) : Prop :=
  ∃ e d t es m code, v = .ref e ∧ (e, dexc C d t) ∈ σ.led ∧ (d, dictOf es m) ∈ σ.led ∧ rai C code ∧ ∀ c0, code = some c0 → ∃ tk, getL "code" es = some (some (.int c0 tk))
section
variable {w : World} {T : Fn} {c : Cx} {kk n : Nat} {rai : Addr → Option Int → Prop} {σ : St} {k : KV} {kf : Flow → St → Prop}
theorem sm_raise (G : CxG w T kk rai c) {C : Addr} (Y : IsExc (KP w.params) C) {x : PySem.Expr} {pos : Pos} (h : (evN w T c n).1 x σ (RaiK C rai)) : Sm w T c σ (exec (.Raise (some x) none pos) c.env) kf := fun _ _ H => by
  obtain ⟨mean, mg, mb, A₀, base, B, Tp, O⟩ := G.at_
  obtain ⟨q, sc, L, fa, cd, e1, h1, h2, h3⟩ := G.env
  have ef : c.env.frame = some c.env.locals := by rw [e1]; rfl
  have ek : c.env.scope.kind = .function := by rw [e1]; exact h1
  refine raise_in Y G.X G.hh ((ev_ok G h).run H fun v σ' h' tk' H' q => ?_)
  obtain ⟨e, d, t, es, m, code, rfl, he, hd, hr, hc⟩ := q
  exact ⟨e, d, t, rfl, H'.F.keep, (H'.N _ (List.mem_append_left _ he)).1, G.rs _ code e false h' tk' hr (fly_made B H'.F H'.N ef ek (List.mem_append_left _ he) (List.mem_append_left _ hd) hc)⟩
theorem io_call (G : CxG w T kk rai c) {ps : List (Option Value)} {led fz : Led} {c0 : Int} {t1 t2 : Tok} {x : PySem.Str} (hr : rai 82 (some c0)) (hk : 4 ≤ kk := by decide) : Sm w T c ⟨ps, led, fz⟩ (call (.ref 82) [.int c0 t1, .str x t2]) (RaiK 82 rai) := by
  refine use0 G (io_fault_con w none _ _ c0 x (isI rfl) ⟨_, rfl⟩) ?_ (fun _ h => nomatch h) (fun _ _ r => r.elim) hk
  rintro v new ⟨e, T, d, es, n, tc, rfl, rfl, hc⟩
  exact ⟨e, d, T, es, n, some c0, rfl, .head _, .tail _ (.head _), hr, fun c1 q => ⟨tc, (Option.some.inj q) ▸ hc⟩⟩
theorem run_call (G : CxG w T kk rai c) {ps : List (Option Value)} {led fz : Led} {t2 : Tok} {x : PySem.Str} (hr : rai 44 none) (hk : 3 ≤ kk := by decide) : Sm w T c ⟨ps, led, fz⟩ (call (.ref 44) [.str x t2]) (RaiK 44 rai) := by
  refine use0 G (run_fault_con w none _ x ⟨_, rfl⟩) ?_ (fun _ h => nomatch h) (fun _ _ r => r.elim) hk
  rintro v new ⟨e, T, d, es, n, rfl, rfl⟩
  exact ⟨e, d, T, es, n, none, rfl, .head _, .tail _ (.head _), hr, fun c1 q => nomatch q⟩
theorem sm_divmod {ps : List (Option Value)} {led fz : Led} {x y : Int} {t1 t2 : Tok} (hy : 0 < y) (h2 : y.natAbs.log2 < 9000) (h : ∀ a t u, k (.ref a) ⟨ps, (a, tupO [.int (x / y) t, .int (x % y) u]) :: led, fz⟩) : Sm w T c ⟨ps, led, fz⟩ (call (.builtin "divmod") [.int x t1, .int y t2]) k := fun h0 tk H => by
  have hn := next_free H.F
  refine divmod_N (s := c.sh h0 tk) H.F H.N (Int.ne_of_gt hy) (fun h' F' N' => ?_) (.inl (PyProof.noPylong_of_log2 h2))
  rw [Int.fdiv_eq_ediv_of_nonneg _ (Int.le_of_lt hy), Int.fmod_eq_emod_of_nonneg _ (Int.le_of_lt hy)] at N'
  exact pk_now (σ := ⟨ps, _ :: led, fz⟩) (h0 := h') (tk := tk + 1 + 1) ⟨F', N', List.forall_mem_cons.mpr ⟨fun q hq => (H.new q (List.mem_append_right _ hq)).symm, H.D⟩, H.Z⟩ (h _ _ _)
end

end
section
open PySem PySem.W PyProof.Rows PySem.Calls PySem.Spec
noncomputable def getOK (K : Frag) (C : Addr) (name : PySem.Str) : Bool := plainGet K C name && hasDictIn K C && (match findIn K (.ref C) name with
  | some a => noGet K a
  | none => false)
noncomputable def setOK (K : Frag) (C : Addr) (name : PySem.Str) : Bool := plainOver K C && hasDictIn K C && (match findIn K (.ref C) (PySem.Str.ofString "__setattr__") with
  | some (some (.builtin id)) => id == "object.__setattr__"
  | _ => false) && (match takerIn K C name with
  | some none => true
  | _ => false)
noncomputable def methOK (K : Frag) (C : Addr) (name : PySem.Str) (f : Addr) : Bool := plainGet K C name && isFn K (.ref f) && (match findIn K (.ref C) name with
  | some (some (.ref g)) => g == f
  | _ => false)
noncomputable def lenB {α : Type} : List α → Nat → Bool
  | [], _ => true
  | _ :: r, n + 1 => lenB r n
  | _ :: _, 0 => false
theorem lenB_ok {α : Type} : ∀ {l : List α} {n : Nat}, lenB l n = true → l.length ≤ n
  | [], _, _ => Nat.zero_le _
  | _ :: r, n + 1, h => Nat.succ_le_succ (lenB_ok (l := r) h)
  | _ :: _, 0, h => nomatch h
noncomputable def sigO (o : Obj) : Nat × Nat := (match o.data with
  | .dict _ n => n + 1
  | _ => 0, match o.cls with
  | .ref a => a + 1
  | _ => 0)
noncomputable def offL (l l' : Led) : Bool := l.all fun p => l'.all fun q => sigO p.2 != sigO q.2
noncomputable def sigN (o : Obj) : Nat := match o.data with
  | .dict _ n => n + 1
  | _ => 0
noncomputable def offB (l : Led) (o : Obj) : Bool := l.all fun p => sigN p.2 != sigN o
section
variable {w : World} {T : Fn} {c : Cx} {kk n : Nat} {rai : Addr → Option Int → Prop} {k : KV} {kf : Flow → St → Prop} {ps : List (Option Value)} {led fz : Led}
theorem get_at (G : CxG w T kk rai c) {x C dx : Addr} {es : List DictEntry} {m : Nat} {name : PySem.Str} {v : Value} (hx : Has ⟨ps, led, fz⟩ (x, instObj C dx)) (hd : Has ⟨ps, led, fz⟩ (dx, dictOf es m)) (hK : getOK (KP w.params) C name = true) (hv : getL name es = some (some v)) (hh : handedIn v = true) (h : k v ⟨ps, led, fz⟩) :
    Sm w T c ⟨ps, led, fz⟩ (getAttr (.ref x) name true) k := fun h0 tk H => by
  obtain ⟨h1, h2⟩ := Bool.and_eq_true_iff.mp hK
  obtain ⟨h1, h3⟩ := Bool.and_eq_true_iff.mp h1
  split at h2
  · rename_i a e
    exact get_own (s := c.sh h0 tk) H.F G.X ⟨hx.at H, rfl, rfl, hd.at H⟩ h1 h3 e h2 hv hh (pk_now (tk := tk + 1) H h)
  · exact nomatch h2
theorem set_at' (G : CxG w T kk rai c) {x C dx : Addr} {es : List DictEntry} {m : Nat} {name : PySem.Str} {v : Value} {k : Unit → St → Prop} (A : Led) {B : Led} (hl : led = A ++ (dx, dictOf es m) :: B) (hx : Has ⟨ps, led, fz⟩ (x, instObj C dx)) (hK : setOK (KP w.params) C name = true) (hg : (getL name es).isSome = true)
    (hA : ∀ p ∈ A, p.1 ≠ dx) (hB : ∀ p ∈ B, p.1 ≠ dx) (hn : ∀ tk, lenB (putL name (PyData.keyHash w.params name) (.str name tk) v es) 50 = true)
    (h : ∀ tk, k () ⟨ps, A ++ (dx, dictOf (putL name (PyData.keyHash w.params name) (.str name tk) v es) (putN name es m)) :: B, fz⟩) : Sm w T c ⟨ps, led, fz⟩ (setAttr (.ref x) name v) k := fun h0 tk H => by
  obtain ⟨h1, h2⟩ := Bool.and_eq_true_iff.mp hK
  obtain ⟨h1, h3⟩ := Bool.and_eq_true_iff.mp h1
  obtain ⟨h1, h4⟩ := Bool.and_eq_true_iff.mp h1
  have e3 : findIn (KP w.params) (.ref C) (PySem.Str.ofString "__setattr__") = some (some (.builtin "object.__setattr__")) := by
    split at h3
    · rename_i id e; rw [e, eq_of_beq h3]
    · exact nomatch h3
  have e2 : takerIn (KP w.params) C name = some none := by
    split at h2
    · assumption
    · exact nomatch h2
  have hm : (dx, dictOf es m) ∈ led := by rw [hl]; exact List.mem_append_right _ (.head _)
  have U : ∀ o', Upd dx (dictOf es m) o' (led ++ c.kp) ((A ++ (dx, o') :: B) ++ c.kp) := fun o' => by
    rw [hl, List.append_assoc, List.append_assoc]
    have hk : ∀ p ∈ B ++ c.kp, p.1 ≠ dx := fun p hp => (List.mem_append.mp hp).elim (hB p) fun hp e => H.D _ hm p hp e.symm
    clear hl hm hB hx H h
    induction A with
    | nil => exact .head hk
    | cons a r ih => exact .tail (hA a (.head _)) (ih fun p hp => hA p (.tail _ hp))
  refine set_dict (s := c.sh h0 tk) H.F G.X H.N ⟨hx.at H, rfl, rfl, (H.N _ (List.mem_append_left _ hm)).1⟩ rfl e3 h1 e2 h4 hg rfl (U _) (Nat.le_trans (lenB_ok (hn _)) (by decide)) fun h' F' N' => pk_now (σ := ⟨ps, A ++ (dx, dictOf (putL name (PyData.keyHash w.params name) (.str name (tk + 1)) v es) (putN name es m)) :: B, fz⟩) (h0 := h') (tk := tk + 2) ⟨F', N', fun p hp q hq => ?_, H.Z⟩ (h _)
  rcases List.mem_append.mp hp with hp | hp
  · exact H.D p (by rw [hl]; exact List.mem_append_left _ hp) q hq
  · rcases List.mem_cons.mp hp with rfl | hp
    · exact H.D _ hm q hq
    · exact H.D p (by rw [hl]; exact List.mem_append_right _ (.tail _ hp)) q hq
theorem set_at (G : CxG w T kk rai c) {x C dx : Addr} {es : List DictEntry} {m : Nat} {name : PySem.Str} {v : Value} {k : Unit → St → Prop} (A : Led) {B : Led} (hl : led = A ++ (dx, dictOf es m) :: B) (hx : Has ⟨ps, led, fz⟩ (x, instObj C dx)) (hK : setOK (KP w.params) C name = true) (hg : (getL name es).isSome = true)
    (ho : offB (A ++ B) (dictOf es m) = true) (hn : ∀ tk, lenB (putL name (PyData.keyHash w.params name) (.str name tk) v es) 50 = true)
    (h : ∀ tk, k () ⟨ps, A ++ (dx, dictOf (putL name (PyData.keyHash w.params name) (.str name tk) v es) (putN name es m)) :: B, fz⟩) : Sm w T c ⟨ps, led, fz⟩ (setAttr (.ref x) name v) k := fun h0 tk H => by
  have hm : (dx, dictOf es m) ∈ led := by rw [hl]; exact List.mem_append_right _ (.head _)
  have off : ∀ p ∈ A ++ B, p ∈ led → p.1 ≠ dx := fun p hp hq e => by
    have h1 := (H.N p (List.mem_append_left _ hq)).1
    have h2 := (H.N _ (List.mem_append_left _ hm)).1
    dsimp only at h2
    rw [e, h2] at h1
    have h3 := List.all_eq_true.mp ho p hp
    rw [← Option.some.inj h1] at h3
    simp at h3
  exact set_at' G A hl hx hK hg (fun p hp => off p (List.mem_append_left _ hp) (by rw [hl]; exact List.mem_append_left _ hp)) (fun p hp => off p (List.mem_append_right _ hp) (by rw [hl]; exact List.mem_append_right _ (.tail _ hp))) hn h h0 tk H
theorem meth_at (G : CxG w T kk rai c) {x C dx f : Addr} {es : List DictEntry} {m : Nat} {name : PySem.Str} {pl : Sem Bool} {pos : Pos} {args : List PySem.Expr} (hx : Has ⟨ps, led, fz⟩ (x, instObj C dx)) (hd : Has ⟨ps, led, fz⟩ (dx, dictOf es m)) (hK : methOK (KP w.params) C name f = true) (hv : getL name es = some none) (hf : f ∈ T.fn)
    (h : evs (evN w T c n).1 args ⟨ps, led, fz⟩ fun vs σ' => Sm w T c σ' (call (.ref f) (.ref x :: vs)) k) (hs : noStar args = true := by rfl) : MtP w T c pl pos (.ref x) name args ⟨ps, led, fz⟩ k := fun h0 tk H => by
  obtain ⟨h1, h2⟩ := Bool.and_eq_true_iff.mp hK
  obtain ⟨h1, h3⟩ := Bool.and_eq_true_iff.mp h1
  have e2 : findIn (KP w.params) (.ref C) name = some (some (.ref f)) := by
    split at h2
    · rename_i g e; rw [e, eq_of_beq h2]
    · exact nomatch h2
  refine method_inst (s := c.sh h0 tk) H.F G.X ⟨hx.at H, rfl, rfl, hd.at H⟩ h1 e2 h3 hv (pk_now H fun h0 tk H => ?_)
  cases args with
  | nil => exact callWith_K0 (G.X.keeps H.F.keep) (G.fn _ hf) (h _ _ H)
  | cons e r => exact callWith_K G.X (G.fn _ hf) ((evs_ok (fun _ _ _ h => ev_ok G h) hs h).run H fun _ _ _ _ H' q => ⟨G.X.keeps H'.F.keep, q _ _ H'⟩) (noStar_cons hs) (noStar_any (Bool.and_eq_true_iff.mp hs).2)
theorem in_K (G : CxG w T kk rai c) {σ : St} {a : Addr} {dd : Option Addr} {items : Array Value} {m : Nat} {sl : Array (Option Value)} {x : PySem.Str} {t : Tok} {b : Bool} (hk : (KP w.params).lookup a = some ⟨.type "tuple", dd, .seq items m, sl⟩) (hall : allS items = true) (hb : items.toList.any (eqS x) = b) (h : k (.bool b) σ) : Sm w T c σ (compareOp .In (.str x t) (.ref a)) k :=
  fun _ _ H => in_tupS (tupK G.X H.F hk) hall hb (pk_now H h)
theorem notin_K (G : CxG w T kk rai c) {σ : St} {a : Addr} {dd : Option Addr} {items : Array Value} {m : Nat} {sl : Array (Option Value)} {x : PySem.Str} {t : Tok} {b : Bool} (hk : (KP w.params).lookup a = some ⟨.type "tuple", dd, .seq items m, sl⟩) (hall : allS items = true) (hb : items.toList.any (eqS x) = b) (h : k (.bool (!b)) σ) : Sm w T c σ (compareOp .NotIn (.str x t) (.ref a)) k :=
  fun _ _ H => notin_tupS (tupK G.X H.F hk) hall hb (pk_now H h)
theorem off_led {h0 : Heap} (H : Hd T c ⟨ps, led, fz⟩ h0) {pre rest : Led} (ho : offL rest pre = true) (hl : ∀ p ∈ pre ++ rest, p ∈ led) : ∀ p ∈ rest, p.1 ∉ ads pre := fun p hp hb => by
  obtain ⟨q, hq, e⟩ := List.mem_map.mp hb
  have h1 := (H.N p (List.mem_append_left _ (hl p (List.mem_append_right _ hp)))).1
  have h2 := (H.N q (List.mem_append_left _ (hl q (List.mem_append_left _ hq)))).1
  rw [← e, h2] at h1
  have h3 := List.all_eq_true.mp (List.all_eq_true.mp ho p hp) q hq
  rw [← Option.some.inj h1] at h3
  simp at h3
theorem useO (G : CxG w T kk rai c) {k' : Nat} {f : Addr} {args : List Value} {fz0 pre : Led} {post : Value → Led → Prop} {rai0 : Addr → Option Int → Prop} (C : ConH none w f k' args fz0 pre post rai0) (rest : Led) (ho : offL rest pre = true)
    (hl : ∀ p ∈ pre ++ rest, p ∈ led) (hz : ∀ p ∈ fz0, p ∈ fz ∨ p ∈ rest) (ret : ∀ v new, post v new → k v ⟨ps, new ++ rest, fz⟩) (hrai : ∀ C code, rai0 C code → rai C code := by exact fun _ _ r => r.elim) (hk : k' ≤ kk := by decide) : Sm w T c ⟨ps, led, fz⟩ (call (.ref f) args) k := fun h0 tk H =>
  use G C rest hl hz (off_led H ho hl) (fun v new p _ => ret v new p) hrai hk h0 tk H
theorem useA (G : CxG w T kk rai c) {k' : Nat} {f : Addr} {args : List Value} {fz0 pre : Led} {post : Value → Led → Prop} {rai0 : Addr → Option Int → Prop} (C : ConH none w f k' args fz0 pre post rai0) (hz : ∀ p ∈ fz0, p ∈ fz) (ret : ∀ v new, post v new → k v ⟨ps, new, fz⟩) (hl : ∀ p ∈ pre, p ∈ led := by exact fun _ h => h) (hrai : ∀ C code, rai0 C code → rai C code := by exact fun _ _ r => r.elim) (hk : k' ≤ kk := by decide) : Sm w T c ⟨ps, led, fz⟩ (call (.ref f) args) k :=
  use G C [] (fun p h => hl p (by rwa [List.append_nil] at h)) (fun p h => .inl (hz p h)) (fun _ h => nomatch h) (fun v new p _ => by rw [List.append_nil]; exact ret v new p) hrai hk
theorem sm_inS {σ : St} {x y : PySem.Str} {t u : Tok} (h1 : k (.bool true) σ) (h2 : k (.bool false) σ) : Sm w T c σ (compareOp .In (.str y t) (.str x u)) k := fun _ _ H => SB.contains (pk_now H (by
  cases Txt.contains x y
  · exact h2
  · exact h1))
end

end
section
open PySem PySem.W PyProof.Rows PySem.Calls PySem.Spec
section
variable {w : World} {T : Fn} {c : Cx} {kk n : Nat} {rai : Addr → Option Int → Prop} {k : KV} {kf : Flow → St → Prop} {ps : List (Option Value)} {led fz : Led}
theorem meth_own (G : CxG w T kk rai c) {x C dx f : Addr} {es : List DictEntry} {m : Nat} {name : PySem.Str} {pl : Sem Bool} {pos : Pos} {args : List PySem.Expr} (hx : Has ⟨ps, led, fz⟩ (x, instObj C dx)) (hd : Has ⟨ps, led, fz⟩ (dx, dictOf es m)) (hK : getOK (KP w.params) C name = true) (hN : findIn (KP w.params) (.ref C) name = some none) (hv : getL name es = some (some (.ref f))) (hf : f ∈ T.fn)
    (h : evs (evN w T c n).1 args ⟨ps, led, fz⟩ fun vs σ' => Sm w T c σ' (call (.ref f) vs) k) (hne : args ≠ []) (hs : noStar args = true := by rfl) : MtP w T c pl pos (.ref x) name args ⟨ps, led, fz⟩ k := fun h0 tk H => by
  obtain ⟨h1, h2⟩ := Bool.and_eq_true_iff.mp hK
  obtain ⟨h1, h3⟩ := Bool.and_eq_true_iff.mp h1
  rw [hN] at h2
  refine method_usual (s := c.sh h0 tk) (od := some (dictOf es m)) (G.X.keeps H.F.keep) ⟨hx.at H, rfl, rfl, hd.at H⟩ (plainGet_of h1).1 (plainGet_of h1).2 hN rfl ?_
  refine get_own (s := c.sh h0 tk) H.F G.X ⟨hx.at H, rfl, rfl, hd.at H⟩ h1 h3 hN h2 hv rfl (pk_now (tk := tk + 1) H fun h0 tk H => ?_)
  cases args with
  | nil => exact absurd rfl hne
  | cons e r => exact callWith_K G.X (G.fn _ hf) ((evs_ok (fun _ _ _ h => ev_ok G h) hs h).run H fun _ _ _ _ H' q => ⟨G.X.keeps H'.F.keep, q _ _ H'⟩) (noStar_cons hs) (noStar_any (Bool.and_eq_true_iff.mp hs).2)
theorem app_at (G : CxG w T kk rai c) {a : Addr} {vs : List Value} {m : Nat} {pl : Sem Bool} {pos : Pos} {arg : PySem.Expr} (hm : (a, listOf vs.toArray m) ∈ led) (h : evs (evN w T c n).1 [arg] ⟨ps, led, fz⟩ fun xs σ' => Sm w T c σ' (call (.builtin "list.append") (.ref a :: xs)) k) (hs : noStar [arg] = true := by rfl) :
    MtP w T c pl pos (.ref a) "append" [arg] ⟨ps, led, fz⟩ k := fun h0 tk H =>
  listMethod_K (s := c.sh h0 tk) H.N (List.mem_append_left _ hm) PySem.F.slot_list_append PySem.F.type_list_append (pk_now H fun h0 tk H => PyProof.Rows.callWith_method1 ((evs_ok (fun _ _ _ h => ev_ok G h) hs h).run H fun _ _ _ _ H' q => q _ _ H') (noStar_cons hs) rfl)
theorem asg_at (G : CxG w T kk rai c) {σ : St} {o : PySem.Expr} {name : PySem.Str} {p : Pos} {v : Value} {k : Unit → St → Prop} (h : Sm w T c σ (eval o c.env) fun ov σ₁ => Sm w T c σ₁ (setAttr ov name v) k) : Sm w T c σ (assign (.Attribute o name p) c.env v) k := fun h0 tk H Γ p hΓ => by
  simp only [assign_Attribute, Sem.wp_bind', Sem.wp_holding, Sem.wp_cmd_standAt, Sem.wp_release]
  exact Sem.wp_mono _ Γ _ (fun ov _ s₂ h₂ => h₂ Γ _ hΓ) (fun _ _ _ h' => h') _ _ ((h.run H fun _ _ _ _ H q => q _ _ H) Γ _ hΓ)
theorem sm_unpack2 (G : CxG w T kk rai c) {o1 o2 : PySem.Expr} {n1 n2 : PySem.Str} {p1 p2 p : Pos} {j : Nat} {a : Addr} {v1 v2 : Value} {k : Unit → St → Prop} (ha : Has ⟨ps, led, fz⟩ (a, tupO [v1, v2]))
    (h : (evN w T c n).1 o1 ⟨ps, led, fz⟩ fun ov σ₁ => Sm w T c σ₁ (setAttr ov n1 v1) fun _ σ₂ => (evN w T c n).1 o2 σ₂ fun ov σ₃ => Sm w T c σ₃ (setAttr ov n2 v2) k) :
    Sm w T c ⟨ps, led, fz⟩ (assign (.Tuple [.Attribute o1 n1 p1, .Attribute o2 n2 p2] j p) c.env (.ref a)) k := fun h0 tk H => by
  refine unpackN_ (s := c.sh h0 tk) H.F H.N (ha.tup H) G.hh rfl rfl fun h' F' N' => ?_
  have q2 : ∀ σ, ((evN w T c n).1 o2 σ fun ov σ₃ => Sm w T c σ₃ (setAttr ov n2 v2) k) → Sm w T c σ (assignInOrder [assign (.Attribute o2 n2 p2) c.env] [v2]) k := fun σ q h1 tk1 H1 =>
    PyProof.Rows.assignInOrder_cons (((asg_at G (p := p2) (k := fun _ σ' => Sm w T c σ' (assignInOrder [] []) k) (sm_mono (ev_ok G q) fun _ _ q => sm_mono q fun _ _ q h2 tk2 H2 => PyProof.Rows.assignInOrder_nil (pk_now H2 q)))).go H1)
  exact PyProof.Rows.assignInOrder_cons ((asg_at G (p := p1) (k := fun _ σ' => Sm w T c σ' (assignInOrder [assign (.Attribute o2 n2 p2) c.env] [v2]) k) (sm_mono (ev_ok G h) fun _ _ q => sm_mono q fun _ σ' q => q2 σ' q)).go (⟨F', N', H.D, H.Z⟩ : Hd T c ⟨ps, led, fz⟩ h'))
noncomputable def key1 (o : Obj) : List Nat := match o.data with
  | .dict es _ => match es[0]? with
    | some e => match e.key with
      | .str ⟨⟨l⟩⟩ _ => 0 :: l
      | _ => [1]
    | none => [2]
  | _ => []
noncomputable def offK (l : Led) (o : Obj) : Bool := l.all fun p => key1 p.2 != key1 o
theorem set_atK (G : CxG w T kk rai c) {x C dx : Addr} {es : List DictEntry} {m : Nat} {name : PySem.Str} {v : Value} {k : Unit → St → Prop} (A : Led) {B : Led} (hl : led = A ++ (dx, dictOf es m) :: B) (hx : Has ⟨ps, led, fz⟩ (x, instObj C dx)) (hK : setOK (KP w.params) C name = true) (hg : (getL name es).isSome = true)
    (ho : offK (A ++ B) (dictOf es m) = true) (hn : ∀ tk, lenB (putL name (PyData.keyHash w.params name) (.str name tk) v es) 50 = true)
    (h : ∀ tk, k () ⟨ps, A ++ (dx, dictOf (putL name (PyData.keyHash w.params name) (.str name tk) v es) (putN name es m)) :: B, fz⟩) : Sm w T c ⟨ps, led, fz⟩ (setAttr (.ref x) name v) k := fun h0 tk H => by
  have hm : (dx, dictOf es m) ∈ led := by rw [hl]; exact List.mem_append_right _ (.head _)
  have off : ∀ p ∈ A ++ B, p ∈ led → p.1 ≠ dx := fun p hp hq e => by
    have h1 := (H.N p (List.mem_append_left _ hq)).1
    have h2 := (H.N _ (List.mem_append_left _ hm)).1
    dsimp only at h2
    rw [e, h2] at h1
    have h3 := List.all_eq_true.mp ho p hp
    rw [← Option.some.inj h1] at h3
    simp at h3
  exact set_at' G A hl hx hK hg (fun p hp => off p (List.mem_append_left _ hp) (by rw [hl]; exact List.mem_append_left _ hp)) (fun p hp => off p (List.mem_append_right _ hp) (by rw [hl]; exact List.mem_append_right _ (.tail _ hp))) hn h h0 tk H
theorem sm_know {α : Type} {σ : St} {P : Prop} {t : Sem α} {k : α → St → Prop} (h : ∀ h0, Hd T c σ h0 → P) (q : P → Sm w T c σ t k) : Sm w T c σ t k := fun h0 tk H => q (h h0 H) h0 tk H
noncomputable def notT (o : Obj) : Bool := match o.cls with
  | .type id => id != "tuple"
  | _ => true
theorem useX (G : CxG w T kk rai c) {k' : Nat} {f : Addr} {args : List Value} {fz0 pre : Led} {post : Value → Led → Prop} {rai0 : Addr → Option Int → Prop} (C : ConH none w f k' args fz0 pre post rai0) (rest ex : Led) (ho : offL rest pre = true) (hx : ∀ p ∈ ex, p.2.cls = .type "tuple") (hp : (pre.all fun q => notT q.2) = true)
    (hl : ∀ p ∈ pre ++ (rest ++ ex), p ∈ led) (hz : ∀ p ∈ fz0, p ∈ fz ∨ p ∈ rest ++ ex) (ret : ∀ v new, post v new → k v ⟨ps, new ++ (rest ++ ex), fz⟩) (hrai : ∀ C code, rai0 C code → rai C code := by exact fun _ _ r => r.elim) (hk : k' ≤ kk := by decide) : Sm w T c ⟨ps, led, fz⟩ (call (.ref f) args) k := fun h0 tk H => by
  refine use G C (rest ++ ex) hl hz (fun p hp2 hb => ?_) (fun v new p _ => ret v new p) hrai hk h0 tk H
  obtain ⟨q, hq, e⟩ := List.mem_map.mp hb
  have h1 := (H.N p (List.mem_append_left _ (hl p (List.mem_append_right _ hp2)))).1
  have h2 := (H.N q (List.mem_append_left _ (hl q (List.mem_append_left _ hq)))).1
  rw [← e, h2] at h1
  have e2 := Option.some.inj h1
  rcases List.mem_append.mp hp2 with hp2 | hp2
  · have h3 := List.all_eq_true.mp (List.all_eq_true.mp ho p hp2) q hq
    rw [← e2] at h3
    simp at h3
  · have h3 := List.all_eq_true.mp hp q hq
    have h4 := hx p hp2
    rw [← e2] at h4
    unfold notT at h3
    rw [h4] at h3
    exact absurd h3 (by decide)
theorem sm_appendX {a : Addr} {x : Value} {vs : List Value} {m : Nat} (rest : Led) (hl : ∀ p ∈ (a, listOf vs.toArray m) :: rest, p ∈ led) (hz : vs.length ≤ 1000) (ho : ∀ p ∈ rest, p.1 ≠ a ∨ p.2.cls ≠ .type "list") (h : k .none ⟨ps, (a, listOf (vs ++ [x]).toArray (m + 1)) :: rest, fz⟩) :
    Sm w T c ⟨ps, led, fz⟩ (call (.builtin "list.append") [.ref a, x]) k := fun h0 tk H => by
  have H' : Hd T c ⟨ps, (a, listOf vs.toArray m) :: rest, fz⟩ h0 := ⟨H.F, fun p hp => H.N p ((List.mem_append.mp hp).elim (fun q => List.mem_append_left _ (hl p q)) fun q => List.mem_append_right _ q), fun p hp => H.D p (hl p hp), H.Z⟩
  refine sm_append (A := []) (B := rest) rfl hz (fun _ h => nomatch h) (fun p hp e => ?_) h h0 tk H'
  rcases ho p hp with q | q
  · exact q e
  · have h1 := (H'.N p (List.mem_append_left _ (.tail _ hp))).1
    have h2 := (H'.N _ (List.mem_append_left _ (.head _))).1
    dsimp only at h2
    rw [e, h2] at h1
    exact q (congrArg Obj.cls (Option.some.inj h1)).symm
theorem sm_itemZ {σ : St} {value slice : PySem.Expr} {a : Addr} {vs : List Value} {m : Nat} {z : Int} (i : Nat) {u : Tok} {x : Value} (hz : z = i) (ha : Has σ (a, listOf vs.toArray m)) (hs : isSl slice = false) (hi : vs[i]? = some x) (hl : i < 1048576) (h : k x σ) : Sm w T c σ (subscriptTail value slice (.ref a) (.int z u)) k := hz ▸ sm_item ha hs hi hl h
theorem two_by {a b : Prop} : ∀ {d : Bool}, (d = true → a) → (d = false → b) → two a b d
  | true, h, _ => h rfl
  | false, _, h => h rfl
end

end
section
open PySem PySem.W PyProof.Rows PySem.Calls PySem.Spec
theorem fr_hide {g h : Heap} {L : Addr} {m : PySem.Str → Option Value} {led pre : Led} (F : Fr g L h m) (N : News g L h led) (hp : ∀ p ∈ pre, p ∈ led) : Fr g L (hideAll h (ads pre)) m := by
  have nm : ∀ b o, g.get? b = some o → b ∉ ads pre := fun b o e q => by
    obtain ⟨p, hq, rfl⟩ := List.mem_map.mp q
    rw [(N p (hp p hq)).2.2] at e; cases e
  obtain ⟨oL, a1, a2, hL, a3⟩ := F.ns
  refine ⟨⟨oL, a1, a2, hideAll_get _ hL fun q => ?_, a3⟩, fun b o e => hideAll_get _ (F.keep b o e) (nm b o e), F.above⟩
  obtain ⟨p, hq, e⟩ := List.mem_map.mp q
  exact (N p (hp p hq)).2.1 e
section
variable {w : World} {T : Fn} {c : Cx} {kk n : Nat} {rai : Addr → Option Int → Prop} {σ : St} {k : KV} {kf : Flow → St → Prop}
theorem glob_on (G : CxG w T kk rai c) {A : Around} {E : Value → Shared → Prop} {mean : ExcName → Option Value} {mg mb : PySem.Str → Option Value} {x : PySem.Str} {v : Value} {pos : Pos} {g h m tk} {Q : Value → Shared → Prop} (F : Fr g c.env.locals h m) (X : (KP w.params).In g) (Tp : Top VW (looseW VW []) mean mg mb g)
    (hv : (x, v) ∈ T.gl) (q : Q v (c.sh h tk)) : wpAny (MD w) A (eval (.Name x pos) c.env) Q E (c.sh h tk) := by
  obtain ⟨q0, sc, L, f, cd, e, h1, h2, h3⟩ := G.env
  rw [e] at F ⊢
  rcases G.gl _ hv with g1 | ⟨g1, g2, g3⟩
  · exact nameX_K (cl := []) F X (topRead_of Tp) g1 q h1 (h3 _ hv) (G.dbg.2 _ hv)
  · exact nameX_B (cl := []) F X (topRead_of Tp) g1 g2 g3 q h1 (h3 _ hv) (G.dbg.2 _ hv)
noncomputable def Cx.to (c : Cx) (E : Value → Shared → Prop) : Cx := { c with E := E }
theorem CxG.to (G : CxG w T kk rai c) (E : Value → Shared → Prop) : CxG w T kk (fun _ _ => False) (c.to E) := { G with rs := fun _ _ _ _ _ _ r _ => r.elim }
theorem CxG.ef (G : CxG w T kk rai c) : c.env.frame = some c.env.locals := by
  obtain ⟨q, sc, L, fa, cd, e, h1, h2, h3⟩ := G.env
  rw [e]; rfl
theorem CxG.ek (G : CxG w T kk rai c) : c.env.scope.kind = .function := by
  obtain ⟨q, sc, L, fa, cd, e, h1, h2, h3⟩ := G.env
  rw [e]; exact h1
theorem use_try (G : CxG w T kk rai c) {ps : List (Option Value)} {led frz : Led} {k' : Nat} {f : Addr} {args : List Value} {fz pre : Led} {post : Value → Led → Prop} {rai0 : Addr → Option Int → Prop} (C : ConH none w f k' args fz pre post rai0) (rest : Led) (hl : ∀ p ∈ pre ++ rest, p ∈ led) (hz : ∀ p ∈ fz, p ∈ frz ∨ p ∈ rest) (hr : ∀ h, Hd T c ⟨ps, led, frz⟩ h → ∀ p ∈ rest, p.1 ∉ ads pre)
    (ret : ∀ v new, post v new → k v ⟨ps, new ++ rest, frz⟩)
    (hrai : ∀ C code e h1 h' tk', rai0 C code → Fr c.g c.env.locals h1 (lk T.nm ps) → Fly (hideAll c.g (frs (c.env :: c.outer))) c.g (c.env :: c.outer) C code e true h' → h1.UpToSlots h' → c.E (.ref e) (c.sh h' tk')) (hk : k' ≤ kk := by decide) :
    Sm w T c ⟨ps, led, frz⟩ (call (.ref f) args) k := fun h tk H => by
  refine nnOf fun nO => ?_
  obtain ⟨mean, mg, mb, A₀, base, B, Tp, O⟩ := G.at_ <;> (refine nO ?_; clear nO)
  have hd := G.dep
  have hu := G.un
  have sub : ∀ p ∈ pre ++ (rest ++ c.kp), p ∈ led ++ c.kp := fun p q => by
    rw [← List.append_assoc] at q
    exact (List.mem_append.mp q).elim (fun q => List.mem_append_left _ (hl p q)) (List.mem_append_right _)
  have hp : ∀ p ∈ pre, p ∈ led := fun p q => hl p (List.mem_append_left _ q)
  have S : Site w mean mg mb k' c.A A₀ base c.env c.outer (c.sh h tk) c.g c.env.locals (lk T.nm ps) := ⟨B, G.fr, G.ef, G.ek, H.F, G.X, Tp, by lia, by lia, O⟩
  refine (usesZ S G.hh (news_sub H.N sub) rfl (rest := rest ++ c.kp) (fun p q => (hz p q).imp (H.Z p) (List.mem_append_left _)) (fun p q => ?_) (fun v new h' tk' F' N' pv hf => ?_) (fun C code e h' tk' x y r => hrai C code e _ h' tk' r (fr_hide H.F H.N fun p q => List.mem_append_left _ (hp p q)) x y)).go _ _ C
  · rcases List.mem_append.mp q with q | q
    · exact hr h H p q
    · intro hb
      obtain ⟨p', hp', e'⟩ := List.mem_map.mp hb
      exact H.D p' (hp p' hp') p q e'
  · refine pk_now (σ := ⟨ps, new ++ rest, frz⟩) ⟨F', by rw [List.append_assoc]; exact N', fun p hp' q hq => ?_, H.Z⟩ (ret v new pv)
    rcases List.mem_append.mp hp' with hp' | hp'
    · rcases hf p hp' with y | y
      · obtain ⟨p2, hp2, e'⟩ := List.mem_map.mp y
        rw [← e']; exact H.D p2 (hp p2 hp2) q hq
      · exact fun e' => y q (List.mem_append_right _ (List.mem_append_right _ hq)) e'.symm
    · exact H.D p (hl p (List.mem_append_right _ hp')) q hq
theorem raise_io_on (G : CxG w T kk rai c) {mean : ExcName → Option Value} {mg mb : PySem.Str → Option Value} {A₀ : Around} {base g4 h4 : Heap} {C e d : Addr} {m : PySem.Str → Option Value} {oe : Obj} {vs : Array Value} {es : List DictEntry} {nn : Nat} (O : OnBase w mean mg mb base)
    (H : Hand w A₀ base c.g c.env c.outer c.env.locals C e m none mean mg mb h4 g4 oe d vs es nn) {xN txt : PySem.Str} {c0 : Int} {t0 : Tok} (h1 : (("IoFault" : PySem.Str), Value.ref 82) ∈ T.gl) (h3 : 82 ∈ T.fn) (h2 : (xN, .int c0 t0) ∈ T.gl) (hr : rai 82 (some c0)) (hC : C ≠ 82) {p1 p2 p3 p4 p5 : Pos} {j : Nat} {tk : Nat} {Q : Flow → Shared → Prop} (hk : 4 ≤ kk := by decide) :
    wpAny (MD w) (c.A.mark (some (.ref e))) (execs [.Raise (some (.Call (.Name "IoFault" p1) [.Name xN p2, .Constant (.str txt) j p3] [] p4)) none p5] c.env) Q (notedBy (MD w) (c.A.mark (some (.ref e))) c.env (cameBackBy (MD w) c.A c.env c.E)) (c.sh h4 tk) := by
  have hd := G.dep
  have hu := G.un
  refine wpAny_execs_cons (raise_in2 (exc82 w) H.X rfl (Call_ (glob_on G H.F H.X H.T h1 (callWith_K H.X (G.fn _ h3) ?_ rfl rfl)) (by rfl)))
  refine PyProof.Rows.args_cons (glob_on G H.F H.X H.T h2 (PyProof.Rows.args_cons (wpAny_Constant_str (PyProof.Rows.args_nil ?_)) (by rfl))) (by rfl)
  refine ⟨H.X.keeps H.F.keep, ?_⟩
  have S : Site w mean mg mb 4 (c.A.mark (some (.ref e))) A₀ base c.env c.outer (c.sh h4 (tk + 1)) g4 c.env.locals m := ⟨H.B, G.fr, G.ef, G.ek, H.F, H.X, H.T, by show c.A.depth + _ < _; lia, by show c.A.units + _ < _; lia, O⟩
  refine con_by (io_fault_con w (some (.ref e)) _ _ c0 txt (isI rfl) ⟨_, rfl⟩) ?_
  refine uses0 S rfl H.N ?_ fun _ _ _ _ _ _ _ r => r.elim
  intro v new h' tk F' N' hX3
  refine nnOf fun nO => ?_
  obtain ⟨e', T, d', es', n', tc', rfl, rfl, hc⟩ := hX3 <;> (refine nO ?_; clear nO)
  refine ⟨e', _, _, rfl, F'.keep, (N' _ (.head _)).1, ?_, ⟨oe, vs, (N' _ (.tail _ (.tail _ (.head _)))).1, H.data, H.ctx rfl⟩, ?_⟩
  · refine news_ne N' (.tail _ (.tail _ (.head _))) (.head _) ?_
    rw [H.cls]
    exact fun q => hC (Value.ref.inj q)
  refine fly_noted G.fr G.ef (fly_ctx (v := .ref e) (fly_made (code := some c0) H.B F' N' G.ef G.ek (.head _) (.tail _ (.head _)) (fun c q => ⟨_, by cases q; exact hc⟩))) fun h6 x6 => ?_
  exact fly_came x6 fun h7 x7 => G.rs 82 (some c0) e' _ _ _ hr (H.c.fly x7)
theorem catch_on (G : CxG w T kk rai c) {C : Addr} (Y : IsExc (KP w.params) C) {x : PySem.Str} {xp pos : Pos} {s0 : Stmt} {suite : List Stmt} {rest : List ExceptHandler} (hx : (x, .ref C) ∈ T.gl) {h h' : Heap} {tk : Nat} {e : Addr} {m : PySem.Str → Option Value} {Q : Flow → Shared → Prop} (F : Fr c.g c.env.locals h m)
    (xf : Fly (hideAll c.g (frs (c.env :: c.outer))) c.g (c.env :: c.outer) C none e true h') (y : h.UpToSlots h')
    (su : ∀ mean mg mb A₀ base g4 h4 oe d vs es n, OnBase w mean mg mb base → Hand w A₀ base c.g c.env c.outer c.env.locals C e m none mean mg mb h4 g4 oe d vs es n →
      wpAny (MD w) (c.A.mark (some (.ref e))) (execs (s0 :: suite) c.env) Q (notedBy (MD w) (c.A.mark (some (.ref e))) c.env (cameBackBy (MD w) c.A c.env c.E)) (c.sh h4 tk)) :
    wpAny (MD w) c.A (noteFrame (.ref e) c.env) (fun _ s₂ => wpAny (MD w) c.A (setFlight (.ref e) none) (fun _ s₃ => wpAny (MD w) c.A (handleBy (.ref e) c.env (.ExceptHandler (some (.Name x xp)) none (s0 :: suite) pos :: rest)) Q c.E s₃) c.E s₂) c.E (c.sh h' tk) := by
  refine nnOf fun nO => ?_
  obtain ⟨mean, mg, mb, A₀, base, B, Tp, O⟩ := G.at_ <;> (refine nO ?_; clear nO)
  exact catch_plain G.fr G.ef B F O Y xf y (fun g3 h3 oe d vs es n Q E H3 hq => glob_on G H3.F H3.X H3.T hx hq) fun g4 h4 oe d vs es n H4 => su _ _ _ _ _ _ _ _ _ _ _ _ O H4
theorem try_run (G : CxG w T kk rai c) {l : List Stmt} {E' : Value → Shared → Prop} {Q : Flow → Shared → Prop} {h0 : Heap} {tk0 : Nat} (H : Hd T c σ h0) (h : ∀ c', c' = c.to E' → CxG w T kk (fun _ _ => False) c' → exs w T c' n l σ kf) (q : ∀ fl σ' h' tk', Hd T c σ' h' → kf fl σ' → Q fl (c.sh h' tk')) :
    wpAny (MD w) c.A (execs l c.env) Q E' (c.sh h0 tk0) :=
  (exs_ok (G.to E') (h _ rfl (G.to E'))).run (c := c.to E') ⟨H.F, H.N, H.D, H.Z⟩ fun fl σ' h' tk' H' k => q fl σ' h' tk' ⟨H'.F, H'.N, H'.D, H'.Z⟩ k
noncomputable def retK (R : Flow → St → Prop) (fl : Flow) (σ : St) : Prop := match fl with | .ret v => R (.ret v) σ | _ => False
end

end
section
noncomputable def ndN (n : Nat) : Nat := if n = 0 then 0 else ndN (n / 10) + 1
theorem ndN_pos {n : Nat} (h : n ≠ 0) : ndN n = ndN (n / 10) + 1 := by rw [ndN, if_neg h]
theorem ndN_zero : ndN 0 = 0 := by rw [ndN, if_pos rfl]
theorem ndN_k : ∀ (k : Nat) {n : Nat}, 10 ^ k ≤ n → ndN n = ndN (n / 10 ^ k) + k
  | 0, n, _ => by rw [Nat.pow_zero, Nat.div_one]; rfl
  | k + 1, n, h => by
    have h0 : n ≠ 0 := fun e => absurd h (by rw [e]; exact Nat.not_le.mpr (Nat.pow_pos (by decide)))
    have h1 : 10 ^ k ≤ n / 10 := (Nat.le_div_iff_mul_le (by decide)).mpr h
    rw [ndN_pos h0, ndN_k k h1, Nat.div_div_eq_div_mul, Nat.pow_succ', Nat.add_assoc]
theorem ndN_9 {n : Nat} (h : 1000000000 ≤ n) : ndN n = ndN (n / 1000000000) + 9 := by
  exact ndN_k 9 h
theorem ndN_div {k : Nat} (h : k ≠ 0) (c : Int) : (ndN (k / 10) : Int) + (c + 1) = ndN k + c := by rw [ndN_pos h]; lia
theorem ndN_div9 {k : Nat} (h : 1000000000 ≤ k) (c : Int) : (ndN (k / 1000000000) : Int) + (c + 9) = ndN k + c := by rw [ndN_9 h]; lia
theorem count_digits_con (w : World) (v : Value) (n : Int) (hv : IsI v n) (hn : n.natAbs < 10 ^ 200) :
    Con w 111 1 [v] [] [] (fun v new => IsI v (ndN n.natAbs) ∧ new = []) := by
  obtain ⟨ta, rfl⟩ := hv
  refine' con_vc (n := 20) ⟨["n", "count"], [("abs", .builtin "abs")], []⟩ (binds := [("n", .int n ta)]) ?hmain
  intro c R G hR
  refine sm_abs ?_
  (repeat (intro (_ : Tok)))
  refine sm_while (n := 20) G (fun k K => ∀ (t1 t2 : Tok) (x : Int), (ndN k : Int) + x = ndN n.natAbs → K ⟨[some (.int (k : Nat) t1), some (.int x t2)], [], []⟩) (fun K h => h _ _ _ (Int.add_zero _)) ?_
  intro c' R' k G' hL t1 t2 x hc
  (repeat (intro (_ : Tok)))
  refine ⟨fun (h : (1000000000 : Int) ≤ k) => ?_, fun _ => ?_⟩
  · (repeat (intro (_ : Tok)))
    refine ⟨⟨by decide, by decide⟩, ?_⟩
    (repeat (intro (_ : Tok)))
    exact hL.next (k / 1000000000) (by lia) fun K hh => hh _ _ _ (by rw [ndN_div9 (by lia), hc])
  refine sm_while (n := 20) G (fun k K => ∀ (t1 t2 : Tok) (x : Int), (ndN k : Int) + x = ndN n.natAbs → K ⟨[some (.int (k : Nat) t1), some (.int x t2)], [], []⟩) (fun K h => h _ _ _ hc) ?_
  clear hL G' hc
  intro c' R' k G' hL t1 t2 x hc
  (repeat (intro (_ : Tok)))
  refine ⟨fun (h : (0 : Int) < k) => ?_, fun (h : ¬ (0 : Int) < k) => ?_⟩
  · (repeat (intro (_ : Tok)))
    refine ⟨⟨by decide, by decide⟩, ?_⟩
    (repeat (intro (_ : Tok)))
    exact hL.next (k / 10) (by lia) fun K hh => hh _ _ _ (by rw [ndN_div (by lia), hc])
  obtain rfl : k = 0 := by lia
  rw [ndN_zero] at hc
  exact hR.at [] ⟨isI (by lia), rfl⟩

end
section
noncomputable def Pr (v : Value) (new : Led) (x y : Int) : Prop := (∃ a vx vy, v = .ref a ∧ new = [(a, tupO [vx, vy])] ∧ IsI vx x ∧ IsI vy y) ∨ (v = .ref 104 ∧ new = [] ∧ x = 0 ∧ y = 0)
theorem div10_lt {x : Int} (h : x ≠ 0) (h' : x % 10 = 0) : (x / 10).natAbs < x.natAbs := by lia
theorem nab_sub {x y : Int} {a b c : Nat} (hx : x.natAbs < a) (hy : y.natAbs ≤ b) (h : a + b ≤ c) : (x - y).natAbs < c := Nat.lt_of_lt_of_le (Nat.lt_of_le_of_lt (Int.natAbs_sub_le x y) (Nat.add_lt_add_of_lt_of_le hx hy)) h
theorem abs_sg {s x : Int} (h : s = 1 ∨ s = -1) : (s * x).natAbs = x.natAbs := by
  rcases h with rfl | rfl
  · rw [Int.one_mul]
  · rw [Int.neg_mul, Int.one_mul, Int.natAbs_neg]
noncomputable def stripZ (m e : Int) : Int × Int := if h : m = 0 then (0, 0) else if m % 10 = 0 then stripZ (m / 10) (e + 1) else (m, e)
termination_by m.natAbs
decreasing_by exact div10_lt (by assumption) (by assumption)
theorem stripZ_zero (e : Int) : stripZ 0 e = (0, 0) := by rw [stripZ, dif_pos rfl]
theorem stripZ_ten {m e : Int} (h : m ≠ 0) (h' : m % 10 = 0) : stripZ m e = stripZ (m / 10) (e + 1) := by rw [stripZ, dif_neg h, if_pos h']
theorem stripZ_not {m e : Int} (h : m ≠ 0) (h' : m % 10 ≠ 0) : stripZ m e = (m, e) := by rw [stripZ, dif_neg h, if_neg h']
theorem pr_new {a : Addr} {x y : Int} {t u : Tok} : Pr (.ref a) [(a, tupO [.int x t, .int y u])] x y := .inl ⟨_, _, _, rfl, rfl, isI rfl, isI rfl⟩
theorem pr_nought : Pr (.ref 104) [] 0 0 := .inr ⟨rfl, rfl, rfl, rfl⟩
theorem strip_zeros_con (w : World) (v1 v2 : Value) (m e : Int) (hv : IsI v1 m) (hv2 : IsI v2 e) (hn : m.natAbs < 10 ^ 200) (he : e.natAbs < 10 ^ 200) :
    Con w 118 1 [v1, v2] [] [] (fun v new => Pr v new (stripZ m e).1 (stripZ m e).2) := by
  obtain ⟨ta, rfl⟩ := hv
  obtain ⟨tb, rfl⟩ := hv2
  generalize hz : stripZ m e = z
  refine' con_vc (n := 20) ⟨["m", "e"], [("NOUGHT", .ref 104)], []⟩ (binds := [("m", .int m ta), ("e", .int e tb)]) ?hmain
  intro c R G hR
  refine vc_if (n := 20) G ?_
  (repeat (intro (_ : Tok)))
  refine ⟨fun (h : m = 0) => ?_, fun (h : ¬ m = 0) => ?_⟩
  · refine hR.at [] ?_
    rw [← hz, h, stripZ_zero]
    exact pr_nought
  refine sm_while (n := 20) G (fun k K => ∀ (t1 t2 : Tok) (x y : Int), x.natAbs = k → x ≠ 0 → stripZ x y = z → K ⟨[some (.int x t1), some (.int y t2)], [], []⟩) (fun K hh => hh _ _ _ _ rfl h hz) ?_
  intro c' R' k G' hL t1 t2 x y hx hx0 hc
  (repeat (intro (_ : Tok)))
  refine ⟨by decide, ?_⟩
  (repeat (intro (_ : Tok)))
  refine ⟨fun (h : x % 10 = 0) => ?_, fun (h : ¬ x % 10 = 0) => ?_⟩
  · (repeat (intro (_ : Tok)))
    refine ⟨⟨by decide, by decide⟩, ?_⟩
    (repeat (intro (_ : Tok)))
    exact hL.next (x / 10).natAbs (hx ▸ div10_lt hx0 h) fun K hh => hh _ _ _ _ rfl (by lia) (by rw [← hc, stripZ_ten hx0 h])
  · intro _ a _
    rw [stripZ_not hx0 h] at hc
    refine hR.at [0] ?_
    rw [← hc]
    exact pr_new
noncomputable def roundZ (m e : Int) (d : Nat) : Int × Int :=
  if d < ndN m.natAbs then
    let drop := ndN m.natAbs - d
    let p := 10 ^ drop
    let kept := m.natAbs / p
    let rest := m.natAbs % p
    let kept' : Nat := if p < 2 * rest ∨ (2 * rest = p ∧ kept % 2 = 1) then kept + 1 else kept
    stripZ (if 0 < m then kept' else -kept') (e + drop)
  else stripZ m e
theorem ndN_le : ∀ {k n : Nat}, n < 10 ^ k → ndN n ≤ k
  | 0, n, h => by have : n = 0 := by lia
                  rw [this, ndN_zero]; exact Nat.le_refl _
  | k + 1, n, h => by
    by_cases e : n = 0
    · rw [e, ndN_zero]; lia
    · rw [ndN_pos e]
      have := ndN_le (k := k) (n := n / 10) (by rw [Nat.pow_succ] at h; lia)
      lia
theorem np10 {k : Nat} (h : k ≤ 100) (x : Int) : Builtin.divisionGoesByPylong x ((10 : Int) ^ k) = false := by
  refine PyProof.noPylong_of_log2 ?_
  have e : ((10 : Int) ^ k).natAbs = 10 ^ k := by rw [Int.natAbs_pow]; rfl
  rw [e, Nat.log2_lt (Nat.ne_of_gt (Nat.pow_pos (by lia)))]
  calc 10 ^ k ≤ 16 ^ k := Nat.pow_le_pow_left (by lia) k
    _ = 2 ^ (4 * k) := by rw [Nat.pow_mul]
    _ < 2 ^ 9000 := Nat.pow_lt_pow_right (by lia) (by lia)
theorem fmod_nat (a b : Nat) : Int.fmod (a : Int) (b : Int) = ((a % b : Nat) : Int) := by
  rw [Int.fmod_eq_emod_of_nonneg _ (by lia)]; rfl
theorem pow_cast (k : Nat) : (10 : Int) ^ k = ((10 ^ k : Nat) : Int) := by rw [Int.natCast_pow]; rfl
noncomputable def keptZ (m : Int) (p : Nat) : Nat := if p < 2 * (m.natAbs % p) ∨ (2 * (m.natAbs % p) = p ∧ (m.natAbs / p) % 2 = 1) then m.natAbs / p + 1 else m.natAbs / p
theorem roundZ_some {m e : Int} {d : Nat} (h : d < ndN m.natAbs) : roundZ m e d = stripZ (if 0 < m then (keptZ m (10 ^ (ndN m.natAbs - d)) : Int) else -(keptZ m (10 ^ (ndN m.natAbs - d)) : Int)) (e + (ndN m.natAbs - d : Nat)) := by
  unfold roundZ keptZ; rw [if_pos h]
theorem keptZ_le (m : Int) (p : Nat) : keptZ m p ≤ m.natAbs + 1 := by
  have := Nat.div_le_self m.natAbs p
  unfold keptZ; split <;> lia
theorem pow_fit {k : Nat} (h : k ≤ 100) : 0 < (10 : Int) ^ k ∧ ((10 : Int) ^ k).natAbs.log2 < 9000 := by
  refine ⟨Int.pow_pos (by decide), ?_⟩
  have e : ((10 : Int) ^ k).natAbs = 10 ^ k := by rw [Int.natAbs_pow]; rfl
  rw [e, Nat.log2_lt (Nat.ne_of_gt (Nat.pow_pos (by lia)))]
  calc 10 ^ k ≤ 16 ^ k := Nat.pow_le_pow_left (by lia) k
    _ = 2 ^ (4 * k) := by rw [Nat.pow_mul]
    _ < 2 ^ 9000 := Nat.pow_lt_pow_right (by lia) (by lia)
theorem round_digits_con (w : World) (v1 v2 v3 : Value) (m e : Int) (d : Nat) (hv : IsI v1 m) (hv2 : IsI v2 e) (hv3 : IsI v3 d) (hd : d < 100) (hn : m.natAbs < 10 ^ 100) (he : e.natAbs < 10 ^ 100) :
    Con w 125 3 [v1, v2, v3] [] [] (fun v new => Pr v new (roundZ m e d).1 (roundZ m e d).2) := by
  obtain ⟨ta, rfl⟩ := hv
  obtain ⟨tb, rfl⟩ := hv2
  obtain ⟨tc, rfl⟩ := hv3
  generalize hz : roundZ m e d = z
  refine' con_vc (n := 20) ⟨["m", "e", "digits", "drop", "power", "kept", "rest"], [("count_digits", .ref 111), ("strip_zeros", .ref 118), ("abs", .builtin "abs"), ("divmod", .builtin "divmod")], [111, 118]⟩ (binds := [("m", .int m ta), ("e", .int e tb), ("digits", .int d tc)]) ?hmain
  intro c R G hR
  refine useI G (count_digits_con w _ _ ⟨_, rfl⟩ (by lia)) ?_
  (repeat (intro (_ : Tok)))
  have hk := ndN_le hn
  refine vc_if (n := 20) G ?_
  (repeat (intro (_ : Tok)))
  refine ⟨fun (h : (0 : Int) < (ndN m.natAbs : Nat) - (d : Nat)) => ?_, fun (h : ¬ (0 : Int) < (ndN m.natAbs : Nat) - (d : Nat)) => ?_⟩
  · rw [roundZ_some (by lia)] at hz
    obtain ⟨r, hr⟩ : ∃ r : Nat, ndN m.natAbs - d = r := ⟨_, rfl⟩
    have hr2 : ((ndN m.natAbs : Nat) : Int) - (d : Nat) = r := by lia
    rw [hr] at hz
    rw [hr2]
    have hr3 : r ≤ 100 := by lia
    clear hr hr2 h hk
    (repeat (intro (_ : Tok)))
    refine ⟨⟨by lia, by lia, by decide⟩, ?_⟩
    rw [Int.toNat_natCast]
    (repeat (intro (_ : Tok)))
    refine sm_abs ?_
    (repeat (intro (_ : Tok)))
    refine sm_divmod (pow_fit hr3).1 (pow_fit hr3).2 fun a t u => ?_
    refine sm_unpack G (.inl (.head _)) rfl rfl ?_
    have hc := keptZ_le m (10 ^ r)
    rw [pow_cast, show ((m.natAbs : Nat) : Int) / ((10 ^ r : Nat) : Int) = (m.natAbs / 10 ^ r : Nat) from rfl, show ((m.natAbs : Nat) : Int) % ((10 ^ r : Nat) : Int) = (m.natAbs % 10 ^ r : Nat) from rfl]
    have hP : 10 ^ r < 2 * (m.natAbs % 10 ^ r) ∨ (2 * (m.natAbs % 10 ^ r) = 10 ^ r ∧ (m.natAbs / 10 ^ r) % 2 = 1) → ((m.natAbs / 10 ^ r : Nat) : Int) + 1 = keptZ m (10 ^ r) := fun h => by unfold keptZ; rw [if_pos h]; rfl
    have hN : ¬ (10 ^ r < 2 * (m.natAbs % 10 ^ r) ∨ (2 * (m.natAbs % 10 ^ r) = 10 ^ r ∧ (m.natAbs / 10 ^ r) % 2 = 1)) → ((m.natAbs / 10 ^ r : Nat) : Int) = keptZ m (10 ^ r) := fun h => by unfold keptZ; rw [if_neg h]
    generalize m.natAbs / 10 ^ r = kp at *
    generalize m.natAbs % 10 ^ r = rs at *
    generalize keptZ m (10 ^ r) = kz at *
    generalize 10 ^ r = p at *
    refine meet_st (fun K => ∀ (t1 t2 t3 t4 t5 : Tok) (x y : Option Value) (j : Led), K ⟨[some (.int m t1), some (.int e t2), some (.int d t3), some (.int r t4), x, some (.int kz t5), y], j, []⟩) (fun R hM => ?_) ?_
    · refine vc_if (n := 20) G ?_
      (repeat (intro (_ : Tok)))
      refine ⟨mulL (by decide), ?_⟩
      (repeat (intro (_ : Tok)))
      refine ⟨fun (h1 : (p : Int) < 2 * (rs : Nat)) => ?_, fun (h1 : ¬ (p : Int) < 2 * (rs : Nat)) => ?_⟩
      · (repeat (intro (_ : Tok)))
        rw [hP (by lia)]
        exact hM.next fun K hh => hh _ _ _ _ _ _ _ _
      (repeat (intro (_ : Tok)))
      refine ⟨mulL (by decide), ?_⟩
      (repeat (intro (_ : Tok)))
      refine ⟨fun (h2 : 2 * ((rs : Nat) : Int) = p) => ?_, fun (h2 : ¬ 2 * ((rs : Nat) : Int) = p) => ?_⟩
      · (repeat (intro (_ : Tok)))
        refine ⟨by decide, ?_⟩
        (repeat (intro (_ : Tok)))
        refine ⟨fun (h3 : ((kp : Nat) : Int) % 2 = 1) => ?_, fun (h3 : ¬ ((kp : Nat) : Int) % 2 = 1) => ?_⟩
        · (repeat (intro (_ : Tok)))
          rw [hP (by lia)]
          exact hM.next fun K hh => hh _ _ _ _ _ _ _ _
        · rw [hN (by lia)]
          exact hM.next fun K hh => hh _ _ _ _ _ _ _ _
      · rw [hN (by lia)]
        exact hM.next fun K hh => hh _ _ _ _ _ _ _ _
    clear hP hN
    intro t1 t2 t3 t4 t5 x y j
    refine vc_as (n := 20) G ?_
    (repeat (intro (_ : Tok)))
    refine ⟨fun (h : (0 : Int) < m) => ?_, fun (h : ¬ (0 : Int) < m) => ?_⟩
    · rw [if_pos h] at hz
      (repeat (intro (_ : Tok)))
      exact useR G hR (strip_zeros_con w _ _ _ _ ⟨_, rfl⟩ ⟨_, rfl⟩ (by lia) (by lia)) fun v new p => hz ▸ p
    · rw [if_neg h] at hz
      (repeat (intro (_ : Tok)))
      exact useR G hR (strip_zeros_con w _ _ _ _ ⟨_, rfl⟩ ⟨_, rfl⟩ (by lia) (by lia)) fun v new p => hz ▸ p
  · unfold roundZ at hz
    rw [if_neg (by lia)] at hz
    exact useR G hR (strip_zeros_con w _ _ _ _ ⟨_, rfl⟩ ⟨_, rfl⟩ (by lia) (by lia)) fun v new p => hz ▸ p
theorem pr_unpack {w : World} {T : Fn} {c : Cx} {kk : Nat} {rai : Addr → Option Int → Prop} (G : CxG w T kk rai c) {es : List PySem.Expr} {j : Nat} {p : Pos} {v : Value} {new : Led} {x y : Int} {ps : List (Option Value)} {led fz : Led} {k : Unit → St → Prop} (hp : Pr v new x y) (hn : namesE es = true) (hl : es.length = 2)
    (h : ∀ t u : Tok, asgs T.nm es [.int x t, .int y u] ps fun ps => k () ⟨ps, new ++ led, fz⟩) : Sm w T c ⟨ps, new ++ led, fz⟩ (assign (.Tuple es j p) c.env v) k := by
  obtain ⟨a, vx, vy, rfl, rfl, ⟨tx, rfl⟩, ⟨ty, rfl⟩⟩ | ⟨rfl, rfl, rfl, rfl⟩ := hp
  · exact sm_unpack G (.inl (.head _)) hn hl (h tx ty)
  · exact sm_unpackG G (vs := [.int 0 _, .int 0 _]) (fun h0 H => ⟨_, H.F.keep _ _ (G.X _ _ (by k_is)), rfl, _, rfl⟩) hn hl (h _ _)

end
section
noncomputable def realZ (m e : Int) (d : Nat) (top : Int) : Option (Int × Int) :=
  if (roundZ m e d).1 = 0 ∨ (roundZ m e d).2 + ndN (roundZ m e d).1.natAbs - 1 < -top then some (0, 0)
  else if top < (roundZ m e d).2 + ndN (roundZ m e d).1.natAbs - 1 then none else some (roundZ m e d)
theorem round_real_con (w : World) (v1 v2 v3 v4 : Value) (m e : Int) (d : Nat) (top : Int) (hv : IsI v1 m) (hv2 : IsI v2 e) (hv3 : IsI v3 d) (hv4 : IsI v4 top) (hd : d < 100) (hn : m.natAbs < 10 ^ 100) (he : e.natAbs < 10 ^ 100) (hr : (roundZ m e d).1.natAbs < 10 ^ 200) :
    ConH none w 132 6 [v1, v2, v3, v4] [] [] (fun v new => ∃ p, realZ m e d top = some p ∧ Pr v new p.1 p.2) (fun C code => C = 44 ∧ code = none ∧ realZ m e d top = none) := by
  obtain ⟨ta, rfl⟩ := hv
  obtain ⟨tb, rfl⟩ := hv2
  obtain ⟨tc, rfl⟩ := hv3
  obtain ⟨td, rfl⟩ := hv4
  have C1 := fun (v1 v2 v3 : Value) (hv : IsI v1 m) (hv2 : IsI v2 e) (hv3 : IsI v3 d) => round_digits_con w v1 v2 v3 m e d hv hv2 hv3 hd hn he
  generalize hz : realZ m e d top = z
  unfold realZ at hz
  generalize roundZ m e d = p at *
  obtain ⟨x, y⟩ := p
  dsimp only at C1 hr hz
  refine' con_vc (n := 20) ⟨["m", "e", "digits", "top", "lead"], [("round_digits", .ref 125), ("count_digits", .ref 111), ("NOUGHT", .ref 104), ("RunFault", .ref 44)], [125, 111, 44]⟩ (binds := [("m", .int m ta), ("e", .int e tb), ("digits", .int d tc), ("top", .int top td)]) ?hmain
  intro c R G hR
  refine use0 G (C1 _ _ _ ⟨_, rfl⟩ ⟨_, rfl⟩ ⟨_, rfl⟩) (fun v new p => ?_) (fun _ h => nomatch h) fun _ _ r => r.elim
  refine pr_unpack G p rfl rfl fun tx ty => ?_
  refine useI G (count_digits_con w _ _ ⟨_, rfl⟩ hr) ?_
  (repeat (intro (_ : Tok)))
  have h0 : x = 0 ∨ y + ndN x.natAbs - 1 < -top → ∀ σ, R (.ret (.ref 104)) σ := fun h σ => hR.ret [] ⟨(0, 0), by rw [← hz, if_pos h], pr_nought⟩ fun _ h => nomatch h
  refine vc_if (n := 20) G ?_
  (repeat (intro (_ : Tok)))
  refine ⟨fun (h1 : x = 0) => h0 (.inl h1) _, fun (h1 : ¬ x = 0) => ?_⟩
  (repeat (intro (_ : Tok)))
  refine ⟨fun (h2 : y + ndN x.natAbs - 1 < -top) => h0 (.inr h2) _, fun (h2 : ¬ y + ndN x.natAbs - 1 < -top) => ?_⟩
  clear h0
  rw [if_neg (fun h => h.elim h1 h2)] at hz
  refine vc_if (n := 20) G ?_
  (repeat (intro (_ : Tok)))
  refine ⟨fun (h3 : top < y + ndN x.natAbs - 1) => ?_, fun (h3 : ¬ top < y + ndN x.natAbs - 1) => ?_⟩
  · rw [if_pos h3] at hz
    refine sm_raise (n := 20) G (exc44 w) ?_
    (repeat (intro (_ : Tok)))
    exact run_call G ⟨rfl, rfl, hz.symm⟩
  · rw [if_neg h3] at hz
    intro _ a _
    exact hR.at [0] ⟨(x, y), hz.symm, pr_new⟩

end
section
noncomputable def cutSign (l : List Nat) : Int × List Nat := if l.take 1 = [45] then (-1, l.drop 1) else if l.take 1 = [43] then (1, l.drop 1) else (1, l)
theorem is_new {a : Addr} {n : Int} {l : List Nat} {t u : Tok} : ∃ b x y, Value.ref a = .ref b ∧ [(a, tupO [Value.int n t, .str (S l) u])] = [(b, tupO [x, y])] ∧ IsI x n ∧ IsS y l := ⟨_, _, _, rfl, rfl, isI rfl, isS rfl⟩
theorem cut_sign_con (w : World) (v : Value) (l : List Nat) (hv : IsS v l) (hl : l.length ≤ 1000) :
    Con w 161 1 [v] [] [] (fun v new => ∃ a x y, v = .ref a ∧ new = [(a, tupO [x, y])] ∧ IsI x (cutSign l).1 ∧ IsS y (cutSign l).2) := by
  obtain ⟨ta, rfl⟩ := hv
  have hs := S_len l
  generalize hz : cutSign l = z
  unfold cutSign at hz
  refine' con_vc (n := 20) ⟨["text"], [], []⟩ (binds := [("text", .str (S l) ta)]) ?hmain
  intro c R G hR
  have hl2 : l.length ≤ 1048576 := Nat.le_trans hl (by decide)
  refine vc_if (n := 20) G ?_
  ((repeat (intro (_ : Tok))); refine ⟨by assumption, ?_⟩; (repeat (intro (_ : Tok))))
  refine ⟨fun (h : l.take 1 = [45]) => ?_, fun (h : ¬ l.take 1 = [45]) => ?_⟩
  · rw [if_pos h] at hz
    ((repeat (intro (_ : Tok))); refine ⟨by assumption, ?_⟩; (repeat (intro (_ : Tok))))
    intro _ a _
    exact hR.at [0] (by rw [← hz]; exact is_new)
  rw [if_neg h] at hz
  refine vc_if (n := 20) G ?_
  ((repeat (intro (_ : Tok))); refine ⟨by assumption, ?_⟩; (repeat (intro (_ : Tok))))
  refine ⟨fun (h : l.take 1 = [43]) => ?_, fun (h : ¬ l.take 1 = [43]) => ?_⟩
  · rw [if_pos h] at hz
    ((repeat (intro (_ : Tok))); refine ⟨by assumption, ?_⟩; (repeat (intro (_ : Tok))))
    intro _ a _
    exact hR.at [0] (by rw [← hz]; exact is_new)
  · rw [if_neg h] at hz
    (repeat (intro (_ : Tok)))
    intro _ a _
    exact hR.at [0] (by rw [← hz]; exact is_new)
noncomputable def valL (l : List Nat) : Int := l.foldl (fun (n : Int) (c : Nat) => n * 10 + ((c : Int) - 48)) 0
noncomputable def wholeL (l : List Nat) : Int := if l = [] then -1 else if l.all isDig then valL l else -1
theorem take_succ_get {l : List Nat} {i c : Nat} (h : l[i]? = some c) : l.take (i + 1) = l.take i ++ [c] := by
  rw [List.take_add_one, h]; rfl
theorem valL_snoc (l : List Nat) (c : Nat) : valL (l ++ [c]) = valL l * 10 + ((c : Int) - 48) := by simp [valL]
theorem valL_cons : ∀ (l : List Nat) (a : Int), l.all isDig = true → 0 ≤ a → a * 10 ^ l.length ≤ l.foldl (fun (n : Int) (c : Nat) => n * 10 + ((c : Int) - 48)) a ∧ l.foldl (fun (n : Int) (c : Nat) => n * 10 + ((c : Int) - 48)) a < (a + 1) * 10 ^ l.length
  | [], a, _, _ => by simp; lia
  | c :: r, a, h, ha => by
    rw [List.all_cons, Bool.and_eq_true] at h
    have hc := h.1
    unfold isDig at hc
    simp at hc
    have ih := valL_cons r (a * 10 + ((c : Int) - 48)) h.2 (by lia)
    rw [List.foldl_cons, List.length_cons, Int.pow_succ]
    have hp : (0 : Int) < 10 ^ r.length := Int.pow_pos (by decide)
    generalize (10 : Int) ^ r.length = p at *
    refine ⟨Int.le_trans ?_ ih.1, Int.lt_of_lt_of_le ih.2 ?_⟩
    · rw [show a * (p * 10) = (a * 10) * p by rw [Int.mul_comm p 10, Int.mul_assoc]]
      exact Int.mul_le_mul_of_nonneg_right (by lia) (by lia)
    · rw [show (a + 1) * (p * 10) = ((a + 1) * 10) * p by rw [Int.mul_comm p 10, Int.mul_assoc]]
      exact Int.mul_le_mul_of_nonneg_right (by lia) (by lia)
theorem valL_bound (l : List Nat) (h : l.all isDig = true) : 0 ≤ valL l ∧ valL l < 10 ^ l.length := by
  have := valL_cons l 0 h (by lia)
  simpa [valL] using this
theorem dig_neg {c : Nat} (h : (if isDig c = true then (c : Int) - 48 else -1) < 0) : isDig c = false := by
  cases e : isDig c with
  | false => rfl
  | true =>
    rw [e, if_pos rfl] at h
    unfold isDig at e
    simp at e; lia
theorem dig_pos {c : Nat} (h : ¬ (if isDig c = true then (c : Int) - 48 else -1) < 0) : isDig c = true := by
  cases e : isDig c with
  | true => rfl
  | false => rw [e] at h; simp at h
theorem all_false_of {l : List Nat} {i c : Nat} (h : l[i]? = some c) (hc : isDig c = false) : l.all isDig = false := by
  rw [List.all_eq_false]
  exact ⟨c, List.mem_of_getElem? h, by rw [hc]; decide⟩
noncomputable def digV (c : Nat) : Int := if isDig c = true then (c : Int) - 48 else -1
theorem idx_figs (c : Nat) : idxI [48, 49, 50, 51, 52, 53, 54, 55, 56, 57] c = digV c := by
  unfold digV
  rw [← S_find, ← lit_figs, find_figs]
theorem whole_of_con (w : World) (v : Value) (l : List Nat) (hv : IsS v l) (hl : l.length ≤ 1000) :
    Con w 154 1 [v] [] [] (fun v new => IsI v (wholeL l) ∧ new = []) := by
  obtain ⟨ta, rfl⟩ := hv
  generalize hz : wholeL l = z
  unfold wholeL at hz
  refine' con_vc (n := 20) ⟨["figures", "number", "sign", "at"], [("FIGURES", .str "0123456789" 327)], []⟩ (binds := [("figures", .str (S l) ta)]) ?hmain
  intro c R G hR
  (repeat (intro (_ : Tok)))
  refine for_text (n := 20) G (fun i K => ∀ (t1 t2 : Tok) (x y : Option Value), (l.take i).all isDig = true → K ⟨[some (.str (S l) t1), some (.int (valL (l.take i)) t2), x, y], [], []⟩) (fun K h => h _ _ _ _ rfl) ?_ ?_
  · intro c' R' i x tv G' hL hx t1 t2 y1 y2 hd
    refine asg_nm G' ?_
    refine sm_find (n := 19) G' idx_figs ?_
    (repeat (intro (_ : Tok)))
    refine vc_if (n := 20) G' ?_
    (repeat (intro (_ : Tok)))
    refine ⟨fun (h : digV x < 0) => ?_, fun (h : ¬ digV x < 0) => ?_⟩
    · (repeat (intro (_ : Tok)))
      refine hL.ret (hR.at [] ⟨isI ?_, rfl⟩)
      rw [← hz, if_neg (by rintro rfl; cases hx), all_false_of hx (dig_neg h)]; rfl
    · have hf := dig_pos h
      (repeat (intro (_ : Tok)))
      refine ⟨mulR (by decide), ?_⟩
      (repeat (intro (_ : Tok)))
      refine hL.next fun K hh => ?_
      have e : valL (l.take (i + 1)) = valL (l.take i) * 10 + digV x := by rw [take_succ_get hx, valL_snoc, digV, if_pos hf]
      rw [← e]
      exact hh _ _ _ _ (by rw [take_succ_get hx, List.all_append, hd]; simpa using hf)
  · intro t1 t2 y1 y2 hd
    rw [List.take_length] at hd ⊢
    refine vc_if (n := 20) G ?_
    (repeat (intro (_ : Tok)))
    refine ⟨fun (h : l = []) => ?_, fun (h : ¬ l = []) => ?_⟩
    · (repeat (intro (_ : Tok)))
      exact hR.at [] ⟨isI (by rw [← hz, if_pos h]), rfl⟩
    · exact hR.at [] ⟨isI (by rw [← hz, if_neg h, if_pos hd]), rfl⟩

end
section
noncomputable def inW (n : Int) : Bool := decide (-2147483648 ≤ n) && decide (n < 2147483648)
theorem in_width_con (w : World) (v1 v2 : Value) (n : Int) (hv : IsI v1 n) (hv2 : IsI v2 32) :
    Con w 168 1 [v1, v2] [] [] (fun v new => v = .bool (inW n) ∧ new = []) := by
  obtain ⟨ta, rfl⟩ := hv
  obtain ⟨tb, rfl⟩ := hv2
  refine' con_vc (n := 20) ⟨["number", "width", "limit"], [], []⟩ (binds := [("number", .int n ta), ("width", .int 32 tb)]) ?hmain
  intro c R G hR
  (repeat (intro (_ : Tok)))
  refine sm_shl (m := 31) (by decide) (by decide) ?_
  (repeat (intro (_ : Tok)))
  refine sm_chainV (n := 20) G ?_
  (repeat (intro (_ : Tok)))
  refine ⟨fun (h1 : -2147483648 ≤ n) => ?_, fun (h1 : ¬ -2147483648 ≤ n) => ?_⟩
  · refine ⟨fun (h2 : n < 2147483648) => ?_, fun (h2 : ¬ n < 2147483648) => ?_⟩
    · exact hR.at [] ⟨by unfold inW; rw [decide_eq_true h1, decide_eq_true h2]; rfl, rfl⟩
    · exact hR.at [] ⟨by unfold inW; rw [decide_eq_false h2, Bool.and_false], rfl⟩
  · exact hR.at [] ⟨by unfold inW; rw [decide_eq_false h1, Bool.false_and], rfl⟩
noncomputable def solidL (l : List Nat) : List Nat := l.filter (· != 32)
theorem solidL_snoc {l : List Nat} {i c : Nat} (h : l[i]? = some c) : solidL (l.take (i + 1)) = solidL (l.take i) ++ (if c = 32 then [] else [c]) := by
  unfold solidL
  rw [take_succ_get h, List.filter_append]
  by_cases e : c = 32 <;> simp [e]
theorem solidL_len (l : List Nat) : (solidL l).length ≤ l.length := List.length_filter_le _ _
theorem solid_field_con (w : World) (v : Value) (l : List Nat) (hv : IsS v l) (hl : l.length ≤ 1000) :
    Con w 147 1 [v, .bool false] [] [] (fun v new => IsS v (solidL l) ∧ new = []) := by
  obtain ⟨ta, rfl⟩ := hv
  refine' con_vc (n := 20) ⟨["field", "is_zero", "out", "sign"], [], []⟩ (binds := [("field", .str (S l) ta), ("is_zero", .bool false)]) ?hmain
  intro c R G hR
  (repeat (intro (_ : Tok)))
  refine for_text (n := 20) G (fun i K => ∀ (t1 t2 : Tok) (x : Option Value), K ⟨[some (.str (S l) t1), some (.bool false), some (.str (S (solidL (l.take i))) t2), x], [], []⟩) (fun K h => h _ _ _) ?_ ?_
  · intro c' R' i x tv G' hL hx t1 t2 y
    refine asg_nm G' ?_
    refine vc_if (n := 20) G' ?_
    (repeat (intro (_ : Tok)))
    refine ⟨fun (h : [x] ≠ [32]) => ?_, fun (h : ¬ [x] ≠ [32]) => ?_⟩
    · have hs := Nat.le_trans (solidL_len (l.take i)) (by rw [List.length_take]; exact Nat.min_le_right _ _)
      refine ⟨Nat.add_le_add (Nat.le_trans hs hl) (by decide : 1 ≤ 1047576), ?_⟩
      (repeat (intro (_ : Tok)))
      refine hL.next fun K hh => ?_
      have e : solidL (l.take (i + 1)) = solidL (l.take i) ++ [x] := by rw [solidL_snoc hx, if_neg (fun e => h (by rw [e]))]
      rw [← e]
      exact hh _ _ _
    · refine vc_if (n := 20) G' ?_
      refine hL.next fun K hh => ?_
      have e : solidL (l.take (i + 1)) = solidL (l.take i) := by rw [solidL_snoc hx, if_pos (by simpa using h), List.append_nil]
      rw [← e]
      exact hh _ _ _
  · intro t1 t2 y
    rw [List.take_length]
    exact hR.at [] ⟨isS rfl, rfl⟩

noncomputable def readInt (l : List Nat) : Except Int Int :=
  if solidL l = [] then .ok 0 else
  if wholeL (cutSign (solidL l)).2 < 0 then .error 1 else
  if inW ((cutSign (solidL l)).1 * wholeL (cutSign (solidL l)).2) then .ok ((cutSign (solidL l)).1 * wholeL (cutSign (solidL l)).2) else .error 2
theorem cutSign_len (l : List Nat) : (cutSign l).2.length ≤ l.length := by
  unfold cutSign; split <;> (try split) <;> simp
theorem cutSign_one (l : List Nat) : (cutSign l).1 = 1 ∨ (cutSign l).1 = -1 := by
  unfold cutSign; split <;> (try split) <;> simp
theorem pow10_le {a b : Nat} (h : a ≤ b) : (10 : Int) ^ a ≤ 10 ^ b := by
  have := Nat.pow_le_pow_right (n := 10) (by decide) h
  exact_mod_cast this
theorem wholeL_lt (l : List Nat) : wholeL l < 10 ^ l.length ∧ -1 ≤ wholeL l := by
  unfold wholeL
  have hp : (0 : Int) < 10 ^ l.length := Int.pow_pos (by decide)
  split
  · lia
  · split
    · have := valL_bound l (by assumption); lia
    · lia
theorem read_int_con (w : World) (v1 v3 : Value) (l : List Nat) (hv : IsS v1 l) (hv3 : IsI v3 32) (hl : l.length ≤ 200) :
    ConH none w 175 6 [v1, .bool false, v3] [] [] (fun v new => ∃ n, readInt l = .ok n ∧ IsI v n ∧ new = []) (fun C code => C = 82 ∧ ∃ c, code = some c ∧ readInt l = .error c) := by
  obtain ⟨ta, rfl⟩ := hv
  obtain ⟨tb, rfl⟩ := hv3
  have C1 := fun v hv => solid_field_con w v l hv (by lia)
  generalize hz : readInt l = z
  unfold readInt at hz
  have h1 : (solidL l).length ≤ 200 := Nat.le_trans (solidL_len l) hl
  have C2 := fun v hv => cut_sign_con w v (solidL l) hv (by lia)
  have h2 : (cutSign (solidL l)).2.length ≤ 200 := Nat.le_trans (cutSign_len (solidL l)) h1
  have h3 := cutSign_one (solidL l)
  generalize solidL l = sl at *
  generalize cutSign sl = p at *
  obtain ⟨s1, rest⟩ := p
  dsimp only at hz C2 h2 h3
  have C3 := fun v hv => whole_of_con w v rest hv (by lia)
  have h4 : wholeL rest < 10 ^ 200 ∧ -1 ≤ wholeL rest := ⟨Int.lt_of_lt_of_le (wholeL_lt rest).1 (pow10_le h2), (wholeL_lt rest).2⟩
  generalize wholeL rest = n at *
  refine' con_vc (n := 20) ⟨["field", "is_zero", "width", "text", "sign", "rest", "number"], [("solid_field", .ref 147), ("cut_sign", .ref 161), ("whole_of", .ref 154), ("in_width", .ref 168), ("IoFault", .ref 82), ("BAD_FIELD", .int 1 379), ("TOO_GREAT", .int 2 381)], [147, 161, 154, 168, 82]⟩ (binds := [("field", .str (S l) ta), ("is_zero", .bool false), ("width", .int 32 tb)]) ?hmain
  intro c R G hR
  refine useS G (C1 _ ⟨_, rfl⟩) ?_
  (repeat (intro (_ : Tok)))
  refine vc_if (n := 20) G ?_
  (repeat (intro (_ : Tok)))
  refine ⟨fun (h : sl = []) => ?_, fun (h : ¬ sl = []) => ?_⟩
  · (repeat (intro (_ : Tok)))
    exact hR.at [] ⟨0, by rw [← hz, if_pos h], isI rfl, rfl⟩
  rw [if_neg h] at hz
  refine use0 G (C2 _ ⟨_, rfl⟩) ?_ (fun _ h => nomatch h) fun _ _ r => r.elim
  rintro v new ⟨a, x, y, rfl, rfl, ⟨tx, rfl⟩, ⟨ty, rfl⟩⟩
  refine sm_unpack G (.inl (.head _)) rfl rfl ?_
  refine useI G (C3 _ ⟨_, rfl⟩) ?_
  (repeat (intro (_ : Tok)))
  refine vc_if (n := 20) G ?_
  (repeat (intro (_ : Tok)))
  refine ⟨fun (h : n < 0) => ?_, fun (h : ¬ n < 0) => ?_⟩
  · rw [if_pos h] at hz
    refine sm_raise (n := 20) G (exc82 w) ?_
    (repeat (intro (_ : Tok)))
    exact io_call G ⟨rfl, _, rfl, hz.symm⟩
  rw [if_neg h] at hz
  have hm := mul1 (x := n) h3
  refine vc_if (n := 20) G ?_
  refine ⟨hm, ?_⟩
  (repeat (intro (_ : Tok)))
  refine useB G (in_width_con w _ _ (s1 * n) ⟨_, rfl⟩ ⟨_, rfl⟩) ?_
  generalize inW (s1 * n) = b at hz ⊢
  cases b with
  | true =>
    refine ⟨hm, ?_⟩
    (repeat (intro (_ : Tok)))
    exact hR.at [] ⟨s1 * n, hz.symm, isI rfl, rfl⟩
  | false =>
    refine sm_raise (n := 20) G (exc82 w) ?_
    (repeat (intro (_ : Tok)))
    exact io_call G ⟨rfl, _, rfl, hz.symm⟩

end
section
noncomputable def cutExp (pre : List Nat) : List Nat → List Nat × List Nat × Bool
  | [] => (pre, [], false)
  | c :: r => if c = 69 ∨ c = 68 then (pre, r, true) else if c = 43 ∨ c = 45 then (pre, c :: r, true) else cutExp (pre ++ [c]) r
theorem drop_cons' {l : List Nat} {i c : Nat} (h : l[i]? = some c) : l.drop i = c :: l.drop (i + 1) := by
  obtain ⟨hi, rfl⟩ := List.getElem?_eq_some_iff.mp h
  rw [← List.drop_eq_getElem_cons hi]
theorem one_beq (a b : Nat) : (S [a] == S [b]) = decide (a = b) := by
  rw [S_beq]
  simp
theorem cut_exponent_con (w : World) (v : Value) (l : List Nat) (hv : IsS v l) (hl : l.length ≤ 1000) :
    Con w 182 1 [v] [] [] (fun v new => ∃ a x y, v = .ref a ∧ new = [(a, tupO [x, y, .bool (cutExp [] l).2.2])] ∧ IsS x (cutExp [] l).1 ∧ IsS y (cutExp [] l).2.1) := by
  obtain ⟨ta, rfl⟩ := hv
  generalize hz : cutExp [] l = z
  refine' con_vc (n := 20) ⟨["text", "at"], [("range", .type "range"), ("len", .builtin "len")], []⟩ (binds := [("text", .str (S l) ta)]) ?hmain
  intro c R G hR
  have big : l.length ≤ 1048576 := Nat.le_trans hl (by decide)
  refine sm_len big ?_
  (repeat (intro (_ : Tok)))
  refine for_rng (n := 20) G big (fun i K => ∀ (t1 : Tok) (x : Option Value), cutExp (l.take i) (l.drop i) = z → K ⟨[some (.str (S l) t1), x], [], []⟩) (fun K h => h _ _ hz) ?_ ?_
  · intro c' R' i tv G' hL hi t1 y hc
    have hg : l[i]? = some l[i] := List.getElem?_eq_getElem hi
    rw [List.drop_eq_getElem_cons hi, cutExp] at hc
    generalize l[i] = x at *
    refine asg_nm G' ?_
    have hit : l.length ≤ 1048576 ∧ i < l.length := ⟨big, hi⟩
    have got : ∀ {y : Nat}, l[i]? = some y → y = x := fun h => by rw [hg] at h; exact (Option.some.inj h).symm
    have hend : ∀ {p : List Nat × List Nat × Bool}, p = z → ∀ (σ : St) (a : Addr) (t1 t2 : Tok), (∀ q ∈ [(a, tupO [Value.str (S p.1) t1, .str (S p.2.1) t2, .bool p.2.2])], q ∈ σ.led) → R' (.ret (.ref a)) σ := fun h σ a t1 t2 hs => hL.ret (hR.ret _ (by rw [← h]; exact ⟨_, _, _, rfl, rfl, isS rfl, isS rfl⟩) hs)
    refine vc_if (n := 20) G' ?_
    refine ⟨hit, ?_⟩
    intro y1 _ hy
    obtain rfl := got hy
    (repeat (intro (_ : Tok)))
    refine ⟨fun (h : [y1] = [69]) => ?_, fun (h : ¬ [y1] = [69]) => ?_⟩
    · rw [if_pos (.inl (List.cons.inj h).1)] at hc
      (repeat (intro (_ : Tok)))
      refine ⟨big, ?_⟩
      (repeat (intro (_ : Tok)))
      refine ⟨big, ?_⟩
      (repeat (intro (_ : Tok)))
      intro _ a _
      exact hend hc _ _ _ _ (fun _ h => h)
    refine ⟨hit, ?_⟩
    intro y2 _ hy
    obtain rfl := got hy
    (repeat (intro (_ : Tok)))
    refine ⟨fun (h2 : [y2] = [68]) => ?_, fun (h2 : ¬ [y2] = [68]) => ?_⟩
    · rw [if_pos (.inr (List.cons.inj h2).1)] at hc
      (repeat (intro (_ : Tok)))
      refine ⟨big, ?_⟩
      (repeat (intro (_ : Tok)))
      refine ⟨big, ?_⟩
      (repeat (intro (_ : Tok)))
      intro _ a _
      exact hend hc _ _ _ _ (fun _ h => h)
    rw [if_neg (fun q => q.elim (fun e => h (by rw [e])) fun e => h2 (by rw [e]))] at hc
    have hp : ∀ {q : Prop} [Decidable q], q → (if q then (l.take i, y2 :: l.drop (i + 1), true) else cutExp (l.take i ++ [y2]) (l.drop (i + 1))) = (l.take i, l.drop i, true) := fun h => by rw [if_pos h, drop_cons' hg]
    refine vc_if (n := 20) G' ?_
    refine ⟨hit, ?_⟩
    intro y3 _ hy
    obtain rfl := got hy
    (repeat (intro (_ : Tok)))
    refine ⟨fun (h3 : [y3] = [43]) => ?_, fun (h3 : ¬ [y3] = [43]) => ?_⟩
    · rw [hp (.inl (List.cons.inj h3).1)] at hc
      (repeat (intro (_ : Tok)))
      refine ⟨big, ?_⟩
      (repeat (intro (_ : Tok)))
      refine ⟨big, ?_⟩
      (repeat (intro (_ : Tok)))
      intro _ a _
      exact hend hc _ _ _ _ (fun _ h => h)
    refine ⟨hit, ?_⟩
    intro y4 _ hy
    obtain rfl := got hy
    (repeat (intro (_ : Tok)))
    refine ⟨fun (h4 : [y4] = [45]) => ?_, fun (h4 : ¬ [y4] = [45]) => ?_⟩
    · rw [hp (.inr (List.cons.inj h4).1)] at hc
      (repeat (intro (_ : Tok)))
      refine ⟨big, ?_⟩
      (repeat (intro (_ : Tok)))
      refine ⟨big, ?_⟩
      (repeat (intro (_ : Tok)))
      intro _ a _
      exact hend hc _ _ _ _ (fun _ h => h)
    rw [if_neg (fun q => q.elim (fun e => h3 (by rw [e])) fun e => h4 (by rw [e]))] at hc
    exact hL.next fun K hh => hh _ _ (by rw [take_succ_get hg, hc])
  · intro t1 y hc
    rw [List.take_length, List.drop_length, cutExp] at hc
    (repeat (intro (_ : Tok)))
    intro _ a _
    exact hR.at [0] (by rw [← hc]; exact ⟨_, _, _, rfl, rfl, isS rfl, isS rfl⟩)
noncomputable def fieldExp (l : List Nat) : Option Int := if wholeL (cutSign l).2 < 0 then none else some ((cutSign l).1 * wholeL (cutSign l).2)
theorem field_exponent_con (w : World) (v1 : Value) (l : List Nat) (hv : IsS v1 l) (hl : l.length ≤ 200) :
    ConH none w 189 6 [v1] [] [] (fun v new => ∃ n, fieldExp l = some n ∧ IsI v n ∧ new = []) (fun C code => C = 82 ∧ code = some 1 ∧ fieldExp l = none) := by
  obtain ⟨ta, rfl⟩ := hv
  have C2 := fun v hv => cut_sign_con w v l hv (by lia)
  have h2 : (cutSign l).2.length ≤ 200 := Nat.le_trans (cutSign_len l) hl
  have h3 := cutSign_one l
  generalize hz : fieldExp l = z
  unfold fieldExp at hz
  generalize cutSign l = p at *
  obtain ⟨s1, rest⟩ := p
  dsimp only at hz C2 h2 h3
  have C3 := fun v hv => whole_of_con w v rest hv (by lia)
  have h4 : wholeL rest < 10 ^ 200 ∧ -1 ≤ wholeL rest := ⟨Int.lt_of_lt_of_le (wholeL_lt rest).1 (pow10_le h2), (wholeL_lt rest).2⟩
  generalize wholeL rest = n at *
  refine' con_vc (n := 20) ⟨["text", "sign", "rest", "number"], [("cut_sign", .ref 161), ("whole_of", .ref 154), ("IoFault", .ref 82), ("BAD_FIELD", .int 1 379)], [161, 154, 82]⟩ (binds := [("text", .str (S l) ta)]) ?hmain
  intro c R G hR
  refine use0 G (C2 _ ⟨_, rfl⟩) ?_ (fun _ h => nomatch h) fun _ _ r => r.elim
  rintro v new ⟨a, x, y, rfl, rfl, ⟨tx, rfl⟩, ⟨ty, rfl⟩⟩
  refine sm_unpack G (.inl (.head _)) rfl rfl ?_
  refine useI G (C3 _ ⟨_, rfl⟩) ?_
  (repeat (intro (_ : Tok)))
  refine vc_if (n := 20) G ?_
  (repeat (intro (_ : Tok)))
  refine ⟨fun (h : n < 0) => ?_, fun (h : ¬ n < 0) => ?_⟩
  · rw [if_pos h] at hz
    refine sm_raise (n := 20) G (exc82 w) ?_
    (repeat (intro (_ : Tok)))
    exact io_call G ⟨rfl, rfl, hz.symm⟩
  rw [if_neg h] at hz
  refine ⟨mul1 h3, ?_⟩
  (repeat (intro (_ : Tok)))
  exact hR.at [] ⟨s1 * n, hz.symm, isI rfl, rfl⟩

end
section
noncomputable def figs (l : List Nat) (d : Int) : List Nat × Int := match l.idxOf? 46 with
  | none => (l, d)
  | some i => (l.take i ++ l.drop (i + 1), (l.length : Int) - i - 1)
noncomputable def readFig (l : List Nat) (d : Int) : Option (Int × Int) := if wholeL (figs l d).1 < 0 then none else some (wholeL (figs l d).1, (figs l d).2)
theorem idx_lt {l : List Nat} {c i : Nat} (h : l.idxOf? c = some i) : i < l.length := by
  rw [List.idxOf?, List.findIdx?_eq_some_iff_getElem] at h
  exact h.1
theorem min_rest (i n : Nat) : min i n + (n - (i + 1)) ≤ n := by lia
theorem figs_len (l : List Nat) (d : Int) : (figs l d).1.length ≤ l.length := by
  unfold figs
  split
  · exact Nat.le_refl _
  · rw [List.length_append, List.length_take, List.length_drop]; exact min_rest _ _
theorem read_figures_con (w : World) (v1 v2 : Value) (l : List Nat) (d : Int) (hv : IsS v1 l) (hv2 : IsI v2 d) (hl : l.length ≤ 200) :
    ConH none w 196 6 [v1, v2] [] [] (fun v new => ∃ p, readFig l d = some p ∧ ∃ a x y, v = .ref a ∧ new = [(a, tupO [x, y])] ∧ IsI x p.1 ∧ IsI y p.2) (fun C code => C = 82 ∧ code = some 1 ∧ readFig l d = none) := by
  obtain ⟨ta, rfl⟩ := hv
  obtain ⟨tb, rfl⟩ := hv2
  have big : l.length ≤ 1048576 := by lia
  have hlen := figs_len l d
  generalize hz : readFig l d = z
  unfold readFig at hz
  obtain ⟨ff, hff⟩ : ∃ ff, figs l d = ff := ⟨_, rfl⟩
  have hpt : (idxI l 46 = -1 ∧ ff = (l, d)) ∨ ∃ i : Nat, idxI l 46 = i ∧ ff = (l.take i ++ l.drop (i + 1), (l.length : Int) - i - 1) := by
    rw [← hff]
    unfold figs idxI
    cases l.idxOf? 46 with
    | none => exact .inl ⟨rfl, rfl⟩
    | some i => exact .inr ⟨i, rfl, rfl⟩
  rw [hff] at hz hlen
  clear hff
  obtain ⟨fg, pl⟩ := ff
  dsimp only at hz hlen
  have C1 := fun v hv => whole_of_con w v fg hv (by lia)
  refine' con_vc (n := 20) ⟨["text", "d", "point", "figures", "places", "number"], [("len", .builtin "len"), ("whole_of", .ref 154), ("IoFault", .ref 82), ("BAD_FIELD", .int 1 379)], [154, 82]⟩ (binds := [("text", .str (S l) ta), ("d", .int d tb)]) ?hmain
  intro c R G hR
  obtain ⟨pt, hp⟩ : ∃ pt, idxI l 46 = pt := ⟨_, rfl⟩
  refine sm_find1 (n := 19) (c0 := 46) G hp ?_
  (repeat (intro (_ : Tok)))
  refine ⟨rfl, ?_⟩
  (repeat (intro (_ : Tok)))
  rw [hp] at hpt
  refine meet_st (fun K => ∀ (t1 t2 t3 t4 : Tok) (y : Option Value), K ⟨[some (.str (S l) t1), some (.int d t2), y, some (.str (S fg) t3), some (.int pl t4), none], [], []⟩) (fun R hM => ?_) ?_
  · refine vc_if (n := 20) G ?_
    (repeat (intro (_ : Tok)))
    refine ⟨fun (h : pt < 0) => ?_, fun (h : ¬ pt < 0) => ?_⟩
    · obtain ⟨rfl, e⟩ | ⟨i, rfl, e⟩ := hpt
      · cases e
        exact hM.next fun K hh => hh _ _ _ _ _
      · lia
    · obtain ⟨rfl, e⟩ | ⟨i, rfl, e⟩ := hpt
      · lia
      cases e
      refine ⟨big, ?_⟩
      (repeat (intro (_ : Tok)))
      refine ⟨big, ?_⟩
      (repeat (intro (_ : Tok)))
      refine ⟨by rw [List.length_take, List.length_drop]; exact Nat.le_trans (min_rest _ _) big, ?_⟩
      (repeat (intro (_ : Tok)))
      refine sm_len big ?_
      (repeat (intro (_ : Tok)))
      exact hM.next fun K hh => hh _ _ _ _ _
  clear hpt hp
  intro t1 t2 t3 t4 y
  refine useI G (C1 _ ⟨_, rfl⟩) ?_
  (repeat (intro (_ : Tok)))
  refine vc_if (n := 20) G ?_
  (repeat (intro (_ : Tok)))
  refine ⟨fun (h : wholeL fg < 0) => ?_, fun (h : ¬ wholeL fg < 0) => ?_⟩
  · rw [if_pos h] at hz
    refine sm_raise (n := 20) G (exc82 w) ?_
    (repeat (intro (_ : Tok)))
    exact io_call G ⟨rfl, rfl, hz.symm⟩
  · rw [if_neg h] at hz
    intro _ a _
    exact hR.at [0] ⟨_, hz.symm, _, _, _, rfl, rfl, isI rfl, isI rfl⟩

noncomputable def logicalL (l : List Nat) : Option Bool :=
  let r := l.dropWhile (· == 32)
  let r2 := if r.take 1 = [46] then r.drop 1 else r
  if r2.take 1 = [84] then some true else if r2.take 1 = [70] then some false else none
theorem read_logical_con (w : World) (v1 : Value) (l : List Nat) (hv : IsS v1 l) (hl : l.length ≤ 1000) :
    ConH none w 210 6 [v1] [] [] (fun v new => ∃ b, logicalL l = some b ∧ v = .bool b ∧ new = []) (fun C code => C = 82 ∧ code = some 1 ∧ logicalL l = none) := by
  obtain ⟨ta, rfl⟩ := hv
  have big : l.length ≤ 1048576 := Nat.le_trans hl (by decide)
  generalize hz : logicalL l = z
  unfold logicalL at hz
  dsimp only at hz
  generalize hr : l.dropWhile (· == 32) = r at hz
  refine' con_vc (n := 20) ⟨["field", "at"], [("len", .builtin "len"), ("IoFault", .ref 82), ("BAD_FIELD", .int 1 379)], [82]⟩ (binds := [("field", .str (S l) ta)]) ?hmain
  intro c R G hR
  (repeat (intro (_ : Tok)))
  refine meet_st (fun K => ∀ (t1 t2 : Tok) (a : Nat), a ≤ l.length → l.drop a = r → K ⟨[some (.str (S l) t1), some (.int (a : Nat) t2)], [], []⟩) (fun R hM => ?_) ?_
  · refine sm_while (n := 20) G (fun k K => ∀ (t1 t2 : Tok) (a : Nat), k + a = l.length → (l.drop a).dropWhile (· == 32) = r → K ⟨[some (.str (S l) t1), some (.int (a : Nat) t2)], [], []⟩) (n0 := l.length) (fun K hh => hh _ _ 0 rfl hr) ?_
    intro c' R' k G' hL t1 t2 a hk hd
    refine sm_len big ?_
    (repeat (intro (_ : Tok)))
    refine ⟨fun (h : (a : Int) < l.length) => ?_, fun (h : ¬ (a : Int) < l.length) => hM.next fun K hh => hh _ _ a (by lia) (by rw [← hd, List.drop_eq_nil_of_le (by lia), List.dropWhile_nil])⟩
    refine ⟨⟨big, by lia⟩, ?_⟩
    intro y _ hy
    (repeat (intro (_ : Tok)))
    rw [drop_cons' hy, List.dropWhile_cons] at hd
    refine ⟨fun (h : [y] = [32]) => ?_, fun (h : ¬ [y] = [32]) => ?_⟩
    · rw [if_pos (by simpa using h)] at hd
      (repeat (intro (_ : Tok)))
      exact hL.next (k - 1) (by lia) fun K hh => hh _ _ (a + 1) (by lia) hd
    · rw [if_neg (by simpa using h)] at hd
      exact hM.next fun K hh => hh _ _ a (by lia) (by rw [drop_cons' hy, hd])
  intro t1 t2 a ha hd
  have hs1 : ∀ b : Nat, (l.take (b + 1)).drop b = (l.drop b).take 1 := fun b => by rw [← List.take_drop]
  refine meet_st (fun K => ∀ (t1 t2 : Tok) (b : Nat), l.drop b = (if r.take 1 = [46] then r.drop 1 else r) → K ⟨[some (.str (S l) t1), some (.int (b : Nat) t2)], [], []⟩) (fun R hM => ?_) ?_
  · refine vc_if (n := 20) G ?_
    ((repeat (intro (_ : Tok))); refine ⟨by assumption, ?_⟩; (repeat (intro (_ : Tok))))
    refine ⟨fun (h : (l.take (a + 1)).drop a = [46]) => ?_, fun (h : ¬ (l.take (a + 1)).drop a = [46]) => ?_⟩
    · rw [hs1, hd] at h
      (repeat (intro (_ : Tok)))
      exact hM.next fun K hh => hh _ _ (a + 1) (by rw [if_pos h, ← hd, List.drop_drop])
    · rw [hs1, hd] at h
      exact hM.next fun K hh => hh _ _ a (by rw [if_neg h, hd])
  clear ha hd t1 t2 a hr
  intro t1 t2 b hd
  rw [← hd] at hz
  refine vc_if (n := 20) G ?_
  ((repeat (intro (_ : Tok))); refine ⟨by assumption, ?_⟩; (repeat (intro (_ : Tok))))
  refine ⟨fun (h : (l.take (b + 1)).drop b = [84]) => ?_, fun (h : ¬ (l.take (b + 1)).drop b = [84]) => ?_⟩
  · rw [hs1] at h
    exact hR.at [] ⟨true, by rw [← hz, if_pos h], rfl, rfl⟩
  rw [hs1] at h
  rw [if_neg h] at hz
  refine vc_if (n := 20) G ?_
  ((repeat (intro (_ : Tok))); refine ⟨by assumption, ?_⟩; (repeat (intro (_ : Tok))))
  refine ⟨fun (h2 : (l.take (b + 1)).drop b = [70]) => ?_, fun (h2 : ¬ (l.take (b + 1)).drop b = [70]) => ?_⟩
  · rw [hs1] at h2
    exact hR.at [] ⟨false, by rw [← hz, if_pos h2], rfl, rfl⟩
  rw [hs1] at h2
  rw [if_neg h2] at hz
  refine sm_raise (n := 20) G (exc82 w) ?_
  (repeat (intro (_ : Tok)))
  exact io_call G ⟨rfl, rfl, hz.symm⟩

end
section
theorem nab95 {x : Int} (h1 : x < 10 ^ 95) (h2 : -1 ≤ x) : x.natAbs < 10 ^ 95 := by lia
theorem stripZ_abs : ∀ (n : Nat) (m e : Int), m.natAbs ≤ n → (stripZ m e).1.natAbs ≤ m.natAbs
  | 0, m, e, h => by
    have : m = 0 := by lia
    subst this; rw [stripZ_zero]; simp
  | n + 1, m, e, h => by
    by_cases h0 : m = 0
    · subst h0; rw [stripZ_zero]; simp
    · by_cases h1 : m % 10 = 0
      · rw [stripZ_ten h0 h1]
        have hl := div10_lt h0 h1
        exact Nat.le_trans (stripZ_abs n (m / 10) (e + 1) (Nat.le_of_lt_succ (Nat.lt_of_lt_of_le hl h))) (Nat.le_of_lt hl)
      · rw [stripZ_not h0 h1]; exact Nat.le_refl _
theorem roundZ_abs (m e : Int) (d : Nat) : (roundZ m e d).1.natAbs ≤ m.natAbs + 1 := by
  unfold roundZ
  split
  · dsimp only
    refine Nat.le_trans (stripZ_abs _ _ _ (Nat.le_refl _)) ?_
    have := Nat.div_le_self m.natAbs (10 ^ (ndN m.natAbs - d))
    have hk : ∀ kk : Nat, kk ≤ m.natAbs + 1 → (if 0 < m then (kk : Int) else -(kk : Int)).natAbs ≤ m.natAbs + 1 := by intro kk h; split <;> lia
    refine hk _ ?_
    split <;> lia
  · exact Nat.le_trans (stripZ_abs _ _ _ (Nat.le_refl _)) (Nat.le_succ _)
noncomputable def powerOf (r : List Nat × List Nat × Bool) : Option Int := if r.2.2 then fieldExp r.2.1 else some 0
noncomputable def readReal (l : List Nat) (dg : Nat) (top : Int) : Except Int (Int × Int) :=
  if solidL l = [] then .ok (0, 0) else
  match readFig (cutExp [] (cutSign (solidL l)).2).1 0 with
  | none => .error 1
  | some p => match powerOf (cutExp [] (cutSign (solidL l)).2) with
    | none => .error 1
    | some x => match realZ ((cutSign (solidL l)).1 * p.1) (x - p.2) dg top with
      | none => .error 2
      | some q => .ok q
theorem cutExp_len : ∀ (l pre : List Nat), (cutExp pre l).1.length ≤ pre.length + l.length ∧ (cutExp pre l).2.1.length ≤ l.length
  | [], pre => by simp [cutExp]
  | c :: r, pre => by
    rw [cutExp]
    split
    · simp
    · split
      · simp
      · have := cutExp_len r (pre ++ [c])
        simp at this ⊢
        lia
theorem figs_bound (l : List Nat) : (figs l 0).2.natAbs ≤ l.length := by
  unfold figs
  split
  · simp
  · have := idx_lt ‹_›
    dsimp only; lia
theorem read_real_con (w : World) (v1 v5 v6 : Value) (l : List Nat) (dg : Nat) (v2 v3 : Value) (hv : IsS v1 l) (hv2 : IsI v2 0) (hv3 : IsI v3 0) (hv5 : IsI v5 dg) (hv6 : IsI v6 38) (hd : dg < 100) (hl : l.length ≤ 90) :
    ConH none w 203 8 [v1, v2, v3, .bool false, v5, v6] [] [] (fun v new => ∃ p, readReal l dg 38 = .ok p ∧ Pr v new p.1 p.2) (fun C code => C = 82 ∧ ∃ c, code = some c ∧ readReal l dg 38 = .error c) := by
  obtain ⟨ta, rfl⟩ := hv
  obtain ⟨tb, rfl⟩ := hv2
  obtain ⟨tc, rfl⟩ := hv3
  obtain ⟨td, rfl⟩ := hv5
  obtain ⟨te, rfl⟩ := hv6
  have C1 := fun v hv => solid_field_con w v l hv (by lia)
  have hz : readReal l dg 38 = readReal l dg 38 := rfl
  conv at hz => rhs; unfold readReal
  have h1 : (solidL l).length ≤ 90 := Nat.le_trans (solidL_len l) hl
  have C2 := fun v hv => cut_sign_con w v (solidL l) hv (by lia)
  have h2 : (cutSign (solidL l)).2.length ≤ 90 := Nat.le_trans (cutSign_len (solidL l)) h1
  have h3 := cutSign_one (solidL l)
  generalize solidL l = sl at *
  generalize cutSign sl = p at *
  obtain ⟨s1, rest⟩ := p
  dsimp only at hz C2 h2 h3
  have C3 := fun v hv => cut_exponent_con w v rest hv (by lia)
  have h4 := cutExp_len rest []
  rw [List.length_nil, Nat.zero_add] at h4
  generalize cutExp [] rest = p at *
  obtain ⟨fg, tail, has⟩ := p
  dsimp only at hz C3 h4
  have C4 := fun v1 v2 hv hv2 => read_figures_con w v1 v2 fg 0 hv hv2 (by lia)
  have C5 := fun v hv => field_exponent_con w v tail hv (by lia)
  have hf : ∀ p, readFig fg 0 = some p → (s1 * p.1).natAbs < 10 ^ 95 ∧ p.2.natAbs ≤ 90 := by
    intro p hp
    have a5 := figs_bound fg
    have a6 := figs_len fg 0
    have a7 := wholeL_lt (figs fg 0).1
    have a8 : (10 : Int) ^ (figs fg 0).1.length ≤ 10 ^ 95 := pow10_le (by lia)
    unfold readFig at hp
    split at hp
    · cases hp
    cases hp
    refine ⟨?_, by dsimp only; lia⟩
    dsimp only
    rw [abs_sg h3]
    exact nab95 (Int.lt_of_lt_of_le a7.1 a8) a7.2
  have hx : ∀ x, powerOf (fg, tail, has) = some x → x.natAbs < 10 ^ 95 := by
    intro x hx
    unfold powerOf at hx
    split at hx
    · have h9 := cutSign_one tail
      have h10 := cutSign_len tail
      have h11 := wholeL_lt (cutSign tail).2
      have h12 : (10 : Int) ^ (cutSign tail).2.length ≤ 10 ^ 95 := pow10_le (by lia)
      dsimp only at hx
      unfold fieldExp at hx
      split at hx
      · cases hx
      cases hx
      rw [abs_sg h9]
      exact nab95 (Int.lt_of_lt_of_le h11.1 h12) h11.2
    · cases hx; decide
  have hp1 : has = true → powerOf (fg, tail, has) = fieldExp tail := fun h => by rw [h]; rfl
  have hp2 : has = false → powerOf (fg, tail, has) = some 0 := fun h => by rw [h]; rfl
  clear h1 h2 h4
  generalize readFig fg 0 = rf at *
  generalize fieldExp tail = fe at *
  generalize powerOf (fg, tail, has) = pw at *
  refine' con_vc (n := 20) ⟨["field", "d", "scale", "is_zero", "digits", "top", "text", "sign", "rest", "figures", "tail", "has_exponent", "number", "places", "power"], [("solid_field", .ref 147), ("cut_sign", .ref 161), ("cut_exponent", .ref 182), ("read_figures", .ref 196), ("field_exponent", .ref 189), ("round_real", .ref 132), ("RunFault", .ref 44), ("IoFault", .ref 82), ("TOO_GREAT", .int 2 381)], [147, 161, 182, 196, 189, 132, 82]⟩ (binds := [("field", .str (S l) ta), ("d", .int 0 tb), ("scale", .int 0 tc), ("is_zero", .bool false), ("digits", .int dg td), ("top", .int 38 te)]) ?hmain
  intro c R G hR
  refine useS G (C1 _ ⟨_, rfl⟩) ?_
  (repeat (intro (_ : Tok)))
  refine vc_if (n := 20) G ?_
  (repeat (intro (_ : Tok)))
  refine ⟨fun (hne : sl = []) => ?_, fun (hne : ¬ sl = []) => ?_⟩
  · rw [if_pos hne] at hz
    intro _ _ _ a _
    exact hR.at [0] ⟨(0, 0), hz, pr_new⟩
  rw [if_neg hne] at hz
  refine use0 G (C2 _ ⟨_, rfl⟩) ?_ (fun _ h => nomatch h) fun _ _ r => r.elim
  intro v new hX4
  refine nnOf fun nO => ?_
  obtain ⟨a, x, y, rfl, rfl, ⟨tx, rfl⟩, ⟨ty, rfl⟩⟩ := hX4 <;> (refine nO ?_; clear nO)
  refine sm_unpack G (.inl (.head _)) rfl rfl ?_
  refine use0 G (C3 _ ⟨_, rfl⟩) ?_ (fun _ h => nomatch h) fun _ _ r => r.elim
  intro v new hX5
  refine nnOf fun nO => ?_
  obtain ⟨a, x, y, rfl, rfl, ⟨tx2, rfl⟩, ⟨ty2, rfl⟩⟩ := hX5 <;> (refine nO ?_; clear nO)
  refine sm_unpack G (.inl (.head _)) rfl rfl ?_
  (repeat (intro (_ : Tok)))
  refine use0 G (C4 _ _ ⟨_, rfl⟩ ⟨_, rfl⟩) ?_ (fun _ h => nomatch h) (fun C code ⟨h1, h2, h3⟩ => ⟨h1, _, h2, by rw [hz, h3]⟩)
  intro v new hX6
  refine nnOf fun nO => ?_
  obtain ⟨⟨n, pl⟩, hp, a3, x3, y3, rfl, rfl, ⟨tx3, rfl⟩, ⟨ty3, rfl⟩⟩ := hX6 <;> (refine nO ?_; clear nO)
  obtain ⟨hf1, hf2⟩ := hf _ hp
  rw [hp] at hz
  dsimp only at hz hf1 hf2
  clear hf hp C1 C2 C3 C4
  refine sm_unpack G (.inl (.head _)) rfl rfl ?_
  refine meet_st (fun K => ∀ (p0 p1 p2 p3 p6 p8 p9 p10 p11 p13 : Option Value) (led : Led) (t : Tok) (x : Int), pw = some x → K ⟨[p0, p1, p2, p3, some (.int dg td), some (.int 38 te), p6, some (.int s1 tx), p8, p9, p10, p11, some (.int n tx3), p13, some (.int (x - pl) t)], led, []⟩) (fun R' hM => ?_) ?_
  · refine vc_if (n := 20) G ?_
    cases has with
    | true =>
      refine use0 G (C5 _ ⟨_, rfl⟩) ?_ (fun _ h => nomatch h) (fun C code ⟨h1, h2, h3⟩ => ⟨h1, _, h2, by rw [hz, hp1 rfl, h3]⟩)
      intro v new hX7
      refine nnOf fun nO => ?_
      obtain ⟨x, hx', ⟨t4, rfl⟩, rfl⟩ := hX7 <;> (refine nO ?_; clear nO)
      (repeat (intro (_ : Tok)))
      exact hM.next fun K h => h _ _ _ _ _ _ _ _ _ _ _ _ x ((hp1 rfl).trans hx')
    | false =>
      (repeat (intro (_ : Tok)))
      exact hM.next fun K h => h _ _ _ _ _ _ _ _ _ _ _ _ 0 (hp2 rfl)
  intro p0 p1 p2 p3 p6 p8 p9 p10 p11 p13 led t5 x hx'
  have hx2 := hx x hx'
  rw [hx'] at hz
  dsimp only at hz
  clear hx hp1 hp2 C5
  have C6 := fun v1 v2 v3 v4 h1 h2 h3 h4 => round_real_con w v1 v2 v3 v4 (s1 * n) (x - pl) dg 38 h1 h2 h3 h4 hd (Nat.lt_trans hf1 (by decide +kernel)) (nab_sub hx2 hf2 (by decide +kernel)) (Nat.lt_of_le_of_lt (roundZ_abs (s1 * n) (x - pl) dg) (Nat.lt_trans (Nat.succ_lt_succ hf1) (by decide +kernel)))
  clear hx2 hf2
  generalize realZ (s1 * n) (x - pl) dg 38 = z at *
  intro h0 tk0 H0
  refine wpAny_Try_except ?_
  refine try_run (n := 20) G (kf := retK R) H0 ?_ ?_
  · intro c' hc' G'
    refine ⟨mul1 h3, ?_⟩
    (repeat (intro (_ : Tok)))
    refine use_try G' (C6 _ _ _ _ ⟨_, rfl⟩ ⟨_, rfl⟩ ⟨_, rfl⟩ ⟨_, rfl⟩) led (fun _ q => q) (fun _ q => nomatch q) (fun _ _ _ _ q => nomatch q) (fun v new p => ?_) fun C code e h1 h' tk' r F x y => ?_
    · obtain ⟨q, rfl, p⟩ := p
      exact hR.ret new ⟨q, hz, p⟩ fun p hp => List.mem_append_left _ hp
    · obtain ⟨rfl, rfl, rfl⟩ := r
      subst hc'
      refine catch_on G (exc44 w) (List.mem_of_getElem? (i := 6) rfl) F x y fun mean mg mb A₀ base g4 h4 oe d vs es nn O H4 => ?_
      exact raise_io_on G O H4 (List.mem_of_getElem? (i := 7) rfl) (List.mem_of_getElem? (i := 6) rfl) (List.mem_of_getElem? (i := 8) rfl) ⟨rfl, 2, rfl, hz⟩ (by decide)
  · intro fl σ' h' tk' H' q
    cases fl with
    | ret v => exact pk_now H' q
    | _ => exact q.elim

end
section
theorem tup_at {g : Heap} {a : Addr} {vs : List Value} (h : g.get? a = some (tupO vs)) : IsTup g a vs.toArray := ⟨_, h, rfl, 0, rfl⟩
theorem fz1 {g : Heap} {a : Addr} {o : Obj} {r : Led} (h : ∀ p ∈ (a, o) :: r, g.get? p.1 = some p.2) : g.get? a = some o := h _ (.head _)
theorem fzT {g : Heap} {p : Addr × Obj} {r : Led} (h : ∀ q ∈ p :: r, g.get? q.1 = some q.2) : ∀ q ∈ r, g.get? q.1 = some q.2 := fun q hq => h q (.tail _ hq)
noncomputable def digK (kind : Int) : Nat := if kind = 1 then 7 else 15
theorem digits_of_con (w : World) (v1 : Value) (kind : Int) (lim dl : Addr) (t u : Nat → Tok) (hv : IsI v1 kind) :
    Con w 139 1 [v1, .ref lim] (limL w.params lim dl t u) [] (fun v new => IsI v (digK kind) ∧ new = []) := by
  obtain ⟨ta, rfl⟩ := hv
  refine' con_vc (n := 20) ⟨["kind", "limits"], [("REAL", .int 1 312)], []⟩ (binds := [("kind", .int kind ta), ("limits", .ref lim)]) ?hmain
  intro c R G hR
  refine ⟨fun (h : kind = 1) => ?_, fun (h : ¬ kind = 1) => ?_⟩
  · exact get_at G (.inr (.head _)) (.inr (.tail _ (.head _))) (by kernel_rfl) rfl rfl (hR.at [] ⟨isI (by unfold digK; rw [if_pos h]; rfl), rfl⟩)
  · exact get_at G (.inr (.head _)) (.inr (.tail _ (.head _))) (by kernel_rfl) rfl rfl (hR.at [] ⟨isI (by unfold digK; rw [if_neg h]; rfl), rfl⟩)
inductive Val where
  | int (n : Int)
  | bool (b : Bool)
  | pair (x y : Int)
noncomputable def ValIs (v : Value) (new : Led) : Val → Prop
  | .int n => IsI v n ∧ new = []
  | .bool b => v = .bool b ∧ new = []
  | .pair x y => Pr v new x y
noncomputable def readKind (kind : Int) (l : List Nat) : Except Int Val :=
  if kind = 0 then (match readInt l with | .ok n => .ok (.int n) | .error c => .error c)
  else if kind = 4 then (match logicalL l with | some b => .ok (.bool b) | none => .error 1)
  else (match readReal l (digK kind) 38 with | .ok p => .ok (.pair p.1 p.2) | .error c => .error c)
noncomputable def ItemOf (kind : Int) (n : Int) (vs : List Value) : Prop :=
  (kind = 0 ∧ ∃ ta tb, vs = [.str "I" ta, .int n tb, .none]) ∨ (kind = 4 ∧ ∃ ta tb, vs = [.str "L" ta, .int n tb]) ∨
  ((kind = 1 ∨ kind = 2) ∧ ((∃ ta tb tc, vs = [.str "F" ta, .int n tb, .int 0 tc]) ∨ (∃ ta tb tc, vs = [.str "E" ta, .int n tb, .int 0 tc, .none]) ∨ (∃ ta tb tc td, vs = [.str "G" ta, .int n tb, .int 0 tc, .int 2 td])))
theorem read_value_con (w : World) (it lim dl : Addr) (t u : Nat → Tok) (kind n : Int) (vs : List Value) (v2 v3 v4 v5 : Value) (l : List Nat) (hi : ItemOf kind n vs) (hv2 : IsI v2 kind) (hv3 : IsI v3 0) (hv4 : IsS v4 l) (hv5 : IsI v5 0) (hl : l.length ≤ 90) :
    ConH none w 224 10 [.ref it, v2, v3, v4, v5, .bool false, .ref lim] ((it, tupO vs) :: limL w.params lim dl t u) [] (fun v new => ∃ x, readKind kind l = .ok x ∧ ValIs v new x)
      (fun C code => C = 82 ∧ ∃ c, code = some c ∧ readKind kind l = .error c) := by
  obtain ⟨tb, rfl⟩ := hv2
  obtain ⟨tc, rfl⟩ := hv3
  obtain ⟨td, rfl⟩ := hv4
  obtain ⟨te, rfl⟩ := hv5
  generalize hz : readKind kind l = z
  unfold readKind at hz
  refine' con_vc (n := 20) ⟨["item", "kind", "length", "field", "scale", "is_zero", "limits", "word"], [("INTEGER", .int 0 310), ("REAL", .int 1 312), ("DOUBLE", .int 2 314), ("LOGICAL", .int 4 318), ("REAL_WORDS", .ref 140), ("read_int", .ref 175), ("read_real", .ref 203), ("read_logical", .ref 210), ("digits_of", .ref 139)], [175, 203, 210, 139]⟩ (binds := [("item", .ref it), ("kind", .int kind tb), ("length", .int 0 tc), ("field", .str (S l) td), ("scale", .int 0 te), ("is_zero", .bool false), ("limits", .ref lim)]) ?hmain
  intro c R G hR
  (repeat (intro (_ : Tok)))
  rcases hi with ⟨rfl, ta, t1, rfl⟩ | ⟨rfl, ta, t1, rfl⟩ | ⟨hk, hw⟩
  · rw [if_pos rfl] at hz
    refine sm_itemT (i := 0) (.inr (.head _)) rfl rfl (by decide) ?_
    refine vc_if (n := 20) G ?_
    (repeat (intro (_ : Tok)))
    refine ⟨fun _ => ?_, fun h => absurd rfl h⟩
    refine ⟨fun _ => ?_, fun h => absurd rfl h⟩
    refine get_at G (.inr (.tail _ (.head _))) (.inr (.tail _ (.tail _ (.head _)))) (by kernel_rfl) rfl rfl ?_
    refine useR G hR (read_int_con w _ _ l ⟨_, rfl⟩ ⟨_, rfl⟩ (by lia)) ?_ (hrai := ?_)
    · rintro v new ⟨m, hm, hv, rfl⟩
      exact ⟨.int m, by rw [← hz, hm], hv, rfl⟩
    · rintro C code ⟨rfl, c, rfl, hr⟩
      exact ⟨rfl, c, rfl, by rw [← hz, hr]⟩
  · rw [if_neg (by decide), if_pos rfl] at hz
    refine sm_itemT (i := 0) (.inr (.head _)) rfl rfl (by decide) ?_
    refine vc_if (n := 20) G ?_
    (repeat (intro (_ : Tok)))
    refine ⟨fun h => absurd h (by decide), fun _ => ?_⟩
    refine vc_if (n := 20) G ?_
    refine in_K (b := false) G (by k_is) rfl (by decide +kernel) ?_
    refine vc_if (n := 20) G ?_
    (repeat (intro (_ : Tok)))
    refine ⟨fun _ => ?_, fun h => absurd rfl h⟩
    refine ⟨fun _ => ?_, fun h => absurd rfl h⟩
    refine useR G hR (read_logical_con w _ l ⟨_, rfl⟩ (by lia)) ?_ (hrai := ?_)
    · rintro v new ⟨m, hm, hv, rfl⟩
      exact ⟨.bool m, by rw [← hz, hm], hv, rfl⟩
    · rintro C code ⟨rfl, rfl, hr⟩
      exact ⟨rfl, 1, rfl, by rw [← hz, hr]⟩
  · rw [if_neg (by lia), if_neg (by lia)] at hz
    have C1 := fun v1 v5 v6 v2 v3 h1 h2 h3 h4 h5 => read_real_con w v1 v5 v6 l (digK kind) v2 v3 h1 h2 h3 h4 h5 (by unfold digK; split <;> lia) hl
    have C2 := fun v1 h1 => digits_of_con w v1 kind lim dl t u h1
    obtain ⟨x, tx, y, ty, tz, rest, rfl, hin, hI⟩ : ∃ x tx y ty tz rest, vs = .str x tx :: .int y ty :: .int 0 tz :: rest ∧ ([Value.str "F" 385, .str "E" 386, .str "D" 387, .str "G" 388].any (eqS x)) = true ∧ ∃ z, x = S [z] ∧ z ≠ 73 := by
      rcases hw with ⟨ta, t1, t2, rfl⟩ | ⟨ta, t1, t2, rfl⟩ | ⟨ta, t1, t2, t3, rfl⟩
      · exact ⟨_, _, _, _, _, _, rfl, by decide +kernel, 70, by decide +kernel, by decide⟩
      · exact ⟨_, _, _, _, _, _, rfl, by decide +kernel, 69, by decide +kernel, by decide⟩
      · exact ⟨_, _, _, _, _, _, rfl, by decide +kernel, 71, by decide +kernel, by decide⟩
    obtain ⟨z0, rfl, hz0⟩ := hI
    refine sm_itemT (i := 0) (.inr (.head _)) rfl rfl (by decide) ?_
    refine vc_if (n := 20) G ?_
    (repeat (intro (_ : Tok)))
    refine ⟨fun (h : [z0] = [73]) => absurd (List.cons.inj h).1 hz0, fun _ => ?_⟩
    refine vc_if (n := 20) G ?_
    refine in_K (b := true) G (by k_is) rfl hin ?_
    (repeat (intro (_ : Tok)))
    refine ⟨fun (h : kind = 1) => ?_, fun (h : ¬ kind = 1) => ?_⟩
    rotate_left
    · (repeat (intro (_ : Tok)))
      refine ⟨fun (h2 : kind = 2) => ?_, fun (h2 : ¬ kind = 2) => (h2 (hk.resolve_left h)).elim⟩
      (repeat (intro (_ : Tok)))
      refine sm_itemT (i := 2) (.inr (.head _)) rfl rfl (by decide) ?_
      refine use0 G (C2 _ ⟨_, rfl⟩) ?_ (fun p hp => .inl (.tail _ hp)) fun _ _ r => r.elim
      rintro v new ⟨⟨t4, rfl⟩, rfl⟩
      refine get_at G (.inr (.tail _ (.head _))) (.inr (.tail _ (.tail _ (.head _)))) (by kernel_rfl) rfl rfl ?_
      refine useR G hR (C1 _ _ _ _ _ ⟨_, rfl⟩ ⟨_, rfl⟩ ⟨_, rfl⟩ ⟨_, rfl⟩ ⟨_, rfl⟩) ?_ (hrai := ?_)
      · rintro v new ⟨p, hp, hv⟩
        exact ⟨.pair p.1 p.2, by rw [← hz, hp], hv⟩
      · rintro C code ⟨rfl, c, rfl, hr⟩
        exact ⟨rfl, c, rfl, by rw [← hz, hr]⟩
    · (repeat (intro (_ : Tok)))
      refine sm_itemT (i := 2) (.inr (.head _)) rfl rfl (by decide) ?_
      refine use0 G (C2 _ ⟨_, rfl⟩) ?_ (fun p hp => .inl (.tail _ hp)) fun _ _ r => r.elim
      rintro v new ⟨⟨t4, rfl⟩, rfl⟩
      refine get_at G (.inr (.tail _ (.head _))) (.inr (.tail _ (.tail _ (.head _)))) (by kernel_rfl) rfl rfl ?_
      refine useR G hR (C1 _ _ _ _ _ ⟨_, rfl⟩ ⟨_, rfl⟩ ⟨_, rfl⟩ ⟨_, rfl⟩ ⟨_, rfl⟩) ?_ (hrai := ?_)
      · rintro v new ⟨p, hp, hv⟩
        exact ⟨.pair p.1 p.2, by rw [← hz, hp], hv⟩
      · rintro C code ⟨rfl, c, rfl, hr⟩
        exact ⟨rfl, c, rfl, by rw [← hz, hr]⟩

end
section
open PySem PySem.W PyProof.Rows PySem.Calls PySem.Spec
noncomputable def dv (l : List Nat) : Nat := l.foldl (fun acc c => acc * 10 + (c - 48)) 0
theorem dv_acc : ∀ (l : List Nat) (a : Nat), l.foldl (fun acc c => acc * 10 + (c - 48)) a = a * 10 ^ l.length + dv l
  | [], a => by simp [dv]
  | c :: r, a => by
    unfold dv
    rw [List.foldl_cons, List.foldl_cons, dv_acc r, dv_acc r (0 * 10 + (c - 48)), List.length_cons, Nat.pow_succ]
    rw [Nat.zero_mul, Nat.zero_add, Nat.add_mul, Nat.mul_assoc, Nat.mul_comm 10, Nat.add_assoc]
theorem dv_app (a b : List Nat) : dv (a ++ b) = dv a * 10 ^ b.length + dv b := by
  have := dv_acc b (dv a)
  unfold dv at *
  rw [List.foldl_append, this]
theorem dv_cons (c : Nat) (r : List Nat) : dv (c :: r) = (c - 48) * 10 ^ r.length + dv r := by
  have := dv_app [c] r
  simpa [dv] using this
theorem dig_iff {c : Nat} : isDig c = true ↔ 48 ≤ c ∧ c ≤ 57 := by unfold isDig; simp
theorem dv_lt : ∀ {l : List Nat}, l.all isDig = true → dv l < 10 ^ l.length
  | [], _ => by simp [dv]
  | c :: r, h => by
    rw [List.all_cons, Bool.and_eq_true, dig_iff] at h
    have ih := dv_lt h.2
    rw [dv_cons, List.length_cons, Nat.pow_succ]
    have : (c - 48) * 10 ^ r.length ≤ 9 * 10 ^ r.length := Nat.mul_le_mul_right _ (by lia)
    lia
theorem valL_acc : ∀ (l : List Nat) (a : Nat), l.all isDig = true → l.foldl (fun (n : Int) (c : Nat) => n * 10 + ((c : Int) - 48)) (a : Int) = ((l.foldl (fun acc c => acc * 10 + (c - 48)) a : Nat) : Int)
  | [], a, _ => rfl
  | c :: r, a, h => by
    rw [List.all_cons, Bool.and_eq_true, dig_iff] at h
    rw [List.foldl_cons, List.foldl_cons, ← valL_acc r _ h.2]
    congr 1
    lia
theorem valL_dv {l : List Nat} (h : l.all isDig = true) : valL l = (dv l : Int) := valL_acc l 0 h
theorem ndN_eq : ∀ {k n : Nat}, 10 ^ k ≤ n → n < 10 ^ (k + 1) → ndN n = k + 1
  | 0, n, h, h' => by
    rw [ndN_pos (by lia), show n / 10 = 0 by lia, ndN_zero]
  | k + 1, n, h, h' => by
    have hp : 0 < 10 ^ (k + 1) := Nat.pow_pos (by decide)
    rw [ndN_pos (by lia), ndN_eq (k := k) (n := n / 10)]
    · rw [Nat.pow_succ] at h; lia
    · rw [Nat.pow_succ] at h'; lia
noncomputable def NoLead (l : List Nat) : Prop := ∀ c r, l = c :: r → c ≠ 48
theorem ndN_dv {l : List Nat} (h : l.all isDig = true) (h0 : NoLead l) : ndN (dv l) = l.length := by
  cases l with
  | nil => exact ndN_zero
  | cons c r =>
    have h2 := dv_lt h
    have h1 := h0 c r rfl
    rw [List.all_cons, Bool.and_eq_true, dig_iff] at h
    refine ndN_eq ?_ h2
    rw [dv_cons]
    have : 1 * 10 ^ r.length ≤ (c - 48) * 10 ^ r.length := Nat.mul_le_mul_right _ (by lia)
    lia
theorem dv_pos {l : List Nat} (h : l.all isDig = true) (h0 : NoLead l) (hn : l ≠ []) : 0 < dv l := by
  rcases Nat.eq_zero_or_pos (dv l) with e | e
  · have := ndN_dv h h0
    rw [e, ndN_zero] at this
    exact absurd (List.eq_nil_of_length_eq_zero this.symm) hn
  · exact e
theorem lex_dv : ∀ {a b : List Nat}, a.all isDig = true → b.all isDig = true → a.length = b.length → (a < b ↔ dv a < dv b)
  | [], [], _, _, _ => by simp
  | [], _ :: _, _, _, h => by simp at h
  | _ :: _, [], _, _, h => by simp at h
  | x :: a, y :: b, ha, hb, h => by
    have hl : a.length = b.length := by simpa using h
    rw [List.all_cons, Bool.and_eq_true, dig_iff] at ha hb
    have ih := lex_dv ha.2 hb.2 hl
    have la := dv_lt ha.2
    have lb := dv_lt hb.2
    rw [List.cons_lt_cons_iff, ih, dv_cons, dv_cons, hl]
    rw [hl] at la
    generalize 10 ^ b.length = p at *
    obtain ⟨x, rfl⟩ : ∃ x', x = x' + 48 := ⟨x - 48, by lia⟩
    obtain ⟨y, rfl⟩ : ∃ y', y = y' + 48 := ⟨y - 48, by lia⟩
    simp only [Nat.add_sub_cancel]
    constructor
    · rintro (h1 | ⟨h1, h2⟩)
      · have : (x + 1) * p ≤ y * p := Nat.mul_le_mul_right _ (by lia)
        rw [Nat.add_mul] at this
        lia
      · rw [show x = y by lia]; lia
    · intro h1
      rcases Nat.lt_trichotomy x y with h2 | h2 | h2
      · left; lia
      · right; refine ⟨by lia, ?_⟩; rw [h2] at h1; lia
      · have : (y + 1) * p ≤ x * p := Nat.mul_le_mul_right _ (by lia)
        rw [Nat.add_mul] at this
        lia
theorem lex_tri : ∀ (a b : List Nat), a < b ∨ a = b ∨ b < a
  | [], [] => .inr (.inl rfl)
  | [], _ :: _ => .inl (by simp)
  | _ :: _, [] => .inr (.inr (by simp))
  | x :: a, y :: b => by
    rcases Nat.lt_trichotomy x y with h | rfl | h
    · exact .inl (List.cons_lt_cons_iff.mpr (.inl h))
    · rcases lex_tri a b with h | rfl | h
      · exact .inl (List.cons_lt_cons_iff.mpr (.inr ⟨rfl, h⟩))
      · exact .inr (.inl rfl)
      · exact .inr (.inr (List.cons_lt_cons_iff.mpr (.inr ⟨rfl, h⟩)))
    · exact .inr (.inr (List.cons_lt_cons_iff.mpr (.inl h)))
theorem dv_inj {a b : List Nat} (ha : a.all isDig = true) (hb : b.all isDig = true) (h : a.length = b.length) (e : dv a = dv b) : a = b := by
  rcases lex_tri a b with q | q | q
  · have := (lex_dv ha hb h).mp q; lia
  · exact q
  · have := (lex_dv hb ha h.symm).mp q; lia
noncomputable def halfL (k : Nat) : List Nat := 53 :: List.replicate k 48
theorem halfL_all (k : Nat) : (halfL k).all isDig = true := by
  unfold halfL
  rw [List.all_cons, Bool.and_eq_true]
  refine ⟨rfl, ?_⟩
  rw [List.all_eq_true]
  intro x hx
  rw [List.eq_of_mem_replicate hx]; rfl
theorem dv_zeros (k : Nat) : dv (List.replicate k 48) = 0 := by
  induction k with
  | zero => rfl
  | succ k ih => rw [List.replicate_succ, dv_cons, ih]; simp
theorem dv_half (k : Nat) : 2 * dv (halfL k) = 10 ^ (k + 1) := by
  unfold halfL
  rw [dv_cons, dv_zeros, List.length_replicate, Nat.pow_succ]
  lia
theorem stripZ_neg : ∀ (n : Nat) (m e : Int), m.natAbs ≤ n → stripZ (-m) e = (-(stripZ m e).1, (stripZ m e).2)
  | 0, m, e, h => by
    have : m = 0 := by lia
    subst this; rw [show (-0 : Int) = 0 from rfl, stripZ_zero]; rfl
  | n + 1, m, e, h => by
    by_cases h0 : m = 0
    · subst h0; rw [show (-0 : Int) = 0 from rfl, stripZ_zero]; rfl
    · by_cases h1 : m % 10 = 0
      · rw [stripZ_ten h0 h1, stripZ_ten (m := -m) (by lia) (by lia), show -m / 10 = -(m / 10) by lia, stripZ_neg n _ _ (by lia)]
      · rw [stripZ_not h0 h1, stripZ_not (m := -m) (by lia) (by lia)]
theorem stripZ_sign {s : Int} (hs : s = 1 ∨ s = -1) (m e : Int) : stripZ (s * m) e = (s * (stripZ m e).1, (stripZ m e).2) := by
  rcases hs with rfl | rfl
  · rw [Int.one_mul, Int.one_mul]
  · rw [show -1 * m = -m by lia, stripZ_neg _ _ _ (Nat.le_refl _), show -1 * (stripZ m e).1 = -(stripZ m e).1 by lia]
theorem stripZ_ne : ∀ (n : Nat) (m e : Int), m.natAbs ≤ n → m ≠ 0 → (stripZ m e).1 ≠ 0
  | 0, m, e, h, h0 => by lia
  | n + 1, m, e, h, h0 => by
    by_cases h1 : m % 10 = 0
    · rw [stripZ_ten h0 h1]; exact stripZ_ne n _ _ (by lia) (by lia)
    · rw [stripZ_not h0 h1]; exact h0
noncomputable def roundM (l : List Nat) (many : Nat) : Nat :=
  if l.drop many ≠ [] ∧ (halfL ((l.drop many).length - 1) < l.drop many ∨ (l.drop many = halfL ((l.drop many).length - 1) ∧ dv (l.take many) % 2 = 1)) then dv (l.take many) + 1 else dv (l.take many)
noncomputable def lawR (l : List Nat) (e : Int) (many : Nat) (s : Int) : Option (Int × Int) :=
  if roundM l many = 0 then some (0, 0) else
  if 38 < (ndN (stripZ (roundM l many : Nat) (e + (l.drop many).length)).1.natAbs : Int) + (stripZ (roundM l many : Nat) (e + (l.drop many).length)).2 - 1 then none else
  if -38 ≤ (ndN (stripZ (roundM l many : Nat) (e + (l.drop many).length)).1.natAbs : Int) + (stripZ (roundM l many : Nat) (e + (l.drop many).length)).2 - 1 then
    some (s * (stripZ (roundM l many : Nat) (e + (l.drop many).length)).1, (stripZ (roundM l many : Nat) (e + (l.drop many).length)).2) else some (0, 0)
theorem all_take {l : List Nat} (n : Nat) (h : l.all isDig = true) : (l.take n).all isDig = true := by
  rw [List.all_eq_true] at h ⊢; exact fun x hx => h x (List.mem_of_mem_take hx)
theorem all_drop {l : List Nat} (n : Nat) (h : l.all isDig = true) : (l.drop n).all isDig = true := by
  rw [List.all_eq_true] at h ⊢; exact fun x hx => h x (List.mem_of_mem_drop hx)
theorem roundZ_law {l : List Nat} (h : l.all isDig = true) (h0 : NoLead l) {s : Int} (hs : s = 1 ∨ s = -1) (e : Int) {many : Nat} :
    roundZ (s * (dv l : Nat)) e many = stripZ (s * (roundM l many : Nat)) (e + (l.drop many).length) := by
  have ha : (s * (dv l : Nat) : Int).natAbs = dv l := by rcases hs with rfl | rfl <;> lia
  unfold roundZ
  rw [ha, ndN_dv h h0]
  by_cases hl : many < l.length
  · rw [if_pos hl]
    dsimp only
    have hsplit : dv l = dv (l.take many) * 10 ^ (l.length - many) + dv (l.drop many) := by
      conv => lhs; rw [← List.take_append_drop many l]
      rw [dv_app, List.length_drop]
    have hr := dv_lt (all_drop many h)
    rw [List.length_drop] at hr
    have hp : 0 < 10 ^ (l.length - many) := Nat.pow_pos (by decide)
    have e1 : dv l / 10 ^ (l.length - many) = dv (l.take many) := by
      rw [hsplit, Nat.mul_comm, Nat.mul_add_div hp, Nat.div_eq_of_lt hr, Nat.add_zero]
    have e2 : dv l % 10 ^ (l.length - many) = dv (l.drop many) := by
      rw [hsplit, Nat.mul_comm, Nat.mul_add_mod, Nat.mod_eq_of_lt hr]
    have hne : l ≠ [] := by rintro rfl; simp at hl
    have hpos := dv_pos h h0 hne
    have hk := dv_half ((l.drop many).length - 1)
    have hlen : (l.drop many).length - 1 + 1 = l.length - many := by rw [List.length_drop]; lia
    rw [hlen] at hk
    have hhl : (halfL ((l.drop many).length - 1)).length = (l.drop many).length := by
      unfold halfL; rw [List.length_cons, List.length_replicate, hlen, List.length_drop]
    have c1 := lex_dv (halfL_all _) (all_drop many h) hhl
    have c2 : l.drop many = halfL ((l.drop many).length - 1) ↔ dv (l.drop many) = dv (halfL ((l.drop many).length - 1)) :=
      ⟨fun q => congrArg dv q, fun q => dv_inj (all_drop many h) (halfL_all _) hhl.symm q⟩
    have hd : l.drop many ≠ [] := by intro q; have := congrArg List.length q; rw [List.length_drop] at this; simp at this; lia
    rw [e1, e2]
    have hc : (if 10 ^ (l.length - many) < 2 * dv (l.drop many) ∨ (2 * dv (l.drop many) = 10 ^ (l.length - many) ∧ dv (l.take many) % 2 = 1) then dv (l.take many) + 1 else dv (l.take many)) = roundM l many := by
      unfold roundM
      by_cases q : 10 ^ (l.length - many) < 2 * dv (l.drop many) ∨ (2 * dv (l.drop many) = 10 ^ (l.length - many) ∧ dv (l.take many) % 2 = 1)
      · rw [if_pos q, if_pos ⟨hd, q.imp (fun z => c1.mpr (by lia)) fun z => ⟨c2.mpr (by lia), z.2⟩⟩]
      · rw [if_neg q, if_neg (fun z => q (z.2.imp (fun z => by have := c1.mp z; lia) fun z => ⟨by have := c2.mp z.1; lia, z.2⟩))]
    rw [hc, List.length_drop]
    congr 1
    rcases hs with rfl | rfl
    · rw [if_pos (by lia), Int.one_mul]
    · rw [if_neg (by lia)]; lia
  · rw [if_neg hl]
    have hd : l.drop many = [] := List.drop_eq_nil_of_le (by lia)
    unfold roundM
    rw [hd, if_neg (fun z => z.1 rfl), List.take_of_length_le (by lia)]
    simp
theorem lawR_eq {l : List Nat} (h : l.all isDig = true) (h0 : NoLead l) {s : Int} (hs : s = 1 ∨ s = -1) (e : Int) {many : Nat} :
    lawR l e many s = realZ (s * (dv l : Nat)) e many 38 := by
  unfold realZ lawR
  rw [roundZ_law h h0 hs e, stripZ_sign hs]
  have hne := fun q => stripZ_ne _ (roundM l many : Nat) (e + (l.drop many).length) (Nat.le_refl _) q
  by_cases hz : roundM l many = 0
  · rw [hz, if_pos rfl]
    rw [show ((0 : Nat) : Int) = 0 from rfl, stripZ_zero]
    simp
  · rw [if_neg hz]
    have hne := hne (by lia)
    generalize stripZ (roundM l many : Nat) (e + (l.drop many).length) = q at *
    obtain ⟨x, y⟩ := q
    dsimp only at *
    have e1 : (s * x).natAbs = x.natAbs := by rcases hs with rfl | rfl <;> lia
    have e2 : s * x ≠ 0 := by rcases hs with rfl | rfl <;> lia
    rw [e1]
    by_cases c1 : y + (ndN x.natAbs : Int) - 1 < -38
    · rw [if_neg (show ¬ 38 < (ndN x.natAbs : Int) + y - 1 by lia), if_neg (show ¬ -38 ≤ (ndN x.natAbs : Int) + y - 1 by lia), if_pos (.inr c1)]
    · rw [if_neg (show ¬ (s * x = 0 ∨ y + (ndN x.natAbs : Int) - 1 < -38) by lia)]
      by_cases c2 : 38 < y + (ndN x.natAbs : Int) - 1
      · rw [if_pos c2, if_pos (show 38 < (ndN x.natAbs : Int) + y - 1 by lia)]
      · rw [if_neg c2, if_neg (show ¬ 38 < (ndN x.natAbs : Int) + y - 1 by lia), if_pos (show -38 ≤ (ndN x.natAbs : Int) + y - 1 by lia)]

end
section
open PySem PySem.W PyProof.Rows PySem.Calls PySem.Spec
noncomputable def decL (n : Nat) : List Nat := (Nat.toDigits 10 n).map Char.toNat
theorem str_dec (n : Nat) : PySem.Str.ofString (toString (n : Int)) = S (decL n) := by
  rw [← S_eta (PySem.Str.ofString (toString (n : Int))), KIN.signs_num]; rfl
theorem decL_dv (n : Nat) : dv (decL n) = n := KIN.val_back n
theorem decL_all (n : Nat) : (decL n).all isDig = true := by
  rw [List.all_eq_true]
  intro c hc
  obtain ⟨ch, hch, rfl⟩ := List.mem_map.mp hc
  have h1 := Nat.isDigit_of_mem_toDigits (b := 10) (by decide) (by decide) hch
  rw [dig_iff]
  unfold Char.isDigit at h1
  simp only [Bool.and_eq_true, decide_eq_true_eq] at h1
  obtain ⟨h1, h2⟩ := h1
  have h1 := UInt32.le_iff_toNat_le.mp h1
  have h2 := UInt32.le_iff_toNat_le.mp h2
  exact ⟨h1, h2⟩
theorem decL_step {n : Nat} (h : ¬ n < 10) : (decL n).length = (decL (n / 10)).length + 1 := by
  unfold decL
  have hm : n % 10 < 10 := Nat.mod_lt n (by decide)
  have t : Nat.toDigits 10 (n / 10) ++ Nat.toDigits 10 (n % 10) = Nat.toDigits 10 (10 * (n / 10) + n % 10) := Nat.toDigits_append_toDigits (by decide) (by lia) hm
  rw [Nat.div_add_mod] at t
  rw [← t, List.map_append, Nat.toDigits_of_lt_base hm]
  simp
theorem decL_len : ∀ (n : Nat), (decL n).length = if n = 0 then 1 else ndN n := by
  intro n
  induction n using Nat.strongRecOn with
  | _ n ih =>
    by_cases h : n < 10
    · unfold decL
      rw [Nat.toDigits_of_lt_base h]
      by_cases h0 : n = 0
      · rw [if_pos h0]; rfl
      · rw [if_neg h0, ndN_pos h0, show n / 10 = 0 by lia, ndN_zero]; rfl
    · rw [decL_step h, ih (n / 10) (by lia), if_neg (by lia), if_neg (by lia), ndN_pos (n := n) (by lia)]
theorem decL_ne (n : Nat) : decL n ≠ [] := fun e => by
  have h := decL_len n
  rw [e] at h
  split at h
  · cases h
  · rw [ndN_pos ‹_›] at h; cases h
theorem decL_le {n k : Nat} (h : n < 10 ^ k) (hk : 0 < k) : (decL n).length ≤ k := by
  rw [decL_len]
  split
  · exact hk
  · exact ndN_le h

theorem wholeL_dv {l : List Nat} (h : l.all isDig = true) (hn : l ≠ []) : wholeL l = (dv l : Int) := by
  unfold wholeL
  rw [if_neg hn, if_pos h, valL_dv h]
noncomputable def Sgn (sg : List Nat) (s : Int) : Prop := (sg = [] ∧ s = 1) ∨ (sg = [45] ∧ s = -1) ∨ (sg = [43] ∧ s = 1)
theorem Sgn.one {sg : List Nat} {s : Int} (h : Sgn sg s) : s = 1 ∨ s = -1 := by
  rcases h with ⟨_, h⟩ | ⟨_, h⟩ | ⟨_, h⟩
  · exact .inl h
  · exact .inr h
  · exact .inl h
theorem cutSign_text {sg : List Nat} {s : Int} (h : Sgn sg s) {b : List Nat} (hb : ∀ c r, b = c :: r → c ≠ 45 ∧ c ≠ 43) : cutSign (sg ++ b) = (s, b) := by
  rcases h with ⟨rfl, rfl⟩ | ⟨rfl, rfl⟩ | ⟨rfl, rfl⟩
  · unfold cutSign
    cases b with
    | nil => rfl
    | cons c r =>
      obtain ⟨h1, h2⟩ := hb c r rfl
      simp [h1, h2]
  · rfl
  · rfl
theorem dig_head {l : List Nat} (h : l.all isDig = true) : ∀ c r, l = c :: r → c ≠ 45 ∧ c ≠ 43 := by
  rintro c r rfl
  rw [List.all_cons, Bool.and_eq_true, dig_iff] at h
  lia
theorem cutExp_figs : ∀ (f pre suf : List Nat), (∀ c ∈ f, c ≠ 69 ∧ c ≠ 68 ∧ c ≠ 43 ∧ c ≠ 45) → cutExp pre (f ++ suf) = cutExp (pre ++ f) suf
  | [], pre, suf, _ => by simp
  | c :: f, pre, suf, h => by
    have hc := h c (.head _)
    rw [List.cons_append, cutExp, if_neg (by lia), if_neg (by lia), cutExp_figs f (pre ++ [c]) suf fun x hx => h x (.tail _ hx)]
    simp
theorem fieldExp_dec {sg : List Nat} {s : Int} (h : Sgn sg s) {l : List Nat} (hl : l.all isDig = true) (hn : l ≠ []) : fieldExp (sg ++ l) = some (s * (dv l : Nat)) := by
  unfold fieldExp
  rw [cutSign_text h (dig_head hl)]
  dsimp only
  rw [wholeL_dv hl hn, if_neg (by lia)]
noncomputable def Suf (suf : List Nat) (p : Int) : Prop := (suf = [] ∧ p = 0) ∨ (∃ c r, suf = c :: r ∧ (c = 69 ∨ c = 68) ∧ fieldExp r = some p) ∨ (∃ c r, suf = c :: r ∧ (c = 43 ∨ c = 45) ∧ fieldExp (c :: r) = some p)
theorem cutExp_suf {f suf : List Nat} {p : Int} (h : Suf suf p) : (cutExp f suf).1 = f ∧ powerOf (cutExp f suf) = some p := by
  rcases h with ⟨rfl, rfl⟩ | ⟨c, r, rfl, hc, hp⟩ | ⟨c, r, rfl, hc, hp⟩
  · exact ⟨rfl, rfl⟩
  · rw [cutExp, if_pos hc]; exact ⟨rfl, hp⟩
  · rw [cutExp, if_neg (by lia), if_pos hc]; exact ⟨rfl, hp⟩
theorem idx_none {l : List Nat} {c : Nat} (h : c ∉ l) : l.idxOf? c = none := List.idxOf?_eq_none_iff.mpr h
theorem idx_app {a b : List Nat} {c : Nat} (h : c ∉ a) : (a ++ c :: b).idxOf? c = some a.length := by
  rw [List.idxOf?, List.findIdx?_eq_some_iff_getElem]
  refine ⟨by simp, by simp, fun j hj => ?_⟩
  rw [List.getElem_append_left hj]
  have := List.getElem_mem hj
  simp only [beq_iff_eq]
  intro e
  exact h (e ▸ this)
theorem dig_no {l : List Nat} {c : Nat} (h : l.all isDig = true) (hc : c < 48 ∨ 57 < c) : c ∉ l := fun q => by
  rw [List.all_eq_true] at h
  have := dig_iff.mp (h c q)
  lia
theorem figs_plain {l : List Nat} (h : l.all isDig = true) : figs l 0 = (l, 0) := by
  unfold figs
  rw [idx_none (dig_no h (.inl (by decide)))]
theorem figs_point {a b : List Nat} (h : a.all isDig = true) : figs (a ++ 46 :: b) 0 = (a ++ b, (b.length : Int)) := by
  unfold figs
  rw [idx_app (dig_no h (.inl (by decide)))]
  dsimp only
  rw [List.take_left' rfl, List.drop_append, List.drop_eq_nil_of_le (Nat.le_succ _)]
  simp
  lia
theorem solidL_none {l : List Nat} (h : ∀ c ∈ l, c ≠ 32) : solidL l = l := List.filter_eq_self.mpr fun c hc => by simp [h c hc]
theorem readReal_text {sg : List Nat} {s : Int} (hs : Sgn sg s) {f ds : List Nat} {places : Int} (hf : figs f 0 = (ds, places)) (hfc : ∀ c ∈ f, isDig c = true ∨ c = 46) (hne : f ≠ []) (hd : ds.all isDig = true) (hdn : ds ≠ [])
    {suf : List Nat} {p : Int} (hS : Suf suf p) (hsp : ∀ c ∈ suf, c ≠ 32) (dg : Nat) :
    readReal (sg ++ (f ++ suf)) dg 38 = match realZ (s * (dv ds : Nat)) (p - places) dg 38 with | none => .error 2 | some q => .ok q := by
  have hfx : ∀ c ∈ f, c ≠ 69 ∧ c ≠ 68 ∧ c ≠ 43 ∧ c ≠ 45 ∧ c ≠ 32 := fun c hc => by
    rcases hfc c hc with q | q
    · have := dig_iff.mp q; lia
    · lia
  have h1 : solidL (sg ++ (f ++ suf)) = sg ++ (f ++ suf) := solidL_none fun c hc => by
    rcases List.mem_append.mp hc with q | q
    · rcases hs with ⟨rfl, _⟩ | ⟨rfl, _⟩ | ⟨rfl, _⟩ <;> simp at q <;> lia
    · rcases List.mem_append.mp q with q | q
      · exact (hfx c q).2.2.2.2
      · exact hsp c q
  have h2 : cutSign (sg ++ (f ++ suf)) = (s, f ++ suf) := cutSign_text hs fun c r e => by
    cases f with
    | nil => exact absurd rfl hne
    | cons x f =>
      have : x = c := by simpa using congrArg List.head? e
      subst this
      have := hfx x (.head _)
      lia
  have h3 := cutExp_figs f [] suf fun c hc => ⟨(hfx c hc).1, (hfx c hc).2.1, (hfx c hc).2.2.1, (hfx c hc).2.2.2.1⟩
  rw [List.nil_append] at h3
  obtain ⟨h4, h5⟩ := cutExp_suf (f := f) hS
  have h6 : readFig f 0 = some ((dv ds : Int), places) := by
    unfold readFig
    rw [hf]
    dsimp only
    rw [wholeL_dv hd hdn, if_neg (by lia)]
  unfold readReal
  rw [h1, if_neg (by cases f with | nil => exact absurd rfl hne | cons x f => simp), h2]
  dsimp only
  rw [h3, h4, h6]
  dsimp only
  rw [h5]
  all_goals dsimp only
  all_goals cases realZ (s * (dv ds : Nat)) (p - places) dg 38 <;> rfl
theorem readInt_text {sg : List Nat} {s : Int} (hs : Sgn sg s) {ds : List Nat} (hd : ds.all isDig = true) (hdn : ds ≠ []) :
    readInt (sg ++ ds) = if inW (s * (dv ds : Nat)) then .ok (s * (dv ds : Nat)) else .error 2 := by
  have h1 : solidL (sg ++ ds) = sg ++ ds := solidL_none fun c hc => by
    rcases List.mem_append.mp hc with q | q
    · rcases hs with ⟨rfl, _⟩ | ⟨rfl, _⟩ | ⟨rfl, _⟩ <;> simp at q <;> lia
    · exact fun e => dig_no hd (c := 32) (.inl (by decide)) (e ▸ q)
  unfold readInt
  rw [h1, if_neg (by simp [hdn]), cutSign_text hs (dig_head hd)]
  dsimp only
  rw [wholeL_dv hd hdn, if_neg (by lia)]
theorem solidL_blank (k : Nat) (l : List Nat) : solidL (List.replicate k 32 ++ l) = solidL l := by
  unfold solidL
  rw [List.filter_append, List.filter_eq_nil_iff.mpr, List.nil_append]
  intro c hc
  rw [List.eq_of_mem_replicate hc]; decide
theorem logicalL_blank (k : Nat) (l : List Nat) : logicalL (List.replicate k 32 ++ l) = logicalL l := by
  have : ∀ k, (List.replicate k 32 ++ l).dropWhile (· == 32) = l.dropWhile (· == 32) := fun k => by
    induction k with
    | zero => rfl
    | succ k ih => rw [List.replicate_succ, List.cons_append, List.dropWhile_cons, if_pos (by decide), ih]
  unfold logicalL
  rw [this]
theorem readKind_blank (kind : Int) (k : Nat) (l : List Nat) : readKind kind (List.replicate k 32 ++ l) = readKind kind l := by
  unfold readKind readInt readReal
  rw [solidL_blank, logicalL_blank]
noncomputable def Safe (l : List Nat) : Prop := ∀ c ∈ l, c = 43 ∨ c = 45 ∨ c = 46 ∨ 48 ≤ c
structure FieldOK (kind : Int) (text : List Nat) (fell : Int) (x : Option Val) : Prop where
  intro ::
  ne : text ≠ []
  len : text.length ≤ 60
  safe : Safe text
  read : (fell = 0 ∧ ∃ y, x = some y ∧ readKind kind text = .ok y) ∨ (fell ≠ 0 ∧ x = none ∧ readKind kind text = .error fell)
theorem Safe.app {a b : List Nat} (ha : Safe a) (hb : Safe b) : Safe (a ++ b) := fun c hc => (List.mem_append.mp hc).elim (ha c) (hb c)
theorem Safe.dig {l : List Nat} (h : l.all isDig = true) : Safe l := fun c hc => by
  rw [List.all_eq_true] at h
  have := dig_iff.mp (h c hc)
  lia
theorem Safe.cons {c : Nat} {l : List Nat} (h : c = 43 ∨ c = 45 ∨ c = 46 ∨ 48 ≤ c) (hl : Safe l) : Safe (c :: l) := fun x hx => (List.mem_cons.mp hx).elim (fun e => e ▸ h) (hl x)
theorem Safe.nil : Safe [] := fun _ h => nomatch h
theorem Sgn.safe {sg : List Nat} {s : Int} (h : Sgn sg s) : Safe sg := by
  rcases h with ⟨rfl, _⟩ | ⟨rfl, _⟩ | ⟨rfl, _⟩
  · exact Safe.nil
  · exact Safe.cons (by decide) Safe.nil
  · exact Safe.cons (by decide) Safe.nil
theorem Sgn.len {sg : List Nat} {s : Int} (h : Sgn sg s) : sg.length ≤ 1 := by
  rcases h with ⟨rfl, _⟩ | ⟨rfl, _⟩ | ⟨rfl, _⟩ <;> decide
theorem field_int {sg : List Nat} {s : Int} (hs : Sgn sg s) {ds : List Nat} (hd : ds.all isDig = true) (hdn : ds ≠ []) (hl : ds.length ≤ 20) {n : Int} (hn : n = s * (dv ds : Nat)) :
    (inW n = true → FieldOK 0 (sg ++ ds) 0 (some (.int n))) ∧ (inW n = false → FieldOK 0 (sg ++ ds) 2 none) := by
  have h := readInt_text hs hd hdn
  have h2 : (sg ++ ds).length ≤ 60 := by have := hs.len; rw [List.length_append]; lia
  have h3 : sg ++ ds ≠ [] := by simp [hdn]
  rw [← hn] at h
  refine ⟨fun q => ⟨h3, h2, hs.safe.app (Safe.dig hd), .inl ⟨rfl, _, rfl, ?_⟩⟩, fun q => ⟨h3, h2, hs.safe.app (Safe.dig hd), .inr ⟨by decide, rfl, ?_⟩⟩⟩
  · unfold readKind; rw [if_pos rfl, h, if_pos q]
  · unfold readKind; rw [if_pos rfl, h, if_neg (by rw [q]; decide)]
theorem field_real {kind : Int} (hk : kind = 1 ∨ kind = 2) {sg : List Nat} {s : Int} (hs : Sgn sg s) {f ds : List Nat} {places : Int} (hf : figs f 0 = (ds, places)) (hfc : ∀ c ∈ f, isDig c = true ∨ c = 46) (hne : f ≠ []) (hd : ds.all isDig = true) (hdn : ds ≠ [])
    {suf : List Nat} {p : Int} (hS : Suf suf p) (hsp : Safe suf) (hl : f.length + suf.length ≤ 59) :
    (∀ q, realZ (s * (dv ds : Nat)) (p - places) (digK kind) 38 = some q → FieldOK kind (sg ++ (f ++ suf)) 0 (some (.pair q.1 q.2))) ∧
    (realZ (s * (dv ds : Nat)) (p - places) (digK kind) 38 = none → FieldOK kind (sg ++ (f ++ suf)) 2 none) := by
  have h := readReal_text hs hf hfc hne hd hdn hS (fun c hc => by have := hsp c hc; lia) (digK kind)
  have h2 : (sg ++ (f ++ suf)).length ≤ 60 := by have := hs.len; rw [List.length_append, List.length_append]; lia
  have h3 : sg ++ (f ++ suf) ≠ [] := by simp [hne]
  have h4 : Safe (sg ++ (f ++ suf)) := hs.safe.app (Safe.app (fun c hc => (hfc c hc).elim (fun q => by have := dig_iff.mp q; lia) (fun q => by lia)) hsp)
  have h5 : readKind kind (sg ++ (f ++ suf)) = match readReal (sg ++ (f ++ suf)) (digK kind) 38 with | .ok p => .ok (.pair p.1 p.2) | .error c => .error c := by
    unfold readKind; rw [if_neg (by lia), if_neg (by lia)]
    all_goals cases readReal (sg ++ (f ++ suf)) (digK kind) 38 <;> rfl
  rw [h] at h5
  refine ⟨fun q hq => ⟨h3, h2, h4, .inl ⟨rfl, _, rfl, ?_⟩⟩, fun hq => ⟨h3, h2, h4, .inr ⟨by decide, rfl, ?_⟩⟩⟩
  · rw [h5, hq]
  · rw [h5, hq]
theorem fold_rep (c : Nat) : ∀ (k : Nat) (a : Array Nat), (List.replicate k #[c]).foldl (· ++ ·) a = a ++ (List.replicate k c).toArray
  | 0, a => by simp
  | k + 1, a => by
    rw [List.replicate_succ, List.foldl_cons, fold_rep c k, List.replicate_succ]
    apply Array.ext'
    simp
theorem mul_S (c : Nat) (k : Int) : Txt.mul (S [c]) k = S (List.replicate k.toNat c) := by
  unfold Txt.mul
  split
  · rw [show k.toNat = 0 by lia]; rfl
  · split
    · rename_i h1 h
      rw [S_len] at h
      simp at h
      subst h
      rfl
    · apply Str.ext'
      show (List.replicate k.toNat #[c]).foldl (· ++ ·) #[] = _
      rw [fold_rep]
      simp [S]
open PySem.NumText in
theorem int_text {l : List Nat} (h : l.all isDig = true) (hn : l ≠ []) (hl : l.length ≤ 640) : PySem.intText? (S l) = some ((dv l : Nat) : Int) :=
  intText_digits (x := S l) (fun c hc => dig_iff.mp (List.all_eq_true.mp h c hc)) (by rw [S_cps]; exact hn) (by rw [S_len]; lia)

end
section
open PySem PySem.W PyProof.Rows PySem.Calls PySem.Spec
section
variable {w : World} {T : Fn} {c : Cx} {kk n : Nat} {rai : Addr → Option Int → Prop} {σ : St} {k : KV} {kf : Flow → St → Prop}
theorem sm_strI {x : Nat} {t : Tok} (hx : x < 2 ^ 100) (h : ∀ t, k (.str (S (decL x)) t) σ) : Sm w T c σ (call (.type "str") [.int (x : Int) t]) k := fun _ _ H => PySem.P.str_of_int (by
  by_cases e : x = 0
  · subst e; decide
  · rw [Int.natAbs_natCast]
    exact Nat.lt_trans ((Nat.log2_lt e).mpr hx) (by decide)) (pk_now (tk := _ + 1) H ((str_dec x).symm ▸ h _))
theorem sm_intT {l : List Nat} {t : Tok} {x : Int} (hx : PySem.intText? (S l) = some x) (hl : l.length ≤ 640) (h : ∀ t, k (.int x t) σ) : Sm w T c σ (call (.type "int") [.str (S l) t]) k := fun _ _ H => KIN.call_text hx (by rw [S_len]; exact hl) (pk_now (tk := _ + 1) H (h _))
theorem times_ok (c0 : Nat) {x : Int} (h0 : -10 ≤ x) (hx : x ≤ 1000) : MulOk (S [c0]) x := by
  refine ⟨by simp; lia, fun h1 _ => ?_, fun h1 _ => ?_⟩
  · rw [S_len]
    have : (1 : Int) ≤ (2 ^ 63 - 1) / x := (Int.le_ediv_iff_mul_le (by lia)).mpr (by lia)
    simp only [List.length_cons, List.length_nil]
    lia
  · rw [S_len]
    show decide (_ > sizeLine) = false
    have : sizeLine = 16777216 := by decide
    simp only [List.length_cons, List.length_nil]
    rw [decide_eq_false_iff_not]; lia
theorem sm_times (c0 : Nat) {t u : Tok} {x : Int} (h0 : -10 ≤ x) (hx : x ≤ 1000) (h : ∀ t, k (.str (S (List.replicate x.toNat c0)) t) σ) : Sm w T c σ (binaryOp .Mult (.str (S [c0]) t) (.int x u)) k := fun _ _ H => SB.mul (times_ok c0 h0 hx) fun t' tk => by rw [mul_S]; exact pk_now H (h t')
noncomputable def eqI (x : Int) : Value → Bool
  | .int y _ => y == x
  | _ => false
theorem in_two {a : Addr} {y1 y2 x : Int} {t1 t2 u : Tok} (ha : Has σ (a, tupO [Value.int y1 t1, Value.int y2 t2])) (h1 : x = y1 ∨ x = y2 → k (.bool true) σ) (h2 : ¬ (x = y1 ∨ x = y2) → k (.bool false) σ) : Sm w T c σ (compareOp .In (.int x u) (.ref a)) k := fun _ _ H => by
  refine PySem.SeqAt.in_tupleAt (eqI x) ⟨_, ha.at H, rfl, 0, rfl⟩ (fun y hy => ?_) (pk_now H ?_)
  · have hy : y = .int y1 t1 ∨ y = .int y2 t2 := by simpa using hy
    rcases hy with rfl | rfl <;> exact PySem.SeqAt.EqAt.int_int _ _ _ _
  · have e : (#[Value.int y1 t1, Value.int y2 t2].any (eqI x)) = ((y1 == x) || (y2 == x)) := by
      rw [← Array.any_toList]
      show (y1 == x || (y2 == x || false)) = _
      rw [Bool.or_false]
    show k (.bool (#[Value.int y1 t1, Value.int y2 t2].any (eqI x))) σ
    rw [e]
    refine two_ways (a := True) (b := True) (p := fun r => k (.bool r) σ) (P := x = y1 ∨ x = y2) ?_ ⟨h1, h2⟩
    rw [Bool.or_eq_true, beq_iff_eq, beq_iff_eq]
    exact ⟨fun q => q.imp Eq.symm Eq.symm, fun q => q.imp Eq.symm Eq.symm⟩
end

end
section
theorem list_at {g : Heap} {a : Addr} {vs : Array Value} {n : Nat} (h : g.get? a = some (listOf vs n)) : g.IsList a vs := ⟨_, h, rfl, n, rfl⟩
theorem ne_of_beqS {x : List Nat} {y : PySem.Str} (h : ((S x) == y) = false) (l : List Nat) (e : S l = y) : x ≠ l := fun q => by
  subst q; subst e; simp at h
theorem ctl_used {P : Params} {ctl dc fl cl : Addr} {at_ : Int} {u u' : Bool} {t : Nat → Tok} {ta tb : Tok} (e : u = u') : ctlL P ctl dc fl cl at_ u t ta tb = ctlL P ctl dc fl cl at_ u' t ta tb := e ▸ rfl
theorem next_record_con (w : World) (src ds lr : Addr) (recs : List Value) (nn : Nat) (a : Nat) (t0 t1 ta tr : Tok) (rec : List Nat) (hr : recs[a]? = some (.str (S rec) tr)) (hn : recs.length ≤ 1000) (hne : src ≠ ds) :
    Con w 519 2 [.ref src] [(lr, listOf recs.toArray nn)] (srcL w.params src ds lr a t0 t1 ta) (fun v new => v = .str (S rec) tr ∧ ∃ tb, new = srcL w.params src ds lr (a + 1) t0 t1 tb) := by
  have ha : a < recs.length := (List.getElem?_eq_some_iff.mp hr).1
  refine' con_vc (n := 20) ⟨["self"], [("len", .builtin "len")], []⟩ (binds := [("self", .ref src)]) ?hmain
  intro c0 R G hR
  refine vc_if (n := 20) G ?_
  refine get_at G (.inl (.head _)) (.inl (.tail _ (.head _))) (by kernel_rfl) rfl rfl ?_
  refine get_at G (.inl (.head _)) (.inl (.tail _ (.head _))) (by kernel_rfl) rfl rfl ?_
  refine sm_lenL (.inr (.head _)) (Nat.le_trans hn (by decide)) ?_
  (repeat (intro (_ : Tok)))
  refine ⟨fun (h : (recs.length : Int) ≤ a) => absurd (Int.ofNat_lt.mpr ha) (Int.not_lt.mpr h), fun _ => ?_⟩
  refine get_at G (.inl (.head _)) (.inl (.tail _ (.head _))) (by kernel_rfl) rfl rfl ?_
  (repeat (intro (_ : Tok)))
  refine set_at G [_] rfl (.inl (.head _)) (by kernel_rfl) rfl rfl (fun _ => rfl) fun tk => ?_
  refine get_at G (.inl (.head _)) (.inl (.tail _ (.head _))) (by kernel_rfl) rfl rfl ?_
  refine get_at G (.inl (.head _)) (.inl (.tail _ (.head _))) (by kernel_rfl) rfl rfl ?_
  (repeat (intro (_ : Tok)))
  refine sm_itemZ a (Int.add_sub_cancel _ _) (.inr (.head _)) rfl hr (Nat.lt_of_lt_of_le ha (Nat.le_trans hn (by decide))) ?_
  exact hR.at [0, 1] ⟨rfl, _, rfl⟩
theorem next_item_con (w : World) (ctl dc fl cl it : Addr) (used : Bool) (t : Nat → Tok) (ta tb tw : Tok) (flat rest : List Value) (nn i : Nat) (wd : PySem.Str) (dat : Bool) (hi : flat[i]? = some (.ref it)) (hn : flat.length ≤ 1000) (hne : ctl ≠ dc)
    (h1 : (wd == PySem.Str.ofString "begin") = false) (h2 : (wd == PySem.Str.ofString "end") = false) (h3 : (wd == PySem.Str.ofString ":") = false) (h4 : ([PySem.Str.ofString "I", "F", "E", "D", "G", "L", "A"].any (· == wd)) = dat) :
    Con w 393 2 [.ref ctl, .bool true] [(fl, listOf flat.toArray nn), (it, tupO (.str wd tw :: rest))] (ctlL w.params ctl dc fl cl i used t ta tb) (fun v new => v = .ref it ∧ ∃ tc, new = ctlL w.params ctl dc fl cl (i + 1) (used || dat) t ta tc) := by
  have ha : i < flat.length := (List.getElem?_eq_some_iff.mp hi).1
  obtain ⟨⟨wl⟩⟩ := wd
  have k1 : wl ≠ [98, 101, 103, 105, 110] := ne_of_beqS h1 _ (by kernel_rfl)
  have k2 : wl ≠ [101, 110, 100] := ne_of_beqS h2 _ (by kernel_rfl)
  have k3 : wl ≠ [58] := ne_of_beqS h3 _ (by kernel_rfl)
  clear h1 h2 h3
  refine' con_vc (n := 20) ⟨["self", "has_value", "entry", "word"], [("len", .builtin "len"), ("DATA_WORDS", .ref 358)], []⟩ (binds := [("self", .ref ctl), ("has_value", .bool true)]) ?hmain
  intro c0 R G hR
  refine sm_while (n := 20) G (fun _ K => K ⟨[some (.ref ctl), some (.bool true), none, none], _, _⟩) (n0 := 0) (fun K h => h) (fun c' R' m G hL => ?_)
  refine vc_if (n := 20) G ?_
  refine get_at G (.inl (.head _)) (.inl (.tail _ (.head _))) (by kernel_rfl) rfl rfl ?_
  refine get_at G (.inl (.head _)) (.inl (.tail _ (.head _))) (by kernel_rfl) rfl rfl ?_
  refine sm_lenL (.inr (.head _)) (Nat.le_trans hn (by decide)) ?_
  (repeat (intro (_ : Tok)))
  refine ⟨fun (h : (i : Int) = flat.length) => absurd (Int.ofNat_inj.mp h) (Nat.ne_of_lt ha), fun _ => ?_⟩
  refine get_at G (.inl (.head _)) (.inl (.tail _ (.head _))) (by kernel_rfl) rfl rfl ?_
  refine get_at G (.inl (.head _)) (.inl (.tail _ (.head _))) (by kernel_rfl) rfl rfl ?_
  refine sm_item (.inr (.head _)) rfl hi (Nat.lt_of_lt_of_le ha (Nat.le_trans hn (by decide))) ?_
  (repeat (intro (_ : Tok)))
  refine sm_itemT (i := 0) (.inr (.tail _ (.head _))) rfl rfl (by decide) ?_
  refine vc_if (n := 20) G ?_
  (repeat (intro (_ : Tok)))
  refine ⟨fun h => absurd h k1, fun _ => ?_⟩
  refine vc_if (n := 20) G ?_
  (repeat (intro (_ : Tok)))
  refine ⟨fun h => absurd h k2, fun _ => ?_⟩
  refine vc_if (n := 20) G ?_
  refine get_at G (.inl (.head _)) (.inl (.tail _ (.head _))) (by kernel_rfl) rfl rfl ?_
  (repeat (intro (_ : Tok)))
  refine set_at G [_] rfl (.inl (.head _)) (by kernel_rfl) rfl rfl (fun _ => rfl) fun tk => ?_
  refine vc_if (n := 20) G ?_
  refine in_K G (by k_is) rfl h4 ?_
  refine two_by (fun hd => ?_) (fun hd => ?_)
  · refine set_at G [_] rfl (.inl (.head _)) (by kernel_rfl) rfl rfl (fun _ => rfl) fun tk => ?_
    refine vc_if (n := 20) G ?_
    (repeat (intro (_ : Tok)))
    refine ⟨fun _ => ?_, fun h => absurd k3 h⟩
    exact hL.ret (hR.at [0, 1] ⟨rfl, _, ctl_used (u := true) (by rw [hd, Bool.or_true])⟩)
  · refine vc_if (n := 20) G ?_
    (repeat (intro (_ : Tok)))
    refine ⟨fun _ => ?_, fun h => absurd k3 h⟩
    exact hL.ret (hR.at [0, 1] ⟨rfl, _, ctl_used (u := used) (by rw [hd, Bool.or_false])⟩)
theorem next_item_end (w : World) (ctl dc fl cl : Addr) (used : Bool) (t : Nat → Tok) (ta tb : Tok) (flat : List Value) (nn : Nat) (hn : flat.length ≤ 1000) (hne : ctl ≠ dc) :
    Con w 393 2 [.ref ctl, .bool false] [(fl, listOf flat.toArray nn)] (ctlL w.params ctl dc fl cl flat.length used t ta tb) (fun v new => v = .none ∧ new = ctlL w.params ctl dc fl cl flat.length used t ta tb) := by
  refine' con_vc (n := 20) ⟨["self", "has_value", "entry", "word"], [("len", .builtin "len")], []⟩ (binds := [("self", .ref ctl), ("has_value", .bool false)]) ?hmain
  intro c0 R G hR
  refine sm_while (n := 20) G (fun _ K => K ⟨[some (.ref ctl), some (.bool false), none, none], _, _⟩) (n0 := 0) (fun K h => h) (fun c' R' m G hL => ?_)
  refine vc_if (n := 20) G ?_
  refine get_at G (.inl (.head _)) (.inl (.tail _ (.head _))) (by kernel_rfl) rfl rfl ?_
  refine get_at G (.inl (.head _)) (.inl (.tail _ (.head _))) (by kernel_rfl) rfl rfl ?_
  refine sm_lenL (.inr (.head _)) (Nat.le_trans hn (by decide)) ?_
  (repeat (intro (_ : Tok)))
  refine ⟨fun _ => ?_, fun h => absurd rfl h⟩
  refine vc_if (n := 20) G ?_
  exact hL.ret (hR.at [0, 1] ⟨rfl, rfl⟩)
theorem sm_times0 {w : World} {T : Fn} {c : Cx} {k : KV} {σ : St} {t u : Tok} {x : Int} (hx : x = 0) (h : ∀ t, k (.str (S []) t) σ) : Sm w T c σ (binaryOp .Mult (.str (S [32]) t) (.int x u)) k := fun _ _ H => by
  subst hx
  exact SB.mul ⟨by decide, fun h1 _ => by lia, fun h1 _ => by lia⟩ fun t' tk => (show Txt.mul (S [32]) 0 = S [] by kernel_rfl) ▸ pk_now H (h t')
theorem field_con (w : World) (rd dr ctl src md lim : Addr) (rec : List Nat) (a n : Nat) (v1 : Value) (t : Nat → Tok) (ta tb : Tok) (hv : IsI v1 n) (hr : rec.length ≤ 1000) (hn : a + n ≤ rec.length) (hne : rd ≠ dr) :
    Con w 477 2 [.ref rd, v1] [] (rdrL w.params rd dr ctl src md lim rec a t ta tb) (fun v new => IsS v ((rec.drop a).take n) ∧ ∃ tc, new = rdrL w.params rd dr ctl src md lim rec (a + n) t ta tc) := by
  obtain ⟨tv, rfl⟩ := hv
  have e1 : (rec.take (a + n)).drop a = (rec.drop a).take n := by rw [List.drop_take, Nat.add_sub_cancel_left]
  have hl2 : ((rec.drop a).take n).length = n := by simp; lia
  have hle : ((rec.drop a).take n).length + 0 ≤ 1048576 := by lia
  refine' con_vc (n := 20) ⟨["self", "width", "text"], [("len", .builtin "len")], []⟩ (binds := [("self", .ref rd), ("width", .int n tv)]) ?hmain
  intro c0 R G hR
  refine get_at G (.inl (.head _)) (.inl (.tail _ (.head _))) (by kernel_rfl) rfl rfl ?_
  refine get_at G (.inl (.head _)) (.inl (.tail _ (.head _))) (by kernel_rfl) rfl rfl ?_
  refine get_at G (.inl (.head _)) (.inl (.tail _ (.head _))) (by kernel_rfl) rfl rfl ?_
  (repeat (intro (_ : Tok)))
  refine ⟨Nat.le_trans hr (by decide), fun tx => ?_⟩
  refine get_at G (.inl (.head _)) (.inl (.tail _ (.head _))) (by kernel_rfl) rfl rfl ?_
  (repeat (intro (_ : Tok)))
  refine set_at G [_] rfl (.inl (.head _)) (by kernel_rfl) rfl rfl (fun _ => rfl) fun tk => ?_
  (repeat (intro (_ : Tok)))
  refine sm_len (by rw [e1, hl2]; lia) ?_
  (repeat (intro (_ : Tok)))
  refine sm_times0 (by rw [e1, hl2, Int.sub_self]) ?_
  (repeat (intro (_ : Tok)))
  refine ⟨e1 ▸ hle, fun tz => ?_⟩
  exact hR.at [0, 1] ⟨⟨tz, by rw [e1, List.append_nil]⟩, _, rfl⟩

end
section
theorem step_con (w : World) (src ds lr rd dr ctl md lim sl : Addr) (recs : List Value) (nn a : Nat) (t0 t1 ta tr tw : Tok) (rec rec2 : List Nat) (p : Int) (t : Nat → Tok) (tb tc : Tok) (hr : recs[a]? = some (.str (S rec2) tr)) (hn : recs.length ≤ 1000)
    (h1 : src ≠ ds ∧ src ≠ rd ∧ src ≠ dr ∧ ds ≠ rd ∧ ds ≠ dr ∧ rd ≠ dr) :
    Con w 470 4 [.ref rd, .ref sl] [(lr, listOf recs.toArray nn), (sl, tupO [.str "/" tw])] (srcL w.params src ds lr a t0 t1 ta ++ rdrL w.params rd dr ctl src md lim rec p t tb tc)
      (fun v new => v = .none ∧ ∃ td te tf, new = srcL w.params src ds lr (a + 1) t0 t1 td ++ rdrL w.params rd dr ctl src md lim rec2 0 t te tf) := by
  have C := next_record_con w src ds lr recs nn a t0 t1 ta tr rec2 hr hn h1.1
  refine' con_vc (n := 20) ⟨["self", "item"], [], [519]⟩ (binds := [("self", .ref rd), ("item", .ref sl)]) ?hmain
  intro c0 R G hR
  refine vc_if (n := 20) G ?_
  (repeat (intro (_ : Tok)))
  refine sm_itemT (i := 0) (.inr (.tail _ (.head _))) rfl rfl (by decide) ?_
  (repeat (intro (_ : Tok)))
  refine ⟨fun _ => ?_, fun h => absurd rfl h⟩
  refine get_at G (.inl (.tail _ (.tail _ (.head _)))) (.inl (.tail _ (.tail _ (.tail _ (.head _))))) (by kernel_rfl) rfl rfl ?_
  refine meth_at (n := 19) G (.inl (.head _)) (.inl (.tail _ (.head _))) (by kernel_rfl) rfl (.head _) ?_
  refine useO G C [_, _] rfl (fun _ h => h) (List.forall_mem_singleton.mpr (.inl (.head _))) ?_
  rintro v new ⟨rfl, tb', rfl⟩
  refine set_at G [_, _, _] rfl (.inl (.tail _ (.tail _ (.head _)))) (by kernel_rfl) rfl rfl (fun _ => rfl) fun tk => ?_
  (repeat (intro (_ : Tok)))
  refine set_at G [_, _, _] rfl (.inl (.tail _ (.tail _ (.head _)))) (by kernel_rfl) rfl rfl (fun _ => rfl) fun tk => ?_
  exact hR.none [0, 1, 2, 3] ⟨rfl, _, _, _, rfl⟩
theorem item_head {kind n : Int} {vs : List Value} (h : ItemOf kind n vs) : ∃ (wd : PySem.Str) (tw tb : Tok) (rest : List Value), vs = .str wd tw :: .int n tb :: rest ∧ (wd == PySem.Str.ofString "begin") = false ∧ (wd == PySem.Str.ofString "end") = false ∧ (wd == PySem.Str.ofString ":") = false ∧ ([PySem.Str.ofString "I", "F", "E", "D", "G", "L", "A"].any (· == wd)) = true := by
  rcases h with ⟨_, ta, t1, rfl⟩ | ⟨_, ta, t1, rfl⟩ | ⟨_, ⟨ta, t1, t2, rfl⟩ | ⟨ta, t1, t2, rfl⟩ | ⟨ta, t1, t2, t3, rfl⟩⟩
  all_goals exact ⟨_, _, _, _, rfl, by decide +kernel, by decide +kernel, by decide +kernel, by decide +kernel⟩
noncomputable abbrev fmtFz (P : Params) (fl : Addr) (flat : List Value) (nn : Nat) (it : Addr) (vs : List Value) (md dm lim dl : Addr) (tm : Nat → Tok) (ts : Tok) (t u : Nat → Tok) : Led := (fl, listOf flat.toArray nn) :: (it, tupO vs) :: (modL P md dm tm ts ++ limL P lim dl t u)
theorem take_con (w : World) (src ds lr rd dr ctl dc fl cl md dm lim dl it : Addr) (kind n : Int) (vs flat : List Value) (nn i : Nat) (used : Bool) (rec : List Nat) (p k : Nat) (v1 v2 : Value) (tm tl ul tr tc : Nat → Tok) (ts t4 t5 t6 t7 : Tok)
    (hi : ItemOf kind n vs) (hv1 : IsI v1 kind) (hv2 : IsI v2 0) (hfl : flat[i]? = some (.ref it)) (hn : flat.length ≤ 1000) (hk : n = k) (hk2 : k ≤ 90) (hr : rec.length ≤ 1000) (hp : p + k ≤ rec.length)
    (h1 : rd ≠ dr ∧ rd ≠ ctl ∧ rd ≠ dc ∧ dr ≠ ctl ∧ dr ≠ dc ∧ ctl ≠ dc) :
    ConH none w 484 12 [.ref rd, v1, v2] (fmtFz w.params fl flat nn it vs md dm lim dl tm ts tl ul) (ctlL w.params ctl dc fl cl i used tc t4 t5 ++ rdrL w.params rd dr ctl src md lim rec p tr t6 t7)
      (fun v new => ∃ x new', readKind kind ((rec.drop p).take k) = .ok x ∧ ValIs v new' x ∧ ∃ t8 t9, new = new' ++ (rdrL w.params rd dr ctl src md lim rec (p + k) tr t6 t8 ++ ctlL w.params ctl dc fl cl (i + 1) true tc t4 t9))
      (fun C code => C = 82 ∧ ∃ c, code = some c ∧ readKind kind ((rec.drop p).take k) = .error c) := by
  obtain ⟨ta, rfl⟩ := hv1
  obtain ⟨tb, rfl⟩ := hv2
  subst hk
  have C3 := fun v4 h4' => read_value_con w it lim dl tl ul kind k vs (.int kind ta) (.int 0 tb) v4 (.int 0 ts) ((rec.drop p).take k) hi ⟨_, rfl⟩ ⟨_, rfl⟩ h4' ⟨_, rfl⟩ (by simp; lia)
  have hkc : kind ≠ 3 := by rcases hi with ⟨rfl, _⟩ | ⟨rfl, _⟩ | ⟨rfl | rfl, _⟩ <;> decide
  refine nnOf fun nO => ?_
  obtain ⟨wd, tw, tx, rest, rfl, g1, g2, g3, g4⟩ := item_head hi <;> (refine nO ?_; clear nO)
  have C1 := next_item_con w ctl dc fl cl it used tc t4 t5 tw flat (.int k tx :: rest) nn i wd true hfl hn h1.2.2.2.2.2 g1 g2 g3 g4
  rw [Bool.or_true] at C1
  have C2 := fun v1 h => field_con w rd dr ctl src md lim rec p k v1 tr t6 t7 h hr hp h1.1
  clear hi h1 hr hp hfl hn hk2 g1 g2 g3
  refine' con_vc (n := 20) ⟨["self", "kind", "length", "item", "width"], [("COMPLEX", .int 3 316), ("DATA_WORDS", .ref 358)], [393, 477, 224]⟩ (binds := [("self", .ref rd), ("kind", .int kind ta), ("length", .int 0 tb)]) ?hmain
  intro c0 R G hR
  refine vc_if (n := 20) G ?_
  refine ⟨fun h => absurd h hkc, fun _ => ?_⟩
  refine get_at G (.inl (.tail _ (.tail _ (.head _)))) (.inl (.tail _ (.tail _ (.tail _ (.head _))))) (by kernel_rfl) rfl rfl ?_
  refine meth_at (n := 19) G (.inl (.head _)) (.inl (.tail _ (.head _))) (by kernel_rfl) rfl (.head _) ?_
  refine useO G C1 [_, _] rfl (fun _ h => h) (List.forall_mem_cons.mpr ⟨.inl (.head _), List.forall_mem_singleton.mpr (.inl (.tail _ (.head _)))⟩) ?_
  rintro v new ⟨rfl, t8, rfl⟩
  refine sm_while (n := 20) G (fun _ K => K ⟨[some (.ref rd), some (.int kind ta), some (.int 0 tb), some (.ref it), none], _, _⟩) (n0 := 0) (fun K h => h) (fun c' R' m G' hL => ?_)
  (repeat (intro (_ : Tok)))
  refine sm_itemT (i := 0) (.inr (.tail _ (.head _))) rfl rfl (by decide) ?_
  refine notin_K G' (by k_is) rfl g4 ?_
  refine vc_as (n := 20) G ?_
  (repeat (intro (_ : Tok)))
  refine sm_itemT (i := 1) (.inr (.tail _ (.head _))) rfl rfl (by decide) ?_
  (repeat (intro (_ : Tok)))
  refine sm_itemT (i := 1) (.inr (.tail _ (.head _))) rfl rfl (by decide) ?_
  refine meth_own (n := 19) G (.inl (.tail _ (.tail _ (.head _)))) (.inl (.tail _ (.tail _ (.tail _ (.head _))))) (by kernel_rfl) (by k_is) rfl (.tail _ (.tail _ (.head _))) ?_ (fun h => nomatch h)
  refine meth_at (n := 18) G (.inl (.tail _ (.tail _ (.head _)))) (.inl (.tail _ (.tail _ (.tail _ (.head _))))) (by kernel_rfl) rfl (.tail _ (.head _)) ?_
  refine useO G (C2 _ ⟨_, rfl⟩) (ctlL w.params ctl dc fl cl (i + 1) true tc t4 t8) rfl (fun p h => (List.mem_append.mp h).elim (fun h => List.mem_append_right _ h) fun h => List.mem_append_left _ h) (fun _ h => nomatch h) ?_
  intro v new hX13
  refine nnOf fun nO => ?_
  obtain ⟨⟨tv, rfl⟩, t9, rfl⟩ := hX13 <;> (refine nO ?_; clear nO)
  refine get_at G (.inl (.head _)) (.inl (.tail _ (.head _))) (by kernel_rfl) rfl rfl ?_
  refine get_at G (.inr (.tail _ (.tail _ (.head _)))) (.inr (.tail _ (.tail _ (.tail _ (.head _))))) (by kernel_rfl) rfl rfl ?_
  refine get_at G (.inl (.head _)) (.inl (.tail _ (.head _))) (by kernel_rfl) rfl rfl ?_
  refine get_at G (.inr (.tail _ (.tail _ (.head _)))) (.inr (.tail _ (.tail _ (.tail _ (.head _))))) (by kernel_rfl) rfl rfl ?_
  refine get_at G (.inl (.head _)) (.inl (.tail _ (.head _))) (by kernel_rfl) rfl rfl ?_
  refine use0 G (C3 _ ⟨_, rfl⟩) ?_ (List.forall_mem_cons.mpr ⟨.inl (.tail _ (.head _)), fun p h => .inl (.tail _ (.tail _ (.tail _ (.tail _ h))))⟩) fun _ _ r => r
  rintro v new ⟨x, hx, hv⟩
  exact hR.ret _ ⟨x, new, hx, hv, _, _, rfl⟩ fun p h => h

end
section
theorem take_sl_con (w : World) (src ds lr rd dr ctl dc fl cl md dm lim dl it sl : Addr) (kind n : Int) (vs flat recs : List Value) (nn mm i a : Nat) (used : Bool) (rec rec2 : List Nat) (p k : Nat) (v1 v2 : Value) (tm tl ul tr tc : Nat → Tok) (ts t4 t5 t6 t7 tz tq t0 t1 ta : Tok)
    (hi : ItemOf kind n vs) (hv1 : IsI v1 kind) (hv2 : IsI v2 0) (hf0 : flat[i]? = some (.ref sl)) (hfl : flat[i + 1]? = some (.ref it)) (hn : flat.length ≤ 1000) (hrc : recs[a]? = some (.str (S rec2) tq)) (hm : recs.length ≤ 1000) (hk : n = k) (hk2 : k ≤ 90) (hr : rec2.length ≤ 1000) (hp : k ≤ rec2.length)
    (h1 : rd ≠ dr ∧ rd ≠ ctl ∧ rd ≠ dc ∧ dr ≠ ctl ∧ dr ≠ dc ∧ ctl ≠ dc) (h2 : src ≠ ds ∧ src ≠ rd ∧ src ≠ dr ∧ src ≠ ctl ∧ src ≠ dc ∧ ds ≠ rd ∧ ds ≠ dr ∧ ds ≠ ctl ∧ ds ≠ dc) :
    ConH none w 484 12 [.ref rd, v1, v2] ((lr, listOf recs.toArray mm) :: (sl, tupO [.str "/" tz]) :: fmtFz w.params fl flat nn it vs md dm lim dl tm ts tl ul) (ctlL w.params ctl dc fl cl i used tc t4 t5 ++ (srcL w.params src ds lr a t0 t1 ta ++ rdrL w.params rd dr ctl src md lim rec p tr t6 t7))
      (fun v new => ∃ x new', readKind kind (rec2.take k) = .ok x ∧ ValIs v new' x ∧ ∃ t8 t9 ty ts', new = new' ++ (rdrL w.params rd dr ctl src md lim rec2 k tr ty t8 ++ (ctlL w.params ctl dc fl cl (i + 1 + 1) true tc t4 t9 ++ srcL w.params src ds lr (a + 1) t0 t1 ts')))
      (fun C code => C = 82 ∧ ∃ c, code = some c ∧ readKind kind (rec2.take k) = .error c) := by
  obtain ⟨ti, rfl⟩ := hv1
  obtain ⟨tb, rfl⟩ := hv2
  subst hk
  have C3 := fun v4 h4' => read_value_con w it lim dl tl ul kind k vs (.int kind ti) (.int 0 tb) v4 (.int 0 ts) (rec2.take k) hi ⟨_, rfl⟩ ⟨_, rfl⟩ h4' ⟨_, rfl⟩ (by simp; lia)
  have hkc : kind ≠ 3 := by rcases hi with ⟨rfl, _⟩ | ⟨rfl, _⟩ | ⟨rfl | rfl, _⟩ <;> decide
  refine nnOf fun nO => ?_
  obtain ⟨wd, tw, tx, rest, rfl, g1, g2, g3, g4⟩ := item_head hi <;> (refine nO ?_; clear nO)
  have C0 := next_item_con w ctl dc fl cl sl used tc t4 t5 tz flat [] nn i "/" false hf0 hn h1.2.2.2.2.2 (by decide +kernel) (by decide +kernel) (by decide +kernel) (by decide +kernel)
  rw [Bool.or_false] at C0
  have CS := step_con w src ds lr rd dr ctl md lim sl recs mm a t0 t1 ta tq tz rec rec2 p tr t6 t7 hrc hm ⟨h2.1, h2.2.1, h2.2.2.1, h2.2.2.2.2.2.1, h2.2.2.2.2.2.2.1, h1.1⟩
  have C1 := fun t8 => next_item_con w ctl dc fl cl it used tc t4 t8 tw flat (.int k tx :: rest) nn (i + 1) wd true hfl hn h1.2.2.2.2.2 g1 g2 g3 g4
  simp only [Bool.or_true] at C1
  have C2 := fun v1 u3 u4 h => field_con w rd dr ctl src md lim rec2 0 k v1 tr u3 u4 h hr (by lia) h1.1
  rw [List.drop_zero, show ((0 : Nat) : Int) + (k : Int) = k from Int.zero_add _] at C2
  clear hi h1 h2 hr hp hfl hf0 hrc hm hn hk2 g1 g2 g3
  refine' con_vc (n := 20) ⟨["self", "kind", "length", "item", "width"], [("COMPLEX", .int 3 316), ("DATA_WORDS", .ref 358)], [393, 477, 224, 470]⟩ (binds := [("self", .ref rd), ("kind", .int kind ti), ("length", .int 0 tb)]) ?hmain
  intro c0 R G hR
  have sw : ∀ {x y : Led}, ∀ p ∈ y ++ x, p ∈ x ++ y := fun p h => (List.mem_append.mp h).elim (fun h => List.mem_append_right _ h) fun h => List.mem_append_left _ h
  refine vc_if (n := 20) G ?_
  refine ⟨fun h => absurd h hkc, fun _ => ?_⟩
  refine get_at G (.inl (.tail _ (.tail _ (.tail _ (.tail _ (.head _)))))) (.inl (.tail _ (.tail _ (.tail _ (.tail _ (.tail _ (.head _))))))) (by kernel_rfl) rfl rfl ?_
  refine meth_at (n := 19) G (.inl (.head _)) (.inl (.tail _ (.head _))) (by kernel_rfl) rfl (.head _) ?_
  refine useO G C0 [_, _, _, _] rfl (fun _ h => h) (List.forall_mem_cons.mpr ⟨.inl (.tail _ (.tail _ (.head _))), List.forall_mem_singleton.mpr (.inl (.tail _ (.head _)))⟩) ?_
  rintro v new ⟨rfl, t8, rfl⟩
  refine sm_while (n := 20) G (fun n K => (n = 1 → K ⟨[some (.ref rd), some (.int kind ti), some (.int 0 tb), some (.ref sl), none], ctlL w.params ctl dc fl cl (i + 1) used tc t4 t8 ++ (srcL w.params src ds lr a t0 t1 ta ++ rdrL w.params rd dr ctl src md lim rec p tr t6 t7), ((lr, listOf recs.toArray mm) :: (sl, tupO [.str "/" tz]) :: fmtFz w.params fl flat nn it (.str wd tw :: .int k tx :: rest) md dm lim dl tm ts tl ul)⟩) ∧
    (n = 0 → ∀ u1 u2 u3 u4, K ⟨[some (.ref rd), some (.int kind ti), some (.int 0 tb), some (.ref it), none], ctlL w.params ctl dc fl cl (i + 1 + 1) true tc t4 u1 ++ (srcL w.params src ds lr (a + 1) t0 t1 u2 ++ rdrL w.params rd dr ctl src md lim rec2 0 tr u3 u4), ((lr, listOf recs.toArray mm) :: (sl, tupO [.str "/" tz]) :: fmtFz w.params fl flat nn it (.str wd tw :: .int k tx :: rest) md dm lim dl tm ts tl ul)⟩)) (n0 := 1) (fun K h => h.1 rfl) (fun c' R' m G' hL => ?_)
  refine ⟨fun h => ?_, fun _ u1 u2 u3 u4 => ?_⟩
  · (repeat (intro (_ : Tok)))
    refine sm_itemT (i := 0) (.inr (.tail _ (.head _))) rfl rfl (by decide) ?_
    refine notin_K (b := false) G' (by k_is) rfl (by decide +kernel) ?_
    refine meth_at (n := 19) G' (.inl (.tail _ (.tail _ (.tail _ (.tail _ (.head _)))))) (.inl (.tail _ (.tail _ (.tail _ (.tail _ (.tail _ (.head _))))))) (by kernel_rfl) rfl (.tail _ (.tail _ (.tail _ (.head _)))) ?_
    refine useO G' CS (ctlL w.params ctl dc fl cl (i + 1) used tc t4 t8) rfl sw (List.forall_mem_cons.mpr ⟨.inl (.head _), List.forall_mem_singleton.mpr (.inl (.tail _ (.head _)))⟩) ?_
    intro v new hX14
    refine nnOf fun nO => ?_
    obtain ⟨rfl, u2, u3, u4, rfl⟩ := hX14 <;> (refine nO ?_; clear nO)
    refine get_at G' (.inl (.tail _ (.tail _ (.head _)))) (.inl (.tail _ (.tail _ (.tail _ (.head _))))) (by kernel_rfl) rfl rfl ?_
    refine meth_at (n := 19) G' (.inl (.tail _ (.tail _ (.tail _ (.tail _ (.head _)))))) (.inl (.tail _ (.tail _ (.tail _ (.tail _ (.tail _ (.head _))))))) (by kernel_rfl) rfl (.head _) ?_
    refine useO G' (C1 t8) (srcL w.params src ds lr (a + 1) t0 t1 u2 ++ rdrL w.params rd dr ctl src md lim rec2 0 tr u3 u4) rfl sw (List.forall_mem_cons.mpr ⟨.inl (.tail _ (.tail _ (.head _))), List.forall_mem_singleton.mpr (.inl (.tail _ (.tail _ (.tail _ (.head _)))))⟩) ?_
    rintro v new ⟨rfl, u1, rfl⟩
    exact hL.next 0 (h ▸ Nat.one_pos) fun K q => q.2 rfl u1 u2 u3 u4
  (repeat (intro (_ : Tok)))
  refine sm_itemT (i := 0) (.inr (.tail _ (.tail _ (.tail _ (.head _))))) rfl rfl (by decide) ?_
  refine notin_K G' (by k_is) rfl g4 ?_
  refine vc_as (n := 20) G ?_
  (repeat (intro (_ : Tok)))
  refine sm_itemT (i := 1) (.inr (.tail _ (.tail _ (.tail _ (.head _))))) rfl rfl (by decide) ?_
  (repeat (intro (_ : Tok)))
  refine sm_itemT (i := 1) (.inr (.tail _ (.tail _ (.tail _ (.head _))))) rfl rfl (by decide) ?_
  refine meth_own (n := 19) G (.inl (.tail _ (.tail _ (.tail _ (.tail _ (.head _)))))) (.inl (.tail _ (.tail _ (.tail _ (.tail _ (.tail _ (.head _))))))) (by kernel_rfl) (by k_is) rfl (.tail _ (.tail _ (.head _))) ?_ (fun h => nomatch h)
  refine meth_at (n := 18) G (.inl (.tail _ (.tail _ (.tail _ (.tail _ (.head _)))))) (.inl (.tail _ (.tail _ (.tail _ (.tail _ (.tail _ (.head _))))))) (by kernel_rfl) rfl (.tail _ (.head _)) ?_
  refine useO G (C2 _ u3 u4 ⟨_, rfl⟩) (ctlL w.params ctl dc fl cl (i + 1 + 1) true tc t4 u1 ++ srcL w.params src ds lr (a + 1) t0 t1 u2) rfl sw (fun _ h => nomatch h) ?_
  intro v new hX15
  refine nnOf fun nO => ?_
  obtain ⟨⟨tv, rfl⟩, t9, rfl⟩ := hX15 <;> (refine nO ?_; clear nO)
  refine get_at G (.inl (.head _)) (.inl (.tail _ (.head _))) (by kernel_rfl) rfl rfl ?_
  refine get_at G (.inr (.tail _ (.tail _ (.tail _ (.tail _ (.head _)))))) (.inr (.tail _ (.tail _ (.tail _ (.tail _ (.tail _ (.head _))))))) (by kernel_rfl) rfl rfl ?_
  refine get_at G (.inl (.head _)) (.inl (.tail _ (.head _))) (by kernel_rfl) rfl rfl ?_
  refine get_at G (.inr (.tail _ (.tail _ (.tail _ (.tail _ (.head _)))))) (.inr (.tail _ (.tail _ (.tail _ (.tail _ (.tail _ (.head _))))))) (by kernel_rfl) rfl rfl ?_
  refine get_at G (.inl (.head _)) (.inl (.tail _ (.head _))) (by kernel_rfl) rfl rfl ?_
  refine use0 G (C3 _ ⟨_, rfl⟩) ?_ (List.forall_mem_cons.mpr ⟨.inl (.tail _ (.tail _ (.tail _ (.head _)))), fun p h => .inl (.tail _ (.tail _ (.tail _ (.tail _ (.tail _ (.tail _ h))))))⟩) fun _ _ r => r
  rintro v new ⟨x, hx, hv⟩
  exact hR.ret _ ⟨x, new, hx, hv, _, _, _, _, rfl⟩ fun p h => h

end
section
theorem finish_con (w : World) (rd dr ctl dc fl cl src md lim : Addr) (used : Bool) (flat : List Value) (nn : Nat) (rec : List Nat) (p : Int) (tr tc : Nat → Tok) (t4 t5 t6 t7 : Tok) (hn : flat.length ≤ 1000) (h1 : rd ≠ dr ∧ rd ≠ ctl ∧ rd ≠ dc ∧ dr ≠ ctl ∧ dr ≠ dc ∧ ctl ≠ dc) :
    Con w 491 4 [.ref rd] [(fl, listOf flat.toArray nn)] (ctlL w.params ctl dc fl cl flat.length used tc t4 t5 ++ rdrL w.params rd dr ctl src md lim rec p tr t6 t7)
      (fun v new => v = .none ∧ new = ctlL w.params ctl dc fl cl flat.length used tc t4 t5 ++ rdrL w.params rd dr ctl src md lim rec p tr t6 t7) := by
  refine' con_vc (n := 20) ⟨["self", "item"], [], [393]⟩ (binds := [("self", .ref rd)]) ?hmain
  intro c0 R G hR
  refine get_at G (.inl (.tail _ (.tail _ (.head _)))) (.inl (.tail _ (.tail _ (.tail _ (.head _))))) (by kernel_rfl) rfl rfl ?_
  refine meth_at (n := 19) G (.inl (.head _)) (.inl (.tail _ (.head _))) (by kernel_rfl) rfl (.head _) ?_
  refine useO G (next_item_end w ctl dc fl cl used tc t4 t5 flat nn hn h1.2.2.2.2.2) [_, _] rfl (fun _ h => h) (fun p h => .inl h) ?_
  rintro v new ⟨rfl, rfl⟩
  refine sm_while (n := 20) G (fun _ K => K ⟨[some (.ref rd), some .none], _, _⟩) (n0 := 0) (fun K h => h) (fun c' R' m G' hL => ?_)
  exact hR.none [0, 1, 2, 3] ⟨rfl, rfl⟩
theorem ne_of_bneS {x : List Nat} {y : PySem.Str} (h : ((S x) != y) = true) (l : List Nat) (e : S l = y) : x ≠ l := fun q => by
  subst q; subst e; simp at h
theorem add_flat_con (w : World) (it fl : Addr) (wd : PySem.Str) (tw : Tok) (rest flat : List Value) (nn : Nat) (h1 : (wd != PySem.Str.ofString "group") = true) (h2 : (wd != PySem.Str.ofString "repeat") = true) (hn : flat.length ≤ 1000) :
    Con w 365 2 [.ref it, .ref fl] [(it, tupO (.str wd tw :: rest))] [(fl, listOf flat.toArray nn)] (fun v new => v = .none ∧ ∃ mm, new = [(fl, listOf (flat ++ [Value.ref it]).toArray mm)]) := by
  obtain ⟨⟨wl⟩⟩ := wd
  have k1 : wl ≠ [103, 114, 111, 117, 112] := ne_of_bneS h1 _ (by kernel_rfl)
  have k2 : wl ≠ [114, 101, 112, 101, 97, 116] := ne_of_bneS h2 _ (by kernel_rfl)
  clear h1 h2
  refine' con_vc (n := 20) ⟨["item", "flat", "word"], [], []⟩ (binds := [("item", .ref it), ("flat", .ref fl)]) ?hmain
  intro c0 R G hR
  (repeat (intro (_ : Tok)))
  refine sm_itemT (i := 0) (.inr (.head _)) rfl rfl (by decide) ?_
  refine vc_if (n := 20) G ?_
  (repeat (intro (_ : Tok)))
  refine ⟨fun _ => ?_, fun h => absurd k1 h⟩
  (repeat (intro (_ : Tok)))
  refine ⟨fun _ => ?_, fun h => absurd k2 h⟩
  refine app_at (n := 19) G (.head _) ?_
  refine sm_append (A := []) (B := []) rfl hn (fun _ h => nomatch h) (fun _ h => nomatch h) ?_
  exact hR.at [0] ⟨rfl, _, rfl⟩
noncomputable def Flat (o : Obj) : Prop := ∃ (wd : PySem.Str) (tw : Tok) (rest : List Value), o = tupO (.str wd tw :: rest) ∧ (wd != PySem.Str.ofString "group") = true ∧ (wd != PySem.Str.ofString "repeat") = true ∧ (wd == PySem.Str.ofString "group") = false
noncomputable abbrev refs (l : Led) : List Value := l.map fun p => .ref p.1
theorem flat_at {its : Led} {i : Nat} {v : Value} (hi : ∀ p ∈ its, Flat p.2) (hv : (refs its)[i]? = some v) : ∃ (a : Addr) (wl : List Nat) (tw : Tok) (rest : List Value), v = .ref a ∧ (a, tupO (.str (S wl) tw :: rest)) ∈ its ∧ (S wl != PySem.Str.ofString "group") = true ∧ (S wl != PySem.Str.ofString "repeat") = true ∧ wl ≠ [103, 114, 111, 117, 112] := by
  rw [List.getElem?_map] at hv
  obtain ⟨⟨a, o⟩, hp, rfl⟩ := Option.map_eq_some_iff.mp hv
  have hm := List.mem_of_getElem? hp
  obtain ⟨⟨⟨wl⟩⟩, tw, rest, e, h1, h2, _⟩ := hi _ hm
  dsimp only at e
  exact ⟨a, wl, tw, rest, rfl, e ▸ hm, h1, h2, ne_of_bneS h1 _ (by kernel_rfl)⟩
theorem flat_of_con (w : World) (tl : Addr) (its : Led) (nn : Nat) (hi : ∀ p ∈ its, Flat p.2) (hn : its.length ≤ 900) :
    Con w 372 5 [.ref tl] ((tl, listOf (refs its).toArray nn) :: its) [] (fun v new => ∃ a fl t mm, v = .ref a ∧ new = [(a, tupO [.ref fl, .int 0 t]), (fl, listOf (refs its).toArray mm)] ∧ fl < a) := by
  refine' con_vc (n := 20) ⟨["tree", "flat", "again", "item"], [("add_flat", .ref 365)], [365]⟩ (binds := [("tree", .ref tl)]) ?hmain
  intro c0 R G hR
  intro _ fl _ t
  refine for_lst (n := 20) G (.head _) (fun i K => ∀ it mm, K ⟨[some (.ref tl), some (.ref fl), some (.int 0 t), it], [(fl, listOf ((refs its).take i).toArray mm)], (tl, listOf (refs its).toArray nn) :: its⟩) (fun K h => h none 0) (fun c' R' i v G' hL hv => ?_) (fun it mm => ?_) (.inl fun _ _ => rfl)
  · refine nnOf fun nO => ?_
    obtain ⟨a, wl, tw, rest, rfl, hm, h1, h2, h3⟩ := flat_at hi hv <;> (refine nO ?_; clear nO)
    intro it mm
    refine asg_nm G' ?_
    refine vc_if (n := 20) G' ?_
    (repeat (intro (_ : Tok)))
    refine sm_itemT (i := 0) (.inr (.tail _ hm)) rfl rfl (by decide) ?_
    (repeat (intro (_ : Tok)))
    refine ⟨fun h => absurd h h3, fun _ => ?_⟩
    refine useA G' (add_flat_con w a fl (S wl) tw rest ((refs its).take i) mm h1 h2 (by simp; lia)) (List.forall_mem_singleton.mpr (.tail _ hm)) ?_
    rintro v new ⟨rfl, m2, rfl⟩
    have e : (refs its).take (i + 1) = (refs its).take i ++ [Value.ref a] := by rw [List.take_add_one, hv]; rfl
    exact hL.next fun K q => e ▸ q _ m2
  intro _ a ha
  exact hR.at [0, 1] ⟨a, fl, t, mm, rfl, by rw [List.take_length]; rfl, ha _ (.head _)⟩

end
section
theorem source_init (w : World) (x dx lr : Addr) (h : dx < x) :
    Con w 512 1 [.ref x, .ref lr] [] [(x, instObj 522 dx), (dx, dictOf [] 0)] (fun v new => v = .none ∧ ∃ t0 t1 ta, new = srcL w.params x dx lr 0 t0 t1 ta) := by
  refine' con_vc (n := 20) ⟨["self", "records"], [], []⟩ (binds := [("self", .ref x), ("records", .ref lr)]) ?hmain
  intro c0 R G hR
  refine set_at G [_] rfl (.inl (.head _)) (by kernel_rfl) rfl rfl (fun _ => rfl) fun tk => ?_
  (repeat (intro (_ : Tok)))
  refine set_at G [_] rfl (.inl (.head _)) (by kernel_rfl) rfl rfl (fun _ => rfl) fun tk => ?_
  exact hR.none [0, 1] ⟨rfl, _, _, _, rfl⟩
theorem source_con (w : World) (lr : Addr) :
    Con w 522 2 [.ref lr] [] [] (fun v new => ∃ src ds t0 t1 ta, v = .ref src ∧ new = srcL w.params src ds lr 0 t0 t1 ta ∧ ds < src) :=
  cls_con (by k_is) (by k_is) (by k_is) (fun x dx h _ => by
    refine con_imp (source_init w x dx lr h) ?_ fun _ _ r => r
    rintro v new ⟨hv, t0, t1, ta, hn⟩
    exact ⟨hv, x, dx, t0, t1, ta, rfl, hn, h⟩)
theorem limits_init (w : World) (x dx : Addr) (h : dx < x) :
    Con w 548 1 [.ref x] [] [(x, instObj 551 dx), (dx, dictOf [] 0)] (fun v new => v = .none ∧ ∃ t u, new = limL w.params x dx t u) := by
  refine' con_vc (n := 20) ⟨["self", "width", "real_digits", "double_digits", "top_exponent", "steps", "continuations", "columns", "depth"], [], []⟩ (binds := [("self", .ref x), ("width", .int 32 985), ("real_digits", .int 7 986), ("double_digits", .int 15 987), ("top_exponent", .int 38 988), ("steps", .int 1000000 989), ("continuations", .int 19 990), ("columns", .int 72 991), ("depth", .int 40 992)]) (hbind := fun s hX => binds_K hX rfl (by k_is) rfl rfl rfl) ?hmain
  intro c0 R G hR
  refine set_at G [_] rfl (.inl (.head _)) (by kernel_rfl) rfl rfl (fun _ => rfl) fun tk => ?_
  refine set_at G [_] rfl (.inl (.head _)) (by kernel_rfl) rfl rfl (fun _ => rfl) fun tk => ?_
  refine set_at G [_] rfl (.inl (.head _)) (by kernel_rfl) rfl rfl (fun _ => rfl) fun tk => ?_
  refine set_at G [_] rfl (.inl (.head _)) (by kernel_rfl) rfl rfl (fun _ => rfl) fun tk => ?_
  refine set_at G [_] rfl (.inl (.head _)) (by kernel_rfl) rfl rfl (fun _ => rfl) fun tk => ?_
  refine set_at G [_] rfl (.inl (.head _)) (by kernel_rfl) rfl rfl (fun _ => rfl) fun tk => ?_
  refine set_at G [_] rfl (.inl (.head _)) (by kernel_rfl) rfl rfl (fun _ => rfl) fun tk => ?_
  refine set_at G [_] rfl (.inl (.head _)) (by kernel_rfl) rfl rfl (fun _ => rfl) fun tk => ?_
  exact hR.none [0, 1] ⟨rfl, fun i => match i with | 0 => _ | 1 => _ | 2 => _ | 3 => _ | 4 => _ | 5 => _ | 6 => _ | _ => _, fun i => match i with | 0 => _ | 1 => _ | 2 => _ | 3 => _ | 4 => _ | 5 => _ | 6 => _ | _ => _, rfl⟩

end
section
theorem control_init (w : World) (x dx tl : Addr) (its : Led) (nn : Nat) (hi : ∀ p ∈ its, Flat p.2) (hn : its.length ≤ 900) (h : dx < x) :
    Con w 386 8 [.ref x, .ref tl] ((tl, listOf (refs its).toArray nn) :: its) [(x, instObj 410 dx), (dx, dictOf [] 0)]
      (fun v new => v = .none ∧ ∃ fl cl t ta tb mm, new = ctlL w.params x dx fl cl 0 false t ta tb ++ [(fl, listOf (refs its).toArray mm)]) := by
  have C := flat_of_con w tl its nn hi hn
  generalize refs its = rs at C ⊢
  refine' con_vc (n := 20) ⟨["self", "tree"], [("flat_of", .ref 372)], [372]⟩ (binds := [("self", .ref x), ("tree", .ref tl)]) ?hmain
  intro c0 R G hR
  refine useO G C [_, _] rfl (fun _ h => h) (fun p h => .inl h) ?_
  rintro v new ⟨a, fl, t, mm, rfl, rfl, hlt⟩
  refine sm_unpack2 (n := 19) G (.inl (.head _)) ?_
  refine set_at G [_, _, _] rfl (.inl (.tail _ (.tail _ (.head _)))) (by kernel_rfl) rfl rfl (fun _ => rfl) fun tk => ?_
  refine set_at G [_, _, _] rfl (.inl (.tail _ (.tail _ (.head _)))) (by kernel_rfl) rfl rfl (fun _ => rfl) fun tk => ?_
  (repeat (intro (_ : Tok)))
  refine set_at G [_, _, _] rfl (.inl (.tail _ (.tail _ (.head _)))) (by kernel_rfl) rfl rfl (fun _ => rfl) fun tk => ?_
  intro _ cl _
  refine set_at G [_, _, _, _] rfl (.inl (.tail _ (.tail _ (.tail _ (.head _))))) (by kernel_rfl) rfl rfl (fun _ => rfl) fun tk => ?_
  refine set_at G [_, _, _, _] rfl (.inl (.tail _ (.tail _ (.tail _ (.head _))))) (by kernel_rfl) rfl rfl (fun _ => rfl) fun tk => ?_
  exact hR.none [3, 4, 2] ⟨rfl, fl, cl, fun i => match i with | 0 => _ | 1 => _ | 2 => _ | 3 => _ | _ => _, _, _, mm, rfl⟩
theorem modes_init (w : World) (x dx : Addr) (h : dx < x) :
    Con w 428 2 [.ref x, .bool false] [] [(x, instObj 438 dx), (dx, dictOf [] 0)] (fun v new => v = .none ∧ ∃ t ta, new = modL w.params x dx t ta) := by
  refine' con_vc (n := 20) ⟨["self", "is_zeros"], [], []⟩ (binds := [("self", .ref x), ("is_zeros", .bool false)]) ?hmain
  intro c0 R G hR
  (repeat (intro (_ : Tok)))
  refine set_at G [_] rfl (.inl (.head _)) (by kernel_rfl) rfl rfl (fun _ => rfl) fun tk => ?_
  refine set_at G [_] rfl (.inl (.head _)) (by kernel_rfl) rfl rfl (fun _ => rfl) fun tk => ?_
  refine set_at G [_] rfl (.inl (.head _)) (by kernel_rfl) rfl rfl (fun _ => rfl) fun tk => ?_
  exact hR.none [0, 1] ⟨rfl, fun i => match i with | 0 => _ | 1 => _ | _ => _, _, rfl⟩
theorem control_con (w : World) (tl : Addr) (its : Led) (nn : Nat) (hi : ∀ p ∈ its, Flat p.2) (hn : its.length ≤ 900) :
    Con w 410 9 [.ref tl] ((tl, listOf (refs its).toArray nn) :: its) []
      (fun v new => ∃ ctl dc fl cl t ta tb mm, v = .ref ctl ∧ new = ctlL w.params ctl dc fl cl 0 false t ta tb ++ [(fl, listOf (refs its).toArray mm)] ∧ dc < ctl) :=
  cls_con (by k_is) (by k_is) (by k_is) (fun x dx h _ => by
    refine con_imp (control_init w x dx tl its nn hi hn h) ?_ fun _ _ r => r
    rintro v new ⟨hv, fl, cl, t, ta, tb, mm, hn⟩
    exact ⟨hv, x, dx, fl, cl, t, ta, tb, mm, rfl, hn, h⟩)
theorem modes_con (w : World) :
    Con w 438 3 [.bool false] [] [] (fun v new => ∃ md dm t ta, v = .ref md ∧ new = modL w.params md dm t ta ∧ dm < md) :=
  cls_con (by k_is) (by k_is) (by k_is) (fun x dx h _ => by
    refine con_imp (modes_init w x dx h) ?_ fun _ _ r => r
    rintro v new ⟨hv, t, ta, hn⟩
    exact ⟨hv, x, dx, t, ta, rfl, hn, h⟩)
theorem limits_con (w : World) :
    Con w 551 2 [] [] [] (fun v new => ∃ lim dl t u, v = .ref lim ∧ new = limL w.params lim dl t u ∧ dl < lim) :=
  cls_con (by k_is) (by k_is) (by k_is) (fun x dx h _ => by
    refine con_imp (limits_init w x dx h) ?_ fun _ _ r => r
    rintro v new ⟨hv, t, u, hn⟩
    exact ⟨hv, x, dx, t, u, rfl, hn, h⟩)

end
section
theorem reader_init (w : World) (x dx tl src ds lr lim : Addr) (its : Led) (nn mm : Nat) (recs : List Value) (rec : List Nat) (t0 t1 ta tr : Tok) (hi : ∀ p ∈ its, Flat p.2) (hn : its.length ≤ 900) (hr : recs[0]? = some (.str (S rec) tr)) (hm : recs.length ≤ 1000) (h : dx < x) (hsd : src ≠ ds)
    (hp : ∀ p ∈ srcL w.params src ds lr 0 t0 t1 ta, p.1 < dx) :
    Con w 463 12 [.ref x, .ref tl, .ref src, .ref 224, .bool false, .ref lim] ((lr, listOf recs.toArray mm) :: (tl, listOf (refs its).toArray nn) :: its) ((x, instObj 494 dx) :: (dx, dictOf [] 0) :: srcL w.params src ds lr 0 t0 t1 ta)
      (fun v new => v = .none ∧ ∃ ctl dc fl cl md dm tb tc td te t2 t3 t4 mm tm tn, new = srcL w.params src ds lr 1 t0 t1 tb ++ (rdrL w.params x dx ctl src md lim rec 0 t2 t3 t4 ++ (ctlL w.params ctl dc fl cl 0 false tc td te ++ ((fl, listOf (refs its).toArray mm) :: modL w.params md dm tm tn))) ∧ dc < ctl ∧ dm < md) := by
  have C1 := control_con w tl its nn hi hn
  have C2 := modes_con w
  have C3 := next_record_con w src ds lr recs mm 0 t0 t1 ta tr rec hr hm hsd
  clear hp h hsd hr hm hi hn
  generalize refs its = rs at C1 ⊢
  refine' con_vc (n := 20) ⟨["self", "tree", "source", "read", "is_zeros", "limits"], [("FormatControl", .ref 410), ("FormatModes", .ref 438)], [410, 438, 519]⟩ (binds := [("self", .ref x), ("tree", .ref tl), ("source", .ref src), ("read", .ref 224), ("is_zeros", .bool false), ("limits", .ref lim)]) ?hmain
  intro c0 R G hR
  have sw : ∀ {x y : Led}, ∀ p ∈ y ++ x, p ∈ x ++ y := fun p h => (List.mem_append.mp h).elim (fun h => List.mem_append_right _ h) fun h => List.mem_append_left _ h
  refine useO G C1 [_, _, _, _] rfl (fun _ h => h) (fun p h => .inl (.tail _ h)) ?_
  intro v new hX16
  refine nnOf fun nO => ?_
  obtain ⟨ctl, dc, fl, cl, tc, td, te, m2, rfl, rfl, hlt⟩ := hX16 <;> (refine nO ?_; clear nO)
  refine set_atK G [_, _, _, _] rfl (.inl (.tail _ (.tail _ (.tail _ (.head _))))) (by kernel_rfl) rfl (by kernel_rfl) (fun _ => rfl) fun tk => ?_
  refine set_atK G [_, _, _, _] rfl (.inl (.tail _ (.tail _ (.tail _ (.head _))))) (by kernel_rfl) rfl (by kernel_rfl) (fun _ => rfl) fun tk => ?_
  refine set_atK G [_, _, _, _] rfl (.inl (.tail _ (.tail _ (.tail _ (.head _))))) (by kernel_rfl) rfl (by kernel_rfl) (fun _ => rfl) fun tk => ?_
  refine useO G C2 [_, _, _, _, _, _, _] rfl (fun _ h => h) (fun _ h => nomatch h) ?_
  intro v new hX17
  refine nnOf fun nO => ?_
  obtain ⟨md, dm, tm, tn, rfl, rfl, hlt2⟩ := hX17 <;> (refine nO ?_; clear nO)
  refine set_atK G [_, _, _, _, _, _] rfl (.inl (.tail _ (.tail _ (.tail _ (.tail _ (.tail _ (.head _))))))) (by kernel_rfl) rfl (by kernel_rfl) (fun _ => rfl) fun tk => ?_
  refine set_atK G [_, _, _, _, _, _] rfl (.inl (.tail _ (.tail _ (.tail _ (.tail _ (.tail _ (.head _))))))) (by kernel_rfl) rfl (by kernel_rfl) (fun _ => rfl) fun tk => ?_
  refine meth_at (n := 19) G (.inl (.tail _ (.tail _ (.tail _ (.tail _ (.tail _ (.tail _ (.tail _ (.head _))))))))) (.inl (.tail _ (.tail _ (.tail _ (.tail _ (.tail _ (.tail _ (.tail _ (.tail _ (.head _)))))))))) (by kernel_rfl) rfl (.tail _ (.tail _ (.head _))) ?_
  refine useO G C3 [_, _, _, _, _, _, _] rfl (sw (x := [_, _, _, _, _, _, _])) (List.forall_mem_singleton.mpr (.inl (.head _))) ?_
  rintro v new ⟨rfl, tb, rfl⟩
  refine set_atK G [_, _, _, _, _, _, _, _] rfl (.inl (.tail _ (.tail _ (.tail _ (.tail _ (.tail _ (.tail _ (.tail _ (.head _))))))))) (by kernel_rfl) rfl (by kernel_rfl) (fun _ => rfl) fun tk => ?_
  (repeat (intro (_ : Tok)))
  refine set_atK G [_, _, _, _, _, _, _, _] rfl (.inl (.tail _ (.tail _ (.tail _ (.tail _ (.tail _ (.tail _ (.tail _ (.head _))))))))) (by kernel_rfl) rfl (by kernel_rfl) (fun _ => rfl) fun tk => ?_
  exact hR.none [0, 1, 7, 8, 4, 5, 6, 2, 3] ⟨rfl, ctl, dc, fl, cl, md, dm, tb, tc, td, te, fun i => match i with | 0 => _ | 1 => _ | 2 => _ | 3 => _ | 4 => _ | 5 => _ | _ => _, _, _, m2, tm, tn, rfl, hlt, hlt2⟩
theorem reader_con (w : World) (tl src ds lr lim : Addr) (its : Led) (nn mm : Nat) (recs : List Value) (rec : List Nat) (t0 t1 ta tr : Tok) (hi : ∀ p ∈ its, Flat p.2) (hn : its.length ≤ 900) (hr : recs[0]? = some (.str (S rec) tr)) (hm : recs.length ≤ 1000) (hsd : src ≠ ds) :
    Con w 494 13 [.ref tl, .ref src, .ref 224, .bool false, .ref lim] ((lr, listOf recs.toArray mm) :: (tl, listOf (refs its).toArray nn) :: its) (srcL w.params src ds lr 0 t0 t1 ta)
      (fun v new => ∃ rd dr ctl dc fl cl md dm tb tc td te t2 t3 t4 mm tm tn, v = .ref rd ∧ new = srcL w.params src ds lr 1 t0 t1 tb ++ (rdrL w.params rd dr ctl src md lim rec 0 t2 t3 t4 ++ (ctlL w.params ctl dc fl cl 0 false tc td te ++ ((fl, listOf (refs its).toArray mm) :: modL w.params md dm tm tn))) ∧ dr < rd ∧ dc < ctl ∧ dm < md) :=
  cls_con (by k_is) (by k_is) (by k_is) (fun x dx h hp => by
    refine con_imp (reader_init w x dx tl src ds lr lim its nn mm recs rec t0 t1 ta tr hi hn hr hm h hsd hp) ?_ fun _ _ r => r
    intro v new hX18
    refine nnOf fun nO => ?_
    obtain ⟨hv, ctl, dc, fl, cl, md, dm, tb, tc, td, te, t2, t3, t4, m2, tm, tn, hn, h2, h3⟩ := hX18 <;> (refine nO ?_; clear nO)
    exact ⟨hv, x, dx, ctl, dc, fl, cl, md, dm, tb, tc, td, te, t2, t3, t4, m2, tm, tn, rfl, hn, h, h2, h3⟩)

end
section
structure Way (its : Led) (recs : List Value) (iS aS pS : Nat → Nat) (rS : Nat → List Nat) (kind : Int) (text : List Nat) (j : Nat) : Prop where
  intro ::
  ex : ∃ it vs k, ItemOf kind (k : Nat) vs ∧ k ≤ 90 ∧ (rS (j + 1)).length ≤ 1000 ∧
    ((its[iS j]? = some (it, tupO vs) ∧ pS j + k ≤ (rS j).length ∧ text = ((rS j).drop (pS j)).take k ∧ iS (j + 1) = iS j + 1 ∧ aS (j + 1) = aS j ∧ rS (j + 1) = rS j ∧ pS (j + 1) = pS j + k) ∨
     (∃ sl tz tq, its[iS j]? = some (sl, tupO [.str "/" tz]) ∧ its[iS j + 1]? = some (it, tupO vs) ∧ recs[aS j]? = some (.str (S (rS (j + 1))) tq) ∧ k ≤ (rS (j + 1)).length ∧ text = (rS (j + 1)).take k ∧ iS (j + 1) = iS j + 1 + 1 ∧ aS (j + 1) = aS j + 1 ∧ pS (j + 1) = k))

theorem dis_way {h₀ h : Heap} {L : Addr} {P : Params} {ctl dc fl cl src ds lr rd dr md lim : Addr} {i p a : Int} {used : Bool} {tc tr : Nat → Tok} {t4 t5 t6 t7 t0 t1 ta : Tok} {rec : List Nat} {l : Led} (N : News h₀ L h l)
    (hs : ∀ q ∈ ctlL P ctl dc fl cl i used tc t4 t5 ++ (srcL P src ds lr a t0 t1 ta ++ rdrL P rd dr ctl src md lim rec p tr t6 t7), q ∈ l) :
    (rd ≠ dr ∧ rd ≠ ctl ∧ rd ≠ dc ∧ dr ≠ ctl ∧ dr ≠ dc ∧ ctl ≠ dc) ∧ (src ≠ ds ∧ src ≠ rd ∧ src ≠ dr ∧ src ≠ ctl ∧ src ≠ dc ∧ ds ≠ rd ∧ ds ≠ dr ∧ ds ≠ ctl ∧ ds ≠ dc) := by
  have c1 := hs (ctl, instObj 410 dc) (by k_mem)
  have c2 := hs (dc, _) (by k_mem)
  have c3 := hs (src, instObj 522 ds) (by k_mem)
  have c4 := hs (ds, _) (List.mem_append_right _ (by k_mem))
  have c5 := hs (rd, instObj 494 dr) (List.mem_append_right _ (List.mem_append_right _ (by k_mem)))
  have c6 := hs (dr, _) (List.mem_append_right _ (List.mem_append_right _ (by k_mem)))
  refine ⟨⟨ne_sig N c5 c6 ?_, ne_sig N c5 c1 ?_, ne_sig N c5 c2 ?_, ne_sig N c6 c1 ?_, ne_sig N c6 c2 ?_, ne_sig N c1 c2 ?_⟩, ne_sig N c3 c4 ?_, ne_sig N c3 c5 ?_, ne_sig N c3 c6 ?_, ne_sig N c3 c1 ?_, ne_sig N c3 c2 ?_, ne_sig N c4 c5 ?_, ne_sig N c4 c6 ?_, ne_sig N c4 c1 ?_, ne_sig N c4 c2 ?_⟩
  all_goals simp [sig, instObj]

theorem take_way_con (w : World) (src ds lr rd dr ctl dc fl cl md dm lim dl : Addr) (kind : Int) (text : List Nat) (its : Led) (recs : List Value) (nn mm j : Nat) (used : Bool) (iS aS pS : Nat → Nat) (rS : Nat → List Nat) (v1 v2 : Value) (tm tl ul tr tc : Nat → Tok) (ts t4 t5 t6 t7 t0 t1 ta : Tok)
    (W : Way its recs iS aS pS rS kind text j) (hv1 : IsI v1 kind) (hv2 : IsI v2 0) (hn : its.length ≤ 900) (hm : recs.length ≤ 1000) (hr : (rS j).length ≤ 1000)
    (h1 : rd ≠ dr ∧ rd ≠ ctl ∧ rd ≠ dc ∧ dr ≠ ctl ∧ dr ≠ dc ∧ ctl ≠ dc) (h2 : src ≠ ds ∧ src ≠ rd ∧ src ≠ dr ∧ src ≠ ctl ∧ src ≠ dc ∧ ds ≠ rd ∧ ds ≠ dr ∧ ds ≠ ctl ∧ ds ≠ dc) :
    ConH none w 484 12 [.ref rd, v1, v2] ((lr, listOf recs.toArray mm) :: (fl, listOf (refs its).toArray nn) :: (modL w.params md dm tm ts ++ (limL w.params lim dl tl ul ++ its)))
      (ctlL w.params ctl dc fl cl (iS j) used tc t4 t5 ++ (srcL w.params src ds lr (aS j) t0 t1 ta ++ rdrL w.params rd dr ctl src md lim (rS j) (pS j) tr t6 t7))
      (fun v new => ∃ x new', readKind kind text = .ok x ∧ ValIs v new' x ∧ ∃ t8 t9 ty tb tz, new = new' ++ (ctlL w.params ctl dc fl cl (iS (j + 1)) true tc t4 t9 ++ (srcL w.params src ds lr (aS (j + 1)) t0 t1 tb ++ rdrL w.params rd dr ctl src md lim (rS (j + 1)) (pS (j + 1)) tz ty t8)))
      (fun C code => C = 82 ∧ ∃ c, code = some c ∧ readKind kind text = .error c) := by
  refine nnOf fun nO => ?_
  obtain ⟨it, vs, k, hi, hk, hr2, ⟨e1, hp, rfl, e2, e3, e4, e5⟩ | ⟨sl, tz, tq, e1, e2, e3, hp, rfl, e4, e5, e6⟩⟩ := W <;> (refine nO ?_; clear nO)
  · have hfl : (refs its)[iS j]? = some (.ref it) := by simp [refs, e1]
    have C := take_con w src ds lr rd dr ctl dc fl cl md dm lim dl it kind k vs (refs its) nn (iS j) used (rS j) (pS j) k v1 v2 tm tl ul tr tc ts t4 t5 t6 t7 hi hv1 hv2 hfl (by simp; lia) rfl hk hr hp h1
    rw [e2, e3, e4, e5]
    refine con_impS (con_frame (fz' := _) (pre' := _) (srcL w.params src ds lr (aS j) t0 t1 ta) C ?_ ?_ ?_ ?_ ?_) ?_ fun _ _ r => r
    · intro q hq
      rcases List.mem_append.mp hq with hq | hq
      · exact List.mem_append_left _ hq
      · exact List.mem_append_right _ (List.mem_append_right _ hq)
    · intro q hq
      rcases List.mem_append.mp hq with hq | hq
      · exact .inl (List.mem_append_left _ hq)
      · rcases List.mem_append.mp hq with hq | hq
        · exact .inr hq
        · exact .inl (List.mem_append_right _ hq)
    · exact fun q hq => List.mem_append_right _ (List.mem_append_left _ hq)
    · refine nnOf fun nO => ?_
      obtain ⟨g1, g2, g3, g4, g5, g6, g7, g8, g9⟩ := h2 <;> (refine nO ?_; clear nO)
      refine List.forall_mem_cons.mpr ⟨?_, List.forall_mem_cons.mpr ⟨?_, List.forall_mem_nil _⟩⟩
      all_goals
        simp only [ads, List.cons_append, List.nil_append, List.map_cons, List.map_nil, List.mem_cons, List.not_mem_nil, or_false, not_or]
        repeat' (refine And.intro ?_ ?_)
      all_goals assumption
    · intro q hq
      rcases List.mem_cons.mp hq with rfl | hq
      · exact .tail _ (.head _)
      · rcases List.mem_cons.mp hq with rfl | hq
        · exact .tail _ (.tail _ (List.mem_append_right _ (List.mem_append_right _ (List.mem_of_getElem? e1))))
        · rcases List.mem_append.mp hq with hq | hq
          · exact .tail _ (.tail _ (List.mem_append_left _ hq))
          · exact .tail _ (.tail _ (List.mem_append_right _ (List.mem_append_left _ hq)))
    · intro v new hX19
      refine nnOf fun nO => ?_
      obtain ⟨n, rfl, x, new', hx, hv, t8, t9, rfl⟩ := hX19 <;> (refine nO ?_; clear nO)
      refine ⟨_, ⟨x, new', hx, hv, t8, t9, t6, ta, tr, rfl⟩, ?_⟩
      intro q hq
      simp only [List.mem_append] at hq ⊢
      rcases hq with hq | hq | hq | hq
      · exact .inl (.inl hq)
      · exact .inl (.inr (.inr hq))
      · exact .inr hq
      · exact .inl (.inr (.inl hq))
  · have hf0 : (refs its)[iS j]? = some (.ref sl) := by simp [refs, e1]
    have hfl : (refs its)[iS j + 1]? = some (.ref it) := by simp [refs, e2]
    have C := take_sl_con w src ds lr rd dr ctl dc fl cl md dm lim dl it sl kind k vs (refs its) recs nn mm (iS j) (aS j) used (rS j) (rS (j + 1)) (pS j) k v1 v2 tm tl ul tr tc ts t4 t5 t6 t7 tz tq t0 t1 ta hi hv1 hv2 hf0 hfl (by simp; lia) e3 hm rfl hk hr2 hp h1 h2
    rw [e4, e5, e6]
    refine con_impS (con_frame (fz' := _) (pre' := _) [] C (fun q h => h) (fun q h => .inl h) (fun q h => nomatch h) (fun q h => nomatch h) ?_) ?_ fun _ _ r => r
    · intro q hq
      rcases List.mem_cons.mp hq with rfl | hq
      · exact .head _
      rcases List.mem_cons.mp hq with rfl | hq
      · exact .tail _ (.tail _ (List.mem_append_right _ (List.mem_append_right _ (List.mem_of_getElem? e1))))
      rcases List.mem_cons.mp hq with rfl | hq
      · exact .tail _ (.head _)
      · rcases List.mem_cons.mp hq with rfl | hq
        · exact .tail _ (.tail _ (List.mem_append_right _ (List.mem_append_right _ (List.mem_of_getElem? e2))))
        · rcases List.mem_append.mp hq with hq | hq
          · exact .tail _ (.tail _ (List.mem_append_left _ hq))
          · exact .tail _ (.tail _ (List.mem_append_right _ (List.mem_append_left _ hq)))
    · intro v new hX20
      refine nnOf fun nO => ?_
      obtain ⟨n, rfl, x, new', hx, hv, t8, t9, ty, ts', rfl⟩ := hX20 <;> (refine nO ?_; clear nO)
      refine ⟨_, ⟨x, new', hx, hv, t8, t9, ty, ts', tr, rfl⟩, ?_⟩
      intro q hq
      simp only [List.mem_append] at hq ⊢
      rcases hq with hq | hq | hq | hq
      · exact .inl (.inl hq)
      · exact .inl (.inr (.inr (.inl hq)))
      · exact .inl (.inr (.inr (.inr hq)))
      · exact .inl (.inr (.inl hq))

end
section
open PySem PySem.W PyProof.Rows PySem.Calls PySem.Spec
noncomputable def readAll : List (Int × List Nat) → Except Int (List Val)
  | [] => .ok []
  | (k, t) :: r => match readKind k t with
    | .error c => .error c
    | .ok x => match readAll r with
      | .error c => .error c
      | .ok xs => .ok (x :: xs)
theorem readAll_ok {fs : List (Int × List Nat)} : ∀ {gs : List (Int × List Nat)} {xs ys : List Val}, readAll fs = .ok xs → readAll gs = .ok ys → readAll (fs ++ gs) = .ok (xs ++ ys) := by
  induction fs with
  | nil => intro gs xs ys h h'; cases h; exact h'
  | cons f r ih =>
    obtain ⟨k, t⟩ := f
    intro gs xs ys h h'
    simp only [readAll, List.cons_append] at h ⊢
    cases e : readKind k t with
    | error c => rw [e] at h; cases h
    | ok x =>
      rw [e] at h
      dsimp only at h ⊢
      cases e2 : readAll r with
      | error c => rw [e2] at h; cases h
      | ok zs => rw [e2] at h; cases h; rw [ih e2 h']; rfl
theorem readAll_err {fs : List (Int × List Nat)} : ∀ {gs : List (Int × List Nat)} {xs : List Val} {c : Int}, readAll fs = .ok xs → readAll gs = .error c → readAll (fs ++ gs) = .error c := by
  induction fs with
  | nil => intro gs xs c h h'; cases h; exact h'
  | cons f r ih =>
    obtain ⟨k, t⟩ := f
    intro gs xs c h h'
    simp only [readAll, List.cons_append] at h ⊢
    cases e : readKind k t with
    | error c => rw [e] at h; cases h
    | ok x =>
      rw [e] at h
      dsimp only at h ⊢
      cases e2 : readAll r with
      | error c => rw [e2] at h; cases h
      | ok zs => rw [ih e2 h']
theorem readAll_next {fs : List (Int × List Nat)} {j : Nat} {k : Int} {t : List Nat} {xs : List Val} {x : Val} (h : readAll (fs.take j) = .ok xs) (hj : fs[j]? = some (k, t)) (hx : readKind k t = .ok x) : readAll (fs.take (j + 1)) = .ok (xs ++ [x]) := by
  rw [List.take_add_one, hj]
  exact readAll_ok h (by simp [readAll, hx])
theorem readAll_stop {fs : List (Int × List Nat)} {j : Nat} {k : Int} {t : List Nat} {xs : List Val} {c : Int} (h : readAll (fs.take j) = .ok xs) (hj : fs[j]? = some (k, t)) (hx : readKind k t = .error c) : readAll fs = .error c := by
  have hlt := (List.getElem?_eq_some_iff.mp hj).1
  have e : fs = fs.take j ++ ((k, t) :: fs.drop (j + 1)) := by
    conv => lhs; rw [← List.take_append_drop j fs]
    rw [List.drop_eq_getElem_cons hlt]
    rw [(List.getElem?_eq_some_iff.mp hj).2]
  rw [e]
  exact readAll_err h (by simp [readAll, hx])

structure Vals (vs : List Value) (ex : Led) (xs : List Val) : Prop where
  intro ::
  len : vs.length = xs.length
  each : ∀ (i : Nat) v x, vs[i]? = some v → xs[i]? = some x → ∃ new, (∀ p ∈ new, p ∈ ex) ∧ ValIs v new x
  tup : ∀ p ∈ ex, p.2.cls = .type "tuple"
theorem valIs_tup {v : Value} {new : Led} {x : Val} (h : ValIs v new x) : ∀ p ∈ new, p.2.cls = .type "tuple" := by
  cases x with
  | int n => obtain ⟨_, rfl⟩ := h; exact List.forall_mem_nil _
  | bool b => obtain ⟨_, rfl⟩ := h; exact List.forall_mem_nil _
  | pair a b =>
    rcases h with ⟨_, _, _, _, rfl, _, _⟩ | ⟨_, rfl, _, _⟩
    · exact List.forall_mem_cons.mpr ⟨rfl, List.forall_mem_nil _⟩
    · exact List.forall_mem_nil _
theorem Vals.nil : Vals [] [] [] := ⟨rfl, fun i v x h => by simp at h, List.forall_mem_nil _⟩
theorem Vals.snoc {vs : List Value} {ex new : Led} {xs : List Val} {v : Value} {x : Val} (h : Vals vs ex xs) (hv : ValIs v new x) : Vals (vs ++ [v]) (new ++ ex) (xs ++ [x]) := by
  obtain ⟨hl, he, ht⟩ := h
  refine ⟨by simp [hl], fun i u y hu hy => ?_, fun p hp => ?_⟩
  · rcases Nat.lt_or_ge i vs.length with h | h
    · rw [List.getElem?_append_left h] at hu
      rw [List.getElem?_append_left (hl ▸ h)] at hy
      obtain ⟨n, hn, q⟩ := he i u y hu hy
      exact ⟨n, fun p hp => List.mem_append_right _ (hn p hp), q⟩
    · rw [List.getElem?_append_right h] at hu
      rw [List.getElem?_append_right (hl ▸ h)] at hy
      have hi : i - vs.length = 0 := by
        have := (List.getElem?_eq_some_iff.mp hu).1
        simp at this; lia
      rw [← hl, hi] at hy
      rw [hi] at hu
      cases hu; cases hy
      exact ⟨new, fun p hp => List.mem_append_left _ hp, hv⟩
  · rcases List.mem_append.mp hp with hp | hp
    · exact valIs_tup hv p hp
    · exact ht p hp
theorem sig_rest {P : Params} {ctl dc fl cl src ds lr rd dr md dm lim vl : Addr} {i a : Int} {c : Int} {used : Bool} {tc tr tm : Nat → Tok} {t4 t5 t6 t7 t0 t1 ta tn : Tok} {rec : List Nat} {va vb : Array Value} {n m : Nat} {ex : Led} (hex : ∀ p ∈ ex, p.2.cls = .type "tuple") :
    ∀ p ∈ (vl, listOf va n) :: (fl, listOf vb m) :: (modL P md dm tm tn ++ ex), ∀ q ∈ ctlL P ctl dc fl cl i used tc t4 t5 ++ (srcL P src ds lr a t0 t1 ta ++ rdrL P rd dr ctl src md lim rec c tr t6 t7), sig p.2 ≠ sig q.2 := by
  intro p hp q hq
  simp only [modL, ctlL, srcL, rdrL, List.cons_append, List.nil_append, List.mem_cons, List.not_mem_nil, or_false] at hp hq
  rcases hp with rfl | rfl | rfl | rfl | hp
  case inr.inr.inr.inr => rcases hq with rfl | rfl | rfl | rfl | rfl | rfl <;> simp [sig, instObj, hex p hp]
  all_goals rcases hq with rfl | rfl | rfl | rfl | rfl | rfl <;> simp [sig, instObj]
theorem cls_rest {P : Params} {ctl dc fl cl src ds lr rd dr md dm lim : Addr} {i a : Int} {c : Int} {used : Bool} {tc tr tm : Nat → Tok} {t4 t5 t6 t7 t0 t1 ta tn : Tok} {rec : List Nat} {ex new : Led} (hex : ∀ p ∈ ex, p.2.cls = .type "tuple") (hnw : ∀ p ∈ new, p.2.cls = .type "tuple") :
    ∀ p ∈ (ctlL P ctl dc fl cl i used tc t4 t5 ++ (srcL P src ds lr a t0 t1 ta ++ rdrL P rd dr ctl src md lim rec c tr t6 t7)) ++ (modL P md dm tm tn ++ (new ++ ex)), p.2.cls ≠ .type "list" := by
  intro p hp
  simp only [modL, ctlL, srcL, rdrL, List.cons_append, List.nil_append, List.mem_cons, List.mem_append] at hp
  rcases hp with rfl | rfl | rfl | rfl | rfl | rfl | rfl | rfl | hp | hp
  case inr.inr.inr.inr.inr.inr.inr.inr.inl => simp [hnw p hp]
  case inr.inr.inr.inr.inr.inr.inr.inr.inr => simp [hex p hp]
  all_goals simp [instObj]
end
section
theorem ws_at {fs : List (Int × List Nat)} {ws : Led} (hw : ws.length = fs.length) (hww : ∀ (j : Nat) k t, fs[j]? = some (k, t) → ∃ wa v1 v2, ws[j]? = some (wa, tupO [v1, v2]) ∧ IsI v1 k ∧ IsI v2 0) {j : Nat} {v : Value} (hv : (refs ws)[j]? = some v) : ∃ k t wa ta1 ta2, fs[j]? = some (k, t) ∧ v = .ref wa ∧ (wa, tupO [Value.int k ta1, Value.int 0 ta2]) ∈ ws := by
  have hlt : j < fs.length := by have := (List.getElem?_eq_some_iff.mp hv).1; simpa [hw] using this
  obtain ⟨⟨k, t⟩, hj⟩ : ∃ p, fs[j]? = some p := ⟨_, List.getElem?_eq_getElem hlt⟩
  obtain ⟨wa, v1, v2, hwj, ⟨t1, rfl⟩, ⟨t2, rfl⟩⟩ := hww j k t hj
  exact ⟨k, t, wa, t1, t2, hj, by simp [refs, hwj] at hv; exact hv.symm, List.mem_of_getElem? hwj⟩
theorem perm1 {v f : Addr × Obj} {A C M E : Led} : ∀ p ∈ v :: f :: (C ++ (M ++ (A ++ E))), p ∈ (A ++ C) ++ (v :: f :: (M ++ E)) := fun p hp => by
  simp only [List.mem_cons, List.mem_append] at hp ⊢
  rcases hp with h | h | h | h | h | h <;> simp only [h, true_or, or_true]
theorem perm2 {v f : Addr × Obj} {C M : Led} : ∀ p ∈ C ++ (v :: f :: M), p ∈ v :: f :: (C ++ M) := fun p hp => by
  simp only [List.mem_cons, List.mem_append] at hp ⊢
  rcases hp with h | h | h | h <;> simp only [h, true_or, or_true]
theorem perm3 {v f : Addr × Obj} {A B C M E : Led} : ∀ p ∈ (A ++ B) ++ ((C ++ [v, f]) ++ E), p ∈ (A ++ (C ++ B)) ++ (v :: f :: (M ++ E)) := fun p hp => by
  simp only [List.mem_cons, List.mem_append, List.not_mem_nil, or_false] at hp ⊢
  rcases hp with (h | h) | (h | h | h) | h <;> simp only [h, true_or, or_true]
theorem read_records_con (w : World) (tl lr wl lim dl : Addr) (its ws : Led) (recs : List Value) (nn mm kk : Nat) (tll ul : Nat → Tok) (tr : Tok) (fs : List (Int × List Nat)) (iS aS pS : Nat → Nat) (rS : Nat → List Nat)
    (hi : ∀ p ∈ its, Flat p.2) (hn : its.length ≤ 900) (hr : recs[0]? = some (.str (S (rS 0)) tr)) (hm : recs.length ≤ 1000) (h0 : iS 0 = 0 ∧ aS 0 = 1 ∧ pS 0 = 0) (hrl : ∀ j, (rS j).length ≤ 1000)
    (hfn : fs.length ≤ 900) (hw : ws.length = fs.length) (hww : ∀ (j : Nat) k t, fs[j]? = some (k, t) → ∃ wa v1 v2, ws[j]? = some (wa, tupO [v1, v2]) ∧ IsI v1 k ∧ IsI v2 0) (hf : ∀ (j : Nat) k t, fs[j]? = some (k, t) → Way its recs iS aS pS rS k t j) (he : iS fs.length = its.length) :
    ConH none w 533 14 [.ref tl, .ref lr, .ref wl, .ref 224, .bool false, .ref lim] ((lr, listOf recs.toArray mm) :: (tl, listOf (refs its).toArray nn) :: (wl, listOf (refs ws).toArray kk) :: (limL w.params lim dl tll ul ++ (its ++ ws))) []
      (fun v new => ∃ a vl t n vs ex xs, v = .ref a ∧ new = (a, tupO [.ref vl, .int (aS fs.length) t]) :: (vl, listOf vs.toArray n) :: ex ∧ Vals vs ex xs ∧ readAll fs = .ok xs)
      (fun C code => C = 82 ∧ ∃ c, code = some c ∧ readAll fs = .error c) := by
  obtain ⟨h01, h02, h03⟩ := h0
  have C1 := source_con w lr
  have C2 := fun src ds t0 t1 ta hsd => reader_con w tl src ds lr lim its nn mm recs (rS 0) t0 t1 ta tr hi hn hr hm hsd
  refine' con_vc (n := 20) ⟨["tree", "records", "wanted", "read", "is_zeros", "limits", "source", "reader", "values", "kind", "length"], [("ListSource", .ref 522), ("FormatReader", .ref 494)], [522, 494, 484, 491]⟩ (binds := [("tree", .ref tl), ("records", .ref lr), ("wanted", .ref wl), ("read", .ref 224), ("is_zeros", .bool false), ("limits", .ref lim)]) ?hmain
  intro c0 R G hR
  refine use0 G C1 ?_ (fun _ h => nomatch h) fun _ _ r => r.elim
  intro v new hX21
  refine nnOf fun nO => ?_
  obtain ⟨src, ds, t0, t1, ta, rfl, rfl, hlt⟩ := hX21 <;> (refine nO ?_; clear nO)
  refine useA G (C2 src ds t0 t1 ta (Nat.ne_of_gt hlt)) (List.forall_mem_cons.mpr ⟨.head _, List.forall_mem_cons.mpr ⟨.tail _ (.head _), fun p hp => .tail _ (.tail _ (.tail _ (List.mem_append_right _ (List.mem_append_left _ hp))))⟩⟩) ?_
  intro v new hX22
  refine nnOf fun nO => ?_
  obtain ⟨rd, dr, ctl, dc, fl, cl, md, dm, tb, tc, td, te, t2, t3, t4, m2, tm, tn, rfl, rfl, hlt1, hlt2, hlt3⟩ := hX22 <;> (refine nO ?_; clear nO)
  intro _ vl hvl
  have hfv : fl ≠ vl := Nat.ne_of_lt (hvl (fl, listOf (refs its).toArray m2) (.tail _ (.tail _ (.tail _ (.tail _ (.tail _ (.tail _ (.head _))))))))
  clear hvl C1 C2 hr hi
  refine for_lst (n := 20) G (.tail _ (.tail _ (.head _))) (fun j K => ∀ (used : Bool) (td te tb : Tok) (t2 : Nat → Tok) (t3 t4 : Tok) (vs : List Value) (n : Nat) (ex : Led) (xs : List Val) (s9 s10 : Option Value) (led : Led), vs.length = j → Vals vs ex xs → readAll (fs.take j) = .ok xs →
    (∀ p ∈ (ctlL w.params ctl dc fl cl (iS j) used tc td te ++ (srcL w.params src ds lr (aS j) t0 t1 tb ++ rdrL w.params rd dr ctl src md lim (rS j) (pS j) t2 t3 t4)) ++ ((vl, listOf vs.toArray n) :: (fl, listOf (refs its).toArray m2) :: (modL w.params md dm tm tn ++ ex)), p ∈ led) → K ⟨[some (.ref tl), some (.ref lr), some (.ref wl), some (.ref 224), some (.bool false), some (.ref lim), some (.ref src), some (.ref rd), some (.ref vl), s9, s10], led, ((lr, listOf recs.toArray mm) :: (tl, listOf (refs its).toArray nn) :: (wl, listOf (refs ws).toArray kk) :: (limL w.params lim dl tll ul ++ (its ++ ws)))⟩) (fun K h => h false td te tb t2 t3 t4 [] 0 [] [] none none _ rfl Vals.nil rfl ?_)
    (fun c' R' j v G' hL hv => ?_) ?_ (.inr ⟨⟨_, _, _, rfl⟩, fun v hv => by obtain ⟨p, _, rfl⟩ := List.mem_map.mp hv; exact ⟨_, rfl⟩⟩)
  · rw [h01, h02, h03]
    exact List.forall_mem_cons.mpr ⟨(.tail _ (.tail _ (.tail _ (.tail _ (.tail _ (.head _)))))), List.forall_mem_cons.mpr ⟨(.tail _ (.tail _ (.tail _ (.tail _ (.tail _ (.tail _ (.head _))))))), List.forall_mem_cons.mpr ⟨(.tail _ (.head _)), List.forall_mem_cons.mpr ⟨(.tail _ (.tail _ (.head _))), List.forall_mem_cons.mpr ⟨(.tail _ (.tail _ (.tail _ (.head _)))), List.forall_mem_cons.mpr ⟨(.tail _ (.tail _ (.tail _ (.tail _ (.head _))))), List.forall_mem_cons.mpr ⟨(.head _), List.forall_mem_cons.mpr ⟨(.tail _ (.tail _ (.tail _ (.tail _ (.tail _ (.tail _ (.tail _ (.head _)))))))), List.forall_mem_cons.mpr ⟨(.tail _ (.tail _ (.tail _ (.tail _ (.tail _ (.tail _ (.tail _ (.tail _ (.head _))))))))), List.forall_mem_cons.mpr ⟨(.tail _ (.tail _ (.tail _ (.tail _ (.tail _ (.tail _ (.tail _ (.tail _ (.tail _ (.head _)))))))))), fun _ h => nomatch h⟩⟩⟩⟩⟩⟩⟩⟩⟩⟩
  · refine nnOf fun nO => ?_
    obtain ⟨k, t, wa, ta1, ta2, hj, rfl, hwm⟩ := ws_at hw hww hv <;> (refine nO ?_; clear nO)
    intro used td te tb t2 t3 t4 vs n ex xs s9 s10 led hvj hV hx hled
    refine sm_unpack G' (.inr (.tail _ (.tail _ (.tail _ (List.mem_append_right _ (List.mem_append_right _ hwm)))))) rfl rfl ?_
    refine app_at (n := 19) G' (hled _ (.tail _ (.tail _ (.tail _ (.tail _ (.tail _ (.tail _ (.head _)))))))) ?_
    refine meth_at (n := 18) G' (.inl (hled _ (.tail _ (.tail _ (.tail _ (.tail _ (.head _))))))) (.inl (hled _ (.tail _ (.tail _ (.tail _ (.tail _ (.tail _ (.head _)))))))) (by kernel_rfl) rfl (.tail _ (.tail _ (.head _))) ?_
    refine sm_know (fun h0 H => dis_way H.N fun q hq => List.mem_append_left _ (hled q (List.mem_append_left _ hq))) fun d => ?_
    refine useX G' (take_way_con w src ds lr rd dr ctl dc fl cl md dm lim dl k t its recs m2 mm j used iS aS pS rS _ _ tm tll ul t2 tc tn td te t3 t4 t0 t1 tb (hf j k t hj) ⟨_, rfl⟩ ⟨_, rfl⟩ hn hm (hrl j) d.1 d.2) ((vl, listOf vs.toArray n) :: (fl, listOf (refs its).toArray m2) :: modL w.params md dm tm tn) ex rfl hV.tup (by kernel_rfl) hled ?_ ?_ ?_
    · exact List.forall_mem_cons.mpr ⟨.inl (.head _), List.forall_mem_cons.mpr ⟨.inr (.tail _ (.head _)), List.forall_mem_cons.mpr ⟨.inr (.tail _ (.tail _ (.head _))), List.forall_mem_cons.mpr ⟨.inr (.tail _ (.tail _ (.tail _ (.head _)))), List.forall_mem_cons.mpr ⟨.inl (.tail _ (.tail _ (.tail _ (.head _)))), List.forall_mem_cons.mpr ⟨.inl (.tail _ (.tail _ (.tail _ (.tail _ (.head _))))), fun p hp => .inl (.tail _ (.tail _ (.tail _ (.tail _ (.tail _ (List.mem_append_left ws (show _ ∈ its from hp)))))))⟩⟩⟩⟩⟩⟩
    · intro v new hX23
      refine nnOf fun nO => ?_
      obtain ⟨x, new', hx2, hval, t8, t9, ty, tb', tz, rfl⟩ := hX23 <;> (refine nO ?_; clear nO)
      refine sm_appendX (vs := vs) (m := n) ((fl, listOf (refs its).toArray m2) :: ((ctlL w.params ctl dc fl cl (iS (j + 1)) true tc td t9 ++ (srcL w.params src ds lr (aS (j + 1)) t0 t1 tb' ++ rdrL w.params rd dr ctl src md lim (rS (j + 1)) (pS (j + 1)) tz ty t8)) ++ (modL w.params md dm tm tn ++ (new' ++ ex)))) perm1 (by have := (List.getElem?_eq_some_iff.mp hj).1; lia) (List.forall_mem_cons.mpr ⟨.inl hfv, fun p hp => .inr (cls_rest hV.tup (valIs_tup hval) p hp)⟩) ?_
      exact hL.next fun K q => q true td t9 tb' tz ty t8 (vs ++ [v]) (n + 1) (new' ++ ex) (xs ++ [x]) _ _ _ (by rw [List.length_append, hvj]; rfl) (hV.snoc hval) (readAll_next hx hj hx2) perm2
    · intro C code hX24
      refine nnOf fun nO => ?_
      obtain ⟨rfl, c, rfl, hr⟩ := hX24 <;> (refine nO ?_; clear nO)
      exact ⟨rfl, c, rfl, readAll_stop hx hj hr⟩
  · rw [show (refs ws).length = fs.length by simp [refs, hw]]
    intro used td te tb t2 t3 t4 vs n ex xs s9 s10 led hvj hV hx hled
    have e0 : (refs its).length = its.length := by simp [refs]
    rw [List.take_length] at hx
    rw [he, ← e0] at hled
    refine meth_at (n := 19) G (.inl (hled _ (.tail _ (.tail _ (.tail _ (.tail _ (.head _))))))) (.inl (hled _ (.tail _ (.tail _ (.tail _ (.tail _ (.tail _ (.head _)))))))) (by kernel_rfl) rfl (.tail _ (.tail _ (.tail _ (.head _)))) ?_
    refine sm_know (fun h0 H => dis_way H.N fun q hq => List.mem_append_left _ (hled q (List.mem_append_left _ hq))) fun d => ?_
    refine useX G (finish_con w rd dr ctl dc fl cl src md lim used (refs its) m2 (rS fs.length) (pS fs.length) t2 tc td te t3 t4 (by lia) d.1) (srcL w.params src ds lr (aS fs.length) t0 t1 tb ++ [(vl, listOf vs.toArray n), (fl, listOf (refs its).toArray m2)]) ex rfl hV.tup (by kernel_rfl) (fun p hp => hled p (perm3 p hp)) (List.forall_mem_singleton.mpr (.inr (.tail _ (.tail _ (.tail _ (.head _)))))) ?_
    rintro v new ⟨rfl, rfl⟩
    refine get_at G (.inl (.tail _ (.tail _ (.tail _ (.tail _ (.head _)))))) (.inl (.tail _ (.tail _ (.tail _ (.tail _ (.tail _ (.head _))))))) (by kernel_rfl) rfl rfl ?_
    intro _ a _
    exact hR.ret _ ⟨a, vl, tb, n, vs, ex, xs, rfl, rfl, hV, hx⟩ (List.forall_mem_cons.mpr ⟨.head _, List.forall_mem_cons.mpr ⟨(.tail _ (.tail _ (.tail _ (.tail _ (.tail _ (.tail _ (.tail _ (.head _)))))))), fun p hp => .tail _ (List.mem_append_right _ (List.mem_append_right _ hp))⟩⟩)

end
section
open PySem PySem.W PyProof.Rows PySem.Calls PySem.Spec
noncomputable abbrev lrdL (P : Params) (rd dr src : Addr) (rec : List Nat) (col left : Int) (held : Value) (beh done : Bool) (t : Nat → Tok) (ta tb tc : Tok) : Led := [(rd, instObj 243 dr), (dr, dictOf [⟨PyData.keyHash P "source", .str "source" (t 0), .ref src⟩, ⟨PyData.keyHash P "record", .str "record" (t 1), .str (S rec) ta⟩, ⟨PyData.keyHash P "col", .str "col" (t 2), .int col tb⟩, ⟨PyData.keyHash P "left", .str "left" (t 3), .int left tc⟩, ⟨PyData.keyHash P "held", .str "held" (t 4), held⟩, ⟨PyData.keyHash P "is_behind", .str "is_behind" (t 5), .bool beh⟩, ⟨PyData.keyHash P "is_done", .str "is_done" (t 6), .bool done⟩] 7)]
section
variable {prog : Program} {w : World} {A : Around} {E : Value → Shared → Prop} {s : Shared}
end
theorem con_deeper {hd : Option Value} {w : World} {f : Addr} {k k' : Nat} {args : List Value} {fz pre : Led} {post : Value → Led → Prop} {rai : Addr → Option Int → Prop} (C : ConH hd w f k args fz pre post rai) (hk : k ≤ k' := by decide) : ConH hd w f k' args fz pre post rai :=
  fun mean mg mb A A₀ base env outer s h₀ L m Q E S => C mean mg mb A A₀ base env outer s h₀ L m Q E ⟨S.B, S.fr, S.ef, S.ek, S.F, S.X, S.T, by have := S.dep; lia, by have := S.un; lia, S.O⟩

end
section
theorem take1_get {l : List Nat} {c x : Nat} (h : l[c]? = some x) : (l.drop c).take 1 = [x] := by
  obtain ⟨hlt, rfl⟩ := List.getElem?_eq_some_iff.mp h
  rw [List.drop_eq_getElem_cons hlt]; rfl
theorem sign_here_con (w : World) (rd dr src : Addr) (rec : List Nat) (c : Nat) (left : Int) (held : Value) (beh done : Bool) (t : Nat → Tok) (ta tb tc : Tok) (hr : rec.length ≤ 1000) (hne : rd ≠ dr) :
    Con w 254 2 [.ref rd] [] (lrdL w.params rd dr src rec c left held beh done t ta tb tc) (fun v new => IsS v ((rec.drop c).take 1) ∧ new = lrdL w.params rd dr src rec c left held beh done t ta tb tc) := by
  refine' con_vc (n := 20) ⟨["reader"], [("len", .builtin "len")], []⟩ (binds := [("reader", .ref rd)]) ?hmain
  intro c0 R G hR
  have big : rec.length ≤ 1048576 := Nat.le_trans hr (by decide)
  refine get_at G (.inl (.head _)) (.inl (.tail _ (.head _))) (by kernel_rfl) rfl rfl ?_
  refine get_at G (.inl (.head _)) (.inl (.tail _ (.head _))) (by kernel_rfl) rfl rfl ?_
  refine sm_len big ?_
  (repeat (intro (_ : Tok)))
  refine ⟨fun (h : (c : Int) < rec.length) => ?_, fun (h : ¬ (c : Int) < rec.length) => ?_⟩
  · refine get_at G (.inl (.head _)) (.inl (.tail _ (.head _))) (by kernel_rfl) rfl rfl ?_
    refine get_at G (.inl (.head _)) (.inl (.tail _ (.head _))) (by kernel_rfl) rfl rfl ?_
    refine ⟨⟨big, by lia⟩, fun y t hy => ?_⟩
    exact hR.at [0, 1] ⟨isS (by rw [take1_get hy]), rfl⟩
  · (repeat (intro (_ : Tok)))
    exact hR.at [0, 1] ⟨isS (by rw [List.drop_eq_nil_of_le (by lia)]; rfl), rfl⟩
theorem step_on_in (w : World) (rd dr src : Addr) (rec : List Nat) (c : Nat) (left : Int) (held : Value) (beh done : Bool) (t : Nat → Tok) (ta tb tc : Tok) (hr : rec.length ≤ 1000) (hne : rd ≠ dr) (hc : c < rec.length) :
    Con w 261 2 [.ref rd] [] (lrdL w.params rd dr src rec c left held beh done t ta tb tc) (fun v new => v = .none ∧ ∃ td, new = lrdL w.params rd dr src rec (c + 1 : Nat) left held beh done t ta td tc) := by
  refine' con_vc (n := 20) ⟨["reader"], [("len", .builtin "len")], []⟩ (binds := [("reader", .ref rd)]) ?hmain
  intro c0 R G hR
  refine vc_if (n := 20) G ?_
  refine get_at G (.inl (.head _)) (.inl (.tail _ (.head _))) (by kernel_rfl) rfl rfl ?_
  refine get_at G (.inl (.head _)) (.inl (.tail _ (.head _))) (by kernel_rfl) rfl rfl ?_
  refine sm_len (Nat.le_trans hr (by decide)) ?_
  (repeat (intro (_ : Tok)))
  refine ⟨fun _ => ?_, fun (h : ¬ (c : Int) < rec.length) => absurd (Int.ofNat_lt.mpr hc) h⟩
  refine get_at G (.inl (.head _)) (.inl (.tail _ (.head _))) (by kernel_rfl) rfl rfl ?_
  (repeat (intro (_ : Tok)))
  refine set_at G [_] rfl (.inl (.head _)) (by kernel_rfl) rfl rfl (fun _ => rfl) fun tk => ?_
  exact hR.none [0, 1] ⟨rfl, _, rfl⟩
theorem step_on_next (w : World) (rd dr src ds lr : Addr) (recs : List Value) (nn a : Nat) (t0 t1 td tr : Tok) (rec rec2 : List Nat) (c : Nat) (left : Int) (held : Value) (beh done : Bool) (t : Nat → Tok) (ta tb tc : Tok) (hr : rec.length ≤ 1000) (hc : rec.length ≤ c)
    (hg : recs[a]? = some (.str (S rec2) tr)) (hn : recs.length ≤ 1000) (hne : rd ≠ dr ∧ src ≠ ds ∧ rd ≠ src ∧ rd ≠ ds ∧ dr ≠ src ∧ dr ≠ ds) :
    Con w 261 3 [.ref rd] [(lr, listOf recs.toArray nn)] (srcL w.params src ds lr a t0 t1 td ++ lrdL w.params rd dr src rec c left held beh done t ta tb tc)
      (fun v new => v = .none ∧ ∃ te tf tg, new = srcL w.params src ds lr (a + 1) t0 t1 te ++ lrdL w.params rd dr src rec2 0 left held beh done t tf tg tc) := by
  have C := next_record_con w src ds lr recs nn a t0 t1 td tr rec2 hg hn hne.2.1
  refine' con_vc (n := 20) ⟨["reader"], [("len", .builtin "len")], [519]⟩ (binds := [("reader", .ref rd)]) ?hmain
  intro c0 R G hR
  refine vc_if (n := 20) G ?_
  refine get_at G (.inl (.tail _ (.tail _ (.head _)))) (.inl (.tail _ (.tail _ (.tail _ (.head _))))) (by kernel_rfl) rfl rfl ?_
  refine get_at G (.inl (.tail _ (.tail _ (.head _)))) (.inl (.tail _ (.tail _ (.tail _ (.head _))))) (by kernel_rfl) rfl rfl ?_
  refine sm_len (Nat.le_trans hr (by decide)) ?_
  (repeat (intro (_ : Tok)))
  refine ⟨fun (h : (c : Int) < rec.length) => absurd (Int.ofNat_lt.mp h) (Nat.not_lt.mpr hc), fun _ => ?_⟩
  refine get_at G (.inl (.tail _ (.tail _ (.head _)))) (.inl (.tail _ (.tail _ (.tail _ (.head _))))) (by kernel_rfl) rfl rfl ?_
  refine meth_at (n := 19) G (.inl (.head _)) (.inl (.tail _ (.head _))) (by kernel_rfl) rfl (.head _) ?_
  refine useO G C [_, _] rfl (fun _ h => h) (fun p h => .inl h) ?_
  rintro v new ⟨rfl, te, rfl⟩
  refine set_at G [_, _, _] rfl (.inl (.tail _ (.tail _ (.head _)))) (by kernel_rfl) rfl rfl (fun _ => rfl) fun tk => ?_
  (repeat (intro (_ : Tok)))
  refine set_at G [_, _, _] rfl (.inl (.tail _ (.tail _ (.head _)))) (by kernel_rfl) rfl rfl (fun _ => rfl) fun tk => ?_
  exact hR.none [0, 1, 2, 3] ⟨rfl, _, _, _, rfl⟩

end
section
theorem skip_in_con (w : World) (rd dr src : Addr) (rec : List Nat) (c k x : Nat) (r : List Nat) (left : Int) (held : Value) (beh done : Bool) (t : Nat → Tok) (ta tb tc : Tok) (hr : rec.length ≤ 1000) (hne : rd ≠ dr) (hd : rec.drop c = List.replicate k 32 ++ x :: r) (hx : x ≠ 32) :
    Con w 275 4 [.ref rd] [] (lrdL w.params rd dr src rec c left held beh done t ta tb tc) (fun v new => v = .none ∧ ∃ td, new = lrdL w.params rd dr src rec (c + k : Nat) left held beh done t ta td tc) := by
  have hck : c + k < rec.length := by
    have := congrArg List.length hd
    simp at this; lia
  have C1 := fun i tb => sign_here_con w rd dr src rec (c + i) left held beh done t ta tb tc hr hne
  have C2 := fun i tb hc => step_on_in w rd dr src rec (c + i) left held beh done t ta tb tc hr hne hc
  have e1 : ∀ i, i < k → (rec.drop (c + i)).take 1 = [32] := fun i hi => by
    rw [← List.drop_drop, hd, List.drop_append_of_le_length (by simp; lia), List.drop_replicate, List.take_append_of_le_length (by simp; lia), List.take_replicate, Nat.min_eq_left (by lia)]
    rfl
  have e2 : (rec.drop (c + k)).take 1 = [x] := by
    rw [← List.drop_drop, hd, List.drop_append_of_le_length (by simp), List.drop_replicate, Nat.sub_self]; rfl
  refine' con_vc (n := 20) ⟨["reader"], [("sign_here", .ref 254), ("step_on", .ref 261)], [254, 261]⟩ (binds := [("reader", .ref rd)]) ?hmain
  intro c0 R G hR
  refine sm_while (n := 20) G (fun m K => ∀ (i : Nat) (td : Tok), i ≤ k → m = k - i → K ⟨[some (.ref rd)], lrdL w.params rd dr src rec (c + i : Nat) left held beh done t ta td tc, []⟩) (n0 := k) (fun K hh => hh 0 tb (Nat.zero_le _) rfl) ?_
  intro c' R' m G' hL i td hi hm
  refine useA G' (C1 i td) (fun _ h => nomatch h) ?_
  rintro v new ⟨⟨tv, rfl⟩, rfl⟩
  (repeat (intro (_ : Tok)))
  rcases Nat.lt_or_ge i k with hlt | hge
  · refine ⟨fun _ => ?_, fun (h : ¬ (rec.drop (c + i)).take 1 = [32]) => absurd (e1 i hlt) h⟩
    refine useA G' (C2 i td (by lia)) (fun _ h => nomatch h) ?_
    rintro v new ⟨rfl, te, rfl⟩
    exact hL.next (k - (i + 1)) (by lia) fun K hh => hh (i + 1) te hlt rfl
  · obtain rfl : i = k := by lia
    refine ⟨fun (h : (rec.drop (c + i)).take 1 = [32]) => absurd (h.symm.trans e2) (fun q => hx (List.cons.inj q).1.symm), fun _ => ?_⟩
    refine useA G' (C1 i td) (fun _ h => nomatch h) ?_
    rintro v new ⟨⟨tv, rfl⟩, rfl⟩
    (repeat (intro (_ : Tok)))
    refine ⟨fun (h : (rec.drop (c + i)).take 1 = []) => absurd (h.symm.trans e2) (fun q => nomatch q), fun _ => ?_⟩
    exact hR.none [0, 1] ⟨rfl, td, rfl⟩
theorem skip_next_con (w : World) (rd dr src ds lr : Addr) (recs : List Value) (nn a : Nat) (t0 t1 td tr : Tok) (rec rec2 : List Nat) (c k x : Nat) (r : List Nat) (left : Int) (held : Value) (beh done : Bool) (t : Nat → Tok) (ta tb tc : Tok) (hr : rec.length ≤ 1000) (hr2 : rec2.length ≤ 1000) (hc : rec.length ≤ c)
    (hg : recs[a]? = some (.str (S rec2) tr)) (hn : recs.length ≤ 1000) (hne : rd ≠ dr ∧ src ≠ ds ∧ rd ≠ src ∧ rd ≠ ds ∧ dr ≠ src ∧ dr ≠ ds) (hd : rec2 = List.replicate k 32 ++ x :: r) (hx : x ≠ 32) :
    Con w 275 5 [.ref rd] [(lr, listOf recs.toArray nn)] (srcL w.params src ds lr a t0 t1 td ++ lrdL w.params rd dr src rec c left held beh done t ta tb tc)
      (fun v new => v = .none ∧ ∃ te tf tg, new = srcL w.params src ds lr (a + 1) t0 t1 te ++ lrdL w.params rd dr src rec2 k left held beh done t tf tg tc) := by
  have hck : k < rec2.length := by
    have := congrArg List.length hd
    simp at this; lia
  have hne0 := hne
  refine nnOf fun nO => ?_
  obtain ⟨h1, h2, h3, h4, h5, h6⟩ := hne <;> (refine nO ?_; clear nO)
  have h7 := Ne.symm h3
  have h8 := Ne.symm h4
  have h9 := Ne.symm h5
  have h10 := Ne.symm h6
  have C0 := sign_here_con w rd dr src rec c left held beh done t ta tb tc hr h1
  have C3 := step_on_next w rd dr src ds lr recs nn a t0 t1 td tr rec rec2 c left held beh done t ta tb tc hr hc hg hn hne0
  have C1 := fun (i : Nat) tf tb => sign_here_con w rd dr src rec2 i left held beh done t tf tb tc hr2 h1
  have C2 := fun i tf tb hc => step_on_in w rd dr src rec2 i left held beh done t tf tb tc hr2 h1 hc
  have e1 : ∀ i, i < k → (rec2.drop i).take 1 = [32] := fun i hi => by
    rw [hd, List.drop_append_of_le_length (by simp; lia), List.drop_replicate, List.take_append_of_le_length (by simp; lia), List.take_replicate, Nat.min_eq_left (by lia)]
    rfl
  have e2 : (rec2.drop k).take 1 = [x] := by
    rw [hd, List.drop_append_of_le_length (by simp), List.drop_replicate, Nat.sub_self]; rfl
  rw [List.drop_eq_nil_of_le hc] at C0
  clear hd
  refine' con_vc (n := 20) ⟨["reader"], [("sign_here", .ref 254), ("step_on", .ref 261)], [254, 261]⟩ (binds := [("reader", .ref rd)]) ?hmain
  intro c0 R G hR
  refine sm_while (n := 20) G (fun m K => (m = k + 1 → K ⟨[some (.ref rd)], srcL w.params src ds lr a t0 t1 td ++ lrdL w.params rd dr src rec c left held beh done t ta tb tc, [(lr, listOf recs.toArray nn)]⟩) ∧ ∀ (i : Nat) (te tf tg : Tok) (led : Led), i ≤ k → m = k - i → (∀ p ∈ lrdL w.params rd dr src rec2 (i : Nat) left held beh done t tf tg tc ++ srcL w.params src ds lr (a + 1) t0 t1 te, p ∈ led) → K ⟨[some (.ref rd)], led, [(lr, listOf recs.toArray nn)]⟩) (n0 := k + 1) (fun K hh => hh.1 rfl) ?_
  intro c' R' m G' hL
  have sw : ∀ {x y : Led}, ∀ p ∈ y ++ x, p ∈ x ++ y := fun p h => (List.mem_append.mp h).elim (fun h => List.mem_append_right _ h) fun h => List.mem_append_left _ h
  refine ⟨fun hm => ?_, fun i te tf tg led hi hm hs => ?_⟩
  · refine useO G' C0 (srcL w.params src ds lr a t0 t1 td) rfl sw (fun _ h => nomatch h) ?_
    rintro v new ⟨⟨tv, rfl⟩, rfl⟩
    (repeat (intro (_ : Tok)))
    refine ⟨fun h => (nomatch (h : ([] : List Nat) = [32])), fun _ => ?_⟩
    refine useO G' C0 (srcL w.params src ds lr a t0 t1 td) rfl (fun _ h => h) (fun _ h => nomatch h) ?_
    rintro v new ⟨⟨tv, rfl⟩, rfl⟩
    (repeat (intro (_ : Tok)))
    refine ⟨fun _ => ?_, fun h => absurd (rfl : ([] : List Nat) = []) h⟩
    refine useO G' C3 [] rfl (fun p h => sw p (by rwa [List.append_nil] at h)) (fun p h => .inl h) ?_
    intro v new hX25
    refine nnOf fun nO => ?_
    obtain ⟨rfl, te, tf, tg, rfl⟩ := hX25 <;> (refine nO ?_; clear nO)
    exact hL.next k (by lia) fun K hh => hh.2 0 te tf tg _ (Nat.zero_le _) rfl (fun p h => by rw [List.append_nil]; exact sw p h)
  have C1 := C1 i tf tg
  refine useO G' C1 (srcL w.params src ds lr (a + 1) t0 t1 te) rfl hs (fun _ h => nomatch h) ?_
  rintro v new ⟨⟨tv, rfl⟩, rfl⟩
  (repeat (intro (_ : Tok)))
  rcases Nat.lt_or_ge i k with hlt | hge
  · refine ⟨fun _ => ?_, fun (h : ¬ (rec2.drop i).take 1 = [32]) => absurd (e1 i hlt) h⟩
    refine useO G' (C2 i tf tg (by lia)) (srcL w.params src ds lr (a + 1) t0 t1 te) rfl (fun _ h => h) (fun _ h => nomatch h) ?_
    rintro v new ⟨rfl, td', rfl⟩
    exact hL.next (k - (i + 1)) (by lia) fun K hh => hh.2 (i + 1) te tf td' _ hlt rfl (fun _ h => h)
  · obtain rfl : i = k := by lia
    refine ⟨fun (h : (rec2.drop i).take 1 = [32]) => absurd (h.symm.trans e2) (fun q => hx (List.cons.inj q).1.symm), fun _ => ?_⟩
    refine useO G' C1 (srcL w.params src ds lr (a + 1) t0 t1 te) rfl (fun _ h => h) (fun _ h => nomatch h) ?_
    rintro v new ⟨⟨tv, rfl⟩, rfl⟩
    (repeat (intro (_ : Tok)))
    refine ⟨fun (h : (rec2.drop i).take 1 = []) => absurd (h.symm.trans e2) (fun q => nomatch q), fun _ => ?_⟩
    exact hR.none [2, 3, 0, 1] ⟨rfl, te, tf, tg, rfl⟩

end
section
noncomputable def sepc (y : Nat) : Prop := y = 32 ∨ y = 44 ∨ y = 47
theorem sep_no {y : Nat} (h : ¬ sepc y) : ([Value.str (PySem.Str.ofString "") 522, Value.str (PySem.Str.ofString " ") 523, Value.str (PySem.Str.ofString ",") 524, Value.str (PySem.Str.ofString "/") 525].any (eqS (S [y]))) = false := by
  unfold sepc at h
  show ((PySem.Str.ofString "" == S [y]) || ((PySem.Str.ofString " " == S [y]) || ((PySem.Str.ofString "," == S [y]) || ((PySem.Str.ofString "/" == S [y]) || false)))) = false
  rw [lit_nil, lit_blank, lit_comma, lit_slash, one_beq, one_beq, one_beq]
  have : (S [] == S [y]) = false := rfl
  rw [this]
  simp; lia
theorem sep_yes {l : List Nat} (h : l = [] ∨ ∃ y, l = [y] ∧ sepc y) : ([Value.str (PySem.Str.ofString "") 522, Value.str (PySem.Str.ofString " ") 523, Value.str (PySem.Str.ofString ",") 524, Value.str (PySem.Str.ofString "/") 525].any (eqS (S l))) = true := by
  show ((PySem.Str.ofString "" == S l) || ((PySem.Str.ofString " " == S l) || ((PySem.Str.ofString "," == S l) || ((PySem.Str.ofString "/" == S l) || false)))) = true
  rcases h with rfl | ⟨y, rfl, h⟩
  · rw [lit_nil]; rfl
  · unfold sepc at h
    rw [lit_blank, lit_comma, lit_slash, one_beq, one_beq, one_beq]
    simp; lia
theorem take_run_con (w : World) (rd dr src : Addr) (rec : List Nat) (c : Nat) (text rest : List Nat) (left : Int) (held : Value) (beh done : Bool) (t : Nat → Tok) (ta tb tc : Tok) (hr : rec.length ≤ 1000) (hne : rd ≠ dr) (hd : rec.drop c = text ++ rest) (hs : ∀ y ∈ text, ¬ sepc y) (hx : rest.take 1 = [] ∨ ∃ y, rest.take 1 = [y] ∧ sepc y) :
    Con w 282 4 [.ref rd, .ref 225] [] (lrdL w.params rd dr src rec c left held beh done t ta tb tc) (fun v new => IsS v text ∧ ∃ td, new = lrdL w.params rd dr src rec (c + text.length : Nat) left held beh done t ta td tc) := by
  have hck : c + text.length ≤ rec.length ∨ text = [] := by
    have := congrArg List.length hd
    simp at this
    cases text with
    | nil => exact .inr rfl
    | cons a b => left; simp at this ⊢; lia
  have htl : text.length ≤ 1000 := by
    rcases hck with h | h
    · lia
    · rw [h]; decide
  have hcl : ∀ i, i < text.length → c + i < rec.length := fun i hi => by
    rcases hck with h | h
    · lia
    · rw [h] at hi; cases hi
  clear hck
  have C1 := fun i tb => sign_here_con w rd dr src rec (c + i) left held beh done t ta tb tc hr hne
  have C2 := fun i tb hc => step_on_in w rd dr src rec (c + i) left held beh done t ta tb tc hr hne hc
  have e1 : ∀ (i : Nat) y, text[i]? = some y → (rec.drop (c + i)).take 1 = [y] := fun i y hi => by
    rw [← List.drop_drop, hd, List.drop_append_of_le_length (Nat.le_of_lt (List.getElem?_eq_some_iff.mp hi).1), List.take_append_of_le_length (by have := (List.getElem?_eq_some_iff.mp hi).1; simp; lia)]
    exact take1_get hi
  have e2 : (rec.drop (c + text.length)).take 1 = rest.take 1 := by
    rw [← List.drop_drop, hd, List.drop_append_of_le_length (Nat.le_refl _), List.drop_length]; rfl
  have hse := sep_yes hx
  clear hd hx
  refine' con_vc (n := 20) ⟨["reader", "ends", "run"], [("sign_here", .ref 254), ("step_on", .ref 261)], [254, 261]⟩ (binds := [("reader", .ref rd), ("ends", .ref 225)]) ?hmain
  intro c0 R G hR
  (repeat (intro (_ : Tok)))
  refine sm_while (n := 20) G (fun m K => ∀ (i : Nat) (tz td : Tok), i ≤ text.length → m = text.length - i → K ⟨[some (.ref rd), some (.ref 225), some (.str (S (text.take i)) tz)], lrdL w.params rd dr src rec (c + i : Nat) left held beh done t ta td tc, []⟩) (n0 := text.length) (fun K hh => hh 0 _ tb (Nat.zero_le _) rfl) ?_
  intro c' R' m G' hL i tz td hi hm
  have C1 := C1 i td
  rcases Nat.lt_or_ge i text.length with hlt | hge
  · obtain ⟨y, hy⟩ : ∃ y, text[i]? = some y := ⟨_, List.getElem?_eq_getElem hlt⟩
    rw [e1 i y hy] at C1
    refine useA G' C1 (fun _ h => nomatch h) ?_
    rintro v new ⟨⟨tv, rfl⟩, rfl⟩
    refine notin_K G' (by k_is) rfl (sep_no (hs y (List.mem_of_getElem? hy))) ?_
    refine useA G' C1 (fun _ h => nomatch h) ?_
    rintro v new ⟨⟨tv2, rfl⟩, rfl⟩
    refine ⟨Nat.add_le_add (Nat.le_trans (by rw [List.length_take]; exact Nat.min_le_right _ _) htl) (by decide : 1 ≤ 1047576), ?_⟩
    (repeat (intro (_ : Tok)))
    refine useA G' (C2 i td (hcl i hlt)) (fun _ h => nomatch h) ?_
    rintro v new ⟨rfl, te, rfl⟩
    refine hL.next (text.length - (i + 1)) (by lia) fun K hh => ?_
    have e : text.take (i + 1) = text.take i ++ [y] := take_succ_get hy
    rw [← e]
    exact hh (i + 1) _ te hlt rfl
  · obtain rfl : i = text.length := by lia
    rw [e2] at C1
    refine useA G' C1 (fun _ h => nomatch h) ?_
    rintro v new ⟨⟨tv, rfl⟩, rfl⟩
    refine notin_K G' (by k_is) rfl hse ?_
    exact hR.at [0, 1] ⟨by rw [List.take_length]; exact isS rfl, td, rfl⟩

end
section
theorem take_repeat_con (w : World) (rd dr src : Addr) (rec : List Nat) (c : Nat) (left : Int) (held : Value) (beh done : Bool) (t : Nat → Tok) (ta tb tc : Tok) (hr : rec.length ≤ 1000) (hne : rd ≠ dr) (hc : c ≤ rec.length) (hs : ∀ y ∈ rec, y ≠ 42) :
    Con w 296 4 [.ref rd] [] (lrdL w.params rd dr src rec c left held beh done t ta tb tc) (fun v new => IsI v 1 ∧ new = lrdL w.params rd dr src rec c left held beh done t ta tb tc) := by
  have big : rec.length ≤ 1048576 := Nat.le_trans hr (by decide)
  refine' con_vc (n := 20) ⟨["reader", "record", "at", "times"], [("len", .builtin "len"), ("FIGURES", .str "0123456789" 327)], []⟩ (binds := [("reader", .ref rd)]) ?hmain
  intro c0 R G hR
  refine get_at G (.inl (.head _)) (.inl (.tail _ (.head _))) (by kernel_rfl) rfl rfl ?_
  refine get_at G (.inl (.head _)) (.inl (.tail _ (.head _))) (by kernel_rfl) rfl rfl ?_
  refine meet_st (fun K => ∀ (m : Nat) (tm : Tok), K ⟨[some (.ref rd), some (.str (S rec) ta), some (.int (m : Nat) tm), none], lrdL w.params rd dr src rec c left held beh done t ta tb tc, []⟩) (fun R hM => ?_) ?_
  · refine sm_while (n := 20) G (fun n K => ∀ (m : Nat) (tm : Tok), m ≤ rec.length → n = rec.length - m → K ⟨[some (.ref rd), some (.str (S rec) ta), some (.int (m : Nat) tm), none], lrdL w.params rd dr src rec c left held beh done t ta tb tc, []⟩) (n0 := rec.length - c) (fun K hh => hh c tb hc rfl) ?_
    intro c' R' n G' hL m tm hm hn
    refine sm_len big ?_
    (repeat (intro (_ : Tok)))
    refine ⟨fun (h : (m : Int) < rec.length) => ?_, fun _ => hM.next fun K hh => hh m tm⟩
    refine ⟨⟨big, by lia⟩, fun y ty hy => ?_⟩
    refine sm_inS ?_ (hM.next fun K hh => hh m tm)
    (repeat (intro (_ : Tok)))
    exact hL.next (rec.length - (m + 1)) (by lia) fun K hh => hh (m + 1) _ (by lia) rfl
  intro m tm
  have hs1 : (rec.take (m + 1)).drop m ≠ [42] := fun e => hs 42 (List.mem_of_mem_take (List.mem_of_mem_drop (e ▸ List.mem_singleton.mpr rfl))) rfl
  refine vc_if (n := 20) G ?_
  refine get_at G (.inl (.head _)) (.inl (.tail _ (.head _))) (by kernel_rfl) rfl rfl ?_
  refine ⟨fun _ => ?_, fun _ => ?_⟩
  · (repeat (intro (_ : Tok)))
    exact hR.at [0, 1] ⟨isI rfl, rfl⟩
  · ((repeat (intro (_ : Tok))); refine ⟨by assumption, ?_⟩; (repeat (intro (_ : Tok))))
    refine ⟨fun _ => ?_, fun (h : ¬ (rec.take (m + 1)).drop m ≠ [42]) => (h hs1).elim⟩
    (repeat (intro (_ : Tok)))
    exact hR.at [0, 1] ⟨isI rfl, rfl⟩
theorem take_constant_con (w : World) (rd dr src : Addr) (rec : List Nat) (c y : Nat) (text rest : List Nat) (left : Int) (held : Value) (beh done : Bool) (t : Nat → Tok) (ta tb tc : Tok) (hr : rec.length ≤ 1000) (hne : rd ≠ dr) (hd : rec.drop c = (y :: text) ++ rest) (hs : ∀ z ∈ y :: text, ¬ sepc z) (hx : rest.take 1 = [] ∨ ∃ y, rest.take 1 = [y] ∧ sepc y)
    (h1 : y ≠ 39) (h2 : y ≠ 40) :
    Con w 317 6 [.ref rd] [] (lrdL w.params rd dr src rec c left held beh done t ta tb tc) (fun v new => ∃ a tw tx td, v = .ref a ∧ new = (a, tupO [.str "run" tw, .str (S (y :: text)) tx]) :: lrdL w.params rd dr src rec (c + (y :: text).length : Nat) left held beh done t ta td tc) := by
  have C1 := sign_here_con w rd dr src rec c left held beh done t ta tb tc hr hne
  have C2 := take_run_con w rd dr src rec c (y :: text) rest left held beh done t ta tb tc hr hne hd hs hx
  have C3 := fun td => sign_here_con w rd dr src rec (c + (y :: text).length) left held beh done t ta td tc hr hne
  have e1 : (rec.drop c).take 1 = [y] := by rw [hd]; rfl
  have e2 : (rec.drop (c + (y :: text).length)).take 1 = rest.take 1 := by
    rw [← List.drop_drop, hd, List.drop_append_of_le_length (Nat.le_refl _), List.drop_length]; rfl
  have hse := sep_yes hx
  rw [e1] at C1
  rw [e2] at C3
  clear hd hx hs e1 e2
  generalize y :: text = tx at *
  refine' con_vc (n := 20) ⟨["reader", "sign", "found"], [("sign_here", .ref 254), ("take_run", .ref 282), ("SEPARATORS", .ref 225)], [254, 282]⟩ (binds := [("reader", .ref rd)]) ?hmain
  intro c0 R G hR
  refine useA G C1 (fun _ h => nomatch h) ?_
  rintro v new ⟨⟨tv, rfl⟩, rfl⟩
  refine vc_if (n := 20) G ?_
  (repeat (intro (_ : Tok)))
  refine ⟨fun (h : [y] = [39]) => absurd (List.cons.inj h).1 h1, fun _ => ?_⟩
  refine vc_if (n := 20) G ?_
  (repeat (intro (_ : Tok)))
  refine ⟨fun (h : [y] = [40]) => absurd (List.cons.inj h).1 h2, fun _ => ?_⟩
  intro tw
  refine useA G C2 (fun _ h => nomatch h) ?_
  rintro v new ⟨⟨tx2, rfl⟩, td, rfl⟩
  intro _ q _
  refine vc_if (n := 20) G ?_
  refine useO G (C3 td) [(q, tupO [.str "run" tw, .str (S tx) tx2])] rfl ?_ (fun _ h => nomatch h) ?_
  · exact fun p h => (List.mem_append.mp h).elim (fun h => .tail _ h) fun h => (List.mem_singleton.mp h) ▸ .head _
  rintro v new ⟨⟨tv2, rfl⟩, rfl⟩
  refine notin_K G (by k_is) rfl hse ?_
  exact hR.at [2, 0, 1] ⟨q, _, tx2, td, rfl, rfl⟩

end
section
structure Gap (recs : List Value) (a a2 : Nat) (rec rec2 : List Nat) (c c2 x : Nat) (r : List Nat) : Prop where
  intro ::
  way : (a2 = a ∧ rec2 = rec ∧ ∃ k, c2 = c + k ∧ rec.drop c = List.replicate k 32 ++ x :: r) ∨ (a2 = a + 1 ∧ rec.length ≤ c ∧ ∃ tr, recs[a]? = some (.str (S rec2) tr) ∧ rec2 = List.replicate c2 32 ++ x :: r)
  ne : x ≠ 32
theorem Gap.drop {recs : List Value} {a a2 : Nat} {rec rec2 : List Nat} {c c2 x : Nat} {r : List Nat} (G : Gap recs a a2 rec rec2 c c2 x r) : rec2.drop c2 = x :: r := by
  obtain ⟨⟨rfl, rfl, k, rfl, h⟩ | ⟨rfl, hl, tr, hg, h⟩, hx⟩ := G
  · rw [← List.drop_drop, h, List.drop_append_of_le_length (by simp), List.drop_replicate, Nat.sub_self]; rfl
  · rw [h, List.drop_append_of_le_length (by simp), List.drop_replicate, Nat.sub_self]; rfl
theorem Gap.here {recs : List Value} {a a2 : Nat} {rec rec2 : List Nat} {c c2 x : Nat} {r : List Nat} (G : Gap recs a a2 rec rec2 c c2 x r) : Gap recs a2 a2 rec2 rec2 c2 c2 x r :=
  ⟨.inl ⟨rfl, rfl, 0, rfl, G.drop⟩, G.ne⟩
theorem skip_way_con (w : World) (rd dr src ds lr : Addr) (recs : List Value) (nn a a2 : Nat) (t0 t1 td : Tok) (rec rec2 : List Nat) (c c2 x : Nat) (r : List Nat) (left : Int) (held : Value) (beh done : Bool) (t : Nat → Tok) (ta tb tc : Tok) (hr : rec.length ≤ 1000) (hr2 : rec2.length ≤ 1000)
    (G : Gap recs a a2 rec rec2 c c2 x r) (hn : recs.length ≤ 1000) (hne : rd ≠ dr ∧ src ≠ ds ∧ rd ≠ src ∧ rd ≠ ds ∧ dr ≠ src ∧ dr ≠ ds) :
    Con w 275 5 [.ref rd] [(lr, listOf recs.toArray nn)] (srcL w.params src ds lr a t0 t1 td ++ lrdL w.params rd dr src rec c left held beh done t ta tb tc)
      (fun v new => v = .none ∧ ∃ te tf tg, new = srcL w.params src ds lr a2 t0 t1 te ++ lrdL w.params rd dr src rec2 c2 left held beh done t tf tg tc) := by
  refine nnOf fun nO => ?_
  obtain ⟨⟨rfl, rfl, k, rfl, h⟩ | ⟨rfl, hl, tr, hg, h⟩, hx⟩ := G <;> (refine nO ?_; clear nO)
  · have C := skip_in_con w rd dr src rec2 c k x r left held beh done t ta tb tc hr hne.1 h hx
    refine con_impS (con_frame (fz' := _) (pre' := _) (srcL w.params src ds lr a2 t0 t1 td) (con_deeper C) (fun q hq => List.mem_append_right _ hq) (fun q hq => (List.mem_append.mp hq).elim .inr .inl) (fun q hq => List.mem_append_left _ hq) ?_ (fun q hq => nomatch hq)) ?_ fun _ _ r => r
    · refine nnOf fun nO => ?_
      obtain ⟨h1, h2, h3, h4, h5, h6⟩ := hne <;> (refine nO ?_; clear nO)
      refine List.forall_mem_cons.mpr ⟨?_, List.forall_mem_cons.mpr ⟨?_, List.forall_mem_nil _⟩⟩
      all_goals
        simp only [ads, List.cons_append, List.nil_append, List.map_cons, List.map_nil, List.mem_cons, List.not_mem_nil, or_false, not_or]
        exact ⟨Ne.symm (by assumption), Ne.symm (by assumption)⟩
    · intro v new hX27
      refine nnOf fun nO => ?_
      obtain ⟨n, rfl, rfl, te, rfl⟩ := hX27 <;> (refine nO ?_; clear nO)
      exact ⟨_, ⟨rfl, td, ta, te, rfl⟩, fun q hq => (List.mem_append.mp hq).elim (fun h => List.mem_append_right _ h) fun h => List.mem_append_left _ h⟩
  · exact skip_next_con w rd dr src ds lr recs nn a t0 t1 td tr rec rec2 c c2 x r left held beh done t ta tb tc hr hr2 hl hg hn hne h hx

end
section
theorem next_constant_con (w : World) (rd dr src ds lr : Addr) (recs : List Value) (nn a a2 : Nat) (t0 t1 td : Tok) (rec rec2 : List Nat) (c c2 y : Nat) (text rest : List Nat) (held : Value) (beh : Bool) (t : Nat → Tok) (ta tb tc : Tok) (hr : rec.length ≤ 1000) (hr2 : rec2.length ≤ 1000)
    (G : Gap recs a a2 rec rec2 c c2 y (text ++ rest)) (hn : recs.length ≤ 1000) (hne : rd ≠ dr ∧ src ≠ ds ∧ rd ≠ src ∧ rd ≠ ds ∧ dr ≠ src ∧ dr ≠ ds)
    (hs : ∀ z ∈ y :: text, ¬ sepc z) (hx : rest.take 1 = [] ∨ ∃ y, rest.take 1 = [y] ∧ sepc y) (h1 : y ≠ 39) (h2 : y ≠ 40) (hst : ∀ z ∈ rec2, z ≠ 42) :
    Con w 324 8 [.ref rd] [(lr, listOf recs.toArray nn)] (srcL w.params src ds lr a t0 t1 td ++ lrdL w.params rd dr src rec c 0 held beh false t ta tb tc)
      (fun v new => ∃ q tw tx te tf tg th, v = .ref q ∧ new = (q, tupO [.str "run" tw, .str (S (y :: text)) tx]) :: (srcL w.params src ds lr a2 t0 t1 te ++ lrdL w.params rd dr src rec2 (c2 + (y :: text).length : Nat) 0 (.ref q) true false t tf tg th)) := by
  have hd2 := G.drop
  have hd3 : rec2.drop c2 = (y :: text) ++ rest := hd2
  have hne0 := hne
  refine nnOf fun nO => ?_
  obtain ⟨n1, n2, n3, n4, n5, n6⟩ := hne <;> (refine nO ?_; clear nO)
  have m1 := Ne.symm n3
  have m2 := Ne.symm n4
  have m3 := Ne.symm n5
  have m4 := Ne.symm n6
  have hcl : c2 ≤ rec2.length := by
    have := congrArg List.length hd2
    simp at this; lia
  have C0 := fun a' rec' c' td' ta' tb' bh (hr' : rec'.length ≤ 1000) G' => skip_way_con w rd dr src ds lr recs nn a' a2 t0 t1 td' rec' rec2 c' c2 y (text ++ rest) 0 held bh false t ta' tb' tc hr' hr2 G' hn hne0
  have CS := fun hd' bh lf ta' tb' tc' => sign_here_con w rd dr src rec2 c2 lf hd' bh false t ta' tb' tc' hr2 n1
  rw [show (rec2.drop c2).take 1 = [y] by rw [hd2]; rfl] at CS
  have CR := fun hd' bh ta' tb' => take_repeat_con w rd dr src rec2 c2 0 hd' bh false t ta' tb' tc hr2 n1 hcl hst
  have CT := fun hd' bh ta' tb' tc' => take_constant_con w rd dr src rec2 c2 y text rest 0 hd' bh false t ta' tb' tc' hr2 n1 hd3 hs hx h1 h2
  have hy := hs y (.head _)
  have hns := sep_no hy
  clear hs hx hst hd2 hd3
  generalize hT : (y :: text) = T at CT ⊢
  clear hT
  refine' con_vc (n := 20) ⟨["reader"], [("skip_gaps", .ref 275), ("sign_here", .ref 254), ("step_on", .ref 261), ("take_repeat", .ref 296), ("take_constant", .ref 317), ("SEPARATORS", .ref 225)], [275, 254, 261, 296, 317]⟩ (binds := [("reader", .ref rd)]) ?hmain
  intro c0 R G0 hR
  have sw : ∀ {x y : Led}, ∀ p ∈ y ++ x, p ∈ x ++ y := fun p h => (List.mem_append.mp h).elim (fun h => List.mem_append_right _ h) fun h => List.mem_append_left _ h
  refine vc_if (n := 20) G0 ?_
  refine get_at G0 (.inl (.tail _ (.tail _ (.head _)))) (.inl (.tail _ (.tail _ (.tail _ (.head _))))) (by kernel_rfl) rfl rfl ?_
  (repeat (intro (_ : Tok)))
  refine ⟨fun h => absurd h (by decide), fun _ => ?_⟩
  refine vc_if (n := 20) G0 ?_
  refine get_at G0 (.inl (.tail _ (.tail _ (.head _)))) (.inl (.tail _ (.tail _ (.tail _ (.head _))))) (by kernel_rfl) rfl rfl ?_
  refine meet_st (fun K => ∀ (a' c' : Nat) (rec' : List Nat) (te tf tg : Tok) (led : Led), Gap recs a' a2 rec' rec2 c' c2 y (text ++ rest) → rec'.length ≤ 1000 → (∀ p ∈ srcL w.params src ds lr (a' : Nat) t0 t1 te ++ lrdL w.params rd dr src rec' (c' : Nat) 0 held false false t tf tg tc, p ∈ led) → K ⟨[some (.ref rd)], led, [(lr, listOf recs.toArray nn)]⟩) (fun R hM => ?_) ?_
  · refine vc_if (n := 20) G0 ?_
    refine get_at G0 (.inl (.tail _ (.tail _ (.head _)))) (.inl (.tail _ (.tail _ (.tail _ (.head _))))) (by kernel_rfl) rfl rfl ?_
    cases beh with
    | false => exact hM.next fun K hh => hh a c rec td ta tb _ G hr fun _ h => h
    | true =>
      refine useA G0 (C0 a rec c td ta tb true hr G) (fun _ h => h) ?_
      intro v new hX28
      refine nnOf fun nO => ?_
      obtain ⟨rfl, te, tf, tg, rfl⟩ := hX28 <;> (refine nO ?_; clear nO)
      refine vc_if (n := 20) G0 ?_
      refine useO G0 (CS held true 0 tf tg tc) (srcL w.params src ds lr a2 t0 t1 te) rfl sw (fun _ h => nomatch h) ?_
      rintro v new ⟨⟨tv, rfl⟩, rfl⟩
      (repeat (intro (_ : Tok)))
      refine ⟨fun (h : [y] = [44]) => absurd (.inr (.inl (List.cons.inj h).1)) hy, fun _ => ?_⟩
      refine set_at G0 [_] rfl (.inl (.head _)) (by kernel_rfl) rfl rfl (fun _ => rfl) fun tk => ?_
      exact hM.next fun K hh => hh a2 c2 rec2 te tf tg _ G.here hr2 sw
  intro a' c' rec' te tf tg led G' hr' hled
  refine useA G0 (C0 a' rec' c' te tf tg false hr' G') (fun _ h => h) ?_ hled
  intro v new hX29
  refine nnOf fun nO => ?_
  obtain ⟨rfl, te2, tf2, tg2, rfl⟩ := hX29 <;> (refine nO ?_; clear nO)
  refine vc_if (n := 20) G0 ?_
  refine useO G0 (CS held false 0 tf2 tg2 tc) (srcL w.params src ds lr a2 t0 t1 te2) rfl sw (fun _ h => nomatch h) ?_
  rintro v new ⟨⟨tv, rfl⟩, rfl⟩
  (repeat (intro (_ : Tok)))
  refine ⟨fun (h : [y] = [47]) => absurd (.inr (.inr (List.cons.inj h).1)) hy, fun _ => ?_⟩
  refine vc_if (n := 20) G0 ?_
  refine useO G0 (CS held false 0 tf2 tg2 tc) (srcL w.params src ds lr a2 t0 t1 te2) rfl (fun _ h => h) (fun _ h => nomatch h) ?_
  rintro v new ⟨⟨tv2, rfl⟩, rfl⟩
  (repeat (intro (_ : Tok)))
  refine ⟨fun (h : [y] = [44]) => absurd (.inr (.inl (List.cons.inj h).1)) hy, fun _ => ?_⟩
  refine useO G0 (CR held false tf2 tg2) (srcL w.params src ds lr a2 t0 t1 te2) rfl (fun _ h => h) (fun _ h => nomatch h) ?_
  rintro v new ⟨⟨tv3, rfl⟩, rfl⟩
  (repeat (intro (_ : Tok)))
  refine set_at G0 [_] rfl (.inl (.head _)) (by kernel_rfl) rfl rfl (fun _ => rfl) fun tk => ?_
  refine set_at G0 [_] rfl (.inl (.head _)) (by kernel_rfl) rfl rfl (fun _ => rfl) fun tk => ?_
  refine vc_if (n := 20) G0 ?_
  refine useO G0 (CS .none false 0 tf2 tg2 _) (srcL w.params src ds lr a2 t0 t1 te2) rfl (fun _ h => h) (fun _ h => nomatch h) ?_
  rintro v new ⟨⟨tv4, rfl⟩, rfl⟩
  refine notin_K G0 (by k_is) rfl hns ?_
  refine useO G0 (CT .none false tf2 tg2 _) (srcL w.params src ds lr a2 t0 t1 te2) rfl (fun _ h => h) (fun _ h => nomatch h) ?_
  intro v new hX30
  refine nnOf fun nO => ?_
  obtain ⟨q, tw, tx, td3, rfl, rfl⟩ := hX30 <;> (refine nO ?_; clear nO)
  refine set_at G0 [_, _] rfl (.inl (.tail _ (.head _))) (by kernel_rfl) rfl rfl (fun _ => rfl) fun tk => ?_
  refine set_at G0 [_, _] rfl (.inl (.tail _ (.head _))) (by kernel_rfl) rfl rfl (fun _ => rfl) fun tk => ?_
  refine get_at G0 (.inl (.tail _ (.head _))) (.inl (.tail _ (.tail _ (.head _)))) (by kernel_rfl) rfl rfl ?_
  exact hR.at [0, 3, 4, 1, 2] ⟨q, tw, tx, te2, tf2, td3, _, rfl, rfl⟩

end
section
theorem part_real_con (w : World) (v1 v2 : Value) (lim dl : Addr) (t u : Nat → Tok) (kind : Int) (y : Nat) (l : List Nat) (hv1 : IsS v1 (y :: l)) (hv2 : IsI v2 kind) (hk : kind = 1 ∨ kind = 2) (hl : (y :: l).length ≤ 90) :
    ConH none w 331 10 [v1, v2, .ref lim] (limL w.params lim dl t u) [] (fun v new => ∃ x, readKind kind (y :: l) = .ok x ∧ ValIs v new x)
      (fun C code => C = 82 ∧ ∃ c, code = some c ∧ readKind kind (y :: l) = .error c) := by
  obtain ⟨tb, rfl⟩ := hv1
  obtain ⟨tc, rfl⟩ := hv2
  have hne : y :: l ≠ [] := fun q => nomatch q
  generalize y :: l = l at *
  generalize hz : readKind kind l = z
  unfold readKind at hz
  rw [if_neg (by lia), if_neg (by lia)] at hz
  have C1 := fun v1 v5 v6 v2 v3 h1 h2 h3 h4 h5 => read_real_con w v1 v5 v6 l (digK kind) v2 v3 h1 h2 h3 h4 h5 (by unfold digK; split <;> lia) hl
  have C2 := fun v1 h1 => digits_of_con w v1 kind lim dl t u h1
  refine' con_vc (n := 20) ⟨["run", "kind", "limits"], [("read_real", .ref 203), ("digits_of", .ref 139)], [203, 139]⟩ (binds := [("run", .str (S l) tb), ("kind", .int kind tc), ("limits", .ref lim)]) ?hmain
  intro c0 R G hR
  refine vc_if (n := 20) G ?_
  (repeat (intro (_ : Tok)))
  refine ⟨fun (h : l = []) => absurd h hne, fun _ => ?_⟩
  (repeat (intro (_ : Tok)))
  refine use0 G (C2 _ ⟨_, rfl⟩) ?_ (fun p hp => .inl hp) fun _ _ r => r.elim
  rintro v new ⟨⟨t4, rfl⟩, rfl⟩
  refine get_at G (.inr (.head _)) (.inr (.tail _ (.head _))) (by kernel_rfl) rfl rfl ?_
  refine useR G hR (C1 _ _ _ _ _ ⟨_, rfl⟩ ⟨_, rfl⟩ ⟨_, rfl⟩ ⟨_, rfl⟩ ⟨_, rfl⟩) ?_ (hrai := ?_)
  · rintro v new ⟨p, hp, hv⟩
    exact ⟨.pair p.1 p.2, by rw [← hz, hp], hv⟩
  · rintro C code ⟨rfl, c, rfl, hr⟩
    exact ⟨rfl, c, rfl, by rw [← hz, hr]⟩
theorem value_of_con (w : World) (v2 v3 : Value) (q lim dl : Addr) (t u : Nat → Tok) (kind : Int) (y : Nat) (l : List Nat) (tw tx : Tok) (hv2 : IsI v2 kind) (hv3 : IsI v3 0) (hk : kind = 0 ∨ kind = 4 ∨ kind = 1 ∨ kind = 2) (hl : (y :: l).length ≤ 90) :
    ConH none w 345 12 [.ref q, v2, v3, .ref lim] ((q, tupO [.str "run" tw, .str (S (y :: l)) tx]) :: limL w.params lim dl t u) [] (fun v new => ∃ x, readKind kind (y :: l) = .ok x ∧ ValIs v new x)
      (fun C code => C = 82 ∧ ∃ c, code = some c ∧ readKind kind (y :: l) = .error c) := by
  obtain ⟨tb, rfl⟩ := hv2
  obtain ⟨tc, rfl⟩ := hv3
  have C3 := fun v1 v2 h1 h2 hk => part_real_con w v1 v2 lim dl t u kind y l h1 h2 hk hl
  generalize y :: l = l at *
  generalize hz : readKind kind l = z at *
  unfold readKind at hz
  refine' con_vc (n := 20) ⟨["constant", "kind", "length", "limits", "form"], [("CHARACTER", .int 5 320), ("COMPLEX", .int 3 316), ("INTEGER", .int 0 310), ("LOGICAL", .int 4 318), ("REAL", .int 1 312), ("DOUBLE", .int 2 314), ("read_int", .ref 175), ("read_logical", .ref 210), ("part_real", .ref 331)], [175, 210, 331]⟩ (binds := [("constant", .ref q), ("kind", .int kind tb), ("length", .int 0 tc), ("limits", .ref lim)]) ?hmain
  intro c0 R G hR
  (repeat (intro (_ : Tok)))
  refine sm_itemT (i := 0) (.inr (.head _)) rfl rfl (by decide) ?_
  refine vc_if (n := 20) G ?_
  refine ⟨fun (h : kind = 5) => by lia, fun _ => ?_⟩
  refine vc_if (n := 20) G ?_
  refine ⟨fun (h : kind = 3) => by lia, fun _ => ?_⟩
  refine vc_if (n := 20) G ?_
  refine ⟨fun (h : kind = 0) => ?_, fun (h : ¬ kind = 0) => ?_⟩
  · rw [if_pos h] at hz
    (repeat (intro (_ : Tok)))
    refine ⟨fun _ => ?_, fun h => absurd rfl h⟩
    (repeat (intro (_ : Tok)))
    refine sm_itemT (i := 1) (.inr (.head _)) rfl rfl (by decide) ?_
    refine get_at G (.inr (.tail _ (.head _))) (.inr (.tail _ (.tail _ (.head _)))) (by kernel_rfl) rfl rfl ?_
    refine useR G hR (read_int_con w _ _ l ⟨_, rfl⟩ ⟨_, rfl⟩ (by lia)) ?_ (hrai := ?_)
    · rintro v new ⟨m, hm, hv, rfl⟩
      exact ⟨.int m, by rw [← hz, hm], hv, rfl⟩
    · rintro C code ⟨rfl, c, rfl, hr⟩
      exact ⟨rfl, c, rfl, by rw [← hz, hr]⟩
  rw [if_neg h] at hz
  refine vc_if (n := 20) G ?_
  refine ⟨fun (h4 : kind = 4) => ?_, fun (h4 : ¬ kind = 4) => ?_⟩
  · rw [if_pos h4] at hz
    (repeat (intro (_ : Tok)))
    refine ⟨fun _ => ?_, fun h => absurd rfl h⟩
    (repeat (intro (_ : Tok)))
    refine sm_itemT (i := 1) (.inr (.head _)) rfl rfl (by decide) ?_
    refine useR G hR (read_logical_con w _ l ⟨_, rfl⟩ (by lia)) ?_ (hrai := ?_)
    · rintro v new ⟨m, hm, hv, rfl⟩
      exact ⟨.bool m, by rw [← hz, hm], hv, rfl⟩
    · rintro C code ⟨rfl, rfl, hr⟩
      exact ⟨rfl, 1, rfl, by rw [← hz, hr]⟩
  have hk : kind = 1 ∨ kind = 2 := by lia
  clear hz h h4
  refine vc_if (n := 20) G ?_
  refine ⟨fun (h : kind = 1) => ?_, fun (h : ¬ kind = 1) => ⟨fun (h2 : kind = 2) => ?_, fun (h2 : ¬ kind = 2) => (hk.elim h h2).elim⟩⟩
  all_goals
    (repeat (intro (_ : Tok)))
    refine ⟨fun _ => ?_, fun h => absurd rfl h⟩
    (repeat (intro (_ : Tok)))
    refine sm_itemT (i := 1) (.inr (.head _)) rfl rfl (by decide) ?_
    exact useR G hR (C3 _ _ ⟨_, rfl⟩ ⟨_, rfl⟩ hk) (fun v new p => p) (hz := fun p hp => .inl (.tail _ hp)) (hrai := fun _ _ r => r)

end
section
theorem read_item_con (w : World) (rd dr src ds lr lim dl : Addr) (recs : List Value) (nn a a2 : Nat) (t0 t1 td : Tok) (rec rec2 : List Nat) (c c2 y : Nat) (text rest : List Nat) (held : Value) (beh : Bool) (t tl ul : Nat → Tok) (ta tb tc : Tok) (v2 v3 : Value) (kind : Int) (hv2 : IsI v2 kind) (hv3 : IsI v3 0) (hk : kind = 0 ∨ kind = 4 ∨ kind = 1 ∨ kind = 2) (hl : (y :: text).length ≤ 90)
    (hr : rec.length ≤ 1000) (hr2 : rec2.length ≤ 1000) (G : Gap recs a a2 rec rec2 c c2 y (text ++ rest)) (hn : recs.length ≤ 1000) (hne : rd ≠ dr ∧ src ≠ ds ∧ rd ≠ src ∧ rd ≠ ds ∧ dr ≠ src ∧ dr ≠ ds)
    (hs : ∀ z ∈ y :: text, ¬ sepc z) (hx : rest.take 1 = [] ∨ ∃ y, rest.take 1 = [y] ∧ sepc y) (h1 : y ≠ 39) (h2 : y ≠ 40) (hst : ∀ z ∈ rec2, z ≠ 42) :
    ConH none w 352 13 [.ref rd, v2, v3, .ref lim] ((lr, listOf recs.toArray nn) :: limL w.params lim dl tl ul) (srcL w.params src ds lr a t0 t1 td ++ lrdL w.params rd dr src rec c 0 held beh false t ta tb tc)
      (fun v new => ∃ x new', readKind kind (y :: text) = .ok x ∧ ValIs v new' x ∧ ∃ held' te tf tg th, new = new' ++ (srcL w.params src ds lr a2 t0 t1 te ++ lrdL w.params rd dr src rec2 (c2 + (y :: text).length : Nat) 0 held' true false t tf tg th))
      (fun C code => C = 82 ∧ ∃ c, code = some c ∧ readKind kind (y :: text) = .error c) := by
  obtain ⟨tk2, rfl⟩ := hv2
  obtain ⟨tk3, rfl⟩ := hv3
  have C1 := next_constant_con w rd dr src ds lr recs nn a a2 t0 t1 td rec rec2 c c2 y text rest held beh t ta tb tc hr hr2 G hn hne hs hx h1 h2 hst
  have C2 := fun v2 v3 q tw tx hv2 hv3 => value_of_con w v2 v3 q lim dl tl ul kind y text tw tx hv2 hv3 hk hl
  clear hs hx hst G
  generalize y :: text = T at *
  refine' con_vc (n := 20) ⟨["reader", "kind", "length", "limits", "constant"], [("next_constant", .ref 324), ("value_of", .ref 345)], [324, 345]⟩ (binds := [("reader", .ref rd), ("kind", .int kind tk2), ("length", .int 0 tk3), ("limits", .ref lim)]) ?hmain
  intro c0 R G hR
  refine useA G C1 (List.forall_mem_singleton.mpr (.head _)) ?_
  intro v new hX34
  refine nnOf fun nO => ?_
  obtain ⟨q, tw, tx, te, tf, tg, th, rfl, rfl⟩ := hX34 <;> (refine nO ?_; clear nO)
  refine vc_if (n := 20) G ?_
  refine use0 G (C2 _ _ q tw tx ⟨_, rfl⟩ ⟨_, rfl⟩) ?_ (fun p hp => (List.mem_cons.mp hp).elim (fun e => .inr (e ▸ .head _)) fun h => .inl (.tail _ h)) fun _ _ r => r
  rintro v new ⟨x, hx, hv⟩
  exact hR.ret _ ⟨x, new, hx, hv, .ref q, te, tf, tg, th, rfl⟩ fun p hp => (List.mem_append.mp hp).elim (fun h => List.mem_append_left _ h) fun h => List.mem_append_right _ (.tail _ h)

end
section
theorem lreader_init (w : World) (x dx src ds lr : Addr) (mm : Nat) (recs : List Value) (rec : List Nat) (t0 t1 ta tr : Tok) (hr : recs[0]? = some (.str (S rec) tr)) (hm : recs.length ≤ 1000) (h : dx < x) (hsd : src ≠ ds) (hp : ∀ p ∈ srcL w.params src ds lr 0 t0 t1 ta, p.1 < dx) :
    Con w 240 3 [.ref x, .ref src] [(lr, listOf recs.toArray mm)] ((x, instObj 243 dx) :: (dx, dictOf [] 0) :: srcL w.params src ds lr 0 t0 t1 ta)
      (fun v new => v = .none ∧ ∃ tb t te tf tg, new = srcL w.params src ds lr 1 t0 t1 tb ++ lrdL w.params x dx src rec 0 0 .none false false t te tf tg) := by
  have C3 := next_record_con w src ds lr recs mm 0 t0 t1 ta tr rec hr hm hsd
  clear hp h hsd hr hm
  refine' con_vc (n := 20) ⟨["self", "source"], [], [519]⟩ (binds := [("self", .ref x), ("source", .ref src)]) ?hmain
  intro c0 R G hR
  have sw : ∀ {x y : Led}, ∀ p ∈ y ++ x, p ∈ x ++ y := fun p h => (List.mem_append.mp h).elim (fun h => List.mem_append_right _ h) fun h => List.mem_append_left _ h
  refine set_atK G [_] rfl (.inl (.head _)) (by kernel_rfl) rfl (by kernel_rfl) (fun _ => rfl) fun tk => ?_
  refine meth_at (n := 19) G (.inl (.tail _ (.tail _ (.head _)))) (.inl (.tail _ (.tail _ (.tail _ (.head _))))) (by kernel_rfl) rfl (.head _) ?_
  refine useO G C3 [_, _] rfl (sw (x := [_, _])) (List.forall_mem_singleton.mpr (.inl (.head _))) ?_
  rintro v new ⟨rfl, tb, rfl⟩
  refine set_atK G [_, _, _] rfl (.inl (.tail _ (.tail _ (.head _)))) (by kernel_rfl) rfl (by kernel_rfl) (fun _ => rfl) fun tk => ?_
  (repeat (intro (_ : Tok)))
  refine set_atK G [_, _, _] rfl (.inl (.tail _ (.tail _ (.head _)))) (by kernel_rfl) rfl (by kernel_rfl) (fun _ => rfl) fun tk => ?_
  (repeat (intro (_ : Tok)))
  refine set_atK G [_, _, _] rfl (.inl (.tail _ (.tail _ (.head _)))) (by kernel_rfl) rfl (by kernel_rfl) (fun _ => rfl) fun tk => ?_
  refine set_atK G [_, _, _] rfl (.inl (.tail _ (.tail _ (.head _)))) (by kernel_rfl) rfl (by kernel_rfl) (fun _ => rfl) fun tk => ?_
  refine set_atK G [_, _, _] rfl (.inl (.tail _ (.tail _ (.head _)))) (by kernel_rfl) rfl (by kernel_rfl) (fun _ => rfl) fun tk => ?_
  refine set_atK G [_, _, _] rfl (.inl (.tail _ (.tail _ (.head _)))) (by kernel_rfl) rfl (by kernel_rfl) (fun _ => rfl) fun tk => ?_
  exact hR.none [0, 1, 2, 3] ⟨rfl, tb, fun i => match i with | 0 => _ | 1 => _ | 2 => _ | 3 => _ | 4 => _ | 5 => _ | _ => _, _, _, _, rfl⟩
theorem lreader_con (w : World) (src ds lr : Addr) (mm : Nat) (recs : List Value) (rec : List Nat) (t0 t1 ta tr : Tok) (hr : recs[0]? = some (.str (S rec) tr)) (hm : recs.length ≤ 1000) (hsd : src ≠ ds) :
    Con w 243 4 [.ref src] [(lr, listOf recs.toArray mm)] (srcL w.params src ds lr 0 t0 t1 ta)
      (fun v new => ∃ rd dr tb t te tf tg, v = .ref rd ∧ new = srcL w.params src ds lr 1 t0 t1 tb ++ lrdL w.params rd dr src rec 0 0 .none false false t te tf tg ∧ dr < rd) :=
  cls_con (by k_is) (by k_is) (by k_is) (fun x dx h hp => by
    refine con_imp (lreader_init w x dx src ds lr mm recs rec t0 t1 ta tr hr hm h hsd hp) ?_ fun _ _ r => r
    rintro v new ⟨hv, tb, t, te, tf, tg, hn⟩
    exact ⟨hv, x, dx, tb, t, te, tf, tg, rfl, hn, h⟩)

end
section
open PySem PySem.W PyProof.Rows PySem.Calls PySem.Spec
theorem con_introC {hd : Option Value} {w : World} {f : Addr} {k : Nat} {args : List Value} {fz pre : Led} {post : Value → Led → Prop} {rai : Addr → Option Int → Prop}
    {name qual : PySem.Str} {params : Arguments} {body body' : List Stmt} {scope scope' : Scope} {dV kV doc pm cdv ct oc : Value} {an od : Option Addr} {osl : Array (Option Value)} {binds : List (PySem.Str × Value)}
    (ho : (KP w.params).lookup f = some ⟨oc, od, .func (fnOf name qual params body scope dV kV doc pm an cdv ct), osl⟩) (hbody : body = body') (hscope : scope = scope') (hcd : codeIn (KP w.params) cdv qual = true)
    (hbind : ∀ s : Shared, (KP w.params).In s.heap → BindsTo s (fnOf name qual params body' scope' dV kV doc pm an cdv ct) ⟨args, []⟩ binds)
    (hkind : (binds.all fun y => scope'.names.lookup y.1 == some .local || scope'.names.lookup y.1 == some .cell) = true)
    (hnd : ((cellsFrom 0 scope'.names []).map (·.1)).Nodup)
    (hk0 : 0 < k)
    (h : ∀ (mean : ExcName → Option Value) (mg mb : PySem.Str → Option Value) (dp un : Nat) (gd : Option (List Code)) (env : Env) (outer : List Env) (base g : Heap) (L : Addr) (s : Shared) (h₁ : Heap) (tk : Nat) (cells : Led),
      dp + 2 * k < recursionLimit → un + 16 * k < cLine → env.scope.kind = .function → s.heap.objs.size = L →
      (∀ p ∈ fz, g.get? p.1 = some p.2) → (∀ p ∈ pre, p.1 < L) →
      Fr g L h₁ (bindL (envOfC qual scope' L f cdv).kindOf binds fun _ => none) → News g L h₁ (cells ++ pre) →
      CellsAre (bindC (envOfC qual scope' L f cdv).kindOf binds fun _ => none) (cellsFrom (L + 1) scope'.names []) cells →
      Below (Arnd hd dp un gd env outer) base (env :: outer) g → (KP w.params).In g → Top VW (looseW VW []) mean mg mb g → OnBase w mean mg mb base →
      wpAny (model PySem.Challenge.rw_no0277_01.row.prog w) ((Arnd hd dp un gd env outer).deeper (envOfC qual scope' L f cdv)) (execs body' (envOfC qual scope' L f cdv))
        (fun fl s' => Back g L s post (match fl with | .ret v => v | _ => .none) s')
        (Out g (envOfC qual scope' L f cdv :: env :: outer) s rai)
        { s with heap := h₁, toks := tk })
    (hco : scope'.isCoroutine = false) (hgen : scope'.isGenerator = false) (hk : scope'.kind = .function) : ConH hd w f k args fz pre post rai := by
  subst hbody; subst hscope
  intro mean mg mb A A₀ base env outer s h₀ L m Q E S hh N hfz hret hrai
  refine nnOf fun nO => ?_
  obtain ⟨B, hfr, hef, hek, F, X, T, dep, un, O⟩ := S <;> (refine nO ?_; clear nO)
  have Xs : (KP w.params).In s.heap := X.keeps F.keep
  refine nnOf fun nO => ?_
  obtain ⟨FG, BG, st, lv⟩ := groundX (R := fun r s' => match r with | .ok (.ret v) => Q v s' | .ok _ => False | .error e => E e s') B F N hfr hef hek <;> (refine nO ?_; clear nO)
  refine wpAny_call ?_
  refine codeAny_call_function (by lia) (Xs _ _ ho) rfl hco hgen rfl (codeRec_of Xs hcd) (hbind s Xs _ _ _ _ ?_)
  refine wpAny_newFunctionEnv_cells hk (kindsX hkind _) fun env' he s' x => ?_
  subst he
  refine ⟨(T.nolimit.keeps F.keep).keeps x.toInCall.keep, codeAny_func ?_⟩
  refine nnOf fun nO => ?_
  obtain ⟨h₁, tk, rfl, _⟩ := x.done <;> (refine nO ?_; clear nO)
  have hk₁ := x.toInCall.keep
  obtain ⟨cells, NC, Y⟩ := Cl.news (h₀ := s.heap) (Nat.le_refl _) fun n c hm => ⟨x.cell n c (lookup_of_mem_nodup (cellsFrom_names scope.names 0 (s.heap.objs.size + 1) [] [] rfl ▸ hnd) hm), x.above n c hm⟩
  have hA : A = Arnd hd A.depth A.units A.guards env outer := by
    refine nnOf fun nO => ?_
    obtain ⟨hd, dp, fr, gd, u⟩ := A <;> (refine nO ?_; clear nO)
    simp only at hfr hh
    subst hfr; subst hh; rfl
  rw [hA] at BG ⊢
  have hg : ∀ b o, s.heap.get? b = some o → b ∉ ads pre → (hideAll s.heap (pre.map (·.1))).get? b = some o := fun b o q nb => hideAll_get _ q nb
  have w1 := h mean mg mb A.depth A.units A.guards env outer base (hideAll s.heap (pre.map (·.1))) s.heap.objs.size s h₁ tk cells (by lia) (by lia) hek rfl (fun p hp => hg _ _ (hfz p hp).1 (hfz p hp).2) (fun p hp => Heap.lt_size (N p hp).1)
    ⟨x.toInCall.ns, fun b o e => hk₁ b o (of_hideAll _ e), Nat.le_of_eq (hideAll_size _ _)⟩
    (fun p hp => by
      rcases List.mem_append.mp hp with hp | hp
      · refine ⟨(NC p hp).1, (NC p hp).2.1, ?_⟩
        cases q : (hideAll s.heap (pre.map (·.1))).get? p.1 with
        | none => rfl
        | some o => have := of_hideAll _ q; rw [(NC p hp).2.2] at this; cases this
      · exact ⟨hk₁ _ _ (N p hp).1, Nat.ne_of_lt (Heap.lt_size (N p hp).1), hideAll_none _ (List.mem_map_of_mem hp)⟩) Y BG (X.keeps fun b o e => st b o e) (T.keeps fun b o e => st b o e) O
  refine wpAny_mono w1 (fun fl s' hl => ?_) (fun e s' hl => ?_)
  rotate_left
  · refine nnOf fun nO => ?_
    obtain ⟨C, code, a, tr, h', tk, hr, rfl, rfl, x⟩ := hl <;> (refine nO ?_; clear nO)
    refine fly_leave (L := s.heap.objs.size) rfl rfl x fun h'' y => ?_
    refine hrai C code a h'' tk hr (y.mono (hide_stays fun b o q nb => ⟨q, fun hb => ?_⟩) fun b o q => q)
    rcases List.mem_cons.mp hb with hb | hb
    · have := Heap.lt_size q; rw [hideAll_size, hb] at this; exact Nat.lt_irrefl _ this
    · exact nb hb
  refine nnOf fun nO => ?_
  obtain ⟨m', new, h', tk, rfl, F', N', hp⟩ := hl <;> (refine nO ?_; clear nO)
  refine lv _ _ ⟨_, m', new, F', N', fun kF kN => ?_⟩
  exact hret _ new h' tk hp kF kN (fun b o q nb => F'.keep b o (hg b o q nb)) fun p hq => by
    rcases Classical.em (p.1 ∈ ads pre) with q | q
    · exact .inl q
    · refine .inr ?_
      cases e : s.heap.get? p.1 with
      | none => rfl
      | some o => have := hg _ _ e q; rw [(N' p hq).2.2] at this; cases this
theorem ne_data {h₀ h : Heap} {L a b : Addr} {l : Led} {o o' : Obj} (N : News h₀ L h l) (ha : (a, o) ∈ l) (hb : (b, o') ∈ l) (hs : o.data ≠ o'.data) : a ≠ b := fun e => by
  subst e
  have h1 := (N _ ha).1
  have h2 := (N _ hb).1
  dsimp only at h1 h2
  rw [h1] at h2
  exact hs (congrArg Obj.data (Option.some.inj h2))

end
section
open PySem PySem.W PyProof.Rows PySem.Calls PySem.Spec
theorem fr_keep {g h h' : Heap} {L C : Addr} {m : PySem.Str → Option Value} (F : Fr g L h m) (hL : L ≠ C) (hg : g.get? C = none) (k : ∀ b o, b ≠ C → h.get? b = some o → h'.get? b = some o) : Fr g L h' m := by
  obtain ⟨oL, a1, a2, hL', a3⟩ := F.ns
  refine ⟨⟨oL, a1, a2, k _ _ hL hL', a3⟩, fun b o q => k _ _ (fun e => ?_) (F.keep b o q), F.above⟩
  rw [e, hg] at q; cases q
theorem upd_app {d : Addr} {o o' : Obj} {r r' : Led} (U : Upd d o o' r r') : ∀ {l : Led}, (∀ p ∈ l, p.1 ≠ d) → Upd d o o' (l ++ r) (l ++ r')
  | [], _ => U
  | p :: l, h => .tail (h p (.head _)) (upd_app U fun q hq => h q (.tail _ hq))
theorem ns_at {h h' : Heap} {C : Addr} {m : PySem.Str → Option Value} {o : Obj} (n : h.Ns C m) (e : h.get? C = some o) (e' : h'.get? C = some o) : h'.Ns C m := by
  obtain ⟨oL, a1, a2, hL, a3⟩ := n
  rw [e] at hL
  exact ⟨oL, a1, a2, e'.trans hL, a3⟩

section
variable {prog : Program} {w : World} {A : Around} {E : Value → Shared → Prop} {R : Result → Shared → Prop} {s : Shared}
theorem compLoop_T {elt target iter : PySem.Expr} {scope : Scope} {pos : Pos} {it acc : Value} {env : Env} (I : Nat → Shared → Prop)
    (turn : ∀ n s, I n s → wpAny (model prog w) A (pyNext it) (fun r s₁ => match r with
      | none => R (.ok .next) s₁
      | some v => wpAny (model prog w) A (letOwnedTupleGo target it v) (fun _ s₁' => wpAny (model prog w) A (assign target env v) (fun _ s₂ => wpAny (model prog w) A (eval elt env) (fun x s₃ =>
          wpAny (model prog w) A (call (.builtin "list.append") [acc, x]) (fun _ s₄ => ∃ m, m < n ∧ I m s₄) (notedBy (model prog w) A env fun e s' => R (.error e) s') s₃)
          (notedBy (model prog w) A env fun e s' => R (.error e) s') s₂) (notedBy (model prog w) A env fun e s' => R (.error e) s') s₁') (notedBy (model prog w) A env fun e s' => R (.error e) s') s₁) (notedBy (model prog w) A env fun e s' => R (.error e) s') s)
    (n : Nat) (h : I n s) :
    codeAny (model prog w) A (.compLoop (.ListComp elt [⟨target, iter, [], 0⟩] scope pos) 0 it acc env) R s := by
  refine codeAny_loop rfl I (fun n s hI => ?_) n h
  show wpAny _ _ ((compTurn (.ListComp elt [⟨target, iter, [], 0⟩] scope pos) 0 it acc env).onRaise (fun x => do noteFrame x env; theTreesLotGoes x)) _ _ s
  refine wpAny_noted ?_
  rw [compTurn_list1]
  refine wpAny_bind (wpAny_standAt (wpAny_bind (wpAny_mono (turn n s hI) (fun r s₁ h₁ => ?_) fun _ _ h' => h')))
  cases r with
  | none => exact wpAny_pure h₁
  | some v =>
    exact wpAny_bind (wpAny_mono h₁ (fun _ s₁' h₁' => wpAny_bind (wpAny_mono h₁' (fun _ s₂ h₂ => wpAny_bind (wpAny_bind (wpAny_mono h₂ (fun x s₃ h₃ => wpAny_bind (wpAny_mono h₃
      (fun _ s₄ h₄ => wpAny_pure (wpAny_pure ⟨rfl, h₄⟩)) fun _ _ h' => h')) fun _ _ h' => h'))) fun _ _ h' => h')) fun _ _ h' => h')

noncomputable def CompErr (M : Model) (A : Around) (E : Value → Shared → Prop) (C : Addr) (x : Value) (s' : Shared) : Prop :=
  ∃ m, s'.heap.Ns C m ∧ ∀ h', Heap.SameBut C s'.heap h' → ∀ cenv : Env, cenv.locals = C → wpAny M A (passOn "comprehension.variables-let-go" x cenv : Sem Value) (fun _ _ => False) E { s' with heap := h' }

theorem comp_rule {elt iter : PySem.Expr} {elts : List PySem.Expr} {x1 : Nat} {tpos : Pos} {scope : Scope} {cl : List (PySem.Str × Addr)} {pos : Pos} {env : Env} {g : Heap} {L l : Addr} {led0 : Led} {m0 : PySem.Str → Option Value} {vs : List Value} {Q : Value → Shared → Prop}
    (hh : A.handled = none) (hclos : closureFor scope env = pure cl) (hcell : ∀ y ∈ scope.names, y.2 ≠ .cell) (hkind : scope.kind = .function) (hnames : ∀ y ∈ scope.names, y.2 = .local → scope.names.lookup y.1 = some .local)
    (hs : ∀ x, foldedSetIterable iter env x = pure x)
    (hiter : ∀ Q' : Value → Shared → Prop, Q' (.ref l) s → wpAny (model prog w) A (eval iter env) Q' E s)
    (hl : g.IsList l vs.toArray) (hv : ∀ v ∈ vs, ∃ a, v = .ref a) (hlen : vs.length ≤ 1000) (F : Fr g L s.heap m0) (N : News g L s.heap led0)
    (J : Nat → Led → List Value → Prop) (hj : J 0 led0 [])
    (turn : ∀ i v led ys n h tk C D I oI oC, vs[i]? = some v → J i led ys → ys.length = i → (∀ p ∈ led, p.1 ≠ I ∧ p.1 ≠ D ∧ p.1 ≠ C) → D ≠ C → I ≠ C → I ≠ D → Fr g L h m0 → News g L h (led ++ [(I, oI), (D, listOf ys.toArray n), (C, oC)]) → (∃ m, h.Ns C m) →
      wpAny (model prog w) A (assign (.Tuple elts x1 tpos) (compEnvC scope cl C env) v) (fun _ s₂ => wpAny (model prog w) A (eval elt (compEnvC scope cl C env)) (fun x s₃ => ∃ led' h' tk' oC', s₃ = { s with heap := h', toks := tk' } ∧ Fr g L h' m0 ∧
          News g L h' (led' ++ [(I, oI), (D, listOf ys.toArray n), (C, oC')]) ∧ (∀ p ∈ led', p.1 ≠ I ∧ p.1 ≠ D ∧ p.1 ≠ C) ∧ (∃ m, h'.Ns C m) ∧ J (i + 1) led' (ys ++ [x]))
        (notedBy (model prog w) A (compEnvC scope cl C env) (CompErr (model prog w) A E C)) s₂) (notedBy (model prog w) A (compEnvC scope cl C env) (CompErr (model prog w) A E C)) { s with heap := h, toks := tk })
    (done : ∀ led ys n h tk D, J vs.length led ys → Fr g L h m0 → News g L h ((D, listOf ys.toArray n) :: led) → Q (.ref D) { s with heap := h, toks := tk }) :
    wpAny (model prog w) A (eval (.ListComp elt [⟨.Tuple elts x1 tpos, iter, [], 0⟩] scope pos) env) Q E s := by
  rw [eval_ListComp]
  refine wpAny_comprehension_free (use := none) rfl hs hclos hkind hnames (hiter _ ?_)
  have hls : s.heap.IsList l vs.toArray := hl.at fun o e => F.keep l o e
  obtain ⟨ol, hol, hol'⟩ := id hl
  have hne : l ≠ s.heap.objs.size := Nat.ne_of_lt (Heap.lt_size (F.keep _ _ hol))
  refine wpAny_pyIter_list hls ?_
  have W := Walks.list (prog := prog) (w := w) hh s.heap.objs.size l hne vs.toArray
  rw [show vs.toArray.size = vs.length from rfl] at W
  refine wpAny_newObj_type (wpAny_newFunctionEnv hcell (by intro y hy; simp at hy) (fun h₁ hns₁ hsb₁ => ?_) hkind)
  dsimp only at hns₁ hsb₁ ⊢
  generalize hH1 : s.heap.push _ = H1 at hns₁ hsb₁ ⊢
  generalize hH2 : H1.push { cls := .type "list", dict := none, data := .seq ([] : List Value).toArray } = H2 at hns₁ hsb₁ ⊢
  have sz1 : H1.objs.size = s.heap.objs.size + 1 := by rw [← hH1, Heap.size_push]
  have sz2 : H2.objs.size = s.heap.objs.size + 2 := by rw [← hH2, Heap.size_push, sz1]
  have lt0 : ∀ b, b < s.heap.objs.size → b ≠ s.heap.objs.size ∧ b ≠ H1.objs.size ∧ b ≠ H2.objs.size := fun b hb => ⟨Nat.ne_of_lt hb, by rw [sz1]; exact Nat.ne_of_lt (Nat.lt_succ_of_lt hb), by rw [sz2]; exact Nat.ne_of_lt (Nat.lt_of_lt_of_le hb (Nat.le_add_right _ 2))⟩
  have nDC : H1.objs.size ≠ H2.objs.size := by rw [sz1, sz2]; exact Nat.ne_of_lt (Nat.lt_succ_self _)
  have nIC : s.heap.objs.size ≠ H2.objs.size := by rw [sz2]; exact Nat.ne_of_lt (Nat.lt_add_of_pos_right (by decide))
  have nID : s.heap.objs.size ≠ H1.objs.size := by rw [sz1]; exact Nat.ne_of_lt (Nat.lt_succ_self _)
  have fresh : ∀ a, s.heap.objs.size ≤ a → g.get? a = none := fun a ha => by
    cases e : g.get? a with
    | none => rfl
    | some o' => exact absurd (Heap.lt_size (F.keep _ _ e)) (Nat.not_lt.mpr ha)
  have gI := fresh _ (Nat.le_refl _)
  have gD := fresh H1.objs.size (by rw [sz1]; exact Nat.le_succ _)
  have gC := fresh H2.objs.size (by rw [sz2]; exact Nat.le_add_right _ 2)
  have k1 : ∀ b o, H1.get? b = some o → h₁.get? b = some o := fun b o e => hsb₁.extBut b o (by
    have := Heap.lt_size e
    rw [sz1] at this
    rw [sz2]; exact Nat.ne_of_lt (Nat.lt_of_lt_of_le this (by lia))) (Heap.get?_push_of_some _ (hH2 ▸ Heap.get?_push_of_some _ e))
  have k0 : ∀ b o, s.heap.get? b = some o → h₁.get? b = some o := fun b o e => k1 b o (hH1 ▸ Heap.get?_push_of_some _ e)
  have hLn : L ≠ s.heap.objs.size ∧ L ≠ H1.objs.size ∧ L ≠ H2.objs.size := by
    refine nnOf fun nO => ?_
    obtain ⟨oL, _, _, hL, _⟩ := F.ns <;> (refine nO ?_; clear nO)
    exact lt0 L (Heap.lt_size hL)
  have F1 : Fr g L h₁ m0 := by
    refine nnOf fun nO => ?_
    obtain ⟨oL, a1, a2, hL, a3⟩ := F.ns <;> (refine nO ?_; clear nO)
    exact ⟨⟨oL, a1, a2, k0 _ _ hL, a3⟩, fun b o q => k0 _ _ (F.keep b o q), F.above⟩
  have gI1 : H1.get? s.heap.objs.size = some { cls := .type "list_iterator", data := .fields #[.ref l, .int 0 0] } := hH1 ▸ Heap.get?_push_size _ rfl
  have gD1 : H2.get? H1.objs.size = some (listOf ([] : List Value).toArray 0) := hH2 ▸ Heap.get?_push_size _ rfl
  have gD2 : h₁.get? H1.objs.size = some (listOf ([] : List Value).toArray 0) := hsb₁.extBut _ _ nDC (Heap.get?_push_of_some _ gD1)
  refine nnOf fun nO => ?_
  obtain ⟨oC, _, _, hoC, _⟩ := id hns₁ <;> (refine nO ?_; clear nO)
  have N1 : News g L h₁ (led0 ++ [(s.heap.objs.size, _), (H1.objs.size, listOf ([] : List Value).toArray 0), (H2.objs.size, oC)]) := fun p hp => by
    rcases List.mem_append.mp hp with hp | hp
    · exact ⟨k0 _ _ (N p hp).1, (N p hp).2⟩
    rcases List.mem_cons.mp hp with rfl | hp
    · exact ⟨k1 _ _ gI1, Ne.symm hLn.1, gI⟩
    rcases List.mem_cons.mp hp with rfl | hp
    · exact ⟨gD2, Ne.symm hLn.2.1, gD⟩
    rw [List.mem_singleton] at hp
    subst hp
    exact ⟨hoC, Ne.symm hLn.2.2, gC⟩
  have n0 : ∀ p ∈ led0, p.1 ≠ s.heap.objs.size ∧ p.1 ≠ H1.objs.size ∧ p.1 ≠ H2.objs.size := fun p hp => lt0 _ (Heap.lt_size (N p hp).1)
  generalize hI : s.heap.objs.size = I at *
  generalize hD : H1.objs.size = D at *
  generalize hC : H2.objs.size = C at *
  have hst0 : (s.heap.push { cls := .type "list_iterator", data := .fields #[.ref l, .int 0 0] }).get? I = some { cls := .type "list_iterator", data := .fields #[.ref l, .int 0 0] } := hI ▸ Heap.get?_push_size _ rfl
  have loop : ∀ s₃ : Shared, s₃ = { s with heap := h₁, toks := s.toks + ([] : List (PySem.Str × Value)).length } →
      codeAny (model prog w) A (.compLoop (.ListComp elt [⟨.Tuple elts x1 tpos, iter, [], 0⟩] scope pos) 0 (.ref I) (.ref D) (compEnvC scope cl C env)) (compPost (model prog w) A E none Q (.ref D) C) s₃ := by
    rintro s₃ rfl
    refine compLoop_T (fun k s₁ => ∃ i led ys n h tk oI oC, s₁ = { s with heap := h, toks := tk } ∧ i ≤ vs.length ∧ k = vs.length - i ∧ ys.length = i ∧ J i led ys ∧ Fr g L h m0 ∧ News g L h (led ++ [(I, oI), (D, listOf ys.toArray n), (C, oC)]) ∧ (∃ m, h.Ns C m) ∧ (∀ p ∈ led, p.1 ≠ I ∧ p.1 ≠ D ∧ p.1 ≠ C) ∧ h.IsListIter I l i) ?_ vs.length ⟨0, led0, [], 0, h₁, _, _, oC, rfl, Nat.zero_le _, rfl, rfl, hj, F1, N1, ⟨_, hns₁⟩, n0, ?_⟩
    · intro k s₁ hX35
      refine nnOf fun nO => ?_
      obtain ⟨i, led, ys, n, h, tk, oI, oC, rfl, hi, rfl, hyl, hj, F, N, hns, hne', hst⟩ := hX35 <;> (refine nO ?_; clear nO)
      have stl : h.IsList l vs.toArray := hl.at fun o e => F.keep l o e
      rcases Nat.lt_or_ge i vs.length with hlt | hge
      · refine W.item i { s with heap := h, toks := tk } _ _ hlt ⟨hst, stl⟩ fun v h' tk' pv st' keep => ?_
        have kp : ∀ b o, b ≠ I → h.get? b = some o → h'.get? b = some o := fun b o hb => keep b o (by simpa using hb)
        have hvi : vs[i]? = some v := by simpa using pv
        obtain ⟨oI', hoI', hrest⟩ := id st'.1
        obtain ⟨mC, hns⟩ := hns
        have hC' : h.get? C = some oC := (N (C, oC) (by simp)).1
        have N2 : News g L h' (led ++ [(I, oI'), (D, listOf ys.toArray n), (C, oC)]) := fun p hp => by
          rcases List.mem_append.mp hp with hp | hp
          · exact ⟨kp _ _ (hne' p hp).1 (N p (List.mem_append_left _ hp)).1, (N p (List.mem_append_left _ hp)).2⟩
          rcases List.mem_cons.mp hp with rfl | hp
          · exact ⟨hoI', Ne.symm hLn.1, gI⟩
          rcases List.mem_cons.mp hp with rfl | hp
          · exact ⟨kp _ _ (Ne.symm nID) (N (D, listOf ys.toArray n) (by simp)).1, (N (D, listOf ys.toArray n) (by simp)).2⟩
          · rw [List.mem_singleton] at hp
            subst hp
            exact ⟨kp _ _ (Ne.symm nIC) hC', (N (C, oC) (by simp)).2⟩
        obtain ⟨av, rfl⟩ := hv v (List.mem_of_getElem? hvi)
        refine wpAny_letOwnedTupleGo_listiter st'.1 ?_
        refine wpAny_mono (turn i _ led ys n h' tk' C D I oI' oC hvi hj hyl hne' nDC nIC nID (fr_keep F hLn.1 gI kp) N2 ⟨mC, ns_at hns hC' (kp _ _ (Ne.symm nIC) hC')⟩) (fun _ s₂ h₂ => wpAny_mono h₂ (fun x s₃ h₃ => ?_) fun _ _ x => x) fun _ _ x => x
        refine nnOf fun nO => ?_
        obtain ⟨led', h3, tk3, oC', rfl, F3, N3, hne3, ⟨mC3, hns3⟩, hj3⟩ := h₃ <;> (refine nO ?_; clear nO)
        refine append_K F3 N3 (upd_app (.tail nID (.head (fun p hp => by rw [List.mem_singleton] at hp; subst hp; exact Ne.symm nDC))) fun p hp => (hne3 p hp).2.1) (fun h4 F4 N4 => ?_) (by
          have : ys.toArray.size ≤ 1000 := by rw [List.size_toArray]; lia
          exact Nat.le_trans this (by decide))
        rw [List.push_toArray] at N4
        exact ⟨vs.length - (i + 1), by lia, i + 1, led', ys ++ [x], n + 1, h4, tk3, oI', oC', rfl, hlt, rfl, by rw [List.length_append, hyl]; rfl, hj3, F4, N4, ⟨mC3, ns_at hns3 (N3 (C, oC') (by simp)).1 (N4 (C, oC') (by simp)).1⟩, hne3, ⟨oI', (N4 (I, oI') (by simp)).1, hrest⟩⟩
      · have hin : i = vs.length := Nat.le_antisymm hi hge
        subst hin
        refine W.done { s with heap := h, toks := tk } _ _ ⟨hst, stl⟩ fun h' tk' keep => ?_
        have kp : ∀ b o, b ≠ I → h.get? b = some o → h'.get? b = some o := fun b o hb => keep b o (by simpa using hb)
        have F2 := fr_keep F hLn.1 gI kp
        obtain ⟨mC, hns⟩ := hns
        have hC' : h.get? C = some oC := (N (C, oC) (by simp)).1
        refine ⟨mC, ns_at hns hC' (kp _ _ (Ne.symm nIC) hC'), fun h'' hs'' => ?_⟩
        refine done led ys n h'' tk' D hj (fr_keep F2 hLn.2.2 gC fun b o hb e => hs''.extBut b o hb e) (fun p hp => ?_)
        have hp2 : p.1 ≠ I ∧ p.1 ≠ C ∧ p ∈ led ++ [(I, oI), (D, listOf ys.toArray n), (C, oC)] := by
          rcases List.mem_cons.mp hp with rfl | hp
          · exact ⟨Ne.symm nID, nDC, by simp⟩
          · exact ⟨(hne' p hp).1, (hne' p hp).2.2, List.mem_append_left _ hp⟩
        exact ⟨hs''.extBut _ _ hp2.2.1 (kp _ _ hp2.1 (N p hp2.2.2).1), (N p hp2.2.2).2⟩
    · exact ⟨_, k1 _ _ gI1, rfl, rfl⟩
  exact codeAny_compStart_list (loop _ rfl) (W.self 0 _ _ _ ⟨⟨_, k1 _ _ gI1, rfl, rfl⟩, hls.at fun o e => k0 _ _ e⟩ (loop _ rfl))
end

end
section
open PySem PySem.W PyProof.Rows PySem.Calls PySem.Spec
theorem hide1_get {g : Heap} {c b : Addr} {o : Obj} (h : g.get? b = some o) (hb : b ≠ c) : (hideAll g [c]).get? b = some o := hideAll_get _ h (by simpa using hb)
theorem of_hide1 {g : Heap} {c b : Addr} {o : Obj} (h : (hideAll g [c]).get? b = some o) : g.get? b = some o ∧ b ≠ c :=
  ⟨of_hideAll _ h, fun e => by rw [hideAll_none _ (by simp [e])] at h; cases h⟩
theorem hide_none {g : Heap} {l : List Addr} {b : Addr} (h : g.get? b = none) : (hideAll g l).get? b = none := by
  cases q : (hideAll g l).get? b with
  | none => rfl
  | some o => have := of_hideAll _ q; rw [h] at this; cases this

theorem fly_but {B G : Heap} {l : List Env} {C e C0 : Addr} {code : Option Int} {tr : Bool} {h h' : Heap} {oC : Obj} (x : Fly B G l C code e tr h) (hC : B.get? C0 = some oC) (hl : C0 ∉ frs l) (s : Heap.SameBut C0 h h') :
    Fly (hideAll B [C0]) (hideAll G [C0]) l C code e tr h' := by
  refine nnOf fun nO => ?_
  obtain ⟨a, b, c, up, d, vs, sl, es, n, h1, h2, h3, h4, h5, h6, h7, h8⟩ := x <;> (refine nO ?_; clear nO)
  have ne : ∀ z, B.get? z = none → z ≠ C0 := fun z hz q => by rw [q, hC] at hz; cases hz
  have k : ∀ z o, z ≠ C0 → h.get? z = some o → h'.get? z = some o := fun z o hz q => s.extBut z o hz q
  refine ⟨fun z o q => k z o (of_hide1 q).2 (a z o (of_hide1 q).1), hide_none b, ?_, fun z o q hn => ?_, d, vs, sl, es, n, k _ _ (ne e b) h1, h2, h3, h4, ⟨h5.1, hide_none h5.2⟩, k _ _ (ne d h5.2) h6, h7, h8.imp (fun x => x) fun ⟨T, oT, ts, y1, y2, y3, y4, y⟩ => ⟨T, oT, ts, y1, hide_none y2, y3, k _ _ (ne T y2) y4, y⟩⟩
  · clear h1 h2 h3 h4 h5 h6 h7 h8 d
    induction l with
    | nil => trivial
    | cons env r ih =>
      refine nnOf fun nO => ?_
      obtain ⟨c1, ⟨L, o, c2, c3, c4, c5⟩, c6⟩ := c <;> (refine nO ?_; clear nO)
      have hL : L ≠ C0 := ne L c3
      refine ⟨c1, ⟨L, o, c2, hide_none c3, k _ _ hL c4, c5⟩, ih (fun q => hl ?_) c6⟩
      unfold frs at q ⊢
      rw [List.filterMap_cons, c2]
      exact .tail _ q
  · obtain ⟨q1, q2⟩ := of_hide1 q
    obtain ⟨sl', q3⟩ := up z o q1 hn
    exact ⟨sl', k _ _ q2 q3⟩

theorem fly_pass {M : Model} {A : Around} {E : Value → Shared → Prop} {s : Shared} {B G : Heap} {l : List Env} {C e : Addr} {code : Option Int} {w : String} {env : Env} {α : Type} {Q : α → Shared → Prop}
    (x : Fly B G l C code e true s.heap) (k : ∀ h', Fly B G l C code e true h' → E (.ref e) { s with heap := h' }) : wpAny M A (PySem.passOn w (.ref e) env : Sem α) Q E s := by
  have x' := x
  refine nnOf fun nO => ?_
  obtain ⟨a, b, c, up, d, vs, sl, es, n, h1, h2, h3, h4, h5, h6, h7, h8⟩ := x <;> (refine nO ?_; clear nO)
  unfold PySem.passOn
  rcases h8 with ⟨h, _⟩ | ⟨T, oT, ts, y1, y2, y3, y4, y5, y6⟩
  · cases h
  · refine wpAny_bind (wpAny_field h1 rfl y1 ?_)
    rw [if_neg (by simp)]
    refine wpAny_bind (fly_set x' fun h' y => ?_)
    exact wpAny_throw (k h' y)

theorem comp_err {M : Model} {A : Around} {E : Value → Shared → Prop} {s : Shared} {B G : Heap} {l : List Env} {C e C0 : Addr} {code : Option Int} {oC : Obj} {mC : PySem.Str → Option Value} {h0 : Heap}
    (x : Fly B G l C code e true s.heap) (hC : B.get? C0 = some oC) (hl : C0 ∉ frs l) (nC : h0.Ns C0 mC) (h0C : h0.get? C0 = some oC)
    (k : ∀ h', Fly (hideAll B [C0]) (hideAll G [C0]) l C code e true h' → E (.ref e) { s with heap := h' }) : CompErr M A E C0 (.ref e) s :=
  ⟨mC, ns_at nC h0C (x.stays _ _ hC), fun h' sb cenv _ => fly_pass (s := { s with heap := h' }) (fly_but x hC hl sb) k⟩

theorem usesC {w : World} {k : Nat} {rai : Addr → Option Int → Prop} {mean : ExcName → Option Value} {mg mb : PySem.Str → Option Value} {A A₀ : Around} {base : Heap} {env : Env} {outer : List Env} {s : Shared} {h₀ : Heap} {L : Addr} {m : PySem.Str → Option Value} {N0 : Led} {Q E : Value → Shared → Prop} {hd : Option Value} {pre rest fz : Led} {post : Value → Led → Prop}
    {C0 : Addr} {oC : Obj} {mC : PySem.Str → Option Value} {sc : Scope} {cl : List (PySem.Str × Addr)}
    (S : Site w mean mg mb k A A₀ base env outer s h₀ L m) (hh : A.handled = hd) (N : News h₀ L s.heap N0) (hs : N0 = pre ++ rest) (hz : ∀ p ∈ fz, h₀.get? p.1 = some p.2 ∨ p ∈ rest) (hr : ∀ p ∈ rest, p.1 ∉ ads pre)
    (hC : (C0, oC) ∈ rest) (nC : s.heap.Ns C0 mC)
    (ret : ∀ v new h' tk, Fr h₀ L h' m → News h₀ L h' (new ++ rest) → post v new → (∀ p ∈ new, p.1 ∈ ads pre ∨ (∀ q ∈ N0, q.1 ≠ p.1)) → Q v { s with heap := h', toks := tk })
    (rais : ∀ C code e h' tk, Fly (hideAll h₀ (frs (env :: outer))) h₀ (env :: outer) C code e true h' → rai C code → E (.ref e) { s with heap := h', toks := tk }) :
    Uses hd w k fz pre post rai A Q (notedBy (model PySem.Challenge.rw_no0277_01.row.prog w) A (compEnvC sc cl C0 env) (CompErr (model PySem.Challenge.rw_no0277_01.row.prog w) A E C0)) s := ⟨fun f args Cn => by
    have hk : ∀ b o, h₀.get? b = some o → b ∉ ads pre := fun b o q hb => by
      obtain ⟨p, hp, e'⟩ := List.mem_map.mp hb
      have := (N p (hs ▸ List.mem_append_left _ hp)).2.2
      rw [e', q] at this; cases this
    have hCN := N (C0, oC) (hs ▸ List.mem_append_right _ hC)
    subst hs
    have hfrs : C0 ∉ frs (env :: outer) := fun hm => by
      obtain ⟨env', hm', hb⟩ := List.mem_filterMap.mp hm
      rcases List.mem_cons.mp hm' with rfl | hm'
      · rw [S.ef] at hb; exact hCN.2.1 (Option.some.inj hb).symm
      · obtain ⟨o, ho, _⟩ := (S.B.frames.mem (List.mem_filterMap.mpr ⟨env', hm', hb⟩)).2
        rw [hCN.2.2] at ho; cases ho
    have hCp : C0 ∉ ads pre := hr (C0, oC) hC
    refine Cn mean mg mb A A₀ base env outer s h₀ L m Q _ S hh (fun p q => N p (List.mem_append_left _ q)) (fun p q => ?_) (fun v new h' tk pv F' N' hkk hf => ?_) (fun C code e h' tk r x => ?_)
    · rcases hz p q with z | z
      · exact ⟨S.F.keep _ _ z, hk _ _ z⟩
      · exact ⟨(N p (List.mem_append_right _ z)).1, hr p z⟩
    · refine ret v new h' tk F' (fun p hq => ?_) pv (fun p hq => ?_)
      · rcases List.mem_append.mp hq with hq | hq
        · exact N' p hq
        · exact ⟨hkk _ _ (N p (List.mem_append_right _ hq)).1 (hr p hq), (N p (List.mem_append_right _ hq)).2⟩
      · refine (hf p hq).imp (fun x => x) fun x q hq' e => by have := (N q hq').1; rw [e, x] at this; cases this
    · show notedBy (model PySem.Challenge.rw_no0277_01.row.prog w) A env _ _ _
      refine fly_noted S.fr S.ef x fun h2 y => ?_
      refine comp_err (s := { s with heap := h2, toks := tk }) y (hideAll_get _ (hideAll_get _ hCN.1 hCp) hfrs) hfrs nC hCN.1 fun h3 z => ?_
      refine rais C code e h3 tk (z.mono (fun b o q => ?_) fun b o q => ?_) r
      · have q1 := of_hideAll _ q
        have q2 : b ∉ frs (env :: outer) := fun hb => by rw [hideAll_none _ hb] at q; cases q
        exact hide1_get (hideAll_get _ (hideAll_get _ (S.F.keep b o q1) (hk b o q1)) q2) fun e => by rw [e, hCN.2.2] at q1; cases q1
      · exact hide1_get (hideAll_get _ (S.F.keep b o q) (hk b o q)) fun e => by rw [e, hCN.2.2] at q; cases q⟩

end
section
open PySem PySem.W PyProof.Rows PySem.Calls PySem.Spec
noncomputable def ConT (w : World) (f : Addr) (k : Nat) (args : List Value) (fz : Led) (post : Value → Led → Prop) : Prop :=
  ∀ (mean : ExcName → Option Value) (mg mb : PySem.Str → Option Value) (A A₀ : Around) (base : Heap) (env : Env) (s : Shared) (h₀ : Heap) (L : Addr) (m : PySem.Str → Option Value) (Q E : Value → Shared → Prop),
    Site w mean mg mb k A A₀ base env [] s h₀ L m → A.handled = none → (∀ p ∈ fz, s.heap.get? p.1 = some p.2 ∧ p.1 ≠ L) →
    (∀ v new h' tk, post v new → Fr h₀ L h' m → (∀ N0, News h₀ L s.heap N0 → News h₀ L h' (new ++ N0)) → (∀ p ∈ new, s.heap.get? p.1 = none) → Q v { s with heap := h', toks := tk }) →
    wpAny (model PySem.Challenge.rw_no0277_01.row.prog w) A (call (.ref f) args) Q E s

noncomputable def BackT (g : Heap) (L Lc : Addr) (s₀ : Shared) (post : Value → Led → Prop) (v : Value) (s' : Shared) : Prop :=
  ∃ g4 m' new h' tk, s' = { s₀ with heap := h', toks := tk } ∧ Fr g4 L h' m' ∧ News g4 L h' new ∧ post v new ∧ (∀ b o, g.get? b = some o → b ≠ Lc → g4.get? b = some o) ∧ g.UpToSlots g4

theorem backT {g : Heap} {L Lc : Addr} {s₀ : Shared} {post : Value → Led → Prop} {v : Value} {h' : Heap} {tk : Nat} {m' : PySem.Str → Option Value} {led : Led} (F : Fr g L h' m') (N : News g L h' led) (h : ∃ new, post v new ∧ (∀ p ∈ new, p ∈ led)) :
    BackT g L Lc s₀ post v { s₀ with heap := h', toks := tk } := let ⟨new, p, hs⟩ := h; ⟨g, m', new, h', tk, rfl, F, news_sub N hs, p, fun _ _ e _ => e, Heap.UpToSlots.refl _⟩

theorem backC {A : Around} {base g g4 h4 : Heap} {E env : Env} {L Lc : Addr} {s₀ : Shared} {post : Value → Led → Prop} {v : Value} {h' : Heap} {tk : Nat} {m' : PySem.Str → Option Value} {led : Led} (c : Caught A base g (E :: env :: []) h4 g4) (hE : E.frame = some L) (he : env.frame = some Lc) (hL : g.objs.size ≤ L)
    (F : Fr g4 L h' m') (N : News g4 L h' led) (h : ∃ new, post v new ∧ (∀ p ∈ new, p ∈ led)) : BackT g L Lc s₀ post v { s₀ with heap := h', toks := tk } := by
  obtain ⟨new, p, hs⟩ := h
  refine ⟨g4, m', new, h', tk, rfl, F, news_sub N hs, p, fun b o e n => c.keep b o e fun hm => ?_, c.up⟩
  have hb := Heap.lt_size e
  simp only [frs, List.filterMap_cons, hE, he, List.filterMap_nil, List.mem_cons, List.not_mem_nil, or_false] at hm
  rcases hm with rfl | rfl
  · exact absurd hb (Nat.not_lt.mpr hL)
  · exact n rfl

theorem con_introT {w : World} {f : Addr} {k : Nat} {args : List Value} {fz : Led} {post : Value → Led → Prop}
    {name qual : PySem.Str} {params : Arguments} {body body' : List Stmt} {scope scope' : Scope} {dV kV doc pm cdv ct oc : Value} {an od : Option Addr} {osl : Array (Option Value)} {binds : List (PySem.Str × Value)}
    (ho : (KP w.params).lookup f = some ⟨oc, od, .func (fnOf name qual params body scope dV kV doc pm an cdv ct), osl⟩) (hbody : body = body') (hscope : scope = scope') (hcd : codeIn (KP w.params) cdv qual = true)
    (hbind : ∀ s : Shared, (KP w.params).In s.heap → BindsTo s (fnOf name qual params body' scope' dV kV doc pm an cdv ct) ⟨args, []⟩ binds) (hloc : ∀ y ∈ binds, scope'.names.lookup y.1 = some .local)
    (hk0 : 0 < k)
    (h : ∀ (mean : ExcName → Option Value) (mg mb : PySem.Str → Option Value) (dp un : Nat) (gd : Option (List Code)) (env : Env) (base g : Heap) (L Lc : Addr) (s : Shared) (h₁ : Heap),
      dp + 2 * k < recursionLimit → un + 16 * k < cLine → env.scope.kind = .function → env.frame = some Lc → s.heap.objs.size = L →
      (∀ p ∈ fz, g.get? p.1 = some p.2) →
      Fr g L h₁ (fun y => binds.reverse.lookup y) → Below (Arnd none dp un gd env []) base (env :: []) g → (KP w.params).In g → Top VW (looseW VW []) mean mg mb g → OnBase w mean mg mb base →
      wpAny (model PySem.Challenge.rw_no0277_01.row.prog w) ((Arnd none dp un gd env []).deeper (envOf qual scope' L f cdv)) (execs body' (envOf qual scope' L f cdv))
        (fun fl s' => BackT g L Lc s post (match fl with | .ret v => v | _ => .none) s')
        (Out g (envOf qual scope' L f cdv :: env :: []) s fun _ _ => False)
        { s with heap := h₁, toks := s.toks + binds.length })
    (hco : scope'.isCoroutine = false) (hgen : scope'.isGenerator = false) (hk : scope'.kind = .function)
    (hcell : ∀ x ∈ scope'.names, x.2 ≠ .cell) : ConT w f k args fz post := by
  subst hbody; subst hscope
  intro mean mg mb A A₀ base env s h₀ L m Q E S hh hfz hret
  refine nnOf fun nO => ?_
  obtain ⟨B, hfr, hef, hek, F, X, T, dep, un, O⟩ := S <;> (refine nO ?_; clear nO)
  have Xs : (KP w.params).In s.heap := X.keeps F.keep
  refine nnOf fun nO => ?_
  obtain ⟨FG, BG, st, _⟩ := groundX (R := fun _ _ => True) B F News.nil hfr hef hek <;> (refine nO ?_; clear nO)
  refine wpAny_call ?_
  refine codeAny_call_def (fd := fnOf name qual params body scope dV kV doc pm an cdv ct) (body := body) (binds := binds) (by lia) (Xs _ _ ho) rfl (T.nolimit.keeps F.keep) (codeRec_of Xs hcd) rfl (hbind s Xs) hcell hloc (fun h₁ hns hk₁ => ?_) hco hgen hk
  have hA : A = Arnd none A.depth A.units A.guards env [] := by
    refine nnOf fun nO => ?_
    obtain ⟨hd, dp, fr, gd, u⟩ := A <;> (refine nO ?_; clear nO)
    simp only at hfr hh
    subst hfr; subst hh; rfl
  rw [hA] at BG ⊢
  have w1 := h mean mg mb A.depth A.units A.guards env base s.heap s.heap.objs.size L s h₁ (by lia) (by lia) hek hef rfl (fun p hp => (hfz p hp).1)
    ⟨hns, fun b o e => hk₁ b o e, Nat.le_refl _⟩ BG (X.keeps fun b o e => st b o e) (T.keeps fun b o e => st b o e) O
  refine wpAny_mono w1 (fun fl s' hl => ?_) (fun e s' hl => ?_)
  rotate_left
  · refine nnOf fun nO => ?_
    obtain ⟨C, code, a, tr, h', tk, hr, _⟩ := hl <;> (refine nO ?_; clear nO)
    exact hr.elim
  refine nnOf fun nO => ?_
  obtain ⟨g4, m', new, h', tk, rfl, F', N', hp, kb, up⟩ := hl <;> (refine nO ?_; clear nO)
  have hL := F.above
  have keep : ∀ b o, s.heap.get? b = some o → b ≠ L → h'.get? b = some o := fun b o e n => F'.keep b o (kb b o e n)
  have ne : ∀ b o, h₀.get? b = some o → b ≠ L := fun b o e q => absurd (Heap.lt_size e) (Nat.not_lt.mpr (q ▸ hL))
  have k0 : ∀ b o, h₀.get? b = some o → g4.get? b = some o := fun b o e => kb b o (F.keep b o e) (ne b o e)
  have nL := up.ns FG.ns
  have sub : ∀ b, g4.get? b = none → s.heap.get? b = none := fun b e => by
    cases q : s.heap.get? b with
    | none => rfl
    | some o =>
      by_cases hb : b = L
      · subst hb
        refine nnOf fun nO => ?_
        obtain ⟨oL, _, _, hoL, _⟩ := nL <;> (refine nO ?_; clear nO)
        rw [hoL] at e; cases e
      · rw [kb b o q hb] at e; cases e
  have hn0 : ∀ b, g4.get? b = none → h₀.get? b = none := fun b e => by
    cases q : h₀.get? b with
    | none => rfl
    | some o => rw [k0 b o q] at e; cases e
  have gL : ∀ p ∈ new, p.1 ≠ L := fun p hq e => by
    refine nnOf fun nO => ?_
    obtain ⟨oL, _, _, hoL, _⟩ := nL <;> (refine nO ?_; clear nO)
    have := (N' p hq).2.2
    rw [e, hoL] at this; cases this
  refine hret _ new h' tk hp ⟨?_, fun b o e => F'.keep b o (k0 b o e), hL⟩ (fun N0 N p hq => ?_) fun p hq => sub _ (N' p hq).2.2
  · refine nnOf fun nO => ?_
    obtain ⟨oL, a1, a2, hoL, a3⟩ := nL <;> (refine nO ?_; clear nO)
    exact ⟨oL, a1, a2, F'.keep _ _ hoL, a3⟩
  · rcases List.mem_append.mp hq with hq | hq
    · exact ⟨(N' p hq).1, gL p hq, hn0 _ (N' p hq).2.2⟩
    · exact ⟨keep _ _ (N p hq).1 (N p hq).2.1, (N p hq).2⟩

end
section
open PySem PySem.W PyProof.Rows PySem.Calls PySem.Spec Builtin
section
variable {prog : Program} {w : World} {A : Around} {E : Value → Shared → Prop} {s : Shared} {K : Frag}
theorem bexc_kind : builtinKind "BaseException.__getattribute__" = some .slot := by
  have h2 : splitId "BaseException.__getattribute__" = some ("BaseException", "__getattribute__") := by decide +kernel
  simp only [builtinKind, h2]
  decide +kernel
theorem bexc_split : splitId "BaseException.__getattribute__" = some ("BaseException", "__getattribute__") := by decide +kernel
theorem exc_get {e C : Addr} {oe : Obj} {od : Option Obj} {cd : ClassData} {name : PySem.Str} {v : Value} {expr : Bool} {Q : Value → Shared → Prop} (X : K.In s.heap) (I : InstAt s.heap e oe C od) (hc : clsIn K C = some cd)
    (hb : cd.mro.contains (.type "BaseException") = true) (hga : findIn K (.ref C) "__getattribute__" = some (some (.builtin "BaseException.__getattribute__"))) (hgh : findIn K (.ref C) "__getattr__" = some none)
    (hf : findObj K C od name = some (.value v)) (hh : handedIn v = true) (h : Q v { s with toks := s.toks + 1 }) : wpAny (model prog w) A (getAttr (.ref e) name expr) Q E s := by
  obtain ⟨hp, g, d, t, os⟩ := s
  have L0 := I.type (M := model prog w)
  have L1 := looks_findIn (M := model prog w) X hga
  have L2 := looks_findIn (M := model prog w) X hgh
  have L3 := looks_find (M := model prog w) X I hf
  have ne : cd.mro.isEmpty = false := by cases q : cd.mro with | nil => rw [q] at hb; cases hb | cons _ _ => rfl
  have sub : Looks (model prog w) hp (isInstance (.ref e) (.type "BaseException")) true := I.type.andThen (looks_mroIn X (by unfold mroIn; rw [hc, Option.bind_some, if_neg (by rw [ne]; decide), hb]))
  unfold getAttr getAttrBy
  refine wpAny_bind (wpAny_mkText (wpAny_holding (wpAny_bind (L0.at (wpAny_bind (L1.at ?_))))))
  have hcond : (onTheHeap (Value.ref C) && (Value.builtin "BaseException.__getattribute__" == Value.builtin "object.__getattribute__")) = false := by
    rw [show (Value.builtin "BaseException.__getattribute__" == Value.builtin "object.__getattribute__") = false from by decide +kernel, Bool.and_false]
  show wpAny _ _ (if (onTheHeap (Value.ref C) && (Value.builtin "BaseException.__getattribute__" == Value.builtin "object.__getattribute__")) = true then _ else _) _ _ _
  rw [hcond]
  simp only [Bool.false_eq_true, if_false]
  unfold getAttrByItsOwn hookBefore
  have ho : onTheHeap (Value.ref C) = true := rfl
  rw [ho]
  simp only [if_true]
  refine wpAny_bind (L2.at ?_)
  refine wpAny_bind (wpAny_attempt (wpAny_holding ?_))
  unfold callGetattribute
  have hx0 : (expr && onTheHeap (Value.builtin "BaseException.__getattribute__")) = false := by cases expr <;> rfl
  rw [hx0]
  simp only [Bool.false_eq_true, if_false]
  unfold boundAndCalled
  rw [PySem.F.excAttr_ValueError.ga.bind]
  refine wpAny_bind (wpAny_pure ?_)
  show wpAny _ _ (call (.builtin "BaseException.__getattribute__") [.ref e, .str name t]) _ _ _
  refine wpAny_call ?_
  refine codeAny_call_builtin PySem.F.excAttr_ValueError.ga.plain PySem.F.entry_bexc_ga ?_
  refine @check_slot (model prog w) _ _ ⟨hp, g, d, t + 1, os⟩ "BaseException.__getattribute__" "BaseException" "__getattribute__" (.ref e) [.str name t] [] _ bexc_kind bexc_split sub (PySem.F.args_bexc_ga (.ref e) (.str name t)) ?_
  refine wpAny_bind (wpAny_pure (wpAny_bind (wpAny_pure (wpAny_bind (L0.at (wpAny_bind (L3.at ?_)))))))
  refine wpAny_pure ?_
  show wpAny _ _ (handedOut v) _ _ _
  rw [handedOut_of hh]
  exact wpAny_pure h
noncomputable def excChk (K : Frag) (C : Addr) : Bool := match clsIn K C with | some cd => cd.mro.contains (.type "BaseException") && cd.hasDict | none => false
theorem exc_field {h₀ : Heap} {L e d C : Addr} {m : PySem.Str → Option Value} {led : Led} {oe : Obj} {vs : Array Value} {es : List DictEntry} {n : Nat} {name : PySem.Str} {v : Value} {expr : Bool} {Q : Value → Shared → Prop} (X : K.In h₀) (F : Fr h₀ L s.heap m) (N : News h₀ L s.heap led) (he : (e, oe) ∈ led) (hd : (d, dictOf es n) ∈ led)
    (hcls : oe.cls = .ref C) (hdict : oe.dict = some d) (hdata : oe.data = .fields vs) (hck : excChk K C = true) (hga : findIn K (.ref C) "__getattribute__" = some (some (.builtin "BaseException.__getattribute__"))) (hgh : findIn K (.ref C) "__getattr__" = some none) (hn : findIn K (.ref C) name = some none)
    (hl : getL name es = some (some v)) (hh : handedIn v = true) (h : Q v { s with toks := s.toks + 1 }) : wpAny (model prog w) A (getAttr (.ref e) name expr) Q E s := by
  unfold excChk at hck
  cases hc : clsIn K C with
  | none => rw [hc] at hck; cases hck
  | some cd =>
    rw [hc] at hck
    simp only [Bool.and_eq_true] at hck
    refine exc_get (X.keeps F.keep) (od := some (dictOf es n)) ⟨(N _ he).1, hcls, by unfold notCls; rw [hdata], by rw [hdict]; exact (N _ hd).1⟩ hc hck.1 hga hgh ?_ hh h
    unfold findObj
    rw [hc, Option.bind_some, hn, Option.bind_some, Option.bind_some, Option.bind_some]
    dsimp only
    unfold PySem.W.ownOf
    rw [if_pos hck.2]
    show (lookIn name (dictOf es n)).bind _ = _
    rw [lookIn_dict, hl]
    rfl
end

end
section
open PySem PySem.W PyProof.Rows PySem.Calls PySem.Spec
noncomputable abbrev Arn0 (dp un : Nat) (gd : Option (List Code)) : Around := { handled := none, depth := dp, frames := some [], guards := gd, units := un }
section
variable {prog : Program} {w : World} {A : Around} {E : Value → Shared → Prop} {s : Shared} {g : Heap} {L d : Addr} {m : PySem.Str → Option Value} {led : Led} {vs : List Value} {n : Nat} {x : Value} {Q : Value → Shared → Prop}
theorem useT {w : World} {k : Nat} {f : Addr} {args : List Value} {fz : Led} {post : Value → Led → Prop} {mean : ExcName → Option Value} {mg mb : PySem.Str → Option Value} {A A₀ : Around} {base : Heap} {env : Env} {s : Shared} {h₀ : Heap} {L : Addr} {m : PySem.Str → Option Value} {N0 : Led} {Q E : Value → Shared → Prop}
    (C : ConT w f k args fz post) (S : Site w mean mg mb k A A₀ base env [] s h₀ L m) (hh : A.handled = none) (N : News h₀ L s.heap N0) (hz : ∀ p ∈ fz, p ∈ N0)
    (ret : ∀ v new h' tk, post v new → Fr h₀ L h' m → News h₀ L h' (new ++ N0) → Q v { s with heap := h', toks := tk }) :
    wpAny (model PySem.Challenge.rw_no0277_01.row.prog w) A (call (.ref f) args) Q E s :=
  C mean mg mb A A₀ base env s h₀ L m Q E S hh (fun p hp => ⟨(N p (hz p hp)).1, (N p (hz p hp)).2.1⟩) fun v new h' tk hp F' hN _ => ret v new h' tk hp F' (hN N0 N)
end

end
section
theorem swapM {A B C : Led} (p : Addr × Obj) (q : p ∈ A ++ B) : p ∈ B ++ (A ++ C) := (List.mem_append.mp q).elim (fun q => List.mem_append_right _ (List.mem_append_left _ q)) (List.mem_append_left _)
theorem mem_mid {A B C : Led} {p : Addr × Obj} (h : p ∈ A ++ (B ++ C)) : p ∈ A ++ C ∨ p ∈ B := (List.mem_append.mp h).elim (fun h => .inl (List.mem_append_left _ h)) fun h => (List.mem_append.mp h).elim .inr fun h => .inl (List.mem_append_right _ h)
noncomputable def valOf (fl : Flow) : Value := match fl with | .ret v => v | _ => .none
noncomputable def RetP (post : Value → Led → Prop) (fl : Flow) (σ : St) : Prop := ∃ new, post (valOf fl) new ∧ ∀ p ∈ new, p ∈ σ.led
structure Top1 (c : Cx) (Lc : Addr) : Prop where
  out : ∃ env0, c.outer = [env0] ∧ env0.frame = some Lc
  size : c.g.objs.size ≤ c.env.locals
noncomputable abbrev BkT (c : Cx) (Lc : Addr) (post : Value → Led → Prop) (fl : Flow) (s' : Shared) : Prop := BackT c.g c.env.locals Lc c.s post (valOf fl) s'
theorem con_vcT {w : World} {f : Addr} {kk : Nat} {args : List Value} {fz : Led} {post : Value → Led → Prop}
    {name qual : PySem.Str} {params : Arguments} {body body' : List Stmt} {scope scope' : Scope} {dV kV doc pm cdv ct oc : Value} {an od : Option Addr} {osl : Array (Option Value)} (T : Fn) {binds : List (PySem.Str × Value)}
    (h : ∀ c Lc h0 tk0, CxG w T kk (fun _ _ => False) c → Top1 c Lc → Hd T c ⟨psOf binds T.nm, [], fz⟩ h0 → wpAny (MD w) c.A (execs body' c.env) (BkT c Lc post) c.E (c.sh h0 tk0))
    (ho : (KP w.params).lookup f = some ⟨oc, od, .func (fnOf name qual params body scope dV kV doc pm an cdv ct), osl⟩ := by k_is) (hbody : body = body' := by conv => lhs; whnf) (hscope : scope = scope' := by conv => lhs; whnf) (hcd : codeIn (KP w.params) cdv qual = true := by k_is)
    (hbind : ∀ s : Shared, (KP w.params).In s.heap → BindsTo s (fnOf name qual params body' scope' dV kV doc pm an cdv ct) ⟨args, []⟩ binds := by exact fun _ _ => BindsTo.of_eq rfl)
    (hT : fnOK scope' T binds = true := by exact rfl) (hgl : T.gl.all (glB (KP w.params)) = true := by exact rfl) (hfn : (T.fn.all fun a => keepIn (KP w.params) (.ref a)) = true := by exact rfl) :
    ConT w f (kk + 1) args fz post := by
  obtain ⟨h1, h2, h3, h4, h5, h6, h7⟩ := fnOK_is hT
  subst hbody
  subst hscope
  have hgl := fun p hp => glB_ok (List.all_eq_true.mp hgl p hp)
  have hfn := List.all_eq_true.mp hfn
  refine con_introT ho rfl rfl hcd hbind (fun y hy => (h6 _ (binds_mem h5 y hy)).1) (Nat.succ_pos _) (fun mean mg mb dp un gd env base g L Lc s h₁ hdep hun hek hef hL hfz F B X T0 O => ?_) h2 h3 h1 h4
  have G : CxG w T kk (fun _ _ => False) { A := (Arnd none dp un gd env []).deeper (envOf qual scope L f cdv), env := envOf qual scope L f cdv, outer := [env], g := g, s := s, E := Out g (envOf qual scope L f cdv :: env :: []) s fun _ _ => False, kp := [] } :=
    ⟨⟨qual, scope, L, f, cdv, rfl, h1, fun x hx => (h6 x hx).1, fun p hp => (h7 p hp).1⟩, ⟨fun x hx => (h6 x hx).2, fun p hp => (h7 p hp).2⟩, hgl, hfn, X, ⟨mean, mg, mb, _, base, B, T0, O⟩, rfl, rfl,
      dep_ok (n := 1) hdep rfl (by lia), uni_ok (n := 3) hun rfl (by lia), fun C code e tr h tk r x => out r x⟩
  refine h _ Lc h₁ (s.toks + binds.length) G ⟨⟨env, rfl, hef⟩, F.above⟩ ⟨?_, (fun _ h => nomatch h), (fun _ h => nomatch h), hfz⟩
  have e : (fun y => binds.reverse.lookup y) = lk T.nm (psOf binds T.nm) := funext fun y => lk_binds h5
  rw [← e]; exact F
section
variable {w : World} {T : Fn} {c : Cx} {kk n : Nat} {rai : Addr → Option Int → Prop} {σ : St} {k : KV} {kf : Flow → St → Prop}
theorem code_caught (G : CxG w T kk rai c) {Lc : Addr} (P : Top1 c Lc) {x nm : PySem.Str} (hx : (x, .ref 82) ∈ T.gl) (hnm : nm ∈ T.nm) {post : Value → Led → Prop} {code : Int} (hp : ∀ t, post (.int code t) []) {h1 h' : Heap} {tk : Nat} {e : Addr} {m : PySem.Str → Option Value} {xp p1 p2 p3 pos : Pos}
    (F : Fr c.g c.env.locals h1 m) (xf : Fly (hideAll c.g (frs (c.env :: c.outer))) c.g (c.env :: c.outer) 82 (some code) e true h') (y : h1.UpToSlots h') {Q : Flow → Shared → Prop} (hQ : ∀ v s', BkT c Lc post (.ret v) s' → Q (.ret v) s') :
    wpAny (MD w) c.A (noteFrame (.ref e) c.env) (fun _ s₂ => wpAny (MD w) c.A (setFlight (.ref e) none) (fun _ s₃ => wpAny (MD w) c.A (handleBy (.ref e) c.env [.ExceptHandler (some (.Name x xp)) (some nm) [.Return (some (.Attribute (.Name nm p1) "code" p2)) p3] pos]) Q c.E s₃) c.E s₂) c.E (c.sh h' tk) := by
  refine nnOf fun nO => ?_
  obtain ⟨mean, mg, mb, A₀, base, B, Tp, O⟩ := G.at_ <;> (refine nO ?_; clear nO)
  refine catch_as G.fr G.ef B F O (exc82 w) xf y (fun g3 h3 oe d vs es n Q E H3 hq => glob_on G H3.F H3.X H3.T hx hq) fun g4 h4 oe d vs es n H4 => ?_
  obtain ⟨tc, hcode⟩ := H4.code code rfl
  refine nnOf fun nO => ?_
  obtain ⟨⟨env0, ho, hLc⟩, hL⟩ := P <;> (refine nO ?_; clear nO)
  have ef := G.ef
  have hc := H4.c
  rw [ho] at hc
  refine nnOf fun nO => ?_
  obtain ⟨q, sc, L, fa, cd, e1, i1, i2, i3⟩ := G.env <;> (refine nO ?_; clear nO)
  have F4 := H4.F
  have N4 := H4.N
  rw [e1] at F4 N4 hc ef hL
  have hQ : ∀ v s', BackT c.g c.env.locals Lc c.s post v s' → Q (.ret v) s' := hQ
  rw [e1] at hQ
  rw [e1]
  refine storeX_L (cl := []) F4 N4 (fun h5 F5 N5 => ?_) i1 (i2 nm hnm)
  refine wpAny_execs_cons (wpAny_Return_some ?_)
  refine Attribute_any_ (nameX_L (cl := []) F5 (if_pos rfl) ?_ i1 (i2 nm hnm) (G.dbg.1 nm hnm)) rfl
  refine exc_field (C := 82) H4.X F5 N5 (.head _) (.tail _ (.head _)) H4.cls H4.dict H4.data (by kernel_rfl) (by k_is) (by k_is) (by k_is) hcode rfl ?_
  refine name_goes F5 N5 (fun h6 m6 F6 N6 => ?_) i1 (i2 nm hnm)
  exact hQ _ _ (backC hc rfl hLc hL F6 N6 ⟨[], hp tc, List.forall_mem_nil _⟩)
noncomputable def Codes (post : Value → Led → Prop) (c : Cx) : Prop := ∀ code e h1 h' tk' m, (∀ t, post (.int code t) []) → Fr c.g c.env.locals h1 m → Fly (hideAll c.g (frs (c.env :: c.outer))) c.g (c.env :: c.outer) 82 (some code) e true h' → h1.UpToSlots h' → c.E (.ref e) (c.sh h' tk')
theorem ret_back {post : Value → Led → Prop} {Lc : Addr} {fl : Flow} {h0 : Heap} {tk0 : Nat} (H : Hd T c σ h0) (q : RetP post fl σ) : BkT c Lc post fl (c.sh h0 tk0) :=
  backT H.F (fun p hp => H.N p (List.mem_append_left _ hp)) q
theorem try_code (G : CxG w T kk rai c) {Lc : Addr} (P : Top1 c Lc) {h0 : Heap} {tk0 : Nat} (H : Hd T c σ h0) {x nm : PySem.Str} (hx : (x, .ref 82) ∈ T.gl) (hnm : nm ∈ T.nm) {post : Value → Led → Prop} {tb rest : List Stmt} {xp p1 p2 p3 pos pos2 : Pos}
    (h : ∀ c', CxG w T kk (fun _ _ => False) c' → Codes post c' → exs w T c' n tb σ (nxt (fun σ' => exs w T c n rest σ' (RetP post)) (RetP post))) :
    wpAny (MD w) c.A (execs (.Try tb [.ExceptHandler (some (.Name x xp)) (some nm) [.Return (some (.Attribute (.Name nm p1) "code" p2)) p3] pos] [] [] pos2 :: rest) c.env) (BkT c Lc post) c.E (c.sh h0 tk0) := by
  refine wpAny_execs_cons (wpAny_Try_except (try_run (n := n) G H (fun c' e G' => h c' G' ?_) fun fl σ' h' tk' H' q => ?_))
  · subst e
    intro code e h1 h' tk' m hp F xf y
    exact code_caught G P hx hnm hp F xf y fun _ _ q => q
  · cases fl with
    | next => exact wpAny_execs_nil ((exs_ok G q).run H' fun _ _ _ _ H q => ret_back H q)
    | brk => exact ret_back H' q
    | cont => exact ret_back H' q
    | ret v => exact ret_back H' q
end

end
section
theorem news_swap {h₀ h : Heap} {L : Addr} (A B C : Led) (N : News h₀ L h (A ++ (B ++ C))) : News h₀ L h (B ++ (A ++ C)) := fun p hp => by
  rcases List.mem_append.mp hp with h1 | h1
  · exact N p (List.mem_append_right _ (List.mem_append_left _ h1))
  · rcases List.mem_append.mp h1 with h1 | h1
    · exact N p (List.mem_append_left _ h1)
    · exact N p (List.mem_append_right _ (List.mem_append_right _ h1))
theorem fz_one {g : Heap} {a : Addr × Obj} {r : Led} (h : ∀ q ∈ a :: r, g.get? q.1 = some q.2) : ∀ q ∈ [a], g.get? q.1 = some q.2 := fun q hq => by
  rw [List.mem_singleton] at hq
  subst hq; exact h _ (.head _)
structure LWay (recs : List Value) (a a2 : Nat) (rec rec2 : List Nat) (c c' : Nat) (kind : Int) (t : List Nat) : Prop where
  intro ::
  ex : ∃ y text rest c2, t = y :: text ∧ Gap recs a a2 rec rec2 c c2 y (text ++ rest) ∧ (kind = 0 ∨ kind = 4 ∨ kind = 1 ∨ kind = 2) ∧ (y :: text).length ≤ 90 ∧ (∀ z ∈ y :: text, ¬ sepc z) ∧
    (rest.take 1 = [] ∨ ∃ y, rest.take 1 = [y] ∧ sepc y) ∧ y ≠ 39 ∧ y ≠ 40 ∧ (∀ z ∈ rec2, z ≠ 42) ∧ c' = c2 + (y :: text).length
theorem item_way_con (w : World) (rd dr src ds lr lim dl : Addr) (recs : List Value) (nn a a2 : Nat) (t0 t1 td : Tok) (rec rec2 : List Nat) (c c' : Nat) (held : Value) (beh : Bool) (t tl ul : Nat → Tok) (ta tb tc : Tok) (v2 v3 : Value) (kind : Int) (T : List Nat) (W : LWay recs a a2 rec rec2 c c' kind T) (hv2 : IsI v2 kind) (hv3 : IsI v3 0)
    (hr : rec.length ≤ 1000) (hr2 : rec2.length ≤ 1000) (hn : recs.length ≤ 1000) (hne : rd ≠ dr ∧ src ≠ ds ∧ rd ≠ src ∧ rd ≠ ds ∧ dr ≠ src ∧ dr ≠ ds) :
    ConH none w 352 13 [.ref rd, v2, v3, .ref lim] ((lr, listOf recs.toArray nn) :: limL w.params lim dl tl ul) (srcL w.params src ds lr a t0 t1 td ++ lrdL w.params rd dr src rec c 0 held beh false t ta tb tc)
      (fun v new => ∃ x new', readKind kind T = .ok x ∧ ValIs v new' x ∧ ∃ held' te tf tg th, new = new' ++ (srcL w.params src ds lr a2 t0 t1 te ++ lrdL w.params rd dr src rec2 c' 0 held' true false t tf tg th))
      (fun C code => C = 82 ∧ ∃ c, code = some c ∧ readKind kind T = .error c) := by
  refine nnOf fun nO => ?_
  obtain ⟨y, text, rest, c2, rfl, G, hk, hl, hs, hx, h1, h2, hst, rfl⟩ := W <;> (refine nO ?_; clear nO)
  exact read_item_con w rd dr src ds lr lim dl recs nn a a2 t0 t1 td rec rec2 c c2 y text rest held beh t tl ul ta tb tc v2 v3 kind hv2 hv3 hk hl hr hr2 G hn hne hs hx h1 h2 hst
theorem read_list_con (w : World) (src ds lr wl lim dl : Addr) (recs : List Value) (mm kk : Nat) (ws : Led) (tl ul : Nat → Tok) (t0 t1 ta tr : Tok) (fs : List (Int × List Nat)) (aS cS : Nat → Nat) (rS : Nat → List Nat)
    (hr : recs[0]? = some (.str (S (rS 0)) tr)) (hm : recs.length ≤ 1000) (hsd : src ≠ ds) (h0 : aS 0 = 1 ∧ cS 0 = 0) (hrl : ∀ j, (rS j).length ≤ 1000) (hfn : fs.length ≤ 900) (hw : ws.length = fs.length)
    (hww : ∀ (j : Nat) k t, fs[j]? = some (k, t) → ∃ wa v1 v2, ws[j]? = some (wa, tupO [v1, v2]) ∧ IsI v1 k ∧ IsI v2 0) (hg : ∀ (j : Nat) k t, fs[j]? = some (k, t) → LWay recs (aS j) (aS (j + 1)) (rS j) (rS (j + 1)) (cS j) (cS (j + 1)) k t) :
    ConH none w 357 16 [.ref src, .ref wl, .ref lim] ((lr, listOf recs.toArray mm) :: (wl, listOf (refs ws).toArray kk) :: (limL w.params lim dl tl ul ++ ws)) (srcL w.params src ds lr 0 t0 t1 ta)
      (fun v new => ∃ vl vs n ex xs, v = .ref vl ∧ new = (vl, listOf vs.toArray n) :: ex ∧ Vals vs ex xs ∧ readAll fs = .ok xs)
      (fun C code => C = 82 ∧ ∃ c, code = some c ∧ readAll fs = .error c) := by
  obtain ⟨h01, h02⟩ := h0
  have C1 := lreader_con w src ds lr mm recs (rS 0) t0 t1 ta tr hr hm hsd
  refine' con_introC (binds := [("source", .ref src), ("kinds", .ref wl), ("limits", .ref lim)]) ?ho ?hbody ?hscope ?hcd ?hb ?hl ?hnd ?hk0 ?hmain ?c2 ?c3 ?c4
  k_dflt (
    (case ho => k_is)
    (case hbody => conv => lhs; whnf)
    (case hscope => conv => lhs; whnf)
    (case hcd => k_is)
    (case hb => intro s hX; first | exact BindsTo.of_eq rfl | exact binds_K hX rfl (by k_is) rfl rfl rfl)
    (case hl => rfl)
    (case hnd => decide +kernel)
    (case hk0 => decide)
    (case c2 => exact rfl)
    (case c3 => exact rfl)
    (case c4 => exact rfl)
    intro mean mg mb dp un gd env outer base g L s h₁ tk cells hdep hun hek hL hfz hlt F N Y B X T O)
  k_cells Y
  rename_i oR oL d1 d2
  have hz := hfz
  have hz1 := fz_one hz
  have s1 : src < L := hlt _ (.head _)
  have s2 : ds < L := hlt _ (.tail _ (.head _))
  have c1 : L + 1 ≠ src := fun e => absurd s1 (by rw [← e]; exact Nat.not_lt.mpr (Nat.le_succ L))
  have c2 : L + 1 + 1 ≠ src := fun e => absurd s1 (by rw [← e]; exact Nat.not_lt.mpr (Nat.le_add_right L 2))
  have c3 : L + 1 ≠ ds := fun e => absurd s2 (by rw [← e]; exact Nat.not_lt.mpr (Nat.le_succ L))
  have c4 : L + 1 + 1 ≠ ds := fun e => absurd s2 (by rw [← e]; exact Nat.not_lt.mpr (Nat.le_add_right L 2))
  have N2 := news_swap [_, _] (srcL w.params src ds lr 0 t0 t1 ta) [] (by rw [List.append_nil]; exact N)
  (repeat' (first | ((try dsimp only); ((fail_if_success (with_reducible show wpAny _ _ (call (Value.ref _) _) _ _ _)); (fail_if_success (with_reducible show Back _ _ _ _ _ _))); walk1) | fail "no step"))
  refine con_by C1 ?_
  (
    (first | refine' usesPI ?S3 ?hh3 ?N3 ?hs3 ?hz3 ?hr3 ?ret3 ?rais3 | refine' uses ?S3 ?hh3 ?N3 ?hs3 ?hz3 ?hr3 ?ret3 ?rais3);
    (case S3 => (refine' Site.mk ?sB4 rfl rfl rfl ?sF4 ?sX4 ?sT4 ?sd4 ?su4 ?sO4; (case sd4 => (first | exact dep_ok (n := 1) (by assumption) rfl (by decide) | exact uni_ok (n := 3) (by assumption) rfl (by decide) | exact dep_ok (n := 2) (by assumption) rfl (by decide) | exact uni_ok (n := 4) (by assumption) rfl (by decide) | (simp only [Around.deeper, Around.mark, depth_under_make, depth_under_kw, depth_in1, depth_deeper] at *; omega))); (case su4 => (first | exact dep_ok (n := 1) (by assumption) rfl (by decide) | exact uni_ok (n := 3) (by assumption) rfl (by decide) | exact dep_ok (n := 2) (by assumption) rfl (by decide) | exact uni_ok (n := 4) (by assumption) rfl (by decide) | (simp only [Around.deeper, Around.mark, depth_under_make, depth_under_kw, depth_in1, depth_deeper] at *; omega))); (case sB4 => k_asm); (case sF4 => k_asm); (case sX4 => k_asm); (case sT4 => k_asm); (case sO4 => k_asm)));
    (case hh3 => rfl);
    (case N3 => k_asm);
    (case hs3 => rfl);
    (case hz3 => first | exact List.forall_mem_nil _ | assumption);
    (case' hr3 => first | exact List.forall_mem_nil _ | exact fun _ _ h => List.not_mem_nil h | ((repeat' (first | exact List.forall_mem_nil _ | refine List.forall_mem_cons.mpr ⟨?_, ?_⟩)); all_goals (simp only [ads, srcL, rdrL, ctlL, modL, limL, lrdL, List.cons_append, List.nil_append, List.map_cons, List.map_nil, List.mem_cons, List.not_mem_nil, or_false, not_or]; (repeat' (refine And.intro ?_ ?_)); all_goals first | assumption | exact Ne.symm (by assumption) | k_ne)) | skip);
    (case' rais3 => first | exact fun _ _ _ _ _ _ _ r => r.elim | skip))
  intro v new h' tk F' N' hX36 hf
  refine nnOf fun nO => ?_
  obtain ⟨rd, dr, tb, t, te, tf, tg, rfl, rfl, hlt⟩ := hX36 <;> (refine nO ?_; clear nO)
  simp only [List.cons_append, List.nil_append, List.append_nil] at N'
  have e1 : rd ≠ L + 1 + 1 := ne_data N' (by k_mem) (by k_mem) (by rw [d1]; simp [instObj])
  have e2 : dr ≠ L + 1 + 1 := ne_data N' (by k_mem) (by k_mem) (by rw [d1]; simp)
  have e5 : rd ≠ L + 1 := ne_data N' (by k_mem) (by k_mem) (by rw [d2]; simp [instObj])
  have e6 : dr ≠ L + 1 := ne_data N' (by k_mem) (by k_mem) (by rw [d2]; simp)
  have e3 := Ne.symm c2
  have e4 := Ne.symm c4
  dsimp only
  (repeat' (first | ((try dsimp only); (fail_if_success (with_reducible show wpAny _ _ (eval (PySem.Expr.ListComp _ _ _ _) _) _ _ _)); ((fail_if_success (with_reducible show wpAny _ _ (call (Value.ref _) _) _ _ _)); (fail_if_success (with_reducible show Back _ _ _ _ _ _))); walk1) | fail "no step"))
  rename_i h5 oR5 F5 N5 d5
  have hwl := list_at (fz1 (fzT hz))
  have hws : ∀ q ∈ ws, _ := fun q hq => hz q (.tail _ (.tail _ (List.mem_append_right _ hq)))
  have hfz3 : ∀ q ∈ (lr, listOf recs.toArray mm) :: limL w.params lim dl tl ul, _ := fun q hq => hz q (by
    simp only [List.mem_cons, List.mem_append] at hq ⊢
    rcases hq with h | h
    · exact .inl h
    · exact .inr (.inr (.inl h)))
  have hne6 : rd ≠ dr ∧ src ≠ ds ∧ rd ≠ src ∧ rd ≠ ds ∧ dr ≠ src ∧ dr ≠ ds := ⟨Nat.ne_of_gt hlt, hsd, ne_sig N5 (.tail _ (.tail _ (.head _))) (.head _) (by simp [sig, instObj]), ne_sig N5 (.tail _ (.tail _ (.head _))) (.tail _ (.head _)) (by simp [sig, instObj]), ne_sig N5 (.tail _ (.tail _ (.tail _ (.head _)))) (.head _) (by simp [sig, instObj]), ne_sig N5 (.tail _ (.tail _ (.tail _ (.head _)))) (.tail _ (.head _)) (by simp [sig, instObj])⟩
  have N6 := news_sub (l' := (srcL w.params src ds lr (aS 0) t0 t1 tb ++ lrdL w.params rd dr src (rS 0) (cS 0) 0 .none false false t te tf tg) ++ ([(L + 1 + 1, oR5), (L + 1, oL)] ++ ([] : Led))) N5 (fun q hq => by
    rw [h01, h02] at hq
    simpa using hq)
  clear N5 hf
  refine comp_rule (cl := [("reader", L + 1 + 1), ("limits", L + 1)]) (l := wl) (vs := refs ws) rfl rfl (by decide) rfl (by decide) (fun _ => rfl) (fun Q' q => wpAny_Name (wpAny_loadName_local rfl rfl F5.ns rfl q) rfl) hwl (fun v hv => by obtain ⟨p, _, rfl⟩ := List.mem_map.mp hv; exact ⟨_, rfl⟩) (by simp [refs]; lia) F5 N6
    (fun j led ys => ∃ beh held tb te tf tg ex xs, led = (srcL w.params src ds lr (aS j) t0 t1 tb ++ lrdL w.params rd dr src (rS j) (cS j) 0 held beh false t te tf tg) ++ ([(L + 1 + 1, oR5), (L + 1, oL)] ++ ex) ∧ Vals ys ex xs ∧ readAll (fs.take j) = .ok xs)
    ⟨false, .none, tb, te, tf, tg, [], [], rfl, Vals.nil, rfl⟩ ?_ ?_
  · intro j v led ys n h tk C D I oI oC hv hX37 hyj hne hDC hIC hID F N hX38
    refine nnOf fun nO => ?_
    obtain ⟨beh, held, tb, te, tf, tg, ex, xs, rfl, hV, hx⟩ := hX37 <;> obtain ⟨mC, nC⟩ := hX38 <;> (refine nO ?_; clear nO)
    have hlt : j < fs.length := by have := (List.getElem?_eq_some_iff.mp hv).1; simpa [refs, hw] using this
    obtain ⟨⟨k, T⟩, hj⟩ : ∃ p, fs[j]? = some p := ⟨_, List.getElem?_eq_getElem hlt⟩
    refine nnOf fun nO => ?_
    obtain ⟨wa, v1, v2, hwj, hv1, hv2⟩ := hww j k T hj <;> (refine nO ?_; clear nO)
    have hv3 : v = .ref wa := by simp [refs, hwj] at hv; exact hv.symm
    subst hv3
    have hwm := tup_at (F.keep _ _ (hws _ (List.mem_of_getElem? hwj)))
    have CT := fun v2' v3' h2 h3 => item_way_con w rd dr src ds lr lim dl recs mm (aS j) (aS (j + 1)) t0 t1 tb (rS j) (rS (j + 1)) (cS j) (cS (j + 1)) held beh t tl ul te tf tg v2' v3' k T (hg j k T hj) h2 h3 (hrl j) (hrl (j + 1)) hm hne6
    refine kcp_assign rfl hwm rfl rfl rfl nC fun h7 tk7 nC7 k7 => ?_
    have gC := (N (C, oC) (by simp)).2
    have F7 := fr_keep F (Ne.symm gC.1) gC.2 k7
    refine nnOf fun nO => ?_
    obtain ⟨oC7, es7, ep7, hoC7, r7⟩ := id nC7 <;> (refine nO ?_; clear nO)
    have dL : ∀ p ∈ (srcL w.params src ds lr (aS j) t0 t1 tb ++ lrdL w.params rd dr src (rS j) (cS j) 0 held beh false t te tf tg) ++ ([(L + 1 + 1, oR5), (L + 1, oL)] ++ ex) ++ [(I, oI), (D, listOf ys.toArray n)], p.1 ≠ C := fun p hp => by
      rcases List.mem_append.mp hp with hp | hp
      · exact (hne p hp).2.2
      · simp only [List.mem_cons, List.not_mem_nil, or_false] at hp
        rcases hp with rfl | rfl
        · exact hIC
        · exact hDC
    have N7 : News g L h7 ((srcL w.params src ds lr (aS j) t0 t1 tb ++ lrdL w.params rd dr src (rS j) (cS j) 0 held beh false t te tf tg) ++ ([(L + 1 + 1, oR5), (L + 1, oL)] ++ (ex ++ [(I, oI), (D, listOf ys.toArray n), (C, oC7)]))) := fun p hp => by
      have q : p ∈ (srcL w.params src ds lr (aS j) t0 t1 tb ++ lrdL w.params rd dr src (rS j) (cS j) 0 held beh false t te tf tg) ++ ([(L + 1 + 1, oR5), (L + 1, oL)] ++ ex) ++ [(I, oI), (D, listOf ys.toArray n)] ∨ p = (C, oC7) := by
        simp only [List.mem_append, List.mem_cons, List.not_mem_nil, or_false] at hp ⊢
        rcases hp with h | h | h | h | h | h
        · exact .inl (.inl (.inl h))
        · exact .inl (.inl (.inr (.inl h)))
        · exact .inl (.inl (.inr (.inr h)))
        · exact .inl (.inr (.inl h))
        · exact .inl (.inr (.inr h))
        · exact .inr h
      rcases q with q | rfl
      · have q2 := N p (by
          simp only [List.mem_append, List.mem_cons, List.not_mem_nil, or_false] at q ⊢
          rcases q with h | h | h
          · exact .inl h
          · exact .inr (.inl h)
          · exact .inr (.inr (.inl h)))
        exact ⟨k7 _ _ (dL p q) q2.1, q2.2⟩
      · exact ⟨hoC7, gC⟩
    clear dL N F
    (repeat' (first | ((try dsimp only); ((fail_if_success (with_reducible show wpAny _ _ (call (Value.ref _) _) _ _ _)); (fail_if_success (with_reducible show Back _ _ _ _ _ _))); walk1) | fail "no step"))
    refine wpAny_Name (wpAny_loadName_local rfl rfl nC7 (by rfl) ?_) rfl
    (repeat' (first | ((try dsimp only); ((fail_if_success (with_reducible show wpAny _ _ (call (Value.ref _) _) _ _ _)); (fail_if_success (with_reducible show Back _ _ _ _ _ _))); walk1) | fail "no step"))
    refine wpAny_Name (wpAny_loadName_local rfl rfl nC7 (by rfl) ?_) rfl
    (repeat' (first | ((try dsimp only); ((fail_if_success (with_reducible show wpAny _ _ (call (Value.ref _) _) _ _ _)); (fail_if_success (with_reducible show Back _ _ _ _ _ _))); walk1) | fail "no step"))
    refine con_by (CT _ _ hv1 hv2) ?_
    refine' usesC (oC := oC7) (N0 := _) ?S ?hh ?N ?hs ?hz ?hr ?hC ?nC ?ret ?rais
    case S => (refine' Site.mk ?sB5 rfl rfl rfl ?sF5 ?sX5 ?sT5 ?sd5 ?su5 ?sO5; (case sd5 => (first | exact dep_ok (n := 1) (by assumption) rfl (by decide) | exact uni_ok (n := 3) (by assumption) rfl (by decide) | exact dep_ok (n := 2) (by assumption) rfl (by decide) | exact uni_ok (n := 4) (by assumption) rfl (by decide) | (simp only [Around.deeper, Around.mark, depth_under_make, depth_under_kw, depth_in1, depth_deeper] at *; omega))); (case su5 => (first | exact dep_ok (n := 1) (by assumption) rfl (by decide) | exact uni_ok (n := 3) (by assumption) rfl (by decide) | exact dep_ok (n := 2) (by assumption) rfl (by decide) | exact uni_ok (n := 4) (by assumption) rfl (by decide) | (simp only [Around.deeper, Around.mark, depth_under_make, depth_under_kw, depth_in1, depth_deeper] at *; omega))); (case sB5 => k_asm); (case sF5 => k_asm); (case sX5 => k_asm); (case sT5 => k_asm); (case sO5 => k_asm))
    case hh => rfl
    case N => exact N7
    case hs => rfl
    case nC => exact nC7
    case hC => exact List.mem_append_right _ (List.mem_append_right _ (by simp))
    case hz => exact fun p hp => .inl (hfz3 p hp)
    case rais =>
      intro C code e h' tk x hX39
      refine nnOf fun nO => ?_
      obtain ⟨rfl, c, rfl, hr⟩ := hX39 <;> (refine nO ?_; clear nO)
      exact out ⟨rfl, c, rfl, readAll_stop hx hj hr⟩ x
    case hr =>
      intro p hp hb
      have hq : ∀ q ∈ (srcL w.params src ds lr (aS j) t0 t1 tb ++ lrdL w.params rd dr src (rS j) (cS j) 0 held beh false t te tf tg), q.1 ≠ I ∧ q.1 ≠ D ∧ q.1 ≠ C := fun q hq => hne q (List.mem_append_left _ hq)
      have hsg := off_sig N7 (A := ex) (B := srcL w.params src ds lr (aS j) t0 t1 tb ++ lrdL w.params rd dr src (rS j) (cS j) 0 held beh false t te tf tg) (fun p hp => List.mem_append_right _ (List.mem_append_right _ (List.mem_append_left _ hp))) (fun p hp => List.mem_append_left _ hp) (fun p hp q hq => by
        have h1 := hV.tup p hp
        simp only [List.mem_append, List.mem_cons, List.not_mem_nil, or_false] at hq
        rcases hq with (rfl | rfl) | rfl | rfl <;> simp [sig, instObj, h1])
      have hbb := hb
      simp only [ads, List.cons_append, List.nil_append, List.map_cons, List.map_nil, List.mem_cons, List.not_mem_nil, or_false] at hb
      simp only [List.mem_append, List.mem_cons, List.not_mem_nil, or_false] at hp
      rcases hp with (rfl | rfl) | h | h | h | h
      · dsimp only at hb
        rcases hb with h | h | h | h
        · exact c2 h
        · exact c4 h
        · exact e1 h.symm
        · exact e2 h.symm
      · dsimp only at hb
        rcases hb with h | h | h | h
        · exact c1 h
        · exact c3 h
        · exact e5 h.symm
        · exact e6 h.symm
      · exact hsg p h hbb
      all_goals
        subst h
        obtain ⟨q, hq1, hq2⟩ := List.mem_map.mp hbb
        have := hq q hq1
        first | exact this.1 hq2 | exact this.2.1 hq2 | exact this.2.2 hq2
    intro v new h' tk F' N' hX40 hf2
    refine nnOf fun nO => ?_
    obtain ⟨x, new', hx2, hval, held', te', tf', tg', th', rfl⟩ := hX40 <;> (refine nO ?_; clear nO)
    dsimp only [qk]
    refine ⟨(srcL w.params src ds lr (aS (j + 1)) t0 t1 te' ++ lrdL w.params rd dr src (rS (j + 1)) (cS (j + 1)) 0 held' true false t tf' tg' th') ++ ([(L + 1 + 1, oR5), (L + 1, oL)] ++ (new' ++ ex)), h', tk, oC7, rfl, F', news_sub N' fun q hq => ?_, ?_, ⟨_, ns_at nC7 hoC7 (N' (C, oC7) (by simp)).1⟩, true, held', te', tf', tg', th', new' ++ ex, xs ++ [x], rfl, hV.snoc hval, readAll_next hx hj hx2⟩
    · simp only [List.mem_append, List.mem_cons, List.not_mem_nil, or_false] at hq ⊢
      rcases hq with (h | h | h | h) | h
      · exact .inl (.inr h)
      · exact .inr (.inl h)
      · exact .inl (.inl h)
      · exact .inr (.inr (.inl h))
      · exact .inr (.inr (.inr h))
    · have hq : ∀ a ∈ ads (srcL w.params src ds lr (aS j) t0 t1 tb ++ lrdL w.params rd dr src (rS j) (cS j) 0 held beh false t te tf tg), a ≠ I ∧ a ≠ D ∧ a ≠ C := fun a ha => by
        obtain ⟨q, hq1, rfl⟩ := List.mem_map.mp ha
        exact hne q (List.mem_append_left _ hq1)
      have hI : ∀ a : Addr, (∀ q ∈ srcL w.params src ds lr (aS j) t0 t1 tb ++ lrdL w.params rd dr src (rS j) (cS j) 0 held beh false t te tf tg ++ ([(L + 1 + 1, oR5), (L + 1, oL)] ++ (ex ++ [(I, oI), (D, listOf ys.toArray n), (C, oC7)])), q.1 ≠ a) → a ≠ I ∧ a ≠ D ∧ a ≠ C := fun a ha =>
        ⟨fun e => ha (I, oI) (by simp) e.symm, fun e => ha (D, listOf ys.toArray n) (by simp) e.symm, fun e => ha (C, oC7) (by simp) e.symm⟩
      intro p hp
      rcases List.mem_append.mp hp with hp | hp
      · exact hq p.1 (ads_mem (l := srcL w.params src ds lr (aS (j + 1)) t0 t1 te' ++ lrdL w.params rd dr src (rS (j + 1)) (cS (j + 1)) 0 held' true false t tf' tg' th') hp)
      rcases List.mem_append.mp hp with hp | hp
      · exact hne p (List.mem_append_right _ (List.mem_append_left _ hp))
      rcases List.mem_append.mp hp with hp | hp
      · exact (hf2 p (List.mem_append_left _ hp)).elim (hq _) (hI _)
      · exact hne p (List.mem_append_right _ (List.mem_append_right _ hp))
  · intro led ys n h tk D hX41 F N
    refine nnOf fun nO => ?_
    obtain ⟨beh, held, tb, te, tf, tg, ex, xs, rfl, hV, hx⟩ := hX41 <;> (refine nO ?_; clear nO)
    have e1 : (refs ws).length = fs.length := by simp [refs, hw]
    rw [e1, List.take_length] at hx
    dsimp only
    refine backs F N ⟨_, ⟨D, ys, n, ex, xs, rfl, rfl, hV, hx⟩, fun q hq => ?_⟩
    rcases List.mem_cons.mp hq with rfl | hq
    · exact .head _
    · exact .tail _ (List.mem_append_right _ (List.mem_append_right _ hq))

end
section
theorem sm_aug_sub {w : World} {T : Fn} {c : Cx} {kk n : Nat} {rai : Addr → Option Int → Prop} (G : CxG w T kk rai c) {σ : St} {kf : Flow → St → Prop} {o i value : PySem.Expr} {tpos pos : Pos} {op : Operator}
    (h : (evN w T c n).1 o σ fun ov σ₁ => (evN w T c n).1 i σ₁ fun iv σ₂ => Sm w T c σ₂ (getItem ov iv) fun old σ₃ => (evN w T c n).1 value σ₃ fun v σ₄ => inpV w T c op old v σ₄ fun r σ₅ => Sm w T c σ₅ (setItem ov iv r) fun _ σ₆ => kf .next σ₆)
    (hi : ∀ ov iv new, augStore i ov iv new = (do holding [new, ov, iv] (setItem ov iv new); release [new, ov, iv] []; pure .next) := by intros; rfl) : Sm w T c σ (exec (.AugAssign (.Subscript o i tpos) op value pos) c.env) kf := fun _ _ H =>
  PyProof.Rows.wpAny_AugAssign_Subscript_any ((ev_ok G h).run H fun _ _ _ _ H q => (ev_ok G q).run H fun _ _ _ _ H q => q.run H fun _ _ _ _ H q => (ev_ok G q).run H fun _ _ _ _ H q => (inpV_ok q).run H fun _ _ _ _ H q => q.run H fun _ _ _ _ H q => pk_now H q) hi
theorem law_take_con (w : World) (sc sp : Addr) (xs : List Value) (nn mm i : Nat) (ti tl : Tok) (lim : Int) (hx : ∀ v ∈ xs, ∃ n t, v = .int n t) (hlen : xs.length ≤ 100) (h0 : 0 < lim) (h1 : lim ≤ 10 ^ 20) (hi : i ≤ 1000) :
    Con w 562 1 [.ref sc, .ref sp, .int lim tl] [(sc, listOf xs.toArray nn)] [(sp, listOf [Value.int (i : Int) ti].toArray mm)]
      (fun v new => ∃ (r : Int) (t tt : Tok) (m2 : Nat), 0 ≤ r ∧ r < lim ∧ v = .int r t ∧ new = [(sp, listOf [Value.int ((i + 1 : Nat) : Int) tt].toArray m2)]) := by
  refine' con_vc (n := 20) ⟨["script", "spot", "limit", "n"], [("len", .builtin "len")], []⟩ (binds := [("script", .ref sc), ("spot", .ref sp), ("limit", .int lim tl)]) ?hmain
  intro c R G hR t0
  refine meet_st (fun K => ∀ (t : Tok) (x : Int), K ⟨[some (.ref sc), some (.ref sp), some (.int lim tl), some (.int x t)], [(sp, listOf [Value.int (i : Int) ti].toArray mm)], [(sc, listOf xs.toArray nn)]⟩) (fun R' hM => ?_) ?_
  · refine vc_if (n := 20) G ?_
    (repeat (intro (_ : Tok)))
    refine sm_item (i := 0) (.inl (.head _)) rfl rfl (by decide) ?_
    refine sm_lenL (.inr (.head _)) (by lia) ?_
    (repeat (intro (_ : Tok)))
    refine ⟨fun (h : (i : Int) < xs.length) => ?_, fun h => hM.next fun K hh => hh _ _⟩
    (repeat (intro (_ : Tok)))
    refine sm_item (i := 0) (.inl (.head _)) rfl rfl (by decide) ?_
    obtain ⟨x, hx1⟩ : ∃ x, xs[i]? = some x := ⟨_, List.getElem?_eq_getElem (Int.ofNat_lt.mp h)⟩
    obtain ⟨n, t, rfl⟩ := hx x (List.mem_of_getElem? hx1)
    refine sm_item (i := i) (.inr (.head _)) rfl hx1 (by lia) ?_
    exact hM.next fun K hh => hh _ _
  intro t x
  refine sm_aug_sub (n := 20) G ?_
  (repeat (intro (_ : Tok)))
  refine fun h1 tk1 H1 => wpAny_getItem_list (Has.lst (.inl (.head _)) H1) (by decide) (by decide) rfl (pk_now H1 ?_)
  intro t1 t2
  refine fun h1 tk1 H1 => ki_set H1.F H1.N (by decide) (by decide) rfl (.head fun p hp => (H1.D _ (.head _) p hp).symm) fun h2 F2 N2 => ?_
  refine pk_now (σ := ⟨[some (.ref sc), some (.ref sp), some (.int lim tl), some (.int x t)], [(sp, listOf [Value.int ((i : Int) + 1) t2].toArray mm)], [(sc, listOf xs.toArray nn)]⟩) ⟨F2, N2, fun p hp q hq => List.mem_singleton.mp hp ▸ H1.D _ (.head _) q hq, H1.Z⟩ ?_
  refine ⟨h0, ?_⟩
  intro t3
  exact hR.at [0] ⟨x % lim, t3, t2, mm, Int.emod_nonneg _ (Int.ne_of_gt h0), Int.emod_lt_of_pos _ h0, rfl, rfl⟩

end
section
noncomputable def RndE (z : Option (Int × Int)) (code x : Value) (ex : Led) : Prop := (IsI code 0 ∧ ∃ p, z = some p ∧ Pr x ex p.1 p.2) ∨ (IsI code 2 ∧ x = .none ∧ ex = [] ∧ z = none)
noncomputable def RndP (z : Option (Int × Int)) (v : Value) (new : Led) : Prop := ∃ a code x ex, v = .ref a ∧ new = (a, tupO [code, x]) :: ex ∧ RndE z code x ex
theorem rnd_some {z : Option (Int × Int)} {a b : Addr} {t0 t1 t2 : Tok} {x y : Int} (h : z = some (x, y)) : RndP z (.ref b) [(b, tupO [.int 0 t0, .ref a]), (a, tupO [.int x t1, .int y t2])] := ⟨_, _, _, _, rfl, rfl, .inl ⟨isI rfl, _, h, .inl ⟨_, _, _, rfl, rfl, isI rfl, isI rfl⟩⟩⟩
theorem rnd_none {z : Option (Int × Int)} {b : Addr} {t0 : Tok} (h : z = none) : RndP z (.ref b) [(b, tupO [.int 2 t0, .none])] := ⟨_, _, _, _, rfl, rfl, .inr ⟨isI rfl, rfl, rfl, h⟩⟩
theorem law_rounded_con (w : World) (ds : List Nat) (e : Int) (many : Nat) (s : Int) (td te tm ts : Tok) (hd : ds.all isDig = true) (hl : ds.length ≤ 20) (he : e.natAbs ≤ 1000) (hm : many ≤ 15) (hs : s = 1 ∨ s = -1) :
    Con w 569 1 [.str (S ds) td, .int e te, .int many tm, .int s ts] [] []
      (RndP (realZ (s * (dv ds : Nat)) e many 38)) := by
  generalize hz : realZ (s * (dv ds : Nat)) e many 38 = z
  refine' con_vc (n := 20) ⟨["digits", "e", "many", "sign", "rest", "half", "m", "lead"], [("len", .builtin "len"), ("int", .type "int"), ("str", .type "str")], []⟩ (binds := [("digits", .str (S ds) td), ("e", .int e te), ("many", .int many tm), ("sign", .int s ts)]) ?hmain
  intro c R G hR
  refine sm_while (n := 20) G (fun k K => ∀ (t1 : Tok) (l : List Nat), l.all isDig = true → dv l = dv ds → l.length = k → k ≤ 20 → K ⟨[some (.str (S l) t1), some (.int e te), some (.int many tm), some (.int s ts), none, none, none, none], [], []⟩) (fun K h => h _ ds hd rfl rfl hl) ?_
  intro c' R' k G' hL t1 l hl1 hl2 hl3 hl4
  (repeat (intro (_ : Tok)))
  refine ⟨by lia, ?_⟩
  (repeat (intro (_ : Tok)))
  refine ⟨fun (h : l.take 1 = [48]) => ?_, fun (h : ¬ l.take 1 = [48]) => ?_⟩
  · (repeat (intro (_ : Tok)))
    refine ⟨by lia, ?_⟩
    (repeat (intro (_ : Tok)))
    cases l with
    | nil => cases h
    | cons c0 r =>
      have hc : c0 = 48 := by simpa using h
      subst hc
      rw [List.all_cons, Bool.and_eq_true] at hl1
      rw [List.length_cons] at hl3
      exact hL.next r.length (by lia) fun K h => h _ r hl1.2 (by rw [← hl2, dv_cons]; simp) rfl (by lia)
  have hno : NoLead l := by
    rintro c0 r rfl rfl
    exact h rfl
  rw [← hl2, ← lawR_eq hl1 hno hs] at hz
  clear h hd hl he
  refine ⟨by lia, ?_⟩
  (repeat (intro (_ : Tok)))
  have hq : (l.drop many).length ≤ 20 := by rw [List.length_drop]; lia
  refine sm_len (by lia) ?_
  (repeat (intro (_ : Tok)))
  refine sm_len (by lia) ?_
  (repeat (intro (_ : Tok)))
  refine sm_times 48 (by lia) (by lia) ?_
  (repeat (intro (_ : Tok)))
  rw [show (((l.drop many).length : Int) - 1).toNat = (l.drop many).length - 1 by lia]
  refine ⟨by rw [List.length_replicate]; exact Nat.le_trans (Nat.add_le_add_left (by lia : _ ≤ 20) 1) (by decide), ?_⟩
  (repeat (intro (_ : Tok)))
  refine ⟨by lia, ?_⟩
  (repeat (intro (_ : Tok)))
  refine ⟨by rw [List.length_take]; exact Nat.le_trans (Nat.add_le_add_left (by lia : _ ≤ 15) 1) (by decide), ?_⟩
  (repeat (intro (_ : Tok)))
  have hta := all_take many hl1
  have hz1 : (48 :: l.take many).all isDig = true := by rw [List.all_cons, hta]; rfl
  have hz2 : dv (48 :: l.take many) = dv (l.take many) := by rw [dv_cons]; simp
  refine sm_intT (l := 48 :: l.take many) (x := (dv (l.take many) : Nat)) (hz2 ▸ int_text hz1 (by simp) (by simp; lia)) (by simp; lia) ?_
  (repeat (intro (_ : Tok)))
  have hN : ¬ (l.drop many ≠ [] ∧ (halfL ((l.drop many).length - 1) < l.drop many ∨ (l.drop many = halfL ((l.drop many).length - 1) ∧ dv (l.take many) % 2 = 1))) → ((dv (l.take many) : Nat) : Int) = (roundM l many : Nat) := fun h => by unfold roundM; rw [if_neg h]
  have hP : (l.drop many ≠ [] ∧ (halfL ((l.drop many).length - 1) < l.drop many ∨ (l.drop many = halfL ((l.drop many).length - 1) ∧ dv (l.take many) % 2 = 1))) → ((dv (l.take many) : Nat) : Int) + 1 = (roundM l many : Nat) := fun h => by unfold roundM; rw [if_pos h]; rfl
  refine meet_st (fun K => ∀ t1 t2 x y z u (q : Int), q = (roundM l many : Nat) → K ⟨[x, some (.int (e + (l.drop many).length) t1), y, some (.int s ts), z, u, some (.int q t2), none], [], []⟩) (fun R hM => ?_) ?_
  · refine vc_if (n := 20) G ?_
    (repeat (intro (_ : Tok)))
    refine ⟨fun (h1 : l.drop many ≠ []) => ?_, fun (h1 : ¬ l.drop many ≠ []) => hM.next fun K h => h _ _ _ _ _ _ _ (hN fun q => h1 q.1)⟩
    refine ⟨fun (h2 : halfL ((l.drop many).length - 1) < l.drop many) => ?_, fun (h2 : ¬ halfL ((l.drop many).length - 1) < l.drop many) => ?_⟩
    · (repeat (intro (_ : Tok)))
      exact hM.next fun K h => h _ _ _ _ _ _ _ (hP ⟨h1, .inl h2⟩)
    refine ⟨fun (h3 : l.drop many = halfL ((l.drop many).length - 1)) => ?_, fun (h3 : ¬ l.drop many = halfL ((l.drop many).length - 1)) => hM.next fun K h => h _ _ _ _ _ _ _ (hN fun q => q.2.elim h2 fun q => h3 q.1)⟩
    (repeat (intro (_ : Tok)))
    refine ⟨(by decide : (0 : Int) < 2), ?_⟩
    (repeat (intro (_ : Tok)))
    refine ⟨fun (h4 : ((dv (l.take many) : Nat) : Int) % 2 = 1) => ?_, fun (h4 : ¬ ((dv (l.take many) : Nat) : Int) % 2 = 1) => hM.next fun K h => h _ _ _ _ _ _ _ (hN fun q => q.2.elim h2 fun q => h4 (by lia))⟩
    (repeat (intro (_ : Tok)))
    exact hM.next fun K h => h _ _ _ _ _ _ _ (hP ⟨h1, .inr ⟨h3, by lia⟩⟩)
  rintro t1 t2 x y z u _ rfl
  have hrm : roundM l many < 10 ^ 16 := by
    have := dv_lt hta
    have h2 : 10 ^ (l.take many).length ≤ 10 ^ 15 := Nat.pow_le_pow_right (by decide) (by rw [List.length_take]; lia)
    unfold roundM
    split <;> lia
  unfold lawR at hz
  clear hN hP hz1 hz2 hta hno hl1 hl2 hl3
  generalize roundM l many = m at *
  generalize (l.drop many).length = ln at *
  refine vc_if (n := 20) G ?_
  (repeat (intro (_ : Tok)))
  refine ⟨fun (h : (m : Int) = 0) => ?_, fun (h : ¬ (m : Int) = 0) => ?_⟩
  · (repeat (intro (_ : Tok)))
    intro _ a _ _ b _
    exact hR.at [0, 1] (rnd_some (by rw [← hz, if_pos (by lia)]))
  have hm0 : m ≠ 0 := by lia
  rw [if_neg hm0] at hz
  refine sm_while (n := 20) G (fun k K => ∀ t1 t2 x y z u (yy : Int), stripZ (k : Nat) yy = stripZ (m : Nat) (e + ln) → k ≠ 0 → k < 10 ^ 16 → K ⟨[x, some (.int yy t1), y, some (.int s ts), z, u, some (.int (k : Nat) t2), none], [], []⟩) (fun K h => h _ _ _ _ _ _ _ rfl hm0 hrm) ?_
  intro c' R' k G' hL t1 t2 x y z u yy h1 h2 h3
  (repeat (intro (_ : Tok)))
  refine ⟨by decide, ?_⟩
  (repeat (intro (_ : Tok)))
  refine ⟨fun (h : ((k : Nat) : Int) % 10 = 0) => ?_, fun (h : ¬ ((k : Nat) : Int) % 10 = 0) => ?_⟩
  · (repeat (intro (_ : Tok)))
    refine ⟨⟨by decide, by decide⟩, ?_⟩
    (repeat (intro (_ : Tok)))
    exact hL.next (k / 10) (by lia) fun K hh => hh _ _ _ _ _ _ _ (by rw [← h1, stripZ_ten (m := (k : Nat)) (by lia) h]; rfl) (by lia) (by lia)
  rw [← h1, stripZ_not (m := (k : Nat)) (by lia) h] at hz
  have hk : (decL k).length = ndN k := by rw [decL_len, if_neg h2]
  have hk2 : ((k : Int)).natAbs = k := Int.natAbs_natCast k
  dsimp only at hz
  rw [hk2] at hz
  have hk3 : (decL k).length ≤ 16 := decL_le h3 (by decide)
  refine sm_strI (Nat.lt_trans h3 (by decide)) ?_
  (repeat (intro (_ : Tok)))
  refine sm_len (by lia) ?_
  rw [hk]
  (repeat (intro (_ : Tok)))
  refine vc_if (n := 20) G ?_
  (repeat (intro (_ : Tok)))
  refine ⟨fun (h5 : 38 < (ndN k : Int) + yy - 1) => ?_, fun (h5 : ¬ 38 < (ndN k : Int) + yy - 1) => ?_⟩
  · (repeat (intro (_ : Tok)))
    intro _ a ha
    exact hR.at [0] (rnd_none (by rw [← hz, if_pos h5]))
  rw [if_neg h5] at hz
  (repeat (intro (_ : Tok)))
  refine ⟨fun (h6 : -38 ≤ (ndN k : Int) + yy - 1) => ?_, fun (h6 : ¬ -38 ≤ (ndN k : Int) + yy - 1) => ?_⟩
  · rw [if_pos h6] at hz
    refine ⟨mul1 hs, ?_⟩
    (repeat (intro (_ : Tok)))
    intro _ a _ _ b _
    exact hR.at [0, 1] (rnd_some hz.symm)
  · rw [if_neg h6] at hz
    (repeat (intro (_ : Tok)))
    intro _ a _ _ b _
    exact hR.at [0, 1] (rnd_some hz.symm)

end
section
theorem apl {a b : List Nat} {n m : Nat} (h1 : a.length ≤ n) (h2 : b.length ≤ m) : (a ++ b).length ≤ n + m := by rw [List.length_append]; exact Nat.add_le_add h1 h2
theorem sz {a b : List Nat} {n m : Nat} (h1 : a.length ≤ n) (h2 : b.length ≤ m) (h : n + m ≤ 1048576 := by decide) : a.length + b.length ≤ 1048576 := Nat.le_trans (Nat.add_le_add h1 h2) h
noncomputable def OptIs (v : Value) (ex : Led) : Option Val → Prop
  | none => v = .none ∧ ex = []
  | some x => ValIs v ex x
noncomputable def LawC (kind : Int) (sp : Addr) (b : Nat) (v : Value) (new : Led) : Prop :=
  ∃ (a : Addr) (T : List Nat) (fell : Int) (x : Option Val) (tt tf : Tok) (xv : Value) (ex : Led) (i2 : Nat) (t2 : Tok) (m2 : Nat), v = .ref a ∧ i2 ≤ b ∧ FieldOK kind T fell x ∧ OptIs xv ex x ∧
    new = (a, tupO [.str (S T) tt, .int fell tf, xv]) :: (ex ++ [(sp, listOf [Value.int (i2 : Int) t2].toArray m2)])
theorem LawC.mono {kind : Int} {sp : Addr} {b b' : Nat} {v : Value} {new : Led} (h : LawC kind sp b v new) (hb : b ≤ b') : LawC kind sp b' v new := by
  obtain ⟨a, T, fell, x, tt, tf, xv, ex, i2, t2, m2, h1, h2, h3⟩ := h
  exact ⟨a, T, fell, x, tt, tf, xv, ex, i2, t2, m2, h1, Nat.le_trans h2 hb, h3⟩
theorem lawC_bad {kind : Int} {sp a : Addr} {b i2 : Nat} {T : List Nat} {fell : Int} {tt tf t2 : Tok} {m2 : Nat} (h : i2 ≤ b) (hf : FieldOK kind T fell none) : LawC kind sp b (.ref a) ((a, tupO [.str (S T) tt, .int fell tf, .none]) :: [(sp, listOf [Value.int (i2 : Int) t2].toArray m2)]) :=
  ⟨_, _, _, _, _, _, _, [], _, _, _, rfl, h, hf, ⟨rfl, rfl⟩, rfl⟩
theorem lawC_ok {kind : Int} {sp a : Addr} {b i2 : Nat} {T : List Nat} {x : Val} {xv : Value} {ex : Led} {tt tf t2 : Tok} {m2 : Nat} (h : i2 ≤ b) (hf : FieldOK kind T 0 (some x)) (hx : ValIs xv ex x) : LawC kind sp b (.ref a) ((a, tupO [.str (S T) tt, .int 0 tf, xv]) :: (ex ++ [(sp, listOf [Value.int (i2 : Int) t2].toArray m2)])) :=
  ⟨_, _, _, _, _, _, _, _, _, _, _, rfl, h, hf, hx, rfl⟩
section
variable {T : Fn} {c : Cx} {kk n : Nat} {rai : Addr → Option Int → Prop} {k : KV}
theorem take_at {w : World} (G : CxG w T kk rai c) {sc sp : Addr} {xs : List Value} {nn mm i : Nat} {ti tl : Tok} {lim : Int} {ps : List (Option Value)} {led fz : Led} (hx : ∀ v ∈ xs, ∃ n t, v = .int n t) (hlen : xs.length ≤ 100) (h0 : 0 < lim) (h1 : lim ≤ 10 ^ 20) (hi : i ≤ 1000)
    (hl : (sp, listOf [Value.int (i : Int) ti].toArray mm) ∈ led) (hz : (sc, listOf xs.toArray nn) ∈ fz) (ret : ∀ (r : Nat) t tt m2, (r : Int) < lim → k (.int (r : Int) t) ⟨ps, [(sp, listOf [Value.int ((i + 1 : Nat) : Int) tt].toArray m2)], fz⟩) (hk : 1 ≤ kk := by decide) :
    Sm w T c ⟨ps, led, fz⟩ (call (.ref 562) [.ref sc, .ref sp, .int lim tl]) k := by
  refine use G (law_take_con w sc sp xs nn mm i ti tl lim hx hlen h0 h1 hi) [] (List.forall_mem_singleton.mpr hl) (List.forall_mem_singleton.mpr (.inl hz)) (fun _ h => nomatch h) ?_ (fun _ _ r => r.elim) hk
  rintro v new ⟨r, t, tt, m2, hr0, hr1, rfl, rfl⟩ _
  obtain ⟨r, rfl⟩ := Int.eq_ofNat_of_zero_le hr0
  exact ret r t tt m2 hr1
end
theorem sgn_pick {mark : Nat} (h : mark < 3) : ∃ sg, [[], [45], [43]][mark]? = some sg ∧ Sgn sg (if mark = 1 then -1 else 1) := by
  have e : mark = 0 ∨ mark = 1 ∨ mark = 2 := by lia
  rcases e with rfl | rfl | rfl
  · exact ⟨_, rfl, .inl ⟨rfl, rfl⟩⟩
  · exact ⟨_, rfl, .inr (.inl ⟨rfl, rfl⟩)⟩
  · exact ⟨_, rfl, .inr (.inr ⟨rfl, rfl⟩)⟩
noncomputable def Tl (way : Nat) (tl : List Nat) : Prop := (way = 0 ∨ way = 4 ∨ way = 5) ∧ tl = [] ∨ (way = 1 ∨ way = 3) ∧ tl = [69] ∨ way = 2 ∧ tl = [68]
theorem tl_pick {way : Nat} (h : way < 6) : ∃ tl, [[], [69], [68], [69], [], []][way]? = some tl ∧ Tl way tl := by
  have e : way = 0 ∨ way = 1 ∨ way = 2 ∨ way = 3 ∨ way = 4 ∨ way = 5 := by lia
  rcases e with rfl | rfl | rfl | rfl | rfl | rfl <;> exact ⟨_, rfl, by simp [Tl]⟩
structure TD (way : Nat) (p : Int) (l : List Nat) : Prop where
  intro ::
  ex : ∃ sg1 dd s1, l = sg1 ++ dd ∧ Sgn sg1 s1 ∧ dd.all isDig = true ∧ dd ≠ [] ∧ s1 * (dv dd : Nat) = p ∧ (way = 4 → sg1 ≠ []) ∧ dd.length ≤ 4
theorem td_neg {way : Nat} {p : Int} (h : p < 0) (hp : p.natAbs ≤ 31) : TD way p ([45] ++ decL p.natAbs) := ⟨_, _, -1, rfl, .inr (.inl ⟨rfl, rfl⟩), decL_all _, decL_ne _, by rw [decL_dv]; lia, fun _ => by simp, Nat.le_trans (decL_le (k := 2) (by lia) (by decide)) (by decide)⟩
theorem td_plus {way : Nat} {p : Int} (h : ¬ p < 0) (hp : p.natAbs ≤ 31) : TD way p ([43] ++ decL p.natAbs) := ⟨_, _, 1, rfl, .inr (.inr ⟨rfl, rfl⟩), decL_all _, decL_ne _, by rw [decL_dv]; lia, fun _ => by simp, Nat.le_trans (decL_le (k := 2) (by lia) (by decide)) (by decide)⟩
theorem td_bare {way : Nat} {p : Int} (h : ¬ p < 0) (hp : p.natAbs ≤ 31) (hw : way ≠ 4) : TD way p ([] ++ decL p.natAbs) := ⟨_, _, 1, rfl, .inl ⟨rfl, rfl⟩, decL_all _, decL_ne _, by rw [decL_dv]; lia, fun q => absurd q hw, Nat.le_trans (decL_le (k := 2) (by lia) (by decide)) (by decide)⟩
theorem td_neg0 {way : Nat} {p : Int} (h : p < 0) (hp : p.natAbs ≤ 31) : TD way p ([45, 48] ++ decL p.natAbs) := ⟨[45], 48 :: decL p.natAbs, -1, rfl, .inr (.inl ⟨rfl, rfl⟩), by rw [List.all_cons, decL_all]; rfl, by simp, by rw [dv_cons, decL_dv]; lia, fun _ => by simp, Nat.succ_le_succ (Nat.le_trans (decL_le (k := 2) (by lia) (by decide)) (by decide))⟩
theorem td_pos0 {way : Nat} {p : Int} (h : ¬ p < 0) (hp : p.natAbs ≤ 31) (hw : way ≠ 4) : TD way p ([48] ++ decL p.natAbs) := ⟨[], 48 :: decL p.natAbs, 1, rfl, .inl ⟨rfl, rfl⟩, by rw [List.all_cons, decL_all]; rfl, by simp, by rw [dv_cons, decL_dv]; lia, fun q => absurd q hw, Nat.succ_le_succ (Nat.le_trans (decL_le (k := 2) (by lia) (by decide)) (by decide))⟩
theorem TD.len {way : Nat} {p : Int} {l : List Nat} (h : TD way p l) : l.length ≤ 5 := by
  obtain ⟨sg1, dd, s1, rfl, g1, g2, g3, g4, g5, g6⟩ := h
  have := g1.len
  rw [List.length_append]; lia
structure SF (way : Nat) (tl tx : List Nat) (p : Int) : Prop where
  len : tx.length ≤ 5
  abs : p.natAbs ≤ 31
  safe : Safe (tl ++ tx)
  five : way = 5 → p = 0
  suf : way ≠ 5 → Suf (tl ++ tx) p
theorem Tl.safe {way : Nat} {tl : List Nat} (h : Tl way tl) : Safe tl ∧ tl.length ≤ 1 := by
  rcases h with ⟨_, rfl⟩ | ⟨_, rfl⟩ | ⟨_, rfl⟩ <;> exact ⟨by intro c hc; simp at hc; try lia, by decide⟩
theorem sf_none {way : Nat} {tl : List Nat} (h : Tl way tl) (hw : way = 0 ∨ way = 4 ∨ way = 5) : SF way tl [] 0 := by
  have : tl = [] := by rcases h with ⟨_, e⟩ | ⟨_, e⟩ | ⟨_, e⟩ <;> first | exact e | lia
  subst this
  exact ⟨by simp, by decide, Safe.nil, fun _ => rfl, fun _ => .inl ⟨rfl, rfl⟩⟩
theorem sf_told {way : Nat} {tl l : List Nat} {p : Int} (hp : p.natAbs ≤ 31) (htl : Tl way tl) (ht : TD way p l) (hw : way ≠ 0) (hw5 : way ≠ 5) : SF way tl l p := by
  have hlen := ht.len
  obtain ⟨sg1, dd, s1, rfl, g1, g2, g3, g4, g5, g6⟩ := ht
  have hf := fieldExp_dec g1 g2 g3
  rw [g4] at hf
  refine ⟨hlen, hp, htl.safe.1.app (g1.safe.app (Safe.dig g2)), fun h => absurd h hw5, fun _ => ?_⟩
  rcases htl with ⟨e, rfl⟩ | ⟨_, rfl⟩ | ⟨_, rfl⟩
  · have g7 := g5 (by lia)
    rcases g1 with ⟨rfl, _⟩ | ⟨rfl, _⟩ | ⟨rfl, _⟩
    · exact absurd rfl g7
    · exact .inr (.inr ⟨45, _, rfl, by decide, hf⟩)
    · exact .inr (.inr ⟨43, _, rfl, by decide, hf⟩)
  · exact .inr (.inl ⟨69, _, rfl, by decide, hf⟩)
  · exact .inr (.inl ⟨68, _, rfl, by decide, hf⟩)
structure TX (ds sg : List Nat) (p : Int) (text : List Nat) (pl : Int) : Prop where
  intro ::
  ex : ∃ f suf, text = sg ++ (f ++ suf) ∧ figs f 0 = (ds, pl) ∧ (∀ c ∈ f, isDig c = true ∨ c = 46) ∧ f ≠ [] ∧ Suf suf p ∧ Safe suf ∧ f.length + suf.length ≤ 59 ∧ pl.natAbs ≤ 30
theorem tx_plain {ds sg : List Nat} (hd : ds.all isDig = true) (hn : ds ≠ []) (hl : ds.length ≤ 20) : TX ds sg 0 (sg ++ ds) 0 :=
  ⟨ds, [], by rw [List.append_nil], figs_plain hd, fun c hc => .inl (List.all_eq_true.mp hd c hc), hn, .inl ⟨rfl, rfl⟩, Safe.nil, by simp; lia, by decide⟩
theorem tx_point {ds sg tl tx : List Nat} {p : Int} {at_ way : Nat} (hd : ds.all isDig = true) (hl : ds.length ≤ 20) (ha : at_ ≤ ds.length) (ht : Tl way tl) (hs : SF way tl tx p) (hw : way ≠ 5) :
    TX ds sg p (((((sg ++ ds.take at_) ++ [46]) ++ ds.drop at_) ++ tl) ++ tx) ((ds.length : Int) - at_) := by
  have ht1 := all_take at_ hd
  have h1 := ht.safe.2
  have h2 := hs.len
  refine ⟨ds.take at_ ++ 46 :: ds.drop at_, tl ++ tx, by simp, ?_, fun c hc => ?_, by simp, hs.suf hw, hs.safe, by simp; lia, by lia⟩
  · rw [figs_point ht1, List.take_append_drop, List.length_drop]
    congr 1
    lia
  · rcases List.mem_append.mp hc with h | h
    · exact .inl (List.all_eq_true.mp ht1 c h)
    · rcases List.mem_cons.mp h with h | h
      · exact .inr h
      · exact .inl (List.all_eq_true.mp (all_drop at_ hd) c h)
theorem tx_field {kind : Int} (hk : kind = 1 ∨ kind = 2) {sg ds text : List Nat} {s p pl : Int} (hs : Sgn sg s) (hd : ds.all isDig = true) (hdn : ds ≠ []) (h : TX ds sg p text pl) {z : Option (Int × Int)} (hz : realZ (s * (dv ds : Nat)) (p - pl) (digK kind) 38 = z) :
    pl.natAbs ≤ 30 ∧ (∀ q, z = some q → FieldOK kind text 0 (some (.pair q.1 q.2))) ∧ (z = none → FieldOK kind text 2 none) := by
  obtain ⟨f, suf, rfl, q1, q2, q3, q4, q5, q6, q7⟩ := h
  have := field_real hk hs q1 q2 q3 hd hdn q4 q5 q6
  rw [hz] at this
  exact ⟨q7, this⟩
theorem law_real_con (w : World) (sc sp : Addr) (xs : List Value) (nn mm i : Nat) (ti tkk : Tok) (kind : Int) (hk : kind = 1 ∨ kind = 2) (hx : ∀ v ∈ xs, ∃ n t, v = .int n t) (hlen : xs.length ≤ 100) (hi : i ≤ 900) :
    Con w 576 3 [.ref sc, .ref sp, .int kind tkk] [(sc, listOf xs.toArray nn)] [(sp, listOf [Value.int (i : Int) ti].toArray mm)] (LawC kind sp (i + 5)) := by
  refine' con_vc (n := 20) ⟨["script", "spot", "kind", "digits", "at", "mark", "sign", "way", "power", "tail", "told", "text", "places", "code", "value"], [("_law_take", .ref 562), ("str", .type "str"), ("abs", .builtin "abs"), ("len", .builtin "len"), ("_law_rounded", .ref 569)], [562, 569]⟩ (binds := [("script", .ref sc), ("spot", .ref sp), ("kind", .int kind tkk)]) ?hmain
  intro c R G hR
  (repeat (intro (_ : Tok)))
  refine ⟨⟨by decide, by decide, by decide⟩, ?_⟩
  (repeat (intro (_ : Tok)))
  refine take_at G hx hlen (by decide) (by decide) (by lia) (.head _) (.head _) (fun n t tt m1 hn => ?_)
  have hn20 : n < 10 ^ 20 := by
    have e20 : (10 : Int) ^ Int.toNat 20 = 100000000000000000000 := by decide
    rw [e20] at hn; lia
  refine sm_strI (Nat.lt_trans hn20 (by decide)) ?_
  have hda := decL_all n
  have hdn := decL_ne n
  have hdl : (decL n).length ≤ 20 := decL_le hn20 (by decide)
  generalize decL n = ds at *
  clear hn hn20
  (repeat (intro (_ : Tok)))
  refine sm_len (by lia) ?_
  (repeat (intro (_ : Tok)))
  refine take_at G hx hlen (by lia) (by lia) (by lia) (.head _) (.head _) (fun at_ t2 tt2 m2 hat => ?_)
  (repeat (intro (_ : Tok)))
  refine take_at G hx hlen (by decide) (by decide) (by lia) (.head _) (.head _) (fun mark t3 tt3 m3 hmk => ?_)
  obtain ⟨sg, hsg0, hsg⟩ := sgn_pick (mark := mark) (by lia)
  (repeat (intro (_ : Tok)))
  intro _ a1 _
  refine sm_itemS [[], [45], [43]] (.inl (.head _)) ⟨⟨_, rfl⟩, ⟨_, rfl⟩, ⟨_, rfl⟩, trivial⟩ rfl hsg0 (by lia) ?_
  (repeat (intro (_ : Tok)))
  refine take_at G hx hlen (by decide) (by decide) (by lia) (.tail _ (.head _)) (.head _) (fun way t4 tt4 m4 hwy => ?_)
  obtain ⟨tl, htl0, htl⟩ := tl_pick (way := way) (by lia)
  (repeat (intro (_ : Tok)))
  refine take_at G hx hlen (by decide) (by decide) (by lia) (.head _) (.head _) (fun r t5 tt5 m5 hr => ?_)
  (repeat (intro (_ : Tok)))
  have hp0 : ((r : Int) - 31).natAbs ≤ 31 := by lia
  generalize (r : Int) - 31 = p at *
  intro _ a2 _
  refine sm_itemS [[], [69], [68], [69], [], []] (.inl (.head _)) ⟨⟨_, rfl⟩, ⟨_, rfl⟩, ⟨_, rfl⟩, ⟨_, rfl⟩, ⟨_, rfl⟩, ⟨_, rfl⟩, trivial⟩ rfl htl0 (by lia) ?_
  (repeat (intro (_ : Tok)))
  have hpl : p.natAbs < 2 ^ 100 := by lia
  have hpd := decL_le (n := p.natAbs) (k := 2) (by lia) (by decide)
  clear hr hsg0 htl0 hmk hwy
  have hps : ∀ {w x : Nat}, w = x → (w : Int) = x := fun e => by rw [e]
  refine meet_st (fun K => ∀ (ta tb tc td te tf tg th to : Tok) (l : List Nat) (j : Led), TD way p l → K ⟨[some (.ref sc), some (.ref sp), some (.int kind ta), some (.str (S ds) tb), some (.int at_ tc), some (.int mark td), some (.str (S sg) te), some (.int way tf), some (.int p tg), some (.str (S tl) th), some (.str (S l) to), none, none, none, none], j ++ [(sp, listOf [Value.int ((i + 1 + 1 + 1 + 1 + 1 : Nat) : Int) tt5].toArray m5)], [(sc, listOf xs.toArray nn)]⟩) (fun R hM => ?_) ?_
  · refine vc_as (n := 20) G ?_
    (repeat (intro (_ : Tok)))
    refine ⟨fun (h : p < 0) => ?_, fun (h : ¬ p < 0) => ?_⟩
    · (repeat (intro (_ : Tok)))
      refine sm_abs ?_
      (repeat (intro (_ : Tok)))
      refine sm_strI hpl ?_
      (repeat (intro (_ : Tok)))
      refine ⟨Nat.le_trans (Nat.add_le_add_left hpd 1) (by decide), ?_⟩
      (repeat (intro (_ : Tok)))
      exact hM.next fun K hh => hh _ _ _ _ _ _ _ _ _ _ [_] (td_neg h hp0)
    (repeat (intro (_ : Tok)))
    refine ⟨fun (h2 : (way : Int) = 2) => ?_, fun (h2 : ¬ (way : Int) = 2) => ?_⟩
    · (repeat (intro (_ : Tok)))
      refine sm_abs ?_
      (repeat (intro (_ : Tok)))
      refine sm_strI hpl ?_
      (repeat (intro (_ : Tok)))
      refine ⟨Nat.le_trans (Nat.add_le_add_left hpd 1) (by decide), ?_⟩
      (repeat (intro (_ : Tok)))
      exact hM.next fun K hh => hh _ _ _ _ _ _ _ _ _ _ [_] (td_plus h hp0)
    (repeat (intro (_ : Tok)))
    refine ⟨fun (h4 : (way : Int) = 4) => ?_, fun (h4 : ¬ (way : Int) = 4) => ?_⟩
    · (repeat (intro (_ : Tok)))
      refine sm_abs ?_
      (repeat (intro (_ : Tok)))
      refine sm_strI hpl ?_
      (repeat (intro (_ : Tok)))
      refine ⟨Nat.le_trans (Nat.add_le_add_left hpd 1) (by decide), ?_⟩
      (repeat (intro (_ : Tok)))
      exact hM.next fun K hh => hh _ _ _ _ _ _ _ _ _ _ [_] (td_plus h hp0)
    · (repeat (intro (_ : Tok)))
      refine sm_abs ?_
      (repeat (intro (_ : Tok)))
      refine sm_strI hpl ?_
      (repeat (intro (_ : Tok)))
      refine ⟨Nat.le_trans (Nat.add_le_add_left hpd 0) (by decide), ?_⟩
      (repeat (intro (_ : Tok)))
      exact hM.next fun K hh => hh _ _ _ _ _ _ _ _ _ _ [_] (td_bare h hp0 fun q => h4 (hps q))
  intro ta tb tc td te tf tg th to l j htd
  refine meet_st (fun K => ∀ (tc te to : Tok) (l : List Nat) (j : Led), TD way p l → K ⟨[some (.ref sc), some (.ref sp), some (.int kind ta), some (.str (S ds) tb), some (.int at_ tc), some (.int mark td), some (.str (S sg) te), some (.int way tf), some (.int p tg), some (.str (S tl) th), some (.str (S l) to), none, none, none, none], j ++ [(sp, listOf [Value.int ((i + 1 + 1 + 1 + 1 + 1 : Nat) : Int) tt5].toArray m5)], [(sc, listOf xs.toArray nn)]⟩) (fun R hM => ?_) ?_
  · refine vc_if (n := 20) G ?_
    (repeat (intro (_ : Tok)))
    refine ⟨fun (h3 : (way : Int) = 3) => ?_, fun (h3 : ¬ (way : Int) = 3) => hM.next fun K hh => hh _ _ _ _ j htd⟩
    refine vc_as (n := 20) G ?_
    (repeat (intro (_ : Tok)))
    refine ⟨fun (h : p < 0) => ?_, fun (h : ¬ p < 0) => ?_⟩
    · (repeat (intro (_ : Tok)))
      refine sm_abs ?_
      (repeat (intro (_ : Tok)))
      refine sm_strI hpl ?_
      (repeat (intro (_ : Tok)))
      refine ⟨Nat.le_trans (Nat.add_le_add_left hpd 2) (by decide), ?_⟩
      (repeat (intro (_ : Tok)))
      exact hM.next fun K hh => hh _ _ _ _ j (td_neg0 h hp0)
    · (repeat (intro (_ : Tok)))
      refine sm_abs ?_
      (repeat (intro (_ : Tok)))
      refine sm_strI hpl ?_
      (repeat (intro (_ : Tok)))
      refine ⟨Nat.le_trans (Nat.add_le_add_left hpd 1) (by decide), ?_⟩
      (repeat (intro (_ : Tok)))
      exact hM.next fun K hh => hh _ _ _ _ j (td_pos0 h hp0 (by lia))
  clear htd
  intro tc te to l j htd
  refine meet_st (fun K => ∀ (tg to : Tok) (tx : List Nat) (p' : Int) (j : Led), SF way tl tx p' → K ⟨[some (.ref sc), some (.ref sp), some (.int kind ta), some (.str (S ds) tb), some (.int at_ tc), some (.int mark td), some (.str (S sg) te), some (.int way tf), some (.int p' tg), some (.str (S tl) th), some (.str (S tx) to), none, none, none, none], j ++ [(sp, listOf [Value.int ((i + 1 + 1 + 1 + 1 + 1 : Nat) : Int) tt5].toArray m5)], [(sc, listOf xs.toArray nn)]⟩) (fun R hM => ?_) ?_
  · refine vc_if (n := 20) G ?_
    (repeat (intro (_ : Tok)))
    have h05 : ((way : Int) = 0 ∨ (way : Int) = 5) → way = 0 ∨ way = 4 ∨ way = 5 := fun h => by lia
    have hno : ¬ ((way : Int) = 0 ∨ (way : Int) = 5) → SF way tl l p := fun h => sf_told hp0 htl htd (by lia) (by lia)
    refine ⟨fun (h4 : (way : Int) = 4) => ?_, fun (h4 : ¬ (way : Int) = 4) => ?_⟩
    · (repeat (intro (_ : Tok)))
      refine ⟨fun (h0 : p = 0) => ?_, fun (h0 : ¬ p = 0) => ?_⟩
      · (repeat (intro (_ : Tok)))
        exact hM.next fun K hh => hh _ _ [] 0 j (sf_none htl (by lia))
      (repeat (intro (_ : Tok)))
      intro _ a3 _
      refine in_two (.inl (.head _)) (fun h => ?_) (fun h => hM.next fun K hh => hh _ _ _ _ (_ :: j) (hno h))
      (repeat (intro (_ : Tok)))
      exact hM.next fun K hh => hh _ _ [] 0 (_ :: j) (sf_none htl (h05 h))
    (repeat (intro (_ : Tok)))
    intro _ a3 _
    refine in_two (.inl (.head _)) (fun h => ?_) (fun h => hM.next fun K hh => hh _ _ _ _ (_ :: j) (hno h))
    (repeat (intro (_ : Tok)))
    exact hM.next fun K hh => hh _ _ [] 0 (_ :: j) (sf_none htl (h05 h))
  clear htd hp0 hpl hpd hps
  intro tg to tx p' j hsf
  have l1 := hsg.len
  have l2 := htl.safe.2
  have l3 : (ds.take at_).length ≤ 20 := Nat.le_trans (by rw [List.length_take]; exact Nat.min_le_right _ _) hdl
  have l4 : (ds.drop at_).length ≤ 20 := Nat.le_trans (by rw [List.length_drop]; exact Nat.sub_le _ _) hdl
  have l5 := hsf.len
  have big : ds.length ≤ 1048576 := Nat.le_trans hdl (by decide)
  refine ⟨big, ?_⟩
  (repeat (intro (_ : Tok)))
  refine ⟨sz l1 l3, ?_⟩
  (repeat (intro (_ : Tok)))
  refine ⟨sz (m := 1) (apl l1 l3) (Nat.le_of_ble_eq_true rfl), ?_⟩
  (repeat (intro (_ : Tok)))
  refine ⟨big, ?_⟩
  (repeat (intro (_ : Tok)))
  have l6 := apl (m := 1) (apl l1 l3) (Nat.le_of_ble_eq_true rfl : [46].length ≤ 1)
  refine ⟨sz l6 l4, ?_⟩
  (repeat (intro (_ : Tok)))
  refine ⟨sz (apl l6 l4) l2, ?_⟩
  (repeat (intro (_ : Tok)))
  refine ⟨sz (apl (apl l6 l4) l2) l5, ?_⟩
  (repeat (intro (_ : Tok)))
  refine sm_len big ?_
  (repeat (intro (_ : Tok)))
  have hf1 : way = 5 → TX ds sg p' (sg ++ ds) 0 := fun h => by rw [hsf.five h]; exact tx_plain hda hdn hdl
  have hf2 : way ≠ 5 → TX ds sg p' (((((sg ++ ds.take at_) ++ [46]) ++ ds.drop at_) ++ tl) ++ tx) ((ds.length : Int) - at_) := fun h => tx_point hda hdl (by lia) htl hsf h
  have hp' := hsf.abs
  clear l1 l2 l3 l4 l5 l6 hsf htl hat
  refine meet_st (fun K => ∀ (t6 t7 : Tok) (text : List Nat) (pl : Int), TX ds sg p' text pl → K ⟨[some (.ref sc), some (.ref sp), some (.int kind ta), some (.str (S ds) tb), some (.int at_ tc), some (.int mark td), some (.str (S sg) te), some (.int way tf), some (.int p' tg), some (.str (S tl) th), some (.str (S tx) to), some (.str (S text) t6), some (.int pl t7), none, none], j ++ [(sp, listOf [Value.int ((i + 1 + 1 + 1 + 1 + 1 : Nat) : Int) tt5].toArray m5)], [(sc, listOf xs.toArray nn)]⟩) (fun R hM => ?_) ?_
  · refine vc_if (n := 20) G ?_
    (repeat (intro (_ : Tok)))
    refine ⟨fun (h5 : (way : Int) = 5) => ?_, fun (h5 : ¬ (way : Int) = 5) => hM.next fun K hh => hh _ _ _ _ (hf2 (by lia))⟩
    refine ⟨sz hsg.len hdl, ?_⟩
    (repeat (intro (_ : Tok)))
    exact hM.next fun K hh => hh _ _ _ _ (hf1 (by lia))
  clear hf1 hf2
  intro t6 t7 text pl htx
  generalize hz : realZ ((if mark = 1 then -1 else 1 : Int) * (dv ds : Nat)) (p' - pl) (digK kind) 38 = z
  obtain ⟨hpl, hok, hbad⟩ := tx_field hk hsg hda hdn htx hz
  have hs1 := hsg.one
  have C5 : ∀ (s : Int) (many : Nat) (td te tm ts : Tok), s = (if mark = 1 then -1 else 1) → many = digK kind → Con w 569 1 [.str (S ds) td, .int (p' - pl) te, .int many tm, .int s ts] [] [] (RndP z) := by
    rintro s many td te tm ts rfl rfl
    rw [← hz]
    exact law_rounded_con w ds (p' - pl) _ _ td te tm ts hda hdl (Nat.le_trans (Int.natAbs_sub_le _ _) (Nat.le_trans (Nat.add_le_add (by assumption) hpl) (by decide))) (by unfold digK; split <;> decide) hs1
  have hK1 : kind = 1 → 7 = digK kind := fun h => by rw [h]; rfl
  have hK2 : ¬ kind = 1 → 15 = digK kind := fun h => by unfold digK; rw [if_neg h]
  have hM1 : (mark : Int) = 1 → (-1 : Int) = if mark = 1 then -1 else 1 := fun h => by rw [if_pos (by lia)]
  have hM2 : ¬ (mark : Int) = 1 → (1 : Int) = if mark = 1 then -1 else 1 := fun h => by rw [if_neg (by lia)]
  clear hs1 htx hda hdl hdn hsg
  refine meet_st (fun K => ∀ (code x : Value) (ex : Led) (j : Addr × Obj), RndE z code x ex → K ⟨[some (.ref sc), some (.ref sp), some (.int kind ta), some (.str (S ds) tb), some (.int at_ tc), some (.int mark td), some (.str (S sg) te), some (.int way tf), some (.int p' tg), some (.str (S tl) th), some (.str (S tx) to), some (.str (S text) t6), some (.int pl t7), some code, some x], j :: (ex ++ [(sp, listOf [Value.int ((i + 1 + 1 + 1 + 1 + 1 : Nat) : Int) tt5].toArray m5)]), [(sc, listOf xs.toArray nn)]⟩) (fun R hM => ?_) ?_
  · refine vc_as (n := 20) G ?_
    (repeat (intro (_ : Tok)))
    refine ⟨fun (h7 : kind = 1) => ?_, fun (h7 : ¬ kind = 1) => ?_⟩
    all_goals
      (repeat (intro (_ : Tok)))
      refine ⟨fun (h8 : (mark : Int) = 1) => ?_, fun (h8 : ¬ (mark : Int) = 1) => ?_⟩
      all_goals (repeat (intro (_ : Tok)))
    all_goals
      refine use G (C5 _ _ _ _ _ _ (by first | exact hM1 h8 | exact hM2 h8) (by first | exact hK1 h7 | exact hK2 h7)) [(sp, _)] (List.forall_mem_singleton.mpr (List.mem_append_right _ (.head _))) (fun _ h => nomatch h) (fun _ _ h => nomatch h) ?_ (fun _ _ r => r.elim)
      intro v new hX42 _
      refine nnOf fun nO => ?_
      obtain ⟨a, code, x, ex, rfl, rfl, he⟩ := hX42 <;> (refine nO ?_; clear nO)
      refine sm_unpack G (.inl (.head _)) rfl rfl ?_
      exact hM.next fun K hh => hh code x ex _ he
  clear C5 hK1 hK2 hM1 hM2
  intro code x ex j he
  intro _ a _
  rcases he with ⟨⟨tc, rfl⟩, q, hq, hpr⟩ | ⟨⟨tc, rfl⟩, rfl, rfl, hq⟩
  · exact hR.ret _ (lawC_ok (Nat.le_refl _) (hok q hq) hpr) (List.forall_mem_cons.mpr ⟨.head _, fun _ h => .tail _ (.tail _ h)⟩)
  · exact hR.ret _ (lawC_bad (Nat.le_refl _) (hbad hq)) (List.forall_mem_cons.mpr ⟨.head _, fun _ h => .tail _ (.tail _ h)⟩)

end
section
theorem bad_ok {kind : Int} {T : List Nat} (h1 : T ≠ []) (h2 : T.length ≤ 60) (h3 : Safe T) (h4 : readKind kind T = .error 1) : FieldOK kind T 1 none := ⟨h1, h2, h3, .inr ⟨by decide, rfl, h4⟩⟩
theorem good_ok {kind : Int} {T : List Nat} {x : Val} (h1 : T ≠ []) (h2 : T.length ≤ 60) (h3 : Safe T) (h4 : readKind kind T = .ok x) : FieldOK kind T 0 (some x) := ⟨h1, h2, h3, .inl ⟨rfl, x, rfl, h4⟩⟩
noncomputable def badL (kn : Nat) : List (List Nat) := if kn = 0 then [[49, 46], [45, 45, 52], [48, 120, 49]] else if kn = 1 then [[49, 46, 53, 46], [69, 53], [43]] else if kn = 2 then [[49, 68], [55, 45, 43, 50], [46, 69, 49]] else [[49, 84], [46], [48]]
theorem bad_pick {kn j : Nat} (hk : kn = 0 ∨ kn = 1 ∨ kn = 2 ∨ kn = 4) (hj : j < 3) : ∃ T, (badL kn)[j]? = some T ∧ FieldOK kn T 1 none := by
  have e : j = 0 ∨ j = 1 ∨ j = 2 := by lia
  rcases hk with rfl | rfl | rfl | rfl <;> rcases e with rfl | rfl | rfl <;> exact ⟨_, rfl, bad_ok (by decide) (by decide) (by unfold Safe; decide) rfl⟩
theorem log_pick {way : Nat} (h : way < 4) : ∃ T, [[84], [46, 70, 65, 76, 83, 69, 46], [70, 49], [46, 84, 82, 85, 69]][way]? = some T ∧ FieldOK 4 T 0 (some (.bool (way % 3 == 0))) := by
  have e : way = 0 ∨ way = 1 ∨ way = 2 ∨ way = 3 := by lia
  rcases e with rfl | rfl | rfl | rfl <;> exact ⟨_, rfl, good_ok (by decide) (by decide) (by unfold Safe; decide) rfl⟩
theorem int_pick {mark n : Nat} (hm : mark < 4) (hn : n < 10 ^ 12) {v : Int} (hv : v = if mark = 1 then -(n : Int) else n) : ∃ sgl, [[], [45], [43], [48, 48]][mark]? = some sgl ∧ sgl.length ≤ 2 ∧ (inW v = true → FieldOK 0 (sgl ++ decL n) 0 (some (.int v))) ∧ (inW v = false → FieldOK 0 (sgl ++ decL n) 2 none) := by
  have hda := decL_all n
  have hdn := decL_ne n
  have hdl : (decL n).length ≤ 12 := decL_le hn (by decide)
  have hdv := decL_dv n
  have e : mark = 0 ∨ mark = 1 ∨ mark = 2 ∨ mark = 3 := by lia
  rcases e with rfl | rfl | rfl | rfl
  · exact ⟨_, rfl, by decide, field_int (sg := []) (s := 1) (.inl ⟨rfl, rfl⟩) hda hdn (by lia) (by rw [hv, if_neg (by decide), hdv]; lia)⟩
  · exact ⟨_, rfl, by decide, field_int (sg := [45]) (s := -1) (.inr (.inl ⟨rfl, rfl⟩)) hda hdn (by lia) (by rw [hv, if_pos rfl, hdv]; lia)⟩
  · exact ⟨_, rfl, by decide, field_int (sg := [43]) (s := 1) (.inr (.inr ⟨rfl, rfl⟩)) hda hdn (by lia) (by rw [hv, if_neg (by decide), hdv]; lia)⟩
  · exact ⟨_, rfl, by decide, field_int (sg := []) (ds := 48 :: 48 :: decL n) (s := 1) (.inl ⟨rfl, rfl⟩) (by rw [List.all_cons, List.all_cons, hda]; rfl) (by simp) (by simp; lia) (by rw [hv, if_neg (by decide), dv_cons, dv_cons, hdv]; simp)⟩
theorem pow_ok {k : Nat} (h : k ≤ 100) : 0 < (10 : Int) ^ k ∧ ((10 : Int) ^ k).natAbs.log2 < 9000 := by
  refine ⟨Int.pow_pos (by decide), ?_⟩
  have e : ((10 : Int) ^ k).natAbs = 10 ^ k := by rw [Int.natAbs_pow]; rfl
  rw [e, Nat.log2_lt (Nat.ne_of_gt (Nat.pow_pos (by lia)))]
  calc 10 ^ k ≤ 16 ^ k := Nat.pow_le_pow_left (by lia) k
    _ = 2 ^ (4 * k) := by rw [Nat.pow_mul]
    _ < 2 ^ 9000 := Nat.pow_lt_pow_right (by lia) (by lia)
theorem div_pow (n k : Nat) : (n : Int) / (10 : Int) ^ k = ((n / 10 ^ k : Nat) : Int) := by rw [show (10 : Int) ^ k = ((10 ^ k : Nat) : Int) by rw [Int.natCast_pow]; rfl]; rfl
section
variable {w : World} {T : Fn} {c : Cx} {kk n : Nat} {rai : Addr → Option Int → Prop} {k : KV}
theorem take_by (G : CxG w T kk rai c) {sc sp : Addr} {xs : List Value} {nn mm i : Nat} {ti tl : Tok} {lim : Int} {ps : List (Option Value)} {led fz : Led} (q : Addr × Obj) (hx : ∀ v ∈ xs, ∃ n t, v = .int n t) (hlen : xs.length ≤ 100) (h0 : 0 < lim) (h1 : lim ≤ 10 ^ 20) (hi : i ≤ 1000)
    (hl : (sp, listOf [Value.int (i : Int) ti].toArray mm) ∈ led) (hq : q ∈ led) (hqs : q.1 ≠ sp) (hz : (sc, listOf xs.toArray nn) ∈ fz) (ret : ∀ (r : Nat) t tt m2, (r : Int) < lim → k (.int (r : Int) t) ⟨ps, [(sp, listOf [Value.int ((i + 1 : Nat) : Int) tt].toArray m2), q], fz⟩) (hk : 1 ≤ kk := by decide) :
    Sm w T c ⟨ps, led, fz⟩ (call (.ref 562) [.ref sc, .ref sp, .int lim tl]) k := by
  refine use G (law_take_con w sc sp xs nn mm i ti tl lim hx hlen h0 h1 hi) [q] (List.forall_mem_cons.mpr ⟨hl, List.forall_mem_singleton.mpr hq⟩) (List.forall_mem_singleton.mpr (.inl hz)) (List.forall_mem_singleton.mpr fun h => hqs (List.mem_singleton.mp h)) ?_ (fun _ _ r => r.elim) hk
  rintro v new ⟨r, t, tt, m2, hr0, hr1, rfl, rfl⟩ _
  obtain ⟨r, rfl⟩ := Int.eq_ofNat_of_zero_le hr0
  exact ret r t tt m2 hr1
end
theorem law_constant_con (w : World) (sc sp : Addr) (xs : List Value) (nn mm i : Nat) (ti tkk : Tok) (kind : Int) (hk : kind = 0 ∨ kind = 1 ∨ kind = 2 ∨ kind = 4) (hx : ∀ v ∈ xs, ∃ n t, v = .int n t) (hlen : xs.length ≤ 100) (hi : i ≤ 880) :
    Con w 583 5 [.ref sc, .ref sp, .int kind tkk] [(sc, listOf xs.toArray nn)] [(sp, listOf [Value.int (i : Int) ti].toArray mm)] (LawC kind sp (i + 12)) := by
  obtain ⟨kn, rfl⟩ : ∃ kn : Nat, kind = kn := ⟨kind.toNat, by lia⟩
  have hkn : kn = 0 ∨ kn = 1 ∨ kn = 2 ∨ kn = 4 := by lia
  refine' con_vc (n := 20) ⟨["script", "spot", "kind", "bad", "number", "mark", "value", "text", "way"], [("_law_take", .ref 562), ("str", .type "str"), ("_law_real", .ref 576)], [562, 576]⟩ (binds := [("script", .ref sc), ("spot", .ref sp), ("kind", .int kn tkk)]) ?hmain
  intro c R G hR
  refine vc_if (n := 20) G ?_
  (repeat (intro (_ : Tok)))
  refine take_at G hx hlen (by decide) (by decide) (by lia) (.head _) (.head _) (fun r t tt m1 _ => ?_)
  (repeat (intro (_ : Tok)))
  refine ⟨fun (_ : (r : Int) = 8) => ?_, fun (_ : ¬ (r : Int) = 8) => ?_⟩
  · (repeat (intro (_ : Tok)))
    intro _ a1 h1
    (repeat (intro (_ : Tok)))
    intro _ a2 h2
    (repeat (intro (_ : Tok)))
    intro _ a3 h3
    (repeat (intro (_ : Tok)))
    intro _ a4 h4
    (repeat (intro (_ : Tok)))
    intro _ a5 h5
    (repeat (intro (_ : Tok)))
    intro _ a6 h6
    have e1 : a1 ≠ sp := Nat.ne_of_gt (h1 _ (.head _))
    have e2 : a2 ≠ sp := Nat.ne_of_gt (h2 _ (.tail _ (.head _)))
    have e3 : a3 ≠ sp := Nat.ne_of_gt (h3 _ (.tail _ (.tail _ (.head _))))
    have e5 : a5 ≠ sp := Nat.ne_of_gt (h5 _ (.tail _ (.tail _ (.tail _ (.tail _ (.head _))))))
    clear h1 h2 h3 h4 h5 h6
    rcases hkn with rfl | rfl | rfl | rfl
    · refine sm_item (i := 0) (.inl (.head _)) rfl rfl (by decide) ?_
      (repeat (intro (_ : Tok)))
      refine take_by G (a1, _) hx hlen (by decide) (by decide) (by lia) (.tail _ (.tail _ (.tail _ (.tail _ (.tail _ (.tail _ (.head _))))))) (.tail _ (.tail _ (.tail _ (.tail _ (.tail _ (.head _)))))) e1 (.head _) (fun j t6 tt6 m6 hj => ?_)
      obtain ⟨T, hT, hf⟩ := bad_pick (kn := 0) (j := j) (by decide) (by lia)
      refine sm_itemS [[49, 46], [45, 45, 52], [48, 120, 49]] (.inl (.tail _ (.head _))) ⟨⟨_, rfl⟩, ⟨_, rfl⟩, ⟨_, rfl⟩, trivial⟩ rfl hT (by lia) ?_
      (repeat (intro (_ : Tok)))
      intro _ a7 _
      exact hR.at [0, 1] (lawC_bad (by lia) hf)
    · refine sm_item (i := 1) (.inl (.head _)) rfl rfl (by decide) ?_
      (repeat (intro (_ : Tok)))
      refine take_by G (a2, _) hx hlen (by decide) (by decide) (by lia) (.tail _ (.tail _ (.tail _ (.tail _ (.tail _ (.tail _ (.head _))))))) (.tail _ (.tail _ (.tail _ (.tail _ (.head _))))) e2 (.head _) (fun j t6 tt6 m6 hj => ?_)
      obtain ⟨T, hT, hf⟩ := bad_pick (kn := 1) (j := j) (by decide) (by lia)
      refine sm_itemS [[49, 46, 53, 46], [69, 53], [43]] (.inl (.tail _ (.head _))) ⟨⟨_, rfl⟩, ⟨_, rfl⟩, ⟨_, rfl⟩, trivial⟩ rfl hT (by lia) ?_
      (repeat (intro (_ : Tok)))
      intro _ a7 _
      exact hR.at [0, 1] (lawC_bad (by lia) hf)
    · refine sm_item (i := 2) (.inl (.head _)) rfl rfl (by decide) ?_
      (repeat (intro (_ : Tok)))
      refine take_by G (a3, _) hx hlen (by decide) (by decide) (by lia) (.tail _ (.tail _ (.tail _ (.tail _ (.tail _ (.tail _ (.head _))))))) (.tail _ (.tail _ (.tail _ (.head _)))) e3 (.head _) (fun j t6 tt6 m6 hj => ?_)
      obtain ⟨T, hT, hf⟩ := bad_pick (kn := 2) (j := j) (by decide) (by lia)
      refine sm_itemS [[49, 68], [55, 45, 43, 50], [46, 69, 49]] (.inl (.tail _ (.head _))) ⟨⟨_, rfl⟩, ⟨_, rfl⟩, ⟨_, rfl⟩, trivial⟩ rfl hT (by lia) ?_
      (repeat (intro (_ : Tok)))
      intro _ a7 _
      exact hR.at [0, 1] (lawC_bad (by lia) hf)
    · refine sm_item (i := 4) (.inl (.head _)) rfl rfl (by decide) ?_
      (repeat (intro (_ : Tok)))
      refine take_by G (a5, _) hx hlen (by decide) (by decide) (by lia) (.tail _ (.tail _ (.tail _ (.tail _ (.tail _ (.tail _ (.head _))))))) (.tail _ (.head _)) e5 (.head _) (fun j t6 tt6 m6 hj => ?_)
      obtain ⟨T, hT, hf⟩ := bad_pick (kn := 4) (j := j) (by decide) (by lia)
      refine sm_itemS [[49, 84], [46], [48]] (.inl (.tail _ (.head _))) ⟨⟨_, rfl⟩, ⟨_, rfl⟩, ⟨_, rfl⟩, trivial⟩ rfl hT (by lia) ?_
      (repeat (intro (_ : Tok)))
      intro _ a7 _
      exact hR.at [0, 1] (lawC_bad (by lia) hf)
  refine vc_if (n := 20) G ?_
  (repeat (intro (_ : Tok)))
  refine ⟨fun (h0 : (kn : Int) = 0) => ?_, fun (h0 : ¬ (kn : Int) = 0) => ?_⟩
  · obtain rfl : kn = 0 := by lia
    (repeat (intro (_ : Tok)))
    refine ⟨⟨by decide, by decide, by decide⟩, ?_⟩
    (repeat (intro (_ : Tok)))
    refine take_at G hx hlen (by decide) (by decide) (by lia) (.head _) (.head _) (fun n t2 tt2 m2 hn => ?_)
    have hn12 : n < 10 ^ 12 := by
      have e12 : (10 : Int) ^ Int.toNat 12 = 1000000000000 := by decide
      rw [e12] at hn; lia
    (repeat (intro (_ : Tok)))
    refine take_at G hx hlen (by decide) (by decide) (by lia) (.head _) (.head _) (fun r2 t3 tt3 m3 hr2 => ?_)
    refine ⟨⟨by lia, by lia, by decide⟩, ?_⟩
    (repeat (intro (_ : Tok)))
    refine ⟨pow_ok (by lia), ?_⟩
    rw [Int.toNat_natCast, div_pow]
    have hq : n / 10 ^ r2 < 10 ^ 12 := Nat.lt_of_le_of_lt (Nat.div_le_self _ _) hn12
    generalize n / 10 ^ r2 = q at *
    clear hn hn12 hr2
    (repeat (intro (_ : Tok)))
    refine take_at G hx hlen (by decide) (by decide) (by lia) (.head _) (.head _) (fun mark t4 tt4 m4 hm => ?_)
    refine meet_st (fun K => ∀ (tb tc td : Tok) (v : Int), v = (if mark = 1 then -(q : Int) else q) → K ⟨[some (.ref sc), some (.ref sp), some (.int (0 : Nat) tkk), none, some (.int q tb), some (.int mark tc), some (.int v td), none, none], [(sp, listOf [Value.int ((i + 1 + 1 + 1 + 1 : Nat) : Int) tt4].toArray m4)], [(sc, listOf xs.toArray nn)]⟩) (fun R hM => ?_) ?_
    · refine vc_as (n := 20) G ?_
      (repeat (intro (_ : Tok)))
      refine ⟨fun (h : (mark : Int) = 1) => ?_, fun (h : ¬ (mark : Int) = 1) => ?_⟩
      · (repeat (intro (_ : Tok)))
        exact hM.next fun K hh => hh _ _ _ _ (by rw [if_pos (by lia)])
      · exact hM.next fun K hh => hh _ _ _ _ (by rw [if_neg (by lia)])
    intro tb tc td v hv
    refine nnOf fun nO => ?_
    obtain ⟨sgl, hs1, hs2, hs3, hs4⟩ := int_pick (mark := mark) (by lia) hq hv <;> (refine nO ?_; clear nO)
    (repeat (intro (_ : Tok)))
    intro _ a1 _
    refine sm_itemS [[], [45], [43], [48, 48]] (.inl (.head _)) ⟨⟨_, rfl⟩, ⟨_, rfl⟩, ⟨_, rfl⟩, ⟨_, rfl⟩, trivial⟩ rfl hs1 (by lia) ?_
    (repeat (intro (_ : Tok)))
    refine sm_strI (Nat.lt_trans hq (by decide)) ?_
    (repeat (intro (_ : Tok)))
    refine ⟨sz hs2 (decL_le hq (by decide)), ?_⟩
    (repeat (intro (_ : Tok)))
    refine sm_chain2 (n := 20) G ?_
    (repeat (intro (_ : Tok)))
    refine ⟨⟨by decide, by decide, by decide⟩, ?_⟩
    (repeat (intro (_ : Tok)))
    refine ⟨fun (h1 : -2147483648 ≤ v) => ?_, fun (h1 : ¬ -2147483648 ≤ v) => ?_⟩
    · (repeat (intro (_ : Tok)))
      refine ⟨⟨by decide, by decide, by decide⟩, ?_⟩
      (repeat (intro (_ : Tok)))
      refine ⟨fun (h2 : v < 2147483648) => ?_, fun (h2 : ¬ v < 2147483648) => ?_⟩
      · (repeat (intro (_ : Tok)))
        intro _ a7 _
        exact hR.at [0, 2] (lawC_ok (ex := []) (by lia) (hs3 (by unfold inW; rw [decide_eq_true h1, decide_eq_true h2]; rfl)) ⟨⟨_, rfl⟩, rfl⟩)
      · (repeat (intro (_ : Tok)))
        intro _ a7 _
        exact hR.at [0, 2] (lawC_bad (by lia) (hs4 (by unfold inW; rw [decide_eq_false h2, Bool.and_false])))
    · (repeat (intro (_ : Tok)))
      intro _ a7 _
      exact hR.at [0, 2] (lawC_bad (by lia) (hs4 (by unfold inW; rw [decide_eq_false h1, Bool.false_and])))
  refine vc_if (n := 20) G ?_
  (repeat (intro (_ : Tok)))
  refine ⟨fun (h4 : (kn : Int) = 4) => ?_, fun (h4 : ¬ (kn : Int) = 4) => ?_⟩
  · obtain rfl : kn = 4 := by lia
    (repeat (intro (_ : Tok)))
    refine take_at G hx hlen (by decide) (by decide) (by lia) (.head _) (.head _) (fun way t2 tt2 m2 hw => ?_)
    obtain ⟨T, hT, hf⟩ := log_pick (way := way) (by lia)
    (repeat (intro (_ : Tok)))
    intro _ a1 _
    refine sm_itemS [[84], [46, 70, 65, 76, 83, 69, 46], [70, 49], [46, 84, 82, 85, 69]] (.inl (.head _)) ⟨⟨_, rfl⟩, ⟨_, rfl⟩, ⟨_, rfl⟩, ⟨_, rfl⟩, trivial⟩ rfl hT (by lia) ?_
    (repeat (intro (_ : Tok)))
    refine ⟨by decide, ?_⟩
    (repeat (intro (_ : Tok)))
    refine ⟨fun (h : (way : Int) % 3 = 0) => ?_, fun (h : ¬ (way : Int) % 3 = 0) => ?_⟩
    · intro _ a7 _
      rw [show (way % 3 == 0) = true from beq_iff_eq.mpr (by lia)] at hf
      exact hR.at [0, 2] (lawC_ok (ex := []) (by lia) hf ⟨rfl, rfl⟩)
    · intro _ a7 _
      rw [show (way % 3 == 0) = false from beq_eq_false_iff_ne.mpr (by lia)] at hf
      exact hR.at [0, 2] (lawC_ok (ex := []) (by lia) hf ⟨rfl, rfl⟩)
  have hk2 : (kn : Int) = 1 ∨ (kn : Int) = 2 := by lia
  refine use G (law_real_con w sc sp xs nn m1 (i + 1) tt tkk kn hk2 hx hlen (by lia)) [] (fun _ h => h) (List.forall_mem_singleton.mpr (.inl (.head _))) (fun _ h => nomatch h) ?_ (fun _ _ r => r.elim)
  exact fun v new h _ => hR.ret new (h.mono (by lia)) (fun _ h => List.mem_append_left _ h)

end
section

open PySem PySem.W PyProof.Rows PySem.Calls PySem.Spec
noncomputable def valD : Val → PyData
  | .int n => .int n
  | .bool b => .bool b
  | .pair x y => .tuple [.int x, .int y]
theorem eqv_val : ∀ x : Val, PyData.eqv (valD x) (valD x) = true
  | .int n => by simp [valD, PyData.eqv]
  | .bool b => by cases b <;> simp [valD, PyData.eqv]
  | .pair x y => by simp [valD, PyData.eqv, PyData.eqvAll]
theorem eqvAll_val : ∀ xs : List Val, PyData.eqvAll (xs.map valD) (xs.map valD) = true
  | [] => by simp [PyData.eqvAll]
  | x :: r => by simp [PyData.eqvAll, eqv_val x, eqvAll_val r]
theorem lay_val : ∀ xs : List Val, PyData.canLayAll0 (xs.map valD) = true ∧ PyData.depthAll (xs.map valD) ≤ 1
  | [] => by simp [PyData.canLayAll0, PyData.depthAll]
  | x :: r => by
    have ih := lay_val r
    cases x <;> simp [valD, PyData.canLayAll0, PyData.canLay0, PyData.depthAll, PyData.depth, ih.1] <;> lia
theorem shaped_val (xs : List Val) : PySem.SeqAt.shaped (.list (xs.map valD)) = true := by
  have := lay_val xs
  simp [PySem.SeqAt.shaped, PyData.canLay0, PyData.depth, this.1]
  lia
theorem nought_K {w : World} {g h : Heap} {L : Addr} {m : PySem.Str → Option Value} (X : (KP w.params).In g) (F : Fr g L h m) : Reads h (.ref 104) (.tuple [.int 0, .int 0]) [] := by
  have hk : (KP w.params).lookup 104 = some ⟨.type "tuple", none, .seq [.int 0 324, .int 0 325].toArray 0, #[]⟩ := by kernel_rfl
  exact reads_tuple_at (F.keep _ _ (X _ _ hk)) rfl rfl (ReadsAll.cons (Reads.int _ _) (ReadsAll.cons (Reads.int _ _) ReadsAll.nil))
theorem reads_val {w : World} {g h : Heap} {L : Addr} {m : PySem.Str → Option Value} {led new : Led} {v : Value} {x : Val} (X : (KP w.params).In g) (F : Fr g L h m) (N : News g L h led) (hs : ∀ p ∈ new, p ∈ led) (hv : ValIs v new x) : Reads h v (valD x) [] := by
  cases x with
  | int n => obtain ⟨⟨t, rfl⟩, _⟩ := hv; exact Reads.int _ _
  | bool b => obtain ⟨rfl, _⟩ := hv; exact Reads.bool _
  | pair a b =>
    rcases hv with ⟨d, vx, vy, rfl, rfl, ⟨tx, rfl⟩, ⟨ty, rfl⟩⟩ | ⟨rfl, _, rfl, rfl⟩
    · exact reads_tuple_at (N _ (hs _ (.head _))).1 rfl rfl (ReadsAll.cons (Reads.int _ _) (ReadsAll.cons (Reads.int _ _) ReadsAll.nil))
    · exact nought_K X F
theorem reads_vals {w : World} {g h : Heap} {L : Addr} {m : PySem.Str → Option Value} {led ex : Led} (X : (KP w.params).In g) (F : Fr g L h m) (N : News g L h led) (hs : ∀ p ∈ ex, p ∈ led) : ∀ {vs : List Value} {xs : List Val}, Vals vs ex xs → ReadsAll h vs (xs.map valD) []
  | [], [], _ => ReadsAll.nil
  | [], _ :: _, V => by have := V.len; simp at this
  | _ :: _, [], V => by have := V.len; simp at this
  | v :: vs, x :: xs, V => by
    obtain ⟨new, hn, hv⟩ := V.each 0 v x rfl rfl
    exact ReadsAll.cons (as := []) (bs := []) (reads_val X F N (fun p hp => hs p (hn p hp)) hv) (reads_vals X F N hs ⟨by simpa using V.len, fun i u y hu hy => V.each (i + 1) u y (by simpa using hu) (by simpa using hy), V.tup⟩)
theorem eq_vals {w : World} {prog : Program} {A : Around} {E : Value → Shared → Prop} {s : Shared} {g : Heap} {L a b : Addr} {m : PySem.Str → Option Value} {led ex1 ex2 : Led} {vs us : List Value} {n k : Nat} {xs : List Val} {Q : Value → Shared → Prop} (X : (KP w.params).In g) (F : Fr g L s.heap m) (N : News g L s.heap led)
    (h1 : (a, listOf vs.toArray n) ∈ led) (h2 : (b, listOf us.toArray k) ∈ led) (s1 : ∀ p ∈ ex1, p ∈ led) (s2 : ∀ p ∈ ex2, p ∈ led) (V1 : Vals vs ex1 xs) (V2 : Vals us ex2 xs) (hu : A.units + 64 < cLine) (h : Q (.bool true) s) :
    wpAny (model prog w) A (compareOp .Eq (.ref a) (.ref b)) Q E s := by
  refine eq_dataH (reads_list_at (N _ h1).1 rfl rfl (reads_vals X F N s1 V1)) (reads_list_at (N _ h2).1 rfl rfl (reads_vals X F N s2 V2)) (shaped_val xs) (shaped_val xs) hu ?_
  have : PyData.eqv (.list (xs.map valD)) (.list (xs.map valD)) = true := by simp [PyData.eqv, eqvAll_val]
  rw [this]
  exact h

structure Fd where
  kind : Int
  text : List Nat
  bl : Nat
  fell : Int
  x : Option Val
noncomputable def Fd.full (f : Fd) : List Nat := List.replicate f.bl 32 ++ f.text
noncomputable def FdOK (f : Fd) : Prop := (f.kind = 0 ∨ f.kind = 4 ∨ f.kind = 1 ∨ f.kind = 2) ∧ FieldOK f.kind f.text f.fell f.x ∧ 1 ≤ f.bl ∧ f.bl ≤ 3
noncomputable def rowT (l : List Fd) : List Nat := (l.map Fd.full).flatten
theorem rowT_snoc (l : List Fd) (f : Fd) : rowT (l ++ [f]) = rowT l ++ f.full := by simp [rowT]
theorem rowT_app (a b : List Fd) : rowT (a ++ b) = rowT a ++ rowT b := by simp [rowT]
noncomputable def codeOf (l : List Fd) : Int := l.foldl (fun c f => if c = 0 then f.fell else c) 0
theorem codeOf_snoc (l : List Fd) (f : Fd) : codeOf (l ++ [f]) = if codeOf l = 0 then f.fell else codeOf l := by unfold codeOf; rw [List.foldl_append]; rfl
theorem codeOf_acc : ∀ (l : List Fd) (c : Int), c ≠ 0 → l.foldl (fun c f => if c = 0 then f.fell else c) c = c
  | [], _, _ => rfl
  | f :: r, c, h => by rw [List.foldl_cons, if_neg h, codeOf_acc r c h]
theorem codeOf_cons (f : Fd) (l : List Fd) : codeOf (f :: l) = if f.fell = 0 then codeOf l else f.fell := by
  unfold codeOf
  rw [List.foldl_cons, if_pos rfl]
  split
  · rename_i h; rw [h]
  · rename_i h; exact codeOf_acc l _ h
noncomputable def fsL (l : List Fd) : List (Int × List Nat) := l.map fun f => (f.kind, f.text)
noncomputable def fsF (l : List Fd) : List (Int × List Nat) := l.map fun f => (f.kind, f.full)
theorem fs_same : ∀ l : List Fd, readAll (fsF l) = readAll (fsL l)
  | [] => rfl
  | f :: r => by
    simp only [fsF, fsL, List.map_cons, readAll]
    rw [show readKind f.kind f.full = readKind f.kind f.text from readKind_blank _ _ _]
    have ih := fs_same r
    unfold fsF fsL at ih
    rw [ih]
theorem read_all : ∀ l : List Fd, (∀ f ∈ l, FdOK f) → (codeOf l = 0 → ∃ xs, readAll (fsL l) = .ok xs ∧ l.map Fd.x = xs.map some) ∧ (codeOf l ≠ 0 → readAll (fsL l) = .error (codeOf l))
  | [], _ => ⟨fun _ => ⟨[], rfl, rfl⟩, fun h => absurd rfl h⟩
  | f :: r, h => by
    have ih := read_all r fun g hg => h g (.tail _ hg)
    obtain ⟨_, hok, _⟩ := h f (.head _)
    rw [codeOf_cons]
    simp only [fsL, List.map_cons, readAll]
    unfold fsL at ih
    rcases hok.read with ⟨h0, y, hy, hr⟩ | ⟨h0, hy, hr⟩
    · rw [if_pos h0, hr]
      dsimp only
      refine ⟨fun hc => ?_, fun hc => ?_⟩
      · obtain ⟨xs, q1, q2⟩ := ih.1 hc
        rw [q1]
        exact ⟨y :: xs, rfl, by rw [List.map_cons, hy, q2]⟩
      · rw [ih.2 hc]
    · rw [if_neg h0, hr]
      exact ⟨fun hc => absurd hc h0, fun _ => rfl⟩

end
section
open PySem PySem.W PyProof.Rows PySem.Calls PySem.Spec
inductive It where
  | slash
  | fld (f : Fd)
noncomputable def ItOK : It → Obj → Prop
  | .slash, o => ∃ t, o = tupO [.str "/" t]
  | .fld f, o => ∃ vs, o = tupO vs ∧ ItemOf f.kind (f.full.length : Nat) vs
structure Its (its : Led) (sp : List It) : Prop where
  intro ::
  len : its.length = sp.length
  each : ∀ (i : Nat) p s, its[i]? = some p → sp[i]? = some s → ItOK s p.2
theorem Its.nil : Its [] [] := ⟨rfl, fun i p s h => by simp at h⟩
theorem Its.snoc {its : Led} {sp : List It} {p : Addr × Obj} {s : It} (h : Its its sp) (hs : ItOK s p.2) : Its (its ++ [p]) (sp ++ [s]) := by
  refine ⟨by simp [h.len], fun i q r hq hr => ?_⟩
  rcases Nat.lt_trichotomy i its.length with c | c | c
  · rw [List.getElem?_append_left c] at hq
    rw [List.getElem?_append_left (h.len ▸ c)] at hr
    exact h.each i q r hq hr
  · subst c
    simp at hq
    rw [h.len] at hr
    simp at hr
    subst hq; subst hr; exact hs
  · rw [List.getElem?_eq_none (by simp; lia)] at hq; cases hq
theorem Its.get {its : Led} {sp : List It} (h : Its its sp) {i : Nat} {s : It} (hs : sp[i]? = some s) : ∃ p, its[i]? = some p ∧ ItOK s p.2 := by
  have hi := (List.getElem?_eq_some_iff.mp hs).1
  obtain ⟨p, hp⟩ : ∃ p, its[i]? = some p := ⟨_, List.getElem?_eq_getElem (by rw [h.len]; exact hi)⟩
  exact ⟨p, hp, h.each i p s hp hs⟩
theorem itOK_flat {s : It} {o : Obj} (h : ItOK s o) : Flat o := by
  cases s with
  | slash => obtain ⟨t, rfl⟩ := h; exact ⟨_, _, _, rfl, by decide +kernel, by decide +kernel, by decide +kernel⟩
  | fld f =>
    obtain ⟨vs, rfl, h⟩ := h
    rcases h with ⟨_, ta, tb, rfl⟩ | ⟨_, ta, tb, rfl⟩ | ⟨_, ⟨ta, tb, tc, rfl⟩ | ⟨ta, tb, tc, rfl⟩ | ⟨ta, tb, tc, td, rfl⟩⟩ <;> exact ⟨_, _, _, rfl, by decide +kernel, by decide +kernel, by decide +kernel⟩
theorem Its.flat {its : Led} {sp : List It} (h : Its its sp) : ∀ p ∈ its, Flat p.2 := fun p hp => by
  obtain ⟨i, hi⟩ := List.mem_iff_getElem?.mp hp
  have hl := (List.getElem?_eq_some_iff.mp hi).1
  exact itOK_flat (h.each i p _ hi (List.getElem?_eq_getElem (by rw [← h.len]; exact hl)))
noncomputable def spOf : List (List Fd) → List It
  | [] => []
  | A :: r => A.map It.fld ++ (r.map fun B => It.slash :: B.map It.fld).flatten
theorem spOf_snoc (A : List Fd) (r : List (List Fd)) (c : List Fd) : spOf (A :: r ++ [c]) = spOf (A :: r) ++ [It.slash] ++ c.map It.fld := by simp [spOf]
structure Recs (recs : List Value) (R : List (List Fd)) : Prop where
  intro ::
  len : recs.length = R.length
  each : ∀ (i : Nat) row, R[i]? = some row → ∃ t, recs[i]? = some (.str (S (rowT row)) t)
theorem Recs.snoc {recs : List Value} {R : List (List Fd)} {row : List Fd} {t : Tok} (h : Recs recs R) : Recs (recs ++ [.str (S (rowT row)) t]) (R ++ [row]) := by
  refine ⟨by simp [h.len], fun i q hq => ?_⟩
  rcases Nat.lt_trichotomy i R.length with c | c | c
  · rw [List.getElem?_append_left c] at hq
    rw [List.getElem?_append_left (by rw [h.len]; exact c)]
    exact h.each i q hq
  · subst c
    simp at hq
    subst hq
    exact ⟨t, by rw [← h.len]; simp⟩
  · rw [List.getElem?_eq_none (by simp; lia)] at hq; cases hq
structure Wants (ws : Led) (F : List Fd) : Prop where
  intro ::
  len : ws.length = F.length
  each : ∀ (i : Nat) f, F[i]? = some f → ∃ wa v1 v2, ws[i]? = some (wa, tupO [v1, v2]) ∧ IsI v1 f.kind ∧ IsI v2 0
theorem Wants.snoc {ws : Led} {F : List Fd} {f : Fd} {wa : Addr} {v1 v2 : Value} (h : Wants ws F) (h1 : IsI v1 f.kind) (h2 : IsI v2 0) : Wants (ws ++ [(wa, tupO [v1, v2])]) (F ++ [f]) := by
  refine ⟨by simp [h.len], fun i q hq => ?_⟩
  rcases Nat.lt_trichotomy i F.length with c | c | c
  · rw [List.getElem?_append_left c] at hq
    rw [List.getElem?_append_left (by rw [h.len]; exact c)]
    exact h.each i q hq
  · subst c
    simp at hq
    subst hq
    exact ⟨wa, v1, v2, by rw [← h.len]; simp, h1, h2⟩
  · rw [List.getElem?_eq_none (by simp; lia)] at hq; cases hq
theorem Wants.nil : Wants [] [] := ⟨rfl, fun i f h => by simp at h⟩
theorem Recs.nil : Recs [] [] := ⟨rfl, fun i f h => by simp at h⟩
structure Dues (vs : List Value) (ex : Led) (F : List Fd) : Prop where
  intro ::
  len : vs.length = F.length
  each : ∀ (i : Nat) v f, vs[i]? = some v → F[i]? = some f → ∃ new, (∀ p ∈ new, p ∈ ex) ∧ OptIs v new f.x
  tup : ∀ p ∈ ex, p.2.cls = .type "tuple"
theorem Dues.nil : Dues [] [] [] := ⟨rfl, fun i v f h => by simp at h, List.forall_mem_nil _⟩
theorem optIs_tup {v : Value} {new : Led} : ∀ {x : Option Val}, OptIs v new x → ∀ p ∈ new, p.2.cls = .type "tuple"
  | none, h => by obtain ⟨_, rfl⟩ := h; exact List.forall_mem_nil _
  | some _, h => valIs_tup h
theorem Dues.snoc {vs : List Value} {ex new : Led} {F : List Fd} {f : Fd} {v : Value} (h : Dues vs ex F) (hv : OptIs v new f.x) : Dues (vs ++ [v]) (new ++ ex) (F ++ [f]) := by
  refine ⟨by simp [h.len], fun i u g hu hg => ?_, fun p hp => (List.mem_append.mp hp).elim (optIs_tup hv p) (h.tup p)⟩
  rcases Nat.lt_trichotomy i vs.length with c | c | c
  · rw [List.getElem?_append_left c] at hu
    rw [List.getElem?_append_left (h.len ▸ c)] at hg
    obtain ⟨n, hn, q⟩ := h.each i u g hu hg
    exact ⟨n, fun p hp => List.mem_append_right _ (hn p hp), q⟩
  · subst c
    simp at hu
    rw [h.len] at hg
    simp at hg
    subst hu; subst hg
    exact ⟨new, fun p hp => List.mem_append_left _ hp, hv⟩
  · rw [List.getElem?_eq_none (by simp; lia)] at hu; cases hu
theorem Dues.vals {vs : List Value} {ex : Led} {F : List Fd} {xs : List Val} (h : Dues vs ex F) (hx : F.map Fd.x = xs.map some) : Vals vs ex xs := by
  have hl : F.length = xs.length := by simpa using congrArg List.length hx
  refine ⟨h.len.trans hl, fun i v y hv hy => ?_, h.tup⟩
  have hi := (List.getElem?_eq_some_iff.mp hy).1
  obtain ⟨f, hf⟩ : ∃ f, F[i]? = some f := ⟨_, List.getElem?_eq_getElem (hl ▸ hi)⟩
  obtain ⟨new, hn, hv'⟩ := h.each i v f hv hf
  have : (F.map Fd.x)[i]? = (xs.map some)[i]? := by rw [hx]
  rw [List.getElem?_map, List.getElem?_map, hf, hy] at this
  have e : f.x = some y := by simpa using this
  rw [e] at hv'
  exact ⟨new, hn, hv'⟩

theorem rowT_split {l : List Fd} {j : Nat} {f : Fd} (h : l[j]? = some f) : rowT l = rowT (l.take j) ++ (f.full ++ rowT (l.drop (j + 1))) := by
  obtain ⟨hj, rfl⟩ := List.getElem?_eq_some_iff.mp h
  conv => lhs; rw [← List.take_append_drop j l, List.drop_eq_getElem_cons hj]
  rw [rowT_app]
  rfl
theorem rowT_take {l : List Fd} {j : Nat} {f : Fd} (h : l[j]? = some f) : rowT (l.take (j + 1)) = rowT (l.take j) ++ f.full := by
  rw [List.take_add_one, h]
  exact rowT_snoc _ _
theorem full_len {f : Fd} (h : FdOK f) : f.full.length ≤ 63 := by
  have := h.2.1.len
  have := h.2.2.2
  unfold Fd.full
  rw [List.length_append, List.length_replicate]
  lia
theorem rowT_len : ∀ {l : List Fd}, (∀ f ∈ l, FdOK f) → (rowT l).length ≤ 63 * l.length
  | [], _ => by simp [rowT]
  | f :: r, h => by
    have := rowT_len fun g hg => h g (.tail _ hg)
    have := full_len (h f (.head _))
    have e : rowT (f :: r) = f.full ++ rowT r := rfl
    rw [e, List.length_append, List.length_cons]
    lia
noncomputable def iSf (n j : Nat) : Nat := if j ≤ n then j else j + 1
noncomputable def aSf (n j : Nat) : Nat := if j ≤ n then 1 else 2
noncomputable def rSf (A B : List Fd) (j : Nat) : List Nat := if j ≤ A.length then rowT A else rowT B
noncomputable def pSf (A B : List Fd) (j : Nat) : Nat := if j ≤ A.length then (rowT (A.take j)).length else (rowT (B.take (j - A.length))).length
theorem get_app {A B : List Fd} {j : Nat} {f : Fd} (h : (A ++ B)[j]? = some f) : (j < A.length ∧ A[j]? = some f) ∨ (A.length ≤ j ∧ B[j - A.length]? = some f) := by
  rcases Nat.lt_or_ge j A.length with c | c
  · rw [List.getElem?_append_left c] at h; exact .inl ⟨c, h⟩
  · rw [List.getElem?_append_right c] at h; exact .inr ⟨c, h⟩
noncomputable def rows (A B : List Fd) : List (List Fd) := if B = [] then [A] else [A, B]
theorem sp_left {A B : List Fd} {j : Nat} {f : Fd} (h : A[j]? = some f) : (spOf (rows A B))[j]? = some (.fld f) := by
  have hj := (List.getElem?_eq_some_iff.mp h).1
  unfold rows
  split
  · simp [spOf, h]
  · simp only [spOf]
    rw [List.getElem?_append_left (by simpa using hj)]
    simp [h]
theorem sp_mid {A B : List Fd} (h : B ≠ []) : (spOf (rows A B))[A.length]? = some .slash := by
  unfold rows
  rw [if_neg h]
  simp [spOf]
theorem sp_right {A B : List Fd} {j : Nat} {f : Fd} (h : B[j]? = some f) : (spOf (rows A B))[A.length + (j + 1)]? = some (.fld f) := by
  have hn : B ≠ [] := by rintro rfl; simp at h
  unfold rows
  rw [if_neg hn]
  simp only [spOf, List.map_cons, List.map_nil, List.flatten_cons, List.flatten_nil, List.append_nil]
  rw [List.getElem?_append_right (by simp)]
  simp [h]
theorem sp_len (A B : List Fd) : (spOf (rows A B)).length = iSf A.length (A ++ B).length := by
  unfold rows iSf
  split
  · rename_i h; subst h; simp [spOf]
  · rename_i h
    have : 0 < B.length := List.length_pos_iff.mpr h
    rw [if_neg (by simp; lia)]
    simp [spOf]; lia
theorem way_of {A B : List Fd} {its : Led} {recs : List Value} (hok : ∀ f ∈ A ++ B, FdOK f) (hA : A.length ≤ 4) (hB : B.length ≤ 4) (hi : Its its (spOf (rows A B))) (hr : Recs recs (rows A B)) :
    ∀ (j : Nat) k t, (fsF (A ++ B))[j]? = some (k, t) → Way its recs (iSf A.length) (aSf A.length) (pSf A B) (rSf A B) k t j := by
  intro j k t h
  obtain ⟨f, hf, hkt⟩ : ∃ f, (A ++ B)[j]? = some f ∧ (f.kind, f.full) = (k, t) := by
    unfold fsF at h
    rw [List.getElem?_map] at h
    cases e : (A ++ B)[j]? with
    | none => rw [e] at h; cases h
    | some f => rw [e] at h; exact ⟨f, rfl, by simpa using h⟩
  cases hkt
  have hfl := full_len (hok f (List.mem_of_getElem? hf))
  have lA := rowT_len fun g hg => hok g (List.mem_append_left B hg)
  have lB := rowT_len fun g hg => hok g (List.mem_append_right A hg)
  have hrl : ∀ j, (rSf A B j).length ≤ 1000 := fun j => by unfold rSf; split <;> lia
  rcases get_app hf with ⟨hj, hfA⟩ | ⟨hj, hfB⟩
  · refine nnOf fun nO => ?_
    obtain ⟨⟨it, o⟩, hp, vs, rfl, hvs⟩ := hi.get (sp_left (B := B) hfA) <;> (refine nO ?_; clear nO)
    refine ⟨it, vs, f.full.length, hvs, by lia, hrl _, .inl ?_⟩
    have s1 := rowT_split hfA
    have s2 := rowT_take hfA
    unfold iSf aSf rSf pSf
    rw [if_pos (Nat.le_of_lt hj), if_pos (show j + 1 ≤ A.length from hj), if_pos (Nat.le_of_lt hj), if_pos (show j + 1 ≤ A.length from hj), if_pos (Nat.le_of_lt hj), if_pos (show j + 1 ≤ A.length from hj), if_pos (Nat.le_of_lt hj), if_pos (show j + 1 ≤ A.length from hj)]
    refine ⟨hp, ?_, ?_, rfl, rfl, rfl, ?_⟩
    · rw [s1, List.length_append, List.length_append]; lia
    · rw [s1, List.drop_left' rfl, List.take_left' rfl]
    · rw [s2, List.length_append]
  · have hBn : B ≠ [] := by rintro rfl; simp at hfB
    have hrow : recs.length = 2 ∧ ∃ t, recs[1]? = some (.str (S (rowT B)) t) := by
      have h1 := hr.len
      have h2 := hr.each 1 B
      unfold rows at h1 h2
      rw [if_neg hBn] at h1 h2
      exact ⟨h1, h2 rfl⟩
    have s1 := rowT_split hfB
    have s2 := rowT_take hfB
    refine nnOf fun nO => ?_
    obtain ⟨⟨it, o⟩, hp, vs, rfl, hvs⟩ := hi.get (sp_right (A := A) hfB) <;> (refine nO ?_; clear nO)
    refine ⟨it, vs, f.full.length, hvs, by lia, hrl _, ?_⟩
    rcases Nat.lt_or_ge A.length j with c | c
    · refine .inl ?_
      have e1 : ¬ j ≤ A.length := by lia
      have e2 : ¬ j + 1 ≤ A.length := by lia
      unfold iSf aSf rSf pSf
      simp only [if_neg e1, if_neg e2]
      have e3 : j + 1 - A.length = (j - A.length) + 1 := by lia
      refine ⟨?_, ?_, ?_, by trivial, by trivial, by trivial, ?_⟩
      · rw [← hp]; congr 1; lia
      · rw [s1, List.length_append, List.length_append]; lia
      · rw [s1, List.drop_left' rfl, List.take_left' rfl]
      · rw [e3, s2, List.length_append]
    · refine .inr ?_
      have e0 : j = A.length := by lia
      subst e0
      refine nnOf fun nO => ?_
      obtain ⟨⟨sl, o⟩, hq, tz, hz⟩ := hi.get (sp_mid (A := A) hBn) <;> (refine nO ?_; clear nO)
      dsimp only at hz
      subst hz
      obtain ⟨_, tq, hrec⟩ := hrow
      have e2 : ¬ A.length + 1 ≤ A.length := by lia
      have e3 : A.length + 1 - A.length = 0 + 1 := by lia
      rw [Nat.sub_self] at s1 s2 hp
      have e4 : rowT (B.take 0) = [] := rfl
      rw [e4, List.nil_append] at s1 s2
      unfold iSf aSf rSf pSf
      simp only [if_pos (Nat.le_refl A.length), if_neg e2, e3]
      refine ⟨sl, tz, tq, hq, ?_, hrec, ?_, ?_, by trivial, by trivial, ?_⟩
      · rw [← hp]
      · rw [s1, List.length_append]; lia
      · rw [s1, List.take_left' rfl]
      · rw [s2]
theorem safe_not {T : List Nat} (h : Safe T) : ∀ z ∈ T, ¬ sepc z ∧ z ≠ 39 ∧ z ≠ 40 ∧ z ≠ 42 ∧ z ≠ 32 := fun z hz => by
  have := h z hz
  unfold sepc
  lia
theorem row_star : ∀ {l : List Fd}, (∀ f ∈ l, FdOK f) → ∀ z ∈ rowT l, z ≠ 42
  | [], _, z, hz => by simp [rowT] at hz
  | f :: r, h, z, hz => by
    have e : rowT (f :: r) = f.full ++ rowT r := rfl
    rw [e] at hz
    rcases List.mem_append.mp hz with q | q
    · unfold Fd.full at q
      rcases List.mem_append.mp q with q | q
      · rw [List.eq_of_mem_replicate q]; decide
      · exact (safe_not (h f (.head _)).2.1.safe z q).2.2.2.1
    · exact row_star (fun g hg => h g (.tail _ hg)) z q
theorem row_head : ∀ {l : List Fd}, (∀ f ∈ l, FdOK f) → (rowT l).take 1 = [] ∨ ∃ y, (rowT l).take 1 = [y] ∧ sepc y
  | [], _ => .inl rfl
  | f :: r, h => by
    right
    refine ⟨32, ?_, .inl rfl⟩
    have e : rowT (f :: r) = f.full ++ rowT r := rfl
    have := (h f (.head _)).2.2.1
    rw [e]
    unfold Fd.full
    obtain ⟨b, hb⟩ : ∃ b, f.bl = b + 1 := ⟨f.bl - 1, by lia⟩
    rw [hb, List.replicate_succ]
    rfl
theorem lway_of {A B : List Fd} {recs : List Value} (hok : ∀ f ∈ A ++ B, FdOK f) (hA : A.length ≤ 4) (hB : B.length ≤ 4) (hr : Recs recs (rows A B)) :
    ∀ (j : Nat) k t, (fsL (A ++ B))[j]? = some (k, t) → LWay recs (aSf A.length j) (aSf A.length (j + 1)) (rSf A B j) (rSf A B (j + 1)) (pSf A B j) (pSf A B (j + 1)) k t := by
  intro j k t h
  obtain ⟨f, hf, hkt⟩ : ∃ f, (A ++ B)[j]? = some f ∧ (f.kind, f.text) = (k, t) := by
    unfold fsL at h
    rw [List.getElem?_map] at h
    cases e : (A ++ B)[j]? with
    | none => rw [e] at h; cases h
    | some f => rw [e] at h; exact ⟨f, rfl, by simpa using h⟩
  cases hkt
  have hfo := hok f (List.mem_of_getElem? hf)
  have hsn := safe_not hfo.2.1.safe
  obtain ⟨y, text, hT⟩ : ∃ y text, f.text = y :: text := by
    cases e : f.text with
    | nil => exact absurd e hfo.2.1.ne
    | cons y r => exact ⟨y, r, rfl⟩
  have hlen : (y :: text).length ≤ 90 := by have := hfo.2.1.len; rw [hT] at this; lia
  have oA : ∀ g ∈ A, FdOK g := fun g hg => hok g (List.mem_append_left B hg)
  have oB : ∀ g ∈ B, FdOK g := fun g hg => hok g (List.mem_append_right A hg)
  have hfull : f.full = List.replicate f.bl 32 ++ y :: text := by unfold Fd.full; rw [hT]
  have hfl : f.full.length = f.bl + (y :: text).length := by rw [hfull, List.length_append, List.length_replicate]
  rw [hT] at hsn
  have hy := hsn y (.head _)
  rcases get_app hf with ⟨hj, hfA⟩ | ⟨hj, hfB⟩
  · have s1 := rowT_split hfA
    have s2 := rowT_take hfA
    have e1 : j ≤ A.length := Nat.le_of_lt hj
    have e2 : j + 1 ≤ A.length := hj
    unfold aSf rSf pSf
    simp only [if_pos e1, if_pos e2]
    refine ⟨y, text, rowT (A.drop (j + 1)), (rowT (A.take j)).length + f.bl, hT, ⟨.inl ⟨rfl, rfl, f.bl, rfl, ?_⟩, hy.2.2.2.2⟩, hfo.1, hlen, fun z hz => (hsn z hz).1, row_head fun g hg => oA g (List.mem_of_mem_drop hg), hy.2.1, hy.2.2.1, row_star oA, ?_⟩
    · rw [s1, List.drop_left' rfl, hfull]; simp
    · rw [s2, List.length_append, hfl]; lia
  · have hBn : B ≠ [] := by rintro rfl; simp at hfB
    have hrow : ∃ t, recs[1]? = some (.str (S (rowT B)) t) := by
      have h2 := hr.each 1 B
      unfold rows at h2
      rw [if_neg hBn] at h2
      exact h2 rfl
    have s1 := rowT_split hfB
    have s2 := rowT_take hfB
    rcases Nat.lt_or_ge A.length j with c | c
    · have e1 : ¬ j ≤ A.length := by lia
      have e2 : ¬ j + 1 ≤ A.length := by lia
      have e3 : j + 1 - A.length = (j - A.length) + 1 := by lia
      unfold aSf rSf pSf
      simp only [if_neg e1, if_neg e2, e3]
      refine ⟨y, text, rowT (B.drop (j - A.length + 1)), (rowT (B.take (j - A.length))).length + f.bl, hT, ⟨.inl ⟨rfl, rfl, f.bl, rfl, ?_⟩, hy.2.2.2.2⟩, hfo.1, hlen, fun z hz => (hsn z hz).1, row_head fun g hg => oB g (List.mem_of_mem_drop hg), hy.2.1, hy.2.2.1, row_star oB, ?_⟩
      · rw [s1, List.drop_left' rfl, hfull]; simp
      · rw [s2, List.length_append, hfl]; lia
    · have e0 : j = A.length := by lia
      subst e0
      have e2 : ¬ A.length + 1 ≤ A.length := by lia
      have e3 : A.length + 1 - A.length = 0 + 1 := by lia
      rw [Nat.sub_self] at s1 s2
      have e4 : rowT (B.take 0) = [] := rfl
      rw [e4, List.nil_append] at s1 s2
      obtain ⟨tq, hrec⟩ := hrow
      unfold aSf rSf pSf
      simp only [if_pos (Nat.le_refl A.length), if_neg e2, e3]
      refine ⟨y, text, rowT (B.drop (0 + 1)), f.bl, hT, ⟨.inr ⟨rfl, ?_, tq, hrec, ?_⟩, hy.2.2.2.2⟩, hfo.1, hlen, fun z hz => (hsn z hz).1, row_head fun g hg => oB g (List.mem_of_mem_drop hg), hy.2.1, hy.2.2.1, row_star oB, ?_⟩
      · rw [List.take_length]; exact Nat.le_refl _
      · rw [s1, hfull]; simp
      · rw [s2, hfl]

end
section
noncomputable def AnsIs (r : Except Int (List Val)) (v : Value) (new : Led) : Prop := match r with
  | .ok xs => ∃ vl vs n ex, v = .ref vl ∧ new = (vl, listOf vs.toArray n) :: ex ∧ Vals vs ex xs
  | .error c => IsI v c ∧ new = []
theorem by_format_con (w : World) (tl lr wl : Addr) (its ws : Led) (recs : List Value) (nn mm kk : Nat) (tr : Tok) (fs : List (Int × List Nat)) (iS aS pS : Nat → Nat) (rS : Nat → List Nat)
    (hi : ∀ p ∈ its, Flat p.2) (hn : its.length ≤ 900) (hr : recs[0]? = some (.str (S (rS 0)) tr)) (hm : recs.length ≤ 1000) (h0 : iS 0 = 0 ∧ aS 0 = 1 ∧ pS 0 = 0) (hrl : ∀ j, (rS j).length ≤ 1000)
    (hfn : fs.length ≤ 900) (hw : ws.length = fs.length) (hww : ∀ (j : Nat) k t, fs[j]? = some (k, t) → ∃ wa v1 v2, ws[j]? = some (wa, tupO [v1, v2]) ∧ IsI v1 k ∧ IsI v2 0) (hf : ∀ (j : Nat) k t, fs[j]? = some (k, t) → Way its recs iS aS pS rS k t j) (he : iS fs.length = its.length) (hu : aS fs.length = recs.length) :
    ConT w 590 20 [.ref tl, .ref lr, .ref wl] ((lr, listOf recs.toArray mm) :: (tl, listOf (refs its).toArray nn) :: (wl, listOf (refs ws).toArray kk) :: (its ++ ws)) (AnsIs (readAll fs)) := by
  have C2 := fun lim dl tll ul => read_records_con w tl lr wl lim dl its ws recs nn mm kk tll ul tr fs iS aS pS rS hi hn hr hm h0 hrl hfn hw hww hf he
  clear hi hn hr h0 hrl hfn hw hww hf he
  generalize readAll fs = ra at *
  refine' con_vcT ⟨["tree", "records", "wanted", "found", "used", "fault"], [("read_records", .ref 533), ("read_value", .ref 224), ("Limits", .ref 551), ("IoFault", .ref 82), ("len", .builtin "len")], [533, 551]⟩ (binds := [("tree", .ref tl), ("records", .ref lr), ("wanted", .ref wl)]) ?hmain
  intro c Lc h1 tk1 G P H
  refine try_code (n := 20) G P H (List.mem_of_getElem? (i := 3) rfl) (List.mem_of_getElem? (i := 5) rfl) fun c' G' hcd => ?_
  refine use0 G' (limits_con w) ?_ (fun _ h => nomatch h) fun _ _ r => r.elim
  rintro v new ⟨lim, dl, t, u, rfl, rfl, _⟩
  refine use_try G' (C2 lim dl t u) (limL w.params lim dl t u) (fun p q => List.mem_append_left _ q) (fun p hp => mem_mid (A := [_, _, _]) hp) (fun _ _ _ _ q => nomatch q) ?_ ?_
  · rintro v new ⟨a, vl, t2, n2, vs, ex, xs, rfl, rfl, hV, hx⟩
    refine sm_unpack G' (.inl (.head _)) rfl rfl ?_
    refine sm_lenL (.inr (.head _)) (by lia) ?_
    (repeat (intro (_ : Tok)))
    refine ⟨fun h => ?_, fun h => absurd (congrArg Int.ofNat hu) h⟩
    exact ⟨(vl, _) :: ex, by rw [hx]; exact ⟨vl, vs, n2, ex, rfl, rfl, hV⟩, fun p hp => List.mem_append_left _ (.tail _ hp)⟩
  · rintro C code e h1 h' tk' ⟨rfl, cd, rfl, hr⟩ F x y
    exact hcd cd e h1 h' tk' _ (fun t => by rw [hr]; exact ⟨isI rfl, rfl⟩) F x y

end
section
theorem by_list_con (w : World) (lr wl : Addr) (recs : List Value) (mm kk : Nat) (ws : Led) (tr : Tok) (fs : List (Int × List Nat)) (aS cS : Nat → Nat) (rS : Nat → List Nat)
    (hr : recs[0]? = some (.str (S (rS 0)) tr)) (hm : recs.length ≤ 1000) (h0 : aS 0 = 1 ∧ cS 0 = 0) (hrl : ∀ j, (rS j).length ≤ 1000) (hfn : fs.length ≤ 900) (hw : ws.length = fs.length)
    (hww : ∀ (j : Nat) k t, fs[j]? = some (k, t) → ∃ wa v1 v2, ws[j]? = some (wa, tupO [v1, v2]) ∧ IsI v1 k ∧ IsI v2 0) (hg : ∀ (j : Nat) k t, fs[j]? = some (k, t) → LWay recs (aS j) (aS (j + 1)) (rS j) (rS (j + 1)) (cS j) (cS (j + 1)) k t) :
    ConT w 597 20 [.ref lr, .ref wl] ((lr, listOf recs.toArray mm) :: (wl, listOf (refs ws).toArray kk) :: ws) (AnsIs (readAll fs)) := by
  have C2 := fun src ds lim dl tl ul t0 t1 ta hsd => read_list_con w src ds lr wl lim dl recs mm kk ws tl ul t0 t1 ta tr fs aS cS rS hr hm hsd h0 hrl hfn hw hww hg
  clear hr hm h0 hrl hfn hw hww hg
  generalize readAll fs = ra at *
  refine' con_vcT ⟨["records", "wanted", "fault"], [("read_list", .ref 357), ("ListSource", .ref 522), ("Limits", .ref 551), ("IoFault", .ref 82)], [357, 522, 551]⟩ (binds := [("records", .ref lr), ("wanted", .ref wl)]) ?hmain
  intro c Lc h1 tk1 G P H
  refine try_code (n := 20) G P H (List.mem_of_getElem? (i := 3) rfl) (List.mem_of_getElem? (i := 2) rfl) fun c' G' hcd => ?_
  refine use0 G' (source_con w lr) ?_ (fun _ h => nomatch h) fun _ _ r => r.elim
  rintro v new ⟨src, ds, t0, t1, ta, rfl, rfl, hlt⟩
  refine use0 G' (limits_con w) ?_ (fun _ h => nomatch h) fun _ _ r => r.elim
  rintro v new ⟨lim, dl, t, u, rfl, rfl, _⟩
  refine use_try G' (C2 src ds lim dl t u t0 t1 ta (Nat.ne_of_gt hlt)) (limL w.params lim dl t u) (fun p => swapM p) (fun p hp => mem_mid (A := [_, _]) hp) (fun h H => off_led H rfl fun p => swapM p) ?_ ?_
  · rintro v new ⟨vl, vs, n2, ex, xs, rfl, rfl, hV, hx⟩
    exact ⟨(vl, _) :: ex, by rw [hx]; exact ⟨vl, vs, n2, ex, rfl, rfl, hV⟩, fun p hp => List.mem_append_left _ hp⟩
  · rintro C code e h1 h' tk' ⟨rfl, cd, rfl, hr⟩ F x y
    exact hcd cd e h1 h' tk' _ (fun t => by rw [hr]; exact ⟨isI rfl, rfl⟩) F x y

end
section
open PySem PySem.W PyProof.Rows PySem.Calls PySem.Spec
theorem ints_mem : ∀ {vs : List Value} {ns : List Int}, IntsAre vs ns → ∀ v ∈ vs, ∃ n t, v = Value.int n t
  | _, _, .nil, v, hv => nomatch hv
  | _, _, .cons n t h, v, hv => by
    rcases List.mem_cons.mp hv with rfl | hv
    · exact ⟨n, t, rfl⟩
    · exact ints_mem h v hv
noncomputable abbrev lawH (sc sp tl lr wl dl : Addr) (xs : List Value) (ns i : Nat) (ti : Tok) (mi : Nat) (its : Led) (nt : Nat) (recs : List Value) (nr : Nat) (ws : Led) (nw : Nat) (dvs : List Value) (nd : Nat) : Led :=
  [(sp, listOf [Value.int (i : Int) ti].toArray mi), (sc, listOf xs.toArray ns), (tl, listOf (refs its).toArray nt), (lr, listOf recs.toArray nr), (wl, listOf (refs ws).toArray nw), (dl, listOf dvs.toArray nd)]
structure Six (sc sp tl lr wl dl : Addr) : Prop where
  intro ::
  l1 : sc < sp
  l2 : sp < tl
  l3 : tl < lr
  l4 : lr < wl
  l5 : wl < dl
noncomputable def Off (sc sp tl lr wl dl : Addr) (T : Led) : Prop := ∀ p ∈ T, p.1 ≠ sc ∧ p.1 ≠ sp ∧ p.1 ≠ tl ∧ p.1 ≠ lr ∧ p.1 ≠ wl ∧ p.1 ≠ dl
section
variable {sc sp tl lr wl dl : Addr} {xs : List Value} {ns i : Nat} {ti : Tok} {mi : Nat} {its : Led} {nt : Nat} {recs : List Value} {nr : Nat} {ws : Led} {nw : Nat} {dvs : List Value} {nd : Nat} {T : Led}
theorem Six.sp_off (D : Six sc sp tl lr wl dl) (O : Off sc sp tl lr wl dl T) {o : Obj} : ∀ p ∈ [(sc, listOf xs.toArray ns), (tl, listOf (refs its).toArray nt), (lr, listOf recs.toArray nr), (wl, listOf (refs ws).toArray nw), (dl, listOf dvs.toArray nd)] ++ T, p.1 ∉ ads [(sp, o)] := by
  obtain ⟨l1, l2, l3, l4, l5⟩ := D
  intro p hp hb
  have e : p.1 = sp := by simpa [ads] using hb
  rcases List.mem_append.mp hp with hp | hp
  · simp only [List.mem_cons, List.not_mem_nil, or_false] at hp
    rcases hp with rfl | rfl | rfl | rfl | rfl <;> (dsimp only at e; simp only [Addr] at *; lia)
  · exact (O p hp).2.1 e
theorem Six.ne (D : Six sc sp tl lr wl dl) : (sp ≠ tl ∧ sp ≠ lr ∧ sp ≠ wl ∧ sp ≠ dl) ∧ (sc ≠ tl ∧ sc ≠ lr ∧ sc ≠ wl ∧ sc ≠ dl) ∧ (tl ≠ lr ∧ tl ≠ wl ∧ tl ≠ dl) ∧ (lr ≠ wl ∧ lr ≠ dl) ∧ wl ≠ dl := by
  obtain ⟨l1, l2, l3, l4, l5⟩ := D
  have a1 := Nat.lt_trans l2 l3
  have a2 := Nat.lt_trans a1 l4
  have b1 := Nat.lt_trans l1 l2
  have b2 := Nat.lt_trans b1 l3
  have b3 := Nat.lt_trans b2 l4
  have c1 := Nat.lt_trans l3 l4
  exact ⟨⟨Nat.ne_of_lt l2, Nat.ne_of_lt a1, Nat.ne_of_lt a2, Nat.ne_of_lt (Nat.lt_trans a2 l5)⟩, ⟨Nat.ne_of_lt b1, Nat.ne_of_lt b2, Nat.ne_of_lt b3, Nat.ne_of_lt (Nat.lt_trans b3 l5)⟩, ⟨Nat.ne_of_lt l3, Nat.ne_of_lt c1, Nat.ne_of_lt (Nat.lt_trans c1 l5)⟩, ⟨Nat.ne_of_lt l4, Nat.ne_of_lt (Nat.lt_trans l4 l5)⟩, Nat.ne_of_lt l5⟩
theorem off_app {A B : Led} (a : Off sc sp tl lr wl dl A) (b : Off sc sp tl lr wl dl B) : Off sc sp tl lr wl dl (A ++ B) := fun p hp => (List.mem_append.mp hp).elim (a p) (b p)
end
noncomputable def RowsOK (R : List (List Fd)) : Prop := ∀ row ∈ R, row ≠ [] ∧ row.length ≤ 4 ∧ ∀ f ∈ row, FdOK f
noncomputable def spR (R : List (List Fd)) : List It := if R = [] then [] else spOf R ++ [It.slash]
theorem spR_done (R : List (List Fd)) (c : List Fd) : spR R ++ c.map It.fld = spOf (R ++ [c]) := by
  unfold spR
  cases R with
  | nil => simp [spOf]
  | cons A r => rw [if_neg (by simp), spOf_snoc]
section
variable {sc sp tl lr wl dl : Addr} {xs : List Value} {ns i : Nat} {ti : Tok} {mi : Nat} {its : Led} {nt : Nat} {recs : List Value} {nr : Nat} {ws : Led} {nw : Nat} {dvs : List Value} {nd : Nat} {T led : Led} {p0 : Addr × Obj} {v : Value}
theorem off_new {X : Led} {D : Addr} {o : Obj} (l : ∀ p ∈ X, p.1 < D) (h : ∀ p ∈ lawH sc sp tl lr wl dl xs ns i ti mi its nt recs nr ws nw dvs nd, p ∈ X) : Off sc sp tl lr wl dl [(D, o)] := fun p hp => by
  rw [List.mem_singleton] at hp
  subst hp
  exact ⟨Nat.ne_of_gt (l _ (h _ (.tail _ (.head _)))), Nat.ne_of_gt (l _ (h _ (.head _))), Nat.ne_of_gt (l _ (h _ (.tail _ (.tail _ (.head _))))), Nat.ne_of_gt (l _ (h _ (.tail _ (.tail _ (.tail _ (.head _)))))), Nat.ne_of_gt (l _ (h _ (.tail _ (.tail _ (.tail _ (.tail _ (.head _))))))), Nat.ne_of_gt (l _ (h _ (.tail _ (.tail _ (.tail _ (.tail _ (.tail _ (.head _))))))))⟩
end
theorem spOf_len : ∀ {R : List (List Fd)}, RowsOK R → (spOf R).length ≤ 5 * R.length
  | [], _ => by simp [spOf]
  | A :: r, h => by
    have hr : ∀ r : List (List Fd), RowsOK r → ((r.map fun B => It.slash :: B.map It.fld).flatten).length ≤ 5 * r.length := fun r => by
      induction r with
      | nil => intro _; simp
      | cons B r ih =>
        intro h
        have h1 := (h B (.head _)).2.1
        have h2 := ih fun x hx => h x (.tail _ hx)
        simp only [List.map_cons, List.flatten_cons, List.length_append, List.length_cons, List.length_map] at h2 ⊢
        lia
    have h1 := (h A (.head _)).2.1
    have h2 := hr r fun x hx => h x (.tail _ hx)
    simp only [spOf, List.length_append, List.length_map, List.length_cons]
    lia

end
section
open PySem PySem.W PyProof.Rows PySem.Calls PySem.Spec
section
variable {w : World} {mean : ExcName → Option Value} {mg mb : PySem.Str → Option Value} {A A₀ : Around} {base : Heap} {env : Env} {s : Shared} {g : Heap} {L : Addr} {m : PySem.Str → Option Value} {Q E : Value → Shared → Prop}
  {sc sp tl lr wl dl : Addr} {xs : List Value} {i : Nat} {ti : Tok} {mi : Nat} {its : Led} {nt : Nat} {recs : List Value} {nr : Nat} {ws : Led} {nw : Nat} {dvs : List Value} {nd : Nat} {T : Led}
end
theorem flat_len : ∀ {R : List (List Fd)}, RowsOK R → R.flatten.length ≤ 4 * R.length
  | [], _ => by simp
  | A :: r, h => by
    have h1 := (h A (.head _)).2.1
    have h2 := flat_len (R := r) fun x hx => h x (.tail _ hx)
    simp only [List.flatten_cons, List.length_append, List.length_cons]
    lia
theorem rows_of {R : List (List Fd)} {n : Nat} (h : RowsOK R) (hn : R.length = 1 + n) (h2 : n < 2) : ∃ A B, R = rows A B ∧ R.flatten = A ++ B ∧ A.length ≤ 4 ∧ B.length ≤ 4 ∧ (∀ f ∈ A ++ B, FdOK f) ∧ 0 < A.length := by
  match R, hn with
  | [A], _ =>
    have hA := h A (.head _)
    refine ⟨A, [], rfl, by simp, hA.2.1, by simp, by simpa using hA.2.2, List.length_pos_iff.mpr hA.1⟩
  | [A, B], _ =>
    have hA := h A (.head _)
    have hB := h B (.tail _ (.head _))
    refine ⟨A, B, by unfold rows; rw [if_neg hB.1], by simp, hA.2.1, hB.2.1, fun f hf => (List.mem_append.mp hf).elim (hA.2.2 f) (hB.2.2 f), List.length_pos_iff.mpr hA.1⟩
  | _ :: _ :: _ :: _, hn => simp at hn; lia
  | [], hn => simp at hn; lia

end
section
open PySem PySem.W PyProof.Rows PySem.Calls PySem.Spec
theorem fsF_get {l : List Fd} {j : Nat} {k : Int} {t : List Nat} (h : (fsF l)[j]? = some (k, t)) : ∃ f, l[j]? = some f ∧ f.kind = k := by
  unfold fsF at h
  rw [List.getElem?_map] at h
  cases e : l[j]? with
  | none => rw [e] at h; cases h
  | some f => rw [e] at h; exact ⟨f, rfl, by have := Option.some.inj h; exact congrArg Prod.fst this⟩
theorem fsL_get {l : List Fd} {j : Nat} {k : Int} {t : List Nat} (h : (fsL l)[j]? = some (k, t)) : ∃ f, l[j]? = some f ∧ f.kind = k := by
  unfold fsL at h
  rw [List.getElem?_map] at h
  cases e : l[j]? with
  | none => rw [e] at h; cases h
  | some f => rw [e] at h; exact ⟨f, rfl, by have := Option.some.inj h; exact congrArg Prod.fst this⟩
section
variable {A B : List Fd} {its ws : Led} {recs : List Value} (hA : A.length ≤ 4) (hB : B.length ≤ 4) (h0 : 0 < A.length) (hok : ∀ f ∈ A ++ B, FdOK f) (hr : Recs recs (rows A B)) (hW : Wants ws (A ++ B))
include hA hB hok in
theorem rSf_len : ∀ j, (rSf A B j).length ≤ 1000 := fun j => by
  have lA := rowT_len fun g hg => hok g (List.mem_append_left B hg)
  have lB := rowT_len fun g hg => hok g (List.mem_append_right A hg)
  unfold rSf; split <;> lia
include hr in
theorem rec_first : ∃ t, recs[0]? = some (.str (S (rSf A B 0)) t) := by
  have h : rSf A B 0 = rowT A := if_pos (Nat.zero_le _)
  rw [h]
  refine hr.each 0 A ?_
  unfold rows; split <;> rfl
include hr in
theorem recs_len : aSf A.length (A ++ B).length = recs.length ∧ recs.length ≤ 1000 := by
  rw [hr.len]
  unfold rows aSf
  by_cases h : B = []
  · subst h; simp
  · have : 0 < B.length := List.length_pos_iff.mpr h
    rw [if_neg h, if_neg (by rw [List.length_append]; lia)]; simp
include hA hB hok hr hW in
theorem fmt_call (w : World) (tl lr wl : Addr) (nt nr nw : Nat) (hI : Its its (spOf (rows A B))) :
    ConT w 590 20 [.ref tl, .ref lr, .ref wl] ((lr, listOf recs.toArray nr) :: (tl, listOf (refs its).toArray nt) :: (wl, listOf (refs ws).toArray nw) :: (its ++ ws)) (AnsIs (readAll (fsL (A ++ B)))) := by
  obtain ⟨t, ht⟩ := rec_first hr
  obtain ⟨hu, hm⟩ := recs_len hr
  rw [← fs_same]
  have e : (fsF (A ++ B)).length = (A ++ B).length := by unfold fsF; rw [List.length_map]
  have hl := sp_len A B
  have hn : its.length = iSf A.length (A ++ B).length := hI.len.trans hl
  have hs : iSf A.length (A ++ B).length ≤ 900 := by unfold iSf; split <;> (rw [List.length_append]; lia)
  exact by_format_con w tl lr wl its ws recs nt nr nw t (fsF (A ++ B)) (iSf A.length) (aSf A.length) (pSf A B) (rSf A B) hI.flat (by lia) ht hm ⟨rfl, if_pos (Nat.zero_le _), rfl⟩ (rSf_len hA hB hok) (by rw [e, List.length_append]; lia) (by rw [e]; exact hW.len)
    (fun j k t h => by obtain ⟨f, hf, rfl⟩ := fsF_get h; exact hW.each j f hf) (way_of hok hA hB hI hr) (by rw [e, hn]) (by rw [e, hu])
include hA hB hok hr hW in
theorem lst_call (w : World) (lr wl : Addr) (nr nw : Nat) :
    ConT w 597 20 [.ref lr, .ref wl] ((lr, listOf recs.toArray nr) :: (wl, listOf (refs ws).toArray nw) :: ws) (AnsIs (readAll (fsL (A ++ B)))) := by
  obtain ⟨t, ht⟩ := rec_first hr
  obtain ⟨hu, hm⟩ := recs_len hr
  have e : (fsL (A ++ B)).length = (A ++ B).length := by unfold fsL; rw [List.length_map]
  exact by_list_con w lr wl recs nr nw ws t (fsL (A ++ B)) (aSf A.length) (pSf A B) (rSf A B) ht hm ⟨if_pos (Nat.zero_le _), rfl⟩ (rSf_len hA hB hok) (by rw [e, List.length_append]; lia) (by rw [e]; exact hW.len)
    (fun j k t h => by obtain ⟨f, hf, rfl⟩ := fsL_get h; exact hW.each j f hf) (lway_of hok hA hB hr)
end

end
section
noncomputable def Fin (g : Heap) (L : Addr) (s : Shared) (fl : Flow) (s' : Shared) : Prop := fl = .ret (.bool true) ∧ ∃ h' tk m, s' = { s with heap := h', toks := tk } ∧ Fr g L h' m
theorem law_vc {w : World} {mean : ExcName → Option Value} {mg mb : PySem.Str → Option Value} {dp un tk0 n : Nat} {gd : Option (List Code)} {base g : Heap} {L f : Addr} {cdv : Value} {s : Shared} {h₁ : Heap} {scope scope' : Scope} {body body' : List Stmt} (Tn : Fn) {binds : List (PySem.Str × Value)}
    (hbody : body = body') (hscope : scope = scope') (hdep : dp + 2 * 40 < recursionLimit) (hun : un + 16 * 40 < cLine) (F : Fr g L h₁ (fun y => binds.reverse.lookup y))
    (B : Below (Arn0 dp un gd) base [] g) (X : (KP w.params).In g) (T : Top VW (looseW VW []) mean mg mb g) (O : OnBase w mean mg mb base)
    (hT : fnOK scope' Tn binds = true) (hgl : ∀ p ∈ Tn.gl, GlobP (KP w.params) p) (hfn : ∀ a ∈ Tn.fn, keepIn (KP w.params) (.ref a) = true)
    (h : ∀ c R, CxG w Tn 38 (fun _ _ => False) c → c.g = g → c.outer = [] → c.kp = [] → (∀ σ, R (.ret (.bool true)) σ) → exs w Tn c n body' ⟨psOf binds Tn.nm, [], []⟩ R) :
    wpAny (model PySem.Challenge.rw_no0277_01.row.prog w) ((Arn0 dp un gd).deeper (envOf "law" scope L f cdv)) (execs body (envOf "law" scope L f cdv)) (Fin g L s) (fun _ _ => False) { s with heap := h₁, toks := tk0 } := by
  obtain ⟨h1, h2, h3, h4, h5, h6, h7⟩ := fnOK_is hT
  subst hbody
  subst hscope
  have G : CxG w Tn 38 (fun _ _ => False) { A := (Arn0 dp un gd).deeper (envOf "law" scope L f cdv), env := envOf "law" scope L f cdv, outer := [], g := g, s := s, E := fun _ _ => False, kp := [] } :=
    ⟨⟨"law", scope, L, f, cdv, rfl, h1, fun x hx => (h6 x hx).1, fun p hp => (h7 p hp).1⟩, ⟨fun x hx => (h6 x hx).2, fun p hp => (h7 p hp).2⟩, hgl, hfn, X, ⟨mean, mg, mb, _, base, B, T, O⟩, rfl, rfl,
      dep_ok (n := 1) hdep rfl (by lia), uni_ok (n := 3) hun rfl (by lia), fun C code e tr h tk r x => r.elim⟩
  refine wpAny_mono (exs_ok G (h _ (fun fl _ => fl = .ret (.bool true)) G rfl rfl rfl fun _ => rfl) h₁ tk0 ⟨?_, News.nil, fun _ h => (nomatch h), fun _ h => (nomatch h)⟩) (fun fl s' p => ?_) fun _ _ x => x
  · have e : (fun y => binds.reverse.lookup y) = lk Tn.nm (psOf binds Tn.nm) := funext fun y => lk_binds h5
    rw [← e]; exact F
  · obtain ⟨σ, h', tk', H, rfl⟩ := p
    exact ⟨rfl, h', tk', _, rfl, H.F⟩
section
variable {w : World} {Tn : Fn} {c : Cx} {kk n : Nat} {rai : Addr → Option Int → Prop} {k : KV} {ps : List (Option Value)} {fz : Led}
theorem sm_slice {a : Addr} {vs zs : List Value} {led : Led} {x : PySem.Str} {p1 p2 : Pos} {lo hi : Option PySem.Expr} {m : Nat} {t : Tok} (hl : c.g.IsList a vs.toArray) (e : (slicePick vs.toArray none (some (m : Int)) none).toList = zs) (hz : vs.length ≤ 1048576) (h : ∀ D, k (.ref D) ⟨ps, (D, listOf zs.toArray 0) :: led, fz⟩) :
    SlP w Tn c (.Name x p1) (.Slice lo hi none p2) (.ref a) .none (.int (m : Int) t) ⟨ps, led, fz⟩ k := fun h0 tk H => by
  refine kmk_slice_lit (s := c.sh h0 tk) H.F H.N (H.F.lst hl) .none (.int _ _) e (fun D h' F' N' l1 => pk_now (σ := ⟨ps, (D, listOf zs.toArray 0) :: led, fz⟩) ⟨F', N', List.forall_mem_cons.mpr ⟨fun q hq => (Nat.ne_of_lt (l1 q (List.mem_append_right _ hq))).symm, H.D⟩, H.Z⟩ (h D)) (by with_unfolding_all rfl) (by intro _; with_unfolding_all rfl) (by rw [List.size_toArray]; exact Nat.le_trans hz (by decide))
variable {sc sp tl lr wl dl : Addr} {xs : List Value} {i : Nat} {ti : Tok} {mi : Nat} {its : Led} {nt : Nat} {recs : List Value} {nr : Nat} {ws : Led} {nw : Nat} {dvs : List Value} {nd : Nat} {T led : Led}
noncomputable abbrev Tup (T : Led) : Prop := ∀ p ∈ T, p.2.cls = .type "tuple"
theorem ne_cls (H : Hd Tn c ⟨ps, led, fz⟩ h0) {p q : Addr × Obj} (hp : p ∈ led) (hq : q ∈ led) (e : p.2.cls ≠ q.2.cls) : p.1 ≠ q.1 := fun x => by
  have h1 := (H.N p (List.mem_append_left _ hp)).1
  have h2 := (H.N q (List.mem_append_left _ hq)).1
  rw [x, h2] at h1
  exact e (congrArg Obj.cls (Option.some.inj h1)).symm
theorem off_tup (H : Hd Tn c ⟨ps, led, fz⟩ h0) (hT : Tup T) (hled : ∀ p ∈ lawH sc sp tl lr wl dl xs 0 i ti mi its nt recs nr ws nw dvs nd ++ T, p ∈ led) : Off sc sp tl lr wl dl T := fun p hp => by
  have key : ∀ q ∈ lawH sc sp tl lr wl dl xs 0 i ti mi its nt recs nr ws nw dvs nd, q.2.cls = .type "list" → p.1 ≠ q.1 := fun q hq e => ne_cls H (hled p (List.mem_append_right _ hp)) (hled q (List.mem_append_left _ hq)) (by rw [hT p hp, e]; decide)
  exact ⟨key _ (.tail _ (.head _)) rfl, key _ (.head _) rfl, key _ (.tail _ (.tail _ (.head _))) rfl, key _ (.tail _ (.tail _ (.tail _ (.head _)))) rfl, key _ (.tail _ (.tail _ (.tail _ (.tail _ (.head _))))) rfl, key _ (.tail _ (.tail _ (.tail _ (.tail _ (.tail _ (.head _)))))) rfl⟩
theorem take_s (G : CxG w Tn kk rai c) (D : Six sc sp tl lr wl dl) (hO : ∀ h0, Hd Tn c ⟨ps, led, fz⟩ h0 → Off sc sp tl lr wl dl T) (hxs : ∀ v ∈ xs, ∃ n t, v = Value.int n t) (hxl : xs.length ≤ 100) (hled : ∀ p ∈ lawH sc sp tl lr wl dl xs 0 i ti mi its nt recs nr ws nw dvs nd ++ T, p ∈ led) {lim : Int} {tk1 : Tok} (h0 : 0 < lim) (h1 : lim ≤ 10 ^ 20) (hi : i ≤ 1000)
    (ret : ∀ (r : Nat) t tt m led', (r : Int) < lim → (∀ p ∈ lawH sc sp tl lr wl dl xs 0 (i + 1) tt m its nt recs nr ws nw dvs nd ++ T, p ∈ led') → k (.int (r : Int) t) ⟨ps, led', fz⟩) (hk : 1 ≤ kk := by decide) :
    Sm w Tn c ⟨ps, led, fz⟩ (call (.ref 562) [.ref sc, .ref sp, .int lim tk1]) k := sm_know (fun _ H => D.sp_off (xs := xs) (ns := 0) (its := its) (nt := nt) (recs := recs) (nr := nr) (ws := ws) (nw := nw) (dvs := dvs) (nd := nd) (hO _ H)) fun hr => by
  refine use G (law_take_con w sc sp xs 0 mi i ti tk1 lim hxs hxl h0 h1 hi) ([(sc, listOf xs.toArray 0), (tl, listOf (refs its).toArray nt), (lr, listOf recs.toArray nr), (wl, listOf (refs ws).toArray nw), (dl, listOf dvs.toArray nd)] ++ T) hled (List.forall_mem_singleton.mpr (.inr (.head _))) hr (fun v new p _ => ?_) (fun _ _ r => r.elim) hk
  obtain ⟨r, t, tt, m2, h2, h3, rfl, rfl⟩ := p
  obtain ⟨r, rfl⟩ := Int.eq_ofNat_of_zero_le h2
  exact ret r t tt m2 _ h3 fun _ h => h
theorem const_s (G : CxG w Tn kk rai c) (D : Six sc sp tl lr wl dl) (hO : ∀ h0, Hd Tn c ⟨ps, led, fz⟩ h0 → Off sc sp tl lr wl dl T) (hxs : ∀ v ∈ xs, ∃ n t, v = Value.int n t) (hxl : xs.length ≤ 100) (hled : ∀ p ∈ lawH sc sp tl lr wl dl xs 0 i ti mi its nt recs nr ws nw dvs nd ++ T, p ∈ led) {kind : Int} {tk1 : Tok} (hk : kind = 0 ∨ kind = 1 ∨ kind = 2 ∨ kind = 4) (hi : i ≤ 880)
    (ret : ∀ (a : Addr) (X : List Nat) (fell : Int) (x : Option Val) (tt tf : Tok) (xv : Value) (ex : Led) (i2 : Nat) (t2 : Tok) (m2 : Nat) (led' : Led), i2 ≤ i + 12 → FieldOK kind X fell x → OptIs xv ex x → (a, tupO [.str (S X) tt, .int fell tf, xv]) ∈ led' →
      (∀ p ∈ lawH sc sp tl lr wl dl xs 0 i2 t2 m2 its nt recs nr ws nw dvs nd ++ (ex ++ T), p ∈ led') → k (.ref a) ⟨ps, led', fz⟩) (hkk : 5 ≤ kk := by decide) :
    Sm w Tn c ⟨ps, led, fz⟩ (call (.ref 583) [.ref sc, .ref sp, .int kind tk1]) k := sm_know (fun _ H => D.sp_off (xs := xs) (ns := 0) (its := its) (nt := nt) (recs := recs) (nr := nr) (ws := ws) (nw := nw) (dvs := dvs) (nd := nd) (hO _ H)) fun hr => by
  refine use G (law_constant_con w sc sp xs 0 mi i ti tk1 kind hk hxs hxl hi) ([(sc, listOf xs.toArray 0), (tl, listOf (refs its).toArray nt), (lr, listOf recs.toArray nr), (wl, listOf (refs ws).toArray nw), (dl, listOf dvs.toArray nd)] ++ T) hled (List.forall_mem_singleton.mpr (.inr (.head _))) hr (fun v new p _ => ?_) (fun _ _ r => r.elim) hkk
  refine nnOf fun nO => ?_
  obtain ⟨a, X, fell, x, tt, tf, xv, ex, i2, t2, m2, rfl, hi2, hok, hx, rfl⟩ := p <;> (refine nO ?_; clear nO)
  refine ret a X fell x tt tf xv ex i2 t2 m2 _ hi2 hok hx (.head _) fun p hp => ?_
  simp only [List.mem_cons, List.mem_append, List.not_mem_nil, or_false] at hp ⊢
  rcases hp with (h | h | h | h | h | h) | h | h <;> simp only [h, true_or, or_true]
theorem app_tl_s (D : Six sc sp tl lr wl dl) (hT : Tup T) (hled : ∀ p ∈ lawH sc sp tl lr wl dl xs 0 i ti mi its nt recs nr ws nw dvs nd ++ T, p ∈ led) (p0 : Addr × Obj) (hz : its.length ≤ 1000) (ret : ∀ led', (∀ p ∈ lawH sc sp tl lr wl dl xs 0 i ti mi (its ++ [p0]) (nt + 1) recs nr ws nw dvs nd ++ T, p ∈ led') → k .none ⟨ps, led', fz⟩) :
    Sm w Tn c ⟨ps, led, fz⟩ (call (.builtin "list.append") [.ref tl, .ref p0.1]) k := by
  obtain ⟨⟨a1, a2, a3, a4⟩, ⟨b1, b2, b3, b4⟩, ⟨c1, c2, c3⟩, ⟨d1, d2⟩, e1⟩ := D.ne
  refine sm_appendX (vs := refs its) (m := nt) ([(sp, listOf [Value.int (i : Int) ti].toArray mi), (sc, listOf xs.toArray 0), (lr, listOf recs.toArray nr), (wl, listOf (refs ws).toArray nw), (dl, listOf dvs.toArray nd)] ++ T) (fun p hp => hled p ?_) (by simp; lia) ?_ ?_
  · simp only [List.mem_cons, List.mem_append, List.not_mem_nil, or_false] at hp ⊢
    rcases hp with h | (h | h | h | h | h) | h <;> simp only [h, true_or, or_true]
  · exact List.forall_mem_cons.mpr ⟨.inl a1, List.forall_mem_cons.mpr ⟨.inl b1, List.forall_mem_cons.mpr ⟨.inl c1.symm, List.forall_mem_cons.mpr ⟨.inl c2.symm, List.forall_mem_cons.mpr ⟨.inl c3.symm, fun p hp => .inr (by rw [hT p hp]; decide)⟩⟩⟩⟩⟩
  · rw [show refs its ++ [Value.ref p0.1] = refs (its ++ [p0]) by simp [refs]]
    refine ret _ fun p hp => ?_
    simp only [List.mem_cons, List.mem_append, List.not_mem_nil, or_false] at hp ⊢
    rcases hp with (h | h | h | h | h | h) | h <;> simp only [h, true_or, or_true]
theorem app_lr_s (D : Six sc sp tl lr wl dl) (hT : Tup T) (hled : ∀ p ∈ lawH sc sp tl lr wl dl xs 0 i ti mi its nt recs nr ws nw dvs nd ++ T, p ∈ led) {v : Value} (hz : recs.length ≤ 1000) (ret : ∀ led', (∀ p ∈ lawH sc sp tl lr wl dl xs 0 i ti mi its nt (recs ++ [v]) (nr + 1) ws nw dvs nd ++ T, p ∈ led') → k .none ⟨ps, led', fz⟩) :
    Sm w Tn c ⟨ps, led, fz⟩ (call (.builtin "list.append") [.ref lr, v]) k := by
  obtain ⟨⟨a1, a2, a3, a4⟩, ⟨b1, b2, b3, b4⟩, ⟨c1, c2, c3⟩, ⟨d1, d2⟩, e1⟩ := D.ne
  refine sm_appendX (vs := recs) (m := nr) ([(sp, listOf [Value.int (i : Int) ti].toArray mi), (sc, listOf xs.toArray 0), (tl, listOf (refs its).toArray nt), (wl, listOf (refs ws).toArray nw), (dl, listOf dvs.toArray nd)] ++ T) (fun p hp => hled p ?_) hz ?_ (ret _ fun p hp => ?_)
  · simp only [List.mem_cons, List.mem_append, List.not_mem_nil, or_false] at hp ⊢
    rcases hp with h | (h | h | h | h | h) | h <;> simp only [h, true_or, or_true]
  · exact List.forall_mem_cons.mpr ⟨.inl a2, List.forall_mem_cons.mpr ⟨.inl b2, List.forall_mem_cons.mpr ⟨.inl c1, List.forall_mem_cons.mpr ⟨.inl d1.symm, List.forall_mem_cons.mpr ⟨.inl d2.symm, fun p hp => .inr (by rw [hT p hp]; decide)⟩⟩⟩⟩⟩
  · simp only [List.mem_cons, List.mem_append, List.not_mem_nil, or_false] at hp ⊢
    rcases hp with (h | h | h | h | h | h) | h <;> simp only [h, true_or, or_true]
theorem app_wl_s (D : Six sc sp tl lr wl dl) (hT : Tup T) (hled : ∀ p ∈ lawH sc sp tl lr wl dl xs 0 i ti mi its nt recs nr ws nw dvs nd ++ T, p ∈ led) (p0 : Addr × Obj) (hz : ws.length ≤ 1000) (ret : ∀ led', (∀ p ∈ lawH sc sp tl lr wl dl xs 0 i ti mi its nt recs nr (ws ++ [p0]) (nw + 1) dvs nd ++ T, p ∈ led') → k .none ⟨ps, led', fz⟩) :
    Sm w Tn c ⟨ps, led, fz⟩ (call (.builtin "list.append") [.ref wl, .ref p0.1]) k := by
  obtain ⟨⟨a1, a2, a3, a4⟩, ⟨b1, b2, b3, b4⟩, ⟨c1, c2, c3⟩, ⟨d1, d2⟩, e1⟩ := D.ne
  refine sm_appendX (vs := refs ws) (m := nw) ([(sp, listOf [Value.int (i : Int) ti].toArray mi), (sc, listOf xs.toArray 0), (tl, listOf (refs its).toArray nt), (lr, listOf recs.toArray nr), (dl, listOf dvs.toArray nd)] ++ T) (fun p hp => hled p ?_) (by simp; lia) ?_ ?_
  · simp only [List.mem_cons, List.mem_append, List.not_mem_nil, or_false] at hp ⊢
    rcases hp with h | (h | h | h | h | h) | h <;> simp only [h, true_or, or_true]
  · exact List.forall_mem_cons.mpr ⟨.inl a3, List.forall_mem_cons.mpr ⟨.inl b3, List.forall_mem_cons.mpr ⟨.inl c2, List.forall_mem_cons.mpr ⟨.inl d1, List.forall_mem_cons.mpr ⟨.inl e1.symm, fun p hp => .inr (by rw [hT p hp]; decide)⟩⟩⟩⟩⟩
  · rw [show refs ws ++ [Value.ref p0.1] = refs (ws ++ [p0]) by simp [refs]]
    refine ret _ fun p hp => ?_
    simp only [List.mem_cons, List.mem_append, List.not_mem_nil, or_false] at hp ⊢
    rcases hp with (h | h | h | h | h | h) | h <;> simp only [h, true_or, or_true]
theorem app_dl_s (D : Six sc sp tl lr wl dl) (hT : Tup T) (hled : ∀ p ∈ lawH sc sp tl lr wl dl xs 0 i ti mi its nt recs nr ws nw dvs nd ++ T, p ∈ led) {v : Value} (hz : dvs.length ≤ 1000) (ret : ∀ led', (∀ p ∈ lawH sc sp tl lr wl dl xs 0 i ti mi its nt recs nr ws nw (dvs ++ [v]) (nd + 1) ++ T, p ∈ led') → k .none ⟨ps, led', fz⟩) :
    Sm w Tn c ⟨ps, led, fz⟩ (call (.builtin "list.append") [.ref dl, v]) k := by
  obtain ⟨⟨a1, a2, a3, a4⟩, ⟨b1, b2, b3, b4⟩, ⟨c1, c2, c3⟩, ⟨d1, d2⟩, e1⟩ := D.ne
  refine sm_appendX (vs := dvs) (m := nd) ([(sp, listOf [Value.int (i : Int) ti].toArray mi), (sc, listOf xs.toArray 0), (tl, listOf (refs its).toArray nt), (lr, listOf recs.toArray nr), (wl, listOf (refs ws).toArray nw)] ++ T) (fun p hp => hled p ?_) hz ?_ (ret _ fun p hp => ?_)
  · simp only [List.mem_cons, List.mem_append, List.not_mem_nil, or_false] at hp ⊢
    rcases hp with h | (h | h | h | h | h) | h <;> simp only [h, true_or, or_true]
  · exact List.forall_mem_cons.mpr ⟨.inl a4, List.forall_mem_cons.mpr ⟨.inl b4, List.forall_mem_cons.mpr ⟨.inl c3, List.forall_mem_cons.mpr ⟨.inl d2, List.forall_mem_cons.mpr ⟨.inl e1, fun p hp => .inr (by rw [hT p hp]; decide)⟩⟩⟩⟩⟩
  · simp only [List.mem_cons, List.mem_append, List.not_mem_nil, or_false] at hp ⊢
    rcases hp with (h | h | h | h | h | h) | h <;> simp only [h, true_or, or_true]
theorem sm_and2 (G : CxG w Tn kk rai c) {σ : St} {x y : PySem.Expr} {pos : Pos} (h : (evN w Tn c n).1 x σ fun v σ₁ => truV w Tn c v σ₁ fun t σ₂ => two ((evN w Tn c n).1 y σ₂ k) (k v σ₂) t) : Sm w Tn c σ (eval (.BoolOp .And [x, y] pos) c.env) k := fun h0 tk H =>
  wpAny_And2 ((ev_ok G h).run H fun v σ₁ h1 tk1 H1 q => (truV_ok q).run H1 fun t σ₂ h2 tk2 H2 q => match t, q with
    | false, q => pk_now H2 q
    | true, q => ev_ok G q _ _ H2)
theorem sm_eqv (G : CxG w Tn kk rai c) {a b : Addr} {led ex1 ex2 : Led} {vs us : List Value} {n1 n2 : Nat} {xv : List Val} (h1 : (a, listOf vs.toArray n1) ∈ led) (h2 : (b, listOf us.toArray n2) ∈ led) (s1 : ∀ p ∈ ex1, p ∈ led) (s2 : ∀ p ∈ ex2, p ∈ led) (V1 : Vals vs ex1 xv) (V2 : Vals us ex2 xv) (h : k (.bool true) ⟨ps, led, fz⟩) (hk : 4 ≤ kk := by decide) :
    Sm w Tn c ⟨ps, led, fz⟩ (compareOp .Eq (.ref a) (.ref b)) k := fun h0 tk H =>
  eq_vals (s := c.sh h0 tk) G.X H.F H.N (List.mem_append_left _ h1) (List.mem_append_left _ h2) (fun p hp => List.mem_append_left _ (s1 p hp)) (fun p hp => List.mem_append_left _ (s2 p hp)) V1 V2 (by have := G.un; lia) (pk_now H h)
theorem use_T (G : CxG w Tn kk rai c) (ho : c.outer = []) (hkp : c.kp = []) {led : Led} {k' : Nat} {f : Addr} {args : List Value} {fz0 : Led} {post : Value → Led → Prop} (C : ConT w f k' args fz0 post) (hz : ∀ p ∈ fz0, p ∈ led) (ret : ∀ v new, post v new → k v ⟨ps, new ++ led, fz⟩) (hk : k' ≤ kk := by decide) :
    Sm w Tn c ⟨ps, led, fz⟩ (call (.ref f) args) k := fun h0 tk H => by
  obtain ⟨mean, mg, mb, A₀, base, B, Tp, O⟩ := G.at_
  have hd := G.dep
  have hu := G.un
  obtain ⟨q, sc, L, fa, cd, e, h1, h2, h3⟩ := G.env
  have ef : c.env.frame = some c.env.locals := by rw [e]; rfl
  have ek : c.env.scope.kind = .function := by rw [e]; exact h1
  have S : Site w mean mg mb k' c.A A₀ base c.env c.outer (c.sh h0 tk) c.g c.env.locals (lk Tn.nm ps) := ⟨B, G.fr, ef, ek, H.F, G.X, Tp, by lia, by lia, O⟩
  rw [ho] at S
  refine useT C S G.hh H.N (fun p hp => List.mem_append_left _ (hz p hp)) fun v new h' tk' hp F' N' => pk_now (σ := ⟨ps, new ++ led, fz⟩) ⟨F', by rw [List.append_assoc]; exact N', by rw [hkp]; exact fun _ _ _ h => (nomatch h), H.Z⟩ (ret v new hp)
end
noncomputable abbrev Sub (a b : Led) : Prop := ∀ p ∈ a, p ∈ b
theorem sub_new {H T l : Led} {p0 : Addr × Obj} (h : Sub (H ++ T) l) : Sub (H ++ (p0 :: T)) (p0 :: l) := fun p hp => by
  simp only [List.mem_append, List.mem_cons] at hp
  rcases hp with q | q | q
  · exact .tail _ (h p (List.mem_append_left _ q))
  · exact q ▸ .head _
  · exact .tail _ (h p (List.mem_append_right _ q))
theorem sub_snoc {H a b l : Led} {p0 : Addr × Obj} (h : Sub (H ++ (p0 :: (a ++ b))) l) : Sub (H ++ ((a ++ [p0]) ++ b)) l := fun p hp => h p (by
  simp only [List.mem_append, List.mem_cons, List.not_mem_nil, or_false] at hp ⊢
  rcases hp with q | (q | q) | q <;> simp only [q, true_or, or_true])
theorem sub_all {H A W X E4 l : Led} {p0 q0 : Addr × Obj} (h : Sub (H ++ (q0 :: (p0 :: (E4 ++ (A ++ (W ++ X)))))) l) : Sub (H ++ ((A ++ [p0]) ++ ((W ++ [q0]) ++ (E4 ++ X)))) l := fun p hp => h p (by
  simp only [List.mem_append, List.mem_cons, List.not_mem_nil, or_false] at hp ⊢
  rcases hp with q | (q | q) | (q | q) | q | q <;> simp only [q, true_or, or_true])
theorem tup_all {A W X E4 : Led} {p0 q0 : Addr × Obj} (h : Tup (q0 :: (p0 :: (E4 ++ (A ++ (W ++ X)))))) : Tup ((A ++ [p0]) ++ ((W ++ [q0]) ++ (E4 ++ X))) := fun p hp => h p (by
  simp only [List.mem_append, List.mem_cons, List.not_mem_nil, or_false] at hp ⊢
  rcases hp with (q | q) | (q | q) | q | q <;> simp only [q, true_or, or_true])
theorem tup_snoc {a b : Led} {p0 : Addr × Obj} (h : Tup (p0 :: (a ++ b))) : Tup ((a ++ [p0]) ++ b) := fun p hp => h p (by
  simp only [List.mem_append, List.mem_cons, List.not_mem_nil, or_false] at hp ⊢
  rcases hp with (q | q) | q <;> simp only [q, true_or, or_true])
theorem tup_cons {T : Led} {a : Addr} {vs : List Value} (h : Tup T) : Tup ((a, tupO vs) :: T) := List.forall_mem_cons.mpr ⟨rfl, h⟩
theorem tup_app {A T : Led} (h : Tup A) (h2 : Tup T) : Tup (A ++ T) := fun p hp => (List.mem_append.mp hp).elim (h p) (h2 p)
theorem kinds_at (t0 t1 t2 t3 : Tok) {j : Nat} (h : (j : Int) < 4) : ∃ (kd : Int) (t : Tok), [Value.int 0 t0, .int 1 t1, .int 2 t2, .int 4 t3][j]? = some (.int kd t) ∧ (kd = 0 ∨ kd = 1 ∨ kd = 2 ∨ kd = 4) := by
  have e : j = 0 ∨ j = 1 ∨ j = 2 ∨ j = 3 := by lia
  rcases e with rfl | rfl | rfl | rfl
  · exact ⟨_, _, rfl, .inl rfl⟩
  · exact ⟨_, _, rfl, .inr (.inl rfl)⟩
  · exact ⟨_, _, rfl, .inr (.inr (.inl rfl))⟩
  · exact ⟨_, _, rfl, .inr (.inr (.inr rfl))⟩

end
section
theorem rows_snoc {R : List (List Fd)} {c : List Fd} (hok : RowsOK R) (hc0 : c ≠ []) (hc4 : c.length ≤ 4) (hcok : ∀ f ∈ c, FdOK f) : RowsOK (R ++ [c]) := fun row hr => (List.mem_append.mp hr).elim (hok row) fun h => by
  rw [List.mem_singleton] at h; subst h; exact ⟨hc0, hc4, hcok⟩
theorem law_walk (w : World) (mean : ExcName → Option Value) (mg mb : PySem.Str → Option Value) (dp un tk0 : Nat) (gd : Option (List Code)) (A₀ : Around) (base g : Heap) (L f : Addr) (cdv : Value) (s : Shared) (h₁ : Heap) (a : Addr) (vs : List Value)
    (ns : List Int) (hx : IntsAre vs ns) (hl : g.IsList a vs.toArray) (hlen : ns.length ≤ 63) (hdep : dp + 2 * 40 < recursionLimit) (hun : un + 16 * 40 < cLine) (F : Fr g L h₁ (fun y => [((PySem.Str.ofString "script"), Value.ref a)].reverse.lookup y))
    (B : Below (Arn0 dp un gd) base [] g) (X : (KP w.params).In g) (T : Top VW (looseW VW []) mean mg mb g) (O : OnBase w mean mg mb base) :
    wpAny (model PySem.Challenge.rw_no0277_01.row.prog w) ((Arn0 dp un gd).deeper (envOf "law" (fS (st 76)) L f cdv)) (execs (fB (st 76)) (envOf "law" (fS (st 76)) L f cdv)) (Fin g L s) (fun _ _ => False) { s with heap := h₁, toks := tk0 } := by
  obtain ⟨xs, hxe, hxs, hxl, hvl⟩ : ∃ xs, (slicePick vs.toArray none (some ((40 : Nat) : Int)) none).toList = xs ∧ (∀ v ∈ xs, ∃ n t, v = Value.int n t) ∧ xs.length ≤ 100 ∧ vs.length ≤ 1048576 := by
    have hz := kmk_upto (y := 40) hx (by decide)
    have hzl := hz.length
    rw [List.length_take] at hzl
    have := hx.length
    exact ⟨_, rfl, ints_mem hz, Nat.le_trans (Nat.le_of_eq hzl) (by lia), by lia⟩
  refine' law_vc (n := 20) ⟨["script", "spot", "tree", "records", "wanted", "due", "code", "r", "row", "k", "kind", "text", "fell", "value", "answer"], [("range", .type "range"), ("len", .builtin "len"), ("_law_take", .ref 562), ("_law_constant", .ref 583), ("_law_by_format", .ref 590), ("_law_by_list", .ref 597)], [562, 583, 590, 597]⟩ (binds := [("script", .ref a)]) ?hbody ?hscope hdep hun F B X T O ?hT ?hgl ?hfn ?hmain
  (
   (case hbody => conv => lhs; whnf)
   (case hscope => conv => lhs; whnf)
   (case hT => exact rfl)
   (case hgl => repeat' (first | exact List.forall_mem_nil _ | refine List.forall_mem_cons.mpr ⟨?_, ?_⟩ | exact Or.inl (by k_is) | exact Or.inr ⟨by k_is, by with_unfolding_all rfl, by decide +kernel⟩))
   (case hfn => repeat' (first | exact List.forall_mem_nil _ | refine List.forall_mem_cons.mpr ⟨?_, ?_⟩ | k_is)))
  intro c R G hg ho hkp hfin
  (repeat (intro (_ : Tok)))
  refine sm_slice (m := 40) (hg ▸ hl) hxe hvl fun sc => ?_
  clear hxe hx hvl F B T O hdep hun
  intro t0 _ sp h1 _ tl h2 _ lr h3 _ wl h4 _ dl h5 tC
  have D6 : Six sc sp tl lr wl dl := ⟨h1 _ (.head _), h2 _ (.head _), h3 _ (.head _), h4 _ (.head _), h5 _ (.head _)⟩
  clear h1 h2 h3 h4 h5
  (repeat (intro (_ : Tok)))
  refine take_s G (T := []) (its := []) (ws := []) D6 (fun _ _ _ h => nomatch h) hxs hxl (List.forall_mem_cons.mpr ⟨(.tail _ (.tail _ (.tail _ (.tail _ (.head _))))), List.forall_mem_cons.mpr ⟨(.tail _ (.tail _ (.tail _ (.tail _ (.tail _ (.head _)))))), List.forall_mem_cons.mpr ⟨(.tail _ (.tail _ (.tail _ (.head _)))), List.forall_mem_cons.mpr ⟨(.tail _ (.tail _ (.head _))), List.forall_mem_cons.mpr ⟨(.tail _ (.head _)), List.forall_mem_cons.mpr ⟨(.head _), fun _ h => nomatch h⟩⟩⟩⟩⟩⟩) (by decide) (by decide) (by decide) fun rn tt m2 mm2 led0 hrn hled0 => ?_
  (repeat (intro (_ : Tok)))
  refine for_rng (n := 20) (nn := 1 + rn) G (by lia) (fun r K => ∀ (i : Nat) (ti : Tok) (mi : Nat) (its : Led) (nt : Nat) (recs : List Value) (nr : Nat) (ws : Led) (nw : Nat) (dvs : List Value) (nd : Nat) (ex : Led) (R : List (List Fd)) (tC : Tok) (s8 s9 s10 s11 s12 s13 s14 : Option Value) (led : Led),
    R.length = r → i ≤ 1 + 60 * r → Its its (spOf R) → Recs recs R → Wants ws R.flatten → Dues dvs ex R.flatten → RowsOK R → Tup (its ++ (ws ++ ex)) → Sub (lawH sc sp tl lr wl dl xs 0 i ti mi its nt recs nr ws nw dvs nd ++ (its ++ (ws ++ ex))) led →
    K ⟨[some (.ref sc), some (.ref sp), some (.ref tl), some (.ref lr), some (.ref wl), some (.ref dl), some (.int (codeOf R.flatten) tC), s8, s9, s10, s11, s12, s13, s14, none], led, []⟩)
    (fun K h => h 1 m2 mm2 [] 0 [] 0 [] 0 [] 0 [] [] tC none none none none none none none led0 rfl (by lia) Its.nil Recs.nil Wants.nil Dues.nil (fun _ h => nomatch h) (fun _ h => nomatch h) hled0) (fun c1 R1 r tv G1 hL hr => ?_) ?_
  · intro i ti mi its nt recs nr ws nw dvs nd ex R tC s8 s9 s10 s11 s12 s13 s14 led hR hi hI hRc hW hD hok hT hled
    refine asg_nm G1 ?_
    intro tR
    have hlen := hI.len
    have hlR : (spOf R).length ≤ 100 := by have := spOf_len hok; lia
    refine meet_st (fun K => ∀ (its1 : Led) (nt1 : Nat) (led1 : Led), Its its1 (spR R) → Tup (its1 ++ (ws ++ ex)) → Sub (lawH sc sp tl lr wl dl xs 0 i ti mi its1 nt1 recs nr ws nw dvs nd ++ (its1 ++ (ws ++ ex))) led1 →
      K ⟨[some (.ref sc), some (.ref sp), some (.ref tl), some (.ref lr), some (.ref wl), some (.ref dl), some (.int (codeOf R.flatten) tC), some (.int (r : Int) tv), some (.str (S []) tR), s10, s11, s12, s13, s14, none], led1, []⟩) (fun R2 hM => ?_) ?_
    · refine vc_if (n := 20) G1 ?_
      (repeat (intro (_ : Tok)))
      refine ⟨fun (h : 0 < (r : Int)) => ?_, fun (h : ¬ 0 < (r : Int)) => ?_⟩
      · refine app_at (n := 19) G1 (hled _ (.tail _ (.tail _ (.head _)))) ?_
        intro t _ p0 hp0
        refine app_tl_s D6 (tup_cons hT) (sub_new hled) (p0, tupO [.str "/" t]) (by lia) fun led' hl' => ?_
        refine hM.next fun K q => q (its ++ [(p0, tupO [.str "/" t])]) (nt + 1) led' ?_ (tup_snoc (tup_cons hT)) (sub_snoc hl')
        unfold spR
        rw [if_neg (by rintro rfl; simp at hR; lia)]
        exact hI.snoc ⟨_, rfl⟩
      · refine hM.next fun K q => q its nt led ?_ hT hled
        have hR0 : R = [] := List.length_eq_zero_iff.mp (by lia)
        subst hR0
        exact hI
    intro its1 nt1 led1 hI1 hT1 hled1
    clear hI hT hled hlen hlR
    (repeat (intro (_ : Tok)))
    refine take_s G1 D6 (fun _ H => off_tup H hT1 hled1) hxs hxl hled1 (by decide) (by decide) (by lia) fun kn tt1 mt1 mi1 led2 hkn hled2 => ?_
    (repeat (intro (_ : Tok)))
    refine for_rng (n := 20) (nn := 1 + kn) G1 (by lia) (fun k K => ∀ (i : Nat) (ti : Tok) (mi : Nat) (its : Led) (nt : Nat) (ws : Led) (nw : Nat) (dvs : List Value) (nd : Nat) (ex : Led) (c : List Fd) (tC tR : Tok) (s10 s11 s12 s13 s14 : Option Value) (led : Led),
      c.length = k → i ≤ 2 + 60 * r + 14 * k → Its its (spR R ++ c.map It.fld) → Wants ws (R.flatten ++ c) → Dues dvs ex (R.flatten ++ c) → (∀ f ∈ c, FdOK f) → Tup (its ++ (ws ++ ex)) → Sub (lawH sc sp tl lr wl dl xs 0 i ti mi its nt recs nr ws nw dvs nd ++ (its ++ (ws ++ ex))) led →
      K ⟨[some (.ref sc), some (.ref sp), some (.ref tl), some (.ref lr), some (.ref wl), some (.ref dl), some (.int (codeOf (R.flatten ++ c)) tC), some (.int (r : Int) tv), some (.str (S (rowT c)) tR), s10, s11, s12, s13, s14, none], led, []⟩)
      (fun K h => ?_) (fun c2 R2 k tv2 G2 hL2 hk => ?_) ?_
    · have h := h (i + 1) mt1 mi1 its1 nt1 ws nw dvs nd ex [] tC tR s10 s11 s12 s13 s14 led2 rfl (by lia) (by rw [List.map_nil, List.append_nil]; exact hI1) (by rw [List.append_nil]; exact hW) (by rw [List.append_nil]; exact hD) (fun _ h => nomatch h) hT1 hled2
      rw [List.append_nil] at h
      exact h
    · clear hI1 hT1 hled1 hled2 hW hD
      intro i ti mi its nt ws nw dvs nd ex c tC tR s10 s11 s12 s13 s14 led hc hi hI hW hD hcok hT hled
      refine asg_nm G2 ?_
      have hlI := hI.len
      have hlW := hW.len
      have hlD := hD.len
      have hlR2 : (spR R ++ c.map It.fld).length ≤ 50 := by
        have := spOf_len hok
        unfold spR
        split <;> simp <;> lia
      have hlF : (R.flatten ++ c).length ≤ 50 := by have := flat_len hok; rw [List.length_append]; lia
      have hrc := rowT_len hcok
      (repeat (intro (_ : Tok)))
      rename_i u0 u1 u2 u4
      intro _ la hla
      (repeat (intro (_ : Tok)))
      refine take_s G2 (T := (la, _) :: (its ++ (ws ++ ex))) D6 (fun _ H => off_app (off_new hla fun p hp => hled p (List.mem_append_left _ hp)) (off_tup H hT fun p hp => .tail _ (hled p hp))) hxs (by lia) (sub_new hled) (by decide) (by decide) (by lia) fun j t3 tt3 m3 led3 hj hled3 => ?_
      refine nnOf fun nO => ?_
      obtain ⟨kd, tK, hkd, hp2⟩ := kinds_at u0 u1 u2 u4 hj <;> (refine nO ?_; clear nO)
      refine sm_item (.inl (hled3 _ (List.mem_append_right _ (.head _)))) rfl hkd (by lia) ?_
      have h3 : Sub (lawH sc sp tl lr wl dl xs 0 (i + 1) tt3 m3 its nt recs nr ws nw dvs nd ++ (its ++ (ws ++ ex))) led3 := fun p hp => hled3 p ((List.mem_append.mp hp).elim (fun h => List.mem_append_left _ h) fun h => List.mem_append_right _ (.tail _ h))
      clear hled hled3 hla hkd
      refine const_s G2 D6 (fun _ H => off_tup H hT h3) hxs (by lia) h3 hp2 (by lia) fun a4 Xt fell x tt4 tf xv ex4 i2 t5 m4 led4 hi2 hfok hx4 ha4 hled4 => ?_
      refine sm_unpack G2 (.inl ha4) rfl rfl ?_
      have hT4 : Tup (ex4 ++ (its ++ (ws ++ ex))) := tup_app (optIs_tup hx4) hT
      (repeat (intro (_ : Tok)))
      refine take_s G2 D6 (fun _ H => off_tup H hT4 hled4) hxs (by lia) hled4 (by decide) (by decide) (by lia) fun b t6 tt6 m6 led6 hb hled6 => ?_
      (repeat (intro (_ : Tok)))
      refine sm_times 32 (by lia) (by lia) ?_
      rw [show (1 + (b : Int)).toNat = 1 + b by lia]
      (repeat (intro (_ : Tok)))
      obtain ⟨f, hff, hfk, hft, hfl, hfx, hfb⟩ : ∃ f : Fd, List.replicate (1 + b) 32 ++ Xt = f.full ∧ f.kind = kd ∧ f.text = Xt ∧ f.fell = fell ∧ f.x = x ∧ f.bl = 1 + b := ⟨⟨kd, Xt, 1 + b, fell, x⟩, rfl, rfl, rfl, rfl, rfl, rfl⟩
      have hfd : FdOK f := ⟨by rw [hfk]; lia, by rw [hfk, hft, hfl, hfx]; exact hfok, by lia, by lia⟩
      have hfu := full_len hfd
      have hfull : f.full.length ≤ 1048576 := by lia
      refine ⟨by rw [← List.length_append, hff]; exact hfull, ?_⟩
      rw [hff]
      intro tX
      refine ⟨by lia, ?_⟩
      intro tR2
      refine meet_st (fun K => ∀ (p0 : Addr × Obj) (led7 : Led), ItOK (.fld f) p0.2 → p0.2.cls = .type "tuple" → Sub (lawH sc sp tl lr wl dl xs 0 (i2 + 1) tt6 m6 (its ++ [p0]) (nt + 1) recs nr ws nw dvs nd ++ (p0 :: (ex4 ++ (its ++ (ws ++ ex))))) led7 →
        K ⟨[some (.ref sc), some (.ref sp), some (.ref tl), some (.ref lr), some (.ref wl), some (.ref dl), some (.int (codeOf (R.flatten ++ c)) tC), some (.int (r : Int) tv), some (.str (S (rowT c ++ f.full)) tR2), some (.int (k : Int) tv2), some (.int kd tK), some (.str (S f.full) tX), some (.int fell tf), some xv, none], led7, []⟩) (fun R3 hM => ?_) ?_
      · clear hI hW hD hL hL2
        refine vc_if (n := 20) G2 ?_
        (repeat (intro (_ : Tok)))
        refine ⟨fun (h : kd = 0) => ?_, fun (h : ¬ kd = 0) => ?_⟩
        · refine app_at (n := 19) G2 (hled6 _ (.tail _ (.tail _ (.head _)))) ?_
          intro ta
          refine sm_len hfull ?_
          intro tb
          intro _ D1 hD1
          refine app_tl_s D6 (tup_cons hT4) (sub_new hled6) (D1, tupO [.str "I" ta, .int f.full.length tb, .none]) (by lia) fun led' hl' => ?_
          exact hM.next fun K q => q _ led' ⟨_, rfl, .inl ⟨hfk.trans h, _, _, rfl⟩⟩ rfl hl'
        refine vc_if (n := 20) G2 ?_
        (repeat (intro (_ : Tok)))
        refine ⟨fun (h4 : kd = 4) => ?_, fun (h4 : ¬ kd = 4) => ?_⟩
        · refine app_at (n := 19) G2 (hled6 _ (.tail _ (.tail _ (.head _)))) ?_
          intro ta
          refine sm_len hfull ?_
          intro tb
          intro _ D1 hD1
          refine app_tl_s D6 (tup_cons hT4) (sub_new hled6) (D1, tupO [.str "L" ta, .int f.full.length tb]) (by lia) fun led' hl' => ?_
          exact hM.next fun K q => q _ led' ⟨_, rfl, .inr (.inl ⟨hfk.trans h4, _, _, rfl⟩)⟩ rfl hl'
        have hf12 : f.kind = 1 ∨ f.kind = 2 := by rw [hfk]; lia
        refine app_at (n := 19) G2 (hled6 _ (.tail _ (.tail _ (.head _)))) ?_
        intro ta1
        refine sm_len hfull ?_
        intro tb1 tc1
        intro _ D1 g1
        intro ta2
        refine sm_len hfull ?_
        intro tb2 tc2
        intro _ D2 g2
        intro ta3
        refine sm_len hfull ?_
        intro tb3 tc3 td3
        intro _ D3 g3
        intro _ Dl g4
        intro te
        refine ⟨by decide, ?_⟩
        intro tf0
        have e3 : k % 3 = 0 ∨ k % 3 = 1 ∨ k % 3 = 2 := by lia
        rcases e3 with e3 | e3 | e3
        · refine sm_itemZ (k % 3) (Int.natCast_emod k 3).symm (.inl (.head _)) rfl (x := .ref D1) (by rw [e3]; rfl) (by lia) ?_
          refine app_tl_s D6 (tup_cons hT4) (fun p hp => .tail _ (.tail _ (.tail _ (sub_new hled6 p hp)))) (D1, tupO [.str "F" ta1, .int f.full.length tb1, .int 0 tc1]) (by lia) fun led' hl' => ?_
          exact hM.next fun K q => q _ led' ⟨_, rfl, .inr (.inr ⟨hf12, .inl ⟨_, _, _, rfl⟩⟩)⟩ rfl hl'
        · refine sm_itemZ (k % 3) (Int.natCast_emod k 3).symm (.inl (.head _)) rfl (x := .ref D2) (by rw [e3]; rfl) (by lia) ?_
          refine app_tl_s D6 (tup_cons hT4) (fun p hp => (List.mem_cons.mp (sub_new hled6 p hp)).elim (fun e => by rw [e]; exact .tail _ (.tail _ (.head _))) fun h => .tail _ (.tail _ (.tail _ (.tail _ h)))) (D2, tupO [.str "E" ta2, .int f.full.length tb2, .int 0 tc2, .none]) (by lia) fun led' hl' => ?_
          exact hM.next fun K q => q _ led' ⟨_, rfl, .inr (.inr ⟨hf12, .inr (.inl ⟨_, _, _, rfl⟩)⟩)⟩ rfl hl'
        · refine sm_itemZ (k % 3) (Int.natCast_emod k 3).symm (.inl (.head _)) rfl (x := .ref D3) (by rw [e3]; rfl) (by lia) ?_
          refine app_tl_s D6 (tup_cons hT4) (fun p hp => (List.mem_cons.mp (sub_new hled6 p hp)).elim (fun e => by rw [e]; exact .tail _ (.head _)) fun h => .tail _ (.tail _ (.tail _ (.tail _ h)))) (D3, tupO [.str "G" ta3, .int f.full.length tb3, .int 0 tc3, .int 2 td3]) (by lia) fun led' hl' => ?_
          exact hM.next fun K q => q _ led' ⟨_, rfl, .inr (.inr ⟨hf12, .inr (.inr ⟨_, _, _, _, rfl⟩)⟩)⟩ rfl hl'
      intro p0 led7 hpk hpt hled7
      have hT7 : Tup (p0 :: (ex4 ++ (its ++ (ws ++ ex)))) := List.forall_mem_cons.mpr ⟨hpt, hT4⟩
      refine app_at (n := 19) G2 (hled7 _ (.tail _ (.tail _ (.tail _ (.tail _ (.head _)))))) ?_
      intro tz _ q0 hq0
      refine app_wl_s D6 (tup_cons hT7) (sub_new hled7) (q0, tupO [.int kd tK, .int 0 tz]) (by lia) fun led8 hl8 => ?_
      refine app_at (n := 19) G2 (hl8 _ (.tail _ (.tail _ (.tail _ (.tail _ (.tail _ (.head _))))))) ?_
      refine app_dl_s D6 (tup_cons hT7) hl8 (by lia) fun led9 hl9 => ?_
      have q9 : ∀ (cd : Int) (tc : Tok), codeOf ((R.flatten ++ c) ++ [f]) = cd → R2 .next ⟨[some (.ref sc), some (.ref sp), some (.ref tl), some (.ref lr), some (.ref wl), some (.ref dl), some (.int cd tc), some (.int (r : Int) tv), some (.str (S (rowT c ++ f.full)) tR2), some (.int (k : Int) tv2), some (.int kd tK), some (.str (S f.full) tX), some (.int fell tf), some xv, none], led9, []⟩ := fun cd tc hcd => hL2.next fun K q => by
        have q := q (i2 + 1) tt6 m6 (its ++ [p0]) (nt + 1) (ws ++ [(q0, tupO [.int kd tK, .int 0 tz])]) (nw + 1) (dvs ++ [xv]) (nd + 1) (ex4 ++ ex) (c ++ [f]) tc tR2 (some (.int (k : Int) tv2)) (some (.int kd tK)) (some (.str (S f.full) tX)) (some (.int fell tf)) (some xv) led9 (by rw [List.length_append, hc]; rfl) (by lia)
          (by rw [List.map_append, ← List.append_assoc]; exact hI.snoc hpk) (by rw [← List.append_assoc]; exact hW.snoc ⟨tK, by rw [hfk]⟩ ⟨_, rfl⟩) (by rw [← List.append_assoc]; exact hD.snoc (by rw [hfx]; exact hx4)) (fun g hg => (List.mem_append.mp hg).elim (hcok g) fun h => by rw [List.mem_singleton] at h; exact h ▸ hfd) (tup_all (tup_cons hT7)) (sub_all hl9)
        rw [← List.append_assoc, hcd, rowT_snoc] at q
        exact q
      refine vc_as (n := 20) G2 ?_
      (repeat (intro (_ : Tok)))
      refine ⟨fun (h : codeOf (R.flatten ++ c) = 0) => ?_, fun (h : ¬ codeOf (R.flatten ++ c) = 0) => ?_⟩
      · exact q9 fell tf (by rw [codeOf_snoc, if_pos h, hfl])
      · exact q9 _ tC (by rw [codeOf_snoc, if_neg h])
    · intro i ti mi its nt ws nw dvs nd ex c tC tR s10 s11 s12 s13 s14 led hc hi hI hW hD hcok hT hled
      have hrl := hRc.len
      refine app_at (n := 19) G1 (hled _ (.tail _ (.tail _ (.tail _ (.head _))))) ?_
      refine app_lr_s D6 hT hled (by lia) fun led' hl' => ?_
      refine hL.next fun K q => ?_
      have e : (R ++ [c]).flatten = R.flatten ++ c := by simp
      rw [← e] at hW hD ⊢
      exact q i ti mi its nt _ (nr + 1) ws nw dvs nd ex (R ++ [c]) tC _ _ _ _ _ _ _ led' (by rw [List.length_append, hR]; rfl) (by lia) (spR_done R c ▸ hI) hRc.snoc hW hD (rows_snoc hok (by rintro rfl; simp at hc; lia) (by lia) hcok) hT hl'
  · rw [Nat.add_comm 1 rn]
    intro i ti mi its nt recs nr ws nw dvs nd ex R tC s8 s9 s10 s11 s12 s13 s14 led hR hi hI hRc hW hD hok hT hled
    refine nnOf fun nO => ?_
    obtain ⟨A, B2, hRe, hFe, hA4, hB4, hABok, hA0⟩ := rows_of hok (hR.trans (Nat.add_comm rn 1)) (by lia) <;> (refine nO ?_; clear nO)
    subst hRe
    rw [hFe] at hW hD ⊢
    have CF := fmt_call hA4 hB4 hABok hRc hW w tl lr wl nt nr nw hI
    have CL := lst_call hA4 hB4 hABok hRc hW w lr wl nr nw
    have hra := read_all (A ++ B2) hABok
    generalize codeOf (A ++ B2) = cd at *
    clear hI hRc hW hok hABok hT
    refine vc_as (n := 20) G ?_
    (repeat (intro (_ : Tok)))
    refine ⟨fun (h : cd = 0) => ?_, fun (h : ¬ cd = 0) => ?_⟩
    · obtain ⟨xr, hx1, hx2⟩ := hra.1 h
      rw [hx1] at CF CL
      have VD := hD.vals hx2
      refine sm_and2 (n := 20) G ?_
      refine use_T G ho hkp CF (List.forall_mem_cons.mpr ⟨hled _ (.tail _ (.tail _ (.tail _ (.head _)))), List.forall_mem_cons.mpr ⟨hled _ (.tail _ (.tail _ (.head _))), List.forall_mem_cons.mpr ⟨hled _ (.tail _ (.tail _ (.tail _ (.tail _ (.head _))))), fun p hp => hled p (List.mem_append_right _ ((List.mem_append.mp hp).elim (fun h => List.mem_append_left _ h) fun h => List.mem_append_right _ (List.mem_append_left _ h)))⟩⟩⟩) ?_
      intro v new hX43
      refine nnOf fun nO => ?_
      obtain ⟨vl, vs2, n2, ex2, rfl, rfl, V2⟩ := hX43 <;> (refine nO ?_; clear nO)
      refine sm_eqv G (.head _) (List.mem_append_right _ (hled _ (.tail _ (.tail _ (.tail _ (.tail _ (.tail _ (.head _)))))))) (fun p hp => .tail _ (List.mem_append_left _ hp)) (fun p hp => List.mem_append_right _ (hled p (List.mem_append_right _ (List.mem_append_right _ (List.mem_append_right _ hp))))) V2 VD ?_
      refine use_T G ho hkp CL (List.forall_mem_cons.mpr ⟨List.mem_append_right _ (hled _ (.tail _ (.tail _ (.tail _ (.head _))))), List.forall_mem_cons.mpr ⟨List.mem_append_right _ (hled _ (.tail _ (.tail _ (.tail _ (.tail _ (.head _)))))), fun p hp => List.mem_append_right _ (hled p (List.mem_append_right _ (List.mem_append_right _ (List.mem_append_left _ hp))))⟩⟩) ?_
      intro v new hX44
      refine nnOf fun nO => ?_
      obtain ⟨vl3, vs3, n3, ex3, rfl, rfl, V3⟩ := hX44 <;> (refine nO ?_; clear nO)
      refine sm_eqv G (.head _) (List.mem_append_right _ (List.mem_append_right _ (hled _ (.tail _ (.tail _ (.tail _ (.tail _ (.tail _ (.head _))))))))) (fun p hp => .tail _ (List.mem_append_left _ hp)) (fun p hp => List.mem_append_right _ (List.mem_append_right _ (hled p (List.mem_append_right _ (List.mem_append_right _ (List.mem_append_right _ hp)))))) V3 VD ?_
      exact hfin _
    · rw [hra.2 h] at CF CL
      refine sm_and2 (n := 20) G ?_
      refine use_T G ho hkp CF (List.forall_mem_cons.mpr ⟨hled _ (.tail _ (.tail _ (.tail _ (.head _)))), List.forall_mem_cons.mpr ⟨hled _ (.tail _ (.tail _ (.head _))), List.forall_mem_cons.mpr ⟨hled _ (.tail _ (.tail _ (.tail _ (.tail _ (.head _))))), fun p hp => hled p (List.mem_append_right _ ((List.mem_append.mp hp).elim (fun h => List.mem_append_left _ h) fun h => List.mem_append_right _ (List.mem_append_left _ h)))⟩⟩⟩) ?_
      rintro v new ⟨⟨t1, rfl⟩, rfl⟩
      refine ⟨fun _ => ?_, fun h => absurd rfl h⟩
      refine use_T G ho hkp CL (List.forall_mem_cons.mpr ⟨hled _ (.tail _ (.tail _ (.tail _ (.head _)))), List.forall_mem_cons.mpr ⟨hled _ (.tail _ (.tail _ (.tail _ (.tail _ (.head _))))), fun p hp => hled p (List.mem_append_right _ (List.mem_append_right _ (List.mem_append_left _ hp)))⟩⟩) ?_
      rintro v new ⟨⟨t2, rfl⟩, rfl⟩
      refine ⟨fun _ => ?_, fun h => absurd rfl h⟩
      exact hfin _

end
end Mine
open Mine PySem PySem.W PySem.Calls PyProof.Rows
theorem PySem.Challenge.cw_no0277_01_holds : PySem.Challenge.rw_no0277_01.Holds := by
  refine holds_law said fun said' => ?_
  refine holds_open (r := PySem.Challenge.rw_no0277_01.row) (q := VW) (loose := []) (Xt := XT) (XP := XL VW []) (Yf := HK.obs) (Ya := HK.val) (YP := HK.says) (N := NN) left (Hook.of HK) (Hook.keeps HK) (fun s e => xl_of s (Bool.and_eq_true_iff.mp e).1) XL.keeps (by rfl) (by rfl) (by rfl) (fun s e => recFacts_of (Bool.and_eq_true_iff.mp e).2) (by rfl) ?k1 (by decide +kernel) ⟨rfl, rfl, rfl, rfl, rfl, by decide +kernel⟩ ?hw ?hc
  case k1 => first | assumption | decide +kernel
  case hw => w_witness2
  case hc =>
    k_fill
    intro w s₀ s₁ mg mb G Y fa o pm cd doc dV kV ho hd hcd hD hmg hg args vals as hpre hlay hrd hwl hlo
    have KX := kIn_of Y
    have X := (Ground.X G).1
    refine Ground.open G ?_
    intro T B D TE TW
    obtain ⟨_, _, M⟩ := bmod_of_top T
    have TA := at_of_top T
    obtain ⟨_, _, he, B0⟩ := based_of_top T rfl hmg ho hd
    subst he
    clear hmg
    wrow_args hpre hlay hrd hwl hlo
    refine enter_call ?_
    w_top on
    refine codeAny_mono ?_ (fun _ _ g => GoodW.toG g)
    have K0 := below_caller (Top.heap T)
    w_call any ho hd hcd hD T F
    clear hd TA
    rename IntsAre _ _ => hI
    have F1 := F
    refine wpAny_mono (law_walk _ _ _ _ _ _ _ _ callerA _ _ _ _ _ _ _ _ _ _ hI (by assumption) (by omega) ?hd ?hu F1 K0 (by assumption) (by assumption) ⟨by assumption, by assumption⟩) ?hr ?he
    case hd => decide
    case hu => decide
    case he => exact fun _ _ h => h.elim
    rintro r s2 ⟨rfl, h', tk, m', rfl, F'⟩
    refine ⟨.inl ⟨_, .bool true, [], rfl, fun _ => rfl, .bool _, ?_, fun _ => ⟨List.nodup_nil, fun a ha => absurd ha List.not_mem_nil⟩⟩, F'.keep, rfl, by assumption⟩
    wrow_post
