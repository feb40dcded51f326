import PyProof.Rows.All
import Wide.All
import OpenK.AllK
import Wide.FinOn
import PySem.Challenge.RW_tg0038_02
open PySem PySem.W PyProof.Rows
set_option Elab.async false
set_option rowWalk.seconds 0
set_option linter.unusedVariables false
set_option linter.unusedSimpArgs false
set_option compiler.extract_closed false
namespace Mine
section Head
set_option maxRecDepth 100000
set_option maxHeartbeats 8000000
abbrev pw : Program := PySem.Challenge.pw_tg0038_02
noncomputable def nth : List Stmt → Nat → Stmt
  | [], _ => default
  | s :: r, n => match n with
    | 0 => s
    | k + 1 => nth r k
noncomputable def dBody : Stmt → List Stmt
  | .FunctionDef _ _ b _ _ _ _ _ _ _ => b
  | .ClassDef _ _ _ b _ _ _ _ _ _ _ => b
  | _ => []
noncomputable def dArgs : Stmt → Arguments
  | .FunctionDef _ a _ _ _ _ _ _ _ _ => a
  | _ => default
noncomputable def dScope : Stmt → Scope
  | .FunctionDef _ _ _ _ _ _ s _ _ _ => s
  | _ => default
noncomputable def pT (i : Nat) : Stmt := nth pw.main.body i
noncomputable def pM (i j : Nat) : Stmt := nth (dBody (pT i)) j
noncomputable def sl (i n : Nat) : List Stmt := ((behindTheImports pw).drop i).take n
noncomputable def eS (P : Params) (x : Str) (t : Tok) (v : Value) : DictEntry := ⟨PyData.keyHash P x, .str x t, v⟩
noncomputable def fD (n q : Str) (d : Stmt) (g : Addr) (c : List (Str × Addr)) (df kw doc pm : Value) (an : Option Addr) (cd ct : Value) (bi : Addr) : Data := .func ⟨n, q, dArgs d, .stmts (dBody d), dScope d, g, c, df, kw, doc, pm, an, cd, ct, bi⟩
abbrev N := BT.node
abbrev L := BT.nil
noncomputable def o0 (P : Params) : Obj := ⟨Value.type "tuple", Option.none , Data.seq #[] 0, #[]⟩
noncomputable def o1 (P : Params) : Obj := ⟨Value.none, Option.none , Data.fields #[], #[]⟩
noncomputable def o2 (P : Params) : Obj := ⟨Value.type "code", Option.none , Data.fields #[Value.str "<module>" 182, Value.str "<module>" 183, Value.str "/claim/cut.py" 184, Value.int 1 0, Value.int 0 0, Value.int 0 0, Value.int 0 0, Value.int 0 0, Value.ref 11, Value.bool false, Value.int 181 0, Value.ref 12, Value.none, Value.none, Value.none, Value.none, Value.int 185 0, Value.int 1 0, Value.str "/claim/cut.py" 186], #[]⟩
noncomputable def o3 (P : Params) : Obj := ⟨Value.type "frame", Option.none , Data.plain, #[some (Value.ref 13), some (Value.ref 3), some (Value.ref 3), Option.none , some (Value.str "__main__" 164), Option.none , some (Value.ref 0)]⟩
noncomputable def h0 (P : Params) : Heap := ⟨⟨[boot_o_0 P, boot_o_1 P, boot_o_2 P, boot_o_3 P, boot_o_4 P, boot_o_5 P, boot_o_6 P, boot_o_7 P, boot_o_8 P, boot_o_9 P, boot_o_10 P, o0 P, o1 P, o2 P, o3 P]⟩, {}⟩
noncomputable def env0 : Env := { scope := pw.main.scope, locals := mainNs, globals := mainNs, cells := [], code := Value.ref 13, frame := some 14 }
abbrev B0 : List Stmt := behindTheImports pw
noncomputable def t0 (P : Params) : BT := (N (boot_o_0 P) (N (boot_o_1 P) (N (boot_o_3 P) (N (boot_o_7 P) L L) (N (o0 P) L L)) (N (boot_o_5 P) (N (boot_o_9 P) L L) (N (o2 P) L L))) (N (boot_o_2 P) (N (boot_o_4 P) (N (boot_o_8 P) L L) (N (o1 P) L L)) (N (boot_o_6 P) (N (boot_o_10 P) L L) (N (o3 P) L L))))
theorem seg_lift {w : World} {n : Nat} {s s' : SharedT} {t : Thread} {f : Flow} {c : Code} {q : Pos} (h : PySem.W.Fast.tw10110043849684766642 PySem.W.Fast.tw14364793385576792824 pw w 11 (some (.ref 6)) 1 n s t = some (f, s', c, q)) : segRun treeTable pw w 11 (some (.ref 6)) 1 n s.abs t = some (f, s'.abs, c, q) := by
  rewrite [← PySem.W.Fast.te10110043849684766642, ← PySem.W.Fast.te14364793385576792824] at h
  exact segRun_of h
theorem as_list {w : World} {N : Nat} {s : Shared} {b b' : List Stmt} {env : Env} {c : Code} {p : Pos} {B : List Frame} {r : Option Shared} (e : b = b') (k : topRun treeTable pw w 11 (some (.ref 6)) N s (restOf b' env c p B) = r) : topRun treeTable pw w 11 (some (.ref 6)) N s (restOf b env c p B) = r := by
  rw [e]; exact k
theorem pre0 (w : World) : (fun os : OsState => topGo treeTable pw w 11 (some (.ref 6)) 12 ⟨boot_heap w.params, ⟨[]⟩, boot_drawn, boot_toks, os⟩ (topStub pw)) = fun os => some (⟨h0 w.params, ⟨[]⟩, {}, 187, os⟩, ⟨denote treeTable (.body B0 env0), (.body B0 env0), ⟨0, 0, 0, 0⟩, [topFrame ⟨0, 0, 0, 0⟩]⟩) := by
  rewrite [PySem.W.Fast.te15667345088766844465, PySem.W.Fast.te11892475500146522536, PySem.W.Fast.te14364793385576792824]
  kernel_rfl
theorem blk0 (w : World) : (fun os : OsState => segRun treeTable pw w 11 (some (.ref 6)) 1 1 ⟨h0 w.params, ⟨[]⟩, {}, 187, os⟩ (blockOf B0 env0 (.body B0 env0) ⟨0, 0, 0, 0⟩ [topFrame ⟨0, 0, 0, 0⟩])) = fun os => some (Flow.next, SharedT.abs ⟨t0 w.params, 15, {}, ⟨[]⟩, {}, 187, os⟩, (.body B0 env0), ⟨0, 0, 0, 0⟩) := by
  rewrite [PySem.W.Fast.te14374325043358763698, PySem.W.Fast.te14364793385576792824]
  kernel_rfl
noncomputable def o4 (P : Params) : Obj := ⟨Value.type "dict", Option.none , Data.dict #[eS P "__name__" 165 (Value.str "threepress.errors" 194), eS P "__doc__" 166 Value.none, eS P "__package__" 167 Value.none, eS P "__loader__" 168 (Value.builtin "__main__.__loader__#opaque"), eS P "__spec__" 169 Value.none, eS P "__annotations__" 170 (Value.ref 6), eS P "__builtins__" 171 (Value.ref 4), eS P "__file__" 173 (Value.str "/claim/cut.py" 172), eS P "__cached__" 174 Value.none, eS P "_wall" 193 (Value.ref 21), eS P "PressError" 223 (Value.ref 39)] 11, #[]⟩
noncomputable def o5 (P : Params) : Obj := ⟨Value.none, Option.none , Data.fields #[Value.int 1 0, Value.int 0 0, Value.ref 20, Value.int 5 0, Value.int 0 0, Value.ref 27], #[]⟩
noncomputable def o6 (P : Params) : Obj := ⟨Value.type "tuple", Option.none , Data.seq #[] 0, #[]⟩
noncomputable def o7 (P : Params) : Obj := ⟨Value.none, Option.none , Data.fields #[], #[]⟩
noncomputable def o8 (P : Params) : Obj := ⟨Value.type "tuple", Option.none , Data.seq #[Value.str "k" 190] 0, #[]⟩
noncomputable def o9 (P : Params) : Obj := ⟨Value.type "tuple", Option.none , Data.seq #[] 0, #[]⟩
noncomputable def o10 (P : Params) : Obj := ⟨Value.none, Option.none , fD "_wall" "_wall" (pT 0) 0 [] Value.none Value.none Value.none Value.none (Option.none ) Value.none Value.none 0, #[]⟩
noncomputable def o11 (P : Params) : Obj := ⟨Value.type "code", Option.none , Data.fields #[Value.str "_wall" 187, Value.str "_wall" 188, Value.str "/claim/cut.py" 189, Value.int 1 0, Value.int 1 0, Value.int 0 0, Value.int 0 0, Value.int 3 0, Value.ref 15, Value.bool true, Value.int 181 0, Value.ref 16, Value.none, Value.ref 17, Value.ref 18, Value.ref 19, Value.int 191 0, Value.int 1 0, Value.str "/claim/cut.py" 192], #[]⟩
noncomputable def o12 (P : Params) : Obj := ⟨Value.type "function", Option.none , fD "_wall" "_wall" (pT 0) 3 [] Value.none Value.none Value.none (Value.str "__main__" 164) (Option.none ) (Value.ref 20) Value.none 0, #[]⟩
noncomputable def o13 (P : Params) : Obj := ⟨Value.type "tuple", Option.none , Data.seq #[Value.type "ValueError"] 0, #[]⟩
noncomputable def o14 (P : Params) : Obj := ⟨Value.type "builtin_function_or_method", Option.none , Data.fields #[Value.builtin "type.__prepare__", Value.type "type"], #[]⟩
noncomputable def o15 (P : Params) : Obj := ⟨Value.type "dict", Option.none , Data.dict #[eS P "__module__" 203 (Value.str "threepress.errors" 194), eS P "__qualname__" 205 (Value.str "PressError" 204), eS P "__firstlineno__" 207 (Value.int 5 206), eS P "__init__" 216 (Value.ref 36), eS P "__static_attributes__" 218 (Value.ref 37)] 5, #[]⟩
noncomputable def o16 (P : Params) : Obj := ⟨Value.type "tuple", Option.none , Data.seq #[] 0, #[]⟩
noncomputable def o17 (P : Params) : Obj := ⟨Value.none, Option.none , Data.fields #[Value.int 7 0, Value.int 4 0, Value.ref 35], #[]⟩
noncomputable def o18 (P : Params) : Obj := ⟨Value.type "code", Option.none , Data.fields #[Value.str "PressError" 198, Value.str "PressError" 199, Value.str "/claim/cut.py" 200, Value.int 5 0, Value.int 0 0, Value.int 0 0, Value.int 0 0, Value.int 0 0, Value.ref 25, Value.bool false, Value.int 181 0, Value.ref 26, Value.none, Value.none, Value.none, Value.none, Value.int 201 0, Value.int 5 0, Value.str "/claim/cut.py" 202], #[]⟩
noncomputable def o19 (P : Params) : Obj := ⟨Value.type "frame", Option.none , Data.plain, #[some (Value.ref 27), some (Value.ref 3), some (Value.ref 24), Option.none , some (Value.str "threepress.errors" 194), Option.none , some (Value.ref 0)]⟩
noncomputable def o20 (P : Params) : Obj := ⟨Value.type "tuple", Option.none , Data.seq #[Value.str "" 208] 0, #[]⟩
noncomputable def o21 (P : Params) : Obj := ⟨Value.type "tuple", Option.none , Data.seq #[] 0, #[]⟩
noncomputable def o22 (P : Params) : Obj := ⟨Value.none, Option.none , Data.fields #[], #[]⟩
noncomputable def o23 (P : Params) : Obj := ⟨Value.type "tuple", Option.none , Data.seq #[Value.str "self" 212, Value.str "reason" 213] 0, #[]⟩
noncomputable def o24 (P : Params) : Obj := ⟨Value.type "tuple", Option.none , Data.seq #[] 0, #[]⟩
noncomputable def o25 (P : Params) : Obj := ⟨Value.none, Option.none , fD "__init__" "PressError.__init__" (pM 2 0) 0 [] Value.none Value.none Value.none Value.none (Option.none ) Value.none Value.none 0, #[]⟩
noncomputable def o26 (P : Params) : Obj := ⟨Value.type "code", Option.none , Data.fields #[Value.str "__init__" 209, Value.str "PressError.__init__" 210, Value.str "/claim/cut.py" 211, Value.int 7 0, Value.int 2 0, Value.int 0 0, Value.int 0 0, Value.int 3 0, Value.ref 30, Value.bool true, Value.int 181 0, Value.ref 31, Value.none, Value.ref 32, Value.ref 33, Value.ref 34, Value.int 214 0, Value.int 7 0, Value.str "/claim/cut.py" 215], #[]⟩
noncomputable def o27 (P : Params) : Obj := ⟨Value.type "function", Option.none , fD "__init__" "PressError.__init__" (pM 2 0) 3 [] (Value.ref 29) Value.none Value.none (Value.str "threepress.errors" 194) (Option.none ) (Value.ref 35) Value.none 0, #[]⟩
noncomputable def o28 (P : Params) : Obj := ⟨Value.type "tuple", Option.none , Data.seq #[Value.str "reason" 217] 0, #[]⟩
noncomputable def o29 (P : Params) : Obj := ⟨Value.type "dict", Option.none , Data.dict #[eS P "__module__" 203 (Value.str "threepress.errors" 194), eS P "__firstlineno__" 207 (Value.int 5 206), eS P "__init__" 216 (Value.ref 36), eS P "__static_attributes__" 218 (Value.ref 37), eS P "__weakref__" 220 (Value.ref 40), eS P "__doc__" 221 Value.none] 3, #[]⟩
noncomputable def o30 (P : Params) : Obj := ⟨Value.type "type", Option.none , Data.cls ⟨"PressError", [Value.type "ValueError"], [Value.ref 39, Value.type "ValueError", Value.type "Exception", Value.type "BaseException", Value.type "object"], 38, "PressError", true, [], [], false, Option.none , false⟩, #[some (Value.ref 22), Option.none , some (Value.str "PressError" 196), some (Value.str "PressError" 204), some (Value.builtin "ValueError.__new__"), some (Value.bool true)]⟩
noncomputable def o31 (P : Params) : Obj := ⟨Value.type "getset_descriptor", Option.none , Data.fields #[Value.str "__weakref__" 219, Value.ref 39, Value.builtin "ExceptionGroup.__weakref__", Value.none], #[]⟩
noncomputable def o32 (P : Params) : Obj := ⟨Value.type "super", Option.none , Data.fields #[Value.ref 39, Value.ref 39, Value.ref 39], #[]⟩
noncomputable def o33 (P : Params) : Obj := ⟨Value.type "builtin_function_or_method", Option.none , Data.fields #[Value.builtin "object.__init_subclass__", Value.ref 39], #[]⟩
noncomputable def t1 (P : Params) : BT := (N (boot_o_0 P) (N (boot_o_1 P) (N (o4 P) (N (boot_o_7 P) (N (o6 P) (N (o22 P) L L) L) (N (o14 P) (N (o30 P) L L) L)) (N (o0 P) (N (o10 P) (N (o26 P) L L) L) (N (o18 P) L L))) (N (boot_o_5 P) (N (boot_o_9 P) (N (o8 P) (N (o24 P) L L) L) (N (o16 P) (N (o32 P) L L) L)) (N (o2 P) (N (o12 P) (N (o28 P) L L) L) (N (o20 P) L L)))) (N (boot_o_2 P) (N (boot_o_4 P) (N (boot_o_8 P) (N (o7 P) (N (o23 P) L L) L) (N (o15 P) (N (o31 P) L L) L)) (N (o5 P) (N (o11 P) (N (o27 P) L L) L) (N (o19 P) L L))) (N (boot_o_6 P) (N (boot_o_10 P) (N (o9 P) (N (o25 P) L L) L) (N (o17 P) (N (o33 P) L L) L)) (N (o3 P) (N (o13 P) (N (o29 P) L L) L) (N (o21 P) L L)))))
theorem r0 (w : World) : (fun os : OsState => PySem.W.Fast.tw10110043849684766642 PySem.W.Fast.tw14364793385576792824 pw w 11 (some (.ref 6)) 1 259 ⟨t0 w.params, 15, {}, ⟨[]⟩, {}, 187, os⟩ (piecesOf (sl 0 3) env0 (.body B0 env0) ⟨0, 0, 0, 0⟩ [topFrame ⟨0, 0, 0, 0⟩])) = fun os => some (Flow.next, ⟨t1 w.params, 43, {}, ⟨[]⟩, {}, 224, os⟩, (.body B0 env0), ⟨5, 0, 9, 28⟩) := by
  kernel_rfl
noncomputable def o34 (P : Params) : Obj := ⟨Value.type "dict", Option.none , Data.dict #[eS P "__name__" 165 (Value.str "threepress.matches" 240), eS P "__doc__" 166 Value.none, eS P "__package__" 167 Value.none, eS P "__loader__" 168 (Value.builtin "__main__.__loader__#opaque"), eS P "__spec__" 169 Value.none, eS P "__annotations__" 170 (Value.ref 6), eS P "__builtins__" 171 (Value.ref 4), eS P "__file__" 173 (Value.str "/claim/cut.py" 172), eS P "__cached__" 174 Value.none, eS P "_wall" 193 (Value.ref 21), eS P "PressError" 223 (Value.ref 39), eS P "BadArgument" 239 (Value.ref 52), eS P "NOWHERE" 244 (Value.int (-1) 243)] 13, #[]⟩
noncomputable def o35 (P : Params) : Obj := ⟨Value.none, Option.none , Data.fields #[Value.int 1 0, Value.int 0 0, Value.ref 20, Value.int 5 0, Value.int 0 0, Value.ref 27, Value.int 10 0, Value.int 0 0, Value.ref 48], #[]⟩
noncomputable def o36 (P : Params) : Obj := ⟨Value.type "type", Option.none , Data.cls ⟨"PressError", [Value.type "ValueError"], [Value.ref 39, Value.type "ValueError", Value.type "Exception", Value.type "BaseException", Value.type "object"], 38, "PressError", true, [], [Value.ref 52], false, Option.none , false⟩, #[some (Value.ref 22), Option.none , some (Value.str "PressError" 196), some (Value.str "PressError" 204), some (Value.builtin "ValueError.__new__"), some (Value.bool true)]⟩
noncomputable def o37 (P : Params) : Obj := ⟨Value.type "tuple", Option.none , Data.seq #[Value.ref 39] 0, #[]⟩
noncomputable def o38 (P : Params) : Obj := ⟨Value.type "builtin_function_or_method", Option.none , Data.fields #[Value.builtin "type.__prepare__", Value.type "type"], #[]⟩
noncomputable def o39 (P : Params) : Obj := ⟨Value.type "dict", Option.none , Data.dict #[eS P "__module__" 231 (Value.str "threepress.errors" 194), eS P "__qualname__" 233 (Value.str "BadArgument" 232), eS P "__firstlineno__" 235 (Value.int 10 234), eS P "__static_attributes__" 236 (Value.ref 50)] 4, #[]⟩
noncomputable def o40 (P : Params) : Obj := ⟨Value.type "tuple", Option.none , Data.seq #[] 0, #[]⟩
noncomputable def o41 (P : Params) : Obj := ⟨Value.none, Option.none , Data.fields #[], #[]⟩
noncomputable def o42 (P : Params) : Obj := ⟨Value.type "code", Option.none , Data.fields #[Value.str "BadArgument" 226, Value.str "BadArgument" 227, Value.str "/claim/cut.py" 228, Value.int 10 0, Value.int 0 0, Value.int 0 0, Value.int 0 0, Value.int 0 0, Value.ref 46, Value.bool false, Value.int 181 0, Value.ref 47, Value.none, Value.none, Value.none, Value.none, Value.int 229 0, Value.int 10 0, Value.str "/claim/cut.py" 230], #[]⟩
noncomputable def o43 (P : Params) : Obj := ⟨Value.type "frame", Option.none , Data.plain, #[some (Value.ref 48), some (Value.ref 3), some (Value.ref 45), Option.none , some (Value.str "threepress.errors" 194), Option.none , some (Value.ref 0)]⟩
noncomputable def o44 (P : Params) : Obj := ⟨Value.type "tuple", Option.none , Data.seq #[] 0, #[]⟩
noncomputable def o45 (P : Params) : Obj := ⟨Value.type "dict", Option.none , Data.dict #[eS P "__module__" 231 (Value.str "threepress.errors" 194), eS P "__firstlineno__" 235 (Value.int 10 234), eS P "__static_attributes__" 236 (Value.ref 50), eS P "__doc__" 237 Value.none] 2, #[]⟩
noncomputable def o46 (P : Params) : Obj := ⟨Value.type "type", Option.none , Data.cls ⟨"BadArgument", [Value.ref 39], [Value.ref 52, Value.ref 39, Value.type "ValueError", Value.type "Exception", Value.type "BaseException", Value.type "object"], 51, "BadArgument", true, [], [], false, Option.none , false⟩, #[some (Value.ref 43), Option.none , some (Value.str "BadArgument" 224), some (Value.str "BadArgument" 232), some (Value.builtin "ValueError.__new__"), some (Value.bool true)]⟩
noncomputable def o47 (P : Params) : Obj := ⟨Value.type "super", Option.none , Data.fields #[Value.ref 52, Value.ref 52, Value.ref 52], #[]⟩
noncomputable def o48 (P : Params) : Obj := ⟨Value.type "builtin_function_or_method", Option.none , Data.fields #[Value.builtin "object.__init_subclass__", Value.ref 52], #[]⟩
noncomputable def t2 (P : Params) : BT := (N (boot_o_0 P) (N (boot_o_1 P) (N (o34 P) (N (boot_o_7 P) (N (o6 P) (N (o22 P) L L) (N (o41 P) L L)) (N (o14 P) (N (o36 P) L L) L)) (N (o0 P) (N (o10 P) (N (o26 P) L L) (N (o45 P) L L)) (N (o18 P) (N (o37 P) L L) L))) (N (boot_o_5 P) (N (boot_o_9 P) (N (o8 P) (N (o24 P) L L) (N (o43 P) L L)) (N (o16 P) (N (o32 P) L L) L)) (N (o2 P) (N (o12 P) (N (o28 P) L L) (N (o47 P) L L)) (N (o20 P) (N (o39 P) L L) L)))) (N (boot_o_2 P) (N (boot_o_4 P) (N (boot_o_8 P) (N (o7 P) (N (o23 P) L L) (N (o42 P) L L)) (N (o15 P) (N (o31 P) L L) L)) (N (o35 P) (N (o11 P) (N (o27 P) L L) (N (o46 P) L L)) (N (o19 P) (N (o38 P) L L) L))) (N (boot_o_6 P) (N (boot_o_10 P) (N (o9 P) (N (o25 P) L L) (N (o44 P) L L)) (N (o17 P) (N (o33 P) L L) L)) (N (o3 P) (N (o13 P) (N (o29 P) L L) (N (o48 P) L L)) (N (o21 P) (N (o40 P) L L) L)))))
theorem r1 (w : World) : (fun os : OsState => PySem.W.Fast.tw10110043849684766642 PySem.W.Fast.tw14364793385576792824 pw w 11 (some (.ref 6)) 1 237 ⟨t1 w.params, 43, {}, ⟨[]⟩, {}, 224, os⟩ (piecesOf (sl 3 3) env0 (.body B0 env0) ⟨5, 0, 9, 28⟩ [topFrame ⟨0, 0, 0, 0⟩])) = fun os => some (Flow.next, ⟨t2 w.params, 55, {}, ⟨[]⟩, {}, 245, os⟩, (.body B0 env0), ⟨13, 0, 13, 7⟩) := by
  kernel_rfl
noncomputable def o49 (P : Params) : Obj := ⟨Value.type "dict", Option.none , Data.dict #[eS P "__name__" 165 (Value.str "threepress.matches" 240), eS P "__doc__" 166 Value.none, eS P "__package__" 167 Value.none, eS P "__loader__" 168 (Value.builtin "__main__.__loader__#opaque"), eS P "__spec__" 169 Value.none, eS P "__annotations__" 170 (Value.ref 6), eS P "__builtins__" 171 (Value.ref 4), eS P "__file__" 173 (Value.str "/claim/cut.py" 172), eS P "__cached__" 174 Value.none, eS P "_wall" 193 (Value.ref 21), eS P "PressError" 223 (Value.ref 39), eS P "BadArgument" 239 (Value.ref 52), eS P "NOWHERE" 244 (Value.int (-1) 243), eS P "PlaceRow" 301 (Value.ref 92)] 14, #[]⟩
noncomputable def o50 (P : Params) : Obj := ⟨Value.none, Option.none , Data.fields #[Value.int 1 0, Value.int 0 0, Value.ref 20, Value.int 5 0, Value.int 0 0, Value.ref 27, Value.int 10 0, Value.int 0 0, Value.ref 48, Value.int 14 0, Value.int 0 0, Value.ref 60], #[]⟩
noncomputable def o51 (P : Params) : Obj := ⟨Value.type "tuple", Option.none , Data.seq #[] 0, #[]⟩
noncomputable def o52 (P : Params) : Obj := ⟨Value.type "builtin_function_or_method", Option.none , Data.fields #[Value.builtin "type.__prepare__", Value.type "type"], #[]⟩
noncomputable def o53 (P : Params) : Obj := ⟨Value.type "dict", Option.none , Data.dict #[eS P "__module__" 252 (Value.str "threepress.matches" 240), eS P "__qualname__" 254 (Value.str "PlaceRow" 253), eS P "__firstlineno__" 256 (Value.int 14 255), eS P "__init__" 265 (Value.ref 68), eS P "key" 273 (Value.ref 75), eS P "put" 281 (Value.ref 82), eS P "newest" 289 (Value.ref 89), eS P "__static_attributes__" 294 (Value.ref 90)] 8, #[]⟩
noncomputable def o54 (P : Params) : Obj := ⟨Value.type "tuple", Option.none , Data.seq #[] 0, #[]⟩
noncomputable def o55 (P : Params) : Obj := ⟨Value.none, Option.none , Data.fields #[Value.int 16 0, Value.int 4 0, Value.ref 67, Value.int 24 0, Value.int 4 0, Value.ref 74, Value.int 27 0, Value.int 4 0, Value.ref 81, Value.int 30 0, Value.int 4 0, Value.ref 88], #[]⟩
noncomputable def o56 (P : Params) : Obj := ⟨Value.type "code", Option.none , Data.fields #[Value.str "PlaceRow" 247, Value.str "PlaceRow" 248, Value.str "/claim/cut.py" 249, Value.int 14 0, Value.int 0 0, Value.int 0 0, Value.int 0 0, Value.int 0 0, Value.ref 58, Value.bool false, Value.int 181 0, Value.ref 59, Value.none, Value.none, Value.none, Value.none, Value.int 250 0, Value.int 14 0, Value.str "/claim/cut.py" 251], #[]⟩
noncomputable def o57 (P : Params) : Obj := ⟨Value.type "frame", Option.none , Data.plain, #[some (Value.ref 60), some (Value.ref 3), some (Value.ref 57), Option.none , some (Value.str "threepress.matches" 240), Option.none , some (Value.ref 0)]⟩
noncomputable def o58 (P : Params) : Obj := ⟨Value.type "tuple", Option.none , Data.seq #[] 0, #[]⟩
noncomputable def o59 (P : Params) : Obj := ⟨Value.none, Option.none , Data.fields #[], #[]⟩
noncomputable def o60 (P : Params) : Obj := ⟨Value.type "tuple", Option.none , Data.seq #[Value.str "self" 260, Value.str "octets" 261, Value.str "size" 262] 0, #[]⟩
noncomputable def o61 (P : Params) : Obj := ⟨Value.type "tuple", Option.none , Data.seq #[] 0, #[]⟩
noncomputable def o62 (P : Params) : Obj := ⟨Value.none, Option.none , fD "__init__" "PlaceRow.__init__" (pM 6 0) 0 [] Value.none Value.none Value.none Value.none (Option.none ) Value.none Value.none 0, #[]⟩
noncomputable def o63 (P : Params) : Obj := ⟨Value.type "code", Option.none , Data.fields #[Value.str "__init__" 257, Value.str "PlaceRow.__init__" 258, Value.str "/claim/cut.py" 259, Value.int 16 0, Value.int 3 0, Value.int 0 0, Value.int 0 0, Value.int 3 0, Value.ref 62, Value.bool true, Value.int 181 0, Value.ref 63, Value.none, Value.ref 64, Value.ref 65, Value.ref 66, Value.int 263 0, Value.int 16 0, Value.str "/claim/cut.py" 264], #[]⟩
noncomputable def o64 (P : Params) : Obj := ⟨Value.type "function", Option.none , fD "__init__" "PlaceRow.__init__" (pM 6 0) 3 [] Value.none Value.none Value.none (Value.str "threepress.matches" 240) (Option.none ) (Value.ref 67) Value.none 0, #[]⟩
noncomputable def o65 (P : Params) : Obj := ⟨Value.type "tuple", Option.none , Data.seq #[] 0, #[]⟩
noncomputable def o66 (P : Params) : Obj := ⟨Value.none, Option.none , Data.fields #[], #[]⟩
noncomputable def o67 (P : Params) : Obj := ⟨Value.type "tuple", Option.none , Data.seq #[Value.str "self" 269, Value.str "place" 270] 0, #[]⟩
noncomputable def o68 (P : Params) : Obj := ⟨Value.type "tuple", Option.none , Data.seq #[] 0, #[]⟩
noncomputable def o69 (P : Params) : Obj := ⟨Value.none, Option.none , fD "key" "PlaceRow.key" (pM 6 1) 0 [] Value.none Value.none Value.none Value.none (Option.none ) Value.none Value.none 0, #[]⟩
noncomputable def o70 (P : Params) : Obj := ⟨Value.type "code", Option.none , Data.fields #[Value.str "key" 266, Value.str "PlaceRow.key" 267, Value.str "/claim/cut.py" 268, Value.int 24 0, Value.int 2 0, Value.int 0 0, Value.int 0 0, Value.int 3 0, Value.ref 69, Value.bool true, Value.int 181 0, Value.ref 70, Value.none, Value.ref 71, Value.ref 72, Value.ref 73, Value.int 271 0, Value.int 24 0, Value.str "/claim/cut.py" 272], #[]⟩
noncomputable def o71 (P : Params) : Obj := ⟨Value.type "function", Option.none , fD "key" "PlaceRow.key" (pM 6 1) 3 [] Value.none Value.none Value.none (Value.str "threepress.matches" 240) (Option.none ) (Value.ref 74) Value.none 0, #[]⟩
noncomputable def o72 (P : Params) : Obj := ⟨Value.type "tuple", Option.none , Data.seq #[] 0, #[]⟩
noncomputable def o73 (P : Params) : Obj := ⟨Value.none, Option.none , Data.fields #[], #[]⟩
noncomputable def o74 (P : Params) : Obj := ⟨Value.type "tuple", Option.none , Data.seq #[Value.str "self" 277, Value.str "place" 278] 0, #[]⟩
noncomputable def o75 (P : Params) : Obj := ⟨Value.type "tuple", Option.none , Data.seq #[] 0, #[]⟩
noncomputable def o76 (P : Params) : Obj := ⟨Value.none, Option.none , fD "put" "PlaceRow.put" (pM 6 2) 0 [] Value.none Value.none Value.none Value.none (Option.none ) Value.none Value.none 0, #[]⟩
noncomputable def o77 (P : Params) : Obj := ⟨Value.type "code", Option.none , Data.fields #[Value.str "put" 274, Value.str "PlaceRow.put" 275, Value.str "/claim/cut.py" 276, Value.int 27 0, Value.int 2 0, Value.int 0 0, Value.int 0 0, Value.int 3 0, Value.ref 76, Value.bool true, Value.int 181 0, Value.ref 77, Value.none, Value.ref 78, Value.ref 79, Value.ref 80, Value.int 279 0, Value.int 27 0, Value.str "/claim/cut.py" 280], #[]⟩
noncomputable def o78 (P : Params) : Obj := ⟨Value.type "function", Option.none , fD "put" "PlaceRow.put" (pM 6 2) 3 [] Value.none Value.none Value.none (Value.str "threepress.matches" 240) (Option.none ) (Value.ref 81) Value.none 0, #[]⟩
noncomputable def o79 (P : Params) : Obj := ⟨Value.type "tuple", Option.none , Data.seq #[] 0, #[]⟩
noncomputable def o80 (P : Params) : Obj := ⟨Value.none, Option.none , Data.fields #[], #[]⟩
noncomputable def o81 (P : Params) : Obj := ⟨Value.type "tuple", Option.none , Data.seq #[Value.str "self" 285, Value.str "place" 286] 0, #[]⟩
noncomputable def o82 (P : Params) : Obj := ⟨Value.type "tuple", Option.none , Data.seq #[] 0, #[]⟩
noncomputable def o83 (P : Params) : Obj := ⟨Value.none, Option.none , fD "newest" "PlaceRow.newest" (pM 6 3) 0 [] Value.none Value.none Value.none Value.none (Option.none ) Value.none Value.none 0, #[]⟩
noncomputable def o84 (P : Params) : Obj := ⟨Value.type "code", Option.none , Data.fields #[Value.str "newest" 282, Value.str "PlaceRow.newest" 283, Value.str "/claim/cut.py" 284, Value.int 30 0, Value.int 2 0, Value.int 0 0, Value.int 0 0, Value.int 3 0, Value.ref 83, Value.bool true, Value.int 181 0, Value.ref 84, Value.none, Value.ref 85, Value.ref 86, Value.ref 87, Value.int 287 0, Value.int 30 0, Value.str "/claim/cut.py" 288], #[]⟩
noncomputable def o85 (P : Params) : Obj := ⟨Value.type "function", Option.none , fD "newest" "PlaceRow.newest" (pM 6 3) 3 [] Value.none Value.none Value.none (Value.str "threepress.matches" 240) (Option.none ) (Value.ref 88) Value.none 0, #[]⟩
noncomputable def o86 (P : Params) : Obj := ⟨Value.type "tuple", Option.none , Data.seq #[Value.str "before" 290, Value.str "last" 291, Value.str "octets" 292, Value.str "size" 293] 0, #[]⟩
noncomputable def o87 (P : Params) : Obj := ⟨Value.type "dict", Option.none , Data.dict #[eS P "__module__" 252 (Value.str "threepress.matches" 240), eS P "__firstlineno__" 256 (Value.int 14 255), eS P "__init__" 265 (Value.ref 68), eS P "key" 273 (Value.ref 75), eS P "put" 281 (Value.ref 82), eS P "newest" 289 (Value.ref 89), eS P "__static_attributes__" 294 (Value.ref 90), eS P "__dict__" 296 (Value.ref 93), eS P "__weakref__" 298 (Value.ref 94), eS P "__doc__" 299 Value.none] 4, #[]⟩
noncomputable def o88 (P : Params) : Obj := ⟨Value.type "type", Option.none , Data.cls ⟨"PlaceRow", [Value.type "object"], [Value.ref 92, Value.type "object"], 91, "PlaceRow", true, [], [], false, Option.none , false⟩, #[Option.none , Option.none , some (Value.str "PlaceRow" 245), some (Value.str "PlaceRow" 253), some (Value.builtin "object.__new__"), some (Value.bool true)]⟩
noncomputable def o89 (P : Params) : Obj := ⟨Value.type "getset_descriptor", Option.none , Data.fields #[Value.str "__dict__" 295, Value.ref 92, Value.builtin "function.__dict__", Value.builtin "function.__dict__#set"], #[]⟩
noncomputable def o90 (P : Params) : Obj := ⟨Value.type "getset_descriptor", Option.none , Data.fields #[Value.str "__weakref__" 297, Value.ref 92, Value.builtin "ExceptionGroup.__weakref__", Value.none], #[]⟩
noncomputable def o91 (P : Params) : Obj := ⟨Value.type "super", Option.none , Data.fields #[Value.ref 92, Value.ref 92, Value.ref 92], #[]⟩
noncomputable def o92 (P : Params) : Obj := ⟨Value.type "builtin_function_or_method", Option.none , Data.fields #[Value.builtin "object.__init_subclass__", Value.ref 92], #[]⟩
noncomputable def t3 (P : Params) : BT := (N (boot_o_0 P) (N (boot_o_1 P) (N (o49 P) (N (boot_o_7 P) (N (o6 P) (N (o22 P) (N (o59 P) L L) (N (o91 P) L L)) (N (o41 P) (N (o75 P) L L) L)) (N (o14 P) (N (o36 P) (N (o67 P) L L) L) (N (o51 P) (N (o83 P) L L) L))) (N (o0 P) (N (o10 P) (N (o26 P) (N (o63 P) L L) L) (N (o45 P) (N (o79 P) L L) L)) (N (o18 P) (N (o37 P) (N (o71 P) L L) L) (N (o55 P) (N (o87 P) L L) L)))) (N (boot_o_5 P) (N (boot_o_9 P) (N (o8 P) (N (o24 P) (N (o61 P) L L) L) (N (o43 P) (N (o77 P) L L) L)) (N (o16 P) (N (o32 P) (N (o69 P) L L) L) (N (o53 P) (N (o85 P) L L) L))) (N (o2 P) (N (o12 P) (N (o28 P) (N (o65 P) L L) L) (N (o47 P) (N (o81 P) L L) L)) (N (o20 P) (N (o39 P) (N (o73 P) L L) L) (N (o57 P) (N (o89 P) L L) L))))) (N (boot_o_2 P) (N (boot_o_4 P) (N (boot_o_8 P) (N (o7 P) (N (o23 P) (N (o60 P) L L) (N (o92 P) L L)) (N (o42 P) (N (o76 P) L L) L)) (N (o15 P) (N (o31 P) (N (o68 P) L L) L) (N (o52 P) (N (o84 P) L L) L))) (N (o50 P) (N (o11 P) (N (o27 P) (N (o64 P) L L) L) (N (o46 P) (N (o80 P) L L) L)) (N (o19 P) (N (o38 P) (N (o72 P) L L) L) (N (o56 P) (N (o88 P) L L) L)))) (N (boot_o_6 P) (N (boot_o_10 P) (N (o9 P) (N (o25 P) (N (o62 P) L L) L) (N (o44 P) (N (o78 P) L L) L)) (N (o17 P) (N (o33 P) (N (o70 P) L L) L) (N (o54 P) (N (o86 P) L L) L))) (N (o3 P) (N (o13 P) (N (o29 P) (N (o66 P) L L) L) (N (o48 P) (N (o82 P) L L) L)) (N (o21 P) (N (o40 P) (N (o74 P) L L) L) (N (o58 P) (N (o90 P) L L) L))))))
theorem r2 (w : World) : (fun os : OsState => PySem.W.Fast.tw10110043849684766642 PySem.W.Fast.tw14364793385576792824 pw w 11 (some (.ref 6)) 1 323 ⟨t2 w.params, 55, {}, ⟨[]⟩, {}, 245, os⟩ (piecesOf (sl 6 1) env0 (.body B0 env0) ⟨13, 0, 13, 7⟩ [topFrame ⟨0, 0, 0, 0⟩])) = fun os => some (Flow.next, ⟨t3 w.params, 97, {}, ⟨[]⟩, {}, 302, os⟩, (.body B0 env0), ⟨14, 0, 31, 16⟩) := by
  kernel_rfl
noncomputable def o93 (P : Params) : Obj := ⟨Value.type "dict", Option.none , Data.dict #[eS P "__name__" 165 (Value.str "threepress.matches" 240), eS P "__doc__" 166 Value.none, eS P "__package__" 167 Value.none, eS P "__loader__" 168 (Value.builtin "__main__.__loader__#opaque"), eS P "__spec__" 169 Value.none, eS P "__annotations__" 170 (Value.ref 6), eS P "__builtins__" 171 (Value.ref 4), eS P "__file__" 173 (Value.str "/claim/cut.py" 172), eS P "__cached__" 174 Value.none, eS P "_wall" 193 (Value.ref 21), eS P "PressError" 223 (Value.ref 39), eS P "BadArgument" 239 (Value.ref 52), eS P "NOWHERE" 244 (Value.int (-1) 243), eS P "PlaceRow" 301 (Value.ref 92), eS P "Matcher" 429 (Value.ref 183)] 15, #[]⟩
noncomputable def o94 (P : Params) : Obj := ⟨Value.none, Option.none , Data.fields #[Value.int 1 0, Value.int 0 0, Value.ref 20, Value.int 5 0, Value.int 0 0, Value.ref 27, Value.int 10 0, Value.int 0 0, Value.ref 48, Value.int 14 0, Value.int 0 0, Value.ref 60, Value.int 32 0, Value.int 0 0, Value.ref 102], #[]⟩
noncomputable def o95 (P : Params) : Obj := ⟨Value.type "tuple", Option.none , Data.seq #[] 0, #[]⟩
noncomputable def o96 (P : Params) : Obj := ⟨Value.type "builtin_function_or_method", Option.none , Data.fields #[Value.builtin "type.__prepare__", Value.type "type"], #[]⟩
noncomputable def o97 (P : Params) : Obj := ⟨Value.type "dict", Option.none , Data.dict #[eS P "__module__" 309 (Value.str "threepress.matches" 240), eS P "__qualname__" 311 (Value.str "Matcher" 310), eS P "__firstlineno__" 313 (Value.int 32 312), eS P "__init__" 324 (Value.ref 110), eS P "put" 332 (Value.ref 117), eS P "enter" 340 (Value.ref 124), eS P "put_all" 348 (Value.ref 131), eS P "limit" 357 (Value.ref 138), eS P "length" 367 (Value.ref 145), eS P "alike" 379 (Value.ref 152), eS P "is_near" 388 (Value.ref 159), eS P "repeat" 398 (Value.ref 166), eS P "every" 407 (Value.ref 173), eS P "best" 416 (Value.ref 180), eS P "__static_attributes__" 422 (Value.ref 181)] 15, #[]⟩
noncomputable def o98 (P : Params) : Obj := ⟨Value.type "tuple", Option.none , Data.seq #[] 0, #[]⟩
noncomputable def o99 (P : Params) : Obj := ⟨Value.none, Option.none , Data.fields #[Value.int 34 0, Value.int 4 0, Value.ref 109, Value.int 47 0, Value.int 4 0, Value.ref 116, Value.int 50 0, Value.int 4 0, Value.ref 123, Value.int 53 0, Value.int 4 0, Value.ref 130, Value.int 56 0, Value.int 4 0, Value.ref 137, Value.int 59 0, Value.int 4 0, Value.ref 144, Value.int 64 0, Value.int 4 0, Value.ref 151, Value.int 70 0, Value.int 4 0, Value.ref 158, Value.int 73 0, Value.int 4 0, Value.ref 165, Value.int 78 0, Value.int 4 0, Value.ref 172, Value.int 81 0, Value.int 4 0, Value.ref 179], #[]⟩
noncomputable def o100 (P : Params) : Obj := ⟨Value.type "code", Option.none , Data.fields #[Value.str "Matcher" 304, Value.str "Matcher" 305, Value.str "/claim/cut.py" 306, Value.int 32 0, Value.int 0 0, Value.int 0 0, Value.int 0 0, Value.int 0 0, Value.ref 100, Value.bool false, Value.int 181 0, Value.ref 101, Value.none, Value.none, Value.none, Value.none, Value.int 307 0, Value.int 32 0, Value.str "/claim/cut.py" 308], #[]⟩
noncomputable def o101 (P : Params) : Obj := ⟨Value.type "frame", Option.none , Data.plain, #[some (Value.ref 102), some (Value.ref 3), some (Value.ref 99), Option.none , some (Value.str "threepress.matches" 240), Option.none , some (Value.ref 0)]⟩
noncomputable def o102 (P : Params) : Obj := ⟨Value.type "tuple", Option.none , Data.seq #[] 0, #[]⟩
noncomputable def o103 (P : Params) : Obj := ⟨Value.none, Option.none , Data.fields #[], #[]⟩
noncomputable def o104 (P : Params) : Obj := ⟨Value.type "tuple", Option.none , Data.seq #[Value.str "self" 317, Value.str "octets" 318, Value.str "least" 319, Value.str "window" 320, Value.str "chain" 321] 0, #[]⟩
noncomputable def o105 (P : Params) : Obj := ⟨Value.type "tuple", Option.none , Data.seq #[] 0, #[]⟩
noncomputable def o106 (P : Params) : Obj := ⟨Value.none, Option.none , fD "__init__" "Matcher.__init__" (pM 7 0) 0 [] Value.none Value.none Value.none Value.none (Option.none ) Value.none Value.none 0, #[]⟩
noncomputable def o107 (P : Params) : Obj := ⟨Value.type "code", Option.none , Data.fields #[Value.str "__init__" 314, Value.str "Matcher.__init__" 315, Value.str "/claim/cut.py" 316, Value.int 34 0, Value.int 5 0, Value.int 0 0, Value.int 0 0, Value.int 3 0, Value.ref 104, Value.bool true, Value.int 181 0, Value.ref 105, Value.none, Value.ref 106, Value.ref 107, Value.ref 108, Value.int 322 0, Value.int 34 0, Value.str "/claim/cut.py" 323], #[]⟩
noncomputable def o108 (P : Params) : Obj := ⟨Value.type "function", Option.none , fD "__init__" "Matcher.__init__" (pM 7 0) 3 [] Value.none Value.none Value.none (Value.str "threepress.matches" 240) (Option.none ) (Value.ref 109) Value.none 0, #[]⟩
noncomputable def o109 (P : Params) : Obj := ⟨Value.type "tuple", Option.none , Data.seq #[] 0, #[]⟩
noncomputable def o110 (P : Params) : Obj := ⟨Value.none, Option.none , Data.fields #[], #[]⟩
noncomputable def o111 (P : Params) : Obj := ⟨Value.type "tuple", Option.none , Data.seq #[Value.str "self" 328, Value.str "place" 329] 0, #[]⟩
noncomputable def o112 (P : Params) : Obj := ⟨Value.type "tuple", Option.none , Data.seq #[] 0, #[]⟩
noncomputable def o113 (P : Params) : Obj := ⟨Value.none, Option.none , fD "put" "Matcher.put" (pM 7 1) 0 [] Value.none Value.none Value.none Value.none (Option.none ) Value.none Value.none 0, #[]⟩
noncomputable def o114 (P : Params) : Obj := ⟨Value.type "code", Option.none , Data.fields #[Value.str "put" 325, Value.str "Matcher.put" 326, Value.str "/claim/cut.py" 327, Value.int 47 0, Value.int 2 0, Value.int 0 0, Value.int 0 0, Value.int 3 0, Value.ref 111, Value.bool true, Value.int 181 0, Value.ref 112, Value.none, Value.ref 113, Value.ref 114, Value.ref 115, Value.int 330 0, Value.int 47 0, Value.str "/claim/cut.py" 331], #[]⟩
noncomputable def o115 (P : Params) : Obj := ⟨Value.type "function", Option.none , fD "put" "Matcher.put" (pM 7 1) 3 [] Value.none Value.none Value.none (Value.str "threepress.matches" 240) (Option.none ) (Value.ref 116) Value.none 0, #[]⟩
noncomputable def o116 (P : Params) : Obj := ⟨Value.type "tuple", Option.none , Data.seq #[] 0, #[]⟩
noncomputable def o117 (P : Params) : Obj := ⟨Value.none, Option.none , Data.fields #[], #[]⟩
noncomputable def o118 (P : Params) : Obj := ⟨Value.type "tuple", Option.none , Data.seq #[Value.str "self" 336, Value.str "place" 337] 0, #[]⟩
noncomputable def o119 (P : Params) : Obj := ⟨Value.type "tuple", Option.none , Data.seq #[] 0, #[]⟩
noncomputable def o120 (P : Params) : Obj := ⟨Value.none, Option.none , fD "enter" "Matcher.enter" (pM 7 2) 0 [] Value.none Value.none Value.none Value.none (Option.none ) Value.none Value.none 0, #[]⟩
noncomputable def o121 (P : Params) : Obj := ⟨Value.type "code", Option.none , Data.fields #[Value.str "enter" 333, Value.str "Matcher.enter" 334, Value.str "/claim/cut.py" 335, Value.int 50 0, Value.int 2 0, Value.int 0 0, Value.int 0 0, Value.int 3 0, Value.ref 118, Value.bool true, Value.int 181 0, Value.ref 119, Value.none, Value.ref 120, Value.ref 121, Value.ref 122, Value.int 338 0, Value.int 50 0, Value.str "/claim/cut.py" 339], #[]⟩
noncomputable def o122 (P : Params) : Obj := ⟨Value.type "function", Option.none , fD "enter" "Matcher.enter" (pM 7 2) 3 [] Value.none Value.none Value.none (Value.str "threepress.matches" 240) (Option.none ) (Value.ref 123) Value.none 0, #[]⟩
noncomputable def o123 (P : Params) : Obj := ⟨Value.type "tuple", Option.none , Data.seq #[] 0, #[]⟩
noncomputable def o124 (P : Params) : Obj := ⟨Value.none, Option.none , Data.fields #[], #[]⟩
noncomputable def o125 (P : Params) : Obj := ⟨Value.type "tuple", Option.none , Data.seq #[Value.str "self" 344, Value.str "end" 345] 0, #[]⟩
noncomputable def o126 (P : Params) : Obj := ⟨Value.type "tuple", Option.none , Data.seq #[] 0, #[]⟩
noncomputable def o127 (P : Params) : Obj := ⟨Value.none, Option.none , fD "put_all" "Matcher.put_all" (pM 7 3) 0 [] Value.none Value.none Value.none Value.none (Option.none ) Value.none Value.none 0, #[]⟩
noncomputable def o128 (P : Params) : Obj := ⟨Value.type "code", Option.none , Data.fields #[Value.str "put_all" 341, Value.str "Matcher.put_all" 342, Value.str "/claim/cut.py" 343, Value.int 53 0, Value.int 2 0, Value.int 0 0, Value.int 0 0, Value.int 3 0, Value.ref 125, Value.bool true, Value.int 181 0, Value.ref 126, Value.none, Value.ref 127, Value.ref 128, Value.ref 129, Value.int 346 0, Value.int 53 0, Value.str "/claim/cut.py" 347], #[]⟩
noncomputable def o129 (P : Params) : Obj := ⟨Value.type "function", Option.none , fD "put_all" "Matcher.put_all" (pM 7 3) 3 [] Value.none Value.none Value.none (Value.str "threepress.matches" 240) (Option.none ) (Value.ref 130) Value.none 0, #[]⟩
noncomputable def o130 (P : Params) : Obj := ⟨Value.type "tuple", Option.none , Data.seq #[] 0, #[]⟩
noncomputable def o131 (P : Params) : Obj := ⟨Value.none, Option.none , Data.fields #[], #[]⟩
noncomputable def o132 (P : Params) : Obj := ⟨Value.type "tuple", Option.none , Data.seq #[Value.str "self" 352, Value.str "place" 353, Value.str "most" 354] 0, #[]⟩
noncomputable def o133 (P : Params) : Obj := ⟨Value.type "tuple", Option.none , Data.seq #[] 0, #[]⟩
noncomputable def o134 (P : Params) : Obj := ⟨Value.none, Option.none , fD "limit" "Matcher.limit" (pM 7 4) 0 [] Value.none Value.none Value.none Value.none (Option.none ) Value.none Value.none 0, #[]⟩
noncomputable def o135 (P : Params) : Obj := ⟨Value.type "code", Option.none , Data.fields #[Value.str "limit" 349, Value.str "Matcher.limit" 350, Value.str "/claim/cut.py" 351, Value.int 56 0, Value.int 3 0, Value.int 0 0, Value.int 0 0, Value.int 3 0, Value.ref 132, Value.bool true, Value.int 181 0, Value.ref 133, Value.none, Value.ref 134, Value.ref 135, Value.ref 136, Value.int 355 0, Value.int 56 0, Value.str "/claim/cut.py" 356], #[]⟩
noncomputable def o136 (P : Params) : Obj := ⟨Value.type "function", Option.none , fD "limit" "Matcher.limit" (pM 7 4) 3 [] Value.none Value.none Value.none (Value.str "threepress.matches" 240) (Option.none ) (Value.ref 137) Value.none 0, #[]⟩
noncomputable def o137 (P : Params) : Obj := ⟨Value.type "tuple", Option.none , Data.seq #[] 0, #[]⟩
noncomputable def o138 (P : Params) : Obj := ⟨Value.none, Option.none , Data.fields #[], #[]⟩
noncomputable def o139 (P : Params) : Obj := ⟨Value.type "tuple", Option.none , Data.seq #[Value.str "self" 361, Value.str "place" 362, Value.str "other" 363, Value.str "most" 364] 0, #[]⟩
noncomputable def o140 (P : Params) : Obj := ⟨Value.type "tuple", Option.none , Data.seq #[] 0, #[]⟩
noncomputable def o141 (P : Params) : Obj := ⟨Value.none, Option.none , fD "length" "Matcher.length" (pM 7 5) 0 [] Value.none Value.none Value.none Value.none (Option.none ) Value.none Value.none 0, #[]⟩
noncomputable def o142 (P : Params) : Obj := ⟨Value.type "code", Option.none , Data.fields #[Value.str "length" 358, Value.str "Matcher.length" 359, Value.str "/claim/cut.py" 360, Value.int 59 0, Value.int 4 0, Value.int 0 0, Value.int 0 0, Value.int 3 0, Value.ref 139, Value.bool true, Value.int 181 0, Value.ref 140, Value.none, Value.ref 141, Value.ref 142, Value.ref 143, Value.int 365 0, Value.int 59 0, Value.str "/claim/cut.py" 366], #[]⟩
noncomputable def o143 (P : Params) : Obj := ⟨Value.type "function", Option.none , fD "length" "Matcher.length" (pM 7 5) 3 [] Value.none Value.none Value.none (Value.str "threepress.matches" 240) (Option.none ) (Value.ref 144) Value.none 0, #[]⟩
noncomputable def o144 (P : Params) : Obj := ⟨Value.type "tuple", Option.none , Data.seq #[] 0, #[]⟩
noncomputable def o145 (P : Params) : Obj := ⟨Value.none, Option.none , Data.fields #[], #[]⟩
noncomputable def o146 (P : Params) : Obj := ⟨Value.type "tuple", Option.none , Data.seq #[Value.str "self" 371, Value.str "place" 372, Value.str "other" 373, Value.str "known" 374, Value.str "limit" 375, Value.str "octets" 376] 0, #[]⟩
noncomputable def o147 (P : Params) : Obj := ⟨Value.type "tuple", Option.none , Data.seq #[] 0, #[]⟩
noncomputable def o148 (P : Params) : Obj := ⟨Value.none, Option.none , fD "alike" "Matcher.alike" (pM 7 6) 0 [] Value.none Value.none Value.none Value.none (Option.none ) Value.none Value.none 0, #[]⟩
noncomputable def o149 (P : Params) : Obj := ⟨Value.type "code", Option.none , Data.fields #[Value.str "alike" 368, Value.str "Matcher.alike" 369, Value.str "/claim/cut.py" 370, Value.int 64 0, Value.int 5 0, Value.int 0 0, Value.int 0 0, Value.int 3 0, Value.ref 146, Value.bool true, Value.int 181 0, Value.ref 147, Value.none, Value.ref 148, Value.ref 149, Value.ref 150, Value.int 377 0, Value.int 64 0, Value.str "/claim/cut.py" 378], #[]⟩
noncomputable def o150 (P : Params) : Obj := ⟨Value.type "function", Option.none , fD "alike" "Matcher.alike" (pM 7 6) 3 [] Value.none Value.none Value.none (Value.str "threepress.matches" 240) (Option.none ) (Value.ref 151) Value.none 0, #[]⟩
noncomputable def o151 (P : Params) : Obj := ⟨Value.type "tuple", Option.none , Data.seq #[] 0, #[]⟩
noncomputable def o152 (P : Params) : Obj := ⟨Value.none, Option.none , Data.fields #[], #[]⟩
noncomputable def o153 (P : Params) : Obj := ⟨Value.type "tuple", Option.none , Data.seq #[Value.str "self" 383, Value.str "place" 384, Value.str "other" 385] 0, #[]⟩
noncomputable def o154 (P : Params) : Obj := ⟨Value.type "tuple", Option.none , Data.seq #[] 0, #[]⟩
noncomputable def o155 (P : Params) : Obj := ⟨Value.none, Option.none , fD "is_near" "Matcher.is_near" (pM 7 7) 0 [] Value.none Value.none Value.none Value.none (Option.none ) Value.none Value.none 0, #[]⟩
noncomputable def o156 (P : Params) : Obj := ⟨Value.type "code", Option.none , Data.fields #[Value.str "is_near" 380, Value.str "Matcher.is_near" 381, Value.str "/claim/cut.py" 382, Value.int 70 0, Value.int 3 0, Value.int 0 0, Value.int 0 0, Value.int 3 0, Value.ref 153, Value.bool true, Value.int 181 0, Value.ref 154, Value.none, Value.ref 155, Value.ref 156, Value.ref 157, Value.int 386 0, Value.int 70 0, Value.str "/claim/cut.py" 387], #[]⟩
noncomputable def o157 (P : Params) : Obj := ⟨Value.type "function", Option.none , fD "is_near" "Matcher.is_near" (pM 7 7) 3 [] Value.none Value.none Value.none (Value.str "threepress.matches" 240) (Option.none ) (Value.ref 158) Value.none 0, #[]⟩
noncomputable def o158 (P : Params) : Obj := ⟨Value.type "tuple", Option.none , Data.seq #[] 0, #[]⟩
noncomputable def o159 (P : Params) : Obj := ⟨Value.none, Option.none , Data.fields #[], #[]⟩
noncomputable def o160 (P : Params) : Obj := ⟨Value.type "tuple", Option.none , Data.seq #[Value.str "self" 392, Value.str "place" 393, Value.str "distance" 394, Value.str "most" 395] 0, #[]⟩
noncomputable def o161 (P : Params) : Obj := ⟨Value.type "tuple", Option.none , Data.seq #[] 0, #[]⟩
noncomputable def o162 (P : Params) : Obj := ⟨Value.none, Option.none , fD "repeat" "Matcher.repeat" (pM 7 8) 0 [] Value.none Value.none Value.none Value.none (Option.none ) Value.none Value.none 0, #[]⟩
noncomputable def o163 (P : Params) : Obj := ⟨Value.type "code", Option.none , Data.fields #[Value.str "repeat" 389, Value.str "Matcher.repeat" 390, Value.str "/claim/cut.py" 391, Value.int 73 0, Value.int 4 0, Value.int 0 0, Value.int 0 0, Value.int 3 0, Value.ref 160, Value.bool true, Value.int 181 0, Value.ref 161, Value.none, Value.ref 162, Value.ref 163, Value.ref 164, Value.int 396 0, Value.int 73 0, Value.str "/claim/cut.py" 397], #[]⟩
noncomputable def o164 (P : Params) : Obj := ⟨Value.type "function", Option.none , fD "repeat" "Matcher.repeat" (pM 7 8) 3 [] Value.none Value.none Value.none (Value.str "threepress.matches" 240) (Option.none ) (Value.ref 165) Value.none 0, #[]⟩
noncomputable def o165 (P : Params) : Obj := ⟨Value.type "tuple", Option.none , Data.seq #[] 0, #[]⟩
noncomputable def o166 (P : Params) : Obj := ⟨Value.none, Option.none , Data.fields #[], #[]⟩
noncomputable def o167 (P : Params) : Obj := ⟨Value.type "tuple", Option.none , Data.seq #[Value.str "self" 402, Value.str "place" 403, Value.str "most" 404] 0, #[]⟩
noncomputable def o168 (P : Params) : Obj := ⟨Value.type "tuple", Option.none , Data.seq #[] 0, #[]⟩
noncomputable def o169 (P : Params) : Obj := ⟨Value.none, Option.none , fD "every" "Matcher.every" (pM 7 9) 0 [] Value.none Value.none Value.none Value.none (Option.none ) Value.none Value.none 0, #[]⟩
noncomputable def o170 (P : Params) : Obj := ⟨Value.type "code", Option.none , Data.fields #[Value.str "every" 399, Value.str "Matcher.every" 400, Value.str "/claim/cut.py" 401, Value.int 78 0, Value.int 3 0, Value.int 0 0, Value.int 0 0, Value.int 3 0, Value.ref 167, Value.bool true, Value.int 181 0, Value.ref 168, Value.none, Value.ref 169, Value.ref 170, Value.ref 171, Value.int 405 0, Value.int 78 0, Value.str "/claim/cut.py" 406], #[]⟩
noncomputable def o171 (P : Params) : Obj := ⟨Value.type "function", Option.none , fD "every" "Matcher.every" (pM 7 9) 3 [] Value.none Value.none Value.none (Value.str "threepress.matches" 240) (Option.none ) (Value.ref 172) Value.none 0, #[]⟩
noncomputable def o172 (P : Params) : Obj := ⟨Value.type "tuple", Option.none , Data.seq #[] 0, #[]⟩
noncomputable def o173 (P : Params) : Obj := ⟨Value.none, Option.none , Data.fields #[], #[]⟩
noncomputable def o174 (P : Params) : Obj := ⟨Value.type "tuple", Option.none , Data.seq #[Value.str "self" 411, Value.str "place" 412, Value.str "most" 413] 0, #[]⟩
noncomputable def o175 (P : Params) : Obj := ⟨Value.type "tuple", Option.none , Data.seq #[] 0, #[]⟩
noncomputable def o176 (P : Params) : Obj := ⟨Value.none, Option.none , fD "best" "Matcher.best" (pM 7 10) 0 [] Value.none Value.none Value.none Value.none (Option.none ) Value.none Value.none 0, #[]⟩
noncomputable def o177 (P : Params) : Obj := ⟨Value.type "code", Option.none , Data.fields #[Value.str "best" 408, Value.str "Matcher.best" 409, Value.str "/claim/cut.py" 410, Value.int 81 0, Value.int 3 0, Value.int 0 0, Value.int 0 0, Value.int 3 0, Value.ref 174, Value.bool true, Value.int 181 0, Value.ref 175, Value.none, Value.ref 176, Value.ref 177, Value.ref 178, Value.int 414 0, Value.int 81 0, Value.str "/claim/cut.py" 415], #[]⟩
noncomputable def o178 (P : Params) : Obj := ⟨Value.type "function", Option.none , fD "best" "Matcher.best" (pM 7 10) 3 [] Value.none Value.none Value.none (Value.str "threepress.matches" 240) (Option.none ) (Value.ref 179) Value.none 0, #[]⟩
noncomputable def o179 (P : Params) : Obj := ⟨Value.type "tuple", Option.none , Data.seq #[Value.str "ahead" 417, Value.str "chain" 418, Value.str "least" 419, Value.str "octets" 420, Value.str "window" 421] 0, #[]⟩
noncomputable def o180 (P : Params) : Obj := ⟨Value.type "dict", Option.none , Data.dict #[eS P "__module__" 309 (Value.str "threepress.matches" 240), eS P "__firstlineno__" 313 (Value.int 32 312), eS P "__init__" 324 (Value.ref 110), eS P "put" 332 (Value.ref 117), eS P "enter" 340 (Value.ref 124), eS P "put_all" 348 (Value.ref 131), eS P "limit" 357 (Value.ref 138), eS P "length" 367 (Value.ref 145), eS P "alike" 379 (Value.ref 152), eS P "is_near" 388 (Value.ref 159), eS P "repeat" 398 (Value.ref 166), eS P "every" 407 (Value.ref 173), eS P "best" 416 (Value.ref 180), eS P "__static_attributes__" 422 (Value.ref 181), eS P "__dict__" 424 (Value.ref 184), eS P "__weakref__" 426 (Value.ref 185), eS P "__doc__" 427 Value.none] 4, #[]⟩
noncomputable def o181 (P : Params) : Obj := ⟨Value.type "type", Option.none , Data.cls ⟨"Matcher", [Value.type "object"], [Value.ref 183, Value.type "object"], 182, "Matcher", true, [], [], false, Option.none , false⟩, #[Option.none , Option.none , some (Value.str "Matcher" 302), some (Value.str "Matcher" 310), some (Value.builtin "object.__new__"), some (Value.bool true)]⟩
noncomputable def o182 (P : Params) : Obj := ⟨Value.type "getset_descriptor", Option.none , Data.fields #[Value.str "__dict__" 423, Value.ref 183, Value.builtin "function.__dict__", Value.builtin "function.__dict__#set"], #[]⟩
noncomputable def o183 (P : Params) : Obj := ⟨Value.type "getset_descriptor", Option.none , Data.fields #[Value.str "__weakref__" 425, Value.ref 183, Value.builtin "ExceptionGroup.__weakref__", Value.none], #[]⟩
noncomputable def o184 (P : Params) : Obj := ⟨Value.type "super", Option.none , Data.fields #[Value.ref 183, Value.ref 183, Value.ref 183], #[]⟩
noncomputable def o185 (P : Params) : Obj := ⟨Value.type "builtin_function_or_method", Option.none , Data.fields #[Value.builtin "object.__init_subclass__", Value.ref 183], #[]⟩
noncomputable def t4 (P : Params) : BT := (N (boot_o_0 P) (N (boot_o_1 P) (N (o93 P) (N (boot_o_7 P) (N (o6 P) (N (o22 P) (N (o59 P) (N (o125 P) L L) L) (N (o91 P) (N (o157 P) L L) L)) (N (o41 P) (N (o75 P) (N (o141 P) L L) L) (N (o109 P) (N (o173 P) L L) L))) (N (o14 P) (N (o36 P) (N (o67 P) (N (o133 P) L L) L) (N (o101 P) (N (o165 P) L L) L)) (N (o51 P) (N (o83 P) (N (o149 P) L L) L) (N (o117 P) (N (o181 P) L L) L)))) (N (o0 P) (N (o10 P) (N (o26 P) (N (o63 P) (N (o129 P) L L) L) (N (o97 P) (N (o161 P) L L) L)) (N (o45 P) (N (o79 P) (N (o145 P) L L) L) (N (o113 P) (N (o177 P) L L) L))) (N (o18 P) (N (o37 P) (N (o71 P) (N (o137 P) L L) L) (N (o105 P) (N (o169 P) L L) L)) (N (o55 P) (N (o87 P) (N (o153 P) L L) L) (N (o121 P) (N (o185 P) L L) L))))) (N (boot_o_5 P) (N (boot_o_9 P) (N (o8 P) (N (o24 P) (N (o61 P) (N (o127 P) L L) L) (N (o95 P) (N (o159 P) L L) L)) (N (o43 P) (N (o77 P) (N (o143 P) L L) L) (N (o111 P) (N (o175 P) L L) L))) (N (o16 P) (N (o32 P) (N (o69 P) (N (o135 P) L L) L) (N (o103 P) (N (o167 P) L L) L)) (N (o53 P) (N (o85 P) (N (o151 P) L L) L) (N (o119 P) (N (o183 P) L L) L)))) (N (o2 P) (N (o12 P) (N (o28 P) (N (o65 P) (N (o131 P) L L) L) (N (o99 P) (N (o163 P) L L) L)) (N (o47 P) (N (o81 P) (N (o147 P) L L) L) (N (o115 P) (N (o179 P) L L) L))) (N (o20 P) (N (o39 P) (N (o73 P) (N (o139 P) L L) L) (N (o107 P) (N (o171 P) L L) L)) (N (o57 P) (N (o89 P) (N (o155 P) L L) L) (N (o123 P) L L)))))) (N (boot_o_2 P) (N (boot_o_4 P) (N (boot_o_8 P) (N (o7 P) (N (o23 P) (N (o60 P) (N (o126 P) L L) L) (N (o92 P) (N (o158 P) L L) L)) (N (o42 P) (N (o76 P) (N (o142 P) L L) L) (N (o110 P) (N (o174 P) L L) L))) (N (o15 P) (N (o31 P) (N (o68 P) (N (o134 P) L L) L) (N (o102 P) (N (o166 P) L L) L)) (N (o52 P) (N (o84 P) (N (o150 P) L L) L) (N (o118 P) (N (o182 P) L L) L)))) (N (o94 P) (N (o11 P) (N (o27 P) (N (o64 P) (N (o130 P) L L) L) (N (o98 P) (N (o162 P) L L) L)) (N (o46 P) (N (o80 P) (N (o146 P) L L) L) (N (o114 P) (N (o178 P) L L) L))) (N (o19 P) (N (o38 P) (N (o72 P) (N (o138 P) L L) L) (N (o106 P) (N (o170 P) L L) L)) (N (o56 P) (N (o88 P) (N (o154 P) L L) L) (N (o122 P) L L))))) (N (boot_o_6 P) (N (boot_o_10 P) (N (o9 P) (N (o25 P) (N (o62 P) (N (o128 P) L L) L) (N (o96 P) (N (o160 P) L L) L)) (N (o44 P) (N (o78 P) (N (o144 P) L L) L) (N (o112 P) (N (o176 P) L L) L))) (N (o17 P) (N (o33 P) (N (o70 P) (N (o136 P) L L) L) (N (o104 P) (N (o168 P) L L) L)) (N (o54 P) (N (o86 P) (N (o152 P) L L) L) (N (o120 P) (N (o184 P) L L) L)))) (N (o3 P) (N (o13 P) (N (o29 P) (N (o66 P) (N (o132 P) L L) L) (N (o100 P) (N (o164 P) L L) L)) (N (o48 P) (N (o82 P) (N (o148 P) L L) L) (N (o116 P) (N (o180 P) L L) L))) (N (o21 P) (N (o40 P) (N (o74 P) (N (o140 P) L L) L) (N (o108 P) (N (o172 P) L L) L)) (N (o58 P) (N (o90 P) (N (o156 P) L L) L) (N (o124 P) L L)))))))
theorem r3 (w : World) : (fun os : OsState => PySem.W.Fast.tw10110043849684766642 PySem.W.Fast.tw14364793385576792824 pw w 11 (some (.ref 6)) 1 562 ⟨t3 w.params, 97, {}, ⟨[]⟩, {}, 302, os⟩ (piecesOf (sl 7 1) env0 (.body B0 env0) ⟨14, 0, 31, 16⟩ [topFrame ⟨0, 0, 0, 0⟩])) = fun os => some (Flow.next, ⟨t4 w.params, 188, {}, ⟨[]⟩, {}, 430, os⟩, (.body B0 env0), ⟨32, 0, 82, 16⟩) := by
  kernel_rfl
noncomputable def o186 (P : Params) : Obj := ⟨Value.type "dict", Option.none , Data.dict #[eS P "__name__" 165 (Value.str "threepress.matches" 240), eS P "__doc__" 166 Value.none, eS P "__package__" 167 Value.none, eS P "__loader__" 168 (Value.builtin "__main__.__loader__#opaque"), eS P "__spec__" 169 Value.none, eS P "__annotations__" 170 (Value.ref 6), eS P "__builtins__" 171 (Value.ref 4), eS P "__file__" 173 (Value.str "/claim/cut.py" 172), eS P "__cached__" 174 Value.none, eS P "_wall" 193 (Value.ref 21), eS P "PressError" 223 (Value.ref 39), eS P "BadArgument" 239 (Value.ref 52), eS P "NOWHERE" 244 (Value.int (-1) 243), eS P "PlaceRow" 301 (Value.ref 92), eS P "Matcher" 429 (Value.ref 183), eS P "Finder" 485 (Value.ref 226)] 16, #[]⟩
noncomputable def o187 (P : Params) : Obj := ⟨Value.none, Option.none , Data.fields #[Value.int 1 0, Value.int 0 0, Value.ref 20, Value.int 5 0, Value.int 0 0, Value.ref 27, Value.int 10 0, Value.int 0 0, Value.ref 48, Value.int 14 0, Value.int 0 0, Value.ref 60, Value.int 32 0, Value.int 0 0, Value.ref 102, Value.int 83 0, Value.int 0 0, Value.ref 193], #[]⟩
noncomputable def o188 (P : Params) : Obj := ⟨Value.type "type", Option.none , Data.cls ⟨"Matcher", [Value.type "object"], [Value.ref 183, Value.type "object"], 182, "Matcher", true, [], [Value.ref 226], false, Option.none , false⟩, #[Option.none , Option.none , some (Value.str "Matcher" 302), some (Value.str "Matcher" 310), some (Value.builtin "object.__new__"), some (Value.bool true)]⟩
noncomputable def o189 (P : Params) : Obj := ⟨Value.type "tuple", Option.none , Data.seq #[Value.ref 183] 0, #[]⟩
noncomputable def o190 (P : Params) : Obj := ⟨Value.type "builtin_function_or_method", Option.none , Data.fields #[Value.builtin "type.__prepare__", Value.type "type"], #[]⟩
noncomputable def o191 (P : Params) : Obj := ⟨Value.type "dict", Option.none , Data.dict #[eS P "__module__" 437 (Value.str "threepress.matches" 240), eS P "__qualname__" 439 (Value.str "Finder" 438), eS P "__firstlineno__" 441 (Value.int 83 440), eS P "__init__" 455 (Value.ref 202), eS P "enter" 463 (Value.ref 209), eS P "candidates" 471 (Value.ref 216), eS P "every" 480 (Value.ref 223), eS P "__static_attributes__" 482 (Value.ref 224)] 8, #[]⟩
noncomputable def o192 (P : Params) : Obj := ⟨Value.type "tuple", Option.none , Data.seq #[] 0, #[]⟩
noncomputable def o193 (P : Params) : Obj := ⟨Value.none, Option.none , Data.fields #[Value.int 85 0, Value.int 4 0, Value.ref 201, Value.int 89 0, Value.int 4 0, Value.ref 208, Value.int 92 0, Value.int 4 0, Value.ref 215, Value.int 95 0, Value.int 4 0, Value.ref 222], #[]⟩
noncomputable def o194 (P : Params) : Obj := ⟨Value.type "code", Option.none , Data.fields #[Value.str "Finder" 432, Value.str "Finder" 433, Value.str "/claim/cut.py" 434, Value.int 83 0, Value.int 0 0, Value.int 0 0, Value.int 0 0, Value.int 0 0, Value.ref 191, Value.bool false, Value.int 181 0, Value.ref 192, Value.none, Value.none, Value.none, Value.none, Value.int 435 0, Value.int 83 0, Value.str "/claim/cut.py" 436], #[]⟩
noncomputable def o195 (P : Params) : Obj := ⟨Value.type "frame", Option.none , Data.plain, #[some (Value.ref 193), some (Value.ref 3), some (Value.ref 190), Option.none , some (Value.str "threepress.matches" 240), Option.none , some (Value.ref 0)]⟩
noncomputable def o196 (P : Params) : Obj := ⟨Value.type "tuple", Option.none , Data.seq #[Value.int 3 442, Value.int 32768 443, Value.int 32 444] 0, #[]⟩
noncomputable def o197 (P : Params) : Obj := ⟨Value.type "tuple", Option.none , Data.seq #[] 0, #[]⟩
noncomputable def o198 (P : Params) : Obj := ⟨Value.none, Option.none , Data.fields #[], #[]⟩
noncomputable def o199 (P : Params) : Obj := ⟨Value.type "tuple", Option.none , Data.seq #[Value.str "self" 448, Value.str "octets" 449, Value.str "least" 450, Value.str "window" 451, Value.str "chain" 452] 0, #[]⟩
noncomputable def o200 (P : Params) : Obj := ⟨Value.type "tuple", Option.none , Data.seq #[] 0, #[]⟩
noncomputable def o201 (P : Params) : Obj := ⟨Value.none, Option.none , fD "__init__" "Finder.__init__" (pM 8 0) 0 [] Value.none Value.none Value.none Value.none (Option.none ) Value.none Value.none 0, #[]⟩
noncomputable def o202 (P : Params) : Obj := ⟨Value.type "code", Option.none , Data.fields #[Value.str "__init__" 445, Value.str "Finder.__init__" 446, Value.str "/claim/cut.py" 447, Value.int 85 0, Value.int 5 0, Value.int 0 0, Value.int 0 0, Value.int 3 0, Value.ref 196, Value.bool true, Value.int 181 0, Value.ref 197, Value.none, Value.ref 198, Value.ref 199, Value.ref 200, Value.int 453 0, Value.int 85 0, Value.str "/claim/cut.py" 454], #[]⟩
noncomputable def o203 (P : Params) : Obj := ⟨Value.type "function", Option.none , fD "__init__" "Finder.__init__" (pM 8 0) 3 [] (Value.ref 195) Value.none Value.none (Value.str "threepress.matches" 240) (Option.none ) (Value.ref 201) Value.none 0, #[]⟩
noncomputable def o204 (P : Params) : Obj := ⟨Value.type "tuple", Option.none , Data.seq #[] 0, #[]⟩
noncomputable def o205 (P : Params) : Obj := ⟨Value.none, Option.none , Data.fields #[], #[]⟩
noncomputable def o206 (P : Params) : Obj := ⟨Value.type "tuple", Option.none , Data.seq #[Value.str "self" 459, Value.str "place" 460] 0, #[]⟩
noncomputable def o207 (P : Params) : Obj := ⟨Value.type "tuple", Option.none , Data.seq #[] 0, #[]⟩
noncomputable def o208 (P : Params) : Obj := ⟨Value.none, Option.none , fD "enter" "Finder.enter" (pM 8 1) 0 [] Value.none Value.none Value.none Value.none (Option.none ) Value.none Value.none 0, #[]⟩
noncomputable def o209 (P : Params) : Obj := ⟨Value.type "code", Option.none , Data.fields #[Value.str "enter" 456, Value.str "Finder.enter" 457, Value.str "/claim/cut.py" 458, Value.int 89 0, Value.int 2 0, Value.int 0 0, Value.int 0 0, Value.int 3 0, Value.ref 203, Value.bool true, Value.int 181 0, Value.ref 204, Value.none, Value.ref 205, Value.ref 206, Value.ref 207, Value.int 461 0, Value.int 89 0, Value.str "/claim/cut.py" 462], #[]⟩
noncomputable def o210 (P : Params) : Obj := ⟨Value.type "function", Option.none , fD "enter" "Finder.enter" (pM 8 1) 3 [] Value.none Value.none Value.none (Value.str "threepress.matches" 240) (Option.none ) (Value.ref 208) Value.none 0, #[]⟩
noncomputable def o211 (P : Params) : Obj := ⟨Value.type "tuple", Option.none , Data.seq #[] 0, #[]⟩
noncomputable def o212 (P : Params) : Obj := ⟨Value.none, Option.none , Data.fields #[], #[]⟩
noncomputable def o213 (P : Params) : Obj := ⟨Value.type "tuple", Option.none , Data.seq #[Value.str "self" 467, Value.str "place" 468] 0, #[]⟩
noncomputable def o214 (P : Params) : Obj := ⟨Value.type "tuple", Option.none , Data.seq #[] 0, #[]⟩
noncomputable def o215 (P : Params) : Obj := ⟨Value.none, Option.none , fD "candidates" "Finder.candidates" (pM 8 2) 0 [] Value.none Value.none Value.none Value.none (Option.none ) Value.none Value.none 0, #[]⟩
noncomputable def o216 (P : Params) : Obj := ⟨Value.type "code", Option.none , Data.fields #[Value.str "candidates" 464, Value.str "Finder.candidates" 465, Value.str "/claim/cut.py" 466, Value.int 92 0, Value.int 2 0, Value.int 0 0, Value.int 0 0, Value.int 3 0, Value.ref 210, Value.bool true, Value.int 181 0, Value.ref 211, Value.none, Value.ref 212, Value.ref 213, Value.ref 214, Value.int 469 0, Value.int 92 0, Value.str "/claim/cut.py" 470], #[]⟩
noncomputable def o217 (P : Params) : Obj := ⟨Value.type "function", Option.none , fD "candidates" "Finder.candidates" (pM 8 2) 3 [] Value.none Value.none Value.none (Value.str "threepress.matches" 240) (Option.none ) (Value.ref 215) Value.none 0, #[]⟩
noncomputable def o218 (P : Params) : Obj := ⟨Value.type "tuple", Option.none , Data.seq #[] 0, #[]⟩
noncomputable def o219 (P : Params) : Obj := ⟨Value.none, Option.none , Data.fields #[], #[]⟩
noncomputable def o220 (P : Params) : Obj := ⟨Value.type "tuple", Option.none , Data.seq #[Value.str "self" 475, Value.str "place" 476, Value.str "most" 477] 0, #[]⟩
noncomputable def o221 (P : Params) : Obj := ⟨Value.type "tuple", Option.none , Data.seq #[] 0, #[]⟩
noncomputable def o222 (P : Params) : Obj := ⟨Value.none, Option.none , fD "every" "Finder.every" (pM 8 3) 0 [] Value.none Value.none Value.none Value.none (Option.none ) Value.none Value.none 0, #[]⟩
noncomputable def o223 (P : Params) : Obj := ⟨Value.type "code", Option.none , Data.fields #[Value.str "every" 472, Value.str "Finder.every" 473, Value.str "/claim/cut.py" 474, Value.int 95 0, Value.int 3 0, Value.int 0 0, Value.int 0 0, Value.int 3 0, Value.ref 217, Value.bool true, Value.int 181 0, Value.ref 218, Value.none, Value.ref 219, Value.ref 220, Value.ref 221, Value.int 478 0, Value.int 95 0, Value.str "/claim/cut.py" 479], #[]⟩
noncomputable def o224 (P : Params) : Obj := ⟨Value.type "function", Option.none , fD "every" "Finder.every" (pM 8 3) 3 [] Value.none Value.none Value.none (Value.str "threepress.matches" 240) (Option.none ) (Value.ref 222) Value.none 0, #[]⟩
noncomputable def o225 (P : Params) : Obj := ⟨Value.type "tuple", Option.none , Data.seq #[Value.str "row" 481] 0, #[]⟩
noncomputable def o226 (P : Params) : Obj := ⟨Value.type "dict", Option.none , Data.dict #[eS P "__module__" 437 (Value.str "threepress.matches" 240), eS P "__firstlineno__" 441 (Value.int 83 440), eS P "__init__" 455 (Value.ref 202), eS P "enter" 463 (Value.ref 209), eS P "candidates" 471 (Value.ref 216), eS P "every" 480 (Value.ref 223), eS P "__static_attributes__" 482 (Value.ref 224), eS P "__doc__" 483 Value.none] 2, #[]⟩
noncomputable def o227 (P : Params) : Obj := ⟨Value.type "type", Option.none , Data.cls ⟨"Finder", [Value.ref 183], [Value.ref 226, Value.ref 183, Value.type "object"], 225, "Finder", true, [], [], false, Option.none , false⟩, #[some (Value.ref 188), Option.none , some (Value.str "Finder" 430), some (Value.str "Finder" 438), some (Value.builtin "object.__new__"), some (Value.bool true)]⟩
noncomputable def o228 (P : Params) : Obj := ⟨Value.type "super", Option.none , Data.fields #[Value.ref 226, Value.ref 226, Value.ref 226], #[]⟩
noncomputable def o229 (P : Params) : Obj := ⟨Value.type "builtin_function_or_method", Option.none , Data.fields #[Value.builtin "object.__init_subclass__", Value.ref 226], #[]⟩
noncomputable def t5 (P : Params) : BT := (N (boot_o_0 P) (N (boot_o_1 P) (N (o186 P) (N (boot_o_7 P) (N (o6 P) (N (o22 P) (N (o59 P) (N (o125 P) L L) (N (o192 P) L L)) (N (o91 P) (N (o157 P) L L) (N (o224 P) L L))) (N (o41 P) (N (o75 P) (N (o141 P) L L) (N (o208 P) L L)) (N (o109 P) (N (o173 P) L L) L))) (N (o14 P) (N (o36 P) (N (o67 P) (N (o133 P) L L) (N (o200 P) L L)) (N (o101 P) (N (o165 P) L L) L)) (N (o51 P) (N (o83 P) (N (o149 P) L L) (N (o216 P) L L)) (N (o117 P) (N (o188 P) L L) L)))) (N (o0 P) (N (o10 P) (N (o26 P) (N (o63 P) (N (o129 P) L L) (N (o196 P) L L)) (N (o97 P) (N (o161 P) L L) (N (o228 P) L L))) (N (o45 P) (N (o79 P) (N (o145 P) L L) (N (o212 P) L L)) (N (o113 P) (N (o177 P) L L) L))) (N (o18 P) (N (o37 P) (N (o71 P) (N (o137 P) L L) (N (o204 P) L L)) (N (o105 P) (N (o169 P) L L) L)) (N (o55 P) (N (o87 P) (N (o153 P) L L) (N (o220 P) L L)) (N (o121 P) (N (o185 P) L L) L))))) (N (boot_o_5 P) (N (boot_o_9 P) (N (o8 P) (N (o24 P) (N (o61 P) (N (o127 P) L L) (N (o194 P) L L)) (N (o95 P) (N (o159 P) L L) (N (o226 P) L L))) (N (o43 P) (N (o77 P) (N (o143 P) L L) (N (o210 P) L L)) (N (o111 P) (N (o175 P) L L) L))) (N (o16 P) (N (o32 P) (N (o69 P) (N (o135 P) L L) (N (o202 P) L L)) (N (o103 P) (N (o167 P) L L) L)) (N (o53 P) (N (o85 P) (N (o151 P) L L) (N (o218 P) L L)) (N (o119 P) (N (o183 P) L L) L)))) (N (o2 P) (N (o12 P) (N (o28 P) (N (o65 P) (N (o131 P) L L) (N (o198 P) L L)) (N (o99 P) (N (o163 P) L L) L)) (N (o47 P) (N (o81 P) (N (o147 P) L L) (N (o214 P) L L)) (N (o115 P) (N (o179 P) L L) L))) (N (o20 P) (N (o39 P) (N (o73 P) (N (o139 P) L L) (N (o206 P) L L)) (N (o107 P) (N (o171 P) L L) L)) (N (o57 P) (N (o89 P) (N (o155 P) L L) (N (o222 P) L L)) (N (o123 P) (N (o190 P) L L) L)))))) (N (boot_o_2 P) (N (boot_o_4 P) (N (boot_o_8 P) (N (o7 P) (N (o23 P) (N (o60 P) (N (o126 P) L L) (N (o193 P) L L)) (N (o92 P) (N (o158 P) L L) (N (o225 P) L L))) (N (o42 P) (N (o76 P) (N (o142 P) L L) (N (o209 P) L L)) (N (o110 P) (N (o174 P) L L) L))) (N (o15 P) (N (o31 P) (N (o68 P) (N (o134 P) L L) (N (o201 P) L L)) (N (o102 P) (N (o166 P) L L) L)) (N (o52 P) (N (o84 P) (N (o150 P) L L) (N (o217 P) L L)) (N (o118 P) (N (o182 P) L L) L)))) (N (o187 P) (N (o11 P) (N (o27 P) (N (o64 P) (N (o130 P) L L) (N (o197 P) L L)) (N (o98 P) (N (o162 P) L L) (N (o229 P) L L))) (N (o46 P) (N (o80 P) (N (o146 P) L L) (N (o213 P) L L)) (N (o114 P) (N (o178 P) L L) L))) (N (o19 P) (N (o38 P) (N (o72 P) (N (o138 P) L L) (N (o205 P) L L)) (N (o106 P) (N (o170 P) L L) L)) (N (o56 P) (N (o88 P) (N (o154 P) L L) (N (o221 P) L L)) (N (o122 P) (N (o189 P) L L) L))))) (N (boot_o_6 P) (N (boot_o_10 P) (N (o9 P) (N (o25 P) (N (o62 P) (N (o128 P) L L) (N (o195 P) L L)) (N (o96 P) (N (o160 P) L L) (N (o227 P) L L))) (N (o44 P) (N (o78 P) (N (o144 P) L L) (N (o211 P) L L)) (N (o112 P) (N (o176 P) L L) L))) (N (o17 P) (N (o33 P) (N (o70 P) (N (o136 P) L L) (N (o203 P) L L)) (N (o104 P) (N (o168 P) L L) L)) (N (o54 P) (N (o86 P) (N (o152 P) L L) (N (o219 P) L L)) (N (o120 P) (N (o184 P) L L) L)))) (N (o3 P) (N (o13 P) (N (o29 P) (N (o66 P) (N (o132 P) L L) (N (o199 P) L L)) (N (o100 P) (N (o164 P) L L) L)) (N (o48 P) (N (o82 P) (N (o148 P) L L) (N (o215 P) L L)) (N (o116 P) (N (o180 P) L L) L))) (N (o21 P) (N (o40 P) (N (o74 P) (N (o140 P) L L) (N (o207 P) L L)) (N (o108 P) (N (o172 P) L L) L)) (N (o58 P) (N (o90 P) (N (o156 P) L L) (N (o223 P) L L)) (N (o124 P) (N (o191 P) L L) L)))))))
theorem r4 (w : World) : (fun os : OsState => PySem.W.Fast.tw10110043849684766642 PySem.W.Fast.tw14364793385576792824 pw w 11 (some (.ref 6)) 1 350 ⟨t4 w.params, 188, {}, ⟨[]⟩, {}, 430, os⟩ (piecesOf (sl 8 1) env0 (.body B0 env0) ⟨32, 0, 82, 16⟩ [topFrame ⟨0, 0, 0, 0⟩])) = fun os => some (Flow.next, ⟨t5 w.params, 229, {}, ⟨[]⟩, {}, 486, os⟩, (.body B0 env0), ⟨83, 0, 96, 17⟩) := by
  kernel_rfl
noncomputable def o230 (P : Params) : Obj := ⟨Value.type "dict", Option.none , Data.dict #[eS P "__name__" 165 (Value.str "threepress.matches" 240), eS P "__doc__" 166 Value.none, eS P "__package__" 167 Value.none, eS P "__loader__" 168 (Value.builtin "__main__.__loader__#opaque"), eS P "__spec__" 169 Value.none, eS P "__annotations__" 170 (Value.ref 6), eS P "__builtins__" 171 (Value.ref 4), eS P "__file__" 173 (Value.str "/claim/cut.py" 172), eS P "__cached__" 174 Value.none, eS P "_wall" 193 (Value.ref 21), eS P "PressError" 223 (Value.ref 39), eS P "BadArgument" 239 (Value.ref 52), eS P "NOWHERE" 244 (Value.int (-1) 243), eS P "PlaceRow" 301 (Value.ref 92), eS P "Matcher" 429 (Value.ref 183), eS P "Finder" 485 (Value.ref 226), eS P "TreeFinder" 555 (Value.ref 274)] 17, #[]⟩
noncomputable def o231 (P : Params) : Obj := ⟨Value.none, Option.none , Data.fields #[Value.int 1 0, Value.int 0 0, Value.ref 20, Value.int 5 0, Value.int 0 0, Value.ref 27, Value.int 10 0, Value.int 0 0, Value.ref 48, Value.int 14 0, Value.int 0 0, Value.ref 60, Value.int 32 0, Value.int 0 0, Value.ref 102, Value.int 83 0, Value.int 0 0, Value.ref 193, Value.int 97 0, Value.int 0 0, Value.ref 234], #[]⟩
noncomputable def o232 (P : Params) : Obj := ⟨Value.type "type", Option.none , Data.cls ⟨"Matcher", [Value.type "object"], [Value.ref 183, Value.type "object"], 182, "Matcher", true, [], [Value.ref 226, Value.ref 274], false, Option.none , false⟩, #[Option.none , Option.none , some (Value.str "Matcher" 302), some (Value.str "Matcher" 310), some (Value.builtin "object.__new__"), some (Value.bool true)]⟩
noncomputable def o233 (P : Params) : Obj := ⟨Value.type "tuple", Option.none , Data.seq #[Value.ref 183] 0, #[]⟩
noncomputable def o234 (P : Params) : Obj := ⟨Value.type "builtin_function_or_method", Option.none , Data.fields #[Value.builtin "type.__prepare__", Value.type "type"], #[]⟩
noncomputable def o235 (P : Params) : Obj := ⟨Value.type "dict", Option.none , Data.dict #[eS P "__module__" 493 (Value.str "threepress.matches" 240), eS P "__qualname__" 495 (Value.str "TreeFinder" 494), eS P "__firstlineno__" 497 (Value.int 97 496), eS P "__init__" 511 (Value.ref 243), eS P "hang" 521 (Value.ref 250), eS P "enter" 529 (Value.ref 257), eS P "part" 538 (Value.ref 264), eS P "every" 547 (Value.ref 271), eS P "__static_attributes__" 552 (Value.ref 272)] 9, #[]⟩
noncomputable def o236 (P : Params) : Obj := ⟨Value.type "tuple", Option.none , Data.seq #[] 0, #[]⟩
noncomputable def o237 (P : Params) : Obj := ⟨Value.none, Option.none , Data.fields #[Value.int 99 0, Value.int 4 0, Value.ref 242, Value.int 106 0, Value.int 4 0, Value.ref 249, Value.int 109 0, Value.int 4 0, Value.ref 256, Value.int 112 0, Value.int 4 0, Value.ref 263, Value.int 115 0, Value.int 4 0, Value.ref 270], #[]⟩
noncomputable def o238 (P : Params) : Obj := ⟨Value.type "code", Option.none , Data.fields #[Value.str "TreeFinder" 488, Value.str "TreeFinder" 489, Value.str "/claim/cut.py" 490, Value.int 97 0, Value.int 0 0, Value.int 0 0, Value.int 0 0, Value.int 0 0, Value.ref 232, Value.bool false, Value.int 181 0, Value.ref 233, Value.none, Value.none, Value.none, Value.none, Value.int 491 0, Value.int 97 0, Value.str "/claim/cut.py" 492], #[]⟩
noncomputable def o239 (P : Params) : Obj := ⟨Value.type "frame", Option.none , Data.plain, #[some (Value.ref 234), some (Value.ref 3), some (Value.ref 231), Option.none , some (Value.str "threepress.matches" 240), Option.none , some (Value.ref 0)]⟩
noncomputable def o240 (P : Params) : Obj := ⟨Value.type "tuple", Option.none , Data.seq #[Value.int 3 498, Value.int 32768 499, Value.int 32 500] 0, #[]⟩
noncomputable def o241 (P : Params) : Obj := ⟨Value.type "tuple", Option.none , Data.seq #[] 0, #[]⟩
noncomputable def o242 (P : Params) : Obj := ⟨Value.none, Option.none , Data.fields #[], #[]⟩
noncomputable def o243 (P : Params) : Obj := ⟨Value.type "tuple", Option.none , Data.seq #[Value.str "self" 504, Value.str "octets" 505, Value.str "least" 506, Value.str "window" 507, Value.str "chain" 508] 0, #[]⟩
noncomputable def o244 (P : Params) : Obj := ⟨Value.type "tuple", Option.none , Data.seq #[] 0, #[]⟩
noncomputable def o245 (P : Params) : Obj := ⟨Value.none, Option.none , fD "__init__" "TreeFinder.__init__" (pM 9 0) 0 [] Value.none Value.none Value.none Value.none (Option.none ) Value.none Value.none 0, #[]⟩
noncomputable def o246 (P : Params) : Obj := ⟨Value.type "code", Option.none , Data.fields #[Value.str "__init__" 501, Value.str "TreeFinder.__init__" 502, Value.str "/claim/cut.py" 503, Value.int 99 0, Value.int 5 0, Value.int 0 0, Value.int 0 0, Value.int 3 0, Value.ref 237, Value.bool true, Value.int 181 0, Value.ref 238, Value.none, Value.ref 239, Value.ref 240, Value.ref 241, Value.int 509 0, Value.int 99 0, Value.str "/claim/cut.py" 510], #[]⟩
noncomputable def o247 (P : Params) : Obj := ⟨Value.type "function", Option.none , fD "__init__" "TreeFinder.__init__" (pM 9 0) 3 [] (Value.ref 236) Value.none Value.none (Value.str "threepress.matches" 240) (Option.none ) (Value.ref 242) Value.none 0, #[]⟩
noncomputable def o248 (P : Params) : Obj := ⟨Value.type "tuple", Option.none , Data.seq #[] 0, #[]⟩
noncomputable def o249 (P : Params) : Obj := ⟨Value.none, Option.none , Data.fields #[], #[]⟩
noncomputable def o250 (P : Params) : Obj := ⟨Value.type "tuple", Option.none , Data.seq #[Value.str "self" 515, Value.str "owner" 516, Value.str "is_greater" 517, Value.str "place" 518] 0, #[]⟩
noncomputable def o251 (P : Params) : Obj := ⟨Value.type "tuple", Option.none , Data.seq #[] 0, #[]⟩
noncomputable def o252 (P : Params) : Obj := ⟨Value.none, Option.none , fD "hang" "TreeFinder.hang" (pM 9 1) 0 [] Value.none Value.none Value.none Value.none (Option.none ) Value.none Value.none 0, #[]⟩
noncomputable def o253 (P : Params) : Obj := ⟨Value.type "code", Option.none , Data.fields #[Value.str "hang" 512, Value.str "TreeFinder.hang" 513, Value.str "/claim/cut.py" 514, Value.int 106 0, Value.int 4 0, Value.int 0 0, Value.int 0 0, Value.int 3 0, Value.ref 244, Value.bool true, Value.int 181 0, Value.ref 245, Value.none, Value.ref 246, Value.ref 247, Value.ref 248, Value.int 519 0, Value.int 106 0, Value.str "/claim/cut.py" 520], #[]⟩
noncomputable def o254 (P : Params) : Obj := ⟨Value.type "function", Option.none , fD "hang" "TreeFinder.hang" (pM 9 1) 3 [] Value.none Value.none Value.none (Value.str "threepress.matches" 240) (Option.none ) (Value.ref 249) Value.none 0, #[]⟩
noncomputable def o255 (P : Params) : Obj := ⟨Value.type "tuple", Option.none , Data.seq #[] 0, #[]⟩
noncomputable def o256 (P : Params) : Obj := ⟨Value.none, Option.none , Data.fields #[], #[]⟩
noncomputable def o257 (P : Params) : Obj := ⟨Value.type "tuple", Option.none , Data.seq #[Value.str "self" 525, Value.str "place" 526] 0, #[]⟩
noncomputable def o258 (P : Params) : Obj := ⟨Value.type "tuple", Option.none , Data.seq #[] 0, #[]⟩
noncomputable def o259 (P : Params) : Obj := ⟨Value.none, Option.none , fD "enter" "TreeFinder.enter" (pM 9 2) 0 [] Value.none Value.none Value.none Value.none (Option.none ) Value.none Value.none 0, #[]⟩
noncomputable def o260 (P : Params) : Obj := ⟨Value.type "code", Option.none , Data.fields #[Value.str "enter" 522, Value.str "TreeFinder.enter" 523, Value.str "/claim/cut.py" 524, Value.int 109 0, Value.int 2 0, Value.int 0 0, Value.int 0 0, Value.int 3 0, Value.ref 251, Value.bool true, Value.int 181 0, Value.ref 252, Value.none, Value.ref 253, Value.ref 254, Value.ref 255, Value.int 527 0, Value.int 109 0, Value.str "/claim/cut.py" 528], #[]⟩
noncomputable def o261 (P : Params) : Obj := ⟨Value.type "function", Option.none , fD "enter" "TreeFinder.enter" (pM 9 2) 3 [] Value.none Value.none Value.none (Value.str "threepress.matches" 240) (Option.none ) (Value.ref 256) Value.none 0, #[]⟩
noncomputable def o262 (P : Params) : Obj := ⟨Value.type "tuple", Option.none , Data.seq #[] 0, #[]⟩
noncomputable def o263 (P : Params) : Obj := ⟨Value.none, Option.none , Data.fields #[], #[]⟩
noncomputable def o264 (P : Params) : Obj := ⟨Value.type "tuple", Option.none , Data.seq #[Value.str "self" 533, Value.str "place" 534, Value.str "other" 535] 0, #[]⟩
noncomputable def o265 (P : Params) : Obj := ⟨Value.type "tuple", Option.none , Data.seq #[] 0, #[]⟩
noncomputable def o266 (P : Params) : Obj := ⟨Value.none, Option.none , fD "part" "TreeFinder.part" (pM 9 3) 0 [] Value.none Value.none Value.none Value.none (Option.none ) Value.none Value.none 0, #[]⟩
noncomputable def o267 (P : Params) : Obj := ⟨Value.type "code", Option.none , Data.fields #[Value.str "part" 530, Value.str "TreeFinder.part" 531, Value.str "/claim/cut.py" 532, Value.int 112 0, Value.int 3 0, Value.int 0 0, Value.int 0 0, Value.int 3 0, Value.ref 258, Value.bool true, Value.int 181 0, Value.ref 259, Value.none, Value.ref 260, Value.ref 261, Value.ref 262, Value.int 536 0, Value.int 112 0, Value.str "/claim/cut.py" 537], #[]⟩
noncomputable def o268 (P : Params) : Obj := ⟨Value.type "function", Option.none , fD "part" "TreeFinder.part" (pM 9 3) 3 [] Value.none Value.none Value.none (Value.str "threepress.matches" 240) (Option.none ) (Value.ref 263) Value.none 0, #[]⟩
noncomputable def o269 (P : Params) : Obj := ⟨Value.type "tuple", Option.none , Data.seq #[] 0, #[]⟩
noncomputable def o270 (P : Params) : Obj := ⟨Value.none, Option.none , Data.fields #[], #[]⟩
noncomputable def o271 (P : Params) : Obj := ⟨Value.type "tuple", Option.none , Data.seq #[Value.str "self" 542, Value.str "place" 543, Value.str "most" 544] 0, #[]⟩
noncomputable def o272 (P : Params) : Obj := ⟨Value.type "tuple", Option.none , Data.seq #[] 0, #[]⟩
noncomputable def o273 (P : Params) : Obj := ⟨Value.none, Option.none , fD "every" "TreeFinder.every" (pM 9 4) 0 [] Value.none Value.none Value.none Value.none (Option.none ) Value.none Value.none 0, #[]⟩
noncomputable def o274 (P : Params) : Obj := ⟨Value.type "code", Option.none , Data.fields #[Value.str "every" 539, Value.str "TreeFinder.every" 540, Value.str "/claim/cut.py" 541, Value.int 115 0, Value.int 3 0, Value.int 0 0, Value.int 0 0, Value.int 3 0, Value.ref 265, Value.bool true, Value.int 181 0, Value.ref 266, Value.none, Value.ref 267, Value.ref 268, Value.ref 269, Value.int 545 0, Value.int 115 0, Value.str "/claim/cut.py" 546], #[]⟩
noncomputable def o275 (P : Params) : Obj := ⟨Value.type "function", Option.none , fD "every" "TreeFinder.every" (pM 9 4) 3 [] Value.none Value.none Value.none (Value.str "threepress.matches" 240) (Option.none ) (Value.ref 270) Value.none 0, #[]⟩
noncomputable def o276 (P : Params) : Obj := ⟨Value.type "tuple", Option.none , Data.seq #[Value.str "greater" 548, Value.str "roots" 549, Value.str "row" 550, Value.str "smaller" 551] 0, #[]⟩
noncomputable def o277 (P : Params) : Obj := ⟨Value.type "dict", Option.none , Data.dict #[eS P "__module__" 493 (Value.str "threepress.matches" 240), eS P "__firstlineno__" 497 (Value.int 97 496), eS P "__init__" 511 (Value.ref 243), eS P "hang" 521 (Value.ref 250), eS P "enter" 529 (Value.ref 257), eS P "part" 538 (Value.ref 264), eS P "every" 547 (Value.ref 271), eS P "__static_attributes__" 552 (Value.ref 272), eS P "__doc__" 553 Value.none] 2, #[]⟩
noncomputable def o278 (P : Params) : Obj := ⟨Value.type "type", Option.none , Data.cls ⟨"TreeFinder", [Value.ref 183], [Value.ref 274, Value.ref 183, Value.type "object"], 273, "TreeFinder", true, [], [], false, Option.none , false⟩, #[some (Value.ref 229), Option.none , some (Value.str "TreeFinder" 486), some (Value.str "TreeFinder" 494), some (Value.builtin "object.__new__"), some (Value.bool true)]⟩
noncomputable def o279 (P : Params) : Obj := ⟨Value.type "super", Option.none , Data.fields #[Value.ref 274, Value.ref 274, Value.ref 274], #[]⟩
noncomputable def o280 (P : Params) : Obj := ⟨Value.type "builtin_function_or_method", Option.none , Data.fields #[Value.builtin "object.__init_subclass__", Value.ref 274], #[]⟩
noncomputable def t6 (P : Params) : BT := (N (boot_o_0 P) (N (boot_o_1 P) (N (o230 P) (N (boot_o_7 P) (N (o6 P) (N (o22 P) (N (o59 P) (N (o125 P) (N (o259 P) L L) L) (N (o192 P) L L)) (N (o91 P) (N (o157 P) L L) (N (o224 P) L L))) (N (o41 P) (N (o75 P) (N (o141 P) (N (o275 P) L L) L) (N (o208 P) L L)) (N (o109 P) (N (o173 P) L L) (N (o243 P) L L)))) (N (o14 P) (N (o36 P) (N (o67 P) (N (o133 P) (N (o267 P) L L) L) (N (o200 P) L L)) (N (o101 P) (N (o165 P) L L) (N (o235 P) L L))) (N (o51 P) (N (o83 P) (N (o149 P) L L) (N (o216 P) L L)) (N (o117 P) (N (o232 P) L L) (N (o251 P) L L))))) (N (o0 P) (N (o10 P) (N (o26 P) (N (o63 P) (N (o129 P) (N (o263 P) L L) L) (N (o196 P) L L)) (N (o97 P) (N (o161 P) L L) (N (o228 P) L L))) (N (o45 P) (N (o79 P) (N (o145 P) (N (o279 P) L L) L) (N (o212 P) L L)) (N (o113 P) (N (o177 P) L L) (N (o247 P) L L)))) (N (o18 P) (N (o37 P) (N (o71 P) (N (o137 P) (N (o271 P) L L) L) (N (o204 P) L L)) (N (o105 P) (N (o169 P) L L) (N (o239 P) L L))) (N (o55 P) (N (o87 P) (N (o153 P) L L) (N (o220 P) L L)) (N (o121 P) (N (o185 P) L L) (N (o255 P) L L)))))) (N (boot_o_5 P) (N (boot_o_9 P) (N (o8 P) (N (o24 P) (N (o61 P) (N (o127 P) (N (o261 P) L L) L) (N (o194 P) L L)) (N (o95 P) (N (o159 P) L L) (N (o226 P) L L))) (N (o43 P) (N (o77 P) (N (o143 P) (N (o277 P) L L) L) (N (o210 P) L L)) (N (o111 P) (N (o175 P) L L) (N (o245 P) L L)))) (N (o16 P) (N (o32 P) (N (o69 P) (N (o135 P) (N (o269 P) L L) L) (N (o202 P) L L)) (N (o103 P) (N (o167 P) L L) (N (o237 P) L L))) (N (o53 P) (N (o85 P) (N (o151 P) L L) (N (o218 P) L L)) (N (o119 P) (N (o183 P) L L) (N (o253 P) L L))))) (N (o2 P) (N (o12 P) (N (o28 P) (N (o65 P) (N (o131 P) (N (o265 P) L L) L) (N (o198 P) L L)) (N (o99 P) (N (o163 P) L L) (N (o233 P) L L))) (N (o47 P) (N (o81 P) (N (o147 P) L L) (N (o214 P) L L)) (N (o115 P) (N (o179 P) L L) (N (o249 P) L L)))) (N (o20 P) (N (o39 P) (N (o73 P) (N (o139 P) (N (o273 P) L L) L) (N (o206 P) L L)) (N (o107 P) (N (o171 P) L L) (N (o241 P) L L))) (N (o57 P) (N (o89 P) (N (o155 P) L L) (N (o222 P) L L)) (N (o123 P) (N (o190 P) L L) (N (o257 P) L L))))))) (N (boot_o_2 P) (N (boot_o_4 P) (N (boot_o_8 P) (N (o7 P) (N (o23 P) (N (o60 P) (N (o126 P) (N (o260 P) L L) L) (N (o193 P) L L)) (N (o92 P) (N (o158 P) L L) (N (o225 P) L L))) (N (o42 P) (N (o76 P) (N (o142 P) (N (o276 P) L L) L) (N (o209 P) L L)) (N (o110 P) (N (o174 P) L L) (N (o244 P) L L)))) (N (o15 P) (N (o31 P) (N (o68 P) (N (o134 P) (N (o268 P) L L) L) (N (o201 P) L L)) (N (o102 P) (N (o166 P) L L) (N (o236 P) L L))) (N (o52 P) (N (o84 P) (N (o150 P) L L) (N (o217 P) L L)) (N (o118 P) (N (o182 P) L L) (N (o252 P) L L))))) (N (o231 P) (N (o11 P) (N (o27 P) (N (o64 P) (N (o130 P) (N (o264 P) L L) L) (N (o197 P) L L)) (N (o98 P) (N (o162 P) L L) (N (o229 P) L L))) (N (o46 P) (N (o80 P) (N (o146 P) (N (o280 P) L L) L) (N (o213 P) L L)) (N (o114 P) (N (o178 P) L L) (N (o248 P) L L)))) (N (o19 P) (N (o38 P) (N (o72 P) (N (o138 P) (N (o272 P) L L) L) (N (o205 P) L L)) (N (o106 P) (N (o170 P) L L) (N (o240 P) L L))) (N (o56 P) (N (o88 P) (N (o154 P) L L) (N (o221 P) L L)) (N (o122 P) (N (o189 P) L L) (N (o256 P) L L)))))) (N (boot_o_6 P) (N (boot_o_10 P) (N (o9 P) (N (o25 P) (N (o62 P) (N (o128 P) (N (o262 P) L L) L) (N (o195 P) L L)) (N (o96 P) (N (o160 P) L L) (N (o227 P) L L))) (N (o44 P) (N (o78 P) (N (o144 P) (N (o278 P) L L) L) (N (o211 P) L L)) (N (o112 P) (N (o176 P) L L) (N (o246 P) L L)))) (N (o17 P) (N (o33 P) (N (o70 P) (N (o136 P) (N (o270 P) L L) L) (N (o203 P) L L)) (N (o104 P) (N (o168 P) L L) (N (o238 P) L L))) (N (o54 P) (N (o86 P) (N (o152 P) L L) (N (o219 P) L L)) (N (o120 P) (N (o184 P) L L) (N (o254 P) L L))))) (N (o3 P) (N (o13 P) (N (o29 P) (N (o66 P) (N (o132 P) (N (o266 P) L L) L) (N (o199 P) L L)) (N (o100 P) (N (o164 P) L L) (N (o234 P) L L))) (N (o48 P) (N (o82 P) (N (o148 P) L L) (N (o215 P) L L)) (N (o116 P) (N (o180 P) L L) (N (o250 P) L L)))) (N (o21 P) (N (o40 P) (N (o74 P) (N (o140 P) (N (o274 P) L L) L) (N (o207 P) L L)) (N (o108 P) (N (o172 P) L L) (N (o242 P) L L))) (N (o58 P) (N (o90 P) (N (o156 P) L L) (N (o223 P) L L)) (N (o124 P) (N (o191 P) L L) (N (o258 P) L L))))))))
theorem r5 (w : World) : (fun os : OsState => PySem.W.Fast.tw10110043849684766642 PySem.W.Fast.tw14364793385576792824 pw w 11 (some (.ref 6)) 1 388 ⟨t5 w.params, 229, {}, ⟨[]⟩, {}, 486, os⟩ (piecesOf (sl 9 1) env0 (.body B0 env0) ⟨83, 0, 96, 17⟩ [topFrame ⟨0, 0, 0, 0⟩])) = fun os => some (Flow.next, ⟨t6 w.params, 277, {}, ⟨[]⟩, {}, 556, os⟩, (.body B0 env0), ⟨97, 0, 116, 17⟩) := by
  kernel_rfl
noncomputable def o281 (P : Params) : Obj := ⟨Value.type "dict", Option.none , Data.dict #[eS P "__name__" 165 (Value.str "law_tg0038_02" 604), eS P "__doc__" 166 Value.none, eS P "__package__" 167 Value.none, eS P "__loader__" 168 (Value.builtin "__main__.__loader__#opaque"), eS P "__spec__" 169 Value.none, eS P "__annotations__" 170 (Value.ref 6), eS P "__builtins__" 171 (Value.ref 4), eS P "__file__" 173 (Value.str "/claim/cut.py" 172), eS P "__cached__" 174 Value.none, eS P "_wall" 193 (Value.ref 21), eS P "PressError" 223 (Value.ref 39), eS P "BadArgument" 239 (Value.ref 52), eS P "NOWHERE" 244 (Value.int (-1) 243), eS P "PlaceRow" 301 (Value.ref 92), eS P "Matcher" 429 (Value.ref 183), eS P "Finder" 485 (Value.ref 226), eS P "TreeFinder" 555 (Value.ref 274), eS P "LayeredFinder" 603 (Value.ref 307), eS P "_law_box" 615 (Value.ref 316)] 19, #[]⟩
noncomputable def o282 (P : Params) : Obj := ⟨Value.none, Option.none , Data.fields #[Value.int 1 0, Value.int 0 0, Value.ref 20, Value.int 5 0, Value.int 0 0, Value.ref 27, Value.int 10 0, Value.int 0 0, Value.ref 48, Value.int 14 0, Value.int 0 0, Value.ref 60, Value.int 32 0, Value.int 0 0, Value.ref 102, Value.int 83 0, Value.int 0 0, Value.ref 193, Value.int 97 0, Value.int 0 0, Value.ref 234, Value.int 117 0, Value.int 0 0, Value.ref 282, Value.int 132 0, Value.int 0 0, Value.ref 315], #[]⟩
noncomputable def o283 (P : Params) : Obj := ⟨Value.type "type", Option.none , Data.cls ⟨"Matcher", [Value.type "object"], [Value.ref 183, Value.type "object"], 182, "Matcher", true, [], [Value.ref 226, Value.ref 274, Value.ref 307], false, Option.none , false⟩, #[Option.none , Option.none , some (Value.str "Matcher" 302), some (Value.str "Matcher" 310), some (Value.builtin "object.__new__"), some (Value.bool true)]⟩
noncomputable def o284 (P : Params) : Obj := ⟨Value.type "tuple", Option.none , Data.seq #[Value.ref 183] 0, #[]⟩
noncomputable def o285 (P : Params) : Obj := ⟨Value.type "builtin_function_or_method", Option.none , Data.fields #[Value.builtin "type.__prepare__", Value.type "type"], #[]⟩
noncomputable def o286 (P : Params) : Obj := ⟨Value.type "dict", Option.none , Data.dict #[eS P "__module__" 563 (Value.str "threepress.matches" 240), eS P "__qualname__" 565 (Value.str "LayeredFinder" 564), eS P "__firstlineno__" 567 (Value.int 117 566), eS P "LAYERS" 570 (Value.ref 284), eS P "TREE" 572 (Value.int 4 571), eS P "__init__" 580 (Value.ref 290), eS P "enter" 588 (Value.ref 297), eS P "every" 597 (Value.ref 304), eS P "__static_attributes__" 600 (Value.ref 305)] 9, #[]⟩
noncomputable def o287 (P : Params) : Obj := ⟨Value.type "tuple", Option.none , Data.seq #[] 0, #[]⟩
noncomputable def o288 (P : Params) : Obj := ⟨Value.none, Option.none , Data.fields #[Value.int 121 0, Value.int 4 0, Value.ref 289, Value.int 126 0, Value.int 4 0, Value.ref 296, Value.int 129 0, Value.int 4 0, Value.ref 303], #[]⟩
noncomputable def o289 (P : Params) : Obj := ⟨Value.type "code", Option.none , Data.fields #[Value.str "LayeredFinder" 558, Value.str "LayeredFinder" 559, Value.str "/claim/cut.py" 560, Value.int 117 0, Value.int 0 0, Value.int 0 0, Value.int 0 0, Value.int 0 0, Value.ref 280, Value.bool false, Value.int 181 0, Value.ref 281, Value.none, Value.none, Value.none, Value.none, Value.int 561 0, Value.int 117 0, Value.str "/claim/cut.py" 562], #[]⟩
noncomputable def o290 (P : Params) : Obj := ⟨Value.type "frame", Option.none , Data.plain, #[some (Value.ref 282), some (Value.ref 3), some (Value.ref 279), Option.none , some (Value.str "threepress.matches" 240), Option.none , some (Value.ref 0)]⟩
noncomputable def o291 (P : Params) : Obj := ⟨Value.type "tuple", Option.none , Data.seq #[Value.int 2 568, Value.int 3 569] 0, #[]⟩
noncomputable def o292 (P : Params) : Obj := ⟨Value.type "tuple", Option.none , Data.seq #[Value.int 32768 573, Value.int 32 574] 0, #[]⟩
noncomputable def o293 (P : Params) : Obj := ⟨Value.type "tuple", Option.none , Data.seq #[] 0, #[]⟩
noncomputable def o294 (P : Params) : Obj := ⟨Value.none, Option.none , Data.fields #[], #[]⟩
noncomputable def o295 (P : Params) : Obj := ⟨Value.none, Option.none , fD "__init__" "LayeredFinder.__init__" (pM 10 2) 0 [] Value.none Value.none Value.none Value.none (Option.none ) Value.none Value.none 0, #[]⟩
noncomputable def o296 (P : Params) : Obj := ⟨Value.type "code", Option.none , Data.fields #[Value.str "__init__" 575, Value.str "LayeredFinder.__init__" 576, Value.str "/claim/cut.py" 577, Value.int 121 0, Value.int 4 0, Value.int 0 0, Value.int 0 0, Value.int 3 0, Value.ref 286, Value.bool true, Value.int 181 0, Value.ref 287, Value.none, Value.none, Value.none, Value.ref 288, Value.int 578 0, Value.int 121 0, Value.str "/claim/cut.py" 579], #[]⟩
noncomputable def o297 (P : Params) : Obj := ⟨Value.type "function", Option.none , fD "__init__" "LayeredFinder.__init__" (pM 10 2) 3 [] (Value.ref 285) Value.none Value.none (Value.str "threepress.matches" 240) (Option.none ) (Value.ref 289) Value.none 0, #[]⟩
noncomputable def o298 (P : Params) : Obj := ⟨Value.type "tuple", Option.none , Data.seq #[] 0, #[]⟩
noncomputable def o299 (P : Params) : Obj := ⟨Value.none, Option.none , Data.fields #[], #[]⟩
noncomputable def o300 (P : Params) : Obj := ⟨Value.type "tuple", Option.none , Data.seq #[Value.str "self" 584, Value.str "place" 585] 0, #[]⟩
noncomputable def o301 (P : Params) : Obj := ⟨Value.type "tuple", Option.none , Data.seq #[] 0, #[]⟩
noncomputable def o302 (P : Params) : Obj := ⟨Value.none, Option.none , fD "enter" "LayeredFinder.enter" (pM 10 3) 0 [] Value.none Value.none Value.none Value.none (Option.none ) Value.none Value.none 0, #[]⟩
noncomputable def o303 (P : Params) : Obj := ⟨Value.type "code", Option.none , Data.fields #[Value.str "enter" 581, Value.str "LayeredFinder.enter" 582, Value.str "/claim/cut.py" 583, Value.int 126 0, Value.int 2 0, Value.int 0 0, Value.int 0 0, Value.int 3 0, Value.ref 291, Value.bool true, Value.int 181 0, Value.ref 292, Value.none, Value.ref 293, Value.ref 294, Value.ref 295, Value.int 586 0, Value.int 126 0, Value.str "/claim/cut.py" 587], #[]⟩
noncomputable def o304 (P : Params) : Obj := ⟨Value.type "function", Option.none , fD "enter" "LayeredFinder.enter" (pM 10 3) 3 [] Value.none Value.none Value.none (Value.str "threepress.matches" 240) (Option.none ) (Value.ref 296) Value.none 0, #[]⟩
noncomputable def o305 (P : Params) : Obj := ⟨Value.type "tuple", Option.none , Data.seq #[] 0, #[]⟩
noncomputable def o306 (P : Params) : Obj := ⟨Value.none, Option.none , Data.fields #[], #[]⟩
noncomputable def o307 (P : Params) : Obj := ⟨Value.type "tuple", Option.none , Data.seq #[Value.str "self" 592, Value.str "place" 593, Value.str "most" 594] 0, #[]⟩
noncomputable def o308 (P : Params) : Obj := ⟨Value.type "tuple", Option.none , Data.seq #[] 0, #[]⟩
noncomputable def o309 (P : Params) : Obj := ⟨Value.none, Option.none , fD "every" "LayeredFinder.every" (pM 10 4) 0 [] Value.none Value.none Value.none Value.none (Option.none ) Value.none Value.none 0, #[]⟩
noncomputable def o310 (P : Params) : Obj := ⟨Value.type "code", Option.none , Data.fields #[Value.str "every" 589, Value.str "LayeredFinder.every" 590, Value.str "/claim/cut.py" 591, Value.int 129 0, Value.int 3 0, Value.int 0 0, Value.int 0 0, Value.int 3 0, Value.ref 298, Value.bool true, Value.int 181 0, Value.ref 299, Value.none, Value.ref 300, Value.ref 301, Value.ref 302, Value.int 595 0, Value.int 129 0, Value.str "/claim/cut.py" 596], #[]⟩
noncomputable def o311 (P : Params) : Obj := ⟨Value.type "function", Option.none , fD "every" "LayeredFinder.every" (pM 10 4) 3 [] Value.none Value.none Value.none (Value.str "threepress.matches" 240) (Option.none ) (Value.ref 303) Value.none 0, #[]⟩
noncomputable def o312 (P : Params) : Obj := ⟨Value.type "tuple", Option.none , Data.seq #[Value.str "rows" 598, Value.str "tree" 599] 0, #[]⟩
noncomputable def o313 (P : Params) : Obj := ⟨Value.type "dict", Option.none , Data.dict #[eS P "__module__" 563 (Value.str "threepress.matches" 240), eS P "__firstlineno__" 567 (Value.int 117 566), eS P "LAYERS" 570 (Value.ref 284), eS P "TREE" 572 (Value.int 4 571), eS P "__init__" 580 (Value.ref 290), eS P "enter" 588 (Value.ref 297), eS P "every" 597 (Value.ref 304), eS P "__static_attributes__" 600 (Value.ref 305), eS P "__doc__" 601 Value.none] 2, #[]⟩
noncomputable def o314 (P : Params) : Obj := ⟨Value.type "type", Option.none , Data.cls ⟨"LayeredFinder", [Value.ref 183], [Value.ref 307, Value.ref 183, Value.type "object"], 306, "LayeredFinder", true, [], [], false, Option.none , false⟩, #[some (Value.ref 277), Option.none , some (Value.str "LayeredFinder" 556), some (Value.str "LayeredFinder" 564), some (Value.builtin "object.__new__"), some (Value.bool true)]⟩
noncomputable def o315 (P : Params) : Obj := ⟨Value.type "super", Option.none , Data.fields #[Value.ref 307, Value.ref 307, Value.ref 307], #[]⟩
noncomputable def o316 (P : Params) : Obj := ⟨Value.type "builtin_function_or_method", Option.none , Data.fields #[Value.builtin "object.__init_subclass__", Value.ref 307], #[]⟩
noncomputable def o317 (P : Params) : Obj := ⟨Value.type "tuple", Option.none , Data.seq #[] 0, #[]⟩
noncomputable def o318 (P : Params) : Obj := ⟨Value.none, Option.none , Data.fields #[], #[]⟩
noncomputable def o319 (P : Params) : Obj := ⟨Value.type "tuple", Option.none , Data.seq #[Value.str "script" 609, Value.str "digits" 610, Value.str "state" 611, Value.str "cell" 612] 0, #[]⟩
noncomputable def o320 (P : Params) : Obj := ⟨Value.type "tuple", Option.none , Data.seq #[] 0, #[]⟩
noncomputable def o321 (P : Params) : Obj := ⟨Value.none, Option.none , fD "_law_box" "_law_box" (pT 12) 0 [] Value.none Value.none Value.none Value.none (Option.none ) Value.none Value.none 0, #[]⟩
noncomputable def o322 (P : Params) : Obj := ⟨Value.type "code", Option.none , Data.fields #[Value.str "_law_box" 606, Value.str "_law_box" 607, Value.str "/claim/cut.py" 608, Value.int 132 0, Value.int 1 0, Value.int 0 0, Value.int 0 0, Value.int 3 0, Value.ref 310, Value.bool true, Value.int 181 0, Value.ref 311, Value.none, Value.ref 312, Value.ref 313, Value.ref 314, Value.int 613 0, Value.int 132 0, Value.str "/claim/cut.py" 614], #[]⟩
noncomputable def o323 (P : Params) : Obj := ⟨Value.type "function", Option.none , fD "_law_box" "_law_box" (pT 12) 3 [] Value.none Value.none Value.none (Value.str "law_tg0038_02" 604) (Option.none ) (Value.ref 315) Value.none 0, #[]⟩
noncomputable def t7 (P : Params) : BT := (N (boot_o_0 P) (N (boot_o_1 P) (N (o281 P) (N (boot_o_7 P) (N (o6 P) (N (o22 P) (N (o59 P) (N (o125 P) (N (o259 P) L L) L) (N (o192 P) L L)) (N (o91 P) (N (o157 P) (N (o294 P) L L) L) (N (o224 P) L L))) (N (o41 P) (N (o75 P) (N (o141 P) (N (o275 P) L L) L) (N (o208 P) L L)) (N (o109 P) (N (o173 P) (N (o310 P) L L) L) (N (o243 P) L L)))) (N (o14 P) (N (o36 P) (N (o67 P) (N (o133 P) (N (o267 P) L L) L) (N (o200 P) L L)) (N (o101 P) (N (o165 P) (N (o302 P) L L) L) (N (o235 P) L L))) (N (o51 P) (N (o83 P) (N (o149 P) (N (o286 P) L L) L) (N (o216 P) L L)) (N (o117 P) (N (o283 P) (N (o318 P) L L) L) (N (o251 P) L L))))) (N (o0 P) (N (o10 P) (N (o26 P) (N (o63 P) (N (o129 P) (N (o263 P) L L) L) (N (o196 P) L L)) (N (o97 P) (N (o161 P) (N (o298 P) L L) L) (N (o228 P) L L))) (N (o45 P) (N (o79 P) (N (o145 P) (N (o279 P) L L) L) (N (o212 P) L L)) (N (o113 P) (N (o177 P) (N (o314 P) L L) L) (N (o247 P) L L)))) (N (o18 P) (N (o37 P) (N (o71 P) (N (o137 P) (N (o271 P) L L) L) (N (o204 P) L L)) (N (o105 P) (N (o169 P) (N (o306 P) L L) L) (N (o239 P) L L))) (N (o55 P) (N (o87 P) (N (o153 P) (N (o290 P) L L) L) (N (o220 P) L L)) (N (o121 P) (N (o185 P) (N (o322 P) L L) L) (N (o255 P) L L)))))) (N (boot_o_5 P) (N (boot_o_9 P) (N (o8 P) (N (o24 P) (N (o61 P) (N (o127 P) (N (o261 P) L L) L) (N (o194 P) L L)) (N (o95 P) (N (o159 P) (N (o296 P) L L) L) (N (o226 P) L L))) (N (o43 P) (N (o77 P) (N (o143 P) (N (o277 P) L L) L) (N (o210 P) L L)) (N (o111 P) (N (o175 P) (N (o312 P) L L) L) (N (o245 P) L L)))) (N (o16 P) (N (o32 P) (N (o69 P) (N (o135 P) (N (o269 P) L L) L) (N (o202 P) L L)) (N (o103 P) (N (o167 P) (N (o304 P) L L) L) (N (o237 P) L L))) (N (o53 P) (N (o85 P) (N (o151 P) (N (o288 P) L L) L) (N (o218 P) L L)) (N (o119 P) (N (o183 P) (N (o320 P) L L) L) (N (o253 P) L L))))) (N (o2 P) (N (o12 P) (N (o28 P) (N (o65 P) (N (o131 P) (N (o265 P) L L) L) (N (o198 P) L L)) (N (o99 P) (N (o163 P) (N (o300 P) L L) L) (N (o233 P) L L))) (N (o47 P) (N (o81 P) (N (o147 P) (N (o284 P) L L) L) (N (o214 P) L L)) (N (o115 P) (N (o179 P) (N (o316 P) L L) L) (N (o249 P) L L)))) (N (o20 P) (N (o39 P) (N (o73 P) (N (o139 P) (N (o273 P) L L) L) (N (o206 P) L L)) (N (o107 P) (N (o171 P) (N (o308 P) L L) L) (N (o241 P) L L))) (N (o57 P) (N (o89 P) (N (o155 P) (N (o292 P) L L) L) (N (o222 P) L L)) (N (o123 P) (N (o190 P) L L) (N (o257 P) L L))))))) (N (boot_o_2 P) (N (boot_o_4 P) (N (boot_o_8 P) (N (o7 P) (N (o23 P) (N (o60 P) (N (o126 P) (N (o260 P) L L) L) (N (o193 P) L L)) (N (o92 P) (N (o158 P) (N (o295 P) L L) L) (N (o225 P) L L))) (N (o42 P) (N (o76 P) (N (o142 P) (N (o276 P) L L) L) (N (o209 P) L L)) (N (o110 P) (N (o174 P) (N (o311 P) L L) L) (N (o244 P) L L)))) (N (o15 P) (N (o31 P) (N (o68 P) (N (o134 P) (N (o268 P) L L) L) (N (o201 P) L L)) (N (o102 P) (N (o166 P) (N (o303 P) L L) L) (N (o236 P) L L))) (N (o52 P) (N (o84 P) (N (o150 P) (N (o287 P) L L) L) (N (o217 P) L L)) (N (o118 P) (N (o182 P) (N (o319 P) L L) L) (N (o252 P) L L))))) (N (o282 P) (N (o11 P) (N (o27 P) (N (o64 P) (N (o130 P) (N (o264 P) L L) L) (N (o197 P) L L)) (N (o98 P) (N (o162 P) (N (o299 P) L L) L) (N (o229 P) L L))) (N (o46 P) (N (o80 P) (N (o146 P) (N (o280 P) L L) L) (N (o213 P) L L)) (N (o114 P) (N (o178 P) (N (o315 P) L L) L) (N (o248 P) L L)))) (N (o19 P) (N (o38 P) (N (o72 P) (N (o138 P) (N (o272 P) L L) L) (N (o205 P) L L)) (N (o106 P) (N (o170 P) (N (o307 P) L L) L) (N (o240 P) L L))) (N (o56 P) (N (o88 P) (N (o154 P) (N (o291 P) L L) L) (N (o221 P) L L)) (N (o122 P) (N (o189 P) (N (o323 P) L L) L) (N (o256 P) L L)))))) (N (boot_o_6 P) (N (boot_o_10 P) (N (o9 P) (N (o25 P) (N (o62 P) (N (o128 P) (N (o262 P) L L) L) (N (o195 P) L L)) (N (o96 P) (N (o160 P) (N (o297 P) L L) L) (N (o227 P) L L))) (N (o44 P) (N (o78 P) (N (o144 P) (N (o278 P) L L) L) (N (o211 P) L L)) (N (o112 P) (N (o176 P) (N (o313 P) L L) L) (N (o246 P) L L)))) (N (o17 P) (N (o33 P) (N (o70 P) (N (o136 P) (N (o270 P) L L) L) (N (o203 P) L L)) (N (o104 P) (N (o168 P) (N (o305 P) L L) L) (N (o238 P) L L))) (N (o54 P) (N (o86 P) (N (o152 P) (N (o289 P) L L) L) (N (o219 P) L L)) (N (o120 P) (N (o184 P) (N (o321 P) L L) L) (N (o254 P) L L))))) (N (o3 P) (N (o13 P) (N (o29 P) (N (o66 P) (N (o132 P) (N (o266 P) L L) L) (N (o199 P) L L)) (N (o100 P) (N (o164 P) (N (o301 P) L L) L) (N (o234 P) L L))) (N (o48 P) (N (o82 P) (N (o148 P) (N (o285 P) L L) L) (N (o215 P) L L)) (N (o116 P) (N (o180 P) (N (o317 P) L L) L) (N (o250 P) L L)))) (N (o21 P) (N (o40 P) (N (o74 P) (N (o140 P) (N (o274 P) L L) L) (N (o207 P) L L)) (N (o108 P) (N (o172 P) (N (o309 P) L L) L) (N (o242 P) L L))) (N (o58 P) (N (o90 P) (N (o156 P) (N (o293 P) L L) L) (N (o223 P) L L)) (N (o124 P) (N (o191 P) L L) (N (o258 P) L L))))))))
theorem r6 (w : World) : (fun os : OsState => PySem.W.Fast.tw10110043849684766642 PySem.W.Fast.tw14364793385576792824 pw w 11 (some (.ref 6)) 1 376 ⟨t6 w.params, 277, {}, ⟨[]⟩, {}, 556, os⟩ (piecesOf (sl 10 3) env0 (.body B0 env0) ⟨97, 0, 116, 17⟩ [topFrame ⟨0, 0, 0, 0⟩])) = fun os => some (Flow.next, ⟨t7 w.params, 317, {}, ⟨[]⟩, {}, 616, os⟩, (.body B0 env0), ⟨132, 0, 139, 26⟩) := by
  kernel_rfl
noncomputable def o324 (P : Params) : Obj := ⟨Value.type "dict", Option.none , Data.dict #[eS P "__name__" 165 (Value.str "law_tg0038_02" 604), eS P "__doc__" 166 Value.none, eS P "__package__" 167 Value.none, eS P "__loader__" 168 (Value.builtin "__main__.__loader__#opaque"), eS P "__spec__" 169 Value.none, eS P "__annotations__" 170 (Value.ref 6), eS P "__builtins__" 171 (Value.ref 4), eS P "__file__" 173 (Value.str "/claim/cut.py" 172), eS P "__cached__" 174 Value.none, eS P "_wall" 193 (Value.ref 21), eS P "PressError" 223 (Value.ref 39), eS P "BadArgument" 239 (Value.ref 52), eS P "NOWHERE" 244 (Value.int (-1) 243), eS P "PlaceRow" 301 (Value.ref 92), eS P "Matcher" 429 (Value.ref 183), eS P "Finder" 485 (Value.ref 226), eS P "TreeFinder" 555 (Value.ref 274), eS P "LayeredFinder" 603 (Value.ref 307), eS P "_law_box" 615 (Value.ref 316), eS P "_law_take" 624 (Value.ref 323), eS P "_law_word" 630 (Value.ref 328), eS P "_law_text" 644 (Value.ref 335), eS P "_law_meets" 654 (Value.ref 342), eS P "_law_local" 664 (Value.ref 349), eS P "_law_period" 673 (Value.ref 356), eS P "_law_end" 683 (Value.ref 363), eS P "_law_critical" 689 (Value.ref 368), eS P "_law_own" 702 (Value.ref 375), eS P "law" 708 (Value.ref 380)] 29, #[]⟩
noncomputable def o325 (P : Params) : Obj := ⟨Value.none, Option.none , Data.fields #[Value.int 1 0, Value.int 0 0, Value.ref 20, Value.int 5 0, Value.int 0 0, Value.ref 27, Value.int 10 0, Value.int 0 0, Value.ref 48, Value.int 14 0, Value.int 0 0, Value.ref 60, Value.int 32 0, Value.int 0 0, Value.ref 102, Value.int 83 0, Value.int 0 0, Value.ref 193, Value.int 97 0, Value.int 0 0, Value.ref 234, Value.int 117 0, Value.int 0 0, Value.ref 282, Value.int 132 0, Value.int 0 0, Value.ref 315, Value.int 140 0, Value.int 0 0, Value.ref 322, Value.int 147 0, Value.int 0 0, Value.ref 327, Value.int 150 0, Value.int 0 0, Value.ref 334, Value.int 165 0, Value.int 0 0, Value.ref 341, Value.int 169 0, Value.int 0 0, Value.ref 348, Value.int 174 0, Value.int 0 0, Value.ref 355, Value.int 179 0, Value.int 0 0, Value.ref 362, Value.int 188 0, Value.int 0 0, Value.ref 367, Value.int 191 0, Value.int 0 0, Value.ref 374, Value.int 198 0, Value.int 0 0, Value.ref 379], #[]⟩
noncomputable def o326 (P : Params) : Obj := ⟨Value.type "tuple", Option.none , Data.seq #[] 0, #[]⟩
noncomputable def o327 (P : Params) : Obj := ⟨Value.none, Option.none , Data.fields #[], #[]⟩
noncomputable def o328 (P : Params) : Obj := ⟨Value.type "tuple", Option.none , Data.seq #[Value.str "box" 619, Value.str "many" 620, Value.str "digit" 621] 0, #[]⟩
noncomputable def o329 (P : Params) : Obj := ⟨Value.type "tuple", Option.none , Data.seq #[] 0, #[]⟩
noncomputable def o330 (P : Params) : Obj := ⟨Value.none, Option.none , fD "_law_take" "_law_take" (pT 13) 0 [] Value.none Value.none Value.none Value.none (Option.none ) Value.none Value.none 0, #[]⟩
noncomputable def o331 (P : Params) : Obj := ⟨Value.type "code", Option.none , Data.fields #[Value.str "_law_take" 616, Value.str "_law_take" 617, Value.str "/claim/cut.py" 618, Value.int 140 0, Value.int 2 0, Value.int 0 0, Value.int 0 0, Value.int 3 0, Value.ref 317, Value.bool true, Value.int 181 0, Value.ref 318, Value.none, Value.ref 319, Value.ref 320, Value.ref 321, Value.int 622 0, Value.int 140 0, Value.str "/claim/cut.py" 623], #[]⟩
noncomputable def o332 (P : Params) : Obj := ⟨Value.type "function", Option.none , fD "_law_take" "_law_take" (pT 13) 3 [] Value.none Value.none Value.none (Value.str "law_tg0038_02" 604) (Option.none ) (Value.ref 322) Value.none 0, #[]⟩
noncomputable def o333 (P : Params) : Obj := ⟨Value.type "tuple", Option.none , Data.seq #[] 0, #[]⟩
noncomputable def o334 (P : Params) : Obj := ⟨Value.none, Option.none , Data.fields #[], #[]⟩
noncomputable def o335 (P : Params) : Obj := ⟨Value.none, Option.none , fD "_law_word" "_law_word" (pT 14) 0 [] Value.none Value.none Value.none Value.none (Option.none ) Value.none Value.none 0, #[]⟩
noncomputable def o336 (P : Params) : Obj := ⟨Value.type "code", Option.none , Data.fields #[Value.str "_law_word" 625, Value.str "_law_word" 626, Value.str "/claim/cut.py" 627, Value.int 147 0, Value.int 2 0, Value.int 0 0, Value.int 0 0, Value.int 3 0, Value.ref 324, Value.bool true, Value.int 181 0, Value.ref 325, Value.none, Value.none, Value.none, Value.ref 326, Value.int 628 0, Value.int 147 0, Value.str "/claim/cut.py" 629], #[]⟩
noncomputable def o337 (P : Params) : Obj := ⟨Value.type "function", Option.none , fD "_law_word" "_law_word" (pT 14) 3 [] Value.none Value.none Value.none (Value.str "law_tg0038_02" 604) (Option.none ) (Value.ref 327) Value.none 0, #[]⟩
noncomputable def o338 (P : Params) : Obj := ⟨Value.type "tuple", Option.none , Data.seq #[] 0, #[]⟩
noncomputable def o339 (P : Params) : Obj := ⟨Value.none, Option.none , Data.fields #[], #[]⟩
noncomputable def o340 (P : Params) : Obj := ⟨Value.type "tuple", Option.none , Data.seq #[Value.str "box" 634, Value.str "most" 635, Value.str "way" 636, Value.str "size" 637, Value.str "text" 638, Value.str "last" 639, Value.str "spot" 640, Value.str "letter" 641] 0, #[]⟩
noncomputable def o341 (P : Params) : Obj := ⟨Value.type "tuple", Option.none , Data.seq #[] 0, #[]⟩
noncomputable def o342 (P : Params) : Obj := ⟨Value.none, Option.none , fD "_law_text" "_law_text" (pT 15) 0 [] Value.none Value.none Value.none Value.none (Option.none ) Value.none Value.none 0, #[]⟩
noncomputable def o343 (P : Params) : Obj := ⟨Value.type "code", Option.none , Data.fields #[Value.str "_law_text" 631, Value.str "_law_text" 632, Value.str "/claim/cut.py" 633, Value.int 150 0, Value.int 2 0, Value.int 0 0, Value.int 0 0, Value.int 3 0, Value.ref 329, Value.bool true, Value.int 181 0, Value.ref 330, Value.none, Value.ref 331, Value.ref 332, Value.ref 333, Value.int 642 0, Value.int 150 0, Value.str "/claim/cut.py" 643], #[]⟩
noncomputable def o344 (P : Params) : Obj := ⟨Value.type "function", Option.none , fD "_law_text" "_law_text" (pT 15) 3 [] Value.none Value.none Value.none (Value.str "law_tg0038_02" 604) (Option.none ) (Value.ref 334) Value.none 0, #[]⟩
noncomputable def o345 (P : Params) : Obj := ⟨Value.type "tuple", Option.none , Data.seq #[] 0, #[]⟩
noncomputable def o346 (P : Params) : Obj := ⟨Value.none, Option.none , Data.fields #[], #[]⟩
noncomputable def o347 (P : Params) : Obj := ⟨Value.type "tuple", Option.none , Data.seq #[Value.str "finder" 648, Value.str "place" 649, Value.str "far" 650, Value.str "size" 651] 0, #[]⟩
noncomputable def o348 (P : Params) : Obj := ⟨Value.type "tuple", Option.none , Data.seq #[] 0, #[]⟩
noncomputable def o349 (P : Params) : Obj := ⟨Value.none, Option.none , fD "_law_meets" "_law_meets" (pT 16) 0 [] Value.none Value.none Value.none Value.none (Option.none ) Value.none Value.none 0, #[]⟩
noncomputable def o350 (P : Params) : Obj := ⟨Value.type "code", Option.none , Data.fields #[Value.str "_law_meets" 645, Value.str "_law_meets" 646, Value.str "/claim/cut.py" 647, Value.int 165 0, Value.int 4 0, Value.int 0 0, Value.int 0 0, Value.int 3 0, Value.ref 336, Value.bool true, Value.int 181 0, Value.ref 337, Value.none, Value.ref 338, Value.ref 339, Value.ref 340, Value.int 652 0, Value.int 165 0, Value.str "/claim/cut.py" 653], #[]⟩
noncomputable def o351 (P : Params) : Obj := ⟨Value.type "function", Option.none , fD "_law_meets" "_law_meets" (pT 16) 3 [] Value.none Value.none Value.none (Value.str "law_tg0038_02" 604) (Option.none ) (Value.ref 341) Value.none 0, #[]⟩
noncomputable def o352 (P : Params) : Obj := ⟨Value.type "tuple", Option.none , Data.seq #[] 0, #[]⟩
noncomputable def o353 (P : Params) : Obj := ⟨Value.none, Option.none , Data.fields #[], #[]⟩
noncomputable def o354 (P : Params) : Obj := ⟨Value.type "tuple", Option.none , Data.seq #[Value.str "finder" 658, Value.str "place" 659, Value.str "size" 660, Value.str "far" 661] 0, #[]⟩
noncomputable def o355 (P : Params) : Obj := ⟨Value.type "tuple", Option.none , Data.seq #[] 0, #[]⟩
noncomputable def o356 (P : Params) : Obj := ⟨Value.none, Option.none , fD "_law_local" "_law_local" (pT 17) 0 [] Value.none Value.none Value.none Value.none (Option.none ) Value.none Value.none 0, #[]⟩
noncomputable def o357 (P : Params) : Obj := ⟨Value.type "code", Option.none , Data.fields #[Value.str "_law_local" 655, Value.str "_law_local" 656, Value.str "/claim/cut.py" 657, Value.int 169 0, Value.int 3 0, Value.int 0 0, Value.int 0 0, Value.int 3 0, Value.ref 343, Value.bool true, Value.int 181 0, Value.ref 344, Value.none, Value.ref 345, Value.ref 346, Value.ref 347, Value.int 662 0, Value.int 169 0, Value.str "/claim/cut.py" 663], #[]⟩
noncomputable def o358 (P : Params) : Obj := ⟨Value.type "function", Option.none , fD "_law_local" "_law_local" (pT 17) 3 [] Value.none Value.none Value.none (Value.str "law_tg0038_02" 604) (Option.none ) (Value.ref 348) Value.none 0, #[]⟩
noncomputable def o359 (P : Params) : Obj := ⟨Value.type "tuple", Option.none , Data.seq #[] 0, #[]⟩
noncomputable def o360 (P : Params) : Obj := ⟨Value.none, Option.none , Data.fields #[], #[]⟩
noncomputable def o361 (P : Params) : Obj := ⟨Value.type "tuple", Option.none , Data.seq #[Value.str "finder" 668, Value.str "size" 669, Value.str "far" 670] 0, #[]⟩
noncomputable def o362 (P : Params) : Obj := ⟨Value.type "tuple", Option.none , Data.seq #[] 0, #[]⟩
noncomputable def o363 (P : Params) : Obj := ⟨Value.none, Option.none , fD "_law_period" "_law_period" (pT 18) 0 [] Value.none Value.none Value.none Value.none (Option.none ) Value.none Value.none 0, #[]⟩
noncomputable def o364 (P : Params) : Obj := ⟨Value.type "code", Option.none , Data.fields #[Value.str "_law_period" 665, Value.str "_law_period" 666, Value.str "/claim/cut.py" 667, Value.int 174 0, Value.int 2 0, Value.int 0 0, Value.int 0 0, Value.int 3 0, Value.ref 350, Value.bool true, Value.int 181 0, Value.ref 351, Value.none, Value.ref 352, Value.ref 353, Value.ref 354, Value.int 671 0, Value.int 174 0, Value.str "/claim/cut.py" 672], #[]⟩
noncomputable def o365 (P : Params) : Obj := ⟨Value.type "function", Option.none , fD "_law_period" "_law_period" (pT 18) 3 [] Value.none Value.none Value.none (Value.str "law_tg0038_02" 604) (Option.none ) (Value.ref 355) Value.none 0, #[]⟩
noncomputable def o366 (P : Params) : Obj := ⟨Value.type "tuple", Option.none , Data.seq #[] 0, #[]⟩
noncomputable def o367 (P : Params) : Obj := ⟨Value.none, Option.none , Data.fields #[], #[]⟩
noncomputable def o368 (P : Params) : Obj := ⟨Value.type "tuple", Option.none , Data.seq #[Value.str "row" 677, Value.str "found" 678, Value.str "place" 679, Value.str "count" 680] 0, #[]⟩
noncomputable def o369 (P : Params) : Obj := ⟨Value.type "tuple", Option.none , Data.seq #[] 0, #[]⟩
noncomputable def o370 (P : Params) : Obj := ⟨Value.none, Option.none , fD "_law_end" "_law_end" (pT 19) 0 [] Value.none Value.none Value.none Value.none (Option.none ) Value.none Value.none 0, #[]⟩
noncomputable def o371 (P : Params) : Obj := ⟨Value.type "code", Option.none , Data.fields #[Value.str "_law_end" 674, Value.str "_law_end" 675, Value.str "/claim/cut.py" 676, Value.int 179 0, Value.int 1 0, Value.int 0 0, Value.int 0 0, Value.int 3 0, Value.ref 357, Value.bool true, Value.int 181 0, Value.ref 358, Value.none, Value.ref 359, Value.ref 360, Value.ref 361, Value.int 681 0, Value.int 179 0, Value.str "/claim/cut.py" 682], #[]⟩
noncomputable def o372 (P : Params) : Obj := ⟨Value.type "function", Option.none , fD "_law_end" "_law_end" (pT 19) 3 [] Value.none Value.none Value.none (Value.str "law_tg0038_02" 604) (Option.none ) (Value.ref 362) Value.none 0, #[]⟩
noncomputable def o373 (P : Params) : Obj := ⟨Value.type "tuple", Option.none , Data.seq #[] 0, #[]⟩
noncomputable def o374 (P : Params) : Obj := ⟨Value.none, Option.none , Data.fields #[], #[]⟩
noncomputable def o375 (P : Params) : Obj := ⟨Value.none, Option.none , fD "_law_critical" "_law_critical" (pT 20) 0 [] Value.none Value.none Value.none Value.none (Option.none ) Value.none Value.none 0, #[]⟩
noncomputable def o376 (P : Params) : Obj := ⟨Value.type "code", Option.none , Data.fields #[Value.str "_law_critical" 684, Value.str "_law_critical" 685, Value.str "/claim/cut.py" 686, Value.int 188 0, Value.int 3 0, Value.int 0 0, Value.int 0 0, Value.int 3 0, Value.ref 364, Value.bool true, Value.int 181 0, Value.ref 365, Value.none, Value.none, Value.none, Value.ref 366, Value.int 687 0, Value.int 188 0, Value.str "/claim/cut.py" 688], #[]⟩
noncomputable def o377 (P : Params) : Obj := ⟨Value.type "function", Option.none , fD "_law_critical" "_law_critical" (pT 20) 3 [] Value.none Value.none Value.none (Value.str "law_tg0038_02" 604) (Option.none ) (Value.ref 367) Value.none 0, #[]⟩
noncomputable def o378 (P : Params) : Obj := ⟨Value.type "tuple", Option.none , Data.seq #[] 0, #[]⟩
noncomputable def o379 (P : Params) : Obj := ⟨Value.none, Option.none , Data.fields #[], #[]⟩
noncomputable def o380 (P : Params) : Obj := ⟨Value.type "tuple", Option.none , Data.seq #[Value.str "text" 693, Value.str "place" 694, Value.str "whole" 695, Value.str "size" 696, Value.str "far" 697, Value.str "low" 698, Value.str "high" 699] 0, #[]⟩
noncomputable def o381 (P : Params) : Obj := ⟨Value.type "tuple", Option.none , Data.seq #[] 0, #[]⟩
noncomputable def o382 (P : Params) : Obj := ⟨Value.none, Option.none , fD "_law_own" "_law_own" (pT 21) 0 [] Value.none Value.none Value.none Value.none (Option.none ) Value.none Value.none 0, #[]⟩
noncomputable def o383 (P : Params) : Obj := ⟨Value.type "code", Option.none , Data.fields #[Value.str "_law_own" 690, Value.str "_law_own" 691, Value.str "/claim/cut.py" 692, Value.int 191 0, Value.int 3 0, Value.int 0 0, Value.int 0 0, Value.int 3 0, Value.ref 369, Value.bool true, Value.int 181 0, Value.ref 370, Value.none, Value.ref 371, Value.ref 372, Value.ref 373, Value.int 700 0, Value.int 191 0, Value.str "/claim/cut.py" 701], #[]⟩
noncomputable def o384 (P : Params) : Obj := ⟨Value.type "function", Option.none , fD "_law_own" "_law_own" (pT 21) 3 [] Value.none Value.none Value.none (Value.str "law_tg0038_02" 604) (Option.none ) (Value.ref 374) Value.none 0, #[]⟩
noncomputable def o385 (P : Params) : Obj := ⟨Value.type "tuple", Option.none , Data.seq #[] 0, #[]⟩
noncomputable def o386 (P : Params) : Obj := ⟨Value.none, Option.none , Data.fields #[], #[]⟩
noncomputable def o387 (P : Params) : Obj := ⟨Value.none, Option.none , fD "law" "law" (pT 22) 0 [] Value.none Value.none Value.none Value.none (Option.none ) Value.none Value.none 0, #[]⟩
noncomputable def o388 (P : Params) : Obj := ⟨Value.type "code", Option.none , Data.fields #[Value.str "law" 703, Value.str "law" 704, Value.str "/claim/cut.py" 705, Value.int 198 0, Value.int 1 0, Value.int 0 0, Value.int 0 0, Value.int 3 0, Value.ref 376, Value.bool true, Value.int 181 0, Value.ref 377, Value.none, Value.none, Value.none, Value.ref 378, Value.int 706 0, Value.int 198 0, Value.str "/claim/cut.py" 707], #[]⟩
noncomputable def o389 (P : Params) : Obj := ⟨Value.type "function", Option.none , fD "law" "law" (pT 22) 3 [] Value.none Value.none Value.none (Value.str "law_tg0038_02" 604) (Option.none ) (Value.ref 379) Value.none 0, #[]⟩
noncomputable def t8 (P : Params) : BT := (N (boot_o_0 P) (N (boot_o_1 P) (N (o324 P) (N (boot_o_7 P) (N (o6 P) (N (o22 P) (N (o59 P) (N (o125 P) (N (o259 P) L L) L) (N (o192 P) (N (o328 P) L L) L)) (N (o91 P) (N (o157 P) (N (o294 P) L L) L) (N (o224 P) (N (o360 P) L L) L))) (N (o41 P) (N (o75 P) (N (o141 P) (N (o275 P) L L) L) (N (o208 P) (N (o344 P) L L) L)) (N (o109 P) (N (o173 P) (N (o310 P) L L) L) (N (o243 P) (N (o376 P) L L) L)))) (N (o14 P) (N (o36 P) (N (o67 P) (N (o133 P) (N (o267 P) L L) L) (N (o200 P) (N (o336 P) L L) L)) (N (o101 P) (N (o165 P) (N (o302 P) L L) L) (N (o235 P) (N (o368 P) L L) L))) (N (o51 P) (N (o83 P) (N (o149 P) (N (o286 P) L L) L) (N (o216 P) (N (o352 P) L L) L)) (N (o117 P) (N (o283 P) (N (o318 P) L L) L) (N (o251 P) (N (o384 P) L L) L))))) (N (o0 P) (N (o10 P) (N (o26 P) (N (o63 P) (N (o129 P) (N (o263 P) L L) L) (N (o196 P) (N (o332 P) L L) L)) (N (o97 P) (N (o161 P) (N (o298 P) L L) L) (N (o228 P) (N (o364 P) L L) L))) (N (o45 P) (N (o79 P) (N (o145 P) (N (o279 P) L L) L) (N (o212 P) (N (o348 P) L L) L)) (N (o113 P) (N (o177 P) (N (o314 P) L L) L) (N (o247 P) (N (o380 P) L L) L)))) (N (o18 P) (N (o37 P) (N (o71 P) (N (o137 P) (N (o271 P) L L) L) (N (o204 P) (N (o340 P) L L) L)) (N (o105 P) (N (o169 P) (N (o306 P) L L) L) (N (o239 P) (N (o372 P) L L) L))) (N (o55 P) (N (o87 P) (N (o153 P) (N (o290 P) L L) L) (N (o220 P) (N (o356 P) L L) L)) (N (o121 P) (N (o185 P) (N (o322 P) L L) L) (N (o255 P) (N (o388 P) L L) L)))))) (N (boot_o_5 P) (N (boot_o_9 P) (N (o8 P) (N (o24 P) (N (o61 P) (N (o127 P) (N (o261 P) L L) L) (N (o194 P) (N (o330 P) L L) L)) (N (o95 P) (N (o159 P) (N (o296 P) L L) L) (N (o226 P) (N (o362 P) L L) L))) (N (o43 P) (N (o77 P) (N (o143 P) (N (o277 P) L L) L) (N (o210 P) (N (o346 P) L L) L)) (N (o111 P) (N (o175 P) (N (o312 P) L L) L) (N (o245 P) (N (o378 P) L L) L)))) (N (o16 P) (N (o32 P) (N (o69 P) (N (o135 P) (N (o269 P) L L) L) (N (o202 P) (N (o338 P) L L) L)) (N (o103 P) (N (o167 P) (N (o304 P) L L) L) (N (o237 P) (N (o370 P) L L) L))) (N (o53 P) (N (o85 P) (N (o151 P) (N (o288 P) L L) L) (N (o218 P) (N (o354 P) L L) L)) (N (o119 P) (N (o183 P) (N (o320 P) L L) L) (N (o253 P) (N (o386 P) L L) L))))) (N (o2 P) (N (o12 P) (N (o28 P) (N (o65 P) (N (o131 P) (N (o265 P) L L) L) (N (o198 P) (N (o334 P) L L) L)) (N (o99 P) (N (o163 P) (N (o300 P) L L) L) (N (o233 P) (N (o366 P) L L) L))) (N (o47 P) (N (o81 P) (N (o147 P) (N (o284 P) L L) L) (N (o214 P) (N (o350 P) L L) L)) (N (o115 P) (N (o179 P) (N (o316 P) L L) L) (N (o249 P) (N (o382 P) L L) L)))) (N (o20 P) (N (o39 P) (N (o73 P) (N (o139 P) (N (o273 P) L L) L) (N (o206 P) (N (o342 P) L L) L)) (N (o107 P) (N (o171 P) (N (o308 P) L L) L) (N (o241 P) (N (o374 P) L L) L))) (N (o57 P) (N (o89 P) (N (o155 P) (N (o292 P) L L) L) (N (o222 P) (N (o358 P) L L) L)) (N (o123 P) (N (o190 P) (N (o326 P) L L) L) (N (o257 P) L L))))))) (N (boot_o_2 P) (N (boot_o_4 P) (N (boot_o_8 P) (N (o7 P) (N (o23 P) (N (o60 P) (N (o126 P) (N (o260 P) L L) L) (N (o193 P) (N (o329 P) L L) L)) (N (o92 P) (N (o158 P) (N (o295 P) L L) L) (N (o225 P) (N (o361 P) L L) L))) (N (o42 P) (N (o76 P) (N (o142 P) (N (o276 P) L L) L) (N (o209 P) (N (o345 P) L L) L)) (N (o110 P) (N (o174 P) (N (o311 P) L L) L) (N (o244 P) (N (o377 P) L L) L)))) (N (o15 P) (N (o31 P) (N (o68 P) (N (o134 P) (N (o268 P) L L) L) (N (o201 P) (N (o337 P) L L) L)) (N (o102 P) (N (o166 P) (N (o303 P) L L) L) (N (o236 P) (N (o369 P) L L) L))) (N (o52 P) (N (o84 P) (N (o150 P) (N (o287 P) L L) L) (N (o217 P) (N (o353 P) L L) L)) (N (o118 P) (N (o182 P) (N (o319 P) L L) L) (N (o252 P) (N (o385 P) L L) L))))) (N (o325 P) (N (o11 P) (N (o27 P) (N (o64 P) (N (o130 P) (N (o264 P) L L) L) (N (o197 P) (N (o333 P) L L) L)) (N (o98 P) (N (o162 P) (N (o299 P) L L) L) (N (o229 P) (N (o365 P) L L) L))) (N (o46 P) (N (o80 P) (N (o146 P) (N (o280 P) L L) L) (N (o213 P) (N (o349 P) L L) L)) (N (o114 P) (N (o178 P) (N (o315 P) L L) L) (N (o248 P) (N (o381 P) L L) L)))) (N (o19 P) (N (o38 P) (N (o72 P) (N (o138 P) (N (o272 P) L L) L) (N (o205 P) (N (o341 P) L L) L)) (N (o106 P) (N (o170 P) (N (o307 P) L L) L) (N (o240 P) (N (o373 P) L L) L))) (N (o56 P) (N (o88 P) (N (o154 P) (N (o291 P) L L) L) (N (o221 P) (N (o357 P) L L) L)) (N (o122 P) (N (o189 P) (N (o323 P) L L) L) (N (o256 P) (N (o389 P) L L) L)))))) (N (boot_o_6 P) (N (boot_o_10 P) (N (o9 P) (N (o25 P) (N (o62 P) (N (o128 P) (N (o262 P) L L) L) (N (o195 P) (N (o331 P) L L) L)) (N (o96 P) (N (o160 P) (N (o297 P) L L) L) (N (o227 P) (N (o363 P) L L) L))) (N (o44 P) (N (o78 P) (N (o144 P) (N (o278 P) L L) L) (N (o211 P) (N (o347 P) L L) L)) (N (o112 P) (N (o176 P) (N (o313 P) L L) L) (N (o246 P) (N (o379 P) L L) L)))) (N (o17 P) (N (o33 P) (N (o70 P) (N (o136 P) (N (o270 P) L L) L) (N (o203 P) (N (o339 P) L L) L)) (N (o104 P) (N (o168 P) (N (o305 P) L L) L) (N (o238 P) (N (o371 P) L L) L))) (N (o54 P) (N (o86 P) (N (o152 P) (N (o289 P) L L) L) (N (o219 P) (N (o355 P) L L) L)) (N (o120 P) (N (o184 P) (N (o321 P) L L) L) (N (o254 P) (N (o387 P) L L) L))))) (N (o3 P) (N (o13 P) (N (o29 P) (N (o66 P) (N (o132 P) (N (o266 P) L L) L) (N (o199 P) (N (o335 P) L L) L)) (N (o100 P) (N (o164 P) (N (o301 P) L L) L) (N (o234 P) (N (o367 P) L L) L))) (N (o48 P) (N (o82 P) (N (o148 P) (N (o285 P) L L) L) (N (o215 P) (N (o351 P) L L) L)) (N (o116 P) (N (o180 P) (N (o317 P) L L) L) (N (o250 P) (N (o383 P) L L) L)))) (N (o21 P) (N (o40 P) (N (o74 P) (N (o140 P) (N (o274 P) L L) L) (N (o207 P) (N (o343 P) L L) L)) (N (o108 P) (N (o172 P) (N (o309 P) L L) L) (N (o242 P) (N (o375 P) L L) L))) (N (o58 P) (N (o90 P) (N (o156 P) (N (o293 P) L L) L) (N (o223 P) (N (o359 P) L L) L)) (N (o124 P) (N (o191 P) (N (o327 P) L L) L) (N (o258 P) L L))))))))
theorem r7 (w : World) : (fun os : OsState => PySem.W.Fast.tw10110043849684766642 PySem.W.Fast.tw14364793385576792824 pw w 11 (some (.ref 6)) 1 308 ⟨t7 w.params, 317, {}, ⟨[]⟩, {}, 616, os⟩ (piecesOf (sl 13 10) env0 (.body B0 env0) ⟨132, 0, 139, 26⟩ [topFrame ⟨0, 0, 0, 0⟩])) = fun os => some (Flow.next, ⟨t8 w.params, 381, {}, ⟨[]⟩, {}, 709, os⟩, (.body B0 env0), ⟨198, 0, 210, 100⟩) := by
  kernel_rfl
noncomputable def h1 (P : Params) : Heap := ⟨⟨[boot_o_0 P, boot_o_1 P, boot_o_2 P, o324 P, boot_o_4 P, boot_o_5 P, boot_o_6 P, boot_o_7 P, boot_o_8 P, boot_o_9 P, boot_o_10 P, o0 P, o325 P, o2 P, o3 P, o6 P, o7 P, o8 P, o9 P, o10 P, o11 P, o12 P, o13 P, o14 P, o15 P, o16 P, o17 P, o18 P, o19 P, o20 P, o21 P, o22 P, o23 P, o24 P, o25 P, o26 P, o27 P, o28 P, o29 P, o36 P, o31 P, o32 P, o33 P, o37 P, o38 P, o39 P, o40 P, o41 P, o42 P, o43 P, o44 P, o45 P, o46 P, o47 P, o48 P, o51 P, o52 P, o53 P, o54 P, o55 P, o56 P, o57 P, o58 P, o59 P, o60 P, o61 P, o62 P, o63 P, o64 P, o65 P, o66 P, o67 P, o68 P, o69 P, o70 P, o71 P, o72 P, o73 P, o74 P, o75 P, o76 P, o77 P, o78 P, o79 P, o80 P, o81 P, o82 P, o83 P, o84 P, o85 P, o86 P, o87 P, o88 P, o89 P, o90 P, o91 P, o92 P, o95 P, o96 P, o97 P, o98 P, o99 P, o100 P, o101 P, o102 P, o103 P, o104 P, o105 P, o106 P, o107 P, o108 P, o109 P, o110 P, o111 P, o112 P, o113 P, o114 P, o115 P, o116 P, o117 P, o118 P, o119 P, o120 P, o121 P, o122 P, o123 P, o124 P, o125 P, o126 P, o127 P, o128 P, o129 P, o130 P, o131 P, o132 P, o133 P, o134 P, o135 P, o136 P, o137 P, o138 P, o139 P, o140 P, o141 P, o142 P, o143 P, o144 P, o145 P, o146 P, o147 P, o148 P, o149 P, o150 P, o151 P, o152 P, o153 P, o154 P, o155 P, o156 P, o157 P, o158 P, o159 P, o160 P, o161 P, o162 P, o163 P, o164 P, o165 P, o166 P, o167 P, o168 P, o169 P, o170 P, o171 P, o172 P, o173 P, o174 P, o175 P, o176 P, o177 P, o178 P, o179 P, o180 P, o283 P, o182 P, o183 P, o184 P, o185 P, o189 P, o190 P, o191 P, o192 P, o193 P, o194 P, o195 P, o196 P, o197 P, o198 P, o199 P, o200 P, o201 P, o202 P, o203 P, o204 P, o205 P, o206 P, o207 P, o208 P, o209 P, o210 P, o211 P, o212 P, o213 P, o214 P, o215 P, o216 P, o217 P, o218 P, o219 P, o220 P, o221 P, o222 P, o223 P, o224 P, o225 P, o226 P, o227 P, o228 P, o229 P, o233 P, o234 P, o235 P, o236 P, o237 P, o238 P, o239 P, o240 P, o241 P, o242 P, o243 P, o244 P, o245 P, o246 P, o247 P, o248 P, o249 P, o250 P, o251 P, o252 P, o253 P, o254 P, o255 P, o256 P, o257 P, o258 P, o259 P, o260 P, o261 P, o262 P, o263 P, o264 P, o265 P, o266 P, o267 P, o268 P, o269 P, o270 P, o271 P, o272 P, o273 P, o274 P, o275 P, o276 P, o277 P, o278 P, o279 P, o280 P, o284 P, o285 P, o286 P, o287 P, o288 P, o289 P, o290 P, o291 P, o292 P, o293 P, o294 P, o295 P, o296 P, o297 P, o298 P, o299 P, o300 P, o301 P, o302 P, o303 P, o304 P, o305 P, o306 P, o307 P, o308 P, o309 P, o310 P, o311 P, o312 P, o313 P, o314 P, o315 P, o316 P, o317 P, o318 P, o319 P, o320 P, o321 P, o322 P, o323 P, o326 P, o327 P, o328 P, o329 P, o330 P, o331 P, o332 P, o333 P, o334 P, o335 P, o336 P, o337 P, o338 P, o339 P, o340 P, o341 P, o342 P, o343 P, o344 P, o345 P, o346 P, o347 P, o348 P, o349 P, o350 P, o351 P, o352 P, o353 P, o354 P, o355 P, o356 P, o357 P, o358 P, o359 P, o360 P, o361 P, o362 P, o363 P, o364 P, o365 P, o366 P, o367 P, o368 P, o369 P, o370 P, o371 P, o372 P, o373 P, o374 P, o375 P, o376 P, o377 P, o378 P, o379 P, o380 P, o381 P, o382 P, o383 P, o384 P, o385 P, o386 P, o387 P, o388 P, o389 P]⟩, {}⟩
theorem fin0 (w : World) : (fun os : OsState => topRun treeTable pw w 11 (some (.ref 6)) 2 (SharedT.abs ⟨t8 w.params, 381, {}, ⟨[]⟩, {}, 709, os⟩) ⟨doneF .next, (.body B0 env0), ⟨198, 0, 210, 100⟩, [topFrame ⟨0, 0, 0, 0⟩]⟩) = fun os => some ⟨h1 w.params, ⟨[]⟩, {}, 709, os⟩ := by
  rewrite [PySem.W.Fast.te14082659384304107361, PySem.W.Fast.te14364793385576792824]
  kernel_rfl
theorem body_as : B0 = sl 0 3 ++ (sl 3 3 ++ (sl 6 1 ++ (sl 7 1 ++ (sl 8 1 ++ (sl 9 1 ++ (sl 10 3 ++ (sl 13 10 ++ ([])))))))) := by kernel_rfl
theorem run_all (w : World) (os : OsState) : topRun treeTable pw w 11 (some (.ref 6)) (12 + (1 + (259 + (237 + (323 + (562 + (350 + (388 + (376 + (308 + 2)))))))))) ⟨boot_heap w.params, ⟨[]⟩, boot_drawn, boot_toks, os⟩ (topStub pw) = some ⟨h1 w.params, ⟨[]⟩, {}, 709, os⟩ :=
  go_top (congrFun (pre0 w) os) (piece_block (congrFun (blk0 w) os) (as_list body_as (piece_app (seg_lift (congrFun (r0 w) os)) (piece_app (seg_lift (congrFun (r1 w) os)) (piece_app (seg_lift (congrFun (r2 w) os)) (piece_app (seg_lift (congrFun (r3 w) os)) (piece_app (seg_lift (congrFun (r4 w) os)) (piece_app (seg_lift (congrFun (r5 w) os)) (piece_app (seg_lift (congrFun (r6 w) os)) (piece_app (seg_lift (congrFun (r7 w) os)) (piece_nil (congrFun (fin0 w) os))))))))))))
noncomputable def vw : Program := view pw [0, 2, 3, 5, 6, 7, 8, 9, 10, 12, 13, 14, 15, 16, 17, 18, 19, 20, 21, 22]
abbrev lo : List Str := [Str.ofString "PressError", Str.ofString "Finder", Str.ofString "TreeFinder", Str.ofString "LayeredFinder"]
abbrev rr : RowW := PySem.Challenge.rw_tg0038_02.row.toRowW
noncomputable abbrev xt : Shared → Bool := fun s => xlAt vw [] s && recOk (RowW.records rr) s
theorem size0 (w : World) : ((boot_heap w.params).isNs mainGlobals && (Array.mk ([] : List GenState)).size == 0, (boot_heap w.params).objs.size, (boot_heap w.params).nsMap mainGlobals "__annotations__") = (true, 11, some (Value.ref 6)) := by
  rewrite [PySem.W.Fast.te8920871248978507458]
  kernel_rfl
theorem k1 (w : World) : (fun os : OsState => staticsOk (importedModules pw.main.body) (boot_heap w.params) (h1 w.params) && namesBound pw (h1 w.params) && gensDone ⟨h1 w.params, ⟨[]⟩, {}, 709, os⟩ && laidKept (boot_heap w.params) (h1 w.params)) = fun os => true := by
  rewrite [PySem.W.Fast.te5923862056798008813]
  kernel_rfl
theorem k2 (w : World) : (fun os : OsState => PyProof.Rows.seen ((recsOf vw).map (·.name)) (ownsOf vw) [] { (⟨h1 w.params, ⟨[]⟩, {}, 709, os⟩ : Shared) with gens := #[] }) = fun os => expectedOf vw := by
  rewrite [PySem.W.Fast.te5160383126252970620, PySem.W.Fast.te3399658132070893891, PySem.W.Fast.te5991557255702980513]
  kernel_rfl
theorem k3 (w : World) : (fun os : OsState => (h1 w.params).bltView) = fun os => bltViewBooted := by
  kernel_rfl
theorem k4 (w : World) : (fun os : OsState => (h1 w.params).keysOk (looseW vw lo) ((recsOf vw).map (·.name)) ((litsOf vw).map (·.1)) ((clssOf vw (looseW vw lo)).map (·.name)) && (h1 w.params).accountedOkI (importedModules pw.main.body) && (h1 w.params).isNs mainGlobals && (h1 w.params).isNs builtinsNs && tablesOk vw (h1 w.params) && xt ⟨h1 w.params, ⟨[]⟩, {}, 709, os⟩ && (if true then (⟨h1 w.params, ⟨[]⟩, {}, 709, os⟩ : Shared).gens.size == 0 else !leftWithCleanup (⟨h1 w.params, ⟨[]⟩, {}, 709, os⟩ : Shared).gens)) = fun os => true := by
  rewrite [PySem.W.Fast.te10880121769531294198, PySem.W.Fast.te821141287760084731, PySem.W.Fast.te3399658132070893891, PySem.W.Fast.te7409074990110511671, PySem.W.Fast.te13664370479719496447, PySem.W.Fast.te14722251495701143533, PySem.W.Fast.te5923862056798008813, PySem.W.Fast.te10994771534591457954]
  kernel_rfl
theorem k5 (w : World) : (fun os : OsState => tabsOk vw ⟨h1 w.params, ⟨[]⟩, {}, 709, os⟩) = fun os => true := by
  rewrite [PySem.W.Fast.te479339242167458305]
  kernel_rfl
theorem k6 (w : World) : (fun os : OsState => pinSeenD vw (drecsOf vw) ⟨h1 w.params, ⟨[]⟩, {}, 709, os⟩) = fun os => pinGoodD (drecsOf vw) := by
  rewrite [PySem.W.Fast.te16090120013241838585, PySem.W.Fast.te3247288618530077131]
  kernel_rfl
theorem k7 (w : World) : (fun os : OsState => plainSeenE vw (looseW vw lo) ⟨h1 w.params, ⟨[]⟩, {}, 709, os⟩) = fun os => plainGoodE vw (looseW vw lo) := by
  rewrite [PySem.W.Fast.te2386780881361962483, PySem.W.Fast.te821141287760084731]
  kernel_rfl
theorem k8 (w : World) : (fun os : OsState => plainSeenD vw lo ⟨h1 w.params, ⟨[]⟩, {}, 709, os⟩) = fun os => plainGoodD vw lo := by
  rewrite [PySem.W.Fast.te11698064438423848299]
  kernel_rfl
theorem k9 (w : World) : (fun os : OsState => wideSeen vw ⟨h1 w.params, ⟨[]⟩, {}, 709, os⟩) = fun os => wideGood vw := by
  rewrite [PySem.W.Fast.te7317090234206586261]
  kernel_rfl
theorem k10 (w : World) : (fun os : OsState => clsSeenW vw lo ⟨h1 w.params, ⟨[]⟩, {}, 709, os⟩) = fun os => clsGoodW vw lo := by
  rewrite [PySem.W.Fast.te7369524293546568484]
  kernel_rfl
theorem looks0 (H : Hook) (hH : ∀ (w : World) (os : OsState), H.obs ⟨h1 w.params, ⟨[]⟩, {}, 709, os⟩ = H.val w) (w : World) : (fun os : OsState => ((staticsOk (importedModules pw.main.body) (boot_heap w.params) (h1 w.params) && namesBound pw (h1 w.params) && gensDone ⟨h1 w.params, ⟨[]⟩, {}, 709, os⟩ && laidKept (boot_heap w.params) (h1 w.params)), openSeen vw lo (importedModules pw.main.body) xt true ⟨h1 w.params, ⟨[]⟩, {}, 709, os⟩, H.obs ⟨h1 w.params, ⟨[]⟩, {}, 709, os⟩)) = fun _ => (true, openGood vw lo, H.val w) :=
  funext fun os => looks_pair (congrFun (k1 w) os) (looks_pair (looks_pair (congrFun (k2 w) os) (looks_pair (congrFun (k3 w) os) (looks_pair (congrFun (k4 w) os) (looks_pair (congrFun (k5 w) os) (looks_pair (congrFun (k6 w) os) (looks_pair (congrFun (k7 w) os) (looks_pair (congrFun (k8 w) os) (looks_pair (congrFun (k9 w) os) (congrFun (k10 w) os))))))))) (hH w os))
theorem left (H : Hook) (hH : ∀ (w : World) (os : OsState), H.obs ⟨h1 w.params, ⟨[]⟩, {}, 709, os⟩ = H.val w) : LeftO pw vw lo xt H.obs H.val 5716 :=
  LeftO.of_pieces (boot_open (by kernel_rfl) (by kernel_rfl) (fun s => by kernel_rfl)) size0 run_all (by kernel_rfl) (looks0 H hH)
local macro_rules | `(tactic| o_head $H) => `(tactic| (refine holds_open (q := vw) (loose := lo) (Xt := xt) (XP := XL vw []) (Yf := Hook.obs $H) (Ya := Hook.val $H) (YP := Hook.says $H) (N := 5716) (left $H (fun w os => by kernel_rfl)) (Hook.of $H) (Hook.keeps $H) (fun s e => xl_of s (Bool.and_eq_true_iff.mp e).1) XL.keeps (by rfl) (by rfl) (by rfl) (fun s e => recFacts_of (Bool.and_eq_true_iff.mp e).2) (by rfl) (by first | assumption | decide +kernel) (by decide +kernel) ⟨rfl, rfl, rfl, rfl, rfl, by decide +kernel⟩ ?hw ?hc))
theorem ws : OpenLaw.wellSaid PySem.Challenge.rw_tg0038_02 = true := by kernel_rfl
local macro_rules | `(tactic| o_law) => `(tactic| refine holds_law ws fun said => ?_)
open_top hd for PySem.Challenge.rw_tg0038_02
end Head
end Mine
namespace Mine
/-- so many places from `i` on are alike with those from `j` on, up to `lim` -/
structure IsAl (f : Nat → Int) (i j lim c : Nat) : Prop where
  le : c ≤ lim
  eq : ∀ x, x < c → f (i + x) = f (j + x)
  ne : c < lim → f (i + c) ≠ f (j + c)
theorem IsAl.uniq {f : Nat → Int} {i j lim c d : Nat} (h : IsAl f i j lim c) (h' : IsAl f i j lim d) : c = d := by
  rcases Nat.lt_trichotomy c d with q | q | q
  · exact absurd (h'.eq c q) (h.ne (Nat.lt_of_lt_of_le q h'.le))
  · exact q
  · exact absurd (h.eq d q) (h'.ne (Nat.lt_of_lt_of_le q h.le))
/-- the octets go on at this distance just so far -/
def Go (f : Nat → Int) (place dist lim c : Nat) : Prop := IsAl f place (place - dist) lim c
end Mine
namespace Mine
/-- the pieces ahead of and behind the place k are alike at the distance r -/
def LocAt (f : Nat → Int) (n k r : Nat) : Prop := ∀ j, j < k → k ≤ j + r → j + r < n → f j = f (j + r)
def PerAt (f : Nat → Int) (n r : Nat) : Prop := ∀ j, j + r < n → f j = f (j + r)
structure IsLoc (f : Nat → Int) (n k r : Nat) : Prop where
  pos : 1 ≤ r
  at' : LocAt f n k r
  least : ∀ r', 1 ≤ r' → r' < r → ¬ LocAt f n k r'
structure IsPer (f : Nat → Int) (n p : Nat) : Prop where
  pos : 1 ≤ p
  at' : PerAt f n p
  least : ∀ r', 1 ≤ r' → r' < p → ¬ PerAt f n r'
theorem PerAt.loc {f : Nat → Int} {n r : Nat} (h : PerAt f n r) (k : Nat) : LocAt f n k r := fun j _ _ h3 => h j h3
theorem IsLoc.le_per {f : Nat → Int} {n k r p : Nat} (h : IsLoc f n k r) (hp : IsPer f n p) : r ≤ p := by
  apply Nat.le_of_not_lt
  intro hlt
  exact h.least p hp.pos hlt (hp.at'.loc k)
abbrev neg (x : Int) : Int := 255 - x
theorem pre_of_le : ∀ {a b : List Int}, a ≤ b → a.map neg ≤ b.map neg → a <+: b
  | [], b, _, _ => List.nil_prefix
  | x :: a, [], h, _ => absurd (List.nil_lt_cons x a) h
  | x :: a, y :: b, h, h' => by
    rw [List.map_cons, List.map_cons] at h'
    have h1 := List.cons_le_cons_iff.mp h
    have h2 := List.cons_le_cons_iff.mp h'
    have e : x = y := by
      rcases h1 with h1 | h1
      · rcases h2 with h2 | h2
        · have : 255 - x < 255 - y := h2
          omega
        · have : 255 - x = 255 - y := h2.1
          omega
      · exact h1.1
    subst e
    have h1' : a ≤ b := by
      rcases h1 with h1 | h1
      · omega
      · exact h1.2
    have h2' : a.map neg ≤ b.map neg := by
      rcases h2 with h2 | h2
      · have : 255 - x < 255 - x := h2
        omega
      · exact h2.2
    obtain ⟨t, rfl⟩ := pre_of_le h1' h2'
    exact ⟨t, rfl⟩
theorem app_le : ∀ (c : List Int) {a b : List Int}, c ++ a ≤ c ++ b → a ≤ b
  | [], _, _, h => h
  | x :: c, a, b, h => by
    rcases List.cons_le_cons_iff.mp (show x :: (c ++ a) ≤ x :: (c ++ b) from h) with h | h
    · exact absurd h (Int.lt_irrefl _)
    · exact app_le c h.2
theorem nil_of_le_nil {a : List Int} (h : a ≤ []) : a = [] := by
  cases a with
  | nil => rfl
  | cons x a => exact absurd (List.nil_lt_cons x a) h
/-- the greatest end begins at k -/
def MaxAt (L : List Int) (k : Nat) : Prop := ∀ q, q ≤ L.length → L.drop q ≤ L.drop k
abbrev fL (ks : List Int) : Nat → Int := fun i => ks.getD i 0
theorem getD_eq {L : List Int} {i : Nat} (h : i < L.length) : L.getD i 0 = L[i] := by simp [h]
theorem no_short {L : List Int} {k r : Nat} (hk : k < L.length) (hm : MaxAt L k) (h1 : 1 ≤ r) (hr : r ≤ k) (h : LocAt (fL L) L.length k r) : False := by
  have hle := hm (k - r) (by omega)
  have pre : ∀ m, m ≤ r → m ≤ L.length - k → (L.drop (k - r)).take m = (L.drop k).take m := by
    intro m hm1 hm2
    apply List.ext_getElem
    · simp; omega
    · intro i h1' h2'
      simp only [List.length_take, List.length_drop] at h1' h2'
      rw [List.getElem_take, List.getElem_take, List.getElem_drop, List.getElem_drop]
      have e := h (k - r + i) (by omega) (by omega) (by omega)
      simp only [fL] at e
      rw [getD_eq (by omega), getD_eq (by omega)] at e
      rw [e]
      congr 1
      omega
  by_cases c : r ≤ L.length - k
  · have e := pre r (Nat.le_refl _) c
    have e1 : L.drop (k - r) = (L.drop k).take r ++ L.drop k := by
      rw [← e]
      have := (List.take_append_drop r (L.drop (k - r))).symm
      rw [List.drop_drop, show k - r + r = k by omega] at this
      exact this
    have e2 : L.drop k = (L.drop k).take r ++ L.drop (k + r) := by
      have := (List.take_append_drop r (L.drop k)).symm
      rw [List.drop_drop] at this
      exact this
    rw [e1] at hle
    have hle2 : (L.drop k).take r ++ L.drop k ≤ (L.drop k).take r ++ L.drop (k + r) := by rw [← e2]; exact hle
    have h3 := app_le _ hle2
    have h4 := hm (k + r) (by omega)
    have h5 := List.le_antisymm h3 h4
    have := congrArg List.length h5
    simp at this
    omega
  · have e := pre (L.length - k) (by omega) (Nat.le_refl _)
    have e1 : L.drop (k - r) = L.drop k ++ (L.drop (k - r)).drop (L.length - k) := by
      have q := (List.take_append_drop (L.length - k) (L.drop (k - r))).symm
      rw [e, List.take_of_length_le (by simp)] at q
      exact q
    have hle2 : L.drop k ++ (L.drop (k - r)).drop (L.length - k) ≤ L.drop k ++ [] := by rw [← e1, List.append_nil]; exact hle
    have h3 := nil_of_le_nil (app_le _ hle2)
    have := congrArg List.length h3
    simp at this
    omega
theorem long_loc {L : List Int} {k e r : Nat} (hk : k < L.length) (hm : MaxAt L k) (hm' : MaxAt (L.map neg) e) (he : e ≤ k) (hr : k < r) (h : LocAt (fL L) L.length k r) : PerAt (fL L) L.length r := by
  by_cases c : L.length - k ≤ r
  · intro j hj
    exact h j (by omega) (by omega) hj
  · have hu : ∀ j, j < k → L.getD j 0 = L.getD (j + r) 0 := fun j hj => h j hj (by omega) (by omega)
    have ey : (L.drop (e + r)).take (k - e) = (L.drop e).take (k - e) := by
      apply List.ext_getElem
      · simp; omega
      · intro i h1' h2'
        simp only [List.length_take, List.length_drop] at h1' h2'
        rw [List.getElem_take, List.getElem_take, List.getElem_drop, List.getElem_drop]
        have q := hu (e + i) (by omega)
        rw [getD_eq (by omega), getD_eq (by omega)] at q
        rw [q]
        congr 1
        omega
    have e1 : L.drop (e + r) = (L.drop e).take (k - e) ++ L.drop (k + r) := by
      have q := (List.take_append_drop (k - e) (L.drop (e + r))).symm
      rw [ey, List.drop_drop, show e + r + (k - e) = k + r by omega] at q
      exact q
    have e2 : L.drop e = (L.drop e).take (k - e) ++ L.drop k := by
      have q := (List.take_append_drop (k - e) (L.drop e)).symm
      rw [List.drop_drop, show e + (k - e) = k by omega] at q
      exact q
    have h1 : (L.drop (k + r)).map neg ≤ (L.drop k).map neg := by
      have q := hm' (e + r) (by rw [List.length_map]; omega)
      rw [← List.map_drop, ← List.map_drop, e1] at q
      have q2 : ((L.drop e).take (k - e) ++ L.drop (k + r)).map neg ≤ ((L.drop e).take (k - e) ++ L.drop k).map neg := by rw [← e2]; exact q
      rw [List.map_append, List.map_append] at q2
      exact app_le _ q2
    have h2 := pre_of_le (hm (k + r) (by omega)) h1
    intro j hj
    by_cases cj : j < k
    · exact hu j cj
    · obtain ⟨t, ht⟩ := h2
      have hlt : j - k < (L.drop (k + r)).length := by simp; omega
      have q : (L.drop k)[j - k]'(by simp; omega) = (L.drop (k + r))[j - k]'hlt := by
        simp only [← ht]
        rw [List.getElem_append_left hlt]
      rw [List.getElem_drop, List.getElem_drop] at q
      simp only [fL]
      rw [getD_eq (by omega), getD_eq (by omega)]
      have a1 : L[j] = L[k + (j - k)]'(by omega) := by congr 1; omega
      have a2 : L[j + r] = L[k + r + (j - k)]'(by omega) := by congr 1; omega
      rw [a1, a2]
      exact q
theorem crit_one {L : List Int} {k e p r : Nat} (hk : k < L.length) (hm : MaxAt L k) (hm' : MaxAt (L.map neg) e) (he : e ≤ k) (hp : IsPer (fL L) L.length p) (hr : IsLoc (fL L) L.length k r) : k < p ∧ r = p := by
  have h1 : k < p := by
    apply Nat.lt_of_not_le
    intro h
    exact no_short hk hm hp.pos h (hp.at'.loc k)
  have h2 : k < r := by
    apply Nat.lt_of_not_le
    intro h
    exact no_short hk hm hr.pos h hr.at'
  have h3 := long_loc hk hm hm' he h2 hr.at'
  refine ⟨h1, Nat.le_antisymm (hr.le_per hp) ?_⟩
  apply Nat.le_of_not_lt
  intro h
  exact hp.least r hr.pos h h3
theorem neg_getD {L : List Int} {j : Nat} (h : j < L.length) : (L.map neg).getD j 0 = 255 - L.getD j 0 := by
  rw [getD_eq (by rw [List.length_map]; exact h), getD_eq h, List.getElem_map]
theorem LocAt.neg {L : List Int} {k r : Nat} (h : LocAt (fL L) L.length k r) : LocAt (fL (L.map neg)) (L.map neg).length k r := by
  rw [List.length_map]
  intro j h1 h2 h3
  simp only [fL]
  rw [neg_getD (by omega), neg_getD (by omega)]
  have := h j h1 h2 h3
  simp only [fL] at this
  omega
theorem PerAt.neg {L : List Int} {r : Nat} (h : PerAt (fL L) L.length r) : PerAt (fL (L.map neg)) (L.map neg).length r := by
  rw [List.length_map]
  intro j h1
  simp only [fL]
  rw [neg_getD (by omega), neg_getD (by omega)]
  have := h j h1
  simp only [fL] at this
  omega
theorem neg_neg' (L : List Int) : (L.map neg).map neg = L := by
  rw [List.map_map]
  conv => rhs; rw [← List.map_id L]
  apply List.map_congr_left
  intro x _
  show 255 - (255 - x) = x
  omega
theorem LocAt.of_neg {L : List Int} {k r : Nat} (h : LocAt (fL (L.map Mine.neg)) (L.map Mine.neg).length k r) : LocAt (fL L) L.length k r := by
  have := LocAt.neg h
  rwa [neg_neg'] at this
theorem PerAt.of_neg {L : List Int} {r : Nat} (h : PerAt (fL (L.map Mine.neg)) (L.map Mine.neg).length r) : PerAt (fL L) L.length r := by
  have := PerAt.neg h
  rwa [neg_neg'] at this
theorem IsPer.neg {L : List Int} {p : Nat} (h : IsPer (fL L) L.length p) : IsPer (fL (L.map Mine.neg)) (L.map Mine.neg).length p :=
  ⟨h.pos, h.at'.neg, fun r h1 h2 h3 => h.least r h1 h2 h3.of_neg⟩
theorem IsLoc.neg {L : List Int} {k p : Nat} (h : IsLoc (fL L) L.length k p) : IsLoc (fL (L.map Mine.neg)) (L.map Mine.neg).length k p :=
  ⟨h.pos, h.at'.neg, fun r h1 h2 h3 => h.least r h1 h2 h3.of_neg⟩
/-- the critical place -/
theorem crit {L : List Int} {e1 e2 p : Nat} (h1 : e1 < L.length) (h2 : e2 < L.length) (m1 : MaxAt L e1) (m2 : MaxAt (L.map neg) e2) (hp : IsPer (fL L) L.length p) (hp1 : 1 < p) :
    0 < max e1 e2 ∧ max e1 e2 < p ∧ ∀ r, IsLoc (fL L) L.length (max e1 e2) r → r = p := by
  have hpos : 0 < max e1 e2 := by
    apply Nat.pos_of_ne_zero
    intro h0
    have z1 : e1 = 0 := by omega
    have z2 : e2 = 0 := by omega
    subst z1 z2
    have a1 := m1 1 (by omega)
    have a2 := m2 1 (by rw [List.length_map]; omega)
    rw [← List.map_drop, ← List.map_drop] at a2
    rw [List.drop_zero] at a1 a2
    obtain ⟨t, ht⟩ := pre_of_le a1 a2
    refine hp.least 1 (Nat.le_refl _) hp1 ?_
    intro j hj
    have hlt : j < (L.drop 1).length := by simp; omega
    have q : L.getD j 0 = (L.drop 1).getD j 0 := by
      have q0 : (L.drop 1 ++ t).getD j 0 = (L.drop 1).getD j 0 := by rw [List.getD_eq_getElem?_getD, List.getD_eq_getElem?_getD, List.getElem?_append_left hlt]
      rw [ht] at q0
      exact q0
    simp only [fL]
    rw [q, List.getD_eq_getElem?_getD, List.getD_eq_getElem?_getD, List.getElem?_drop, Nat.add_comm]
  by_cases c : e2 ≤ e1
  · rw [Nat.max_eq_left c] at *
    refine ⟨hpos, ?_, fun r hr => (crit_one h1 m1 m2 c hp hr).2⟩
    apply Nat.lt_of_not_le
    intro h
    exact no_short h1 m1 hp.pos h (hp.at'.loc e1)
  · have c' : e1 ≤ e2 := by omega
    rw [Nat.max_eq_right c'] at *
    have h2' : e2 < (L.map neg).length := by rw [List.length_map]; exact h2
    have m1' : MaxAt ((L.map neg).map neg) e1 := by rw [neg_neg']; exact m1
    refine ⟨hpos, ?_, fun r hr => (crit_one h2' m2 m1' c' hp.neg hr.neg).2⟩
    apply Nat.lt_of_not_le
    intro h
    exact no_short h2' m2 hp.pos h (hp.neg.at'.loc e2)
/-- the mirror -/
theorem rev_getD {L : List Int} {j : Nat} (h : j < L.length) : L.reverse.getD j 0 = L.getD (L.length - 1 - j) 0 := by
  rw [getD_eq (by simpa using h), getD_eq (by omega), List.getElem_reverse]
theorem LocAt.rev {L : List Int} {k r : Nat} (hk : k ≤ L.length) (h : LocAt (fL L) L.length k r) : LocAt (fL L.reverse) L.reverse.length (L.length - k) r := by
  rw [List.length_reverse]
  intro j h1 h2 h3
  simp only [fL]
  rw [rev_getD (by omega), rev_getD (by omega)]
  have := h (L.length - 1 - (j + r)) (by omega) (by omega) (by omega)
  simp only [fL] at this
  rw [this]
  congr 1
  omega
theorem PerAt.rev {L : List Int} {r : Nat} (h : PerAt (fL L) L.length r) : PerAt (fL L.reverse) L.reverse.length r := by
  rw [List.length_reverse]
  intro j h3
  simp only [fL]
  rw [rev_getD (by omega), rev_getD (by omega)]
  have := h (L.length - 1 - (j + r)) (by omega)
  simp only [fL] at this
  rw [this]
  congr 1
  omega
theorem LocAt.of_rev {L : List Int} {k r : Nat} (hk : k ≤ L.length) (h : LocAt (fL L.reverse) L.reverse.length (L.length - k) r) : LocAt (fL L) L.length k r := by
  have := LocAt.rev (by rw [List.length_reverse]; omega) h
  rwa [List.reverse_reverse, List.length_reverse, show L.length - (L.length - k) = k by omega] at this
theorem PerAt.of_rev {L : List Int} {r : Nat} (h : PerAt (fL L.reverse) L.reverse.length r) : PerAt (fL L) L.length r := by
  have := PerAt.rev h
  rwa [List.reverse_reverse] at this
theorem IsPer.rev {L : List Int} {p : Nat} (h : IsPer (fL L) L.length p) : IsPer (fL L.reverse) L.reverse.length p :=
  ⟨h.pos, h.at'.rev, fun r h1 h2 h3 => h.least r h1 h2 h3.of_rev⟩
theorem IsLoc.rev {L : List Int} {k p : Nat} (hk : k ≤ L.length) (h : IsLoc (fL L) L.length k p) : IsLoc (fL L.reverse) L.reverse.length (L.length - k) p :=
  ⟨h.pos, h.at'.rev hk, fun r h1 h2 h3 => h.least r h1 h2 (h3.of_rev hk)⟩
end Mine
namespace Mine
theorem app_le' : ∀ (c : List Int) {a b : List Int}, a ≤ b → c ++ a ≤ c ++ b
  | [], _, _, h => h
  | x :: c, a, b, h => List.cons_le_cons_iff.mpr (.inr ⟨rfl, app_le' c h⟩)
theorem take_eq {L : List Int} {a b c : Nat} (ha : a + c ≤ L.length) (hb : b + c ≤ L.length) (h : ∀ i, i < c → L.getD (a + i) 0 = L.getD (b + i) 0) : (L.drop a).take c = (L.drop b).take c := by
  apply List.ext_getElem
  · simp; omega
  · intro i h1' h2'
    simp only [List.length_take, List.length_drop] at h1' h2'
    rw [List.getElem_take, List.getElem_take, List.getElem_drop, List.getElem_drop]
    have q := h i (by omega)
    rw [getD_eq (by omega), getD_eq (by omega)] at q
    exact q
theorem drop_le {L : List Int} {a b c : Nat} (ha : a + c ≤ L.length) (hb : b + c ≤ L.length) (h : ∀ i, i < c → L.getD (a + i) 0 = L.getD (b + i) 0) (hh : L.drop (a + c) ≤ L.drop (b + c)) : L.drop a ≤ L.drop b := by
  have e := take_eq ha hb h
  have e1 := (List.take_append_drop c (L.drop a)).symm
  have e2 := (List.take_append_drop c (L.drop b)).symm
  rw [List.drop_drop] at e1 e2
  rw [e1, e2, e]
  exact app_le' _ hh
theorem drop_lt {L : List Int} {a b : Nat} (ha : a < L.length) (hb : b < L.length) (h : L.getD a 0 < L.getD b 0) : L.drop a ≤ L.drop b := by
  rw [List.drop_eq_getElem_cons ha, List.drop_eq_getElem_cons hb]
  rw [getD_eq ha, getD_eq hb] at h
  exact List.cons_le_cons_iff.mpr (.inl h)
structure EndInv (L : List Int) (place found : Int) : Prop where
  lo : 0 ≤ found
  lt : found < place
  max : ∀ q : Nat, (q : Int) < place → L.drop q ≤ L.drop found.toNat
theorem EndInv.init (L : List Int) : EndInv L 1 0 := ⟨Int.le_refl _, by decide, fun q hq => by
  obtain rfl : q = 0 := by omega
  exact List.le_refl _⟩
structure EndCnt (L : List Int) (place found count : Int) : Prop where
  lo : 0 ≤ count
  hi : place + count ≤ L.length
  same : ∀ i : Nat, (i : Int) < count → L.getD (place.toNat + i) 0 = L.getD (found.toNat + i) 0
theorem EndCnt.zero {L : List Int} {place found : Int} (h : place ≤ L.length) : EndCnt L place found 0 := ⟨Int.le_refl _, by omega, fun i hi => by omega⟩
theorem EndCnt.more {L : List Int} {place found count : Int} (h : EndCnt L place found count) (hp : 0 ≤ place) (hf : 0 ≤ found) (h1 : place + count < L.length) (he : L.getD (place + count).toNat 0 = L.getD (found + count).toNat 0) : EndCnt L place found (count + 1) := by
  have h0 := h.lo
  refine ⟨by omega, by omega, fun i hi => ?_⟩
  by_cases c : (i : Int) < count
  · exact h.same i c
  · have e1 : place.toNat + i = (place + count).toNat := by omega
    have e2 : found.toNat + i = (found + count).toNat := by omega
    rw [e1, e2]
    exact he
theorem EndInv.gt {L : List Int} {place found count : Int} (h : EndInv L place found) (hc : EndCnt L place found count) (h1 : place + count < L.length) (hg : L.getD (found + count).toNat 0 < L.getD (place + count).toNat 0) : EndInv L (place + 1) place := by
  have a := h.lo
  have b := h.lt
  have c0 := hc.lo
  have key : L.drop found.toNat ≤ L.drop place.toNat := by
    refine drop_le (c := count.toNat) (by omega) (by omega) (fun i hi => (hc.same i (by omega)).symm) ?_
    have e1 : found.toNat + count.toNat = (found + count).toNat := by omega
    have e2 : place.toNat + count.toNat = (place + count).toNat := by omega
    rw [e1, e2]
    exact drop_lt (by omega) (by omega) hg
  refine ⟨by omega, by omega, fun q hq => ?_⟩
  by_cases c : (q : Int) < place
  · exact List.le_trans (h.max q c) key
  · obtain rfl : q = place.toNat := by omega
    exact List.le_refl _
theorem EndInv.le {L : List Int} {place found count : Int} (h : EndInv L place found) (hc : EndCnt L place found count)
    (hs : place + count < L.length → L.getD (place + count).toNat 0 ≠ L.getD (found + count).toNat 0) (hl : place + count < L.length → ¬ (L.getD (found + count).toNat 0 < L.getD (place + count).toNat 0)) : EndInv L (place + 1) found := by
  have a := h.lo
  have b := h.lt
  have c0 := hc.lo
  have c1 := hc.hi
  have key : L.drop place.toNat ≤ L.drop found.toNat := by
    refine drop_le (c := count.toNat) (by omega) (by omega) (fun i hi => hc.same i (by omega)) ?_
    have e1 : found.toNat + count.toNat = (found + count).toNat := by omega
    have e2 : place.toNat + count.toNat = (place + count).toNat := by omega
    rw [e1, e2]
    by_cases c : place + count < L.length
    · have := hs c
      have := hl c
      exact drop_lt (by omega) (by omega) (by omega)
    · rw [List.drop_of_length_le (show L.length ≤ (place + count).toNat by omega)]
      exact fun h => absurd h (List.not_lt_nil _)
  refine ⟨by omega, by omega, fun q hq => ?_⟩
  by_cases c : (q : Int) < place
  · exact h.max q c
  · obtain rfl : q = place.toNat := by omega
    exact key
theorem EndInv.fin {L : List Int} {found : Int} (h : EndInv L L.length found) : MaxAt L found.toNat := by
  intro q hq
  by_cases c : q < L.length
  · exact h.max q (by omega)
  · rw [List.drop_of_length_le (show L.length ≤ q by omega)]
    exact fun h => absurd h (List.not_lt_nil _)
end Mine
open PySem.Calls
namespace Mine
theorem off_all {d : Addr} : ∀ {l : List (Addr × Obj)}, PyProof.Rows.LCg.Off1 d l → ∀ p ∈ l, p.1 ≠ d
  | [], _, _, hp => nomatch hp
  | q :: r, h, p, hp => by
    rcases List.mem_cons.mp hp with rfl | hp
    · exact h.1
    · exact off_all h.2 p hp
theorem all_off {d : Addr} : ∀ {l : List (Addr × Obj)}, (∀ p ∈ l, p.1 ≠ d) → PyProof.Rows.LCg.Off1 d l
  | [], _ => trivial
  | q :: r, h => ⟨h q (.head _), all_off fun p hp => h p (.tail _ hp)⟩
theorem lt_all {d : Addr} {l : List (Addr × Obj)} (h : AllLt d l) : ∀ p ∈ l, p.1 ≠ d := fun p hp => Nat.ne_of_lt (ktn_ltOf h p hp)
theorem fm_lo (a : Int) {n : Int} (h : 1 ≤ n) : 0 ≤ a.fmod n := by
  rw [Int.fmod_eq_emod_of_nonneg _ (by omega)]; exact Int.emod_nonneg _ (by omega)
theorem fm_hi (a : Int) {n : Int} (h : 1 ≤ n) : a.fmod n < n := by
  rw [Int.fmod_eq_emod_of_nonneg _ (by omega)]; exact Int.emod_lt_of_pos _ (by omega)
theorem fd_lo {a n : Int} (ha : 0 ≤ a) (h : 1 ≤ n) : 0 ≤ a.fdiv n := by
  rw [Int.fdiv_eq_ediv_of_nonneg _ (by omega)]; exact Int.ediv_nonneg ha (by omega)
def Hint (_ : OpenLaw) (_ : Params → Frag) (P : Prop) : Prop := P
theorem Hint.out {l : OpenLaw} {f : Params → Frag} {P : Prop} (h : Hint l f P) : P := h
/-- the box of the law: two ints -/
structure BoxOk (d st : Int) : Prop where
  d0 : 0 ≤ d
  s0 : 0 ≤ st
  s1 : st < 2147483647
abbrev boxO (d st : Int) (t1 t2 : Tok) (n : Nat) : Obj := listOf #[.int d t1, .int st t2] n
theorem lt_all1 {d : Addr} {l : List (Addr × Obj)} (h : AllLt d l) : ∀ p ∈ l, p.1 ≠ d + 1 := fun p hp => Nat.ne_of_lt (Nat.lt_succ_of_lt (ktn_ltOf h p hp))
theorem lt_all2 {d : Addr} {l : List (Addr × Obj)} (h : AllLt d l) : ∀ p ∈ l, p.1 ≠ d + 1 + 1 := fun p hp => Nat.ne_of_lt (Nat.lt_succ_of_lt (Nat.lt_succ_of_lt (ktn_ltOf h p hp)))
theorem UpdF.turn {b : Addr} {o : Obj} {news : List (Addr × Obj)} {g : Obj → List (Addr × Obj)} (U : UpdF b o news g) :
    ∃ rest, (∀ p ∈ rest, p.1 ≠ b) ∧ (∀ p, p ∈ (b, o) :: rest → p ∈ news) ∧ (∀ o' p, p ∈ (b, o') :: rest → p ∈ g o') ∧ ∀ o' p, p ∈ g o' → p ∈ (b, o') :: rest := by
  obtain ⟨pre, post, rfl, hg, h1, h2⟩ := U.split
  have key : ∀ (o' : Obj) (q : Addr × Obj), q ∈ (b, o') :: (pre ++ post) → q ∈ pre ++ (b, o') :: post := by
    intro o' q hq
    rcases List.mem_cons.mp hq with rfl | hq
    · exact List.mem_append_right _ (.head _)
    · exact (List.mem_append.mp hq).elim (fun h => List.mem_append_left _ h) fun h => List.mem_append_right _ (.tail _ h)
  refine ⟨pre ++ post, ?_, key o, fun o' p hp => by rw [hg]; exact key o' p hp, ?_⟩
  · intro q hq
    exact (List.mem_append.mp hq).elim (h1 q) (h2 q)
  · intro o' q hq
    rw [hg] at hq
    rcases List.mem_append.mp hq with hq | hq
    · exact .tail _ (List.mem_append_left _ hq)
    · rcases List.mem_cons.mp hq with rfl | hq
      · exact .head _
      · exact .tail _ (List.mem_append_right _ hq)
theorem rep_len (k : Nat) (ns : List Int) : (List.replicate k ns).flatten.length = k * ns.length := by simp
theorem rep_size {k : Int} {ns : List Int} (h1 : (ns.length : Int) ≤ 100) (h2 : k ≤ 100) : (List.replicate k.toNat ns).flatten.length ≤ sizeLine := by
  rw [rep_len, sizeLine_eq]
  have h3 : k.toNat ≤ 100 := by omega
  have h4 : ns.length ≤ 100 := by omega
  exact Nat.le_trans (Nat.mul_le_mul h3 h4) (by decide)
theorem rep_ge {k : Int} {ns : List Int} (h1 : 1 ≤ ns.length) : k ≤ ((List.replicate k.toNat ns).flatten.length : Int) := by
  rw [rep_len]
  have : k.toNat * 1 ≤ k.toNat * ns.length := Nat.mul_le_mul_left _ h1
  omega
theorem rep_le {k : Int} {ns : List Int} {c : Nat} (h1 : ns.length ≤ c) : ((List.replicate k.toNat ns).flatten.length : Int) ≤ k.toNat * c := by
  rw [rep_len]
  have : k.toNat * ns.length ≤ k.toNat * c := Nat.mul_le_mul_left _ h1
  exact_mod_cast this
theorem in_of {ns : List Int} (h : ∀ k ∈ ns, 97 ≤ k ∧ k ≤ 99) : KBa.In ns := fun k hk => by have := h k hk; omega
theorem in_take {ns : List Int} (n : Nat) (h : KBa.In ns) : KBa.In (ns.take n) := fun k hk => h k (List.mem_of_mem_take hk)
theorem in_app {ns ms : List Int} (h : KBa.In ns) (h' : KBa.In ms) : KBa.In (ns ++ ms) := fun k hk => (List.mem_append.mp hk).elim (h k) (h' k)
theorem in_rep {ns : List Int} (n : Nat) (h : KBa.In ns) : KBa.In (List.replicate n ns).flatten := fun k hk => by
  obtain ⟨l, hl, hk⟩ := List.mem_flatten.mp hk
  rw [List.eq_of_mem_replicate hl] at hk
  exact h k hk
theorem in_set {ns : List Int} {i : Nat} {x : Int} (h : KBa.In ns) (hx : 0 ≤ x ∧ x < 256) : KBa.In (ns.set i x) := fun k hk => by
  rcases List.mem_or_eq_of_mem_set hk with h1 | h1
  · exact h k h1
  · rw [h1]; exact hx
theorem rep_geq {k : Int} {ns : List Int} {x : Nat} (_ : x ≤ (List.replicate k.toNat ns).flatten.length) (h1 : 1 ≤ ns.length) : k ≤ ((List.replicate k.toNat ns).flatten.length : Int) := rep_ge h1
/-- what the last turn of a block of draws leaves -/
def TakeEl (g : Obj → List (Addr × Obj)) (lo hi : Int) (y : Value) (nw : List (Addr × Obj)) : Prop :=
  ∃ (k : Int) (t : Tok) (d st : Int) (t1 t2 : Tok) (n : Nat), y = .int k t ∧ lo ≤ k ∧ k ≤ hi ∧ BoxOk d st ∧ nw = g (boxO d st t1 t2 n)
section
variable {prog : Program} {w : World} {A : Around} {h₀ : Heap} {L : Addr} {m : Str → Option Value} {env : Env} {elt : Expr} {x : Str} {scope : Scope} {cl : List (Str × Addr)} {s : Shared} {S : List (Addr × Obj) → Prop} {P : Nat → Value → Prop} {Fin : List Value → List (Addr × Obj) → Prop} {news : List (Addr × Obj)}
theorem comp_inv {n : Nat} (J : Nat → List Value → List (Addr × Obj) → Prop) (h0 : J 0 [] news)
    (turn : ∀ i v ys nw I oI C oC D m₂ h tk (E' : Value → Shared → Prop), i < n → P i v → J i ys nw → LCg.NsObj oC m₂ → m₂ x = some v → Fr h₀ L h m → News h₀ L h ((I, oI) :: (C, oC) :: (D, LCg.lst ys) :: nw) → LCg.Off3 I C D nw → ((@Ne Nat I C) ∧ (@Ne Nat I D) ∧ (@Ne Nat C D)) →
      wpAny (model prog w) A (eval elt (compEnvC scope cl C env)) (LCg.CompEnd h₀ L m { s with heap := h, toks := tk } I oI C oC D (LCg.lst ys) S (fun y nw' => J (i + 1) (ys ++ [y]) nw')) E' { s with heap := h, toks := tk })
    (fin : ∀ ys nw, J n ys nw → Fin ys nw) : LCg.CompRest prog w A h₀ L m env elt x scope cl s S P Fin n 0 [] news := by
  have key : ∀ (j i : Nat) (ys : List Value) (nw : List (Addr × Obj)), i + j = n → J i ys nw → LCg.CompRest prog w A h₀ L m env elt x scope cl s S P Fin j i ys nw := by
    intro j
    induction j with
    | zero =>
      intro i ys nw hi hy
      obtain rfl : i = n := by omega
      exact LCg.CompRest.zero (fin ys nw hy)
    | succ j ih =>
      intro i ys nw hi hy
      refine LCg.CompRest.succ ?_
      intro v I oI C oC D m₂ h tk E' hv hC hx F N off ne
      refine wpAny_mono (turn i v ys nw I oI C oC D m₂ h tk E' (by omega) hv hy hC hx F N off ne) (fun y s₂ hq => ?_) fun _ _ e => e
      obtain ⟨h', tk', nw', e, F', N', off', hS, hJ⟩ := hq
      exact ⟨h', tk', nw', e, F', N', off', hS, ih (i + 1) _ _ (by omega) hJ⟩
  exact key n 0 [] news (by omega) h0
theorem word_rest {n : Nat} {b : Addr} {d st : Int} {t1 t2 : Tok} {nn : Nat} {g : Obj → List (Addr × Obj)} {a : Int} (lo hi : Int) (U : UpdF b (boxO d st t1 t2 nn) news g) (hb : BoxOk d st)
    (turn : ∀ k t ys I oI C oC D m₂ h tk (E' : Value → Shared → Prop) d st t1 t2 nn, BoxOk d st → LCg.NsObj oC m₂ → m₂ x = some (.int k t) → Fr h₀ L h m → News h₀ L h ((I, oI) :: (C, oC) :: (D, LCg.lst ys) :: g (boxO d st t1 t2 nn)) → LCg.Off3 I C D (g (boxO d st t1 t2 nn)) → ((@Ne Nat I C) ∧ (@Ne Nat I D) ∧ (@Ne Nat C D)) →
      wpAny (model prog w) A (eval elt (compEnvC scope cl C env)) (LCg.CompEnd h₀ L m { s with heap := h, toks := tk } I oI C oC D (LCg.lst ys) S (TakeEl g lo hi)) E' { s with heap := h, toks := tk })
    (fin : ∀ ys ns d st t1 t2 nn, IntsAre ys ns → ns.length = n → (∀ k ∈ ns, lo ≤ k ∧ k ≤ hi) → BoxOk d st → Fin ys (g (boxO d st t1 t2 nn))) :
    LCg.CompRest prog w A h₀ L m env elt x scope cl s S (fun i v => ∃ t, v = .int (a + (i : Int)) t) Fin n 0 [] news := by
  refine comp_inv (fun i ys nw => ∃ ns d st t1 t2 nn, IntsAre ys ns ∧ ns.length = i ∧ (∀ k ∈ ns, lo ≤ k ∧ k ≤ hi) ∧ BoxOk d st ∧ nw = g (boxO d st t1 t2 nn)) ?_ ?_ ?_
  · obtain ⟨own, rest, rfl, hg, _⟩ := U.split
    exact ⟨[], d, st, t1, t2, nn, .nil, rfl, (by intro k hk; cases hk), hb, (hg _).symm⟩
  · rintro i v ys nw I oI C oC D m₂ h tk E' hi ⟨t, rfl⟩ ⟨ns, d, st, t1, t2, nn, hy, hl, hr, hb', rfl⟩ hC hx F N off ne
    refine wpAny_mono (turn _ t ys I oI C oC D m₂ h tk E' d st t1 t2 nn hb' hC hx F N off ne) (fun y s₂ hq => ?_) fun _ _ e => e
    obtain ⟨h', tk', nw', e, F', N', off', hS, k, t', d', st', t1', t2', n', rfl, h1, h2, hb'', rfl⟩ := hq
    refine ⟨h', tk', _, e, F', N', off', hS, ns ++ [k], d', st', t1', t2', n', ?_, by simp [hl], ?_, hb'', rfl⟩
    · exact IntsAre.append hy (.cons k t' .nil)
    · intro z hz
      rcases List.mem_append.mp hz with hz | hz
      · exact hr z hz
      · rw [List.mem_singleton.mp hz]; exact ⟨h1, h2⟩
  · rintro ys nw ⟨ns, d, st, t1, t2, nn, hy, hl, hr, hb', rfl⟩
    exact fin ys ns d st t1 t2 nn hy hl hr hb'
end
theorem take_el {h₀ : Heap} {L I C D : Addr} {m : Str → Option Value} {s₁ : Shared} {oI oC oD : Obj} {S : List (Addr × Obj) → Prop} {h' : Heap} {tk : Nat} {all : List (Addr × Obj)} {g : Obj → List (Addr × Obj)} {lo hi k : Int} {t : Tok} {d st : Int} {t1 t2 : Tok} {n : Nat}
    (F : Fr h₀ L h' m) (N : News h₀ L h' all) (sub : ∀ p ∈ (I, oI) :: (C, oC) :: (D, oD) :: g (boxO d st t1 t2 n), p ∈ all) (off : LCg.Off3 I C D (g (boxO d st t1 t2 n))) (hS : S (g (boxO d st t1 t2 n))) (hb : BoxOk d st) (h1 : lo ≤ k) (h2 : k ≤ hi) :
    LCg.CompEnd h₀ L m s₁ I oI C oC D oD S (TakeEl g lo hi) (.int k t) { s₁ with heap := h', toks := tk } :=
  LCg.CompEnd.intro F N _ sub off hS ⟨k, t, d, st, t1, t2, n, rfl, h1, h2, hb, rfl⟩
section
variable {prog : Program} {w : World} {A : Around} {E : Value → Shared → Prop} {s : Shared} {env : Env} {h₀ : Heap} {x : Str} {body : List Stmt} {Q : Flow → Shared → Prop}
/-- a loop over a range that keeps nothing but the ledger -/
theorem for_range {r : Addr} {a₀ b₀ : Int} {t₀ u₀ v₀ : Tok} {n : Nat} {m₀ : Str → Option Value} {news : List (Addr × Obj)} (stored : List Str)
    (hh : A.handled = none) (hr : IsRange s.heap r a₀ b₀ 1 t₀ u₀ v₀) (hsmall : Builtin.Range.small a₀ b₀ 1 = true) (hn : Builtin.Range.rangeSize a₀ b₀ 1 = (n : Int)) (F : Fr h₀ env.locals s.heap m₀) (N : News h₀ env.locals s.heap news)
    (turn : ∀ (k : Int) t (u : Str → Option Value) h tk own, a₀ ≤ k → k < a₀ + (n : Int) → OwnOff own (news.map (·.1)) →
      Fr h₀ env.locals h (fun y => if y = x then some (.int k t) else if stored.contains y then u y else m₀ y) → News h₀ env.locals h (news ++ own) →
      wpAny (model prog w) A (execs body env) (InvPostN h₀ env.locals (KstS (fun _ : Unit => news) (fun _ => []) (fun _ => True) x stored m₀ (fun _ _ => True) []) own (news.map (·.1)) { s with heap := h, toks := tk } Q) E { s with heap := h, toks := tk })
    (done : ∀ (u : Str → Option Value) h tk, Fr h₀ env.locals h (fun y => if y = x then u y else if stored.contains y then u y else m₀ y) → News h₀ env.locals h news → Q .next { s with heap := h, toks := tk }) :
    wpAny (model prog w) A (pyIter (.ref r)) (fun it s₂ => LoopAtV prog w A h₀ env x body Q E it s₂) E s := by
  refine kst_range (σ := Unit) (fun _ => news) (fun _ => []) (fun _ => True) stored (fun _ _ => True) () hh hr hsmall hn F N trivial (fun p hp => nomatch hp) trivial ?_ ?_
  · intro c pre k t u h tk own hk hl hoff _ _ F' N'
    refine wpAny_mono (turn k t u h tk own (by omega) (by omega) hoff F' N') (fun f s₂ p => ?_) fun _ _ e => e
    cases f with
    | ret v => exact p
    | brk => exact p
    | next => exact p
    | cont => exact p
  · intro c u h tk _ _ F' N'
    exact done u h tk F' N'
theorem loop_end {stored : List Str} {m₀ m' : Str → Option Value} {news : List (Addr × Obj)} {L : Addr} {own news' : List (Addr × Obj)} {adr : List Addr} {s₁ : Shared} {h' : Heap} {tk : Nat}
    (F : Fr h₀ L h' m') (N : News h₀ L h' news') (hn : ∀ p ∈ news, p ∈ news') (ho : ∀ p ∈ own, p ∈ news') (ha : news.map (·.1) = adr) (hr : ∀ z, z ≠ x → stored.contains z = false → m' z = m₀ z) :
    InvEndN h₀ L (KstS (fun _ : Unit => news) (fun _ => []) (fun _ => True) x stored m₀ (fun _ _ => True) []) own adr s₁ { s₁ with heap := h', toks := tk } :=
  kst_end () F N hn ho ha trivial (fun p hp => nomatch hp) (fun z h1 _ h3 => hr z h1 h3) trivial
end
abbrev fOf (ks : List Int) : Nat → Int := fun i => ks.getD i 0
/-- what repeat tells -/
structure IsR (ks : List Int) (win place dist most : Int) (c : Nat) : Prop where
  none : dist < 1 ∨ dist > place ∨ dist > win → c = 0
  some : 1 ≤ dist → dist ≤ place → dist ≤ win → Go (fOf ks) place.toNat dist.toNat (min most (ks.length - place)).toNat c
/-- a row that is told: for each distance from 0 to one beyond the place -/
structure IsRow (ks : List Int) (win place most : Int) (is : List Int) : Prop where
  len : (is.length : Int) = place + 2
  row : ∀ j : Nat, j < is.length → ∃ c : Nat, is.getD j 0 = (c : Int) ∧ IsR ks win place j most c
theorem times_fact {t n Z : Int} (h2 : 2 ≤ t) (ht : t < 2 + ((Z.fdiv n + 1 - 2).toNat : Int)) (hn : 1 ≤ n) : 0 ≤ (t - 1) * n ∧ (t - 1) * n + n = t * n ∧ t * n ≤ Z ∧ n ≤ (t - 1) * n := by
  have h1 : t ≤ Z.fdiv n := by omega
  rw [Int.fdiv_eq_ediv_of_nonneg _ (by omega)] at h1
  have h3 : t * n ≤ Z / n * n := Int.mul_le_mul_of_nonneg_right h1 (by omega)
  have h4 : Z / n * n ≤ Z := Int.ediv_mul_le Z (by omega)
  have h5 : (t - 1) * n = t * n - n := by rw [Int.sub_mul, Int.one_mul]
  have h6 : 1 * n ≤ (t - 1) * n := Int.mul_le_mul_of_nonneg_right (by omega) (by omega)
  rw [Int.one_mul] at h6
  omega
theorem fd_bd {x n : Int} (hx : 0 ≤ x) (hn : 1 ≤ n) : 0 ≤ x.fdiv n ∧ x.fdiv n ≤ x := by
  rw [Int.fdiv_eq_ediv_of_nonneg _ (by omega)]
  exact ⟨Int.ediv_nonneg hx (by omega), Int.ediv_le_self n hx⟩
theorem fd_small {x n : Int} (hx : 0 ≤ x) (hx2 : x < 1000) (hn : 1 ≤ n) : Builtin.Range.small 2 (x.fdiv n + 1) 1 = true := by
  have := fd_bd hx hn
  exact small_one (by omega) (by omega) (by omega) (by omega)
theorem fd_small1 {x n : Int} (hx : 0 ≤ x) (hx2 : x < 1000) (hn : 1 ≤ n) : Builtin.Range.small 1 (x.fdiv n + 1) 1 = true := by
  have := fd_bd hx hn
  exact small_one (by omega) (by omega) (by omega) (by omega)
theorem half_fact {k x : Int} (h : k < 1 + ((x.fdiv 2 + 1 - 1).toNat : Int)) (hx : 0 ≤ x) : k ≤ x := by
  have := fd_bd hx (show (1 : Int) ≤ 2 by decide)
  omega
theorem le_min {t x y : Int} (h : t ≤ if y < x then y else x) : t ≤ x ∧ t ≤ y := by split at h <;> omega
theorem has_bytes : typeLookup (.type "bytes") "__bytes__" = pure (some (.builtin "bytes.__bytes__")) := by rw [typeLookup_type, builtinLookup_eq_fast]; kernel_rfl
section
variable {prog : Program} {w : World} {A : Around} {E : Value → Shared → Prop} {s : Shared}
theorem bm_self {b : Array UInt8} {t : Tok} {Q : Value → Shared → Prop} (hQ : Q (.bytes b t) s) :
    codeAny (model prog w) A (.call (.builtin "bytes.__new__") ⟨[.type "bytes", .bytes b t], []⟩) (wants Q E) s := by
  refine codeAny_of_tree ?_
  show wpAny _ A.in1 (do checkBuiltinCall "bytes.__new__" ⟨[.type "bytes", .bytes b t], []⟩; again (.builtin "bytes.__new__" ⟨[.type "bytes", .bytes b t], []⟩)) _ _ s
  refine wpAny_bind (wpAny_of_eq (F.bm_newCall _) (wpAny_pure ⟨plainId_quiet F.bm_plain _, codeAny_builtin F.bm_entry ?_⟩))
  rw [Around.under_plainId F.bm_plain _]
  have hT : s.TypeIs (.bytes b t) "bytes" := PySem.W.typeIs_bytes s b t
  unfold Builtin.«bytes.__new__»
  refine wpAny_bind (wpAny_of_eq (a := true) rfl ?_)
  refine bm_if_false rfl ?_
  refine wpAny_bind (wpAny_of_eq F.bm_sub ?_)
  refine bm_if_false rfl ?_
  refine wpAny_bind (wpAny_of_eq (F.bm_bind _) ?_)
  refine wpAny_bind (wpAny_of_eq (a := ()) rfl ?_)
  refine wpAny_bind (wpAny_of_eq (a := ()) rfl ?_)
  refine bm_if_false rfl ?_
  refine wpAny_bind (wpAny_specialOf hT has_bytes ?_)
  refine wpAny_bind (wpAny_rule ?_)
  refine wpAny_bind (wpAny_typeOf hT ?_)
  refine bm_if_true (by decide +kernel) ?_
  exact wpAny_pure hQ
theorem call_bytes_self {b : Array UInt8} {t : Tok} {Q : Value → Shared → Prop} (hQ : Q (.bytes b t) s) : wpAny (model prog w) A (call (.type "bytes") [.bytes b t]) Q E s := by
  refine callType_codes (Q₁ := fun obj s₁ => s₁.TypeIs obj "bytes" ∧ Q obj s₁) F.bm_called (F.bm_typeCall _) F.entry_object_init
    (bm_self ⟨PySem.W.typeIs_bytes _ _ _, hQ⟩) fun obj s₁ h₁ => ?_
  exact ⟨h₁.1, F.args_object_init_2 obj _, object_init_meets F.bm_called.init.lookup F.bm_called.made (by decide) prog w A.in1 _ s₁ ⟨h₁.1, rfl, h₁.2⟩⟩
end
/-- a block over a tuple that stands below: what its source hands on -/
def SrcTup (prog : Program) (w : World) (A : Around) (h₀ : Heap) (L : Addr) (m : Str → Option Value) (env : Env) (elt : Expr) (x : Str) (scope : Scope) (cl : List (Str × Addr)) (Fin : Shared → List Value → List (Addr × Obj) → Prop) (xv : Value) (s₁ : Shared) : Prop :=
  ∃ ax its news, xv = .ref ax ∧ A.handled = none ∧ Fr h₀ L s₁.heap m ∧ News h₀ L s₁.heap news ∧ h₀.IsTuple ax its ∧ its.size ≤ sizeLine ∧
    ∀ s₂ : Shared, (∃ h, s₂ = { s₁ with heap := h }) → LCg.CompRest prog w A h₀ L m env elt x scope cl s₂ (fun _ => True) (fun i v => its[i]? = some v) (Fin s₂) its.size 0 [] news
section
variable {prog : Program} {w : World} {A : Around} {E : Value → Shared → Prop} {s : Shared} {h₀ : Heap} {L : Addr} {m : Str → Option Value} {env : Env}
theorem SrcTup.of {elt : Expr} {x : Str} {scope : Scope} {cl : List (Str × Addr)} {Fin : Shared → List Value → List (Addr × Obj) → Prop} {ax : Addr} {its : Array Value} {news : List (Addr × Obj)} {s₁ : Shared}
    (hh : A.handled = none) (F : Fr h₀ L s₁.heap m) (N : News h₀ L s₁.heap news) (hl : h₀.IsTuple ax its) (hsz : its.size ≤ sizeLine)
    (h : ∀ g, LCg.CompRest prog w A h₀ L m env elt x scope cl { s₁ with heap := g } (fun _ => True) (fun i v => its[i]? = some v) (Fin { s₁ with heap := g }) its.size 0 [] news) :
    SrcTup prog w A h₀ L m env elt x scope cl Fin (.ref ax) s₁ := ⟨ax, its, news, rfl, hh, F, N, hl, hsz, fun _ ⟨g, e⟩ => e ▸ h g⟩
theorem ListComp_Tup {elt iter : Expr} {x : Str} {px : Pos} {scope : Scope} {cl : List (Str × Addr)} {pos : Pos} {Q : Value → Shared → Prop} (F₀ : Fr h₀ L s.heap m)
    (hclos : closureFor scope env = pure cl) (hcell : ∀ y ∈ scope.names, y.2 ≠ .cell) (hkind : scope.kind = .function)
    (hnames : ∀ y ∈ scope.names, y.2 = .local → scope.names.lookup y.1 = some .local) (hx : scope.names.lookup x = some .local)
    (h : wpAny (model prog w) A (eval iter env) (SrcTup prog w A h₀ L m env elt x scope cl (fun s₂ => LCg.FinE h₀ L m s₂ Q)) E s)
    (hs : ∀ x, foldedSetIterable iter env x = pure x := by intro _; rfl) :
    wpAny (model prog w) A (eval (.ListComp elt [⟨.Name x px, iter, [], 0⟩] scope pos) env) Q E s := by
  rw [eval_ListComp]
  refine wpAny_comprehension_free (use := none) rfl hs hclos hkind hnames (wpAny_mono h (fun xv s₁ h₁ => ?_) fun _ _ e => e)
  obtain ⟨ax, its, news, rfl, hh, F, N, S, hsz, R⟩ := h₁
  have hl : s₁.heap.IsTuple ax its := let ⟨o, e, r⟩ := S; ⟨o, F.keep _ _ e, r⟩
  have hlt : ax < s₁.heap.objs.size := by obtain ⟨_, e, _⟩ := hl; exact Heap.lt_size e
  refine wpAny_pyIter_tuple hl ?_
  have up : ∀ b o, s₁.heap.get? b = some o → (s₁.heap.push { cls := .type "tuple_iterator", data := .fields #[.ref ax, .int 0 0] }).get? b = some o := fun b o e => Heap.get?_push_of_some _ e
  refine LCg.block_U (Walks.tuple hh s₁.heap.objs.size ax (Nat.ne_of_lt hlt) its) hsz (fun i h st => by obtain ⟨o, e, _⟩ := st.1; exact ⟨o, e⟩)
    (fun i h h' o nw st e e' k _ _ => ⟨by obtain ⟨o', q, r⟩ := st.1; rw [e] at q; cases q; exact ⟨o, e', r⟩, let ⟨o, q, r⟩ := S; ⟨o, k _ _ q, r⟩⟩) hcell hkind hx
    ⟨⟨_, Heap.get?_push_size _ rfl, rfl, rfl⟩, let ⟨o, q, r⟩ := hl; ⟨o, up _ _ q, r⟩⟩ (fun b hb => ?_)
    (F.keeps up) (N.grown up) (Nat.ne_of_lt F.ns.lt) (next_is_new F) (fun p hp => Nat.ne_of_lt (Heap.lt_size (N p hp).1)) trivial (R _ ⟨_, rfl⟩) ?_
  · show b < (s₁.heap.push _).objs.size
    rw [Heap.size_push]
    rcases List.mem_cons.mp hb with rfl | hb
    · exact Nat.lt_succ_self _
    · rw [List.mem_singleton.mp hb]; exact Nat.lt_succ_of_lt hlt
  · intro D C h' tk m' ys news' F' N' o1 hn hC₀ hD₀ hCL hDL hCD offC fin
    refine ⟨m', hn, fun h'' hs'' => fin D h'' tk (F'.change hs'' hCL hC₀) (fun p hp => ?_) o1⟩
    refine ⟨hs''.extBut _ _ ?_ (N' p hp).1, (N' p hp).2⟩
    rcases List.mem_cons.mp hp with rfl | hp
    · exact Ne.symm hCD
    · exact offC p hp
end
/-- a turn that leaves nothing but garbage -/
def AnyEl (news : List (Addr × Obj)) (_ : Value) (nw : List (Addr × Obj)) : Prop := nw = news
section
variable {prog : Program} {w : World} {A : Around} {h₀ : Heap} {L : Addr} {m : Str → Option Value} {env : Env} {elt : Expr} {x : Str} {scope : Scope} {cl : List (Str × Addr)} {s : Shared} {S : List (Addr × Obj) → Prop} {Fin : List Value → List (Addr × Obj) → Prop} {news : List (Addr × Obj)}
theorem small_rest {its : Array Value} (hits : ∀ (i : Nat) (v : Value), its[i]? = some v → ∃ (z : Int) (t : Tok), v = Value.int z t ∧ 1 ≤ z ∧ z < 100)
    (turn : ∀ z t ys I oI C oC D m₂ h tk (E' : Value → Shared → Prop), 1 ≤ z → z < 100 → LCg.NsObj oC m₂ → m₂ x = some (.int z t) → Fr h₀ L h m → News h₀ L h ((I, oI) :: (C, oC) :: (D, LCg.lst ys) :: news) → LCg.Off3 I C D news → ((@Ne Nat I C) ∧ (@Ne Nat I D) ∧ (@Ne Nat C D)) →
      wpAny (model prog w) A (eval elt (compEnvC scope cl C env)) (LCg.CompEnd h₀ L m { s with heap := h, toks := tk } I oI C oC D (LCg.lst ys) S (AnyEl news)) E' { s with heap := h, toks := tk })
    (fin : ∀ ys, Fin ys news) : LCg.CompRest prog w A h₀ L m env elt x scope cl s S (fun i v => its[i]? = some v) Fin its.size 0 [] news := by
  refine comp_inv (fun _ _ nw => nw = news) rfl ?_ ?_
  · rintro i v ys nw I oI C oC D m₂ h tk E' hi hv rfl hC hx F N off ne
    obtain ⟨z, t, rfl, h1, h2⟩ := hits i v hv
    exact turn z t ys I oI C oC D m₂ h tk E' h1 h2 hC hx F N off ne
  · rintro ys nw rfl
    exact fin ys
end
theorem any_el {h₀ : Heap} {L I C D : Addr} {m : Str → Option Value} {s₁ : Shared} {oI oC oD : Obj} {S : List (Addr × Obj) → Prop} {h' : Heap} {tk : Nat} {all news : List (Addr × Obj)} {y : Value}
    (F : Fr h₀ L h' m) (N : News h₀ L h' all) (sub : ∀ p ∈ (I, oI) :: (C, oC) :: (D, oD) :: news, p ∈ all) (off : LCg.Off3 I C D news) (hS : S news) :
    LCg.CompEnd h₀ L m s₁ I oI C oC D oD S (AnyEl news) y { s₁ with heap := h', toks := tk } :=
  LCg.CompEnd.intro F N _ sub off hS rfl
theorem two_ints {a b : Int} {t u : Tok} (ha : 1 ≤ a ∧ a < 100) (hb : 1 ≤ b ∧ b < 100) : ∀ (i : Nat) (v : Value), (#[Value.int a t, Value.int b u] : Array Value)[i]? = some v → ∃ (z : Int) (t : Tok), v = Value.int z t ∧ 1 ≤ z ∧ z < 100 := by
  intro i v h
  match i with
  | 0 => simp at h; exact ⟨a, t, h.symm, ha⟩
  | 1 => simp at h; exact ⟨b, u, h.symm, hb⟩
  | i + 2 => simp at h
structure BoxMark (b : Addr) (rest : List (Addr × Obj)) : Prop where
structure WS where
  d1 : Addr
  d2 : Addr
  v1 : List Value
  v2 : List Value
  n1 : List Int
  n2 : List Int
  k1 : Nat
  k2 : Nat
abbrev WLed (base : List (Addr × Obj)) (c : WS) : List (Addr × Obj) := (c.d2, listOf c.v2.toArray c.k2) :: (c.d1, listOf c.v1.toArray c.k1) :: base
abbrev WPs (c : WS) : List (Str × Value) := [(Str.ofString "last", .ref c.d1), (Str.ofString "text", .ref c.d2)]
structure WOk (b : Addr) (c : WS) : Prop where
  i1 : IntsAre c.v1 c.n1
  i2 : IntsAre c.v2 c.n2
  r1 : KBa.In c.n1
  r2 : KBa.In c.n2
  a1 : 1 ≤ c.n1.length
  a2 : 1 ≤ c.n2.length
  b1 : c.n1.length ≤ 20
  b2 : c.n2.length ≤ 40
  e1 : @Ne Nat c.d1 b
  e2 : @Ne Nat c.d2 b
abbrev WFr (m₀ : Str → Option Value) (d1 d2 : Addr) : Str → Option Value := fun y => if y = Str.ofString "last" then some (.ref d1) else if y = Str.ofString "text" then some (.ref d2) else m₀ y
section
variable {prog : Program} {w : World} {A : Around} {E : Value → Shared → Prop} {Q : Flow → Shared → Prop} {s : Shared} {env : Env} {h₀ : Heap} {L : Addr}
abbrev WPost (h₀ : Heap) (L : Addr) (s : Shared) (base : List (Addr × Obj)) (m₀ : Str → Option Value) (b : Addr) (size : Int) (Q : Flow → Shared → Prop) (c : WS) : Flow → Shared → Prop :=
  KswPost (σ := WS) h₀ L s (WLed base) WPs (WOk b) [] m₀ (fun _ => True) (fun c => (size - c.n2.length).toNat) Q c
theorem ws_while {test : Expr} {body : List Stmt} {pos : Pos} {m₀ : Str → Option Value} {all rest : List (Addr × Obj)} {b : Addr} {d st : Int} {t1 t2 : Tok} {n : Nat} {d1 d2 : Addr} {v1 v2 : List Value} {n1 n2 : List Int} {k1 k2 : Nat}
    (hbm : BoxMark b rest) (F : Fr h₀ L s.heap m₀) (g1 : m₀ (Str.ofString "last") = some (.ref d1)) (g2 : m₀ (Str.ofString "text") = some (.ref d2))
    (N : News h₀ L s.heap all) (sub : ∀ p ∈ (d2, listOf v2.toArray k2) :: (d1, listOf v1.toArray k1) :: (b, boxO d st t1 t2 n) :: rest, p ∈ all)
    (i1 : IntsAre v1 n1) (i2 : IntsAre v2 n2) (r1 : KBa.In n1) (r2 : KBa.In n2) (a1 : 1 ≤ n1.length) (a2 : 1 ≤ n2.length) (b1 : n1.length ≤ 20) (b2 : n2.length ≤ 40) (e1 : @Ne Nat d1 b) (e2 : @Ne Nat d2 b)
    (turn : ∀ (d1 d2 : Addr) (v1 v2 : List Value) (n1 n2 : List Int) (k1 k2 : Nat) h tk, IntsAre v1 n1 → IntsAre v2 n2 → KBa.In n1 → KBa.In n2 → 1 ≤ n1.length → 1 ≤ n2.length → n1.length ≤ 20 → n2.length ≤ 40 → @Ne Nat d1 b → @Ne Nat d2 b → Fr h₀ L h (WFr m₀ d1 d2) → News h₀ L h ((d2, listOf v2.toArray k2) :: (d1, listOf v1.toArray k1) :: (b, boxO d st t1 t2 n) :: rest) →
      wpAny (model prog w) A (isTrue test env (eval test env)) (fun β s₂ =>
        if β = true then wpAny (model prog w) A (execs body env) (WPost h₀ L s ((b, boxO d st t1 t2 n) :: rest) m₀ b 20 Q ⟨d1, d2, v1, v2, n1, n2, k1, k2⟩) E s₂ else Q .next s₂) E { s with heap := h, toks := tk })
    (hE : PassesOwn (model prog w) A env E := by passes_own) :
    wpAny (model prog w) A (exec (.While test body [] pos) env) Q E s := by
  refine ksw_while (σ := WS) (WLed ((b, boxO d st t1 t2 n) :: rest)) WPs (WOk b) [] (fun _ => True) (fun c => ((20 : Int) - c.n2.length).toNat) ⟨d1, d2, v1, v2, n1, n2, k1, k2⟩ F (fun p hp => N p (sub p hp)) ⟨i1, i2, r1, r2, a1, a2, b1, b2, e1, e2⟩ (List.forall_mem_cons.mpr ⟨g1, List.forall_mem_cons.mpr ⟨g2, List.forall_mem_nil _⟩⟩) trivial ?_ hE
  rintro ⟨d1, d2, v1, v2, n1, n2, k1, k2⟩ u h tk ⟨i1, i2, r1, r2, a1, a2, b1, b2, e1, e2⟩ _ F' N'
  refine turn d1 d2 v1 v2 n1 n2 k1 k2 h tk i1 i2 r1 r2 a1 a2 b1 b2 e1 e2 ?_ N'
  have e : WFr m₀ d1 d2 = kstB (fun z => if ([] : List Str).contains z then u z else m₀ z) (WPs ⟨d1, d2, v1, v2, n1, n2, k1, k2⟩) := by
    funext y
    simp [kstB, WPs, WFr]
  rw [e]; exact F'
theorem ws_end {m₀ m' : Str → Option Value} {base news' : List (Addr × Obj)} {b : Addr} {size : Int} {c : WS} {d1 d2 : Addr} {v1 v2 : List Value} {n1 n2 : List Int} {k1 k2 : Nat} {h' : Heap} {tk : Nat}
    (F : Fr h₀ L h' m') (g1 : m' (Str.ofString "last") = some (.ref d1)) (g2 : m' (Str.ofString "text") = some (.ref d2)) (N : News h₀ L h' news') (hn : ∀ p ∈ (d2, listOf v2.toArray k2) :: (d1, listOf v1.toArray k1) :: base, p ∈ news')
    (hr : ∀ z, z ≠ Str.ofString "last" → z ≠ Str.ofString "text" → m' z = m₀ z)
    (i1 : IntsAre v1 n1) (i2 : IntsAre v2 n2) (r1 : KBa.In n1) (r2 : KBa.In n2) (a1 : 1 ≤ n1.length) (a2 : 1 ≤ n2.length) (b1 : n1.length ≤ 20) (b2 : n2.length ≤ 40) (e1 : @Ne Nat d1 b) (e2 : @Ne Nat d2 b) (hlt : (c.n2.length : Int) < size) (hgr : c.n2.length < n2.length) :
    KswEnd (σ := WS) h₀ L s (WLed base) WPs (WOk b) [] m₀ (fun _ => True) (fun c => (size - c.n2.length).toNat) c { s with heap := h', toks := tk } := by
  refine ksw_end (σ := WS) ⟨d1, d2, v1, v2, n1, n2, k1, k2⟩ F N hn ⟨i1, i2, r1, r2, a1, a2, b1, b2, e1, e2⟩ (List.forall_mem_cons.mpr ⟨g1, List.forall_mem_cons.mpr ⟨g2, List.forall_mem_nil _⟩⟩) (fun z h1 _ => hr z (h1 _ (.head _)) (h1 _ (.tail _ (.head _)))) trivial ?_
  show (size - (n2.length : Int)).toNat < (size - (c.n2.length : Int)).toNat
  omega
end
theorem slice_up {prog : Program} {w : World} {A : Around} {E : Value → Shared → Prop} {s : Shared} {h₀ : Heap} {L l : Addr} {m : Str → Option Value} {news : List (Addr × Obj)} {Q : Value → Shared → Prop} {value slice : Expr} {vs : List Value} {ns : List Int} {nn : Nat} {y : Int} {ty : Tok}
    (F : Fr h₀ L s.heap m) (N : News h₀ L s.heap news) (hl : (l, listOf vs.toArray nn) ∈ news) (hi : IntsAre vs ns) (h0 : 0 ≤ y) (hsz : ns.length ≤ sizeLine)
    (h : ∀ D ws h', Fr h₀ L h' m → News h₀ L h' ((D, listOf (List.toArray ws) 0) :: news) → (∀ p ∈ news, p.1 < D) → IntsAre ws (ns.take y.toNat) → (ns.take y.toNat).length ≤ ns.length → (ns.take y.toNat).length = min y.toNat ns.length → Q (.ref D) { s with heap := h' })
    (hs : subscripted slice false (.ref l) (.ref s.heap.objs.size) = operate [.ref s.heap.objs.size, .ref l] (getItem (.ref l) (.ref s.heap.objs.size))) (ht : ∀ r, letTemporaryGo value (.ref l) r = pure ()) :
    wpAny (model prog w) A (subscriptTail value slice (.ref l) (.ref s.heap.objs.size)) Q E { s with heap := s.heap.push { cls := .type "slice", data := .fields #[.none, .int y ty, .none] } } := by
  refine kmk_slice_ints F N (PySem.IsL.isList (n := nn) (N _ hl).1) .none (.int y ty) hi (kmk_upto hi h0) rfl (fun D ws h' F' N' l1 h1 _ h3 => h D ws h' F' N' l1 h1 h3 (List.length_take ..)) hs ht ?_
  rw [List.size_toArray, hi.length]
  exact hsz
local macro_rules | `(tactic| k_updF) => `(tactic| first | (refine' UpdF.head ?a; (case a => k_all)) | (refine' UpdF.tail ?a ?b; (case b => k_updF); (case a => k_ne)) | fail)
local macro_rules | `(tactic| k_all) => `(tactic| k_extra "k_all")
local macro_rules | `(tactic| ktr_enter) => `(tactic| k_extra "ktr_enter")
local macro_rules | `(tactic| k_room) => `(tactic| k_extra "k_room")
local macro_rules | `(tactic| units_room) => `(tactic| k_extra "units_room")
local macro_rules | `(tactic| k_enter) => `(tactic| k_extra "k_enter")
local macro_rules | `(tactic| k_is) => `(tactic| k_extra "k_is")
local macro_rules | `(tactic| k_get) => `(tactic| k_extra "k_get")
local macro_rules | `(tactic| kba_in) => `(tactic| k_extra "kba_in")
local macro_rules | `(tactic| walk_at $s:str) => `(tactic| k_extra $s)
theorem rows1 : True := by
  k_with_none
  k_with "k_all" => (first | assumption | exact lt_all (by assumption) | exact off_all (by assumption) | ((repeat' (with_reducible rename _ ∧ _ => hc9; cases hc9)); first | exact lt_all (by assumption) | exact lt_all1 (by assumption) | exact lt_all2 (by assumption) | exact off_all (by assumption)) | (refine List.forall_mem_append.mpr (And.intro ?_ ?_) <;> k_all))
  k_with "ktr_enter" => (first   | (refine' code_def ?k1 ?k2 ?k3 ?k4 ?k5 ?kA ?kF ?kK ?k6 ?k7 ?k8 ?k9 ?kB ?_ ?c2 ?c3 ?c4 ?c5; (case kA => exact rfl); (case kF => exact rfl); (case kK => first | exact rfl | assumption); (case k1 => k_asm); (case k2 => k_asm); (case k3 => k_asm); (case k4 => k_asm); (case k5 => k_asm); (case k6 => k_is); (case k7 => k_is); (case k8 => ktr_room); (case k9 => first | exact BindsTo.of_eq rfl | exact binds_K (by k_in) rfl (by k_is) rfl rfl rfl); (case c5 => decide); (case kB => exact locs rfl); (case c2 => exact rfl); (case c3 => exact rfl); (case c4 => exact rfl); k_whole; intro g' L' h' FG' F' N' B' X' T'; (try dsimp only); (try k_lift B'); (try k_fold))   | (refine' code_defC ?k1 ?k2 ?k3 ?k4 ?k5 ?kA ?kF ?kK ?k6 ?k7 ?k8 ?k9 ?kB ?kD ?_ ?c2 ?c3 ?c4; (case kA => exact rfl); (case kF => exact rfl); (case kK => first | exact rfl | assumption); (case k1 => k_asm); (case k2 => k_asm); (case k3 => k_asm); (case k4 => k_asm); (case k5 => k_asm); (case k6 => k_is); (case k7 => k_is); (case k8 => ktr_room); (case k9 => first | exact BindsTo.of_eq rfl | exact binds_K (by k_in) rfl (by k_is) rfl rfl rfl); (case kB => exact rfl); (case kD => decide +kernel); (case c2 => exact rfl); (case c3 => exact rfl); (case c4 => exact rfl); k_whole; intro g' L' h' tk' cells' FG' F' N' Y' B' X' T' l1; (try k_lt l1); k_cells Y'; (try simp only [List.cons_append, List.nil_append] at N'); (try dsimp only); (try k_lift B'); (try k_fold)))
  k_with "k_room" => (ktr_room)
  k_with "units_room" => (ktr_units)
  k_with "k_enter" => (((fail_if_success k_inElt); ktr_enter))
  trivial
set_option maxRecDepth 100000 in
set_option maxHeartbeats 8000000 in
theorem take_raw (prog p : Program) (loose : List Str) (w : World) (mean : ExcName → Option Value) (mg mb : Str → Option Value) (dp un : Nat) (gd : Option (List Code)) (cn : Str) (cs : Scope) (a : Addr) (ccd : Value) (cl : List (Str × Addr)) (outer : List Env) (A₀ : Around) (base h₀ : Heap) (L : Addr) (m : Str → Option Value) (s : Shared) (Q E : Value → Shared → Prop)
    (b : Addr) (d st : Int) (t1 t2 tm : Tok) (n : Nat) (many : Int) (rest : List (Addr × Obj))
    (B : Below A₀ base outer h₀) (F : Fr h₀ L s.heap m) (X : (hd.heap_1 w.params).In h₀) (N : News h₀ L s.heap ((b, boxO d st t1 t2 n) :: rest)) (T : Top p loose mean mg mb h₀) (hk : cs.kind = .function)
    (hdp : dp + 1 < recursionLimit) (hun : un + 8 < cLine)
    (hdis : ∀ p ∈ rest, p.1 ≠ b) (hb : BoxOk d st) (hm1 : 1 ≤ many) (hm2 : many < 1000)
    (hret : ∀ (r : Int) (t : Tok) (d' st' : Int) (t1' t2' : Tok) (n' : Nat) (h' : Heap) (tk' : Nat), Fr h₀ L h' m → News h₀ L h' ((b, boxO d' st' t1' t2' n') :: rest) → BoxOk d' st' → 0 ≤ r → r < many → Q (.int r t) { s with heap := h', toks := tk' }) :
    Hint PySem.Challenge.rw_tg0038_02 hd.heap_1 (wpAny (model prog w) (ktrTop dp un gd cn cs L a ccd cl outer) (call (.ref 323) [.ref b, .int many tm]) Q E s) := by
  obtain ⟨hd0, hst, hst2⟩ := hb
  w_top off
  k_fill
  unfold Hint
  refine wpAny_call ?_
  k_dflt ktr_enter
  k_steps
  · refine hret _ _ _ _ _ _ _ _ _ (by k_asm) (by k_asm) ⟨?_, ?_, ?_⟩ ?_ ?_
    · show 0 ≤ d.fdiv many
      exact fd_lo hd0 hm1
    · exact hst
    · exact hst2
    · show 0 ≤ d.fmod many
      exact fm_lo _ hm1
    · show d.fmod many < many
      exact fm_hi _ hm1
  · refine hret _ _ _ _ _ _ _ _ _ (by k_asm) (by k_asm) ⟨?_, ?_, ?_⟩ ?_ ?_
    · exact hd0
    · exact fm_lo _ (by decide)
    · exact fm_hi _ (by decide)
    · exact fm_lo _ hm1
    · exact fm_hi _ hm1
theorem take_use {prog p : Program} {loose : List Str} {w : World} {mean : ExcName → Option Value} {mg mb : Str → Option Value} {dp un : Nat} {gd : Option (List Code)} {cn : Str} {cs : Scope} {a : Addr} {ccd : Value} {cl : List (Str × Addr)} {outer : List Env} {A₀ : Around} {base h₀ : Heap} {L : Addr} {m : Str → Option Value} {s : Shared} {Q E : Value → Shared → Prop}
    {b : Addr} {d st : Int} {t1 t2 tm : Tok} {n : Nat} {many : Int} {news : List (Addr × Obj)} {g : Obj → List (Addr × Obj)}
    (B : Below A₀ base outer h₀) (F : Fr h₀ L s.heap m) (X : (hd.heap_1 w.params).In h₀) (N : News h₀ L s.heap news) (T : Top p loose mean mg mb h₀) (hk : cs.kind = .function)
    (hdp : dp + 1 < recursionLimit) (hun : un + 8 < cLine)
    (U : UpdF b (boxO d st t1 t2 n) news g) (hb : BoxOk d st) (hm1 : 1 ≤ many) (hm2 : many < 1000)
    (hret : ∀ (r : Int) (t : Tok) (d' st' : Int) (t1' t2' : Tok) (n' : Nat) (h' : Heap) (tk' : Nat), Fr h₀ L h' m → News h₀ L h' (g (boxO d' st' t1' t2' n')) → BoxOk d' st' → 0 ≤ r → r < many → Q (.int r t) { s with heap := h', toks := tk' }) :
    wpAny (model prog w) (ktrTop dp un gd cn cs L a ccd cl outer) (call (.ref 323) [.ref b, .int many tm]) Q E s := by
  obtain ⟨rest, hdis, hin, hto, hof⟩ := UpdF.turn U
  exact Hint.out (take_raw prog p loose w mean mg mb dp un gd cn cs a ccd cl outer A₀ base h₀ L m s Q E b d st t1 t2 tm n many rest B F X (fun q hq => N q (hin q hq)) T hk hdp hun hdis hb hm1 hm2
    fun r t d' st' t1' t2' n' h' tk' F' N' hb' r0 r1 => hret r t d' st' t1' t2' n' h' tk' F' (fun q hq => N' q (hof _ q hq)) hb' r0 r1)
theorem rows2 : True := by
  k_with_none
  k_with "k_all" => (first | assumption | exact lt_all (by assumption) | exact off_all (by assumption) | ((repeat' (with_reducible rename _ ∧ _ => hc9; cases hc9)); first | exact lt_all (by assumption) | exact lt_all1 (by assumption) | exact lt_all2 (by assumption) | exact off_all (by assumption)) | (refine List.forall_mem_append.mpr (And.intro ?_ ?_) <;> k_all))
  k_with "ktr_enter" => (first   | (refine' code_def ?k1 ?k2 ?k3 ?k4 ?k5 ?kA ?kF ?kK ?k6 ?k7 ?k8 ?k9 ?kB ?_ ?c2 ?c3 ?c4 ?c5; (case kA => exact rfl); (case kF => exact rfl); (case kK => first | exact rfl | assumption); (case k1 => k_asm); (case k2 => k_asm); (case k3 => k_asm); (case k4 => k_asm); (case k5 => k_asm); (case k6 => k_is); (case k7 => k_is); (case k8 => ktr_room); (case k9 => first | exact BindsTo.of_eq rfl | exact binds_K (by k_in) rfl (by k_is) rfl rfl rfl); (case c5 => decide); (case kB => exact locs rfl); (case c2 => exact rfl); (case c3 => exact rfl); (case c4 => exact rfl); k_whole; intro g' L' h' FG' F' N' B' X' T'; (try dsimp only); (try k_lift B'); (try k_fold))   | (refine' code_defC ?k1 ?k2 ?k3 ?k4 ?k5 ?kA ?kF ?kK ?k6 ?k7 ?k8 ?k9 ?kB ?kD ?_ ?c2 ?c3 ?c4; (case kA => exact rfl); (case kF => exact rfl); (case kK => first | exact rfl | assumption); (case k1 => k_asm); (case k2 => k_asm); (case k3 => k_asm); (case k4 => k_asm); (case k5 => k_asm); (case k6 => k_is); (case k7 => k_is); (case k8 => ktr_room); (case k9 => first | exact BindsTo.of_eq rfl | exact binds_K (by k_in) rfl (by k_is) rfl rfl rfl); (case kB => exact rfl); (case kD => decide +kernel); (case c2 => exact rfl); (case c3 => exact rfl); (case c4 => exact rfl); k_whole; intro g' L' h' tk' cells' FG' F' N' Y' B' X' T' l1; (try k_lt l1); k_cells Y'; (try simp only [List.cons_append, List.nil_append] at N'); (try dsimp only); (try k_lift B'); (try k_fold)))
  k_with "k_room" => (ktr_room)
  k_with "units_room" => (ktr_units)
  k_with "k_enter" => (((fail_if_success k_inElt); ktr_enter))
  k_with "call ref" => ((k_here; (with_reducible show wpAny _ _ (call (Value.ref 323) _ _) _ _ _); k_dflt (refine' take_use ?k1 ?k2 ?k3 ?k4 ?k5 ?kK ?kd ?ku ?kU ?kb ?p1 ?p2 ?_; (case k1 => k_asm); (case k2 => k_asm); (case k3 => k_asm); (case k4 => k_asm); (case k5 => k_asm); (case kK => first | exact rfl | assumption); (case kd => ktr_room); (case ku => ktr_units); (case kU => k_updF); (case kb => assumption); (case p1 => first | decide | omega); (case p2 => first | decide | omega); k_whole); intro r' t' d' st' t1' t2' n' h' tk' F' N' hb' hr0' hr1'; (try dsimp only); (try k_fold)))
  k_with "CompSrc" => ((k_here; k_dflt (refine LCg.CompSrc.range (by rfl) (by k_asm) (by k_asm) (by assumption) (by exact small_one (by omega) (by omega) (by omega) (by omega)) (by exact rangeSize_nat _ _) (by rw [PySem.sizeLine_eq]; omega) ?_); intro g'; (refine' word_rest 97 99 ?kU ?kb ?kT ?kV; (case kU => k_updF); (case kb => assumption)); (case' kT => intro k' t' ys' I' oI' C' oC' D' m' h' tk' E' d' st' t1' t2' n' hb' hC' hx' F' N' off' ne'; (try simp only [LCg.Off3, and_true] at off'); (try k_fold)); (case' kV => intro ys' ns' d' st' t1' t2' n' hy' hl' hr' hb')))
  k_with "CompEnd" => ((k_dflt (refine' take_el ?kF ?kN ?ksub ?koff ?kS ?kb ?k1 ?k2; (case kF => assumption); (case kN => assumption); (case ksub => (try dsimp only); kcf_all); (case kb => assumption); (case koff => first | assumption | ((simp only [LCg.Off3, and_true]); assumption)); (case kS => trivial); (case k1 => omega); (case k2 => omega))))
  trivial
set_option maxRecDepth 100000 in
set_option maxHeartbeats 8000000 in
theorem word_raw (prog p : Program) (loose : List Str) (w : World) (mean : ExcName → Option Value) (mg mb : Str → Option Value) (dp un : Nat) (gd : Option (List Code)) (cn : Str) (cs : Scope) (a : Addr) (ccd : Value) (cl : List (Str × Addr)) (outer : List Env) (A₀ : Around) (base h₀ : Heap) (L : Addr) (m : Str → Option Value) (s : Shared) (Q E : Value → Shared → Prop)
    (b : Addr) (d st : Int) (t1 t2 tm : Tok) (n : Nat) (size : Int) (rest : List (Addr × Obj))
    (B : Below A₀ base outer h₀) (F : Fr h₀ L s.heap m) (X : (hd.heap_1 w.params).In h₀) (N : News h₀ L s.heap ((b, boxO d st t1 t2 n) :: rest)) (T : Top p loose mean mg mb h₀) (hk : cs.kind = .function)
    (hdp : dp + 2 < recursionLimit) (hun : un + 16 < cLine)
    (hdis : ∀ p ∈ rest, p.1 ≠ b) (hb : BoxOk d st) (hm1 : 0 ≤ size) (hm2 : size < 100)
    (hret : ∀ (l : Addr) (ys : List Value) (ns : List Int) (nn : Nat) (d' st' : Int) (t1' t2' : Tok) (n' : Nat) (h' : Heap) (tk' : Nat), Fr h₀ L h' m → News h₀ L h' ((l, listOf ys.toArray nn) :: (b, boxO d' st' t1' t2' n') :: rest) → PyProof.Rows.LCg.Off1 l ((b, boxO d' st' t1' t2' n') :: rest) → IntsAre ys ns → (ns.length : Int) = size → (∀ k ∈ ns, 97 ≤ k ∧ k ≤ 99) → BoxOk d' st' → Q (.ref l) { s with heap := h', toks := tk' }) :
    Hint PySem.Challenge.rw_tg0038_02 hd.heap_1 (wpAny (model prog w) (ktrTop dp un gd cn cs L a ccd cl outer) (call (.ref 328) [.ref b, .int size tm]) Q E s) := by
  w_top off
  k_fill
  unfold Hint
  refine wpAny_call ?_
  k_dflt ktr_enter
  k_steps
  refine' hret _ _ _ _ _ _ _ _ _ _ _ ?kF (cb_drop ?kN ?ks) ?ko ?ki ?kl ?kr ?kb
  case kF => k_asm
  case kN => k_asm
  case ki => assumption
  case kb => assumption
  case kr => assumption
  case ks => kcf_all
  case kl => omega
  case ko => simp only [LCg.Off1] at *; simp_all
theorem word_use {prog p : Program} {loose : List Str} {w : World} {mean : ExcName → Option Value} {mg mb : Str → Option Value} {dp un : Nat} {gd : Option (List Code)} {cn : Str} {cs : Scope} {a : Addr} {ccd : Value} {cl : List (Str × Addr)} {outer : List Env} {A₀ : Around} {base h₀ : Heap} {L : Addr} {m : Str → Option Value} {s : Shared} {Q E : Value → Shared → Prop}
    {b : Addr} {d st : Int} {t1 t2 tm : Tok} {n : Nat} {size : Int} {news : List (Addr × Obj)} {g : Obj → List (Addr × Obj)}
    (B : Below A₀ base outer h₀) (F : Fr h₀ L s.heap m) (X : (hd.heap_1 w.params).In h₀) (N : News h₀ L s.heap news) (T : Top p loose mean mg mb h₀) (hk : cs.kind = .function)
    (hdp : dp + 2 < recursionLimit) (hun : un + 16 < cLine)
    (U : UpdF b (boxO d st t1 t2 n) news g) (hb : BoxOk d st) (hm1 : 0 ≤ size) (hm2 : size < 100)
    (hret : ∀ (l : Addr) (ys : List Value) (ns : List Int) (nn : Nat) (d' st' : Int) (t1' t2' : Tok) (n' : Nat) (h' : Heap) (tk' : Nat), Fr h₀ L h' m → News h₀ L h' ((l, listOf ys.toArray nn) :: g (boxO d' st' t1' t2' n')) → PyProof.Rows.LCg.Off1 l (g (boxO d' st' t1' t2' n')) → IntsAre ys ns → (ns.length : Int) = size → (∀ k ∈ ns, 97 ≤ k ∧ k ≤ 99) → BoxOk d' st' → Q (.ref l) { s with heap := h', toks := tk' }) :
    wpAny (model prog w) (ktrTop dp un gd cn cs L a ccd cl outer) (call (.ref 328) [.ref b, .int size tm]) Q E s := by
  obtain ⟨rest, hdis, hin, hto, hof⟩ := UpdF.turn U
  refine Hint.out (word_raw prog p loose w mean mg mb dp un gd cn cs a ccd cl outer A₀ base h₀ L m s Q E b d st t1 t2 tm n size rest B F X (fun q hq => N q (hin q hq)) T hk hdp hun hdis hb hm1 hm2 ?_)
  intro l ys ns nn d' st' t1' t2' n' h' tk' F' N' off hy hl hr hb'
  refine hret l ys ns nn d' st' t1' t2' n' h' tk' F' (fun q hq => N' q ?_) (all_off fun q hq => off_all off q (hof _ q hq)) hy hl hr hb'
  rcases List.mem_cons.mp hq with rfl | hq
  · exact .head _
  · exact .tail _ (hof _ q hq)
theorem rows3 : True := by
  k_with_none
  k_with "k_all" => (first | assumption | exact lt_all (by assumption) | exact off_all (by assumption) | ((repeat' (with_reducible rename _ ∧ _ => hc9; cases hc9)); first | exact lt_all (by assumption) | exact lt_all1 (by assumption) | exact lt_all2 (by assumption) | exact off_all (by assumption)) | (refine List.forall_mem_append.mpr (And.intro ?_ ?_) <;> k_all))
  k_with "ktr_enter" => (first   | (refine' code_def ?k1 ?k2 ?k3 ?k4 ?k5 ?kA ?kF ?kK ?k6 ?k7 ?k8 ?k9 ?kB ?_ ?c2 ?c3 ?c4 ?c5; (case kA => exact rfl); (case kF => exact rfl); (case kK => first | exact rfl | assumption); (case k1 => k_asm); (case k2 => k_asm); (case k3 => k_asm); (case k4 => k_asm); (case k5 => k_asm); (case k6 => k_is); (case k7 => k_is); (case k8 => ktr_room); (case k9 => first | exact BindsTo.of_eq rfl | exact binds_K (by k_in) rfl (by k_is) rfl rfl rfl); (case c5 => decide); (case kB => exact locs rfl); (case c2 => exact rfl); (case c3 => exact rfl); (case c4 => exact rfl); k_whole; intro g' L' h' FG' F' N' B' X' T'; (try dsimp only); (try k_lift B'); (try k_fold))   | (refine' code_defC ?k1 ?k2 ?k3 ?k4 ?k5 ?kA ?kF ?kK ?k6 ?k7 ?k8 ?k9 ?kB ?kD ?_ ?c2 ?c3 ?c4; (case kA => exact rfl); (case kF => exact rfl); (case kK => first | exact rfl | assumption); (case k1 => k_asm); (case k2 => k_asm); (case k3 => k_asm); (case k4 => k_asm); (case k5 => k_asm); (case k6 => k_is); (case k7 => k_is); (case k8 => ktr_room); (case k9 => first | exact BindsTo.of_eq rfl | exact binds_K (by k_in) rfl (by k_is) rfl rfl rfl); (case kB => exact rfl); (case kD => decide +kernel); (case c2 => exact rfl); (case c3 => exact rfl); (case c4 => exact rfl); k_whole; intro g' L' h' tk' cells' FG' F' N' Y' B' X' T' l1; (try k_lt l1); k_cells Y'; (try simp only [List.cons_append, List.nil_append] at N'); (try dsimp only); (try k_lift B'); (try k_fold)))
  k_with "k_room" => (ktr_room)
  k_with "units_room" => (ktr_units)
  k_with "k_enter" => (((fail_if_success k_inElt); ktr_enter))
  k_with "k_is" => (with_reducible assumption)
  k_with "k_get" => (with_reducible assumption)
  trivial
theorem alike_end {ks : List Int} {place other limit k : Int} (hp : 0 ≤ place) (ho : 0 ≤ other) (hl : 0 ≤ limit) (h1 : 0 ≤ k) (h2 : k ≤ max 0 limit)
    (h3 : ∀ j : Int, 0 ≤ j → j < k → (if j < limit then if (ks.getD (place + j).toNat 0 == ks.getD (other + j).toNat 0) = true then true else false else false) = true)
    (h4 : (if k < limit then if (ks.getD (place + k).toNat 0 == ks.getD (other + k).toNat 0) = true then true else false else false) = false) :
    ∃ c : Nat, k = (c : Int) ∧ IsAl (fOf ks) place.toNat other.toNat limit.toNat c := by
  obtain ⟨c, rfl⟩ := Int.eq_ofNat_of_zero_le h1
  obtain ⟨p, rfl⟩ := Int.eq_ofNat_of_zero_le hp
  obtain ⟨o, rfl⟩ := Int.eq_ofNat_of_zero_le ho
  obtain ⟨l, rfl⟩ := Int.eq_ofNat_of_zero_le hl
  refine ⟨c, rfl, ?_, ?_, ?_⟩
  · simp only [Int.toNat_natCast] at *; omega
  · intro x hx
    have := h3 x (by omega) (by omega)
    simp only [← Int.natCast_add, Int.toNat_natCast] at this ⊢
    by_cases q : (x : Int) < l
    · rw [if_pos q] at this
      simpa using this
    · rw [if_neg q] at this; cases this
  · intro hx
    simp only [← Int.natCast_add, Int.toNat_natCast] at h4 hx ⊢
    rw [if_pos (by omega)] at h4
    simpa using h4
set_option maxRecDepth 100000 in
set_option maxHeartbeats 8000000 in
theorem alike_raw (prog p : Program) (loose : List Str) (w : World) (mean : ExcName → Option Value) (mg mb : Str → Option Value) (dp un : Nat) (gd : Option (List Code)) (cn : Str) (cs : Scope) (a : Addr) (ccd : Value) (cl : List (Str × Addr)) (outer : List Env) (A₀ : Around) (base h₀ : Heap) (L : Addr) (m : Str → Option Value) (s : Shared) (Q E : Value → Shared → Prop)
    (x C dx : Addr) (es : List DictEntry) (n : Nat) (bs : Array UInt8) (ks : List Int) (tb t1 t2 t3 t4 : Tok) (place other limit : Int) (news : List (Addr × Obj))
    (B : Below A₀ base outer h₀) (F : Fr h₀ L s.heap m) (X : (hd.heap_1 w.params).In h₀) (N : News h₀ L s.heap news) (T : Top p loose mean mg mb h₀) (hk : cs.kind = .function)
    (hdp : dp + 1 < recursionLimit) (hun : un + 8 < cLine)
    (hx : (x, instObj C dx) ∈ news) (hdx : (dx, dictOf es n) ∈ news) (hbs : KBw.bInts bs = ks)
    (k1 : plainGet (hd.heap_1 w.params) C (Str.ofString "octets") = true) (k2 : hasDictIn (hd.heap_1 w.params) C = true) (k3 : findIn (hd.heap_1 w.params) (.ref C) (Str.ofString "octets") = some none)
    (g1 : getL (Str.ofString "octets") es = some (some (.bytes bs tb)))
    (hlen : ks.length ≤ 1000) (hp0 : 0 ≤ place) (ho0 : 0 ≤ other) (hop : other < place) (hl0 : 0 ≤ limit) (hl1 : place + limit ≤ ks.length)
    (hret : ∀ (c : Nat) (t : Tok) (h' : Heap) (tk' : Nat), Fr h₀ L h' m → News h₀ L h' news → IsAl (fOf ks) place.toNat other.toNat limit.toNat c → Q (.int c t) { s with heap := h', toks := tk' }) :
    Hint PySem.Challenge.rw_tg0038_02 hd.heap_1 (wpAny (model prog w) (ktrTop dp un gd cn cs L a ccd cl outer) (call (.ref 152) [.ref x, .int place t1, .int other t2, .int 0 t3, .int limit t4]) Q E s) := by
  w_top off
  k_fill
  unfold Hint
  refine wpAny_call ?_
  k_dflt ktr_enter
  k_steps
  rename (∀ j : Int, 0 ≤ j → j < _ → _ = true) => hA
  rename (_ = false) => hB
  obtain ⟨c, rfl, hc⟩ := alike_end hp0 ho0 hl0 (by assumption) (by assumption) hA hB
  exact hret _ _ _ _ (by k_asm) (by k_asm) hc
theorem alike_use {prog p : Program} {loose : List Str} {w : World} {mean : ExcName → Option Value} {mg mb : Str → Option Value} {dp un : Nat} {gd : Option (List Code)} {cn : Str} {cs : Scope} {a : Addr} {ccd : Value} {cl : List (Str × Addr)} {outer : List Env} {A₀ : Around} {base h₀ : Heap} {L : Addr} {m : Str → Option Value} {s : Shared} {Q E : Value → Shared → Prop}
    {x C dx : Addr} {es : List DictEntry} {n : Nat} {bs : Array UInt8} {ks : List Int} {tb t1 t2 t3 t4 : Tok} {place other limit : Int} {news : List (Addr × Obj)}
    (B : Below A₀ base outer h₀) (F : Fr h₀ L s.heap m) (X : (hd.heap_1 w.params).In h₀) (N : News h₀ L s.heap news) (T : Top p loose mean mg mb h₀) (hk : cs.kind = .function)
    (hdp : dp + 1 < recursionLimit) (hun : un + 8 < cLine)
    (hx : (x, instObj C dx) ∈ news) (hdx : (dx, dictOf es n) ∈ news) (hbs : KBw.bInts bs = ks)
    (k1 : plainGet (hd.heap_1 w.params) C (Str.ofString "octets") = true) (k2 : hasDictIn (hd.heap_1 w.params) C = true) (k3 : findIn (hd.heap_1 w.params) (.ref C) (Str.ofString "octets") = some none)
    (g1 : getL (Str.ofString "octets") es = some (some (.bytes bs tb)))
    (hlen : ks.length ≤ 1000) (hp0 : 0 ≤ place) (ho0 : 0 ≤ other) (hop : other < place) (hl0 : 0 ≤ limit) (hl1 : place + limit ≤ ks.length)
    (hret : ∀ (c : Nat) (t : Tok) (h' : Heap) (tk' : Nat), Fr h₀ L h' m → News h₀ L h' news → IsAl (fOf ks) place.toNat other.toNat limit.toNat c → Q (.int c t) { s with heap := h', toks := tk' }) :
    wpAny (model prog w) (ktrTop dp un gd cn cs L a ccd cl outer) (call (.ref 152) [.ref x, .int place t1, .int other t2, .int 0 t3, .int limit t4]) Q E s :=
  Hint.out (alike_raw prog p loose w mean mg mb dp un gd cn cs a ccd cl outer A₀ base h₀ L m s Q E x C dx es n bs ks tb t1 t2 t3 t4 place other limit news B F X N T hk hdp hun hx hdx hbs k1 k2 k3 g1 hlen hp0 ho0 hop hl0 hl1 hret)
theorem rows4 : True := by
  k_with_none
  k_with "k_all" => (first | assumption | exact lt_all (by assumption) | exact off_all (by assumption) | ((repeat' (with_reducible rename _ ∧ _ => hc9; cases hc9)); first | exact lt_all (by assumption) | exact lt_all1 (by assumption) | exact lt_all2 (by assumption) | exact off_all (by assumption)) | (refine List.forall_mem_append.mpr (And.intro ?_ ?_) <;> k_all))
  k_with "ktr_enter" => (first   | (refine' code_def ?k1 ?k2 ?k3 ?k4 ?k5 ?kA ?kF ?kK ?k6 ?k7 ?k8 ?k9 ?kB ?_ ?c2 ?c3 ?c4 ?c5; (case kA => exact rfl); (case kF => exact rfl); (case kK => first | exact rfl | assumption); (case k1 => k_asm); (case k2 => k_asm); (case k3 => k_asm); (case k4 => k_asm); (case k5 => k_asm); (case k6 => k_is); (case k7 => k_is); (case k8 => ktr_room); (case k9 => first | exact BindsTo.of_eq rfl | exact binds_K (by k_in) rfl (by k_is) rfl rfl rfl); (case c5 => decide); (case kB => exact locs rfl); (case c2 => exact rfl); (case c3 => exact rfl); (case c4 => exact rfl); k_whole; intro g' L' h' FG' F' N' B' X' T'; (try dsimp only); (try k_lift B'); (try k_fold))   | (refine' code_defC ?k1 ?k2 ?k3 ?k4 ?k5 ?kA ?kF ?kK ?k6 ?k7 ?k8 ?k9 ?kB ?kD ?_ ?c2 ?c3 ?c4; (case kA => exact rfl); (case kF => exact rfl); (case kK => first | exact rfl | assumption); (case k1 => k_asm); (case k2 => k_asm); (case k3 => k_asm); (case k4 => k_asm); (case k5 => k_asm); (case k6 => k_is); (case k7 => k_is); (case k8 => ktr_room); (case k9 => first | exact BindsTo.of_eq rfl | exact binds_K (by k_in) rfl (by k_is) rfl rfl rfl); (case kB => exact rfl); (case kD => decide +kernel); (case c2 => exact rfl); (case c3 => exact rfl); (case c4 => exact rfl); k_whole; intro g' L' h' tk' cells' FG' F' N' Y' B' X' T' l1; (try k_lt l1); k_cells Y'; (try simp only [List.cons_append, List.nil_append] at N'); (try dsimp only); (try k_lift B'); (try k_fold)))
  k_with "k_room" => (ktr_room)
  k_with "units_room" => (ktr_units)
  k_with "k_enter" => (((fail_if_success k_inElt); ktr_enter))
  k_with "k_is" => (with_reducible assumption)
  k_with "k_get" => (with_reducible assumption)
  k_with "call ref" => ((k_here; (with_reducible show wpAny _ _ (call (Value.ref 152) _ _) _ _ _); k_dflt (refine' alike_use ?k1 ?k2 ?k3 ?k4 ?k5 ?kK ?kd ?ku ?hx ?hdx ?hb ?e1 ?e2 ?e3 ?g1 ?p0 ?p1 ?p2 ?p3 ?p4 ?p5 ?_; (case k1 => k_asm); (case k2 => k_asm); (case k3 => k_asm); (case k4 => k_asm); (case k5 => k_asm); (case kK => first | exact rfl | assumption); (case kd => ktr_room); (case ku => ktr_units); (case hx => k_mem); (case hdx => k_mem); (case hb => assumption); (case e1 => assumption); (case e2 => assumption); (case e3 => assumption); (case g1 => assumption); (case p0 => assumption); (case p1 => omega); (case p2 => omega); (case p3 => omega); (case p4 => omega); (case p5 => omega); k_whole); intro c' t' h' tk' F' N' hAl'; (try dsimp only); (try k_fold)))
  trivial
/-- the part of the text that a finder's class is asked of -/
structure ClsOk (K : Frag) (C : Addr) : Prop where
  p1 : plainGet K C (Str.ofString "octets") = true
  p2 : plainGet K C (Str.ofString "window") = true
  p3 : plainGet K C (Str.ofString "length") = true
  p4 : plainGet K C (Str.ofString "alike") = true
  p5 : plainGet K C (Str.ofString "limit") = true
  hd : hasDictIn K C = true
  f1 : findIn K (.ref C) (Str.ofString "octets") = some none
  f2 : findIn K (.ref C) (Str.ofString "window") = some none
  f3 : findIn K (.ref C) (Str.ofString "length") = some (some (.ref 145))
  f4 : findIn K (.ref C) (Str.ofString "alike") = some (some (.ref 152))
  f5 : findIn K (.ref C) (Str.ofString "limit") = some (some (.ref 138))
  p6 : plainGet K C (Str.ofString "repeat") = true
  f6 : findIn K (.ref C) (Str.ofString "repeat") = some (some (.ref 166))
structure ObjOk (es : List DictEntry) (bs : Array UInt8) (tb : Tok) (win : Int) (tw : Tok) : Prop where
  g1 : getL (Str.ofString "octets") es = some (some (.bytes bs tb))
  g2 : getL (Str.ofString "window") es = some (some (.int win tw))
  g3 : getL (Str.ofString "length") es = some none
  g4 : getL (Str.ofString "alike") es = some none
  g5 : getL (Str.ofString "limit") es = some none
  g6 : getL (Str.ofString "repeat") es = some none
set_option maxRecDepth 100000 in
set_option maxHeartbeats 8000000 in
theorem repeat_raw (prog p : Program) (loose : List Str) (w : World) (mean : ExcName → Option Value) (mg mb : Str → Option Value) (dp un : Nat) (gd : Option (List Code)) (cn : Str) (cs : Scope) (a : Addr) (ccd : Value) (cl : List (Str × Addr)) (outer : List Env) (A₀ : Around) (base h₀ : Heap) (L : Addr) (m : Str → Option Value) (s : Shared) (Q E : Value → Shared → Prop)
    (x C dx : Addr) (es : List DictEntry) (n : Nat) (bs : Array UInt8) (ks : List Int) (tb tw t1 t2 t3 : Tok) (win place dist most : Int) (news : List (Addr × Obj))
    (B : Below A₀ base outer h₀) (F : Fr h₀ L s.heap m) (X : (hd.heap_1 w.params).In h₀) (N : News h₀ L s.heap news) (T : Top p loose mean mg mb h₀) (hk : cs.kind = .function)
    (hdp : dp + 3 < recursionLimit) (hun : un + 24 < cLine)
    (hx : (x, instObj C dx) ∈ news) (hdx : (dx, dictOf es n) ∈ news) (hbs : KBw.bInts bs = ks)
    (hC : ClsOk (hd.heap_1 w.params) C) (hO : ObjOk es bs tb win tw)
    (hlen : ks.length ≤ 1000) (hp0 : 0 ≤ place) (hp1 : place ≤ ks.length) (hm0 : 0 ≤ most)
    (hret : ∀ (c : Nat) (t : Tok) (h' : Heap) (tk' : Nat), Fr h₀ L h' m → News h₀ L h' news → IsR ks win place dist most c → Q (.int c t) { s with heap := h', toks := tk' }) :
    Hint PySem.Challenge.rw_tg0038_02 hd.heap_1 (wpAny (model prog w) (ktrTop dp un gd cn cs L a ccd cl outer) (call (.ref 166) [.ref x, .int place t1, .int dist t2, .int most t3]) Q E s) := by
  obtain ⟨a1, a2, a3, a4, a5, a6, a7, a8, a9, a10, a11, a12, a13⟩ := hC
  obtain ⟨g1, g2, g3, g4, g5, g6⟩ := hO
  w_top off
  k_fill
  unfold Hint
  refine wpAny_call ?_
  k_dflt ktr_enter
  k_steps
  · exact hret 0 _ _ _ (by k_asm) (by k_asm) ⟨fun _ => rfl, fun h1 h2 h3 => by omega⟩
  · exact hret 0 _ _ _ (by k_asm) (by k_asm) ⟨fun _ => rfl, fun h1 h2 h3 => by omega⟩
  · exact hret 0 _ _ _ (by k_asm) (by k_asm) ⟨fun _ => rfl, fun h1 h2 h3 => by omega⟩
  · rename (IsAl _ _ _ _ _) => hA
    refine hret _ _ _ _ (by k_asm) (by k_asm) ⟨fun h => by omega, fun h1 h2 h3 => ?_⟩
    rw [show (place - dist).toNat = place.toNat - dist.toNat by omega] at hA
    rw [show (if (ks.length : Int) - place < most then (ks.length : Int) - place else most) = min most ((ks.length : Int) - place) by split <;> omega] at hA
    exact hA
theorem repeat_use {prog p : Program} {loose : List Str} {w : World} {mean : ExcName → Option Value} {mg mb : Str → Option Value} {dp un : Nat} {gd : Option (List Code)} {cn : Str} {cs : Scope} {a : Addr} {ccd : Value} {cl : List (Str × Addr)} {outer : List Env} {A₀ : Around} {base h₀ : Heap} {L : Addr} {m : Str → Option Value} {s : Shared} {Q E : Value → Shared → Prop}
    {x C dx : Addr} {es : List DictEntry} {n : Nat} {bs : Array UInt8} {ks : List Int} {tb tw t1 t2 t3 : Tok} {win place dist most : Int} {news : List (Addr × Obj)}
    (B : Below A₀ base outer h₀) (F : Fr h₀ L s.heap m) (X : (hd.heap_1 w.params).In h₀) (N : News h₀ L s.heap news) (T : Top p loose mean mg mb h₀) (hk : cs.kind = .function)
    (hdp : dp + 3 < recursionLimit) (hun : un + 24 < cLine)
    (hx : (x, instObj C dx) ∈ news) (hdx : (dx, dictOf es n) ∈ news) (hbs : KBw.bInts bs = ks)
    (hC : ClsOk (hd.heap_1 w.params) C) (hO : ObjOk es bs tb win tw)
    (hlen : ks.length ≤ 1000) (hp0 : 0 ≤ place) (hp1 : place ≤ ks.length) (hm0 : 0 ≤ most)
    (hret : ∀ (c : Nat) (t : Tok) (h' : Heap) (tk' : Nat), Fr h₀ L h' m → News h₀ L h' news → IsR ks win place dist most c → Q (.int c t) { s with heap := h', toks := tk' }) :
    wpAny (model prog w) (ktrTop dp un gd cn cs L a ccd cl outer) (call (.ref 166) [.ref x, .int place t1, .int dist t2, .int most t3]) Q E s :=
  Hint.out (repeat_raw prog p loose w mean mg mb dp un gd cn cs a ccd cl outer A₀ base h₀ L m s Q E x C dx es n bs ks tb tw t1 t2 t3 win place dist most news B F X N T hk hdp hun hx hdx hbs hC hO hlen hp0 hp1 hm0 hret)
theorem rows5 : True := by
  k_with_none
  k_with "k_all" => (first | assumption | exact lt_all (by assumption) | exact off_all (by assumption) | ((repeat' (with_reducible rename _ ∧ _ => hc9; cases hc9)); first | exact lt_all (by assumption) | exact lt_all1 (by assumption) | exact lt_all2 (by assumption) | exact off_all (by assumption)) | (refine List.forall_mem_append.mpr (And.intro ?_ ?_) <;> k_all))
  k_with "ktr_enter" => (first   | (refine' code_def ?k1 ?k2 ?k3 ?k4 ?k5 ?kA ?kF ?kK ?k6 ?k7 ?k8 ?k9 ?kB ?_ ?c2 ?c3 ?c4 ?c5; (case kA => exact rfl); (case kF => exact rfl); (case kK => first | exact rfl | assumption); (case k1 => k_asm); (case k2 => k_asm); (case k3 => k_asm); (case k4 => k_asm); (case k5 => k_asm); (case k6 => k_is); (case k7 => k_is); (case k8 => ktr_room); (case k9 => first | exact BindsTo.of_eq rfl | exact binds_K (by k_in) rfl (by k_is) rfl rfl rfl); (case c5 => decide); (case kB => exact locs rfl); (case c2 => exact rfl); (case c3 => exact rfl); (case c4 => exact rfl); k_whole; intro g' L' h' FG' F' N' B' X' T'; (try dsimp only); (try k_lift B'); (try k_fold))   | (refine' code_defC ?k1 ?k2 ?k3 ?k4 ?k5 ?kA ?kF ?kK ?k6 ?k7 ?k8 ?k9 ?kB ?kD ?_ ?c2 ?c3 ?c4; (case kA => exact rfl); (case kF => exact rfl); (case kK => first | exact rfl | assumption); (case k1 => k_asm); (case k2 => k_asm); (case k3 => k_asm); (case k4 => k_asm); (case k5 => k_asm); (case k6 => k_is); (case k7 => k_is); (case k8 => ktr_room); (case k9 => first | exact BindsTo.of_eq rfl | exact binds_K (by k_in) rfl (by k_is) rfl rfl rfl); (case kB => exact rfl); (case kD => decide +kernel); (case c2 => exact rfl); (case c3 => exact rfl); (case c4 => exact rfl); k_whole; intro g' L' h' tk' cells' FG' F' N' Y' B' X' T' l1; (try k_lt l1); k_cells Y'; (try simp only [List.cons_append, List.nil_append] at N'); (try dsimp only); (try k_lift B'); (try k_fold)))
  k_with "k_room" => (ktr_room)
  k_with "units_room" => (ktr_units)
  k_with "k_enter" => (((fail_if_success k_inElt); ktr_enter))
  k_with "call type:bytes" => ((k_here; (with_reducible show wpAny _ _ (call (Value.type "bytes") [Value.bytes _ _]) _ _ _); refine call_bytes_self ?_))
  trivial
set_option maxRecDepth 100000 in
set_option maxHeartbeats 8000000 in
theorem make1_raw (prog p : Program) (loose : List Str) (w : World) (mean : ExcName → Option Value) (mg mb : Str → Option Value) (dp un : Nat) (gd : Option (List Code)) (cn : Str) (cs : Scope) (a : Addr) (ccd : Value) (cl : List (Str × Addr)) (outer : List Env) (A₀ : Around) (base h₀ : Heap) (L : Addr) (m : Str → Option Value) (s : Shared) (Q E : Value → Shared → Prop)
    (bs : Array UInt8) (ks : List Int) (tb t1 t2 t3 : Tok) (least win ch : Int) (rest : List (Addr × Obj))
    (B : Below A₀ base outer h₀) (F : Fr h₀ L s.heap m) (X : (hd.heap_1 w.params).In h₀) (N : News h₀ L s.heap rest) (T : Top p loose mean mg mb h₀) (hk : cs.kind = .function)
    (hdp : dp + 8 < recursionLimit) (hun : un + 200 < cLine)
    (hbs : KBw.bInts bs = ks) (hlen : ks.length ≤ 900) (hl1 : 1 ≤ least) (hl2 : least < 100) (hw1 : 1 ≤ win) (hw2 : win < 900) (hc1 : 1 ≤ ch) (hc2 : ch < 100)
    (hret : ∀ (x dx : Addr) (es : List DictEntry) (n : Nat) (tb' : Tok) (h' : Heap) (tk' : Nat), Fr h₀ L h' m → News h₀ L h' ((x, instObj 226 dx) :: (dx, dictOf es n) :: rest) → dx < x → AllLt dx rest → ObjOk es bs tb' win t2 → Q (.ref x) { s with heap := h', toks := tk' }) :
    Hint PySem.Challenge.rw_tg0038_02 hd.heap_1 (wpAny (model prog w) (ktrTop dp un gd cn cs L a ccd cl outer) (call (.ref 226) [.bytes bs tb, .int least t1, .int win t2, .int ch t3]) Q E s) := by
  w_top off
  k_fill
  unfold Hint
  k_steps
  refine' hret _ _ _ _ tb _ _ ?kF (cb_drop ?kN ?ks) ?kl ?ka ?ko
  case kF => k_asm
  case kN => k_asm
  case ks => kcf_all
  case kl => assumption
  case ka => first | assumption | exact allLt_of (by assumption)
  case ko => exact ⟨by k_get, by k_get, by k_get, by k_get, by k_get, by k_get⟩
theorem make1_use {prog p : Program} {loose : List Str} {w : World} {mean : ExcName → Option Value} {mg mb : Str → Option Value} {dp un : Nat} {gd : Option (List Code)} {cn : Str} {cs : Scope} {a : Addr} {ccd : Value} {cl : List (Str × Addr)} {outer : List Env} {A₀ : Around} {base h₀ : Heap} {L : Addr} {m : Str → Option Value} {s : Shared} {Q E : Value → Shared → Prop}
    {bs : Array UInt8} {ks : List Int} {tb t1 t2 t3 : Tok} {least win ch : Int} {rest : List (Addr × Obj)}
    (B : Below A₀ base outer h₀) (F : Fr h₀ L s.heap m) (X : (hd.heap_1 w.params).In h₀) (N : News h₀ L s.heap rest) (T : Top p loose mean mg mb h₀) (hk : cs.kind = .function)
    (hdp : dp + 8 < recursionLimit) (hun : un + 200 < cLine)
    (hbs : KBw.bInts bs = ks) (hlen : ks.length ≤ 900) (hl1 : 1 ≤ least) (hl2 : least < 100) (hw1 : 1 ≤ win) (hw2 : win < 900) (hc1 : 1 ≤ ch) (hc2 : ch < 100)
    (hret : ∀ (x dx : Addr) (es : List DictEntry) (n : Nat) (tb' : Tok) (h' : Heap) (tk' : Nat), Fr h₀ L h' m → News h₀ L h' ((x, instObj 226 dx) :: (dx, dictOf es n) :: rest) → dx < x → AllLt dx rest → ObjOk es bs tb' win t2 → Q (.ref x) { s with heap := h', toks := tk' }) :
    wpAny (model prog w) (ktrTop dp un gd cn cs L a ccd cl outer) (call (.ref 226) [.bytes bs tb, .int least t1, .int win t2, .int ch t3]) Q E s :=
  Hint.out (make1_raw prog p loose w mean mg mb dp un gd cn cs a ccd cl outer A₀ base h₀ L m s Q E bs ks tb t1 t2 t3 least win ch rest B F X N T hk hdp hun hbs hlen hl1 hl2 hw1 hw2 hc1 hc2 hret)
set_option maxRecDepth 100000 in
set_option maxHeartbeats 8000000 in
theorem make2_raw (prog p : Program) (loose : List Str) (w : World) (mean : ExcName → Option Value) (mg mb : Str → Option Value) (dp un : Nat) (gd : Option (List Code)) (cn : Str) (cs : Scope) (a : Addr) (ccd : Value) (cl : List (Str × Addr)) (outer : List Env) (A₀ : Around) (base h₀ : Heap) (L : Addr) (m : Str → Option Value) (s : Shared) (Q E : Value → Shared → Prop)
    (bs : Array UInt8) (ks : List Int) (tb t1 t2 t3 : Tok) (least win ch : Int) (rest : List (Addr × Obj))
    (B : Below A₀ base outer h₀) (F : Fr h₀ L s.heap m) (X : (hd.heap_1 w.params).In h₀) (N : News h₀ L s.heap rest) (T : Top p loose mean mg mb h₀) (hk : cs.kind = .function)
    (hdp : dp + 8 < recursionLimit) (hun : un + 200 < cLine)
    (hbs : KBw.bInts bs = ks) (hlen : ks.length ≤ 900) (hl1 : 1 ≤ least) (hl2 : least < 100) (hw1 : 1 ≤ win) (hw2 : win < 900) (hc1 : 1 ≤ ch) (hc2 : ch < 100)
    (hret : ∀ (x dx : Addr) (es : List DictEntry) (n : Nat) (tb' : Tok) (h' : Heap) (tk' : Nat), Fr h₀ L h' m → News h₀ L h' ((x, instObj 274 dx) :: (dx, dictOf es n) :: rest) → dx < x → AllLt dx rest → ObjOk es bs tb' win t2 → Q (.ref x) { s with heap := h', toks := tk' }) :
    Hint PySem.Challenge.rw_tg0038_02 hd.heap_1 (wpAny (model prog w) (ktrTop dp un gd cn cs L a ccd cl outer) (call (.ref 274) [.bytes bs tb, .int least t1, .int win t2, .int ch t3]) Q E s) := by
  w_top off
  k_fill
  unfold Hint
  k_steps
  refine' hret _ _ _ _ tb _ _ ?kF (cb_drop ?kN ?ks) ?kl ?ka ?ko
  case kF => k_asm
  case kN => k_asm
  case ks => kcf_all
  case kl => assumption
  case ka => first | assumption | exact allLt_of (by assumption)
  case ko => exact ⟨by k_get, by k_get, by k_get, by k_get, by k_get, by k_get⟩
theorem make2_use {prog p : Program} {loose : List Str} {w : World} {mean : ExcName → Option Value} {mg mb : Str → Option Value} {dp un : Nat} {gd : Option (List Code)} {cn : Str} {cs : Scope} {a : Addr} {ccd : Value} {cl : List (Str × Addr)} {outer : List Env} {A₀ : Around} {base h₀ : Heap} {L : Addr} {m : Str → Option Value} {s : Shared} {Q E : Value → Shared → Prop}
    {bs : Array UInt8} {ks : List Int} {tb t1 t2 t3 : Tok} {least win ch : Int} {rest : List (Addr × Obj)}
    (B : Below A₀ base outer h₀) (F : Fr h₀ L s.heap m) (X : (hd.heap_1 w.params).In h₀) (N : News h₀ L s.heap rest) (T : Top p loose mean mg mb h₀) (hk : cs.kind = .function)
    (hdp : dp + 8 < recursionLimit) (hun : un + 200 < cLine)
    (hbs : KBw.bInts bs = ks) (hlen : ks.length ≤ 900) (hl1 : 1 ≤ least) (hl2 : least < 100) (hw1 : 1 ≤ win) (hw2 : win < 900) (hc1 : 1 ≤ ch) (hc2 : ch < 100)
    (hret : ∀ (x dx : Addr) (es : List DictEntry) (n : Nat) (tb' : Tok) (h' : Heap) (tk' : Nat), Fr h₀ L h' m → News h₀ L h' ((x, instObj 274 dx) :: (dx, dictOf es n) :: rest) → dx < x → AllLt dx rest → ObjOk es bs tb' win t2 → Q (.ref x) { s with heap := h', toks := tk' }) :
    wpAny (model prog w) (ktrTop dp un gd cn cs L a ccd cl outer) (call (.ref 274) [.bytes bs tb, .int least t1, .int win t2, .int ch t3]) Q E s :=
  Hint.out (make2_raw prog p loose w mean mg mb dp un gd cn cs a ccd cl outer A₀ base h₀ L m s Q E bs ks tb t1 t2 t3 least win ch rest B F X N T hk hdp hun hbs hlen hl1 hl2 hw1 hw2 hc1 hc2 hret)
theorem rows6 : True := by
  k_with_none
  k_with "k_all" => (first | assumption | exact lt_all (by assumption) | exact off_all (by assumption) | ((repeat' (with_reducible rename _ ∧ _ => hc9; cases hc9)); first | exact lt_all (by assumption) | exact lt_all1 (by assumption) | exact lt_all2 (by assumption) | exact off_all (by assumption)) | (refine List.forall_mem_append.mpr (And.intro ?_ ?_) <;> k_all))
  k_with "ktr_enter" => (first   | (refine' code_def ?k1 ?k2 ?k3 ?k4 ?k5 ?kA ?kF ?kK ?k6 ?k7 ?k8 ?k9 ?kB ?_ ?c2 ?c3 ?c4 ?c5; (case kA => exact rfl); (case kF => exact rfl); (case kK => first | exact rfl | assumption); (case k1 => k_asm); (case k2 => k_asm); (case k3 => k_asm); (case k4 => k_asm); (case k5 => k_asm); (case k6 => k_is); (case k7 => k_is); (case k8 => ktr_room); (case k9 => first | exact BindsTo.of_eq rfl | exact binds_K (by k_in) rfl (by k_is) rfl rfl rfl); (case c5 => decide); (case kB => exact locs rfl); (case c2 => exact rfl); (case c3 => exact rfl); (case c4 => exact rfl); k_whole; intro g' L' h' FG' F' N' B' X' T'; (try dsimp only); (try k_lift B'); (try k_fold))   | (refine' code_defC ?k1 ?k2 ?k3 ?k4 ?k5 ?kA ?kF ?kK ?k6 ?k7 ?k8 ?k9 ?kB ?kD ?_ ?c2 ?c3 ?c4; (case kA => exact rfl); (case kF => exact rfl); (case kK => first | exact rfl | assumption); (case k1 => k_asm); (case k2 => k_asm); (case k3 => k_asm); (case k4 => k_asm); (case k5 => k_asm); (case k6 => k_is); (case k7 => k_is); (case k8 => ktr_room); (case k9 => first | exact BindsTo.of_eq rfl | exact binds_K (by k_in) rfl (by k_is) rfl rfl rfl); (case kB => exact rfl); (case kD => decide +kernel); (case c2 => exact rfl); (case c3 => exact rfl); (case c4 => exact rfl); k_whole; intro g' L' h' tk' cells' FG' F' N' Y' B' X' T' l1; (try k_lt l1); k_cells Y'; (try simp only [List.cons_append, List.nil_append] at N'); (try dsimp only); (try k_lift B'); (try k_fold)))
  k_with "k_room" => (ktr_room)
  k_with "units_room" => (ktr_units)
  k_with "k_enter" => (((fail_if_success k_inElt); ktr_enter))
  k_with "call type:bytes" => ((k_here; (with_reducible show wpAny _ _ (call (Value.type "bytes") [Value.bytes _ _]) _ _ _); refine call_bytes_self ?_))
  k_with "eval ListComp" => ((k_here; k_dflt (refine ListComp_Tup (F₀ := by k_asm) (by with_unfolding_all rfl) (by decide) (by rfl) (by decide) (by rfl) ?_)))
  k_with "SrcTup" => ((k_here; k_dflt (refine SrcTup.of (by rfl) (by k_asm) (by k_asm) (tupK (l := [_, _]) (by k_in) (by k_is)) (by exact Nat.le_of_ble_eq_true rfl) ?_); intro g'; (refine small_rest (two_ints (by decide) (by decide)) ?_ ?_); intro z' t' ys' I' oI' C' oC' D' m' h' tk' E' hz1' hz2' hC' hx' F' N' off' ne'; (try simp only [LCg.Off3, and_true] at off'); rotate_left; intro ys'; rotate_left; (all_goals (try k_fold))))
  k_with "CompEnd" => ((k_dflt (refine' any_el ?kF ?kN ?ksub ?koff ?kS; (case kF => assumption); (case kN => assumption); (case ksub => (try dsimp only); kcf_all); (case koff => first | assumption | ((simp only [LCg.Off3, and_true]); assumption)); (case kS => trivial))))
  trivial
set_option maxRecDepth 100000 in
set_option maxHeartbeats 8000000 in
theorem make3_raw (prog p : Program) (loose : List Str) (w : World) (mean : ExcName → Option Value) (mg mb : Str → Option Value) (dp un : Nat) (gd : Option (List Code)) (cn : Str) (cs : Scope) (a : Addr) (ccd : Value) (cl : List (Str × Addr)) (outer : List Env) (A₀ : Around) (base h₀ : Heap) (L : Addr) (m : Str → Option Value) (s : Shared) (Q E : Value → Shared → Prop)
    (bs : Array UInt8) (ks : List Int) (tb t2 t3 : Tok) (win ch : Int) (rest : List (Addr × Obj))
    (B : Below A₀ base outer h₀) (F : Fr h₀ L s.heap m) (X : (hd.heap_1 w.params).In h₀) (N : News h₀ L s.heap rest) (T : Top p loose mean mg mb h₀) (hk : cs.kind = .function)
    (hdp : dp + 8 < recursionLimit) (hun : un + 200 < cLine)
    (hbs : KBw.bInts bs = ks) (hlen : ks.length ≤ 900) (hw1 : 1 ≤ win) (hw2 : win < 900) (hc1 : 1 ≤ ch) (hc2 : ch < 100)
    (hret : ∀ (x dx : Addr) (es : List DictEntry) (n : Nat) (tb' : Tok) (h' : Heap) (tk' : Nat), Fr h₀ L h' m → News h₀ L h' ((x, instObj 307 dx) :: (dx, dictOf es n) :: rest) → dx < x → AllLt dx rest → ObjOk es bs tb' win t2 → Q (.ref x) { s with heap := h', toks := tk' }) :
    Hint PySem.Challenge.rw_tg0038_02 hd.heap_1 (wpAny (model prog w) (ktrTop dp un gd cn cs L a ccd cl outer) (call (.ref 307) [.bytes bs tb, .int win t2, .int ch t3]) Q E s) := by
  w_top off
  k_fill
  unfold Hint
  k_steps
  refine' hret _ _ _ _ tb _ _ ?kF (cb_drop ?kN ?ks) ?kl ?ka ?ko
  case kF => k_asm
  case kN => k_asm
  case ks => kcf_all
  case kl => assumption
  case ka => first | assumption | exact allLt_of (by assumption)
  case ko => exact ⟨by k_get, by k_get, by k_get, by k_get, by k_get, by k_get⟩
theorem make3_use {prog p : Program} {loose : List Str} {w : World} {mean : ExcName → Option Value} {mg mb : Str → Option Value} {dp un : Nat} {gd : Option (List Code)} {cn : Str} {cs : Scope} {a : Addr} {ccd : Value} {cl : List (Str × Addr)} {outer : List Env} {A₀ : Around} {base h₀ : Heap} {L : Addr} {m : Str → Option Value} {s : Shared} {Q E : Value → Shared → Prop}
    {bs : Array UInt8} {ks : List Int} {tb t2 t3 : Tok} {win ch : Int} {rest : List (Addr × Obj)}
    (B : Below A₀ base outer h₀) (F : Fr h₀ L s.heap m) (X : (hd.heap_1 w.params).In h₀) (N : News h₀ L s.heap rest) (T : Top p loose mean mg mb h₀) (hk : cs.kind = .function)
    (hdp : dp + 8 < recursionLimit) (hun : un + 200 < cLine)
    (hbs : KBw.bInts bs = ks) (hlen : ks.length ≤ 900) (hw1 : 1 ≤ win) (hw2 : win < 900) (hc1 : 1 ≤ ch) (hc2 : ch < 100)
    (hret : ∀ (x dx : Addr) (es : List DictEntry) (n : Nat) (tb' : Tok) (h' : Heap) (tk' : Nat), Fr h₀ L h' m → News h₀ L h' ((x, instObj 307 dx) :: (dx, dictOf es n) :: rest) → dx < x → AllLt dx rest → ObjOk es bs tb' win t2 → Q (.ref x) { s with heap := h', toks := tk' }) :
    wpAny (model prog w) (ktrTop dp un gd cn cs L a ccd cl outer) (call (.ref 307) [.bytes bs tb, .int win t2, .int ch t3]) Q E s :=
  Hint.out (make3_raw prog p loose w mean mg mb dp un gd cn cs a ccd cl outer A₀ base h₀ L m s Q E bs ks tb t2 t3 win ch rest B F X N T hk hdp hun hbs hlen hw1 hw2 hc1 hc2 hret)
theorem rows7 : True := by
  k_with_none
  k_with "k_all" => (first | assumption | exact lt_all (by assumption) | exact off_all (by assumption) | ((repeat' (with_reducible rename _ ∧ _ => hc9; cases hc9)); first | exact lt_all (by assumption) | exact lt_all1 (by assumption) | exact lt_all2 (by assumption) | exact off_all (by assumption)) | (refine List.forall_mem_append.mpr (And.intro ?_ ?_) <;> k_all))
  k_with "ktr_enter" => (first   | (refine' code_def ?k1 ?k2 ?k3 ?k4 ?k5 ?kA ?kF ?kK ?k6 ?k7 ?k8 ?k9 ?kB ?_ ?c2 ?c3 ?c4 ?c5; (case kA => exact rfl); (case kF => exact rfl); (case kK => first | exact rfl | assumption); (case k1 => k_asm); (case k2 => k_asm); (case k3 => k_asm); (case k4 => k_asm); (case k5 => k_asm); (case k6 => k_is); (case k7 => k_is); (case k8 => ktr_room); (case k9 => first | exact BindsTo.of_eq rfl | exact binds_K (by k_in) rfl (by k_is) rfl rfl rfl); (case c5 => decide); (case kB => exact locs rfl); (case c2 => exact rfl); (case c3 => exact rfl); (case c4 => exact rfl); k_whole; intro g' L' h' FG' F' N' B' X' T'; (try dsimp only); (try k_lift B'); (try k_fold))   | (refine' code_defC ?k1 ?k2 ?k3 ?k4 ?k5 ?kA ?kF ?kK ?k6 ?k7 ?k8 ?k9 ?kB ?kD ?_ ?c2 ?c3 ?c4; (case kA => exact rfl); (case kF => exact rfl); (case kK => first | exact rfl | assumption); (case k1 => k_asm); (case k2 => k_asm); (case k3 => k_asm); (case k4 => k_asm); (case k5 => k_asm); (case k6 => k_is); (case k7 => k_is); (case k8 => ktr_room); (case k9 => first | exact BindsTo.of_eq rfl | exact binds_K (by k_in) rfl (by k_is) rfl rfl rfl); (case kB => exact rfl); (case kD => decide +kernel); (case c2 => exact rfl); (case c3 => exact rfl); (case c4 => exact rfl); k_whole; intro g' L' h' tk' cells' FG' F' N' Y' B' X' T' l1; (try k_lt l1); k_cells Y'; (try simp only [List.cons_append, List.nil_append] at N'); (try dsimp only); (try k_lift B'); (try k_fold)))
  k_with "k_room" => (ktr_room)
  k_with "units_room" => (ktr_units)
  k_with "k_enter" => (((fail_if_success k_inElt); ktr_enter))
  trivial
set_option maxRecDepth 100000 in
set_option maxHeartbeats 8000000 in
theorem box_raw (prog p : Program) (loose : List Str) (w : World) (mean : ExcName → Option Value) (mg mb : Str → Option Value) (dp un : Nat) (gd : Option (List Code)) (cn : Str) (cs : Scope) (a : Addr) (ccd : Value) (cl : List (Str × Addr)) (outer : List Env) (A₀ : Around) (base h₀ : Heap) (L : Addr) (m : Str → Option Value) (s : Shared) (Q E : Value → Shared → Prop)
    (l : Addr) (vs : List Value) (ns : List Int) (news : List (Addr × Obj))
    (B : Below A₀ base outer h₀) (F : Fr h₀ L s.heap m) (X : (hd.heap_1 w.params).In h₀) (N : News h₀ L s.heap news) (T : Top p loose mean mg mb h₀) (hk : cs.kind = .function)
    (hdp : dp + 1 < recursionLimit) (hun : un + 8 < cLine)
    (hl : base.IsList l vs.toArray) (hi : IntsAre vs ns) (hlen : ns.length ≤ 63)
    (hret : ∀ (b : Addr) (d' st' : Int) (t1' t2' : Tok) (n' : Nat) (h' : Heap) (tk' : Nat), BoxOk d' st' → Fr h₀ L h' m → News h₀ L h' ((b, boxO d' st' t1' t2' n') :: news) → (∀ p ∈ news, p.1 < b) → Q (.ref b) { s with heap := h', toks := tk' }) :
    Hint PySem.Challenge.rw_tg0038_02 hd.heap_1 (wpAny (model prog w) (ktrTop dp un gd cn cs L a ccd cl outer) (call (.ref 316) [.ref l]) Q E s) := by
  w_top off
  k_fill
  unfold Hint
  refine wpAny_call ?_
  k_dflt ktr_enter
  k_with "pyIter ref" => k_state (fun pre d st => 0 ≤ d ∧ 0 ≤ st ∧ st < 2147483647) "digits" "state"
  k_steps
  refine' hret _ _ _ _ _ _ _ _ ?kb (by k_asm) (cb_drop ?kN ?ks) ?kl
  case kN => assumption
  case ks => kcf_all
  case kb => exact ⟨by assumption, by assumption, by assumption⟩
  case kl =>
    repeat' (with_reducible rename _ ∧ _ => hc9; cases hc9)
    exact ktn_ltOf (by assumption)
theorem box_use {prog p : Program} {loose : List Str} {w : World} {mean : ExcName → Option Value} {mg mb : Str → Option Value} {dp un : Nat} {gd : Option (List Code)} {cn : Str} {cs : Scope} {a : Addr} {ccd : Value} {cl : List (Str × Addr)} {outer : List Env} {A₀ : Around} {base h₀ : Heap} {L : Addr} {m : Str → Option Value} {s : Shared} {Q E : Value → Shared → Prop}
    {l : Addr} {vs : List Value} {ns : List Int} {news : List (Addr × Obj)}
    (B : Below A₀ base outer h₀) (F : Fr h₀ L s.heap m) (X : (hd.heap_1 w.params).In h₀) (N : News h₀ L s.heap news) (T : Top p loose mean mg mb h₀) (hk : cs.kind = .function)
    (hdp : dp + 1 < recursionLimit) (hun : un + 8 < cLine)
    (hl : base.IsList l vs.toArray) (hi : IntsAre vs ns) (hlen : ns.length ≤ 63)
    (hret : ∀ (b : Addr) (d' st' : Int) (t1' t2' : Tok) (n' : Nat) (h' : Heap) (tk' : Nat), BoxOk d' st' → Fr h₀ L h' m → News h₀ L h' ((b, boxO d' st' t1' t2' n') :: news) → (∀ p ∈ news, p.1 < b) → Q (.ref b) { s with heap := h', toks := tk' }) :
    wpAny (model prog w) (ktrTop dp un gd cn cs L a ccd cl outer) (call (.ref 316) [.ref l]) Q E s :=
  Hint.out (box_raw prog p loose w mean mg mb dp un gd cn cs a ccd cl outer A₀ base h₀ L m s Q E l vs ns news B F X N T hk hdp hun hl hi hlen hret)
theorem rows8 : True := by
  k_with_none
  k_with "k_all" => (first | assumption | exact lt_all (by assumption) | exact off_all (by assumption) | ((repeat' (with_reducible rename _ ∧ _ => hc9; cases hc9)); first | exact lt_all (by assumption) | exact lt_all1 (by assumption) | exact lt_all2 (by assumption) | exact off_all (by assumption)) | (refine List.forall_mem_append.mpr (And.intro ?_ ?_) <;> k_all))
  k_with "ktr_enter" => (first   | (refine' code_def ?k1 ?k2 ?k3 ?k4 ?k5 ?kA ?kF ?kK ?k6 ?k7 ?k8 ?k9 ?kB ?_ ?c2 ?c3 ?c4 ?c5; (case kA => exact rfl); (case kF => exact rfl); (case kK => first | exact rfl | assumption); (case k1 => k_asm); (case k2 => k_asm); (case k3 => k_asm); (case k4 => k_asm); (case k5 => k_asm); (case k6 => k_is); (case k7 => k_is); (case k8 => ktr_room); (case k9 => first | exact BindsTo.of_eq rfl | exact binds_K (by k_in) rfl (by k_is) rfl rfl rfl); (case c5 => decide); (case kB => exact locs rfl); (case c2 => exact rfl); (case c3 => exact rfl); (case c4 => exact rfl); k_whole; intro g' L' h' FG' F' N' B' X' T'; (try dsimp only); (try k_lift B'); (try k_fold))   | (refine' code_defC ?k1 ?k2 ?k3 ?k4 ?k5 ?kA ?kF ?kK ?k6 ?k7 ?k8 ?k9 ?kB ?kD ?_ ?c2 ?c3 ?c4; (case kA => exact rfl); (case kF => exact rfl); (case kK => first | exact rfl | assumption); (case k1 => k_asm); (case k2 => k_asm); (case k3 => k_asm); (case k4 => k_asm); (case k5 => k_asm); (case k6 => k_is); (case k7 => k_is); (case k8 => ktr_room); (case k9 => first | exact BindsTo.of_eq rfl | exact binds_K (by k_in) rfl (by k_is) rfl rfl rfl); (case kB => exact rfl); (case kD => decide +kernel); (case c2 => exact rfl); (case c3 => exact rfl); (case c4 => exact rfl); k_whole; intro g' L' h' tk' cells' FG' F' N' Y' B' X' T' l1; (try k_lt l1); k_cells Y'; (try simp only [List.cons_append, List.nil_append] at N'); (try dsimp only); (try k_lift B'); (try k_fold)))
  k_with "k_room" => (ktr_room)
  k_with "units_room" => (ktr_units)
  k_with "k_enter" => (((fail_if_success k_inElt); ktr_enter))
  k_with "k_is" => (with_reducible assumption)
  k_with "k_get" => (with_reducible assumption)
  k_with "call ref" => ((k_here; (with_reducible show wpAny _ _ (call (Value.ref 166) _ _) _ _ _); k_dflt (refine' repeat_use ?k1 ?k2 ?k3 ?k4 ?k5 ?kK ?kd ?ku ?hx ?hdx ?hb ?e1 ?e2 ?p0 ?p1 ?p2 ?p3 ?_; (case k1 => k_asm); (case k2 => k_asm); (case k3 => k_asm); (case k4 => k_asm); (case k5 => k_asm); (case kK => first | exact rfl | assumption); (case kd => ktr_room); (case ku => ktr_units); (case hx => k_mem); (case hdx => k_mem); (case hb => assumption); (case e1 => assumption); (case e2 => assumption); (case p0 => omega); (case p1 => omega); (case p2 => omega); (case p3 => omega); k_whole); intro c' t' h' tk' F' N' hRp'; (try dsimp only); (try k_fold)))
  trivial
theorem meets_one {ks : List Int} {win place far most : Int} {c : Nat} (h : IsR ks win place far most c) (h1 : 1 ≤ far) (h2 : far ≤ place) (h3 : far ≤ win) (hp : place ≤ ks.length) (hm : far = most) :
    (c : Int) = min far (ks.length - place) ↔ LocAt (fL ks) ks.length place.toNat far.toNat := by
  subst hm
  have A := h.some h1 h2 h3
  obtain ⟨l, e, n⟩ := A
  constructor
  · intro hc j j1 j2 j3
    have q := e (j + far.toNat - place.toNat) (by omega)
    rw [show place.toNat + (j + far.toNat - place.toNat) = j + far.toNat by omega, show place.toNat - far.toNat + (j + far.toNat - place.toNat) = j by omega] at q
    exact q.symm
  · intro hl
    by_cases hc : c < (min far (ks.length - place)).toNat
    · exfalso
      refine n hc ?_
      have q := hl (place.toNat - far.toNat + c) (by omega) (by omega) (by omega)
      rw [show place.toNat - far.toNat + c + far.toNat = place.toNat + c by omega] at q
      exact q.symm
    · omega
theorem meets_two {ks : List Int} {win place far : Int} {c : Nat} (h : IsR ks win far far place c) (h1 : 1 ≤ far) (h2 : place < far) (h3 : far ≤ win) (hp : far ≤ ks.length) (hp0 : 0 ≤ place) :
    (c : Int) = min place (ks.length - far) ↔ LocAt (fL ks) ks.length place.toNat far.toNat := by
  have A := h.some h1 (Int.le_refl _) h3
  obtain ⟨l, e, n⟩ := A
  constructor
  · intro hc j j1 j2 j3
    have q := e j (by omega)
    rw [show far.toNat - far.toNat + j = j by omega, Nat.add_comm] at q
    exact q.symm
  · intro hl
    by_cases hc : c < (min place (ks.length - far)).toNat
    · exfalso
      refine n hc ?_
      have q := hl c (by omega) (by omega) (by omega)
      rw [show far.toNat - far.toNat + c = c by omega, Nat.add_comm]
      exact q.symm
    · omega
theorem meets_per {ks : List Int} {win far size : Int} {c : Nat} (h : IsR ks win far far size c) (h1 : 1 ≤ far) (h3 : far ≤ win) (hp : far ≤ ks.length) (hs : size = ks.length) :
    (c : Int) = size - far ↔ PerAt (fL ks) ks.length far.toNat := by
  subst hs
  have A := h.some h1 (Int.le_refl _) h3
  obtain ⟨l, e, n⟩ := A
  constructor
  · intro hc j j1
    have q := e j (by omega)
    rw [show far.toNat - far.toNat + j = j by omega, Nat.add_comm] at q
    exact q.symm
  · intro hl
    by_cases hc : c < (min (ks.length : Int) (ks.length - far)).toNat
    · exfalso
      refine n hc ?_
      have q := hl c (by omega)
      rw [show far.toNat - far.toNat + c = c by omega, Nat.add_comm]
      exact q.symm
    · omega
set_option maxRecDepth 100000 in
set_option maxHeartbeats 8000000 in
theorem meets_raw (prog p : Program) (loose : List Str) (w : World) (mean : ExcName → Option Value) (mg mb : Str → Option Value) (dp un : Nat) (gd : Option (List Code)) (cn : Str) (cs : Scope) (a : Addr) (ccd : Value) (cl : List (Str × Addr)) (outer : List Env) (A₀ : Around) (base h₀ : Heap) (L : Addr) (m : Str → Option Value) (s : Shared) (Q E : Value → Shared → Prop)
    (x C dx : Addr) (es : List DictEntry) (n : Nat) (bs : Array UInt8) (ks : List Int) (tb tw t1 t2 t3 : Tok) (win place far size : Int) (news : List (Addr × Obj))
    (B : Below A₀ base outer h₀) (F : Fr h₀ L s.heap m) (X : (hd.heap_1 w.params).In h₀) (N : News h₀ L s.heap news) (T : Top p loose mean mg mb h₀) (hk : cs.kind = .function)
    (hdp : dp + 4 < recursionLimit) (hun : un + 200 < cLine)
    (hx : (x, instObj C dx) ∈ news) (hdx : (dx, dictOf es n) ∈ news) (hbs : KBw.bInts bs = ks)
    (hC : ClsOk (hd.heap_1 w.params) C) (hO : ObjOk es bs tb win tw)
    (hlen : ks.length ≤ 900) (hs : size = ks.length) (hp0 : 1 ≤ place) (hp1 : place ≤ ks.length) (hf0 : 1 ≤ far) (hf1 : far ≤ ks.length) (hw : ks.length ≤ win) (hw1 : win < 900)
    (hret : ∀ (β : Bool) (h' : Heap) (tk' : Nat), Fr h₀ L h' m → News h₀ L h' news → (β = true ↔ LocAt (fL ks) ks.length place.toNat far.toNat) → Q (.bool β) { s with heap := h', toks := tk' }) :
    Hint PySem.Challenge.rw_tg0038_02 hd.heap_1 (wpAny (model prog w) (ktrTop dp un gd cn cs L a ccd cl outer) (call (.ref 342) [.ref x, .int place t1, .int far t2, .int size t3]) Q E s) := by
  have q1 : findIn (hd.heap_1 w.params) (.ref C) (Str.ofString "repeat") = some (some (.ref 166)) := hC.f6
  have q2 : plainGet (hd.heap_1 w.params) C (Str.ofString "repeat") = true := hC.p6
  have q3 : getL (Str.ofString "repeat") es = some none := hO.g6
  w_top off
  k_fill
  unfold Hint
  refine wpAny_call ?_
  k_dflt ktr_enter
  k_steps
  · rename (IsR _ _ _ _ _ _) => hRp
    refine hret _ _ _ (by k_asm) (by k_asm) ?_
    rw [beq_iff_eq, show (if size - place < far then size - place else far) = min far ((ks.length : Int) - place) by split <;> omega]
    exact meets_one hRp (by omega) (by omega) (by omega) (by omega) rfl
  · rename (IsR _ _ _ _ _ _) => hRp
    refine hret _ _ _ (by k_asm) (by k_asm) ?_
    rw [beq_iff_eq, show (if size - far < place then size - far else place) = min place ((ks.length : Int) - far) by split <;> omega]
    exact meets_two hRp (by omega) (by omega) (by omega) (by omega) (by omega)
theorem meets_use {prog p : Program} {loose : List Str} {w : World} {mean : ExcName → Option Value} {mg mb : Str → Option Value} {dp un : Nat} {gd : Option (List Code)} {cn : Str} {cs : Scope} {a : Addr} {ccd : Value} {cl : List (Str × Addr)} {outer : List Env} {A₀ : Around} {base h₀ : Heap} {L : Addr} {m : Str → Option Value} {s : Shared} {Q E : Value → Shared → Prop}
    {x C dx : Addr} {es : List DictEntry} {n : Nat} {bs : Array UInt8} {ks : List Int} {tb tw t1 t2 t3 : Tok} {win place far size : Int} {news : List (Addr × Obj)}
    (B : Below A₀ base outer h₀) (F : Fr h₀ L s.heap m) (X : (hd.heap_1 w.params).In h₀) (N : News h₀ L s.heap news) (T : Top p loose mean mg mb h₀) (hk : cs.kind = .function)
    (hdp : dp + 4 < recursionLimit) (hun : un + 200 < cLine)
    (hx : (x, instObj C dx) ∈ news) (hdx : (dx, dictOf es n) ∈ news) (hbs : KBw.bInts bs = ks)
    (hC : ClsOk (hd.heap_1 w.params) C) (hO : ObjOk es bs tb win tw)
    (hlen : ks.length ≤ 900) (hs : size = ks.length) (hp0 : 1 ≤ place) (hp1 : place ≤ ks.length) (hf0 : 1 ≤ far) (hf1 : far ≤ ks.length) (hw : ks.length ≤ win) (hw1 : win < 900)
    (hret : ∀ (β : Bool) (h' : Heap) (tk' : Nat), Fr h₀ L h' m → News h₀ L h' news → (β = true ↔ LocAt (fL ks) ks.length place.toNat far.toNat) → Q (.bool β) { s with heap := h', toks := tk' }) :
    wpAny (model prog w) (ktrTop dp un gd cn cs L a ccd cl outer) (call (.ref 342) [.ref x, .int place t1, .int far t2, .int size t3]) Q E s :=
  Hint.out (meets_raw prog p loose w mean mg mb dp un gd cn cs a ccd cl outer A₀ base h₀ L m s Q E x C dx es n bs ks tb tw t1 t2 t3 win place far size news B F X N T hk hdp hun hx hdx hbs hC hO hlen hs hp0 hp1 hf0 hf1 hw hw1 hret)
structure PredMark (P : Nat → Prop) : Prop where
section
variable {prog : Program} {w : World} {A : Around} {E : Value → Shared → Prop} {s : Shared} {env : Env} {h₀ : Heap} {x : Str} {body : List Stmt} {Q : Flow → Shared → Prop}
abbrev PredK (news : List (Addr × Obj)) (x : Str) (stored : List Str) (m₀ : Str → Option Value) (P : Nat → Prop) (i : Nat) : (Str → Option Value) → List (Addr × Obj) → Prop :=
  KstS (fun _ : Unit => news) (fun _ => []) (fun _ => True) x stored m₀ (fun pre _ => P pre.length) (List.replicate i 0)
/-- a loop over a range that keeps the ledger and something that is said of the number of turns -/
theorem for_pred {r : Addr} {a₀ b₀ : Int} {t₀ u₀ v₀ : Tok} {n : Nat} {m₀ : Str → Option Value} {news : List (Addr × Obj)} {P : Nat → Prop} (stored : List Str) (pmk : PredMark P)
    (hh : A.handled = none) (hr : IsRange s.heap r a₀ b₀ 1 t₀ u₀ v₀) (hsmall : Builtin.Range.small a₀ b₀ 1 = true) (hn : Builtin.Range.rangeSize a₀ b₀ 1 = (n : Int)) (F : Fr h₀ env.locals s.heap m₀) (N : News h₀ env.locals s.heap news)
    (hp : P 0)
    (turn : ∀ (i : Nat) (k : Int) t (u : Str → Option Value) h tk own, k = a₀ + (i : Int) → i < n → P i → OwnOff own (news.map (·.1)) →
      Fr h₀ env.locals h (fun y => if y = x then some (.int k t) else if stored.contains y then u y else m₀ y) → News h₀ env.locals h (news ++ own) →
      wpAny (model prog w) A (execs body env) (InvPostN h₀ env.locals (PredK news x stored m₀ P (i + 1)) own (news.map (·.1)) { s with heap := h, toks := tk } Q) E { s with heap := h, toks := tk })
    (done : ∀ (u : Str → Option Value) h tk, P n → Fr h₀ env.locals h (fun y => if y = x then u y else if stored.contains y then u y else m₀ y) → News h₀ env.locals h news → Q .next { s with heap := h, toks := tk }) :
    wpAny (model prog w) A (pyIter (.ref r)) (fun it s₂ => LoopAtV prog w A h₀ env x body Q E it s₂) E s := by
  refine kst_range (σ := Unit) (fun _ => news) (fun _ => []) (fun _ => True) stored (fun pre _ => P pre.length) () hh hr hsmall hn F N trivial (fun p hp => nomatch hp) hp ?_ ?_
  · intro c pre k t u h tk own hk hl hoff _ hP F' N'
    refine wpAny_mono (turn pre.length k t u h tk own hk hl hP hoff F' N') (fun f s₂ p => ?_) fun _ _ e => e
    have up : ∀ {s₁ s₂ : Shared}, InvEndN h₀ env.locals (PredK news x stored m₀ P (pre.length + 1)) own (news.map (·.1)) s₁ s₂ →
        InvEndN h₀ env.locals (KstS (fun _ : Unit => news) (fun _ => []) (fun _ => True) x stored m₀ (fun pre _ => P pre.length) (pre ++ [k])) own (news.map (·.1)) s₁ s₂ := by
      rintro s₁ s₂ ⟨h', tk', m', news', nx, e, F', N', h1, h2, h3, c, hnx, hf, hk, hr, hP⟩
      refine ⟨h', tk', m', news', nx, e, F', N', h1, h2, h3, c, hnx, hf, hk, hr, ?_⟩
      simpa using hP
    cases f with
    | ret v => exact p
    | brk => exact p
    | next => exact up p
    | cont => exact up p
  · rintro c u h tk hf hP F' N'
    exact done u h tk (by simpa [rangeKs_length] using hP) F' N'
theorem pred_end {stored : List Str} {m₀ m' : Str → Option Value} {news : List (Addr × Obj)} {L : Addr} {own news' : List (Addr × Obj)} {adr : List Addr} {s₁ : Shared} {h' : Heap} {tk : Nat} {P : Nat → Prop} {i : Nat}
    (F : Fr h₀ L h' m') (N : News h₀ L h' news') (hn : ∀ p ∈ news, p ∈ news') (ho : ∀ p ∈ own, p ∈ news') (ha : news.map (·.1) = adr) (hr : ∀ z, z ≠ x → stored.contains z = false → m' z = m₀ z) (hP : P i) :
    InvEndN h₀ L (PredK news x stored m₀ P i) own adr s₁ { s₁ with heap := h', toks := tk } :=
  kst_end () F N hn ho ha trivial (fun p hp => nomatch hp) (fun z h1 _ h3 => hr z h1 h3) (by simpa using hP)
end
def NoLoc (f : Nat → Int) (n k i : Nat) : Prop := ∀ r', 1 ≤ r' → r' < 1 + i → ¬ LocAt f n k r'
theorem NoLoc.start {f : Nat → Int} {n k : Nat} : NoLoc f n k 0 := fun r' h1 h2 => by omega
theorem NoLoc.step {f : Nat → Int} {n k i : Nat} {z : Int} {β : Bool} (h : NoLoc f n k i) (hz : z = 1 + (i : Int)) (hb : β = true ↔ LocAt f n k z.toNat) (hf : β = false) : NoLoc f n k (i + 1) := fun r' h1 h2 h3 => by
  by_cases c : r' < 1 + i
  · exact h r' h1 c h3
  · obtain rfl : r' = z.toNat := by omega
    rw [hb.mpr h3] at hf
    exact Bool.noConfusion hf
theorem NoLoc.fin {f : Nat → Int} {n k i : Nat} (h : NoLoc f n k i) (hn : 1 ≤ n) (hi : n ≤ i) : False := h n hn (by omega) (fun j _ _ h3 => by omega)
theorem NoLoc.ret {f : Nat → Int} {n k i : Nat} {z : Int} {β : Bool} (h : NoLoc f n k i) (hz : z = 1 + (i : Int)) (hb : β = true ↔ LocAt f n k z.toNat) (hf : β = true) : IsLoc f n k z.toNat :=
  ⟨by omega, hb.mp hf, fun r' h1 h2 => h r' h1 (by omega)⟩
def NoPer (f : Nat → Int) (n i : Nat) : Prop := ∀ r', 1 ≤ r' → r' < 1 + i → ¬ PerAt f n r'
theorem NoPer.start {f : Nat → Int} {n : Nat} : NoPer f n 0 := fun r' h1 h2 => by omega
theorem NoPer.step {f : Nat → Int} {n i : Nat} {z : Int} (h : NoPer f n i) (hz : z = 1 + (i : Int)) (hf : ¬ PerAt f n z.toNat) : NoPer f n (i + 1) := fun r' h1 h2 h3 => by
  by_cases c : r' < 1 + i
  · exact h r' h1 c h3
  · obtain rfl : r' = z.toNat := by omega
    exact hf h3
theorem NoPer.fin {f : Nat → Int} {n i : Nat} (h : NoPer f n i) (hn : 1 ≤ n) (hi : n ≤ i) : False := h n hn (by omega) (fun j h3 => by omega)
theorem NoPer.ret {f : Nat → Int} {n i : Nat} {z : Int} (h : NoPer f n i) (hz : z = 1 + (i : Int)) (hf : PerAt f n z.toNat) : IsPer f n z.toNat :=
  ⟨by omega, hf, fun r' h1 h2 => h r' h1 (by omega)⟩
theorem NoPer.step' {ks : List Int} {i c : Nat} {z win size : Int} (h : NoPer (fL ks) ks.length i) (hz : z = 1 + (i : Int)) (hs : size = ks.length) (hi : i < (size + 1 - 1).toNat) (hw : ks.length ≤ win) (hR : IsR ks win z z size c) (hf : ¬ ((c : Int) = size - z)) : NoPer (fL ks) ks.length (i + 1) :=
  h.step hz fun hp => hf ((meets_per hR (by omega) (by omega) (by omega) hs).mpr hp)
theorem NoPer.ret' {ks : List Int} {i c : Nat} {z win size : Int} (h : NoPer (fL ks) ks.length i) (hz : z = 1 + (i : Int)) (hs : size = ks.length) (hi : i < (size + 1 - 1).toNat) (hw : ks.length ≤ win) (hR : IsR ks win z z size c) (hf : (c : Int) = size - z) : IsPer (fL ks) ks.length z.toNat :=
  h.ret hz ((meets_per hR (by omega) (by omega) (by omega) hs).mp hf)
def EndAt (L : List Int) (i : Nat) (found : Int) : Prop := EndInv L (1 + (i : Int)) found
theorem EndAt.start (L : List Int) : EndAt L 0 0 := EndInv.init L
structure CntAt (L : List Int) (place found count : Int) : Prop where
  inner : EndCnt L place found count
theorem EndAt.gt {L : List Int} {i : Nat} {place found count : Int} (h : EndAt L i found) (hp : place = 1 + (i : Int)) (hc : EndCnt L place found count) (h1 : place + count < L.length) (hg : L.getD (found + count).toNat 0 < L.getD (place + count).toNat 0) : EndAt L (i + 1) place := by
  subst hp
  have := EndInv.gt h hc h1 hg
  unfold EndAt
  rwa [show (1 : Int) + ((i + 1 : Nat) : Int) = 1 + (i : Int) + 1 by omega]
theorem EndAt.le {L : List Int} {i : Nat} {place found count : Int} (h : EndAt L i found) (hp : place = 1 + (i : Int)) (hc : EndCnt L place found count)
    (hs : place + count < L.length → L.getD (place + count).toNat 0 ≠ L.getD (found + count).toNat 0) (hl : place + count < L.length → ¬ (L.getD (found + count).toNat 0 < L.getD (place + count).toNat 0)) : EndAt L (i + 1) found := by
  subst hp
  have := EndInv.le h hc hs hl
  unfold EndAt
  rwa [show (1 : Int) + ((i + 1 : Nat) : Int) = 1 + (i : Int) + 1 by omega]
theorem EndAt.b1 {L : List Int} {i : Nat} {found : Int} (h : EndAt L i found) : 0 ≤ found := h.lo
theorem EndAt.b2 {L : List Int} {i : Nat} {found : Int} (h : EndAt L i found) : found < 1 + (i : Int) := h.lt
theorem EndAt.fin {L : List Int} {found : Int} {r : List Int} (h : EndAt L r.length found) (hr : r.length = ((L.length : Int) - 1).toNat) (h1 : 1 ≤ L.length) : EndInv L L.length found := by
  unfold EndAt at h
  rwa [hr, show (1 : Int) + (((L.length : Int) - 1).toNat : Int) = (L.length : Int) by omega] at h
theorem rows9 : True := by
  k_with_none
  k_with "k_all" => (first | assumption | exact lt_all (by assumption) | exact off_all (by assumption) | ((repeat' (with_reducible rename _ ∧ _ => hc9; cases hc9)); first | exact lt_all (by assumption) | exact lt_all1 (by assumption) | exact lt_all2 (by assumption) | exact off_all (by assumption)) | (refine List.forall_mem_append.mpr (And.intro ?_ ?_) <;> k_all))
  k_with "ktr_enter" => (first   | (refine' code_def ?k1 ?k2 ?k3 ?k4 ?k5 ?kA ?kF ?kK ?k6 ?k7 ?k8 ?k9 ?kB ?_ ?c2 ?c3 ?c4 ?c5; (case kA => exact rfl); (case kF => exact rfl); (case kK => first | exact rfl | assumption); (case k1 => k_asm); (case k2 => k_asm); (case k3 => k_asm); (case k4 => k_asm); (case k5 => k_asm); (case k6 => k_is); (case k7 => k_is); (case k8 => ktr_room); (case k9 => first | exact BindsTo.of_eq rfl | exact binds_K (by k_in) rfl (by k_is) rfl rfl rfl); (case c5 => decide); (case kB => exact locs rfl); (case c2 => exact rfl); (case c3 => exact rfl); (case c4 => exact rfl); k_whole; intro g' L' h' FG' F' N' B' X' T'; (try dsimp only); (try k_lift B'); (try k_fold))   | (refine' code_defC ?k1 ?k2 ?k3 ?k4 ?k5 ?kA ?kF ?kK ?k6 ?k7 ?k8 ?k9 ?kB ?kD ?_ ?c2 ?c3 ?c4; (case kA => exact rfl); (case kF => exact rfl); (case kK => first | exact rfl | assumption); (case k1 => k_asm); (case k2 => k_asm); (case k3 => k_asm); (case k4 => k_asm); (case k5 => k_asm); (case k6 => k_is); (case k7 => k_is); (case k8 => ktr_room); (case k9 => first | exact BindsTo.of_eq rfl | exact binds_K (by k_in) rfl (by k_is) rfl rfl rfl); (case kB => exact rfl); (case kD => decide +kernel); (case c2 => exact rfl); (case c3 => exact rfl); (case c4 => exact rfl); k_whole; intro g' L' h' tk' cells' FG' F' N' Y' B' X' T' l1; (try k_lt l1); k_cells Y'; (try simp only [List.cons_append, List.nil_append] at N'); (try dsimp only); (try k_lift B'); (try k_fold)))
  k_with "k_room" => (ktr_room)
  k_with "units_room" => (ktr_units)
  k_with "k_enter" => (((fail_if_success k_inElt); ktr_enter))
  k_with "k_is" => (with_reducible assumption)
  k_with "k_get" => (with_reducible assumption)
  k_with "call ref" => ((k_here; (with_reducible show wpAny _ _ (call (Value.ref 342) _ _) _ _ _); k_dflt (refine' meets_use ?k1 ?k2 ?k3 ?k4 ?k5 ?kK ?kd ?ku ?hx ?hdx ?hb ?e1 ?e2 ?q1 ?q2 ?q3 ?q4 ?q5 ?q6 ?q7 ?q8 ?_; (case k1 => k_asm); (case k2 => k_asm); (case k3 => k_asm); (case k4 => k_asm); (case k5 => k_asm); (case kK => first | exact rfl | assumption); (case kd => ktr_room); (case ku => ktr_units); (case hx => k_mem); (case hdx => k_mem); (case hb => assumption); (case e1 => assumption); (case e2 => assumption); (case q1 => omega); (case q2 => first | assumption | omega); (case q3 => omega); (case q4 => omega); (case q5 => omega); (case q6 => omega); (case q7 => omega); (case q8 => omega); k_whole); intro bt' h' tk' F' N' hbt'; (try dsimp only); (try k_fold)))
  k_with "pyIter ref" => ((k_here; (with_reducible show wpAny _ _ (pyIter (Value.ref _)) (fun it s₂ => LoopAtV _ _ _ _ _ _ _ _ _ it s₂) _ _); k_dflt (refine' for_pred [] ?hm ?h1 ?h2 ?h3 ?h4 ?h5 ?h6 ?h7 ?_ ?_; (case hm => assumption); (case h1 => rfl); (case h2 => assumption); (case h3 => exact small_one (by omega) (by omega) (by omega) (by omega)); (case h4 => exact rangeSize_nat _ _); (case h5 => k_asm); (case h6 => k_asm); (case h7 => exact NoLoc.start)); intro i' k' t' u' h' tk' own' hk' hi' hP' hoff' F' N'; rotate_left; intro u' h' tk' hP' F' N'; rotate_left; (all_goals (try dsimp only)); (all_goals (try k_fold))))
  k_with "InvEndN" => ((k_dflt (refine' pred_end ?h1 ?h2 ?h3 ?h4 ?h5 ?h6 ?h7; (case h1 => assumption); (case h2 => assumption); (case h3 => kcf_all); (case h4 => kcf_all); (case h5 => rfl); (case h6 => ksw_same); (case h7 => exact NoLoc.step (by assumption) (by assumption) (by assumption) (by assumption)))))
  trivial
set_option maxRecDepth 100000 in
set_option maxHeartbeats 8000000 in
theorem local_raw (prog p : Program) (loose : List Str) (w : World) (mean : ExcName → Option Value) (mg mb : Str → Option Value) (dp un : Nat) (gd : Option (List Code)) (cn : Str) (cs : Scope) (a : Addr) (ccd : Value) (cl : List (Str × Addr)) (outer : List Env) (A₀ : Around) (base h₀ : Heap) (L : Addr) (m : Str → Option Value) (s : Shared) (Q E : Value → Shared → Prop)
    (x C dx : Addr) (es : List DictEntry) (n : Nat) (bs : Array UInt8) (ks : List Int) (tb tw t1 t3 : Tok) (win place size : Int) (news : List (Addr × Obj))
    (B : Below A₀ base outer h₀) (F : Fr h₀ L s.heap m) (X : (hd.heap_1 w.params).In h₀) (N : News h₀ L s.heap news) (T : Top p loose mean mg mb h₀) (hk : cs.kind = .function)
    (hdp : dp + 5 < recursionLimit) (hun : un + 300 < cLine)
    (hx : (x, instObj C dx) ∈ news) (hdx : (dx, dictOf es n) ∈ news) (hbs : KBw.bInts bs = ks)
    (hC : ClsOk (hd.heap_1 w.params) C) (hO : ObjOk es bs tb win tw)
    (hlen : ks.length ≤ 800) (hs : size = ks.length) (hp0 : 1 ≤ place) (hp1 : place ≤ ks.length) (hw : ks.length ≤ win) (hw1 : win < 900)
    (hret : ∀ (r : Int) (t : Tok) (h' : Heap) (tk' : Nat), Fr h₀ L h' m → News h₀ L h' news → IsLoc (fL ks) ks.length place.toNat r.toNat → 1 ≤ r → r ≤ ks.length → Q (.int r t) { s with heap := h', toks := tk' }) :
    Hint PySem.Challenge.rw_tg0038_02 hd.heap_1 (wpAny (model prog w) (ktrTop dp un gd cn cs L a ccd cl outer) (call (.ref 349) [.ref x, .int place t1, .int size t3]) Q E s) := by
  have pm : PredMark (fun i => NoLoc (fL ks) ks.length place.toNat i) := ⟨⟩
  w_top off
  k_fill
  unfold Hint
  refine wpAny_call ?_
  k_dflt ktr_enter
  k_steps
  · rename (NoLoc _ _ _ _) => hP
    rename (_ = 1 + _) => hk1
    rename (_ ↔ LocAt _ _ _ _) => hb1
    refine hret _ _ _ _ (by k_asm) (fun p hp => ?_) (NoLoc.ret hP hk1 hb1 (by assumption)) (by omega) (by omega)
    rename (News h₀ L _ (news ++ _)) => hN1
    exact hN1 p (List.mem_append_left _ hp)
  · exfalso
    rename (NoLoc _ _ _ _) => hP
    exact NoLoc.fin hP (by omega) (by omega)
theorem local_use {prog p : Program} {loose : List Str} {w : World} {mean : ExcName → Option Value} {mg mb : Str → Option Value} {dp un : Nat} {gd : Option (List Code)} {cn : Str} {cs : Scope} {a : Addr} {ccd : Value} {cl : List (Str × Addr)} {outer : List Env} {A₀ : Around} {base h₀ : Heap} {L : Addr} {m : Str → Option Value} {s : Shared} {Q E : Value → Shared → Prop}
    {x C dx : Addr} {es : List DictEntry} {n : Nat} {bs : Array UInt8} {ks : List Int} {tb tw t1 t3 : Tok} {win place size : Int} {news : List (Addr × Obj)}
    (B : Below A₀ base outer h₀) (F : Fr h₀ L s.heap m) (X : (hd.heap_1 w.params).In h₀) (N : News h₀ L s.heap news) (T : Top p loose mean mg mb h₀) (hk : cs.kind = .function)
    (hdp : dp + 5 < recursionLimit) (hun : un + 300 < cLine)
    (hx : (x, instObj C dx) ∈ news) (hdx : (dx, dictOf es n) ∈ news) (hbs : KBw.bInts bs = ks)
    (hC : ClsOk (hd.heap_1 w.params) C) (hO : ObjOk es bs tb win tw)
    (hlen : ks.length ≤ 800) (hs : size = ks.length) (hp0 : 1 ≤ place) (hp1 : place ≤ ks.length) (hw : ks.length ≤ win) (hw1 : win < 900)
    (hret : ∀ (r : Int) (t : Tok) (h' : Heap) (tk' : Nat), Fr h₀ L h' m → News h₀ L h' news → IsLoc (fL ks) ks.length place.toNat r.toNat → 1 ≤ r → r ≤ ks.length → Q (.int r t) { s with heap := h', toks := tk' }) :
    wpAny (model prog w) (ktrTop dp un gd cn cs L a ccd cl outer) (call (.ref 349) [.ref x, .int place t1, .int size t3]) Q E s :=
  Hint.out (local_raw prog p loose w mean mg mb dp un gd cn cs a ccd cl outer A₀ base h₀ L m s Q E x C dx es n bs ks tb tw t1 t3 win place size news B F X N T hk hdp hun hx hdx hbs hC hO hlen hs hp0 hp1 hw hw1 hret)
theorem rows10 : True := by
  k_with_none
  k_with "k_all" => (first | assumption | exact lt_all (by assumption) | exact off_all (by assumption) | ((repeat' (with_reducible rename _ ∧ _ => hc9; cases hc9)); first | exact lt_all (by assumption) | exact lt_all1 (by assumption) | exact lt_all2 (by assumption) | exact off_all (by assumption)) | (refine List.forall_mem_append.mpr (And.intro ?_ ?_) <;> k_all))
  k_with "ktr_enter" => (first   | (refine' code_def ?k1 ?k2 ?k3 ?k4 ?k5 ?kA ?kF ?kK ?k6 ?k7 ?k8 ?k9 ?kB ?_ ?c2 ?c3 ?c4 ?c5; (case kA => exact rfl); (case kF => exact rfl); (case kK => first | exact rfl | assumption); (case k1 => k_asm); (case k2 => k_asm); (case k3 => k_asm); (case k4 => k_asm); (case k5 => k_asm); (case k6 => k_is); (case k7 => k_is); (case k8 => ktr_room); (case k9 => first | exact BindsTo.of_eq rfl | exact binds_K (by k_in) rfl (by k_is) rfl rfl rfl); (case c5 => decide); (case kB => exact locs rfl); (case c2 => exact rfl); (case c3 => exact rfl); (case c4 => exact rfl); k_whole; intro g' L' h' FG' F' N' B' X' T'; (try dsimp only); (try k_lift B'); (try k_fold))   | (refine' code_defC ?k1 ?k2 ?k3 ?k4 ?k5 ?kA ?kF ?kK ?k6 ?k7 ?k8 ?k9 ?kB ?kD ?_ ?c2 ?c3 ?c4; (case kA => exact rfl); (case kF => exact rfl); (case kK => first | exact rfl | assumption); (case k1 => k_asm); (case k2 => k_asm); (case k3 => k_asm); (case k4 => k_asm); (case k5 => k_asm); (case k6 => k_is); (case k7 => k_is); (case k8 => ktr_room); (case k9 => first | exact BindsTo.of_eq rfl | exact binds_K (by k_in) rfl (by k_is) rfl rfl rfl); (case kB => exact rfl); (case kD => decide +kernel); (case c2 => exact rfl); (case c3 => exact rfl); (case c4 => exact rfl); k_whole; intro g' L' h' tk' cells' FG' F' N' Y' B' X' T' l1; (try k_lt l1); k_cells Y'; (try simp only [List.cons_append, List.nil_append] at N'); (try dsimp only); (try k_lift B'); (try k_fold)))
  k_with "k_room" => (ktr_room)
  k_with "units_room" => (ktr_units)
  k_with "k_enter" => (((fail_if_success k_inElt); ktr_enter))
  k_with "k_is" => (with_reducible assumption)
  k_with "k_get" => (with_reducible assumption)
  k_with "call ref" => ((k_here; (with_reducible show wpAny _ _ (call (Value.ref 166) _ _) _ _ _); k_dflt (refine' repeat_use ?k1 ?k2 ?k3 ?k4 ?k5 ?kK ?kd ?ku ?hx ?hdx ?hb ?e1 ?e2 ?p0 ?p1 ?p2 ?p3 ?_; (case k1 => k_asm); (case k2 => k_asm); (case k3 => k_asm); (case k4 => k_asm); (case k5 => k_asm); (case kK => first | exact rfl | assumption); (case kd => ktr_room); (case ku => ktr_units); (case hx => k_mem); (case hdx => k_mem); (case hb => assumption); (case e1 => assumption); (case e2 => assumption); (case p0 => omega); (case p1 => omega); (case p2 => omega); (case p3 => omega); k_whole); intro c' t' h' tk' F' N' hRp'; (try dsimp only); (try k_fold)))
  k_with "pyIter ref" => ((k_here; (with_reducible show wpAny _ _ (pyIter (Value.ref _)) (fun it s₂ => LoopAtV _ _ _ _ _ _ _ _ _ it s₂) _ _); k_dflt (refine' for_pred [] ?hm ?h1 ?h2 ?h3 ?h4 ?h5 ?h6 ?h7 ?_ ?_; (case hm => assumption); (case h1 => rfl); (case h2 => assumption); (case h3 => exact small_one (by omega) (by omega) (by omega) (by omega)); (case h4 => exact rangeSize_nat _ _); (case h5 => k_asm); (case h6 => k_asm); (case h7 => exact NoPer.start)); intro i' k' t' u' h' tk' own' hk' hi' hP' hoff' F' N'; rotate_left; intro u' h' tk' hP' F' N'; rotate_left; (all_goals (try dsimp only)); (all_goals (try k_fold))))
  k_with "InvEndN" => ((k_dflt (refine' pred_end ?h1 ?h2 ?h3 ?h4 ?h5 ?h6 ?h7; (case h1 => assumption); (case h2 => assumption); (case h3 => kcf_all); (case h4 => kcf_all); (case h5 => rfl); (case h6 => ksw_same); (case h7 => exact NoPer.step' (by assumption) (by assumption) (by assumption) (by assumption) (by assumption) (by assumption) (by assumption)))))
  trivial
set_option maxRecDepth 100000 in
set_option maxHeartbeats 8000000 in
theorem period_raw (prog p : Program) (loose : List Str) (w : World) (mean : ExcName → Option Value) (mg mb : Str → Option Value) (dp un : Nat) (gd : Option (List Code)) (cn : Str) (cs : Scope) (a : Addr) (ccd : Value) (cl : List (Str × Addr)) (outer : List Env) (A₀ : Around) (base h₀ : Heap) (L : Addr) (m : Str → Option Value) (s : Shared) (Q E : Value → Shared → Prop)
    (x C dx : Addr) (es : List DictEntry) (n : Nat) (bs : Array UInt8) (ks : List Int) (tb tw t3 : Tok) (win size : Int) (news : List (Addr × Obj))
    (B : Below A₀ base outer h₀) (F : Fr h₀ L s.heap m) (X : (hd.heap_1 w.params).In h₀) (N : News h₀ L s.heap news) (T : Top p loose mean mg mb h₀) (hk : cs.kind = .function)
    (hdp : dp + 5 < recursionLimit) (hun : un + 300 < cLine)
    (hx : (x, instObj C dx) ∈ news) (hdx : (dx, dictOf es n) ∈ news) (hbs : KBw.bInts bs = ks)
    (hC : ClsOk (hd.heap_1 w.params) C) (hO : ObjOk es bs tb win tw)
    (hlen : ks.length ≤ 800) (hs : size = ks.length) (hp0 : 1 ≤ ks.length) (hw : ks.length ≤ win) (hw1 : win < 900)
    (hret : ∀ (r : Int) (t : Tok) (h' : Heap) (tk' : Nat), Fr h₀ L h' m → News h₀ L h' news → IsPer (fL ks) ks.length r.toNat → 1 ≤ r → r ≤ ks.length → Q (.int r t) { s with heap := h', toks := tk' }) :
    Hint PySem.Challenge.rw_tg0038_02 hd.heap_1 (wpAny (model prog w) (ktrTop dp un gd cn cs L a ccd cl outer) (call (.ref 356) [.ref x, .int size t3]) Q E s) := by
  have pm : PredMark (fun i => NoPer (fL ks) ks.length i) := ⟨⟩
  have q1 : findIn (hd.heap_1 w.params) (.ref C) (Str.ofString "repeat") = some (some (.ref 166)) := hC.f6
  have q2 : plainGet (hd.heap_1 w.params) C (Str.ofString "repeat") = true := hC.p6
  have q3 : getL (Str.ofString "repeat") es = some none := hO.g6
  w_top off
  k_fill
  unfold Hint
  refine wpAny_call ?_
  k_dflt ktr_enter
  k_steps
  · rename (NoPer _ _ _) => hP
    rename (_ = 1 + _) => hk1
    rename (IsR _ _ _ _ _ _) => hR1
    rename (_ < Int.toNat _) => hi1
    refine hret _ _ _ _ (by k_asm) (fun p hp => ?_) (NoPer.ret' hP hk1 hs hi1 hw hR1 (by assumption)) (by omega) (by omega)
    rename (News h₀ L _ (news ++ _)) => hN1
    exact hN1 p (List.mem_append_left _ hp)
  · exfalso
    rename (NoPer _ _ _) => hP
    exact NoPer.fin hP (by omega) (by omega)
theorem period_use {prog p : Program} {loose : List Str} {w : World} {mean : ExcName → Option Value} {mg mb : Str → Option Value} {dp un : Nat} {gd : Option (List Code)} {cn : Str} {cs : Scope} {a : Addr} {ccd : Value} {cl : List (Str × Addr)} {outer : List Env} {A₀ : Around} {base h₀ : Heap} {L : Addr} {m : Str → Option Value} {s : Shared} {Q E : Value → Shared → Prop}
    {x C dx : Addr} {es : List DictEntry} {n : Nat} {bs : Array UInt8} {ks : List Int} {tb tw t3 : Tok} {win size : Int} {news : List (Addr × Obj)}
    (B : Below A₀ base outer h₀) (F : Fr h₀ L s.heap m) (X : (hd.heap_1 w.params).In h₀) (N : News h₀ L s.heap news) (T : Top p loose mean mg mb h₀) (hk : cs.kind = .function)
    (hdp : dp + 5 < recursionLimit) (hun : un + 300 < cLine)
    (hx : (x, instObj C dx) ∈ news) (hdx : (dx, dictOf es n) ∈ news) (hbs : KBw.bInts bs = ks)
    (hC : ClsOk (hd.heap_1 w.params) C) (hO : ObjOk es bs tb win tw)
    (hlen : ks.length ≤ 800) (hs : size = ks.length) (hp0 : 1 ≤ ks.length) (hw : ks.length ≤ win) (hw1 : win < 900)
    (hret : ∀ (r : Int) (t : Tok) (h' : Heap) (tk' : Nat), Fr h₀ L h' m → News h₀ L h' news → IsPer (fL ks) ks.length r.toNat → 1 ≤ r → r ≤ ks.length → Q (.int r t) { s with heap := h', toks := tk' }) :
    wpAny (model prog w) (ktrTop dp un gd cn cs L a ccd cl outer) (call (.ref 356) [.ref x, .int size t3]) Q E s :=
  Hint.out (period_raw prog p loose w mean mg mb dp un gd cn cs a ccd cl outer A₀ base h₀ L m s Q E x C dx es n bs ks tb tw t3 win size news B F X N T hk hdp hun hx hdx hbs hC hO hlen hs hp0 hw hw1 hret)
theorem rows11 : True := by
  k_with_none
  k_with "k_all" => (first | assumption | exact lt_all (by assumption) | exact off_all (by assumption) | ((repeat' (with_reducible rename _ ∧ _ => hc9; cases hc9)); first | exact lt_all (by assumption) | exact lt_all1 (by assumption) | exact lt_all2 (by assumption) | exact off_all (by assumption)) | (refine List.forall_mem_append.mpr (And.intro ?_ ?_) <;> k_all))
  k_with "ktr_enter" => (first   | (refine' code_def ?k1 ?k2 ?k3 ?k4 ?k5 ?kA ?kF ?kK ?k6 ?k7 ?k8 ?k9 ?kB ?_ ?c2 ?c3 ?c4 ?c5; (case kA => exact rfl); (case kF => exact rfl); (case kK => first | exact rfl | assumption); (case k1 => k_asm); (case k2 => k_asm); (case k3 => k_asm); (case k4 => k_asm); (case k5 => k_asm); (case k6 => k_is); (case k7 => k_is); (case k8 => ktr_room); (case k9 => first | exact BindsTo.of_eq rfl | exact binds_K (by k_in) rfl (by k_is) rfl rfl rfl); (case c5 => decide); (case kB => exact locs rfl); (case c2 => exact rfl); (case c3 => exact rfl); (case c4 => exact rfl); k_whole; intro g' L' h' FG' F' N' B' X' T'; (try dsimp only); (try k_lift B'); (try k_fold))   | (refine' code_defC ?k1 ?k2 ?k3 ?k4 ?k5 ?kA ?kF ?kK ?k6 ?k7 ?k8 ?k9 ?kB ?kD ?_ ?c2 ?c3 ?c4; (case kA => exact rfl); (case kF => exact rfl); (case kK => first | exact rfl | assumption); (case k1 => k_asm); (case k2 => k_asm); (case k3 => k_asm); (case k4 => k_asm); (case k5 => k_asm); (case k6 => k_is); (case k7 => k_is); (case k8 => ktr_room); (case k9 => first | exact BindsTo.of_eq rfl | exact binds_K (by k_in) rfl (by k_is) rfl rfl rfl); (case kB => exact rfl); (case kD => decide +kernel); (case c2 => exact rfl); (case c3 => exact rfl); (case c4 => exact rfl); k_whole; intro g' L' h' tk' cells' FG' F' N' Y' B' X' T' l1; (try k_lt l1); k_cells Y'; (try simp only [List.cons_append, List.nil_append] at N'); (try dsimp only); (try k_lift B'); (try k_fold)))
  k_with "k_room" => (ktr_room)
  k_with "units_room" => (ktr_units)
  k_with "k_enter" => (((fail_if_success k_inElt); ktr_enter))
  k_with "k_is" => (with_reducible assumption)
  k_with "k_get" => (with_reducible assumption)
  trivial
set_option maxRecDepth 100000 in
set_option maxHeartbeats 8000000 in
theorem end_raw (prog p : Program) (loose : List Str) (w : World) (mean : ExcName → Option Value) (mg mb : Str → Option Value) (dp un : Nat) (gd : Option (List Code)) (cn : Str) (cs : Scope) (a : Addr) (ccd : Value) (cl : List (Str × Addr)) (outer : List Env) (A₀ : Around) (base h₀ : Heap) (L : Addr) (m : Str → Option Value) (s : Shared) (Q E : Value → Shared → Prop)
    (l : Addr) (nl : Nat) (vs : List Value) (ks : List Int) (rest : List (Addr × Obj))
    (B : Below A₀ base outer h₀) (F : Fr h₀ L s.heap m) (X : (hd.heap_1 w.params).In h₀) (N : News h₀ L s.heap ((l, listOf vs.toArray nl) :: rest)) (T : Top p loose mean mg mb h₀) (hk : cs.kind = .function)
    (hdp : dp + 3 < recursionLimit) (hun : un + 200 < cLine)
    (hi : IntsAre vs ks)
    (hlen : ks.length ≤ 800) (hp0 : 1 ≤ ks.length)
    (hret : ∀ (r : Int) (t : Tok) (h' : Heap) (tk' : Nat), Fr h₀ L h' m → News h₀ L h' ((l, listOf vs.toArray nl) :: rest) → EndInv ks ks.length r → Q (.int r t) { s with heap := h', toks := tk' }) :
    Hint PySem.Challenge.rw_tg0038_02 hd.heap_1 (wpAny (model prog w) (ktrTop dp un gd cn cs L a ccd cl outer) (call (.ref 363) [.ref l]) Q E s) := by
  w_top off
  k_fill
  unfold Hint
  refine wpAny_call ?_
  k_dflt ktr_enter
  k_with "pyIter ref" => k_state (fun pre found => EndAt ks pre.length found ∧ 0 ≤ found ∧ found < 1 + (pre.length : Int)) "found"
  k_with "exec While BoolOp cons nil" => k_while_given ["place", "found"] (fun place found _ c => EndCnt ks place found c ∧ 0 ≤ c ∧ place + c ≤ (ks.length : Int)) (fun place found _ c => ((ks.length : Int) - place - c).toNat) "count"
  k_with "state" => first | exact ⟨EndAt.start _, by decide, by decide⟩ | exact ⟨EndCnt.zero (by omega), by omega, by omega⟩ | exact ⟨EndCnt.more (by assumption) (by omega) (by omega) (by assumption) (by assumption), by omega, by omega⟩ | (simp only [List.length_append, List.length_singleton]; exact ⟨EndAt.gt (by assumption) (by assumption) (by assumption) (by assumption) (by assumption), by omega, by omega⟩) | (simp only [List.length_append, List.length_singleton]; exact ⟨EndAt.le (by assumption) (by assumption) (by assumption) (fun _ => by assumption) (fun _ => by assumption), by omega, by omega⟩) | (simp only [List.length_append, List.length_singleton]; exact ⟨EndAt.le (by assumption) (by assumption) (by assumption) (fun h => absurd h (by assumption)) (fun h => absurd h (by assumption)), by omega, by omega⟩)
  k_steps
  rename (EndAt _ _ _) => hE
  exact hret _ _ _ _ (by k_asm) (by k_asm) (EndAt.fin hE (rangeKs_length _ _) hp0)
theorem end_use {prog p : Program} {loose : List Str} {w : World} {mean : ExcName → Option Value} {mg mb : Str → Option Value} {dp un : Nat} {gd : Option (List Code)} {cn : Str} {cs : Scope} {a : Addr} {ccd : Value} {cl : List (Str × Addr)} {outer : List Env} {A₀ : Around} {base h₀ : Heap} {L : Addr} {m : Str → Option Value} {s : Shared} {Q E : Value → Shared → Prop}
    {l : Addr} {nl : Nat} {vs : List Value} {ks : List Int} {news : List (Addr × Obj)}
    (B : Below A₀ base outer h₀) (F : Fr h₀ L s.heap m) (X : (hd.heap_1 w.params).In h₀) (N : News h₀ L s.heap news) (T : Top p loose mean mg mb h₀) (hk : cs.kind = .function)
    (hdp : dp + 3 < recursionLimit) (hun : un + 200 < cLine)
    (hl : (l, listOf vs.toArray nl) ∈ news) (hi : IntsAre vs ks)
    (hlen : ks.length ≤ 800) (hp0 : 1 ≤ ks.length)
    (hret : ∀ (r : Int) (t : Tok) (h' : Heap) (tk' : Nat), Fr h₀ L h' m → News h₀ L h' news → EndInv ks ks.length r → Q (.int r t) { s with heap := h', toks := tk' }) :
    wpAny (model prog w) (ktrTop dp un gd cn cs L a ccd cl outer) (call (.ref 363) [.ref l]) Q E s := by
  refine Hint.out (end_raw prog p loose w mean mg mb dp un gd cn cs a ccd cl outer A₀ base h₀ L m s Q E l nl vs ks news B F X (fun q hq => ?_) T hk hdp hun hi hlen hp0 ?_)
  · rcases List.mem_cons.mp hq with rfl | hq
    · exact N _ hl
    · exact N _ hq
  · exact fun r t h' tk' F' N' hE => hret r t h' tk' F' (fun q hq => N' q (.tail _ hq)) hE
section
variable {prog : Program} {w : World} {A : Around} {h₀ : Heap} {L : Addr} {m : Str → Option Value} {env : Env} {elt : Expr} {x : Str} {scope : Scope} {cl : List (Str × Addr)} {s : Shared} {S : List (Addr × Obj) → Prop} {Fin : List Value → List (Addr × Obj) → Prop} {news : List (Addr × Obj)}
theorem neg_rest {vs : List Value} {ks : List Int} (hi : IntsAre vs ks)
    (turn : ∀ k t ys I oI C oC D m₂ h tk (E' : Value → Shared → Prop), LCg.NsObj oC m₂ → m₂ x = some (.int k t) → Fr h₀ L h m → News h₀ L h ((I, oI) :: (C, oC) :: (D, LCg.lst ys) :: news) → LCg.Off3 I C D news → ((@Ne Nat I C) ∧ (@Ne Nat I D) ∧ (@Ne Nat C D)) →
      wpAny (model prog w) A (eval elt (compEnvC scope cl C env)) (LCg.CompEnd h₀ L m { s with heap := h, toks := tk } I oI C oC D (LCg.lst ys) S (fun y nw => (∃ t', y = .int (255 - k) t') ∧ nw = news)) E' { s with heap := h, toks := tk })
    (fin : ∀ ys, IntsAre ys (ks.map Mine.neg) → Fin ys news) : LCg.CompRest prog w A h₀ L m env elt x scope cl s S (fun i v => vs.toArray[i]? = some v) Fin vs.toArray.size 0 [] news := by
  have hl : vs.toArray.size = ks.length := by rw [List.size_toArray, hi.length]
  rw [hl]
  refine comp_inv (fun i ys nw => nw = news ∧ IntsAre ys ((ks.take i).map Mine.neg)) ⟨rfl, .nil⟩ ?_ ?_
  · rintro i v ys nw I oI C oC D m₂ h tk E' hin hv ⟨rfl, hy⟩ hC hx F N off ne
    obtain ⟨t, ht⟩ := hi.get i ks[i] (by simp [hin])
    have ev : v = .int ks[i] t := by
      have hv' : vs[i]? = some v := by simpa using hv
      rw [ht] at hv'
      exact (Option.some.inj hv').symm
    subst ev
    refine wpAny_mono (turn _ t ys I oI C oC D m₂ h tk E' hC hx F N off ne) (fun y s₂ hq => ?_) fun _ _ e => e
    obtain ⟨h', tk', nw', e, F', N', off', hS, ⟨t', rfl⟩, rfl⟩ := hq
    refine ⟨h', tk', _, e, F', N', off', hS, rfl, ?_⟩
    rw [List.take_add_one, List.map_append]
    refine IntsAre.append hy ?_
    simp only [List.getElem?_eq_getElem hin, Option.toList_some, List.map_cons, List.map_nil]
    exact .cons _ t' .nil
  · rintro ys nw ⟨rfl, hy⟩
    rw [List.take_length] at hy
    exact fin ys hy
end
theorem neg_el {h₀ : Heap} {L I C D : Addr} {m : Str → Option Value} {s₁ : Shared} {oI oC oD : Obj} {S : List (Addr × Obj) → Prop} {h' : Heap} {tk : Nat} {all news : List (Addr × Obj)} {k : Int} {t : Tok}
    (F : Fr h₀ L h' m) (N : News h₀ L h' all) (sub : ∀ p ∈ (I, oI) :: (C, oC) :: (D, oD) :: news, p ∈ all) (off : LCg.Off3 I C D news) (hS : S news) :
    LCg.CompEnd h₀ L m s₁ I oI C oC D oD S (fun y nw => (∃ t', y = .int (255 - k) t') ∧ nw = news) (.int (255 - k) t) { s₁ with heap := h', toks := tk } :=
  LCg.CompEnd.intro F N _ sub off hS ⟨⟨t, rfl⟩, rfl⟩
structure ToldOk (ks ts : List Int) : Prop where
  len : (ts.length : Int) = ks.length - 1
  loc : ∀ j : Nat, j < ts.length → 1 ≤ ts.getD j 0 ∧ ts.getD j 0 ≤ ks.length ∧ IsLoc (fL ks) ks.length (j + 1) (ts.getD j 0).toNat
theorem crit_law {ks ts : List Int} {p a b : Int} (hp : IsPer (fL ks) ks.length p.toNat) (h1 : 1 < p) (hpn : p ≤ ks.length) (ht : ToldOk ks ts) (ha : EndInv ks ks.length a) (hb : EndInv (ks.map Mine.neg) (ks.map Mine.neg).length b) :
    0 < (if b > a then b else a) ∧ (if b > a then b else a) < p ∧ (if b > a then b else a) - 1 < ts.length ∧ ts.getD ((if b > a then b else a) - 1).toNat 0 = p := by
  have a0 := ha.lo
  have a1 := ha.lt
  have b0 := hb.lo
  have b1 := hb.lt
  rw [List.length_map] at b1
  have hl := ht.len
  have hc := crit (L := ks) (e1 := a.toNat) (e2 := b.toNat) (by omega) (by omega) ha.fin hb.fin hp (by omega)
  generalize hm : (if b > a then b else a) = z
  have hz : z.toNat = max a.toNat b.toNat := by rw [← hm]; split <;> omega
  have hz0 : 0 ≤ z := by rw [← hm]; split <;> omega
  rw [← hz] at hc
  obtain ⟨c1, c2, c3⟩ := hc
  refine ⟨by omega, by omega, by omega, ?_⟩
  have q := ht.loc (z - 1).toNat (by omega)
  rw [show (z - 1).toNat + 1 = z.toNat by omega] at q
  have := c3 _ q.2.2
  omega
theorem rows12 : True := by
  k_with_none
  k_with "k_all" => (first | assumption | exact lt_all (by assumption) | exact off_all (by assumption) | ((repeat' (with_reducible rename _ ∧ _ => hc9; cases hc9)); first | exact lt_all (by assumption) | exact lt_all1 (by assumption) | exact lt_all2 (by assumption) | exact off_all (by assumption)) | (refine List.forall_mem_append.mpr (And.intro ?_ ?_) <;> k_all))
  k_with "ktr_enter" => (first   | (refine' code_def ?k1 ?k2 ?k3 ?k4 ?k5 ?kA ?kF ?kK ?k6 ?k7 ?k8 ?k9 ?kB ?_ ?c2 ?c3 ?c4 ?c5; (case kA => exact rfl); (case kF => exact rfl); (case kK => first | exact rfl | assumption); (case k1 => k_asm); (case k2 => k_asm); (case k3 => k_asm); (case k4 => k_asm); (case k5 => k_asm); (case k6 => k_is); (case k7 => k_is); (case k8 => ktr_room); (case k9 => first | exact BindsTo.of_eq rfl | exact binds_K (by k_in) rfl (by k_is) rfl rfl rfl); (case c5 => decide); (case kB => exact locs rfl); (case c2 => exact rfl); (case c3 => exact rfl); (case c4 => exact rfl); k_whole; intro g' L' h' FG' F' N' B' X' T'; (try dsimp only); (try k_lift B'); (try k_fold))   | (refine' code_defC ?k1 ?k2 ?k3 ?k4 ?k5 ?kA ?kF ?kK ?k6 ?k7 ?k8 ?k9 ?kB ?kD ?_ ?c2 ?c3 ?c4; (case kA => exact rfl); (case kF => exact rfl); (case kK => first | exact rfl | assumption); (case k1 => k_asm); (case k2 => k_asm); (case k3 => k_asm); (case k4 => k_asm); (case k5 => k_asm); (case k6 => k_is); (case k7 => k_is); (case k8 => ktr_room); (case k9 => first | exact BindsTo.of_eq rfl | exact binds_K (by k_in) rfl (by k_is) rfl rfl rfl); (case kB => exact rfl); (case kD => decide +kernel); (case c2 => exact rfl); (case c3 => exact rfl); (case c4 => exact rfl); k_whole; intro g' L' h' tk' cells' FG' F' N' Y' B' X' T' l1; (try k_lt l1); k_cells Y'; (try simp only [List.cons_append, List.nil_append] at N'); (try dsimp only); (try k_lift B'); (try k_fold)))
  k_with "k_room" => (ktr_room)
  k_with "units_room" => (ktr_units)
  k_with "k_enter" => (((fail_if_success k_inElt); ktr_enter))
  k_with "k_is" => (with_reducible assumption)
  k_with "k_get" => (with_reducible assumption)
  k_with "call ref" => ((k_here; (with_reducible show wpAny _ _ (call (Value.ref 363) _ _) _ _ _); k_dflt (refine' end_use ?k1 ?k2 ?k3 ?k4 ?k5 ?kK ?kd ?ku ?hl ?hi ?q1 ?q2 ?_; (case k1 => k_asm); (case k2 => k_asm); (case k3 => k_asm); (case k4 => k_asm); (case k5 => k_asm); (case kK => first | exact rfl | assumption); (case kd => ktr_room); (case ku => ktr_units); (case hl => k_mem); (case hi => first | assumption | l_ints); (case q1 => (try simp only [List.length_map]); omega); (case q2 => (try simp only [List.length_map]); omega); k_whole); intro r' t' h' tk' F' N' hE'; (try dsimp only); (try k_fold)))
  k_with "eval ListComp" => ((k_here; k_dflt (refine LCg.ListComp_U (F₀ := by k_asm) (by with_unfolding_all rfl) (by decide) (by rfl) (by decide) (by rfl) ?_)))
  k_with "CompSrc" => ((k_here; k_dflt (refine LCg.CompSrc.ledger (by rfl) (by k_asm) (by k_asm) (by k_mem) (by assumption) ?_); intro g'; (refine' neg_rest (by assumption) ?_ ?_); intro k' t' ys' I' oI' C' oC' D' m' h' tk' E' hC' hx' F' N' off' ne'; (try simp only [LCg.Off3, and_true] at off'); rotate_left; intro ys' hy'; rotate_left; (all_goals (try dsimp only)); (all_goals (try k_fold))))
  k_with "CompEnd" => ((k_dflt (refine' neg_el ?kF ?kN ?ksub ?koff ?kS; (case kF => assumption); (case kN => assumption); (case ksub => (try dsimp only); kcf_all); (case koff => first | assumption | ((simp only [LCg.Off3, and_true]); assumption)); (case kS => first | exact trivial | exact .inr ⟨_, by k_mem, rfl, _, rfl⟩))))
  k_with "subscriptTail" => ((k_here; (have hcl9 := crit_law (by assumption) (by assumption) (by assumption) (by assumption) (by assumption) (by assumption)); k_dflt (refine' ksa_sub ?k1 ?k2 ?k3 ?k4 ?k5 ?k6 ?_ ?k7; (case k1 => k_asm); (case k2 => k_mem); (case k3 => with_reducible assumption); (case k4 => exact Int.sub_nonneg_of_le hcl9.1); (case k5 => exact hcl9.2.2.1); (case k6 => exact Int.lt_trans hcl9.2.2.1 (by omega)); (case k7 => with_unfolding_all rfl); k_whole); intro t9))
  trivial
set_option maxRecDepth 100000 in
set_option maxHeartbeats 8000000 in
theorem crit_raw (prog p : Program) (loose : List Str) (w : World) (mean : ExcName → Option Value) (mg mb : Str → Option Value) (dp un : Nat) (gd : Option (List Code)) (cn : Str) (cs : Scope) (a : Addr) (ccd : Value) (cl : List (Str × Addr)) (outer : List Env) (A₀ : Around) (base h₀ : Heap) (L : Addr) (m : Str → Option Value) (s : Shared) (Q E : Value → Shared → Prop)
    (l lt : Addr) (nl nt : Nat) (vs us : List Value) (ks ts : List Int) (period : Int) (tp : Tok) (rest : List (Addr × Obj))
    (B : Below A₀ base outer h₀) (F : Fr h₀ L s.heap m) (X : (hd.heap_1 w.params).In h₀) (N : News h₀ L s.heap ((l, listOf vs.toArray nl) :: (lt, listOf us.toArray nt) :: rest)) (T : Top p loose mean mg mb h₀) (hk : cs.kind = .function)
    (hdp : dp + 4 < recursionLimit) (hun : un + 300 < cLine)
    (hi : IntsAre vs ks) (hu : IntsAre us ts) (hp : IsPer (fL ks) ks.length period.toNat) (h1 : 1 < period) (hpn : period ≤ ks.length) (ht : ToldOk ks ts)
    (hlen : ks.length ≤ 60) (hp0 : 1 ≤ ks.length)
    (hret : ∀ (h' : Heap) (tk' : Nat), Fr h₀ L h' m → News h₀ L h' ((l, listOf vs.toArray nl) :: (lt, listOf us.toArray nt) :: rest) → Q (.bool true) { s with heap := h', toks := tk' }) :
    Hint PySem.Challenge.rw_tg0038_02 hd.heap_1 (wpAny (model prog w) (ktrTop dp un gd cn cs L a ccd cl outer) (call (.ref 368) [.ref l, .int period tp, .ref lt]) Q E s) := by
  have htl := ht.len
  have hvs : vs.toArray.size ≤ sizeLine := by rw [List.size_toArray, hi.length, PySem.sizeLine_eq]; omega
  w_top off
  k_fill
  unfold Hint
  refine wpAny_call ?_
  k_dflt ktr_enter
  k_steps
  all_goals (
    have hcl := crit_law hp h1 hpn ht (by assumption) (by assumption)
    first
      | (rw [decide_eq_true hcl.1]; exact hret _ _ (by k_asm) (cb_drop (by k_asm) (by kcf_all)))
      | (rw [decide_eq_true hcl.2.1]; exact hret _ _ (by k_asm) (cb_drop (by k_asm) (by kcf_all)))
      | (rw [hcl.2.2.2, beq_self_eq_true]; exact hret _ _ (by k_asm) (cb_drop (by k_asm) (by kcf_all))))
theorem crit_use {prog p : Program} {loose : List Str} {w : World} {mean : ExcName → Option Value} {mg mb : Str → Option Value} {dp un : Nat} {gd : Option (List Code)} {cn : Str} {cs : Scope} {a : Addr} {ccd : Value} {cl : List (Str × Addr)} {outer : List Env} {A₀ : Around} {base h₀ : Heap} {L : Addr} {m : Str → Option Value} {s : Shared} {Q E : Value → Shared → Prop}
    {l lt : Addr} {nl nt : Nat} {vs us : List Value} {ks ts : List Int} {period : Int} {tp : Tok} {news : List (Addr × Obj)}
    (B : Below A₀ base outer h₀) (F : Fr h₀ L s.heap m) (X : (hd.heap_1 w.params).In h₀) (N : News h₀ L s.heap news) (T : Top p loose mean mg mb h₀) (hk : cs.kind = .function)
    (hdp : dp + 4 < recursionLimit) (hun : un + 300 < cLine)
    (m0 : (l, listOf vs.toArray nl) ∈ news) (m1 : (lt, listOf us.toArray nt) ∈ news)
    (hi : IntsAre vs ks) (hu : IntsAre us ts) (hp : IsPer (fL ks) ks.length period.toNat) (h1 : 1 < period) (hpn : period ≤ ks.length) (ht : ToldOk ks ts)
    (hlen : ks.length ≤ 60) (hp0 : 1 ≤ ks.length)
    (hret : ∀ (h' : Heap) (tk' : Nat), Fr h₀ L h' m → News h₀ L h' news → Q (.bool true) { s with heap := h', toks := tk' }) :
    wpAny (model prog w) (ktrTop dp un gd cn cs L a ccd cl outer) (call (.ref 368) [.ref l, .int period tp, .ref lt]) Q E s := by
  refine Hint.out (crit_raw prog p loose w mean mg mb dp un gd cn cs a ccd cl outer A₀ base h₀ L m s Q E l lt nl nt vs us ks ts period tp news B F X (fun q hq => ?_) T hk hdp hun hi hu hp h1 hpn ht hlen hp0 ?_)
  · rcases List.mem_cons.mp hq with rfl | hq
    · exact N _ m0
    · rcases List.mem_cons.mp hq with rfl | hq
      · exact N _ m1
      · exact N _ hq
  · exact fun h' tk' F' N' => hret h' tk' F' fun q hq => N' q (.tail _ (.tail _ hq))
def OwnAt (ks : List Int) (place : Nat) (whole : Bool) (r : Nat) : Prop := if whole then PerAt (fL ks) ks.length r else LocAt (fL ks) ks.length place r
def NoOwn (ks : List Int) (place : Nat) (whole : Bool) (i : Nat) : Prop := ∀ r', 1 ≤ r' → r' < 1 + i → ¬ OwnAt ks place whole r'
structure IsOwn (ks : List Int) (place : Nat) (whole : Bool) (r : Nat) : Prop where
  pos : 1 ≤ r
  at' : OwnAt ks place whole r
  least : ∀ r', 1 ≤ r' → r' < r → ¬ OwnAt ks place whole r'
theorem NoOwn.start {ks : List Int} {k : Nat} {wh : Bool} : NoOwn ks k wh 0 := fun r' h1 h2 => by omega
theorem NoOwn.step {ks : List Int} {k i : Nat} {wh : Bool} {z : Int} (h : NoOwn ks k wh i) (hz : z = 1 + (i : Int)) (hf : ¬ OwnAt ks k wh z.toNat) : NoOwn ks k wh (i + 1) := fun r' h1 h2 h3 => by
  by_cases c : r' < 1 + i
  · exact h r' h1 c h3
  · obtain rfl : r' = z.toNat := by omega
    exact hf h3
theorem NoOwn.ret {ks : List Int} {k i : Nat} {wh : Bool} {z : Int} (h : NoOwn ks k wh i) (hz : z = 1 + (i : Int)) (hf : OwnAt ks k wh z.toNat) : IsOwn ks k wh z.toNat := ⟨by omega, hf, fun r' h1 h2 => h r' h1 (by omega)⟩
theorem NoOwn.fin {ks : List Int} {k i : Nat} {wh : Bool} (h : NoOwn ks k wh i) (h1 : 1 ≤ ks.length) (hi : i + 1 = ks.length) : IsOwn ks k wh ks.length :=
  ⟨h1, by unfold OwnAt; split <;> (intro j; intros; omega), fun r' a b => h r' a (by omega)⟩
theorem IsOwn.loc {ks : List Int} {k r r' : Nat} (h : IsOwn ks k false r) (h' : IsLoc (fL ks) ks.length k r') : r' = r := by
  rcases Nat.lt_trichotomy r r' with q | q | q
  · exact absurd (by simpa [OwnAt] using h.at') (h'.least r h.pos q)
  · exact q.symm
  · exact absurd (by simpa [OwnAt] using h'.at') (h.least r' h'.pos q)
theorem IsOwn.per {ks : List Int} {k r r' : Nat} (h : IsOwn ks k true r) (h' : IsPer (fL ks) ks.length r') : r' = r := by
  rcases Nat.lt_trichotomy r r' with q | q | q
  · exact absurd (by simpa [OwnAt] using h.at') (h'.least r h.pos q)
  · exact q.symm
  · exact absurd (by simpa [OwnAt] using h'.at') (h.least r' h'.pos q)
/-- two pieces of a text -/
def cut (ks : List Int) (a b : Nat) : List Int := (ks.drop a).take (b - a)
theorem cut_iff {ks : List Int} {a b r : Nat} (hab : a ≤ b) (hb : b + r ≤ ks.length) : cut ks a b = cut ks (a + r) (b + r) ↔ ∀ j, a ≤ j → j < b → ks.getD j 0 = ks.getD (j + r) 0 := by
  unfold cut
  constructor
  · intro h j h1 h2
    have q := congrArg (fun l => l.getD (j - a) 0) h
    simp only [List.getD_eq_getElem?_getD, List.getElem?_take, List.getElem?_drop] at q
    rw [if_pos (by omega), if_pos (by omega), show a + (j - a) = j by omega, show a + r + (j - a) = j + r by omega] at q
    simpa [List.getD_eq_getElem?_getD] using q
  · intro h
    apply List.ext_getElem
    · simp; omega
    · intro i h1 h2
      simp only [List.length_take, List.length_drop] at h1 h2
      rw [List.getElem_take, List.getElem_take, List.getElem_drop, List.getElem_drop]
      have q := h (a + i) (by omega) (by omega)
      rw [getD_eq (by omega), getD_eq (by omega)] at q
      rw [q]
      congr 1
      omega
theorem clip_of {n : Nat} {i : Int} (h : 0 ≤ i) (h' : i ≤ n) : clipAt n i = i.toNat := by
  have := clipAt_cast n i
  rw [if_neg (by omega)] at this
  omega
theorem u8_inj : ∀ {a b : List UInt8}, (a.map fun c => (c.toNat : Int)) = (b.map fun c => (c.toNat : Int)) → a = b
  | [], [], _ => rfl
  | [], _ :: _, h => by simp at h
  | _ :: _, [], h => by simp at h
  | x :: a, y :: b, h => by
    rw [List.map_cons, List.map_cons, List.cons.injEq] at h
    have e1 : x = y := UInt8.toNat_inj.mp (by omega)
    rw [e1, u8_inj h.2]
theorem own_cut {ks : List Int} {X Y : Array UInt8} {lo hi k : Int} (h0 : 0 ≤ lo) (h1 : lo ≤ hi) (h2 : hi + k ≤ ks.length) (hk : 0 ≤ k)
    (hx : KBw.bInts X = List.take (clipAt ks.length hi - clipAt ks.length lo) (List.drop (clipAt ks.length lo) ks))
    (hy : KBw.bInts Y = List.take (clipAt ks.length (hi + k) - clipAt ks.length (lo + k)) (List.drop (clipAt ks.length (lo + k)) ks)) :
    (X.toList == Y.toList) = true ↔ ∀ j, lo.toNat ≤ j → j < hi.toNat → ks.getD j 0 = ks.getD (j + k.toNat) 0 := by
  rw [clip_of (by omega) (by omega), clip_of (by omega) (by omega)] at hx hy
  rw [show (hi + k).toNat = hi.toNat + k.toNat by omega, show (lo + k).toNat = lo.toNat + k.toNat by omega] at hy
  rw [← cut_iff (by omega) (by omega)]
  unfold cut
  rw [← hx, ← hy, beq_iff_eq]
  exact ⟨fun e => by unfold KBw.bInts; rw [e], fun e => u8_inj e⟩
theorem own_w {ks : List Int} {X Y : Array UInt8} {place k : Int} {wh : Bool} {β : Bool} (ha : (X.toList == Y.toList) = β) (hwh : wh = true) (hpw : wh = true → place = ks.length) (hk : 1 ≤ k) (hkn : k < ks.length)
    (hx : KBw.bInts X = List.take (clipAt ks.length (if (ks.length : Int) - k < place then (ks.length : Int) - k else place) - clipAt ks.length 0) (List.drop (clipAt ks.length 0) ks))
    (hy : KBw.bInts Y = List.take (clipAt ks.length ((if (ks.length : Int) - k < place then (ks.length : Int) - k else place) + k) - clipAt ks.length (0 + k)) (List.drop (clipAt ks.length (0 + k)) ks)) :
    β = true ↔ OwnAt ks place.toNat wh k.toNat := by
  have hp := hpw hwh
  have e : (if (ks.length : Int) - k < place then (ks.length : Int) - k else place) = (ks.length : Int) - k := by split <;> omega
  rw [e] at hx hy
  have q := own_cut (k := k) (by decide) (by omega) (by omega) (by omega) hx hy
  rw [← ha, q]
  unfold OwnAt
  rw [if_pos hwh]
  exact ⟨fun h j hj => h j (by omega) (by omega), fun h j h1 h2 => h j (by omega)⟩
theorem own_l {ks : List Int} {X Y : Array UInt8} {place k : Int} {wh : Bool} {β : Bool} (ha : (X.toList == Y.toList) = β) (hwh : wh = false) (hp0 : 1 ≤ place) (hp : place ≤ ks.length) (hk : 1 ≤ k) (hkn : k < ks.length)
    (hx : KBw.bInts X = List.take (clipAt ks.length (if (ks.length : Int) - k < place then (ks.length : Int) - k else place) - clipAt ks.length (if place - k > 0 then place - k else 0)) (List.drop (clipAt ks.length (if place - k > 0 then place - k else 0)) ks))
    (hy : KBw.bInts Y = List.take (clipAt ks.length ((if (ks.length : Int) - k < place then (ks.length : Int) - k else place) + k) - clipAt ks.length ((if place - k > 0 then place - k else 0) + k)) (List.drop (clipAt ks.length ((if place - k > 0 then place - k else 0) + k)) ks)) :
    β = true ↔ OwnAt ks place.toNat wh k.toNat := by
  generalize e1 : (if (ks.length : Int) - k < place then (ks.length : Int) - k else place) = hi at hx hy
  generalize e2 : (if place - k > 0 then place - k else 0) = lo at hx hy
  have f1 : hi = min ((ks.length : Int) - k) place := by rw [← e1]; split <;> omega
  have f2 : lo = max (place - k) 0 := by rw [← e2]; split <;> omega
  have q := own_cut (k := k) (by omega) (by omega) (by omega) (by omega) hx hy
  rw [← ha, q]
  unfold OwnAt
  rw [if_neg (by rw [hwh]; decide)]
  exact ⟨fun h j h1 h2 h3 => h j (by omega) (by omega), fun h j h1 h2 => h j (by omega) (by omega) (by omega)⟩
theorem own_not {ks : List Int} {place k : Int} {wh : Bool} (h : false = true ↔ OwnAt ks place.toNat wh k.toNat) : ¬ OwnAt ks place.toNat wh k.toNat := fun q => Bool.noConfusion (h.mpr q)
theorem rows13 : True := by
  k_with_none
  k_with "k_all" => (first | assumption | exact lt_all (by assumption) | exact off_all (by assumption) | ((repeat' (with_reducible rename _ ∧ _ => hc9; cases hc9)); first | exact lt_all (by assumption) | exact lt_all1 (by assumption) | exact lt_all2 (by assumption) | exact off_all (by assumption)) | (refine List.forall_mem_append.mpr (And.intro ?_ ?_) <;> k_all))
  k_with "ktr_enter" => (first   | (refine' code_def ?k1 ?k2 ?k3 ?k4 ?k5 ?kA ?kF ?kK ?k6 ?k7 ?k8 ?k9 ?kB ?_ ?c2 ?c3 ?c4 ?c5; (case kA => exact rfl); (case kF => exact rfl); (case kK => first | exact rfl | assumption); (case k1 => k_asm); (case k2 => k_asm); (case k3 => k_asm); (case k4 => k_asm); (case k5 => k_asm); (case k6 => k_is); (case k7 => k_is); (case k8 => ktr_room); (case k9 => first | exact BindsTo.of_eq rfl | exact binds_K (by k_in) rfl (by k_is) rfl rfl rfl); (case c5 => decide); (case kB => exact locs rfl); (case c2 => exact rfl); (case c3 => exact rfl); (case c4 => exact rfl); k_whole; intro g' L' h' FG' F' N' B' X' T'; (try dsimp only); (try k_lift B'); (try k_fold))   | (refine' code_defC ?k1 ?k2 ?k3 ?k4 ?k5 ?kA ?kF ?kK ?k6 ?k7 ?k8 ?k9 ?kB ?kD ?_ ?c2 ?c3 ?c4; (case kA => exact rfl); (case kF => exact rfl); (case kK => first | exact rfl | assumption); (case k1 => k_asm); (case k2 => k_asm); (case k3 => k_asm); (case k4 => k_asm); (case k5 => k_asm); (case k6 => k_is); (case k7 => k_is); (case k8 => ktr_room); (case k9 => first | exact BindsTo.of_eq rfl | exact binds_K (by k_in) rfl (by k_is) rfl rfl rfl); (case kB => exact rfl); (case kD => decide +kernel); (case c2 => exact rfl); (case c3 => exact rfl); (case c4 => exact rfl); k_whole; intro g' L' h' tk' cells' FG' F' N' Y' B' X' T' l1; (try k_lt l1); k_cells Y'; (try simp only [List.cons_append, List.nil_append] at N'); (try dsimp only); (try k_lift B'); (try k_fold)))
  k_with "k_room" => (ktr_room)
  k_with "units_room" => (ktr_units)
  k_with "k_enter" => (((fail_if_success k_inElt); ktr_enter))
  k_with "pyIter ref" => ((k_here; (with_reducible show wpAny _ _ (pyIter (Value.ref _)) (fun it s₂ => LoopAtV _ _ _ _ _ _ _ _ _ it s₂) _ _); k_dflt (refine' for_pred ["low", "high"] ?hm ?h1 ?h2 ?h3 ?h4 ?h5 ?h6 ?h7 ?_ ?_; (case hm => assumption); (case h1 => rfl); (case h2 => assumption); (case h3 => exact small_one (by omega) (by omega) (by omega) (by omega)); (case h4 => exact rangeSize_nat _ _); (case h5 => k_asm); (case h6 => k_asm); (case h7 => exact NoOwn.start)); intro i' k' t' u' h' tk' own' hk' hi' hP' hoff' F' N'; rotate_left; intro u' h' tk' hP' F' N'; rotate_left; (all_goals (try dsimp only)); (all_goals (try k_fold))))
  k_with "InvEndN" => ((k_dflt (refine' pred_end ?h1 ?h2 ?h3 ?h4 ?h5 ?h6 ?h7; (case h1 => assumption); (case h2 => assumption); (case h3 => kcf_all); (case h4 => kcf_all); (case h5 => rfl); (case h6 => ksw_same); (case h7 => first | exact NoOwn.step (by with_reducible assumption) (by with_reducible assumption) (own_not (own_w (by with_reducible assumption) (by with_reducible assumption) (by with_reducible assumption) (by omega) (by omega) (by with_reducible assumption) (by with_reducible assumption))) | exact NoOwn.step (by with_reducible assumption) (by with_reducible assumption) (own_not (own_l (by with_reducible assumption) (by with_reducible assumption) (by omega) (by omega) (by omega) (by omega) (by with_reducible assumption) (by with_reducible assumption)))))))
  trivial
set_option maxRecDepth 100000 in
set_option maxHeartbeats 8000000 in
theorem own_raw (prog p : Program) (loose : List Str) (w : World) (mean : ExcName → Option Value) (mg mb : Str → Option Value) (dp un : Nat) (gd : Option (List Code)) (cn : Str) (cs : Scope) (a : Addr) (ccd : Value) (cl : List (Str × Addr)) (outer : List Env) (A₀ : Around) (base h₀ : Heap) (L : Addr) (m : Str → Option Value) (s : Shared) (Q E : Value → Shared → Prop)
    (bs : Array UInt8) (ks : List Int) (tb t1 : Tok) (place : Int) (wh : Bool) (news : List (Addr × Obj))
    (B : Below A₀ base outer h₀) (F : Fr h₀ L s.heap m) (X : (hd.heap_1 w.params).In h₀) (N : News h₀ L s.heap news) (T : Top p loose mean mg mb h₀) (hk : cs.kind = .function)
    (hdp : dp + 1 < recursionLimit) (hun : un + 200 < cLine)
    (hbs : KBw.bInts bs = ks) (hlen : ks.length ≤ 60) (hp0 : 1 ≤ place) (hp1 : place ≤ ks.length) (hpw : wh = true → place = ks.length)
    (hret : ∀ (r : Int) (t : Tok) (h' : Heap) (tk' : Nat), Fr h₀ L h' m → News h₀ L h' news → IsOwn ks place.toNat wh r.toNat → 1 ≤ r → Q (.int r t) { s with heap := h', toks := tk' }) :
    Hint PySem.Challenge.rw_tg0038_02 hd.heap_1 (wpAny (model prog w) (ktrTop dp un gd cn cs L a ccd cl outer) (call (.ref 375) [.bytes bs tb, .int place t1, .bool wh]) Q E s) := by
  have pm : PredMark (fun i => NoOwn ks place.toNat wh i) := ⟨⟩
  w_top off
  k_fill
  unfold Hint
  refine wpAny_call ?_
  k_dflt ktr_enter
  k_steps
  · rename (NoOwn _ _ _ _) => hP
    rename (_ = 1 + _) => hk1
    refine hret _ _ _ _ (by k_asm) (fun p hp => ?_) (NoOwn.ret hP hk1 ((own_w (by with_reducible assumption) (by with_reducible assumption) (by with_reducible assumption) (by omega) (by omega) (by with_reducible assumption) (by with_reducible assumption)).mp rfl)) (by omega)
    rename (News h₀ L _ (_ :: (news ++ _))) => hN1
    exact hN1 p (.tail _ (List.mem_append_left _ hp))
  · rename (NoOwn _ _ _ _) => hP
    rename (_ = 1 + _) => hk1
    refine hret _ _ _ _ (by k_asm) (fun p hp => ?_) (NoOwn.ret hP hk1 ((own_l (by with_reducible assumption) (by with_reducible assumption) (by omega) (by omega) (by omega) (by omega) (by with_reducible assumption) (by with_reducible assumption)).mp rfl)) (by omega)
    rename (News h₀ L _ (_ :: (news ++ _))) => hN1
    exact hN1 p (.tail _ (List.mem_append_left _ hp))
  · rename (NoOwn _ _ _ _) => hP
    refine hret _ _ _ _ (by k_asm) (by k_asm) ?_ (by omega)
    rw [Int.toNat_natCast]
    exact NoOwn.fin hP (by omega) (by omega)
theorem own_use {prog p : Program} {loose : List Str} {w : World} {mean : ExcName → Option Value} {mg mb : Str → Option Value} {dp un : Nat} {gd : Option (List Code)} {cn : Str} {cs : Scope} {a : Addr} {ccd : Value} {cl : List (Str × Addr)} {outer : List Env} {A₀ : Around} {base h₀ : Heap} {L : Addr} {m : Str → Option Value} {s : Shared} {Q E : Value → Shared → Prop}
    {bs : Array UInt8} {ks : List Int} {tb t1 : Tok} {place : Int} {wh : Bool} {news : List (Addr × Obj)}
    (B : Below A₀ base outer h₀) (F : Fr h₀ L s.heap m) (X : (hd.heap_1 w.params).In h₀) (N : News h₀ L s.heap news) (T : Top p loose mean mg mb h₀) (hk : cs.kind = .function)
    (hdp : dp + 1 < recursionLimit) (hun : un + 200 < cLine)
    (hbs : KBw.bInts bs = ks) (hlen : ks.length ≤ 60) (hp0 : 1 ≤ place) (hp1 : place ≤ ks.length) (hpw : wh = true → place = ks.length)
    (hret : ∀ (r : Int) (t : Tok) (h' : Heap) (tk' : Nat), Fr h₀ L h' m → News h₀ L h' news → IsOwn ks place.toNat wh r.toNat → 1 ≤ r → Q (.int r t) { s with heap := h', toks := tk' }) :
    wpAny (model prog w) (ktrTop dp un gd cn cs L a ccd cl outer) (call (.ref 375) [.bytes bs tb, .int place t1, .bool wh]) Q E s :=
  Hint.out (own_raw prog p loose w mean mg mb dp un gd cn cs a ccd cl outer A₀ base h₀ L m s Q E bs ks tb t1 place wh news B F X N T hk hdp hun hbs hlen hp0 hp1 hpw hret)
theorem rows14 : True := by
  k_with_none
  k_with "k_all" => (first | assumption | exact lt_all (by assumption) | exact off_all (by assumption) | ((repeat' (with_reducible rename _ ∧ _ => hc9; cases hc9)); first | exact lt_all (by assumption) | exact lt_all1 (by assumption) | exact lt_all2 (by assumption) | exact off_all (by assumption)) | (refine List.forall_mem_append.mpr (And.intro ?_ ?_) <;> k_all))
  k_with "ktr_enter" => (first   | (refine' code_def ?k1 ?k2 ?k3 ?k4 ?k5 ?kA ?kF ?kK ?k6 ?k7 ?k8 ?k9 ?kB ?_ ?c2 ?c3 ?c4 ?c5; (case kA => exact rfl); (case kF => exact rfl); (case kK => first | exact rfl | assumption); (case k1 => k_asm); (case k2 => k_asm); (case k3 => k_asm); (case k4 => k_asm); (case k5 => k_asm); (case k6 => k_is); (case k7 => k_is); (case k8 => ktr_room); (case k9 => first | exact BindsTo.of_eq rfl | exact binds_K (by k_in) rfl (by k_is) rfl rfl rfl); (case c5 => decide); (case kB => exact locs rfl); (case c2 => exact rfl); (case c3 => exact rfl); (case c4 => exact rfl); k_whole; intro g' L' h' FG' F' N' B' X' T'; (try dsimp only); (try k_lift B'); (try k_fold))   | (refine' code_defC ?k1 ?k2 ?k3 ?k4 ?k5 ?kA ?kF ?kK ?k6 ?k7 ?k8 ?k9 ?kB ?kD ?_ ?c2 ?c3 ?c4; (case kA => exact rfl); (case kF => exact rfl); (case kK => first | exact rfl | assumption); (case k1 => k_asm); (case k2 => k_asm); (case k3 => k_asm); (case k4 => k_asm); (case k5 => k_asm); (case k6 => k_is); (case k7 => k_is); (case k8 => ktr_room); (case k9 => first | exact BindsTo.of_eq rfl | exact binds_K (by k_in) rfl (by k_is) rfl rfl rfl); (case kB => exact rfl); (case kD => decide +kernel); (case c2 => exact rfl); (case c3 => exact rfl); (case c4 => exact rfl); k_whole; intro g' L' h' tk' cells' FG' F' N' Y' B' X' T' l1; (try k_lt l1); k_cells Y'; (try simp only [List.cons_append, List.nil_append] at N'); (try dsimp only); (try k_lift B'); (try k_fold)))
  k_with "k_room" => (ktr_room)
  k_with "units_room" => (ktr_units)
  k_with "k_enter" => (((fail_if_success k_inElt); ktr_enter))
  k_with "call ref" => ((k_here; (with_reducible show wpAny _ _ (call (Value.ref 323) _ _) _ _ _); k_dflt (refine' take_use ?k1 ?k2 ?k3 ?k4 ?k5 ?kK ?kd ?ku ?kU ?kb ?p1 ?p2 ?_; (case k1 => k_asm); (case k2 => k_asm); (case k3 => k_asm); (case k4 => k_asm); (case k5 => k_asm); (case kK => first | exact rfl | assumption); (case kd => ktr_room); (case ku => ktr_units); (case kU => k_updF); (case kb => assumption); (case p1 => first | decide | omega); (case p2 => first | decide | omega); k_whole); intro r' t' d' st' t1' t2' n' h' tk' F' N' hb' hr0' hr1'; (try dsimp only); (try k_fold)))
  k_with "call ref" => ((k_here; (with_reducible show wpAny _ _ (call (Value.ref 328) _ _) _ _ _); k_dflt (refine' word_use ?k1 ?k2 ?k3 ?k4 ?k5 ?kK ?kd ?ku ?kU ?kb ?p1 ?p2 ?_; (case k1 => k_asm); (case k2 => k_asm); (case k3 => k_asm); (case k4 => k_asm); (case k5 => k_asm); (case kK => first | exact rfl | assumption); (case kd => ktr_room); (case ku => ktr_units); (case kU => k_updF); (case kb => assumption); (case p1 => first | decide | omega); (case p2 => first | decide | omega); k_whole); intro l' ys' ns' nn' d' st' t1' t2' n' h' tk' F' N' off' hy' hl' hr' hb'; (try dsimp only at N' off'); (try simp only [LCg.Off1, and_true] at off'); (try dsimp only); (try k_fold)))
  k_with "kba_in" => (first | assumption | exact in_of (by assumption) | (refine in_take _ ?_; kba_in) | (refine in_rep _ ?_; kba_in) | (refine in_app ?_ ?_ <;> kba_in) | (refine in_set ?_ (by omega); kba_in))
  k_with "setItem ref int" => ((k_here; (with_reducible show wpAny _ _ (setItem (Value.ref _) (Value.int _ _) (Value.int _ _)) _ _ _); k_dflt (refine' ksa_set ?k1 ?k2 ?k3 ?k4 ?k5 ?k6 ?k7 ?_; (case k1 => k_asm); (case k2 => k_asm); (case k3 => k_upd); (case k4 => with_reducible assumption); (case k5 => assumption); (case k6 => assumption); (case k7 => omega); k_whole); intro h' F' N' hi' hl' hs'; clear hs'; (try k_sweep)))
  k_with "subscriptTail Name Slice ref ref" => ((k_here; (with_reducible show wpAny _ _ (subscriptTail _ (PySem.Expr.Slice _ _ none _) (Value.ref _) (Value.ref _)) _ _ _); k_dflt (first | (refine' slice_up ?F ?N ?l ?i ?z0 ?z1 ?_ ?s ?t; (case F => k_asm); (case N => k_asm); (case l => k_mem); (case i => l_ints); (case z0 => omega); (case z1 => exact rep_size (by omega) (by omega)); (case s => with_unfolding_all rfl); (case t => kmk_pure)) | (refine' slice_up (s := ⟨_, _, _, _, _⟩) ?F ?N ?l ?i ?z0 ?z1 ?_ ?s ?t; (case F => k_asm); (case N => k_asm); (case l => k_mem); (case i => l_ints); (case z0 => omega); (case z1 => exact rep_size (by omega) (by omega)); (case s => with_unfolding_all rfl); (case t => kmk_pure))); intro D' ws' h' F' N' l1 hI' hL' hT'; (try (have hG' := rep_geq hL' (by omega))); (try k_lt l1); (try k_sweep); (try dsimp only)))
  k_with "exec While Compare cons nil" => ((k_here; k_dflt (refine' ws_while ?hb ?F ?g1 ?g2 ?N ?sub ?i1 ?i2 ?r1 ?r2 ?a1 ?a2 ?b1 ?b2 ?e1 ?e2 ?_ ?hE; (case hb => with_reducible assumption); (case F => k_asm); (case g1 => rfl); (case g2 => rfl); (case N => k_asm); (case sub => kcf_all); (case i1 => with_reducible assumption); (case i2 => with_reducible assumption); (case r1 => kba_in); (case r2 => kba_in); (case a1 => omega); (case a2 => omega); (case b1 => omega); (case b2 => omega); (case e1 => k_ne); (case e2 => k_ne); (case hE => passes_own)); (repeat (with_reducible rename _ ∧ _ => hc9; clear hc9)); intro d1' d2' v1' v2' n1' n2' k1' k2' h' tk' hi1' hi2' hr1' hr2' ha1' ha2' hb1' hb2' he1' he2' F' N'; (all_goals (try dsimp only)); (all_goals (try k_fold))))
  k_with "KswEnd" => ((k_dflt (refine' ws_end ?F ?g1 ?g2 ?N ?hn ?hr ?i1 ?i2 ?r1 ?r2 ?a1 ?a2 ?b1 ?b2 ?e1 ?e2 ?hl ?hg; (case F => assumption); (case g1 => rfl); (case g2 => rfl); (case N => assumption); (case hn => kcf_all); (case hr => (intro z h1 h2; first | (simp only [h1, h2, if_false]; done) | (simp only [WFr, h1, h2, if_false]; done) | (simp [WFr, h1, h2]; done) | (dsimp only [WFr]; simp only [h1, h2, if_false]; done))); (case i1 => with_reducible assumption); (case i2 => with_reducible assumption); (case r1 => kba_in); (case r2 => kba_in); (case a1 => omega); (case a2 => ((try simp only [List.length_append]); omega)); (case b1 => omega); (case b2 => ((try simp only [List.length_append]); omega)); (case e1 => first | with_reducible assumption | k_ne); (case e2 => first | with_reducible assumption | k_ne); (case hl => (dsimp only; omega)); (case hg => ((try simp only [List.length_append]); omega)))))
  k_with "subscriptTail Name Slice ref ref" => ((k_dflt (exfalso; omega)))
  k_with "exec While Compare cons nil" => ((k_dflt (exfalso; omega)))
  k_with "KswPost" => ((unfold WPost; dsimp only [KswPost]))
  trivial
set_option maxRecDepth 100000 in
set_option maxHeartbeats 16000000 in
theorem text_raw (prog p : Program) (loose : List Str) (w : World) (mean : ExcName → Option Value) (mg mb : Str → Option Value) (dp un : Nat) (gd : Option (List Code)) (cn : Str) (cs : Scope) (a : Addr) (ccd : Value) (cl : List (Str × Addr)) (outer : List Env) (A₀ : Around) (base h₀ : Heap) (L : Addr) (m : Str → Option Value) (s : Shared) (Q E : Value → Shared → Prop)
    (b : Addr) (d st : Int) (t1 t2 tm : Tok) (n : Nat) (most : Int) (rest : List (Addr × Obj))
    (B : Below A₀ base outer h₀) (F : Fr h₀ L s.heap m) (X : (hd.heap_1 w.params).In h₀) (N : News h₀ L s.heap ((b, boxO d st t1 t2 n) :: rest)) (T : Top p loose mean mg mb h₀) (hk : cs.kind = .function)
    (hdp : dp + 3 < recursionLimit) (hun : un + 24 < cLine)
    (hdis : ∀ p ∈ rest, p.1 ≠ b) (hb : BoxOk d st) (hm1 : 9 ≤ most) (hm2 : most ≤ 18)
    (hret : ∀ (bs : Array UInt8) (ks : List Int) (tb : Tok) (d' st' : Int) (t1' t2' : Tok) (n' : Nat) (h' : Heap) (tk' : Nat), Fr h₀ L h' m → News h₀ L h' ((b, boxO d' st' t1' t2' n') :: rest) → BoxOk d' st' → KBw.bInts bs = ks → 2 ≤ ks.length → ks.length ≤ 20 → Q (.bytes bs tb) { s with heap := h', toks := tk' }) :
    Hint PySem.Challenge.rw_tg0038_02 hd.heap_1 (wpAny (model prog w) (ktrTop dp un gd cn cs L a ccd cl outer) (call (.ref 335) [.ref b, .int most tm]) Q E s) := by
  have bm : BoxMark b rest := ⟨⟩
  w_top off
  k_fill
  unfold Hint
  refine wpAny_call ?_
  k_dflt ktr_enter
  k_steps
  all_goals (
    refine' hret _ _ _ _ _ _ _ _ _ _ ?kF (cb_drop ?kN ?ks) ?kb ?kk ?k5 ?k60
    case kF => k_asm
    case kN => k_asm
    case ks => kcf_all
    case kb => assumption
    case kk => exact KBa.ints_make (by assumption)
    case k5 => (try simp only [List.length_set]); omega
    case k60 => (try simp only [List.length_set]); omega)
theorem text_use {prog p : Program} {loose : List Str} {w : World} {mean : ExcName → Option Value} {mg mb : Str → Option Value} {dp un : Nat} {gd : Option (List Code)} {cn : Str} {cs : Scope} {a : Addr} {ccd : Value} {cl : List (Str × Addr)} {outer : List Env} {A₀ : Around} {base h₀ : Heap} {L : Addr} {m : Str → Option Value} {s : Shared} {Q E : Value → Shared → Prop}
    {b : Addr} {d st : Int} {t1 t2 tm : Tok} {n : Nat} {most : Int} {news : List (Addr × Obj)} {g : Obj → List (Addr × Obj)}
    (B : Below A₀ base outer h₀) (F : Fr h₀ L s.heap m) (X : (hd.heap_1 w.params).In h₀) (N : News h₀ L s.heap news) (T : Top p loose mean mg mb h₀) (hk : cs.kind = .function)
    (hdp : dp + 3 < recursionLimit) (hun : un + 24 < cLine)
    (U : UpdF b (boxO d st t1 t2 n) news g) (hb : BoxOk d st) (hm1 : 9 ≤ most) (hm2 : most ≤ 18)
    (hret : ∀ (bs : Array UInt8) (ks : List Int) (tb : Tok) (d' st' : Int) (t1' t2' : Tok) (n' : Nat) (h' : Heap) (tk' : Nat), Fr h₀ L h' m → News h₀ L h' (g (boxO d' st' t1' t2' n')) → BoxOk d' st' → KBw.bInts bs = ks → 2 ≤ ks.length → ks.length ≤ 20 → Q (.bytes bs tb) { s with heap := h', toks := tk' }) :
    wpAny (model prog w) (ktrTop dp un gd cn cs L a ccd cl outer) (call (.ref 335) [.ref b, .int most tm]) Q E s := by
  obtain ⟨rest, hdis, hin, hto, hof⟩ := UpdF.turn U
  refine Hint.out (text_raw prog p loose w mean mg mb dp un gd cn cs a ccd cl outer A₀ base h₀ L m s Q E b d st t1 t2 tm n most rest B F X (fun q hq => N q (hin q hq)) T hk hdp hun hdis hb hm1 hm2 ?_)
  intro bs ks tb d' st' t1' t2' n' h' tk' F' N' hb' hks h2 h20
  exact hret bs ks tb d' st' t1' t2' n' h' tk' F' (fun q hq => N' q (hof _ q hq)) hb' hks h2 h20
/-- one of three finders -/
structure Three (K : Frag) (news : List (Addr × Obj)) (bs : Array UInt8) (win : Int) (y : Addr) : Prop where
  one : ∃ (C dx : Addr) (es : List DictEntry) (n : Nat) (tb tw : Tok), (y, instObj C dx) ∈ news ∧ (dx, dictOf es n) ∈ news ∧ ClsOk K C ∧ ObjOk es bs tb win tw
theorem Three.of {K : Frag} {news : List (Addr × Obj)} {bs : Array UInt8} {win : Int} {y x0 x1 x2 dx0 dx1 dx2 : Addr} {es0 es1 es2 : List DictEntry} {n0 n1 n2 : Nat} {tb0 tb1 tb2 tw0 tw1 tw2 : Tok}
    (hy : y = x0 ∨ y = x1 ∨ y = x2)
    (a0 : (x0, instObj 226 dx0) ∈ news) (b0 : (dx0, dictOf es0 n0) ∈ news) (a1 : (x1, instObj 274 dx1) ∈ news) (b1 : (dx1, dictOf es1 n1) ∈ news) (a2 : (x2, instObj 307 dx2) ∈ news) (b2 : (dx2, dictOf es2 n2) ∈ news)
    (hC0 : ClsOk K 226) (hC1 : ClsOk K 274) (hC2 : ClsOk K 307) (hO0 : ObjOk es0 bs tb0 win tw0) (hO1 : ObjOk es1 bs tb1 win tw1) (hO2 : ObjOk es2 bs tb2 win tw2) : Three K news bs win y := by
  rcases hy with rfl | rfl | rfl
  · exact ⟨_, _, _, _, _, _, a0, b0, hC0, hO0⟩
  · exact ⟨_, _, _, _, _, _, a1, b1, hC1, hO1⟩
  · exact ⟨_, _, _, _, _, _, a2, b2, hC2, hO2⟩
theorem Three.mono {K : Frag} {news news' : List (Addr × Obj)} {bs : Array UInt8} {win : Int} {y : Addr} (h : Three K news bs win y) (hs : ∀ p ∈ news, p ∈ news') : Three K news' bs win y := by
  obtain ⟨C, dx, es, n, tb, tw, h1, h2, h3, h4⟩ := h.one
  exact ⟨C, dx, es, n, tb, tw, hs _ h1, hs _ h2, h3, h4⟩
theorem local_pick {prog p : Program} {loose : List Str} {w : World} {mean : ExcName → Option Value} {mg mb : Str → Option Value} {dp un : Nat} {gd : Option (List Code)} {cn : Str} {cs : Scope} {a : Addr} {ccd : Value} {cl : List (Str × Addr)} {outer : List Env} {A₀ : Around} {base h₀ : Heap} {L : Addr} {m : Str → Option Value} {s : Shared} {Q E : Value → Shared → Prop}
    {x : Addr} {bs : Array UInt8} {ks : List Int} {t1 t3 : Tok} {win place size : Int} {news : List (Addr × Obj)}
    (B : Below A₀ base outer h₀) (F : Fr h₀ L s.heap m) (X : (hd.heap_1 w.params).In h₀) (N : News h₀ L s.heap news) (T : Top p loose mean mg mb h₀) (hk : cs.kind = .function)
    (hdp : dp + 5 < recursionLimit) (hun : un + 300 < cLine)
    (h3 : Three (hd.heap_1 w.params) news bs win x) (hbs : KBw.bInts bs = ks)
    (hlen : ks.length ≤ 800) (hs : size = ks.length) (hp0 : 1 ≤ place) (hp1 : place ≤ ks.length) (hw : ks.length ≤ win) (hw1 : win < 900)
    (hret : ∀ (r : Int) (t : Tok) (h' : Heap) (tk' : Nat), Fr h₀ L h' m → News h₀ L h' news → IsLoc (fL ks) ks.length place.toNat r.toNat → 1 ≤ r → r ≤ ks.length → Q (.int r t) { s with heap := h', toks := tk' }) :
    wpAny (model prog w) (ktrTop dp un gd cn cs L a ccd cl outer) (call (.ref 349) [.ref x, .int place t1, .int size t3]) Q E s := by
  obtain ⟨C, dx, es, n, tb, tw, h1, h2, hc, ho⟩ := h3.one
  exact local_use B F X N T hk hdp hun h1 h2 hbs hc ho hlen hs hp0 hp1 hw hw1 hret
theorem period_pick {prog p : Program} {loose : List Str} {w : World} {mean : ExcName → Option Value} {mg mb : Str → Option Value} {dp un : Nat} {gd : Option (List Code)} {cn : Str} {cs : Scope} {a : Addr} {ccd : Value} {cl : List (Str × Addr)} {outer : List Env} {A₀ : Around} {base h₀ : Heap} {L : Addr} {m : Str → Option Value} {s : Shared} {Q E : Value → Shared → Prop}
    {x : Addr} {bs : Array UInt8} {ks : List Int} {t3 : Tok} {win size : Int} {news : List (Addr × Obj)}
    (B : Below A₀ base outer h₀) (F : Fr h₀ L s.heap m) (X : (hd.heap_1 w.params).In h₀) (N : News h₀ L s.heap news) (T : Top p loose mean mg mb h₀) (hk : cs.kind = .function)
    (hdp : dp + 5 < recursionLimit) (hun : un + 300 < cLine)
    (h3 : Three (hd.heap_1 w.params) news bs win x) (hbs : KBw.bInts bs = ks)
    (hlen : ks.length ≤ 800) (hs : size = ks.length) (hp0 : 1 ≤ ks.length) (hw : ks.length ≤ win) (hw1 : win < 900)
    (hret : ∀ (r : Int) (t : Tok) (h' : Heap) (tk' : Nat), Fr h₀ L h' m → News h₀ L h' news → IsPer (fL ks) ks.length r.toNat → 1 ≤ r → r ≤ ks.length → Q (.int r t) { s with heap := h', toks := tk' }) :
    wpAny (model prog w) (ktrTop dp un gd cn cs L a ccd cl outer) (call (.ref 356) [.ref x, .int size t3]) Q E s := by
  obtain ⟨C, dx, es, n, tb, tw, h1, h2, hc, ho⟩ := h3.one
  exact period_use B F X N T hk hdp hun h1 h2 hbs hc ho hlen hs hp0 hw hw1 hret
theorem ToldOk.rev {ks ts : List Int} (h : ToldOk ks ts) : ToldOk ks.reverse ts.reverse := by
  have hl := h.len
  refine ⟨by rw [List.length_reverse, List.length_reverse]; exact hl, fun j hj => ?_⟩
  rw [List.length_reverse] at hj
  rw [rev_getD hj]
  have q := h.loc (ts.length - 1 - j) (by omega)
  refine ⟨q.1, by rw [List.length_reverse]; exact q.2.1, ?_⟩
  have r := IsLoc.rev (by omega) q.2.2
  rwa [show ks.length - (ts.length - 1 - j + 1) = j + 1 by omega] at r
structure OwnOk (ks os : List Int) : Prop where
  len : os.length = ks.length
  own : ∀ j : Nat, j < os.length → 1 ≤ os.getD j 0 ∧ IsOwn ks (j + 1) (decide (((j + 1 : Nat) : Int) = (ks.length : Int))) (os.getD j 0).toNat
theorem own_eq {ks ts os : List Int} {p : Int} (ht : ToldOk ks ts) (hp : IsPer (fL ks) ks.length p.toNat) (h1 : 1 ≤ p) (ho : OwnOk ks os) (hk : 1 ≤ ks.length) : ts ++ [p] = os := by
  have hl := ht.len
  have hl2 := ho.len
  apply List.ext_getElem
  · rw [List.length_append, List.length_singleton]; omega
  · intro j h1' h2'
    have q := ho.own j h2'
    have e2 : os.getD j 0 = os[j] := getD_eq h2'
    rw [e2] at q
    by_cases c : j < ts.length
    · rw [List.getElem_append_left c]
      have r := ht.loc j c
      have e1 : ts.getD j 0 = ts[j] := getD_eq c
      rw [e1] at r
      have hd : decide (((j + 1 : Nat) : Int) = (ks.length : Int)) = false := decide_eq_false (by omega)
      rw [hd] at q
      have := q.2.loc r.2.2
      omega
    · have hj : j = ts.length := by rw [List.length_append, List.length_singleton] at h1'; omega
      subst hj
      have hd : decide (((ts.length + 1 : Nat) : Int) = (ks.length : Int)) = true := decide_eq_true (by omega)
      rw [hd] at q
      have := q.2.per hp
      rw [List.getElem_append_right (Nat.le_refl _)]
      simp only [Nat.sub_self, List.getElem_cons_zero]
      omega
theorem told_le {ks ts : List Int} {p : Int} (ht : ToldOk ks ts) (hp : IsPer (fL ks) ks.length p.toNat) (h1 : 1 ≤ p) : ∀ x ∈ ts, x ≤ p := by
  intro x hx
  obtain ⟨j, hj, rfl⟩ := List.getElem_of_mem hx
  have r := ht.loc j hj
  have e1 : ts.getD j 0 = ts[j] := getD_eq hj
  rw [e1] at r
  have := r.2.2.le_per hp
  omega
section
variable {prog : Program} {w : World} {A : Around} {h₀ : Heap} {L : Addr} {m : Str → Option Value} {env : Env} {elt : Expr} {x : Str} {scope : Scope} {cl : List (Str × Addr)} {s : Shared} {S : List (Addr × Obj) → Prop} {Fin : List Value → List (Addr × Obj) → Prop} {nws : List (Addr × Obj)}
/-- a block over a range from one on whose elements are ints of which something is said -/
theorem told_rest {n : Nat} (P : Nat → Int → Prop)
    (turn : ∀ k t ys I oI C oC D m₂ h tk (E' : Value → Shared → Prop), 1 ≤ k → k < 1 + (n : Int) → LCg.NsObj oC m₂ → m₂ x = some (.int k t) → Fr h₀ L h m → News h₀ L h ((I, oI) :: (C, oC) :: (D, LCg.lst ys) :: nws) → LCg.Off3 I C D nws → ((@Ne Nat I C) ∧ (@Ne Nat I D) ∧ (@Ne Nat C D)) →
      wpAny (model prog w) A (eval elt (compEnvC scope cl C env)) (LCg.CompEnd h₀ L m { s with heap := h, toks := tk } I oI C oC D (LCg.lst ys) S (fun y nw => (∃ (r : Int) (t : Tok), y = .int r t ∧ P k.toNat r) ∧ nw = nws)) E' { s with heap := h, toks := tk })
    (fin : ∀ ys is, IntsAre ys is → is.length = n → (∀ j : Nat, j < is.length → P (j + 1) (is.getD j 0)) → Fin ys nws) : LCg.CompRest prog w A h₀ L m env elt x scope cl s S (fun i v => ∃ t, v = .int (1 + (i : Int)) t) Fin n 0 [] nws := by
  refine comp_inv (fun i ys nw => nw = nws ∧ ∃ is : List Int, IntsAre ys is ∧ is.length = i ∧ ∀ j : Nat, j < is.length → P (j + 1) (is.getD j 0)) ⟨rfl, [], .nil, rfl, fun j hj => nomatch hj⟩ ?_ ?_
  · rintro i v ys nw I oI C oC D m₂ h tk E' hi ⟨t, rfl⟩ ⟨rfl, is, his, hlen, hrow⟩ hC hx F N off ne
    refine wpAny_mono (turn _ t ys I oI C oC D m₂ h tk E' (by omega) (by omega) hC hx F N off ne) (fun y s₂ hq => ?_) fun _ _ e => e
    obtain ⟨h', tk', nw', e, F', N', off', hS, ⟨r, t', rfl, hr⟩, rfl⟩ := hq
    refine ⟨h', tk', _, e, F', N', off', hS, rfl, is ++ [r], IntsAre.append his (.cons _ t' .nil), by simp [hlen], ?_⟩
    intro j hj
    rw [List.length_append, List.length_singleton] at hj
    by_cases hji : j < is.length
    · have := hrow j hji
      simpa [List.getD, List.getElem?_append_left hji] using this
    · obtain rfl : j = is.length := by omega
      rw [hlen]
      rw [show (1 + (i : Int)).toNat = i + 1 by omega] at hr
      simpa [List.getD, ← hlen] using (hlen ▸ hr)
  · rintro ys nw ⟨rfl, is, his, hlen, hrow⟩
    exact fin ys is his hlen hrow
end
theorem int_el {h₀ : Heap} {L I C D : Addr} {m : Str → Option Value} {s₁ : Shared} {oI oC oD : Obj} {S : List (Addr × Obj) → Prop} {h' : Heap} {tk : Nat} {all news : List (Addr × Obj)} {P : Nat → Int → Prop} {k : Nat} {r : Int} {t : Tok}
    (F : Fr h₀ L h' m) (N : News h₀ L h' all) (sub : ∀ p ∈ (I, oI) :: (C, oC) :: (D, oD) :: news, p ∈ all) (off : LCg.Off3 I C D news) (hS : S news) (hr : P k r) :
    LCg.CompEnd h₀ L m s₁ I oI C oC D oD S (fun y nw => (∃ (r : Int) (t : Tok), y = .int r t ∧ P k r) ∧ nw = news) (.int r t) { s₁ with heap := h', toks := tk } :=
  LCg.CompEnd.intro F N _ sub off hS ⟨⟨r, t, rfl, hr⟩, rfl⟩
structure MenuMark (x : Int) : Prop where
structure PlaceMark (x : Int) : Prop where
structure JMark : Prop where
structure BoxIs (b : Addr) : Prop where
theorem upd_two {b : Addr} {ob : Obj} {news : List (Addr × Obj)} {g : Obj → List (Addr × Obj)} {x dx : Addr} (ox od : Obj) (hbx : BoxIs b) (U : UpdF b ob news g) (l : AllLt dx news) (h : @LT.lt Nat _ dx x) : UpdF b ob ((x, ox) :: (dx, od) :: news) (fun o => (x, ox) :: (dx, od) :: g o) := by
  obtain ⟨rest, hdis, hin, hto, hof⟩ := UpdF.turn U
  have hbn : (b, ob) ∈ news := hin _ (.head _)
  have h1 : @LT.lt Nat _ b dx := ktn_ltOf l (b, ob) hbn
  exact UpdF.tail (Nat.ne_of_gt (Nat.lt_trans h1 h)) (UpdF.tail (Nat.ne_of_gt h1) U)
/-- a goal at which the walk is to stop -/
def Hold (P : Prop) : Prop := P
theorem Hold.out {P : Prop} (h : Hold P) : P := h
theorem Hold.of {P : Prop} (h : P) : Hold P := h
/-- an int that the walk joins -/
def JoinInt (h₀ : Heap) (L : Addr) (m : Str → Option Value) (news : List (Addr × Obj)) (lo hi : Int) (s : Shared) (v : Value) (s' : Shared) : Prop :=
  ∃ (k : Int) (t : Tok) (h' : Heap) (tk' : Nat), v = .int k t ∧ lo ≤ k ∧ k ≤ hi ∧ s' = { s with heap := h', toks := tk' } ∧ Fr h₀ L h' m ∧ News h₀ L h' news
theorem join_int {prog : Program} {w : World} {A : Around} {E : Value → Shared → Prop} {s : Shared} {h₀ : Heap} {L : Addr} {m : Str → Option Value} {news : List (Addr × Obj)} {e : Expr} {env : Env} {Q : Value → Shared → Prop} (lo hi : Int)
    (F : Fr h₀ L s.heap m) (N : News h₀ L s.heap news)
    (h : JMark → wpAny (model prog w) A (eval e env) (JoinInt h₀ L m news lo hi s) E s) (go : ∀ k t h' tk', lo ≤ k → k ≤ hi → Fr h₀ L h' m → News h₀ L h' news → Q (.int k t) { s with heap := h', toks := tk' }) :
    wpAny (model prog w) A (eval e env) Q E s := by
  refine wpAny_mono (h ⟨⟩) (fun v s' hq => ?_) fun _ _ e => e
  obtain ⟨k, t, h', tk', rfl, h1, h2, rfl, F', N'⟩ := hq
  exact go k t h' tk' h1 h2 F' N'
theorem join_el {h₀ h' : Heap} {L : Addr} {m : Str → Option Value} {news : List (Addr × Obj)} {lo hi k : Int} {t : Tok} {s : Shared} {tk' : Nat} (h1 : lo ≤ k) (h2 : k ≤ hi) (F : Fr h₀ L h' m) (N : News h₀ L h' news) :
    JoinInt h₀ L m news lo hi s (.int k t) { s with heap := h', toks := tk' } := ⟨k, t, h', tk', rfl, h1, h2, rfl, F, N⟩
section
variable {prog : Program} {w : World} {A : Around} {E : Value → Shared → Prop} {s : Shared} {h₀ : Heap} {L D : Addr} {m : Str → Option Value} {news : List (Addr × Obj)} {Q : Value → Shared → Prop}
theorem menu3 {value slice : PySem.Expr} {a b c k : Int} {ta tb tc u : Tok} {n : Nat} (lo hi : Int) (N : News h₀ L s.heap news) (hm : (D, listOf #[.int a ta, .int b tb, .int c tc] n) ∈ news) (h0 : 0 ≤ k) (h1 : k < 3)
    (ha : lo ≤ a ∧ a ≤ hi) (hb : lo ≤ b ∧ b ≤ hi) (hc : lo ≤ c ∧ c ≤ hi) (h : ∀ x t, lo ≤ x → x ≤ hi → MenuMark x → Q (.int x t) s)
    (hs : subscripted slice false (.ref D) (.int k u) = operate [.ref D, .int k u] (getItem (.ref D) (.int k u)) := by with_unfolding_all rfl) :
    wpAny (model prog w) A (subscriptTail value slice (.ref D) (.int k u)) Q E s := by
  refine ksa_sub (vs := [.int a ta, .int b tb, .int c tc]) (ns := [a, b, c]) N hm (.cons a ta (.cons b tb (.cons c tc .nil))) h0 (by simpa using h1) (by omega) (fun t => ?_) hs
  have : k = 0 ∨ k = 1 ∨ k = 2 := by omega
  rcases this with rfl | rfl | rfl
  · exact h a t ha.1 ha.2 ⟨⟩
  · exact h b t hb.1 hb.2 ⟨⟩
  · exact h c t hc.1 hc.2 ⟨⟩
end
section
variable {prog p : Program} {loose : List Str} {w : World} {mean : ExcName → Option Value} {mg mb : Str → Option Value} {dp un : Nat} {gd : Option (List Code)} {cn : Str} {cs : Scope} {a : Addr} {ccd : Value} {cl : List (Str × Addr)} {outer : List Env} {A₀ : Around} {base h₀ : Heap} {L : Addr} {m : Str → Option Value} {s : Shared} {Q E : Value → Shared → Prop}
theorem pick3 {value slice : PySem.Expr} {D x0 x1 x2 : Addr} {n : Nat} {k : Int} {u : Tok} {news : List (Addr × Obj)} {A : Around} (N : News h₀ L s.heap news) (hm : (D, listOf #[.ref x0, .ref x1, .ref x2] n) ∈ news) (h0 : 0 ≤ k) (h1 : k < 3)
    (h : ∀ y, (y = x0 ∨ y = x1 ∨ y = x2) → Q (.ref y) s)
    (hs : subscripted slice false (.ref D) (.int k u) = operate [.ref D, .int k u] (getItem (.ref D) (.int k u)) := by with_unfolding_all rfl) :
    wpAny (model prog w) A (subscriptTail value slice (.ref D) (.int k u)) Q E s := by
  have hl : s.heap.IsList D #[.ref x0, .ref x1, .ref x2] := PySem.IsL.isList (n := n) (N _ hm).1
  have : k = 0 ∨ k = 1 ∨ k = 2 := by omega
  rcases this with rfl | rfl | rfl
  · exact tail_any hl.typeIs slot_list_getitem.lookup (wpAny_getItem_list hl h0 (by decide) rfl (h _ (.inl rfl))) hs
  · exact tail_any hl.typeIs slot_list_getitem.lookup (wpAny_getItem_list hl h0 (by decide) rfl (h _ (.inr (.inl rfl)))) hs
  · exact tail_any hl.typeIs slot_list_getitem.lookup (wpAny_getItem_list hl h0 (by decide) rfl (h _ (.inr (.inr rfl)))) hs
end
theorem lt_to {b : Addr} : ∀ {l : List (Addr × Obj)}, (∀ p ∈ l, p.1 < b) → AllLt b l
  | [], _ => trivial
  | q :: r, h => ⟨h q (.head _), lt_to fun p hp => h p (.tail _ hp)⟩
theorem cls226_raw (w : World) : Hint PySem.Challenge.rw_tg0038_02 hd.heap_1 (ClsOk (hd.heap_1 w.params) 226) := by
  w_top off
  k_fill
  unfold Hint
  refine ⟨?_, ?_, ?_, ?_, ?_, ?_, ?_, ?_, ?_, ?_, ?_, ?_, ?_⟩
  all_goals k_is
theorem cls274_raw (w : World) : Hint PySem.Challenge.rw_tg0038_02 hd.heap_1 (ClsOk (hd.heap_1 w.params) 274) := by
  w_top off
  k_fill
  unfold Hint
  refine ⟨?_, ?_, ?_, ?_, ?_, ?_, ?_, ?_, ?_, ?_, ?_, ?_, ?_⟩
  all_goals k_is
theorem cls307_raw (w : World) : Hint PySem.Challenge.rw_tg0038_02 hd.heap_1 (ClsOk (hd.heap_1 w.params) 307) := by
  w_top off
  k_fill
  unfold Hint
  refine ⟨?_, ?_, ?_, ?_, ?_, ?_, ?_, ?_, ?_, ?_, ?_, ?_, ?_⟩
  all_goals k_is
structure TextIs (ks : List Int) : Prop where
def LocP (ks : List Int) (k : Nat) (r : Int) : Prop := 1 ≤ r ∧ r ≤ ks.length ∧ IsLoc (fL ks) ks.length k r.toNat
section
variable {prog : Program} {w : World} {A : Around} {h₀ : Heap} {L : Addr} {m : Str → Option Value} {env : Env} {elt : Expr} {x : Str} {scope : Scope} {cl : List (Str × Addr)} {s : Shared} {S : List (Addr × Obj) → Prop} {Fin : List Value → List (Addr × Obj) → Prop} {nws : List (Addr × Obj)}
def ToldP (ks : List Int) (k : Int) (nws : List (Addr × Obj)) (y : Value) (nw : List (Addr × Obj)) : Prop := (∃ (r : Int) (t : Tok), y = .int r t ∧ LocP ks k.toNat r) ∧ nw = nws
theorem told_restT {ks : List Int} {n : Nat} (ht : TextIs ks) (hn : (n : Int) = ks.length - 1)
    (turn : ∀ k t ys I oI C oC D m₂ h tk (E' : Value → Shared → Prop), 1 ≤ k → k < 1 + (n : Int) → LCg.NsObj oC m₂ → m₂ x = some (.int k t) → Fr h₀ L h m → News h₀ L h ((I, oI) :: (C, oC) :: (D, LCg.lst ys) :: nws) → LCg.Off3 I C D nws → ((@Ne Nat I C) ∧ (@Ne Nat I D) ∧ (@Ne Nat C D)) →
      wpAny (model prog w) A (eval elt (compEnvC scope cl C env)) (LCg.CompEnd h₀ L m { s with heap := h, toks := tk } I oI C oC D (LCg.lst ys) S (ToldP ks k nws)) E' { s with heap := h, toks := tk })
    (fin : ∀ ys is, IntsAre ys is → ToldOk ks is → Fin ys nws) : LCg.CompRest prog w A h₀ L m env elt x scope cl s S (fun i v => ∃ t, v = .int (1 + (i : Int)) t) Fin n 0 [] nws := by
  refine told_rest (LocP ks) turn fun ys is hi hl hp => fin ys is hi ⟨by omega, fun j hj => ?_⟩
  exact hp j hj
end
section
variable {prog : Program} {w : World} {A : Around} {E : Value → Shared → Prop} {s : Shared} {h₀ : Heap} {L D : Addr} {m : Str → Option Value} {news : List (Addr × Obj)} {Q : Value → Shared → Prop}
theorem max_told {ys : List Value} {ks is : List Int} {n : Nat} {p : Int} (hh : A.handled = none) (F : Fr h₀ L s.heap m) (N : News h₀ L s.heap news) (hm : (D, listOf ys.toArray n) ∈ news) (hi : IntsAre ys is) (hT : ToldOk ks is)
    (hp : IsPer (fL ks) ks.length p.toNat) (h1 : 1 ≤ p) (hk : 2 ≤ (ks.length : Int))
    (h : ∀ h' M (t : Tok) tk, Fr h₀ L h' m → News h₀ L h' news → M ≤ p → Q (.int M t) { s with heap := h', toks := tk }) :
    wpAny (model prog w) A (call (.builtin "max") [.ref D]) Q E s := by
  have hl := hT.len
  exact max_list_N hh F N (PySem.IsL.isList (n := n) (N _ hm).1) hi (by omega) fun h' M t tk F' N' hM _ => h h' M t tk F' N' (told_le hT hp h1 M hM)
end
section
variable {prog : Program} {w : World} {A : Around} {E : Value → Shared → Prop} {s : Shared} {h₀ : Heap} {L : Addr} {m : Str → Option Value} {news : List (Addr × Obj)}
theorem ints_of_get : ∀ {vs : List Value} {ns : List Int}, vs.length = ns.length → (∀ (j : Nat) (v : Value), vs[j]? = some v → ∃ (n : Int) (t : Tok), ns[j]? = some n ∧ v = .int n t) → IntsAre vs ns
  | [], [], _, _ => .nil
  | [], _ :: _, h, _ => nomatch h
  | _ :: _, [], h, _ => nomatch h
  | x :: vs, k :: ns, h, g => by
    obtain ⟨n, t, e, rfl⟩ := g 0 x rfl
    obtain rfl : k = n := by simpa using e
    exact .cons k t (ints_of_get (by simpa using h) fun j v hj => g (j + 1) v (by simpa using hj))
theorem bytes_len_of : typeLookup (.type "bytes") "__len__" = pure (some (.builtin "bytes.__len__")) := by rw [typeLookup_type, builtinLookup_eq_fast]; kernel_rfl
theorem init_list_bytes {R : Result → Shared → Prop} (hh : A.handled = none) (bs : Array UInt8) (t : Tok) (S : Addr) (hS : s.heap.get? S = some { cls := .type "list", data := .seq #[] }) (hn : bs.size ≤ sizeLine)
    (hR : ∀ h' tk acc c, (∀ b o, b ≠ S → s.heap.get? b = some o → h'.get? b = some o) → h'.get? S = some (listOf acc c) → IntsAre acc.toList (KBw.bInts bs) → R (.ok (.ret .none)) { s with heap := h', toks := tk }) :
    wpAny (model prog w) A.in1 (Builtin.«list.__init__» ⟨[.ref S, .bytes bs t], []⟩)
      (fun fin s' => match fin with | .done f => R (.ok f) s' | .again c => c.quiet = true ∧ codeAny (model prog w) A c R s') (fun e s' => R (.error e) s') s := by
  show wpAny _ _ (do let old ← Builtin.List.listItems (.ref S); Builtin.List.listUpdate (.ref S) (fun _ => #[]); letGo old.toList.reverse; Builtin.List.listExtendWith (.ref S) (.bytes bs t) .none) _ _ s
  refine wpAny_bind ?_
  unfold Builtin.List.listItems
  refine wpAny_bind (wpAny_seqItems hS rfl (wpAny_pure ?_))
  show wpAny _ _ (updateSeq S (fun _ => #[]) >>= fun _ => letGo (#[] : Array Value).toList.reverse >>= fun _ => Builtin.List.listExtendWith (.ref S) (.bytes bs t) .none) _ _ s
  refine wpAny_bind (wpAny_updateSeq hS rfl ?_)
  have h0 := Heap.get?_update_self (Obj.mapSeq (fun _ => (#[] : Array Value))) hS rfl
  have oth : ∀ b o, b ≠ S → s.heap.get? b = some o → (s.heap.update S (Obj.mapSeq (fun _ => (#[] : Array Value)))).get? b = some o :=
    fun b o hb e => (Heap.get?_update_other _ _ (Ne.symm hb)).trans e
  refine wpAny_bind (wpAny_letGo ?_)
  generalize s.heap.update S (Obj.mapSeq (fun _ => (#[] : Array Value))) = H at h0 oth
  have hSf : S ∉ [H.objs.size] := fun hm => absurd (Heap.lt_size h0) (by rw [List.mem_singleton.mp hm]; exact Nat.lt_irrefl _)
  unfold Builtin.List.listExtendWith
  refine wpAny_bind (wpAny_typeOf (T := "bytes") (v := .bytes bs t) rfl ?_)
  have h1 : Builtin.List.listSameRef (.ref S) (.bytes bs t) = false := rfl
  have h2 : (Value.type "bytes" == Value.type "list") = false := by decide
  have h3 : (Value.type "bytes" == Value.type "tuple") = false := by decide
  simp only [h1, h2, h3, Bool.or_false, Bool.false_eq_true, if_false]
  refine wpAny_bind (KBw.pyIter_bytes ?_)
  refine wpAny_bind (wpAny_holding ?_)
  unfold Builtin.List.listLengthHint
  refine wpAny_bind (wpAny_specialOf (T := "bytes") (v := .bytes bs t) rfl bytes_len_of ?_)
  wp_delta
  refine wpAny_bind (wpAny_isInstance (T := "bytes") (v := .bytes bs t) (b := true) rfl (by rw [isSubtype_type]; kernel_rfl) ?_)
  show wpAny _ _ (typeOf (Value.bytes bs t) >>= _) _ _ _
  refine wpAny_bind (wpAny_typeOf (T := "bytes") (v := .bytes bs t) rfl ?_)
  refine wpAny_pure ?_
  rw [if_neg (by decide)]
  refine wpAny_pure ⟨plainId_quiet F.plain_extend_loop _, codeAny_extend_loopS (KBw.walks (A := A.in1) hh H.objs.size bs t).toS hn _ hSf _ bs.size 0 _ _ _ rfl (Nat.zero_le _) ⟨_, Heap.get?_push_size _ rfl, rfl, rfl⟩ (Heap.get?_push_of_some _ h0) (ItemsOf.nil _) fun s' acc c hm hS' hacc => ?_⟩
  rw [Moved.eq_with hm]
  refine hR s'.heap s'.toks acc c (fun b o hb e => hm.heap b o (fun hmem => ?_) (Heap.get?_push_of_some _ (oth b o hb e))) hS' (ints_of_get (by simp [hacc.1, KBw.bInts]) fun j v hv => ?_)
  · rcases List.mem_cons.mp hmem with e' | hmem
    · exact hb e'
    · exact absurd (Heap.lt_size (oth b o hb e)) (by rw [List.mem_singleton.mp hmem]; exact Nat.lt_irrefl _)
  · obtain ⟨c, u, hc, rfl⟩ := hacc.2 j v (by simpa using hv)
    exact ⟨_, u, KBw.ints_get hc, rfl⟩
theorem list_bytes {bs : Array UInt8} {t : Tok} {ks : List Int} {Q : Value → Shared → Prop} (hh : A.handled = none) (F : Fr h₀ L s.heap m) (N : News h₀ L s.heap news) (hb : KBw.bInts bs = ks) (hl : ks.length ≤ 60)
    (h : ∀ D vs c h' tk, Fr h₀ L h' m → News h₀ L h' ((D, listOf (List.toArray vs) c) :: news) → (∀ p ∈ news, p.1 < D) → IntsAre vs ks → Q (.ref D) { s with heap := h', toks := tk }) :
    wpAny (model prog w) A (call (.type "list") [.bytes bs t]) Q E s := by
  subst hb
  have hn : bs.size ≤ sizeLine := by rw [KBw.ints_length] at hl; rw [PySem.sizeLine_eq]; omega
  refine callType_codes (Q₁ := fun obj s₁ => obj = .ref s.heap.objs.size ∧ s₁ = { s with heap := s.heap.push { cls := .type "list", data := .seq #[] } }) PySem.F.called_list (PySem.F.typeCall_list_1 _) PySem.F.entry_list_init
    (code_list_new _ ⟨rfl, rfl⟩) fun obj s₁ h₁ => ?_
  obtain ⟨rfl, rfl⟩ := h₁
  refine ⟨⟨_, Heap.get?_push_size _ rfl, rfl⟩, PySem.F.args_list_init_2 _ _, init_list_bytes (A := A.in1) hh bs t _ (Heap.get?_push_size _ rfl) hn fun h' tk acc c hk hS hi => ?_⟩
  have keep : ∀ b o, s.heap.get? b = some o → h'.get? b = some o := fun b o e => hk b o (Nat.ne_of_lt (Heap.lt_size e)) (Heap.get?_push_of_some _ e)
  refine ⟨rfl, h s.heap.objs.size acc.toList c h' tk (F.keeps keep) ?_ (fun p hp => Heap.lt_size (N p hp).1) hi⟩
  intro p hp
  rcases List.mem_cons.mp hp with rfl | hp
  · refine ⟨by simpa using hS, Nat.ne_of_gt F.ns.lt, ?_⟩
    cases e : h₀.get? s.heap.objs.size with
    | none => rfl
    | some o => exact absurd (Heap.lt_size (F.keep _ _ e)) (Nat.lt_irrefl _)
  · exact ⟨keep _ _ (N p hp).1, (N p hp).2⟩
end
section
variable {prog : Program} {w : World} {A : Around} {E : Value → Shared → Prop} {s : Shared} {h₀ : Heap} {L D l : Addr} {m : Str → Option Value} {news : List (Addr × Obj)} {Q : Value → Shared → Prop}
theorem add_told {ys : List Value} {is : List Int} {n n2 : Nat} {p : Int} {tp : Tok} (F : Fr h₀ L s.heap m) (N : News h₀ L s.heap news) (m0 : (D, listOf ys.toArray n) ∈ news) (m1 : (l, listOf #[.int p tp] n2) ∈ news) (hi : IntsAre ys is) (hl : is.length ≤ 60)
    (h : ∀ D' us h', Fr h₀ L h' m → News h₀ L h' ((D', listOf (List.toArray us) 0) :: news) → (∀ p ∈ news, p.1 < D') → IntsAre us (is ++ [p]) → Q (.ref D') { s with heap := h' }) :
    wpAny (model prog w) A (binaryOp .Add (.ref D) (.ref l)) Q E s :=
  kmk_add_ints F N (PySem.IsL.isList (n := n) (N _ m0).1) (PySem.IsL.isList (n := n2) (N _ m1).1) hi (.cons p tp .nil) h (by rw [PySem.sizeLine_eq, List.length_singleton]; omega)
end
structure OwnMark : Prop where
def OwnQ (ks : List Int) (k : Nat) (r : Int) : Prop := 1 ≤ r ∧ IsOwn ks k (decide ((k : Int) = ks.length)) r.toNat
def OwnP (ks : List Int) (k : Int) (nws : List (Addr × Obj)) (y : Value) (nw : List (Addr × Obj)) : Prop := (∃ (r : Int) (t : Tok), y = .int r t ∧ OwnQ ks k.toNat r) ∧ nw = nws
section
variable {prog : Program} {w : World} {A : Around} {h₀ : Heap} {L : Addr} {m : Str → Option Value} {env : Env} {elt : Expr} {x : Str} {scope : Scope} {cl : List (Str × Addr)} {s : Shared} {S : List (Addr × Obj) → Prop} {Fin : List Value → List (Addr × Obj) → Prop} {nws : List (Addr × Obj)}
theorem own_restT {ks : List Int} {n : Nat} (ht : TextIs ks) (hn : (n : Int) = ks.length)
    (turn : ∀ k t ys I oI C oC D m₂ h tk (E' : Value → Shared → Prop), 1 ≤ k → k < 1 + (n : Int) → LCg.NsObj oC m₂ → m₂ x = some (.int k t) → Fr h₀ L h m → News h₀ L h ((I, oI) :: (C, oC) :: (D, LCg.lst ys) :: nws) → LCg.Off3 I C D nws → ((@Ne Nat I C) ∧ (@Ne Nat I D) ∧ (@Ne Nat C D)) →
      wpAny (model prog w) A (eval elt (compEnvC scope cl C env)) (LCg.CompEnd h₀ L m { s with heap := h, toks := tk } I oI C oC D (LCg.lst ys) S (OwnP ks k nws)) E' { s with heap := h, toks := tk })
    (fin : ∀ ys is, IntsAre ys is → OwnOk ks is → Fin ys nws) : LCg.CompRest prog w A h₀ L m env elt x scope cl s S (fun i v => ∃ t, v = .int (1 + (i : Int)) t) Fin n 0 [] nws := by
  refine told_rest (OwnQ ks) turn fun ys is hi hl hp => fin ys is hi ⟨by omega, fun j hj => ?_⟩
  exact hp j hj
end
theorem told_end {ks : List Int} {kk : Int} {h₀ : Heap} {L I C D : Addr} {m : Str → Option Value} {s₁ : Shared} {oI oC oD : Obj} {S : List (Addr × Obj) → Prop} {h' : Heap} {tk : Nat} {all news : List (Addr × Obj)} {r : Int} {t : Tok}
    (F : Fr h₀ L h' m) (N : News h₀ L h' all) (sub : ∀ p ∈ (I, oI) :: (C, oC) :: (D, oD) :: news, p ∈ all) (off : LCg.Off3 I C D news) (hS : S news) (h1 : 1 ≤ r) (h2 : r ≤ ks.length) (hr : IsLoc (fL ks) ks.length kk.toNat r.toNat) :
    LCg.CompEnd h₀ L m s₁ I oI C oC D oD S (ToldP ks kk news) (.int r t) { s₁ with heap := h', toks := tk } :=
  LCg.CompEnd.intro F N _ sub off hS ⟨⟨r, t, rfl, h1, h2, hr⟩, rfl⟩
theorem own_end {ks : List Int} {kk : Int} {wh : Bool} {h₀ : Heap} {L I C D : Addr} {m : Str → Option Value} {s₁ : Shared} {oI oC oD : Obj} {S : List (Addr × Obj) → Prop} {h' : Heap} {tk : Nat} {all news : List (Addr × Obj)} {r : Int} {t : Tok}
    (F : Fr h₀ L h' m) (N : News h₀ L h' all) (sub : ∀ p ∈ (I, oI) :: (C, oC) :: (D, oD) :: news, p ∈ all) (off : LCg.Off3 I C D news) (hS : S news) (h1 : 1 ≤ r) (hr : IsOwn ks kk.toNat wh r.toNat) (hw : wh = decide ((kk.toNat : Int) = ks.length)) :
    LCg.CompEnd h₀ L m s₁ I oI C oC D oD S (OwnP ks kk news) (.int r t) { s₁ with heap := h', toks := tk } :=
  LCg.CompEnd.intro F N _ sub off hS ⟨⟨r, t, rfl, h1, hw ▸ hr⟩, rfl⟩
section
variable {prog : Program} {w : World} {A : Around} {E : Value → Shared → Prop} {s : Shared} {h₀ : Heap} {L l : Addr} {m : Str → Option Value} {news : List (Addr × Obj)} {Q : Value → Shared → Prop} {ops : List Value}
theorem rev_list {value slice : PySem.Expr} {vs : List Value} {ns : List Int} {n : Nat} {k : Int} {t : Tok} (hk : k = -1) (F : Fr h₀ L s.heap m) (N : News h₀ L s.heap news) (hm : (l, listOf vs.toArray n) ∈ news) (hi : IntsAre vs ns) (hl : ns.length ≤ 60)
    (h : ∀ D ws h', Fr h₀ L h' m → News h₀ L h' ((D, listOf (List.toArray ws) 0) :: news) → (∀ p ∈ news, p.1 < D) → IntsAre ws ns.reverse → Q (.ref D) { s with heap := h' })
    (hs : subscripted slice false (.ref l) (.ref s.heap.objs.size) = operate ops (getItem (.ref l) (.ref s.heap.objs.size))) (ht : ∀ r, letTemporaryGo value (.ref l) r = pure ()) :
    wpAny (model prog w) A (subscriptTail value slice (.ref l) (.ref s.heap.objs.size)) Q E { s with heap := s.heap.push { cls := .type "slice", data := .fields #[.none, .none, .int k t] } } := by
  subst hk
  have e := hi.length
  exact krv_ints F N (PySem.IsL.isList (n := n) (N _ hm).1) (IsPart.int _ _) hi (fun D ws h' F' N' l1 hI _ => h D ws h' F' N' l1 hI) hs ht (by rw [List.size_toArray, PySem.sizeLine_eq]; omega)
end
theorem eq_own {prog : Program} {w : World} {A : Around} {E : Value → Shared → Prop} {s : Shared} {h₀ : Heap} {L : Addr} {news : List (Addr × Obj)} {Q : Value → Shared → Prop} {d l : Addr} {nd nl : Nat} {us ys : List Value} {ks is os : List Int} {p : Int}
    (N : News h₀ L s.heap news) (hd : (d, listOf us.toArray nd) ∈ news) (hl : (l, listOf ys.toArray nl) ∈ news) (hi : IntsAre us (is ++ [p])) (hj : IntsAre ys os) (ht : ToldOk ks is) (hp : IsPer (fL ks) ks.length p.toNat) (h1 : 1 ≤ p) (ho : OwnOk ks os) (hk : 2 ≤ (ks.length : Int))
    (hu : A.units + 64 < cLine) (h : Q (.bool true) s) : wpAny (model prog w) A (compareOp .Eq (.ref d) (.ref l)) Q E s := by
  refine eq_intsK (vs := us) (us := ys) (PySem.IsL.isList (n := nd) (N _ hd).1) hi (PySem.IsL.isList (n := nl) (N _ hl).1) hj hu ?_
  rw [decide_eq_true (own_eq ht hp h1 ho (by omega))]
  exact h
local macro_rules | `(tactic| k_updF) => `(tactic| first | with_reducible assumption | (refine' UpdF.tail ?a ?b; (case b => with_reducible assumption); (case a => ((try dsimp only); (rename _ ∧ _ => hc9); (repeat (first | exact Nat.ne_of_gt hc9.1 | replace hc9 := hc9.2)); done))) | fail)
theorem rows15 : True := by
  k_with_none
  k_with "k_all" => (first | assumption | exact lt_all (by assumption) | exact off_all (by assumption) | ((repeat' (with_reducible rename _ ∧ _ => hc9; cases hc9)); first | exact lt_all (by assumption) | exact lt_all1 (by assumption) | exact lt_all2 (by assumption) | exact off_all (by assumption)) | (refine List.forall_mem_append.mpr (And.intro ?_ ?_) <;> k_all))
  k_with "ktr_enter" => (first   | (refine' code_def ?k1 ?k2 ?k3 ?k4 ?k5 ?kA ?kF ?kK ?k6 ?k7 ?k8 ?k9 ?kB ?_ ?c2 ?c3 ?c4 ?c5; (case kA => exact rfl); (case kF => exact rfl); (case kK => first | exact rfl | assumption); (case k1 => k_asm); (case k2 => k_asm); (case k3 => k_asm); (case k4 => k_asm); (case k5 => k_asm); (case k6 => k_is); (case k7 => k_is); (case k8 => ktr_room); (case k9 => first | exact BindsTo.of_eq rfl | exact binds_K (by k_in) rfl (by k_is) rfl rfl rfl); (case c5 => decide); (case kB => exact locs rfl); (case c2 => exact rfl); (case c3 => exact rfl); (case c4 => exact rfl); k_whole; intro g' L' h' FG' F' N' B' X' T'; (try dsimp only); (try k_lift B'); (try k_fold))   | (refine' code_defC ?k1 ?k2 ?k3 ?k4 ?k5 ?kA ?kF ?kK ?k6 ?k7 ?k8 ?k9 ?kB ?kD ?_ ?c2 ?c3 ?c4; (case kA => exact rfl); (case kF => exact rfl); (case kK => first | exact rfl | assumption); (case k1 => k_asm); (case k2 => k_asm); (case k3 => k_asm); (case k4 => k_asm); (case k5 => k_asm); (case k6 => k_is); (case k7 => k_is); (case k8 => ktr_room); (case k9 => first | exact BindsTo.of_eq rfl | exact binds_K (by k_in) rfl (by k_is) rfl rfl rfl); (case kB => exact rfl); (case kD => decide +kernel); (case c2 => exact rfl); (case c3 => exact rfl); (case c4 => exact rfl); k_whole; intro g' L' h' tk' cells' FG' F' N' Y' B' X' T' l1; (try k_lt l1); k_cells Y'; (try simp only [List.cons_append, List.nil_append] at N'); (try dsimp only); (try k_lift B'); (try k_fold)))
  k_with "k_room" => (ktr_room)
  k_with "units_room" => (ktr_units)
  k_with "k_enter" => (((fail_if_success k_inElt); ktr_enter))
  k_with "k_is" => (with_reducible assumption)
  k_with "k_get" => (with_reducible assumption)
  k_with "k_all" => (with_reducible assumption)
  k_with "call ref" => ((k_here; (with_reducible show wpAny _ _ (call (Value.ref 316) _ _) _ _ _); k_dflt (refine' box_use ?k1 ?k2 ?k3 ?k4 ?k5 ?kK ?kd ?ku ?kl ?ki ?kn ?_; (case k1 => k_asm); (case k2 => k_asm); (case k3 => k_asm); (case k4 => k_asm); (case k5 => k_asm); (case kK => first | exact rfl | assumption); (case kd => ktr_room); (case ku => ktr_units); (case kl => assumption); (case ki => assumption); (case kn => omega); k_whole); intro b' d' st' t1' t2' n' h' tk' hb' F' N' hlt'; (have l1 := lt_to hlt'); (have hn1 := lt_all l1); (have hbx := BoxIs.mk (b := b')); (simp only [AllLt, and_true] at l1); clear hlt'; (try dsimp only); (try k_fold)))
  k_with "call ref" => ((k_here; (with_reducible show wpAny _ _ (call (Value.ref 323) _ _) _ _ _); k_dflt (refine' take_use ?k1 ?k2 ?k3 ?k4 ?k5 ?kK ?kd ?ku ?kU ?kb ?p1 ?p2 ?_; (case k1 => k_asm); (case k2 => k_asm); (case k3 => k_asm); (case k4 => k_asm); (case k5 => k_asm); (case kK => first | exact rfl | assumption); (case kd => ktr_room); (case ku => ktr_units); (case kU => first | with_reducible assumption | k_updF); (case kb => assumption); (case p1 => first | decide | omega); (case p2 => first | decide | omega); k_whole); intro r' t' d' st' t1' t2' n' h' tk' F' N' hb' hr0' hr1'; (try dsimp only); (try k_fold)))
  k_with "call ref" => ((k_here; (with_reducible show wpAny _ _ (call (Value.ref 335) _ _) _ _ _); k_dflt (refine' text_use ?k1 ?k2 ?k3 ?k4 ?k5 ?kK ?kd ?ku ?kU ?kb ?p1 ?p2 ?_; (case k1 => k_asm); (case k2 => k_asm); (case k3 => k_asm); (case k4 => k_asm); (case k5 => k_asm); (case kK => first | exact rfl | assumption); (case kd => ktr_room); (case ku => ktr_units); (case kU => k_updF); (case kb => assumption); (case p1 => first | decide | omega); (case p2 => first | decide | omega); k_whole); intro bs' ks' tb' d' st' t1' t2' n' h' tk' F' N' hb' hks' h2' h20'; (have ht9 := TextIs.mk (ks := ks')); (try dsimp only at N'); (try dsimp only); (try k_fold)))
  k_with "call ref" => ((k_here; (with_reducible show wpAny _ _ (call (Value.ref 226) _ _) _ _ _); k_dflt (refine' make1_use ?k1 ?k2 ?k3 ?k4 ?k5 ?kK ?kd ?ku ?hb ?hl ?l1 ?l2 ?w1 ?w2 ?c1 ?c2 ?_; (case k1 => k_asm); (case k2 => k_asm); (case k3 => k_asm); (case k4 => k_asm); (case k5 => k_asm); (case kK => first | exact rfl | assumption); (case kd => ktr_room); (case ku => ktr_units); (case hb => assumption); (case hl => omega); (case l1 => first | decide | omega); (case l2 => first | decide | omega); (case w1 => first | decide | omega); (case w2 => first | decide | omega); (case c1 => first | decide | omega); (case c2 => first | decide | omega); k_whole); intro x' dx' es' n' tb' h' tk' F' N' hlt' l1 hO'; (have hg' := hO'.g6); (have hU' := upd_two (instObj 226 dx') (dictOf es' n') (by with_reducible assumption) (by first | with_reducible assumption | k_updF | fail) l1 hlt'); (try simp only [AllLt, and_true] at l1); (have hlx' : @LT.lt Nat _ dx' x' := hlt'); (try dsimp only); (try k_fold)))
  k_with "call ref" => ((k_here; (with_reducible show wpAny _ _ (call (Value.ref 274) _ _) _ _ _); k_dflt (refine' make2_use ?k1 ?k2 ?k3 ?k4 ?k5 ?kK ?kd ?ku ?hb ?hl ?l1 ?l2 ?w1 ?w2 ?c1 ?c2 ?_; (case k1 => k_asm); (case k2 => k_asm); (case k3 => k_asm); (case k4 => k_asm); (case k5 => k_asm); (case kK => first | exact rfl | assumption); (case kd => ktr_room); (case ku => ktr_units); (case hb => assumption); (case hl => omega); (case l1 => first | decide | omega); (case l2 => first | decide | omega); (case w1 => first | decide | omega); (case w2 => first | decide | omega); (case c1 => first | decide | omega); (case c2 => first | decide | omega); k_whole); intro x' dx' es' n' tb' h' tk' F' N' hlt' l1 hO'; (have hg' := hO'.g6); (have hU' := upd_two (instObj 274 dx') (dictOf es' n') (by with_reducible assumption) (by first | with_reducible assumption | k_updF | fail) l1 hlt'); (try simp only [AllLt, and_true] at l1); (have hlx' : @LT.lt Nat _ dx' x' := hlt'); (try dsimp only); (try k_fold)))
  k_with "call ref" => ((k_here; (with_reducible show wpAny _ _ (call (Value.ref 307) _ _) _ _ _); k_dflt (refine' make3_use ?k1 ?k2 ?k3 ?k4 ?k5 ?kK ?kd ?ku ?hb ?hl ?w1 ?w2 ?c1 ?c2 ?_; (case k1 => k_asm); (case k2 => k_asm); (case k3 => k_asm); (case k4 => k_asm); (case k5 => k_asm); (case kK => first | exact rfl | assumption); (case kd => ktr_room); (case ku => ktr_units); (case hb => assumption); (case hl => omega); (case w1 => first | decide | omega); (case w2 => first | decide | omega); (case c1 => first | decide | omega); (case c2 => first | decide | omega); k_whole); intro x' dx' es' n' tb' h' tk' F' N' hlt' l1 hO'; (have hg' := hO'.g6); (have hU' := upd_two (instObj 307 dx') (dictOf es' n') (by with_reducible assumption) (by first | with_reducible assumption | k_updF | fail) l1 hlt'); (try simp only [AllLt, and_true] at l1); (have hlx' : @LT.lt Nat _ dx' x' := hlt'); (try dsimp only); (try k_fold)))
  k_with "call ref" => ((k_here; (with_reducible show wpAny _ _ (call (Value.ref 356) _ _) _ _ _); k_dflt (refine' period_pick ?k1 ?k2 ?k3 ?k4 ?k5 ?kK ?kd ?ku ?h3 ?hb ?hl ?hs ?p0 ?w0 ?w1 ?_; (case k1 => k_asm); (case k2 => k_asm); (case k3 => k_asm); (case k4 => k_asm); (case k5 => k_asm); (case kK => first | exact rfl | assumption); (case kd => ktr_room); (case ku => ktr_units); (case h3 => exact Three.of (by with_reducible assumption) (by k_mem) (by k_mem) (by k_mem) (by k_mem) (by k_mem) (by k_mem) (by with_reducible assumption) (by with_reducible assumption) (by with_reducible assumption) (by with_reducible assumption) (by with_reducible assumption) (by with_reducible assumption)); (case hb => with_reducible assumption); (case hl => ((repeat (with_reducible rename _ ∧ _ => hc9; clear hc9)); omega)); (case hs => first | rfl | assumption | ((repeat (with_reducible rename _ ∧ _ => hc9; clear hc9)); omega)); (case p0 => ((repeat (with_reducible rename _ ∧ _ => hc9; clear hc9)); omega)); (case w0 => ((repeat (with_reducible rename _ ∧ _ => hc9; clear hc9)); omega)); (case w1 => ((repeat (with_reducible rename _ ∧ _ => hc9; clear hc9)); omega)); k_whole); intro r' t' h' tk' F' N' hper' hr1' hr2'; (try dsimp only); (try k_fold)))
  k_with "call ref" => ((k_here; (with_reducible show wpAny _ _ (call (Value.ref 349) _ _) _ _ _); k_dflt (refine' local_pick ?k1 ?k2 ?k3 ?k4 ?k5 ?kK ?kd ?ku ?h3 ?hb ?hl ?hs ?p0 ?p1 ?w0 ?w1 ?_; (case k1 => k_asm); (case k2 => k_asm); (case k3 => k_asm); (case k4 => k_asm); (case k5 => k_asm); (case kK => first | exact rfl | assumption); (case kd => ktr_room); (case ku => ktr_units); (case h3 => exact Three.of (by with_reducible assumption) (by k_mem) (by k_mem) (by k_mem) (by k_mem) (by k_mem) (by k_mem) (by with_reducible assumption) (by with_reducible assumption) (by with_reducible assumption) (by with_reducible assumption) (by with_reducible assumption) (by with_reducible assumption)); (case hb => with_reducible assumption); (case hl => ((repeat (with_reducible rename _ ∧ _ => hc9; clear hc9)); omega)); (case hs => first | rfl | assumption | ((repeat (with_reducible rename _ ∧ _ => hc9; clear hc9)); omega)); (case p0 => ((repeat (with_reducible rename _ ∧ _ => hc9; clear hc9)); omega)); (case p1 => ((repeat (with_reducible rename _ ∧ _ => hc9; clear hc9)); omega)); (case w0 => ((repeat (with_reducible rename _ ∧ _ => hc9; clear hc9)); omega)); (case w1 => ((repeat (with_reducible rename _ ∧ _ => hc9; clear hc9)); omega)); k_whole); intro r' t' h' tk' F' N' hloc' hr1' hr2'; (try dsimp only); (try k_fold)))
  k_with "eval IfExp" => ((k_here; (fail_if_success (have hJ9 : JMark := by with_reducible assumption)); k_dflt (refine join_int 9 18 (by k_asm) (by k_asm) ?_ ?_); intro hJ9; rotate_left; (intro k' t' h' tk' hlo' hhi' F' N'); rotate_left; (all_goals (try dsimp only)); (all_goals (try k_fold))))
  k_with "JoinInt" => ((k_here; k_dflt (exact join_el (by decide) (by decide) (by k_asm) (by k_asm))))
  k_with "subscriptTail" => ((k_here; (with_reducible show wpAny _ _ (subscriptTail _ _ (Value.ref _) (Value.int _ _)) _ _ _); k_dflt (refine' pick3 ?N ?m ?z0 ?z1 ?_ ?hs; (case N => k_asm); (case m => k_mem); (case z0 => omega); (case z1 => omega); (case hs => with_unfolding_all rfl); k_whole); intro y' hy'))
  k_with "CompSrc" => ((k_here; (fail_if_success (have hT9 : ToldOk _ _ := by with_reducible assumption)); k_dflt (refine LCg.CompSrc.range (by rfl) (by k_asm) (by k_asm) (by assumption) (by exact small_one (by ((repeat (with_reducible rename _ ∧ _ => hc9; clear hc9)); omega)) (by ((repeat (with_reducible rename _ ∧ _ => hc9; clear hc9)); omega)) (by ((repeat (with_reducible rename _ ∧ _ => hc9; clear hc9)); omega)) (by ((repeat (with_reducible rename _ ∧ _ => hc9; clear hc9)); omega))) (by exact rangeSize_nat _ _) (by rw [PySem.sizeLine_eq]; omega) ?_); intro g'; k_dflt (refine' told_restT (by with_reducible assumption) (by ((repeat (with_reducible rename _ ∧ _ => hc9; clear hc9)); omega)) ?_ ?_); (intro k' t' ys' I' oI' C' oC' D' m' h' tk' E' hlo' hhi' hC' hx' F' N' off' ne'; (try simp only [LCg.Off3, and_true] at off')); rotate_left; (intro ys' is' hi' hT'); rotate_left; (all_goals (try dsimp only)); (all_goals (try k_fold))))
  k_with "call builtin:max" => ((k_here; k_dflt (refine' max_told ?hh ?F ?N ?hm ?hi ?hT ?hp ?h1 ?hk ?_; (case hh => with_unfolding_all rfl); (case F => k_asm); (case N => k_asm); (case hm => k_mem); (case hi => with_reducible assumption); (case hT => with_reducible assumption); (case hp => with_reducible assumption); (case h1 => with_reducible assumption); (case hk => omega); k_whole); intro h' M' t' tk' F' N' hM9'))
  k_with "call type:list" => ((k_here; (with_reducible show wpAny _ _ (call (Value.type _) [Value.bytes _ _]) _ _ _); k_dflt (refine' list_bytes ?hh ?F ?N ?hb ?hl ?_; (case hh => with_unfolding_all rfl); (case F => k_asm); (case N => k_asm); (case hb => with_reducible assumption); (case hl => omega); k_whole); intro D' vs' c' h' tk' F' N' l1 hI'; (try k_lt l1)))
  k_with "binaryOp Add ref ref" => ((k_here; k_dflt (refine' add_told ?F ?N ?m0 ?m1 ?hi ?hl ?_; (case F => k_asm); (case N => k_asm); (case m0 => k_mem); (case m1 => k_mem); (case hi => with_reducible assumption); (case hl => (rename ToldOk _ _ => hT9; have hq9 := hT9.len; omega)); k_whole); intro D' vs' h' F' N' l1 hI'; (have hOm9 := OwnMark.mk); (try k_lt l1)))
  k_with "call ref" => ((k_here; (with_reducible show wpAny _ _ (call (Value.ref 368) _ _) _ _ _); k_dflt (refine' crit_use ?k1 ?k2 ?k3 ?k4 ?k5 ?kK ?kd ?ku ?m0 ?m1 ?hi ?hu ?hp ?h1 ?hpn ?ht ?hl ?p0 ?_; (case k1 => k_asm); (case k2 => k_asm); (case k3 => k_asm); (case k4 => k_asm); (case k5 => k_asm); (case kK => first | exact rfl | assumption); (case kd => ktr_room); (case ku => ktr_units); (case m0 => k_mem); (case m1 => k_mem); (case hi => with_reducible assumption); (case hu => with_reducible assumption); (case hp => first | with_reducible assumption | exact IsPer.rev (by with_reducible assumption)); (case h1 => ((repeat (with_reducible rename _ ∧ _ => hc9; clear hc9)); omega)); (case hpn => first | ((repeat (with_reducible rename _ ∧ _ => hc9; clear hc9)); omega) | (simp only [List.length_reverse]; ((repeat (with_reducible rename _ ∧ _ => hc9; clear hc9)); omega))); (case ht => first | with_reducible assumption | exact ToldOk.rev (by with_reducible assumption)); (case hl => first | ((repeat (with_reducible rename _ ∧ _ => hc9; clear hc9)); omega) | (simp only [List.length_reverse]; ((repeat (with_reducible rename _ ∧ _ => hc9; clear hc9)); omega))); (case p0 => first | ((repeat (with_reducible rename _ ∧ _ => hc9; clear hc9)); omega) | (simp only [List.length_reverse]; ((repeat (with_reducible rename _ ∧ _ => hc9; clear hc9)); omega))); k_whole); intro h' tk' F' N'; (try dsimp only); (try k_fold)))
  k_with "call ref" => ((k_here; (with_reducible show wpAny _ _ (call (Value.ref 375) _ _) _ _ _); k_dflt (refine' own_use ?k1 ?k2 ?k3 ?k4 ?k5 ?kK ?kd ?ku ?hb ?hl ?p0 ?p1 ?pw ?_; (case k1 => k_asm); (case k2 => k_asm); (case k3 => k_asm); (case k4 => k_asm); (case k5 => k_asm); (case kK => first | exact rfl | assumption); (case kd => ktr_room); (case ku => ktr_units); (case hb => with_reducible assumption); (case hl => ((repeat (with_reducible rename _ ∧ _ => hc9; clear hc9)); omega)); (case p0 => ((repeat (with_reducible rename _ ∧ _ => hc9; clear hc9)); omega)); (case p1 => ((repeat (with_reducible rename _ ∧ _ => hc9; clear hc9)); omega)); (case pw => intro e9; first | exact of_decide_eq_true e9 | simpa using e9); k_whole); intro r' t' h' tk' F' N' hown' hr1'; (try dsimp only); (try k_fold)))
  k_with "CompSrc" => ((k_here; (have hT9 : OwnMark := by with_reducible assumption); k_dflt (refine LCg.CompSrc.range (by rfl) (by k_asm) (by k_asm) (by assumption) (by exact small_one (by ((repeat (with_reducible rename _ ∧ _ => hc9; clear hc9)); omega)) (by ((repeat (with_reducible rename _ ∧ _ => hc9; clear hc9)); omega)) (by ((repeat (with_reducible rename _ ∧ _ => hc9; clear hc9)); omega)) (by ((repeat (with_reducible rename _ ∧ _ => hc9; clear hc9)); omega))) (by exact rangeSize_nat _ _) (by rw [PySem.sizeLine_eq]; omega) ?_); intro g'; k_dflt (refine' own_restT (by with_reducible assumption) (by ((repeat (with_reducible rename _ ∧ _ => hc9; clear hc9)); omega)) ?_ ?_); (intro k' t' ys' I' oI' C' oC' D' m' h' tk' E' hlo' hhi' hC' hx' F' N' off' ne'; (try simp only [LCg.Off3, and_true] at off')); rotate_left; (intro ys' is' hi' hO9'); rotate_left; (all_goals (try dsimp only)); (all_goals (try k_fold))))
  k_with "subscriptTail Call Name cons nil Slice ref ref" => ((k_here; k_dflt (refine kba_turn (value' := PySem.Expr.Name (PySem.Str.ofString "_") ⟨0, 0, 0, 0⟩) (fun _ => rfl) ?_)))
  k_with "subscriptTail Name Slice ref ref" => ((k_here; k_dflt (first | (refine' rev_list ?hk ?F ?N ?hm ?hi ?hl ?_ ?hs ?ht; (case hk => rfl); (case F => k_asm); (case N => k_asm); (case hm => k_mem); (case hi => with_reducible assumption); (case hl => ((repeat (with_reducible rename _ ∧ _ => hc9; clear hc9)); (rename ToldOk _ _ => hT9); (have hq9 := hT9.len); omega)); (case hs => with_unfolding_all rfl); (case ht => kmk_pure)) | (refine' rev_list (s := ⟨_, _, _, _, _⟩) ?hk ?F ?N ?hm ?hi ?hl ?_ ?hs ?ht; (case hk => rfl); (case F => k_asm); (case N => k_asm); (case hm => k_mem); (case hi => with_reducible assumption); (case hl => ((repeat (with_reducible rename _ ∧ _ => hc9; clear hc9)); (rename ToldOk _ _ => hT9); (have hq9 := hT9.len); omega)); (case hs => with_unfolding_all rfl); (case ht => kmk_pure))); intro D' ws' h' F' N' l1 hI'; (try k_lt l1)))
  k_with "CompEnd" => (((with_reducible show LCg.CompEnd _ _ _ _ _ _ _ _ _ _ _ (ToldP _ _ _) (Value.int _ _) _); k_dflt (refine' told_end ?kF ?kN ?ksub ?koff ?kS ?h1 ?h2 ?hr; (case kF => assumption); (case kN => assumption); (case ksub => (try dsimp only); kcf_all); (case koff => first | assumption | ((simp only [LCg.Off3, and_true]); assumption)); (case kS => first | exact trivial | (intro; trivial)); (case h1 => with_reducible assumption); (case h2 => with_reducible assumption); (case hr => with_reducible assumption))))
  k_with "CompEnd" => (((with_reducible show LCg.CompEnd _ _ _ _ _ _ _ _ _ _ _ (OwnP _ _ _) (Value.int _ _) _); k_dflt (refine' own_end ?kF ?kN ?ksub ?koff ?kS ?h1 ?hr ?hw; (case kF => assumption); (case kN => assumption); (case ksub => (try dsimp only); kcf_all); (case koff => first | assumption | ((simp only [LCg.Off3, and_true]); assumption)); (case kS => first | exact trivial | (intro; trivial)); (case h1 => with_reducible assumption); (case hr => with_reducible assumption); (case hw => first | rfl | (congr 1; omega) | (simp; omega)))))
  k_with "eval Name" => ((k_here; (have hOm9 : OwnMark := by with_reducible assumption); name_kind "cell"; k_dflt (refine nameX_C (by k_asm) (by rfl) (by k_mem) (by with_reducible assumption) ?_ (by rfl) (by rfl))))
  k_with "eval Name" => ((k_here; (have hOm9 : OwnMark := by with_reducible assumption); name_kind "globalImplicit"; k_dflt (refine nameX_K (by k_asm) (by k_asm) (by k_asm) (by k_is) ?_ (by rfl) (by rfl))))
  k_with "eval Name" => ((k_here; (have hOm9 : OwnMark := by with_reducible assumption); name_kind "globalImplicit"; name_is_builtin; k_dflt (refine nameX_B (by k_asm) (by k_asm) (by k_asm) (by k_is) (by boot_fast) (by decide) ?_ (by rfl) (by rfl))))
  k_with "eval ListComp" => ((k_here; (have hOm9 : OwnMark := by with_reducible assumption); k_dflt (refine LCg.ListComp_U (F₀ := by k_asm) (by with_unfolding_all rfl) (by decide) (by rfl) (by decide) (by rfl) ?_)))
  k_with "compareOp Eq ref ref" => ((k_here; (have hOm9 : OwnMark := by with_reducible assumption); k_dflt (refine' eq_own ?N ?hd ?hl ?hi ?hj ?ht ?hp ?h1 ?ho ?hk ?hu ?_; (case N => k_asm); (case hd => k_mem); (case hl => k_mem); (case hi => with_reducible assumption); (case hj => with_reducible assumption); (case ht => with_reducible assumption); (case hp => with_reducible assumption); (case h1 => with_reducible assumption); (case ho => with_reducible assumption); (case hk => ((repeat (with_reducible rename _ ∧ _ => hc9; clear hc9)); omega)); (case hu => ke_room))))
  trivial
set_option maxRecDepth 100000 in
set_option maxHeartbeats 16000000 in
theorem law_holds : PySem.Challenge.rw_tg0038_02.Holds := hd (by
  w_top off
  k_go0
  all_goals try k_fold
  rename World => ww
  have c1 := Hint.out (cls226_raw ww)
  have c2 := Hint.out (cls274_raw ww)
  have c3 := Hint.out (cls307_raw ww)
  k_steps)
end Mine
theorem PySem.Challenge.cw_tg0038_02_holds : PySem.Challenge.rw_tg0038_02.Holds :=
  Mine.law_holds
